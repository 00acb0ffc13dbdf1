import PyProof.Rows.All
import Wide.All
import OpenK.AllK
import Wide.FinOn
import HandS.ForMost
import HandS.ForExc
import HandS.Evl
import HandS.Wide
import HandS.IsInst
import HandS.Style
import HandS.TupAny
import HandS.Text
import HandS.Deep
import HandS.Defaults
import HandS.Steps
import HandS.HeadHook1
import HandS.HeadHook2
import PySem.Challenge.RW_pactguild_k24_records_of_journals
import HandS.Head0
import HandS.Head1
import HandS.Head2
import HandS.HeadEnd
import HandS.HeadHook3
import HandS.HeadHook4
set_option Elab.async false
set_option linter.all false
set_option maxRecDepth 100000
set_option maxHeartbeats 4000000
/-! Layer Z, part A: deep data, owned objects, the ghost G, what a state stands for. -/
namespace Z
open PySem PySem.Spec PyProof.Rows L2 Evl
abbrev D := PyData
/-- an abstract value: deep data | the k-th owned object | a list, a tuple of the outside -/
inductive SV where
  | d (x : D) | o (k : Nat) | xl (xs : List D) | xt (xs : List D)
/-- an owned object -/
inductive MO where
  | lst (xs : List SV) | dK (kvs : List (Key × SV)) | dT (kvs : List (List Key × SV)) | dead
  /-- a dict while it is walked, and what stands there -/
  | lK (kvs : List (Key × SV)) (o : HO) | lT (kvs : List (List Key × SV)) (o : HO)
abbrev SL := List (Option SV)
abbrev ME := List MO
/-- the ghost: what never changes any more; where the owned objects stand -/
structure G where
  F : Hp
  as : List Addr
def Le (g g' : G) : Prop := Ex g.F g'.F ∧ ∃ l, g'.as = g.as ++ l
theorem Le.refl (g : G) : Le g g := ⟨Ex.refl _, [], by simp⟩
theorem Le.trans {a b c : G} (h : Le a b) (k : Le b c) : Le a c := by
  obtain ⟨e1, l1, q1⟩ := h
  obtain ⟨e2, l2, q2⟩ := k
  exact ⟨e1.trans e2, l1 ++ l2, by rw [q2, q1, List.append_assoc]⟩
theorem Le.at {g g' : G} (h : Le g g') {k : Nat} {a : Addr} (e : g.as[k]? = some a) : g'.as[k]? = some a := by
  obtain ⟨_, l, q⟩ := h
  rw [q, List.getElem?_append_left (List.getElem?_eq_some_iff.mp e).1]
  exact e
mutual
inductive RD (F : Hp) : V → D → Prop
  | non : RD F .non .none
  | bl (b : Bool) : RD F (.bl b) (.bool b)
  | int (i : Int) : RD F (.int i) (.int i)
  | str (x : Str) : RD F (.str x) (.str x)
  | lst {a : Addr} {vs : List V} {ds : List D} : F a = some (.lst vs) → RDs F vs ds → RD F (.ref a) (.list ds)
  | tup {a : Addr} {vs : List V} {ds : List D} : F a = some (.tup vs) → RDs F vs ds → RD F (.ref a) (.tuple ds)
inductive RDs (F : Hp) : List V → List D → Prop
  | nil : RDs F [] []
  | cons {v : V} {vs : List V} {d : D} {ds : List D} : RD F v d → RDs F vs ds → RDs F (v :: vs) (d :: ds)
end
mutual
theorem RD.mono {F F' : Hp} (e : Ex F F') : ∀ {v : V} {d : D}, RD F v d → RD F' v d
  | _, _, .non => .non
  | _, _, .bl b => .bl b
  | _, _, .int i => .int i
  | _, _, .str x => .str x
  | _, _, .lst h r => .lst (e _ _ h) (RDs.mono e r)
  | _, _, .tup h r => .tup (e _ _ h) (RDs.mono e r)
theorem RDs.mono {F F' : Hp} (e : Ex F F') : ∀ {vs : List V} {ds : List D}, RDs F vs ds → RDs F' vs ds
  | _, _, .nil => .nil
  | _, _, .cons h r => .cons (RD.mono e h) (RDs.mono e r)
end
mutual
theorem RD.dp {K : PySem.W.Frag} {F : Hp} : ∀ {v : V} {d : D}, RD F v d → Dp K F v d
  | _, _, .non => .non
  | _, _, .bl b => .bl b
  | _, _, .int i => .int i
  | _, _, .str x => .str x
  | _, _, .lst h r => .lst (SqL.of h) (RDs.dp r)
  | _, _, .tup h r => .tup (SqT.of h) (RDs.dp r)
theorem RDs.dp {K : PySem.W.Frag} {F : Hp} : ∀ {vs : List V} {ds : List D}, RDs F vs ds → DpAll K F vs ds
  | _, _, .nil => .nil
  | _, _, .cons h r => .cons (RD.dp h) (RDs.dp r)
end
theorem RDs.length {F : Hp} : ∀ {vs : List V} {ds : List D}, RDs F vs ds → vs.length = ds.length
  | _, _, .nil => rfl
  | _, _, .cons _ r => by rw [List.length_cons, List.length_cons, RDs.length r]
def RSV (K : PySem.W.Frag) (g : G) (v : V) : SV → Prop
  | .d x => RD g.F v x
  | .o k => ∃ a, g.as[k]? = some a ∧ v = .ref a
  | .xl ds => ∃ a vs, v = .ref a ∧ SqL K g.F a vs ∧ RDs g.F vs ds
  | .xt ds => ∃ a vs, v = .ref a ∧ SqT K g.F a vs ∧ RDs g.F vs ds
abbrev RSs (K : PySem.W.Frag) (g : G) : List V → List SV → Prop := Paired (RSV K g)
theorem RSV.mono {K : PySem.W.Frag} {g g' : G} (e : Le g g') {v : V} {s : SV} (h : RSV K g v s) : RSV K g' v s := by
  cases s with
  | d x => exact RD.mono e.1 h
  | o k => obtain ⟨a, h1, h2⟩ := h; exact ⟨a, e.at h1, h2⟩
  | xl ds => obtain ⟨a, vs, h1, h2, h3⟩ := h; exact ⟨a, vs, h1, ex_l e.1 h2, h3.mono e.1⟩
  | xt ds => obtain ⟨a, vs, h1, h2, h3⟩ := h; exact ⟨a, vs, h1, ex_t e.1 h2, h3.mono e.1⟩
theorem RSs.mono {K : PySem.W.Frag} {g g' : G} (e : Le g g') {vs : List V} {ss : List SV} (h : RSs K g vs ss) : RSs K g' vs ss := Paired.mapP h fun _ _ z => z.mono e
theorem RDs.rs {K : PySem.W.Frag} {g : G} : ∀ {vs : List V} {ds : List D}, RDs g.F vs ds → RSs K g vs (ds.map SV.d)
  | _, _, .nil => .nil
  | _, _, .cons h r => .cons h (RDs.rs r)
theorem RSs.rd {K : PySem.W.Frag} {g : G} : ∀ {ds : List D} {vs : List V}, RSs K g vs (ds.map SV.d) → RDs g.F vs ds
  | [], _, .nil => .nil
  | _ :: _, _, .cons h r => .cons h (RSs.rd r)
theorem Paired.get {α β : Type} {R : α → β → Prop} : ∀ {xs : List α} {ys : List β} {i : Nat} {y : β}, Paired R xs ys → ys[i]? = some y → ∃ x, xs[i]? = some x ∧ R x y
  | _, _, _, _, .nil, h => by simp at h
  | _, _, 0, _, .cons r _, h => by simp at h; subst h; exact ⟨_, rfl, r⟩
  | _, _, i + 1, _, .cons _ t, h => by
    obtain ⟨x, h1, h2⟩ := Paired.get (i := i) t (by simpa using h)
    exact ⟨x, by simpa using h1, h2⟩
theorem Paired.get' {α β : Type} {R : α → β → Prop} : ∀ {xs : List α} {ys : List β} {i : Nat} {x : α}, Paired R xs ys → xs[i]? = some x → ∃ y, ys[i]? = some y ∧ R x y
  | _, _, _, _, .nil, h => by simp at h
  | _, _, 0, _, .cons r _, h => by simp at h; subst h; exact ⟨_, rfl, r⟩
  | _, _, i + 1, _, .cons _ t, h => by
    obtain ⟨x, h1, h2⟩ := Paired.get' (i := i) t (by simpa using h)
    exact ⟨x, by simpa using h1, h2⟩
theorem Paired.app {α β : Type} {R : α → β → Prop} : ∀ {xs : List α} {ys : List β} {xs' : List α} {ys' : List β}, Paired R xs ys → Paired R xs' ys' → Paired R (xs ++ xs') (ys ++ ys')
  | _, _, _, _, .nil, s => s
  | _, _, _, _, .cons r t, s => .cons r (Paired.app t s)
theorem Paired.set {α β : Type} {R : α → β → Prop} {x : α} {y : β} (q : R x y) : ∀ {xs : List α} {ys : List β} (i : Nat), Paired R xs ys → Paired R (xs.set i x) (ys.set i y)
  | _, _, _, .nil => .nil
  | _, _, 0, .cons r t => .cons q t
  | _, _, i + 1, .cons r t => .cons r (Paired.set q i t)
theorem Paired.take {α β : Type} {R : α → β → Prop} : ∀ {xs : List α} {ys : List β} (n : Nat), Paired R xs ys → Paired R (xs.take n) (ys.take n)
  | _, _, 0, _ => .nil
  | _, _, _ + 1, .nil => .nil
  | _, _, n + 1, .cons r t => .cons r (Paired.take n t)
theorem Paired.drop {α β : Type} {R : α → β → Prop} : ∀ {xs : List α} {ys : List β} (n : Nat), Paired R xs ys → Paired R (xs.drop n) (ys.drop n)
  | _, _, 0, h => h
  | _, _, _ + 1, .nil => .nil
  | _, _, n + 1, .cons r t => Paired.drop n t
theorem Paired.rev {α β : Type} {R : α → β → Prop} : ∀ {xs : List α} {ys : List β}, Paired R xs ys → Paired R xs.reverse ys.reverse
  | _, _, .nil => .nil
  | _, _, .cons r t => by
    rw [List.reverse_cons, List.reverse_cons]
    exact Paired.app (Paired.rev t) (.cons r .nil)
abbrev RKV (κ : Type) (K : PySem.W.Frag) (g : G) : List (κ × V) → List (κ × SV) → Prop := Paired fun p q => p.1 = q.1 ∧ RSV K g p.2 q.2
/-- what stands for an owned object -/
def RO (K : PySem.W.Frag) (g : G) : MO → HO → Prop
  | .lst xs, .lst vs => RSs K g vs xs
  | .dK kvs, .dK kws => RKV Key K g kws kvs
  | .dT kvs, .dT kws => RKV (List Key) K g kws kvs
  | .lK kvs o', o => o = o' ∧ ∃ od kws, o' = .frz od (.dK kws) ∧ RKV Key K g kws kvs
  | .lT kvs o', o => o = o' ∧ ∃ od kws, o' = .frz od (.dT kws) ∧ RKV (List Key) K g kws kvs
  | _, _ => False
theorem RO.mono {K : PySem.W.Frag} {g g' : G} (e : Le g g') {m : MO} {o : HO} (h : RO K g m o) : RO K g' m o := by
  cases m with
  | dead => cases o <;> exact h.elim
  | lst xs => cases o <;> first | exact (RSs.mono e h) | exact h.elim
  | dK kvs => cases o <;> first | exact (Paired.mapP h fun _ _ z => ⟨z.1, z.2.mono e⟩) | exact h.elim
  | dT kvs => cases o <;> first | exact (Paired.mapP h fun _ _ z => ⟨z.1, z.2.mono e⟩) | exact h.elim
  | lK kvs o' =>
    have h' : o = o' ∧ ∃ od kws, o' = .frz od (.dK kws) ∧ RKV Key K g kws kvs := by cases o <;> exact h
    obtain ⟨e1, od, kws, e2, r⟩ := h'
    have q : o = o' ∧ ∃ od kws, o' = .frz od (.dK kws) ∧ RKV Key K g' kws kvs := ⟨e1, od, kws, e2, Paired.mapP r fun _ _ z => ⟨z.1, z.2.mono e⟩⟩
    cases o <;> exact q
  | lT kvs o' =>
    have h' : o = o' ∧ ∃ od kws, o' = .frz od (.dT kws) ∧ RKV (List Key) K g kws kvs := by cases o <;> exact h
    obtain ⟨e1, od, kws, e2, r⟩ := h'
    have q : o = o' ∧ ∃ od kws, o' = .frz od (.dT kws) ∧ RKV (List Key) K g' kws kvs := ⟨e1, od, kws, e2, Paired.mapP r fun _ _ z => ⟨z.1, z.2.mono e⟩⟩
    cases o <;> exact q
theorem RO.lK {K : PySem.W.Frag} {g : G} {kvs : List (Key × SV)} {o o' : HO} : RO K g (.lK kvs o') o ↔ (o = o' ∧ ∃ od kws, o' = .frz od (.dK kws) ∧ RKV Key K g kws kvs) := by cases o <;> exact Iff.rfl
theorem RO.lT {K : PySem.W.Frag} {g : G} {kvs : List (List Key × SV)} {o o' : HO} : RO K g (.lT kvs o') o ↔ (o = o' ∧ ∃ od kws, o' = .frz od (.dT kws) ∧ RKV (List Key) K g kws kvs) := by cases o <;> exact Iff.rfl
def MO.live : MO → Bool
  | .dead => false
  | _ => true
/-- what neither the ghost nor the owned objects know stays, and stays unknown -/
def Out (g : G) (H : Hp) (g' : G) (H' : Hp) : Prop := ∀ a, H a ≠ none → g.F a = none → a ∉ g.as → H' a = H a ∧ g'.F a = none ∧ a ∉ g'.as
theorem Out.refl (g : G) (H : Hp) : Out g H g H := fun _ _ h2 h3 => ⟨rfl, h2, h3⟩
theorem Out.trans {g1 g2 g3 : G} {H1 H2 H3 : Hp} (a : Out g1 H1 g2 H2) (b : Out g2 H2 g3 H3) : Out g1 H1 g3 H3 := fun x h1 h2 h3 => by
  obtain ⟨q1, q2, q3⟩ := a x h1 h2 h3
  obtain ⟨r1, r2, r3⟩ := b x (by rw [q1]; exact h1) q2 q3
  exact ⟨r1.trans q1, r2, r3⟩
structure MemOk (K : PySem.W.Frag) (g : G) (ms : ME) (H : Hp) : Prop where
  ex : Ex g.F H
  len : g.as.length = ms.length
  nd : g.as.Nodup
  tr : ∀ a ∈ g.as, H a ≠ none
  ob : ∀ (k : Nat) mo a, ms[k]? = some mo → g.as[k]? = some a → mo.live = true → g.F a = none ∧ ∃ o, H a = some o ∧ RO K g mo o
def SlotsOk (K : PySem.W.Frag) (g : G) (dl : SL) (σ : L2.St) : Prop := σ.length = dl.length ∧ ∀ (i : Nat) sv, dl[i]? = some (some sv) → ∃ v, σ[i]? = some (some v) ∧ RSV K g v sv
theorem SlotsOk.mono {K : PySem.W.Frag} {g g' : G} (e : Le g g') {dl : SL} {σ : L2.St} (h : SlotsOk K g dl σ) : SlotsOk K g' dl σ :=
  ⟨h.1, fun i sv q => let ⟨v, h1, h2⟩ := h.2 i sv q; ⟨v, h1, h2.mono e⟩⟩
theorem SlotsOk.set {K : PySem.W.Frag} {g : G} {dl : SL} {σ : L2.St} (h : SlotsOk K g dl σ) {i : Nat} {v : V} {s : SV} (r : RSV K g v s) : SlotsOk K g (dl.set i (some s)) (σ.set i (some v)) := by
  refine ⟨by rw [List.length_set, List.length_set, h.1], fun j sv q => ?_⟩
  by_cases e : j = i
  · subst e
    have hl : j < dl.length := by
      have := (List.getElem?_eq_some_iff.mp q).1
      rwa [List.length_set] at this
    rw [List.getElem?_set_self hl] at q
    cases q
    exact ⟨v, List.getElem?_set_self (by rw [h.1]; exact hl), r⟩
  · rw [List.getElem?_set_ne (Ne.symm e)] at q
    obtain ⟨w, h1, h2⟩ := h.2 j sv q
    exact ⟨w, by rw [List.getElem?_set_ne (Ne.symm e)]; exact h1, h2⟩
theorem SlotsOk.setN {K : PySem.W.Frag} {g : G} {dl : SL} {σ : L2.St} (h : SlotsOk K g dl σ) {i : Nat} : SlotsOk K g (dl.set i none) (σ.set i none) := by
  refine ⟨by rw [List.length_set, List.length_set, h.1], fun j sv q => ?_⟩
  by_cases e : j = i
  · subst e
    have hl : j < dl.length := by
      have := (List.getElem?_eq_some_iff.mp q).1
      rwa [List.length_set] at this
    rw [List.getElem?_set_self hl] at q
    cases q
  · rw [List.getElem?_set_ne (Ne.symm e)] at q
    obtain ⟨w, h1, h2⟩ := h.2 j sv q
    exact ⟨w, by rw [List.getElem?_set_ne (Ne.symm e)]; exact h1, h2⟩
/-- forgetting a slot -/
theorem SlotsOk.forget {K : PySem.W.Frag} {g : G} {dl : SL} {σ : L2.St} (h : SlotsOk K g dl σ) {i : Nat} : SlotsOk K g (dl.set i none) σ := by
  refine ⟨by rw [List.length_set, h.1], fun j sv q => ?_⟩
  by_cases e : j = i
  · subst e
    have hl : j < dl.length := by
      have := (List.getElem?_eq_some_iff.mp q).1
      rwa [List.length_set] at this
    rw [List.getElem?_set_self hl] at q
    cases q
  · rw [List.getElem?_set_ne (Ne.symm e)] at q
    exact h.2 j sv q
section
variable {K : PySem.W.Frag} {g : G} {ms : ME} {H : Hp}
theorem MemOk.of_as (m : MemOk K g ms H) {k : Nat} {mo : MO} (h : ms[k]? = some mo) : ∃ a, g.as[k]? = some a := by
  have := (List.getElem?_eq_some_iff.mp h).1
  exact ⟨g.as[k]'(by rw [m.len]; exact this), List.getElem?_eq_getElem _⟩
/-- a new thing that never changes -/
def frzG (g : G) (p : Addr) (o : HO) : G := ⟨upd g.F p o, g.as⟩
theorem le_frz (g : G) {p : Addr} {o : HO} (h : g.F p = none) : Le g (frzG g p o) := ⟨Ex.new h, [], by simp [frzG]⟩
theorem MemOk.fnone (m : MemOk K g ms H) {p : Addr} (h : H p = none) : g.F p = none := fresh_back m.ex h
theorem MemOk.nas (m : MemOk K g ms H) {p : Addr} (h : H p = none) : p ∉ g.as := fun z => m.tr p z h
theorem ex_upd {F H : Hp} {p : Addr} {o : HO} (e : Ex F H) : Ex (upd F p o) (upd H p o) := fun a u q => by
  by_cases h : a = p
  · subst h; rw [upd_same] at q ⊢; exact q
  · rw [upd_ne h] at q ⊢; exact e a u q
theorem MemOk.newF (m : MemOk K g ms H) {p : Addr} {o : HO} (h : H p = none) : Le g (frzG g p o) ∧ MemOk K (frzG g p o) ms (upd H p o) := by
  have le := le_frz g (o := o) (m.fnone h)
  refine ⟨le, ex_upd m.ex, m.len, m.nd, fun a ha => ?_, fun k mo a h1 h2 h3 => ?_⟩
  · have ne : a ≠ p := fun z => m.nas h (z ▸ ha)
    rw [upd_ne ne]
    exact m.tr a ha
  · have ne : a ≠ p := fun z => m.nas h (z ▸ List.mem_of_getElem? h2)
    obtain ⟨q1, o', q2, q3⟩ := m.ob k mo a h1 h2 h3
    exact ⟨by show upd g.F p o a = none; rw [upd_ne ne]; exact q1, o', by rw [upd_ne ne]; exact q2, q3.mono le⟩
/-- a new owned object -/
def ownG (g : G) (p : Addr) : G := ⟨g.F, g.as ++ [p]⟩
theorem le_own (g : G) (p : Addr) : Le g (ownG g p) := ⟨Ex.refl _, [p], rfl⟩
theorem MemOk.newO (m : MemOk K g ms H) {p : Addr} {mo : MO} {o : HO} (h : H p = none) (r : RO K g mo o) : MemOk K (ownG g p) (ms ++ [mo]) (upd H p o) := by
  have le := le_own g p
  refine ⟨fun a u e => ?_, by simp [ownG, m.len], ?_, fun a ha => ?_, fun k mo' a h1 h2 h3 => ?_⟩
  · have ne : a ≠ p := ne_of_none (m.ex a u e) h
    rw [upd_ne ne]
    exact m.ex a u e
  · show (g.as ++ [p]).Nodup
    rw [List.nodup_append]
    refine ⟨m.nd, by simp, fun a ha b hb => ?_⟩
    have : b = p := by simpa using hb
    subst this
    exact fun z => m.nas h (z ▸ ha)
  · by_cases e : a = p
    · rw [e, upd_same]; intro z; cases z
    · rw [upd_ne e]
      have : a ∈ g.as ++ [p] := ha
      rcases List.mem_append.mp this with q | q
      · exact m.tr a q
      · exact absurd (by simpa using q) e
  · have h2' : (g.as ++ [p])[k]? = some a := h2
    by_cases hk : k < ms.length
    · rw [List.getElem?_append_left hk] at h1
      rw [List.getElem?_append_left (by rw [m.len]; exact hk)] at h2'
      have ne : a ≠ p := fun z => m.nas h (z ▸ List.mem_of_getElem? h2')
      obtain ⟨q1, o', q2, q3⟩ := m.ob k mo' a h1 h2' h3
      exact ⟨q1, o', by rw [upd_ne ne]; exact q2, q3.mono le⟩
    · have ek : k = ms.length := by
        have := (List.getElem?_eq_some_iff.mp h1).1
        simp at this
        omega
      subst ek
      rw [List.getElem?_append_right (Nat.le_refl _)] at h1
      rw [List.getElem?_append_right (by rw [m.len]; exact Nat.le_refl _)] at h2'
      simp at h1
      simp [m.len] at h2'
      subst h1 h2'
      exact ⟨m.fnone h, o, upd_same, r.mono le⟩
/-- an owned object is changed -/
theorem MemOk.write (m : MemOk K g ms H) {k : Nat} {mo mo' : MO} {a : Addr} {o' : HO} (h1 : ms[k]? = some mo) (hl : mo.live = true) (h2 : g.as[k]? = some a) (r : RO K g mo' o') : MemOk K g (ms.set k mo') (upd H a o') := by
  obtain ⟨f0, o, e, _⟩ := m.ob k mo a h1 h2 hl
  have hk := (List.getElem?_eq_some_iff.mp h1).1
  refine ⟨Ex.mut m.ex f0, by rw [List.length_set, m.len], m.nd, fun b hb => ?_, fun j mo2 b q1 q2 q3 => ?_⟩
  · by_cases eb : b = a
    · rw [eb, upd_same]; intro z; cases z
    · rw [upd_ne eb]; exact m.tr b hb
  · by_cases ej : j = k
    · subst ej
      rw [h2] at q2
      cases q2
      rw [List.getElem?_set_self hk] at q1
      cases q1
      exact ⟨f0, o', upd_same, r⟩
    · rw [List.getElem?_set_ne (Ne.symm ej)] at q1
      have ne : b ≠ a := fun z => by
        subst z
        obtain ⟨l1, e1⟩ := List.getElem?_eq_some_iff.mp h2
        obtain ⟨l2, e2⟩ := List.getElem?_eq_some_iff.mp q2
        exact ej ((List.getElem_inj m.nd).mp (e2.trans e1.symm))
      obtain ⟨z1, o2, z2, z3⟩ := m.ob j mo2 b q1 q2 q3
      exact ⟨z1, o2, by rw [upd_ne ne]; exact z2, z3⟩
/-- an owned list of data changes no more -/
theorem MemOk.freeze (m : MemOk K g ms H) {k : Nat} {ds : List D} (h1 : ms[k]? = some (.lst (ds.map SV.d))) : ∃ a vs, g.as[k]? = some a ∧ Le g (frzG g a (.lst vs)) ∧ MemOk K (frzG g a (.lst vs)) (ms.set k .dead) H ∧ RD (frzG g a (.lst vs)).F (.ref a) (.list ds) := by
  obtain ⟨a, h2⟩ := m.of_as h1
  obtain ⟨f0, o, e, r⟩ := m.ob k _ a h1 h2 rfl
  have hk := (List.getElem?_eq_some_iff.mp h1).1
  cases o with
  | lst vs =>
    have le := le_frz g (o := .lst vs) f0
    have rv : RDs g.F vs ds := RSs.rd (K := K) r
    refine ⟨a, vs, h2, le, ⟨fun b u q => ?_, by rw [List.length_set]; exact m.len, m.nd, m.tr, fun j mo2 b q1 q2 q3 => ?_⟩, .lst upd_same (rv.mono le.1)⟩
    · by_cases eb : b = a
      · subst eb
        have q' : upd g.F b (.lst vs) b = some u := q
        rw [upd_same] at q'
        rw [← q']; exact e
      · have q' : upd g.F a (.lst vs) b = some u := q
        rw [upd_ne eb] at q'
        exact m.ex b u q'
    · by_cases ej : j = k
      · subst ej
        rw [List.getElem?_set_self hk] at q1
        cases q1
        cases q3
      · rw [List.getElem?_set_ne (Ne.symm ej)] at q1
        have ne : b ≠ a := fun z => by
          subst z
          obtain ⟨l1, e1⟩ := List.getElem?_eq_some_iff.mp h2
          obtain ⟨l2, e2⟩ := List.getElem?_eq_some_iff.mp q2
          exact ej ((List.getElem_inj m.nd).mp (e2.trans e1.symm))
        obtain ⟨z1, o2, z2, z3⟩ := m.ob j mo2 b q1 q2 q3
        exact ⟨by show upd g.F a (.lst vs) b = none; rw [upd_ne ne]; exact z1, o2, z2, z3.mono le⟩
  | _ => exact r.elim
end
/-- later: the ghost has grown, the memory is held, nothing else was touched -/
structure Nx (K : PySem.W.Frag) (g : G) (H : Hp) (ms' : ME) (g' : G) (H' : Hp) : Prop where
  le : Le g g'
  mem : MemOk K g' ms' H'
  out : Out g H g' H'
theorem MemOk.nx {K : PySem.W.Frag} {g : G} {ms : ME} {H : Hp} (m : MemOk K g ms H) : Nx K g H ms g H := ⟨Le.refl g, m, Out.refl g H⟩
theorem Nx.trans {K : PySem.W.Frag} {g1 g2 g3 : G} {H1 H2 H3 : Hp} {ms2 ms3 : ME} (a : Nx K g1 H1 ms2 g2 H2) (b : Nx K g2 H2 ms3 g3 H3) : Nx K g1 H1 ms3 g3 H3 := ⟨a.le.trans b.le, b.mem, a.out.trans b.out⟩
section
variable {K : PySem.W.Frag} {g : G} {ms : ME} {H : Hp}
theorem MemOk.nxF (m : MemOk K g ms H) {p : Addr} {o : HO} (h : H p = none) : Nx K g H ms (frzG g p o) (upd H p o) := by
  obtain ⟨le, m'⟩ := m.newF (o := o) h
  refine ⟨le, m', fun a h1 h2 h3 => ?_⟩
  have ne : a ≠ p := fun z => h1 (z ▸ h)
  exact ⟨upd_ne ne, by show upd g.F p o a = none; rw [upd_ne ne]; exact h2, h3⟩
theorem MemOk.nxO (m : MemOk K g ms H) {p : Addr} {mo : MO} {o : HO} (h : H p = none) (r : RO K g mo o) : Nx K g H (ms ++ [mo]) (ownG g p) (upd H p o) := by
  refine ⟨le_own g p, m.newO h r, fun a h1 h2 h3 => ?_⟩
  have ne : a ≠ p := fun z => h1 (z ▸ h)
  exact ⟨upd_ne ne, h2, fun z => (List.mem_append.mp (show a ∈ g.as ++ [p] from z)).elim h3 fun q => ne (by simpa using q)⟩
theorem MemOk.nxW (m : MemOk K g ms H) {k : Nat} {mo mo' : MO} {a : Addr} {o' : HO} (h1 : ms[k]? = some mo) (hl : mo.live = true) (h2 : g.as[k]? = some a) (r : RO K g mo' o') : Nx K g H (ms.set k mo') g (upd H a o') :=
  ⟨Le.refl g, m.write h1 hl h2 r, fun b q1 q2 q3 => ⟨upd_ne fun z => q3 (z ▸ List.mem_of_getElem? h2), q2, q3⟩⟩
theorem MemOk.nxZ (m : MemOk K g ms H) {k : Nat} {ds : List D} (h1 : ms[k]? = some (.lst (ds.map SV.d))) : ∃ a g', g.as[k]? = some a ∧ Nx K g H (ms.set k .dead) g' H ∧ RD g'.F (.ref a) (.list ds) := by
  obtain ⟨a, vs, e, le, m', r⟩ := m.freeze h1
  refine ⟨a, _, e, ⟨le, m', fun b q1 q2 q3 => ⟨rfl, ?_, q3⟩⟩, r⟩
  have ne : b ≠ a := fun z => q3 (z ▸ List.mem_of_getElem? e)
  show upd g.F a (.lst vs) b = none
  rw [upd_ne ne]
  exact q2
/-- an outsider is taken in: as data, as an owned object -/
theorem MemOk.inF (m : MemOk K g ms H) {p : Addr} {o : HO} (h : H p = some o) (hF : g.F p = none) (hA : p ∉ g.as) : Le g (frzG g p o) ∧ MemOk K (frzG g p o) ms H := by
  have le := le_frz g (o := o) hF
  refine ⟨le, ⟨fun b u q => ?_, m.len, m.nd, m.tr, fun k mo a h1 h2 h3 => ?_⟩⟩
  · by_cases eb : b = p
    · subst eb
      have q' : upd g.F b o b = some u := q
      rw [upd_same] at q'
      rw [← q']; exact h
    · have q' : upd g.F p o b = some u := q
      rw [upd_ne eb] at q'
      exact m.ex b u q'
  · have ne : a ≠ p := fun z => hA (z ▸ List.mem_of_getElem? h2)
    obtain ⟨q1, o', q2, q3⟩ := m.ob k mo a h1 h2 h3
    exact ⟨by show upd g.F p o a = none; rw [upd_ne ne]; exact q1, o', q2, q3.mono le⟩
theorem MemOk.inO (m : MemOk K g ms H) {p : Addr} {mo : MO} {o : HO} (h : H p = some o) (hF : g.F p = none) (hA : p ∉ g.as) (r : RO K g mo o) : MemOk K (ownG g p) (ms ++ [mo]) H := by
  have le := le_own g p
  refine ⟨m.ex, by simp [ownG, m.len], ?_, fun a ha => ?_, fun k mo' a h1 h2 h3 => ?_⟩
  · show (g.as ++ [p]).Nodup
    rw [List.nodup_append]
    refine ⟨m.nd, by simp, fun a ha b hb => ?_⟩
    have : b = p := by simpa using hb
    subst this
    exact fun z => hA (z ▸ ha)
  · have : a ∈ g.as ++ [p] := ha
    rcases List.mem_append.mp this with q | q
    · exact m.tr a q
    · have e : a = p := by simpa using q
      rw [e, h]; intro z; cases z
  · have h2' : (g.as ++ [p])[k]? = some a := h2
    by_cases hk : k < ms.length
    · rw [List.getElem?_append_left hk] at h1
      rw [List.getElem?_append_left (by rw [m.len]; exact hk)] at h2'
      obtain ⟨q1, o', q2, q3⟩ := m.ob k mo' a h1 h2' h3
      exact ⟨q1, o', q2, q3.mono le⟩
    · have ek : k = ms.length := by
        have := (List.getElem?_eq_some_iff.mp h1).1
        simp at this
        omega
      subst ek
      rw [List.getElem?_append_right (Nat.le_refl _)] at h1
      rw [List.getElem?_append_right (by rw [m.len]; exact Nat.le_refl _)] at h2'
      simp at h1
      simp [m.len] at h2'
      subst h1 h2'
      exact ⟨hF, o, h, r.mono le⟩
/-- what is outside changes -/
theorem MemOk.outW (m : MemOk K g ms H) {p : Addr} {o : HO} (hF : g.F p = none) (hA : p ∉ g.as) : MemOk K g ms (upd H p o) := by
  refine ⟨Ex.mut m.ex hF, m.len, m.nd, fun a ha => ?_, fun k mo a h1 h2 h3 => ?_⟩
  · have ne : a ≠ p := fun z => hA (z ▸ ha)
    rw [upd_ne ne]; exact m.tr a ha
  · have ne : a ≠ p := fun z => hA (z ▸ List.mem_of_getElem? h2)
    obtain ⟨q1, o', q2, q3⟩ := m.ob k mo a h1 h2 h3
    exact ⟨q1, o', by rw [upd_ne ne]; exact q2, q3⟩
theorem own_at {p : Addr} (m : MemOk K g ms H) : RSV K (ownG g p) (.ref p) (.o ms.length) := ⟨p, by show (g.as ++ [p])[ms.length]? = some p; rw [← m.len, List.getElem?_append_right (Nat.le_refl _)]; simp, rfl⟩
end
/-! ### forgetting the youngest owned objects -/
def SV.below (n : Nat) : SV → Prop
  | .o k => k < n
  | _ => True
def MO.below (n : Nat) : MO → Prop
  | .lst xs => ∀ x ∈ xs, x.below n
  | .dK kvs => ∀ x ∈ kvs, x.2.below n
  | .dT kvs => ∀ x ∈ kvs, x.2.below n
  | .lK kvs _ => ∀ x ∈ kvs, x.2.below n
  | .lT kvs _ => ∀ x ∈ kvs, x.2.below n
  | .dead => True
def Closed (n : Nat) (ms : ME) : Prop := ∀ mo ∈ ms, mo.below n
theorem SV.below_mono {s : SV} {n m : Nat} (h : s.below n) (k : n ≤ m) : s.below m := by
  cases s with
  | o i => exact Nat.lt_of_lt_of_le h k
  | _ => trivial
theorem MO.below_mono {s : MO} {n m : Nat} (h : s.below n) (k : n ≤ m) : s.below m := by
  cases s <;> first | trivial | (intro x hx; exact SV.below_mono (h x hx) k)
def cutG (g : G) (n : Nat) : G := ⟨g.F, g.as.take n⟩
section
variable {K : PySem.W.Frag} {g : G} {n : Nat}
theorem RSV.below {v : V} {s : SV} (r : RSV K g v s) : s.below g.as.length := by
  cases s with
  | o k => obtain ⟨a, h, _⟩ := r; exact (List.getElem?_eq_some_iff.mp h).1
  | _ => trivial
theorem RSV.cut {v : V} {s : SV} (r : RSV K g v s) (h : s.below n) : RSV K (cutG g n) v s := by
  cases s with
  | o k =>
    obtain ⟨a, h1, h2⟩ := r
    have h' : k < n := h
    exact ⟨a, by show (g.as.take n)[k]? = some a; rw [List.getElem?_take, if_pos h']; exact h1, h2⟩
  | _ => exact r
theorem Paired.mem {α β : Type} {R : α → β → Prop} : ∀ {xs : List α} {ys : List β}, Paired R xs ys → ∀ y ∈ ys, ∃ x, x ∈ xs ∧ R x y
  | _, _, .nil, y, h => by cases h
  | _, _, .cons r t, y, h => by
    rcases List.mem_cons.mp h with e | e
    · subst e; exact ⟨_, List.mem_cons_self, r⟩
    · obtain ⟨x, h1, h2⟩ := Paired.mem t y e
      exact ⟨x, List.mem_cons_of_mem _ h1, h2⟩
theorem Paired.impM {α β : Type} {R S : α → β → Prop} : ∀ {xs : List α} {ys : List β}, Paired R xs ys → (∀ x y, y ∈ ys → R x y → S x y) → Paired S xs ys
  | _, _, .nil, _ => .nil
  | _, _, .cons r t, h => .cons (h _ _ List.mem_cons_self r) (Paired.impM t fun x y m => h x y (List.mem_cons_of_mem _ m))
theorem RO.below {mo : MO} {o : HO} (r : RO K g mo o) : mo.below g.as.length := by
  cases mo with
  | dead => trivial
  | lst xs =>
    cases o with
    | lst vs =>
      intro x hx
      obtain ⟨_, _, q⟩ := Paired.mem r x hx
      exact q.below
    | _ => exact r.elim
  | dK xs =>
    cases o with
    | dK vs =>
      intro x hx
      obtain ⟨_, _, q⟩ := Paired.mem r x hx
      exact q.2.below
    | _ => exact r.elim
  | dT xs =>
    cases o with
    | dT vs =>
      intro x hx
      obtain ⟨_, _, q⟩ := Paired.mem r x hx
      exact q.2.below
    | _ => exact r.elim
  | lK xs o' =>
    obtain ⟨_, _, _, _, r⟩ := RO.lK.mp r
    intro x hx
    obtain ⟨_, _, q⟩ := Paired.mem r x hx
    exact q.2.below
  | lT xs o' =>
    obtain ⟨_, _, _, _, r⟩ := RO.lT.mp r
    intro x hx
    obtain ⟨_, _, q⟩ := Paired.mem r x hx
    exact q.2.below
theorem RO.cut {mo : MO} {o : HO} (r : RO K g mo o) (h : mo.below n) : RO K (cutG g n) mo o := by
  cases mo with
  | dead => cases o <;> exact r.elim
  | lst xs => cases o <;> first | exact (Paired.impM r fun x y m q => q.cut (h y m)) | exact r.elim
  | dK xs => cases o <;> first | exact (Paired.impM r fun x y m q => ⟨q.1, q.2.cut (h y m)⟩) | exact r.elim
  | dT xs => cases o <;> first | exact (Paired.impM r fun x y m q => ⟨q.1, q.2.cut (h y m)⟩) | exact r.elim
  | lK xs o' =>
    obtain ⟨e1, od, kws, e2, r⟩ := RO.lK.mp r
    exact RO.lK.mpr ⟨e1, od, kws, e2, Paired.impM r fun x y m q => ⟨q.1, q.2.cut (h y m)⟩⟩
  | lT xs o' =>
    obtain ⟨e1, od, kws, e2, r⟩ := RO.lT.mp r
    exact RO.lT.mpr ⟨e1, od, kws, e2, Paired.impM r fun x y m q => ⟨q.1, q.2.cut (h y m)⟩⟩
theorem MemOk.closed {ms : ME} {H : Hp} (m : MemOk K g ms H) : ∀ mo ∈ ms, mo.live = true → mo.below ms.length := fun mo hm hl => by
  obtain ⟨k, hk, e⟩ := List.mem_iff_getElem.mp hm
  have e' : ms[k]? = some mo := by rw [List.getElem?_eq_getElem hk, e]
  obtain ⟨a, ha⟩ := m.of_as e'
  obtain ⟨_, o, _, r⟩ := m.ob k mo a e' ha hl
  have := r.below
  rwa [m.len] at this
theorem MemOk.closed' {ms : ME} {H : Hp} (m : MemOk K g ms H) : Closed ms.length ms := fun mo hm => by
  cases hl : mo.live with
  | true => exact m.closed mo hm hl
  | false => cases mo <;> first | trivial | cases hl
theorem MemOk.cut {ms jk : ME} {H : Hp} (m : MemOk K g (ms ++ jk) H) (c : Closed ms.length ms) : MemOk K (cutG g ms.length) ms H := by
  have hl := m.len
  rw [List.length_append] at hl
  refine ⟨m.ex, by show (g.as.take ms.length).length = ms.length; rw [List.length_take]; omega, List.Sublist.nodup (List.take_sublist _ _) m.nd, fun a ha => m.tr a (List.mem_of_mem_take ha), fun k mo a h1 h2 h3 => ?_⟩
  have hk := (List.getElem?_eq_some_iff.mp h1).1
  have h2' : (g.as.take ms.length)[k]? = some a := h2
  rw [List.getElem?_take, if_pos hk] at h2'
  obtain ⟨q1, o, q2, q3⟩ := m.ob k mo a (by rw [List.getElem?_append_left hk]; exact h1) h2' h3
  exact ⟨q1, o, q2, q3.cut (c mo (List.mem_of_getElem? h1))⟩
theorem out_cut {g g0 : G} {H H' : Hp} {n : Nat} (h : Out g0 H g H') : Out g0 H (cutG g n) H' := fun a h1 h2 h3 =>
  let ⟨q1, q2, q3⟩ := h a h1 h2 h3
  ⟨q1, q2, fun z => q3 (List.mem_of_mem_take z)⟩
theorem le_cut {g g0 : G} {n : Nat} (h : Le g0 g) (hn : g0.as.length ≤ n) : Le g0 (cutG g n) := by
  obtain ⟨e, l, q⟩ := h
  refine ⟨e, l.take (n - g0.as.length), ?_⟩
  show g.as.take n = _
  rw [q, List.take_append, List.take_of_length_le hn]
end
/-! ### views -/
def seqL (ms : ME) : SV → Option (List SV)
  | .d (.list ds) => some (ds.map SV.d)
  | .xl ds => some (ds.map SV.d)
  | .o k => match ms[k]? with
    | some (.lst xs) => some xs
    | _ => none
  | _ => none
def seqT : SV → Option (List SV)
  | .d (.tuple ds) => some (ds.map SV.d)
  | .xt ds => some (ds.map SV.d)
  | _ => none
section
variable {K : PySem.W.Frag} {g : G} {ms : ME} {H : Hp} {v : V} {s : SV} {xs : List SV}
theorem seqL_ok (m : MemOk K g ms H) (r : RSV K g v s) (h : seqL ms s = some xs) : ∃ a vs, v = .ref a ∧ SqL K H a vs ∧ RSs K g vs xs := by
  cases s with
  | d x =>
    cases x with
    | list ds =>
      cases h
      cases r with
      | lst h1 h2 => exact ⟨_, _, rfl, SqL.of (m.ex _ _ h1), h2.rs⟩
    | _ => cases h
  | xl ds =>
    cases h
    obtain ⟨a, vs, h1, h2, h3⟩ := r
    exact ⟨a, vs, h1, ex_l m.ex h2, h3.rs⟩
  | xt ds => cases h
  | o k =>
    obtain ⟨a, h1, h2⟩ := r
    have h' : (match ms[k]? with
      | some (.lst xs) => some xs
      | _ => none) = some xs := h
    split at h'
    · rename_i ys e
      cases h'
      obtain ⟨_, o, e2, q⟩ := m.ob k _ a e h1 rfl
      cases o with
      | lst vs => exact ⟨a, vs, h2, SqL.of e2, q⟩
      | _ => exact q.elim
    · cases h'
theorem seqT_ok (m : MemOk K g ms H) (r : RSV K g v s) (h : seqT s = some xs) : ∃ a vs, v = .ref a ∧ SqT K H a vs ∧ RSs K g vs xs := by
  cases s with
  | d x =>
    cases x with
    | tuple ds =>
      cases h
      cases r with
      | tup h1 h2 => exact ⟨_, _, rfl, SqT.of (m.ex _ _ h1), h2.rs⟩
    | _ => cases h
  | xt ds =>
    cases h
    obtain ⟨a, vs, h1, h2, h3⟩ := r
    exact ⟨a, vs, h1, ex_t m.ex h2, h3.rs⟩
  | xl ds => cases h
  | o k => cases h
end
/-- a dict's pairs, to be read -/
def dctK (ms : ME) : SV → Option (List (Key × SV))
  | .o k => match ms[k]? with
    | some (.dK kvs) => some kvs
    | some (.lK kvs _) => some kvs
    | _ => none
  | _ => none
def dctT (ms : ME) : SV → Option (List (List Key × SV))
  | .o k => match ms[k]? with
    | some (.dT kvs) => some kvs
    | some (.lT kvs _) => some kvs
    | _ => none
  | _ => none
section
variable {K : PySem.W.Frag} {g : G} {ms : ME} {H : Hp} {v : V} {s : SV}
theorem dctK_ok {kvs : List (Key × SV)} (m : MemOk K g ms H) (r : RSV K g v s) (h : dctK ms s = some kvs) : ∃ a kws, v = .ref a ∧ Rd H a (.dK kws) ∧ RKV Key K g kws kvs := by
  cases s with
  | o k =>
    obtain ⟨a, h1, h2⟩ := r
    have h' : (match ms[k]? with
      | some (.dK kvs) => some kvs
      | some (.lK kvs _) => some kvs
      | _ => none) = some kvs := h
    split at h'
    · rename_i ys e
      cases h'
      obtain ⟨_, o, e2, q⟩ := m.ob k _ a e h1 rfl
      cases o with
      | dK vs => exact ⟨a, vs, h2, .inl e2, q⟩
      | _ => exact q.elim
    · rename_i ys o' e
      cases h'
      obtain ⟨_, o, e2, q⟩ := m.ob k _ a e h1 rfl
      obtain ⟨e3, od, kws, e4, q2⟩ := RO.lK.mp q
      subst e3
      subst e4
      exact ⟨a, kws, h2, .inr ⟨od, e2⟩, q2⟩
    · cases h'
  | _ => cases h
theorem dctT_ok {kvs : List (List Key × SV)} (m : MemOk K g ms H) (r : RSV K g v s) (h : dctT ms s = some kvs) : ∃ a kws, v = .ref a ∧ Rd H a (.dT kws) ∧ RKV (List Key) K g kws kvs := by
  cases s with
  | o k =>
    obtain ⟨a, h1, h2⟩ := r
    have h' : (match ms[k]? with
      | some (.dT kvs) => some kvs
      | some (.lT kvs _) => some kvs
      | _ => none) = some kvs := h
    split at h'
    · rename_i ys e
      cases h'
      obtain ⟨_, o, e2, q⟩ := m.ob k _ a e h1 rfl
      cases o with
      | dT vs => exact ⟨a, vs, h2, .inl e2, q⟩
      | _ => exact q.elim
    · rename_i ys o' e
      cases h'
      obtain ⟨_, o, e2, q⟩ := m.ob k _ a e h1 rfl
      obtain ⟨e3, od, kws, e4, q2⟩ := RO.lT.mp q
      subst e3
      subst e4
      exact ⟨a, kws, h2, .inr ⟨od, e2⟩, q2⟩
    · cases h'
  | _ => cases h
end
def allD : List SV → Option (List D)
  | [] => some []
  | .d x :: r => (allD r).map (x :: ·)
  | _ :: _ => none
theorem allD_map : ∀ {xs : List SV} {ds : List D}, allD xs = some ds → xs = ds.map SV.d
  | [], ds, h => by cases h; rfl
  | .d x :: r, ds, h => by
    have h' : (allD r).map (x :: ·) = some ds := h
    cases e : allD r with
    | none => rw [e] at h'; cases h'
    | some es =>
      rw [e] at h'
      cases h'
      rw [List.map_cons, ← allD_map e]
  | .o _ :: _, _, h => by cases h
  | .xl _ :: _, _, h => by cases h
  | .xt _ :: _, _, h => by cases h
theorem allD_of : ∀ ds : List D, allD (ds.map SV.d) = some ds
  | [] => rfl
  | x :: r => by
    show (allD (r.map SV.d)).map (x :: ·) = some (x :: r)
    rw [allD_of r]; rfl
/-- as data, read now -/
def asD (ms : ME) : SV → Option D
  | .d x => some x
  | .xl ds => some (.list ds)
  | .xt ds => some (.tuple ds)
  | .o k => match ms[k]? with
    | some (.lst xs) => (allD xs).map PyData.list
    | _ => none
mutual
theorem dp_mono {K : PySem.W.Frag} {F F' : Hp} (e : Ex F F') : ∀ {v : V} {d : D}, Dp K F v d → Dp K F' v d
  | _, _, .non => .non
  | _, _, .bl b => .bl b
  | _, _, .int i => .int i
  | _, _, .str x => .str x
  | _, _, .lst h r => .lst (ex_l e h) (dpa_mono e r)
  | _, _, .tup h r => .tup (ex_t e h) (dpa_mono e r)
theorem dpa_mono {K : PySem.W.Frag} {F F' : Hp} (e : Ex F F') : ∀ {vs : List V} {ds : List D}, DpAll K F vs ds → DpAll K F' vs ds
  | _, _, .nil => .nil
  | _, _, .cons h r => .cons (dp_mono e h) (dpa_mono e r)
end
theorem asD_ok {K : PySem.W.Frag} {g : G} {ms : ME} {H : Hp} {v : V} {s : SV} {d : D} (m : MemOk K g ms H) (r : RSV K g v s) (h : asD ms s = some d) : Dp K H v d := by
  cases s with
  | d x => cases h; exact dp_mono m.ex (RD.dp r)
  | xl ds =>
    cases h
    obtain ⟨a, vs, rfl, h2, h3⟩ := r
    exact .lst (ex_l m.ex h2) (dpa_mono m.ex (RDs.dp h3))
  | xt ds =>
    cases h
    obtain ⟨a, vs, rfl, h2, h3⟩ := r
    exact .tup (ex_t m.ex h2) (dpa_mono m.ex (RDs.dp h3))
  | o k =>
    have h' : (match ms[k]? with
      | some (.lst xs) => (allD xs).map PyData.list
      | _ => none) = some d := h
    split at h'
    · rename_i ys e
      cases q : allD ys with
      | none => rw [q] at h'; cases h'
      | some ds =>
        rw [q] at h'
        cases h'
        have ey := allD_map q
        subst ey
        obtain ⟨a, vs, rfl, h2, h3⟩ := seqL_ok (xs := ds.map SV.d) m r (show (match ms[k]? with
          | some (.lst xs) => some xs
          | _ => none) = _ by rw [e])
        exact .lst h2 (dpa_mono m.ex (RDs.dp (RSs.rd h3)))
    · cases h'
end Z

/-! Layer Z, part B: what is read of owned states; the judgements; calls, blocks, loops. -/
namespace Z
open PySem PySem.Spec PyProof.Rows L2 Evl
abbrev XA := Value × Option (List (Str × D))
abbrev AW := XA → SL → ME → Prop
abbrev AE := AW → SL → ME → (SV → ME → Prop) → Prop
abbrev AT := AW → SL → ME → (Bool → ME → Prop) → Prop
abbrev AA := AW → SL → ME → (List SV → ME → Prop) → Prop
structure AEnds where
  nx : SL → ME → Prop
  rt : SV → ME → Prop
  bk : SL → ME → Prop := fun _ _ => False
  ct : SL → ME → Prop := fun _ _ => False
abbrev AS := AW → AEnds → SL → ME → Prop
abbrev AG := SV → SL → ME → (SL → ME → Prop) → Prop
abbrev AGs := List SV → SL → ME → (SL → ME → Prop) → Prop
abbrev AP := List SV → ME → (SV → ME → Prop) → (XA → ME → Prop) → Prop
structure AIt where
  n : Nat
  at_ : Nat → Option SV
  inv : ME → Prop
abbrev AI := AW → SL → ME → (AIt → ME → Prop) → Prop
/-- an exception that flies -/
def RX (g : G) (cls : Value) (d : Option Addr) (H : Hp) (xa : XA) : Prop := cls = xa.1 ∧ match xa.2 with
  | none => d = none
  | some fs => ∃ a kvs, d = some a ∧ H a = some (.xd kvs) ∧ Paired (fun (p : Str × V) (q : Str × D) => p.1 = q.1 ∧ RD g.F p.2 q.2) kvs fs
section
variable (K : PySem.W.Frag)
def WRel (g : G) (H : Hp) (Wa : AW) (W : WX) : Prop := ∀ xa dl ms g' σ H' cls d, Nx K g H ms g' H' → SlotsOk K g' dl σ → RX g' cls d H' xa → Wa xa dl ms → W cls d σ H'
structure Sta (g : G) (dl : SL) (ms : ME) (Wa : AW) (W : WX) (σ : L2.St) (H : Hp) : Prop where
  mem : MemOk K g ms H
  slo : SlotsOk K g dl σ
  wr : WRel K g H Wa W
def VRel (g : G) (H : Hp) (P : SV → ME → Prop) (Q : VK) : Prop := ∀ sv ms g' v H', Nx K g H ms g' H' → RSV K g' v sv → P sv ms → Q v H'
def BRel (g : G) (H : Hp) (P : Bool → ME → Prop) (Q : Bool → Hp → Prop) : Prop := ∀ b ms g' H', Nx K g H ms g' H' → P b ms → Q b H'
def LRel (g : G) (H : Hp) (P : List SV → ME → Prop) (Q : List V → Hp → Prop) : Prop := ∀ ss ms g' vs H', Nx K g H ms g' H' → RSs K g' vs ss → P ss ms → Q vs H'
def NRel (g : G) (H : Hp) (P : SL → ME → Prop) (Q : L2.St → Hp → Prop) : Prop := ∀ dl ms g' σ H', Nx K g H ms g' H' → SlotsOk K g' dl σ → P dl ms → Q σ H'
structure DRel (g : G) (H : Hp) (De : AEnds) (D : Ends) : Prop where
  nx : NRel K g H De.nx D.nx
  rt : VRel K g H De.rt D.rt
  bk : NRel K g H De.bk D.bk
  ct : NRel K g H De.ct D.ct
def IRel (g : G) (H : Hp) (it : AIt) (J : It) : Prop := ∀ i g' ms H1, Nx K g H ms g' H1 → it.inv ms →
  (i < it.n → J.go i H1 ∧ ∀ x H', J.yld i H1 x H' → ∃ g'' sv, Nx K g' H1 ms g'' H' ∧ it.at_ i = some sv ∧ RSV K g'' x sv) ∧ (i = it.n → J.stop i H1)
def eL (W : WX) (A : AE) : TE := fun σ H Q => ∃ g dl ms Wa P, Sta K g dl ms Wa W σ H ∧ A Wa dl ms P ∧ VRel K g H P Q
def tL (W : WX) (A : AT) : TT := fun σ H Q => ∃ g dl ms Wa P, Sta K g dl ms Wa W σ H ∧ A Wa dl ms P ∧ BRel K g H P Q
def aL (W : WX) (A : AA) : TA := fun σ H Q => ∃ g dl ms Wa P, Sta K g dl ms Wa W σ H ∧ A Wa dl ms P ∧ LRel K g H P Q
def iL (W : WX) (A : AI) : TI := fun σ H R => ∃ g dl ms Wa P, Sta K g dl ms Wa W σ H ∧ A Wa dl ms P ∧ ∀ it ms' g' H' J, Nx K g H ms' g' H' → IRel K g' H' it J → P it ms' → R J H'
def sL (W : WX) (A : AS) : TS := fun D σ H => ∃ g dl ms Wa De, Sta K g dl ms Wa W σ H ∧ A Wa De dl ms ∧ DRel K g H De D
def liftP (p : AP) : Sp := fun vs H Q E => ∃ g ss ms Qa Ea, MemOk K g ms H ∧ RSs K g vs ss ∧ p ss ms Qa Ea ∧ VRel K g H Qa Q ∧ ∀ xa ms' g' cls d H', Nx K g H ms' g' H' → RX g' cls d H' xa → Ea xa ms' → E cls d H'
end
section
variable {K : PySem.W.Frag} {g g' : G} {H H' : Hp} {ms' : ME}
theorem WRel.mono {Wa : AW} {W : WX} (h : WRel K g H Wa W) (e : Nx K g H ms' g' H') : WRel K g' H' Wa W := fun xa dl ms g2 σ H2 cls d l => h xa dl ms g2 σ H2 cls d (e.trans l)
theorem VRel.mono {P : SV → ME → Prop} {Q : VK} (h : VRel K g H P Q) (e : Nx K g H ms' g' H') : VRel K g' H' P Q := fun sv ms g2 v H2 l => h sv ms g2 v H2 (e.trans l)
theorem BRel.mono {P : Bool → ME → Prop} {Q : Bool → Hp → Prop} (h : BRel K g H P Q) (e : Nx K g H ms' g' H') : BRel K g' H' P Q := fun sv ms g2 H2 l => h sv ms g2 H2 (e.trans l)
theorem LRel.mono {P : List SV → ME → Prop} {Q : List V → Hp → Prop} (h : LRel K g H P Q) (e : Nx K g H ms' g' H') : LRel K g' H' P Q := fun sv ms g2 v H2 l => h sv ms g2 v H2 (e.trans l)
theorem NRel.mono {P : SL → ME → Prop} {Q : L2.St → Hp → Prop} (h : NRel K g H P Q) (e : Nx K g H ms' g' H') : NRel K g' H' P Q := fun dl ms g2 σ H2 l => h dl ms g2 σ H2 (e.trans l)
theorem DRel.mono {De : AEnds} {D : Ends} (h : DRel K g H De D) (e : Nx K g H ms' g' H') : DRel K g' H' De D := ⟨h.nx.mono e, h.rt.mono e, h.bk.mono e, h.ct.mono e⟩
theorem IRel.mono {it : AIt} {J : It} (h : IRel K g H it J) (e : Nx K g H ms' g' H') : IRel K g' H' it J := fun i g2 ms H2 l => h i g2 ms H2 (e.trans l)
theorem Sta.to {dl : SL} {ms : ME} {Wa : AW} {W : WX} {σ : L2.St} (s : Sta K g dl ms Wa W σ H) (e : Nx K g H ms' g' H') : Sta K g' dl ms' Wa W σ H' := ⟨e.mem, s.slo.mono e.le, s.wr.mono e⟩
end
theorem PEm {X : Cx} {e : Expr} {t t' : TE} (h : PE X e t) (k : ∀ σ H Q, t' σ H Q → t σ H Q) : PE X e t' := ⟨fun pins s σ H Q I q => h.run pins s σ H Q I (k σ H Q q)⟩
theorem PTm {X : Cx} {e : Expr} {t t' : TT} (h : PT X e t) (k : ∀ σ H Q, t' σ H Q → t σ H Q) : PT X e t' := ⟨fun pins s σ H Q I q => h.run pins s σ H Q I (k σ H Q q)⟩
theorem PWm {X : Cx} {e : Expr} {t t' : TT} (h : PW X e t) (k : ∀ σ H Q, t' σ H Q → t σ H Q) : PW X e t' := ⟨fun wh pins s σ H Q I q => h.run wh pins s σ H Q I (k σ H Q q)⟩
theorem PAm {X : Cx} {e : List Expr} {t t' : TA} (h : PA X e t) (k : ∀ σ H Q, t' σ H Q → t σ H Q) : PA X e t' := ⟨fun po pins s σ H Q I q => h.run po pins s σ H Q I (k σ H Q q)⟩
theorem PSm {X : Cx} {e : Stmt} {t t' : TS} (h : PS X e t) (k : ∀ D σ H, t' D σ H → t D σ H) : PS X e t' := ⟨fun pins s σ H D I q => h.run pins s σ H D I (k D σ H q)⟩
theorem PSsm {X : Cx} {e : List Stmt} {t t' : TS} (h : PSs X e t) (k : ∀ D σ H, t' D σ H → t D σ H) : PSs X e t' := ⟨fun pins s σ H D I q => h.run pins s σ H D I (k D σ H q)⟩
theorem PTsm {X : Cx} {e : List Expr} {t t' : TT} (h : PTs X e t) (k : ∀ σ H Q, t' σ H Q → t σ H Q) : PTs X e t' := ⟨fun pins s σ H Q I q => h.run pins s σ H Q I (k σ H Q q)⟩
theorem PIm {X : Cx} {tg e : Expr} {t t' : TI} (h : PI X tg e t) (k : ∀ σ H Q, t' σ H Q → t σ H Q) : PI X tg e t' := ⟨fun pins s σ H Q I q => h.run pins s σ H Q I (k σ H Q q)⟩
/-! ### expressions -/
def aVar (i : Nat) : AE := fun _ dl ms Q => ∃ sv, dl[i]? = some (some sv) ∧ Q sv ms
def aC (x : D) : AE := fun _ _ ms Q => Q (.d x) ms
section
variable {X : Cx} {W : WX} {pos : Pos}
theorem e_var {i : Nat} {x : Str} (hN : X.N[i]? = some x) (hv : Vis X.env.scope x) (hd : (x == ("__debug__" : Str)) = false := by decide) (hcd : (x == ("__classdict__" : Str)) = false := by decide) : PE X (.Name x pos) (eL X.K W (aVar i)) :=
  PEm (pe_var hN hv hd hcd) fun σ H Q ⟨g, dl, ms, Wa, P, st, ⟨sv, e, p⟩, vr⟩ => let ⟨v, h1, h2⟩ := st.slo.2 i sv e; ⟨v, h1, vr sv ms g v H st.mem.nx h2 p⟩
theorem e_const {e : Expr} {v : V} {x : D} (h : PE X e (tC v)) (r : ∀ F, RD F v x) : PE X e (eL X.K W (aC x)) :=
  PEm h fun σ H Q ⟨g, dl, ms, Wa, P, st, p, vr⟩ => vr (.d x) ms g v H st.mem.nx (r _) p
theorem e_int {i j} : PE X (.Constant (.int i) j pos) (eL X.K W (aC (.int i))) := e_const pe_int fun _ => .int i
theorem e_bl {b j} : PE X (.Constant (.bool b) j pos) (eL X.K W (aC (.bool b))) := e_const pe_bl fun _ => .bl b
theorem e_non {j} : PE X (.Constant .none j pos) (eL X.K W (aC .none)) := e_const pe_non fun _ => .non
theorem e_str {x j} : PE X (.Constant (.str x) j pos) (eL X.K W (aC (.str x))) := e_const pe_str fun _ => .str x
end
/-! ### two values -/
abbrev AR2 := SV → SV → ME → (SV → ME → Prop) → Prop
def Co2 (K : PySem.W.Frag) (r : R2) (ra : AR2) : Prop := ∀ g ms H x y sx sy P Q, MemOk K g ms H → RSV K g x sx → RSV K g y sy → ra sx sy ms P → VRel K g H P Q → r x y H Q
def kOp2 (ra : AR2) (x : SV) (P : SV → ME → Prop) : SV → ME → Prop := fun y ms => ra x y ms P
def kOp1 (ra : AR2) (B : AE) (Wa : AW) (dl : SL) (P : SV → ME → Prop) : SV → ME → Prop := fun x ms => B Wa dl ms (kOp2 ra x P)
def aOp (ra : AR2) (A B : AE) : AE := fun Wa dl ms P => A Wa dl ms (kOp1 ra B Wa dl P)
section
variable {X : Cx} {W : WX} {pos : Pos} {a b : Expr} {A B : AE} {r : R2} {ra : AR2}
theorem op_lift (hc : Co2 X.K r ra) (σ : L2.St) (H : Hp) (Q : VK) (h : eL X.K W (aOp ra A B) σ H Q) : tOp r (eL X.K W A) (eL X.K W B) σ H Q := by
  obtain ⟨g, dl, ms, Wa, P, st, p, vr⟩ := h
  refine ⟨g, dl, ms, Wa, _, st, p, fun sx ms1 g1 x H1 n1 r1 p1 => ?_⟩
  refine ⟨g1, dl, ms1, Wa, _, st.to n1, p1, fun sy ms2 g2 y H2 n2 r2 p2 => ?_⟩
  exact hc g2 ms2 H2 x y sx sy P Q n2.mem (r1.mono n2.le) r2 p2 (vr.mono (n1.trans n2))
theorem e_op {op : Operator} (ho : OpR X (binaryOp op) r) (hc : Co2 X.K r ra) (ha : PE X a (eL X.K W A)) (hb : PE X b (eL X.K W B)) : PE X (.BinOp a op b pos) (eL X.K W (aOp ra A B)) := PEm (pe_op ho ha hb) (op_lift hc)
theorem e_cmp {op : CmpOp} (ho : OpR X (compareOp op) r) (hc : Co2 X.K r ra) (ha : PE X a (eL X.K W A)) (hb : PE X b (eL X.K W B)) (hm : behindInMarks op b = false) : PE X (.Compare a [op] [b] pos) (eL X.K W (aOp ra A B)) := PEm (pe_cmpR ho ha hb hm) (op_lift hc)
theorem e_ix (ho : IxR X r) (hc : Co2 X.K r ra) (ha : PE X a (eL X.K W A)) (hb : PE X b (eL X.K W B)) (hs : PlainIx b) : PE X (.Subscript a b pos) (eL X.K W (aOp ra A B)) := PEm (pe_ix ho ha hb hs) (op_lift hc)
end
/-- a value that is a bool, as a test -/
def kB (P : Bool → ME → Prop) : SV → ME → Prop := fun x ms => ∃ b, x = .d (.bool b) ∧ P b ms
def aB (A : AE) : AT := fun Wa dl ms P => A Wa dl ms (kB P)
section
variable {X : Cx} {W : WX} {pos : Pos} {a b c : Expr} {A B : AE} {r : R2} {ra : AR2} {S T : AT}
theorem b_lift {t : TE} (h : PE X a t) (σ : L2.St) (H : Hp) (Q : Bool → Hp → Prop) (q : tL X.K W (aB A) σ H Q) (k : ∀ σ H Q, eL X.K W A σ H Q → t σ H Q) : t σ H fun x H' => ∃ k, x = .bl k ∧ Q k H' := by
  obtain ⟨g, dl, ms, Wa, P, st, p, br⟩ := q
  refine k σ H _ ⟨g, dl, ms, Wa, _, st, p, fun sv ms1 g1 v H1 n1 r1 ⟨b, e, p1⟩ => ?_⟩
  subst e
  cases r1
  exact ⟨b, rfl, br b ms1 g1 H1 n1 p1⟩
theorem t_val (h : PE X a (eL X.K W A)) (he : ∀ whole, isTrue a X.env whole = (do let v ← whole; standAt a.pos; holding [v] (truthy v)) := by intro _; rfl) : PT X a (tL X.K W (aB A)) :=
  PTm (pt_val h he) fun σ H Q q => b_lift h σ H Q q fun _ _ _ z => z
theorem t_cmp {op : CmpOp} (ho : OpR X (compareOp op) r) (hc : Co2 X.K r ra) (ha : PE X a (eL X.K W A)) (hb : PE X b (eL X.K W B)) (hm : behindInMarks op b = false) : PT X (.Compare a [op] [b] pos) (tL X.K W (aB (aOp ra A B))) :=
  PTm (pt_cmpR ho ha hb hm) fun σ H Q q => b_lift (pe_cmpR (pos := pos) ho ha hb hm) σ H Q q (op_lift hc)
/-- by a PC -/
theorem t_pc {op : CmpOp} {t : TE} (h : PC X op a b t) (k : ∀ σ H Q, eL X.K W A σ H Q → t σ H Q) (h1 : behindInMarks op b = false := by first | exact nobehind _ (by decide) (by decide) | rfl) : PT X (.Compare a [op] [b] pos) (tL X.K W (aB A)) :=
  PTm (pt_cmp h h1) fun σ H Q q => b_lift (pe_cmp (pos := pos) h h1) σ H Q q k
theorem e_pc {op : CmpOp} {t : TE} (h : PC X op a b t) (k : ∀ σ H Q, eL X.K W A σ H Q → t σ H Q) (h1 : behindInMarks op b = false := by first | exact nobehind _ (by decide) (by decide) | rfl) : PE X (.Compare a [op] [b] pos) (eL X.K W A) :=
  PEm (pe_cmp h h1) k
/-! tests joined -/
def kAnd (T : AT) (Wa : AW) (dl : SL) (P : Bool → ME → Prop) : Bool → ME → Prop := fun b ms => if b = true then T Wa dl ms P else P false ms
def kOr (T : AT) (Wa : AW) (dl : SL) (P : Bool → ME → Prop) : Bool → ME → Prop := fun b ms => if b = true then P true ms else T Wa dl ms P
def kNot (P : Bool → ME → Prop) : Bool → ME → Prop := fun b ms => P (!b) ms
def aAnd (S T : AT) : AT := fun Wa dl ms P => S Wa dl ms (kAnd T Wa dl P)
def aOr (S T : AT) : AT := fun Wa dl ms P => S Wa dl ms (kOr T Wa dl P)
def aNot (S : AT) : AT := fun Wa dl ms P => S Wa dl ms (kNot P)
theorem w_and1 (ha : PT X a (tL X.K W S)) : PW X (.BoolOp .And [a] pos) (tL X.K W S) := pw_and1 ha
theorem w_or1 (ha : PT X a (tL X.K W S)) : PW X (.BoolOp .Or [a] pos) (tL X.K W S) := pw_or1 ha
theorem w_and {rest : List Expr} (ha : PT X a (tL X.K W S)) (hb : PW X (.BoolOp .And (b :: rest) pos) (tL X.K W T)) : PW X (.BoolOp .And (a :: b :: rest) pos) (tL X.K W (aAnd S T)) :=
  PWm (pw_and ha hb) fun σ H Q ⟨g, dl, ms, Wa, P, st, p, br⟩ => ⟨g, dl, ms, Wa, _, st, p, fun b ms1 g1 H1 n1 p1 => by
    cases b with
    | true => exact ⟨g1, dl, ms1, Wa, P, st.to n1, p1, br.mono n1⟩
    | false => exact br false ms1 g1 H1 n1 p1⟩
theorem w_or {rest : List Expr} (ha : PT X a (tL X.K W S)) (hb : PW X (.BoolOp .Or (b :: rest) pos) (tL X.K W T)) : PW X (.BoolOp .Or (a :: b :: rest) pos) (tL X.K W (aOr S T)) :=
  PWm (pw_or ha hb) fun σ H Q ⟨g, dl, ms, Wa, P, st, p, br⟩ => ⟨g, dl, ms, Wa, _, st, p, fun b ms1 g1 H1 n1 p1 => by
    cases b with
    | true => exact br true ms1 g1 H1 n1 p1
    | false => exact ⟨g1, dl, ms1, Wa, P, st.to n1, p1, br.mono n1⟩⟩
theorem t_w (h : PW X a (tL X.K W S)) : PT X a (tL X.K W S) := h.pt
theorem t_not (ha : PT X a (tL X.K W S)) : PT X (.UnaryOp .Not a pos) (tL X.K W (aNot S)) :=
  PTm (pt_not ha) fun σ H Q ⟨g, dl, ms, Wa, P, st, p, br⟩ => ⟨g, dl, ms, Wa, _, st, p, fun b ms1 g1 H1 n1 p1 => br (!b) ms1 g1 H1 n1 p1⟩
/-! .. as values -/
def kAndV (B : AE) (Wa : AW) (dl : SL) (P : SV → ME → Prop) : SV → ME → Prop := fun x ms => ∃ b, x = .d (.bool b) ∧ if b = true then B Wa dl ms P else P (.d (.bool false)) ms
def kOrV (B : AE) (Wa : AW) (dl : SL) (P : SV → ME → Prop) : SV → ME → Prop := fun x ms => ∃ b, x = .d (.bool b) ∧ if b = true then P (.d (.bool true)) ms else B Wa dl ms P
def kNotV (P : SV → ME → Prop) : SV → ME → Prop := fun x ms => ∃ b, x = .d (.bool b) ∧ P (.d (.bool (!b))) ms
def aAndV (A B : AE) : AE := fun Wa dl ms P => A Wa dl ms (kAndV B Wa dl P)
def aOrV (A B : AE) : AE := fun Wa dl ms P => A Wa dl ms (kOrV B Wa dl P)
def aNotV (A : AE) : AE := fun Wa dl ms P => A Wa dl ms (kNotV P)
theorem e_and {rest : List Expr} (ha : PE X a (eL X.K W A)) (hb : PE X (.BoolOp .And (b :: rest) pos) (eL X.K W B)) : PE X (.BoolOp .And (a :: b :: rest) pos) (eL X.K W (aAndV A B)) :=
  PEm (pe_and ha hb) fun σ H Q ⟨g, dl, ms, Wa, P, st, p, vr⟩ => ⟨g, dl, ms, Wa, _, st, p, fun sv ms1 g1 v H1 n1 r1 ⟨b, e, p1⟩ => by
    subst e
    cases r1
    refine ⟨b, rfl, ?_⟩
    cases b with
    | true => exact ⟨g1, dl, ms1, Wa, P, st.to n1, p1, vr.mono n1⟩
    | false => exact vr (.d (.bool false)) ms1 g1 _ H1 n1 (RD.bl false) p1⟩
theorem e_or {rest : List Expr} (ha : PE X a (eL X.K W A)) (hb : PE X (.BoolOp .Or (b :: rest) pos) (eL X.K W B)) : PE X (.BoolOp .Or (a :: b :: rest) pos) (eL X.K W (aOrV A B)) :=
  PEm (pe_or ha hb) fun σ H Q ⟨g, dl, ms, Wa, P, st, p, vr⟩ => ⟨g, dl, ms, Wa, _, st, p, fun sv ms1 g1 v H1 n1 r1 ⟨b, e, p1⟩ => by
    subst e
    cases r1
    refine ⟨b, rfl, ?_⟩
    cases b with
    | true => exact vr (.d (.bool true)) ms1 g1 _ H1 n1 (RD.bl true) p1
    | false => exact ⟨g1, dl, ms1, Wa, P, st.to n1, p1, vr.mono n1⟩⟩
theorem e_one {op} (h : PE X a (eL X.K W A)) : PE X (.BoolOp op [a] pos) (eL X.K W A) := pe_one h
theorem e_not (ha : PE X a (eL X.K W A)) : PE X (.UnaryOp .Not a pos) (eL X.K W (aNotV A)) :=
  PEm (pe_not ha) fun σ H Q ⟨g, dl, ms, Wa, P, st, p, vr⟩ => ⟨g, dl, ms, Wa, _, st, p, fun sv ms1 g1 v H1 n1 r1 ⟨b, e, p1⟩ => by
    subst e
    cases r1
    exact ⟨b, rfl, vr (.d (.bool (!b))) ms1 g1 _ H1 n1 (RD.bl _) p1⟩⟩
def kIf (A B : AE) (Wa : AW) (dl : SL) (P : SV → ME → Prop) : Bool → ME → Prop := fun b ms => if b = true then A Wa dl ms P else B Wa dl ms P
def aIf (T : AT) (A B : AE) : AE := fun Wa dl ms P => T Wa dl ms (kIf A B Wa dl P)
theorem e_if (hc : PT X c (tL X.K W T)) (ha : PE X a (eL X.K W A)) (hb : PE X b (eL X.K W B)) : PE X (.IfExp c a b pos) (eL X.K W (aIf T A B)) :=
  PEm (pe_ifExp hc ha hb) fun σ H Q ⟨g, dl, ms, Wa, P, st, p, vr⟩ => ⟨g, dl, ms, Wa, _, st, p, fun b ms1 g1 H1 n1 p1 => by
    cases b with
    | true => exact ⟨g1, dl, ms1, Wa, P, st.to n1, p1, vr.mono n1⟩
    | false => exact ⟨g1, dl, ms1, Wa, P, st.to n1, p1, vr.mono n1⟩⟩
end
/-! ### arguments, displays, calls -/
def aNil : AA := fun _ _ ms P => P [] ms
def kCons2 (x : SV) (P : List SV → ME → Prop) : List SV → ME → Prop := fun xs ms => P (x :: xs) ms
def kCons1 (R : AA) (Wa : AW) (dl : SL) (P : List SV → ME → Prop) : SV → ME → Prop := fun x ms => R Wa dl ms (kCons2 x P)
def aCons (A : AE) (R : AA) : AA := fun Wa dl ms P => A Wa dl ms (kCons1 R Wa dl P)
abbrev AR := List SV → ME → (SV → ME → Prop) → Prop
def CoC (K : PySem.W.Frag) (r : List V → Hp → VK → Prop) (ra : AR) : Prop := ∀ g ms H vs ss P Q, MemOk K g ms H → RSs K g vs ss → ra ss ms P → VRel K g H P Q → r vs H Q
def kCB (ra : AR) (P : SV → ME → Prop) : List SV → ME → Prop := fun ss ms => ra ss ms P
def aCB (ra : AR) (R : AA) : AE := fun Wa dl ms P => R Wa dl ms (kCB ra P)
/-- a new tuple of data | a new list of data -/
def rTup : AR := fun ss ms P => ∃ ds, allD ss = some ds ∧ ss.length ≤ sizeLine ∧ P (.d (.tuple ds)) ms
def rLst : AR := fun ss ms P => ∃ ds, allD ss = some ds ∧ ss.length ≤ sizeLine ∧ P (.d (.list ds)) ms
/-- a new owned list -/
def rLstO : AR := fun ss ms P => ss.length ≤ sizeLine ∧ P (.o ms.length) (ms ++ [.lst ss])
section
variable {X : Cx} {W : WX} {pos : Pos} {e : Expr} {es : List Expr} {A : AE} {R : AA} {ra : AR} {r : List V → Hp → VK → Prop}
theorem a_nil : PA X [] (aL X.K W aNil) := PAm pa_nil fun σ H Q ⟨g, dl, ms, Wa, P, st, p, lr⟩ => lr [] ms g [] H st.mem.nx .nil p
theorem a_cons (ha : PE X e (eL X.K W A)) (hr : PA X es (aL X.K W R)) (hs : starEach (e :: es) X.env = (false, eval e X.env) :: starEach es X.env := by rfl) : PA X (e :: es) (aL X.K W (aCons A R)) :=
  PAm (pa_cons ha hr hs) fun σ H Q ⟨g, dl, ms, Wa, P, st, p, lr⟩ => ⟨g, dl, ms, Wa, _, st, p, fun sx ms1 g1 x H1 n1 r1 p1 =>
    ⟨g1, dl, ms1, Wa, _, st.to n1, p1, fun ss ms2 g2 vs H2 n2 r2 p2 => lr (sx :: ss) ms2 g2 (x :: vs) H2 (n1.trans n2) (.cons (r1.mono n2.le) r2) p2⟩⟩
theorem cb_lift {wh : TE} (hc : CoC X.K r ra) (σ : L2.St) (H : Hp) (Q : VK) (h : eL X.K W (aCB ra R) σ H Q) : (fun σ H Q => aL X.K W R σ H fun vs H1 => r vs H1 Q) σ H Q := by
  obtain ⟨g, dl, ms, Wa, P, st, p, vr⟩ := h
  exact ⟨g, dl, ms, Wa, _, st, p, fun ss ms1 g1 vs H1 n1 r1 p1 => hc g1 ms1 H1 vs ss P Q n1.mem r1 p1 (vr.mono n1)⟩
theorem co_tup {K : PySem.W.Frag} : CoC K (fun xs H1 Q => xs.length ≤ sizeLine ∧ ∀ p, H1 p = none → Q (.ref p) (upd H1 p (.tup xs))) rTup := by
  intro g ms H vs ss P Q m rs ⟨ds, ea, hl, p⟩ vr
  have e := allD_map ea
  subst e
  refine ⟨by rw [Paired.length rs]; exact hl, fun q hq => ?_⟩
  have n := m.nxF (o := .tup vs) hq
  exact vr (.d (.tuple ds)) ms _ _ _ n (RD.tup upd_same ((RSs.rd rs).mono n.le.1)) p
theorem co_lst {K : PySem.W.Frag} : CoC K (fun xs H1 Q => xs.length ≤ sizeLine ∧ ∀ p, H1 p = none → Q (.ref p) (upd H1 p (.lst xs))) rLst := by
  intro g ms H vs ss P Q m rs ⟨ds, ea, hl, p⟩ vr
  have e := allD_map ea
  subst e
  refine ⟨by rw [Paired.length rs]; exact hl, fun q hq => ?_⟩
  have n := m.nxF (o := .lst vs) hq
  exact vr (.d (.list ds)) ms _ _ _ n (RD.lst upd_same ((RSs.rd rs).mono n.le.1)) p
theorem co_lstO {K : PySem.W.Frag} : CoC K (fun xs H1 Q => xs.length ≤ sizeLine ∧ ∀ p, H1 p = none → Q (.ref p) (upd H1 p (.lst xs))) rLstO := by
  intro g ms H vs ss P Q m rs ⟨hl, p⟩ vr
  refine ⟨by rw [Paired.length rs]; exact hl, fun q hq => ?_⟩
  exact vr _ _ _ _ _ (m.nxO (mo := .lst ss) (o := .lst vs) hq rs) (own_at m) p
theorem e_tup {x1} (h : PA X es (aL X.K W R)) : PE X (.Tuple es x1 pos) (eL X.K W (aCB rTup R)) := PEm (pe_tup h) (cb_lift (wh := eL X.K W (aCB rTup R)) co_tup)
theorem e_lst (h : PA X es (aL X.K W R)) : PE X (.List es pos) (eL X.K W (aCB rLst R)) := PEm (pe_lst h) (cb_lift (wh := eL X.K W (aCB rLst R)) co_lst)
theorem e_lstO (h : PA X es (aL X.K W R)) : PE X (.List es pos) (eL X.K W (aCB rLstO R)) := PEm (pe_lst h) (cb_lift (wh := eL X.K W (aCB rLst R)) co_lstO)
theorem e_callB {x : Str} {id : String} {p : Pos} (hc : CallR X (.builtin id) r) (co : CoC X.K r ra) (hg : Gl X x) (hm : X.mg x = none) (hv : bootBuiltins x = some (.builtin id)) (ha : PA X (e :: es) (aL X.K W R)) (hn : x ≠ "__name__" := by decide) (hdb : (x == ("__debug__" : Str)) = false := by decide)
    (hs : starEach (e :: es) X.env = (false, eval e X.env) :: starEach es X.env := by rfl) (hpl : (backTo pos (starEach es X.env)).any (·.1) = false := by rfl) : PE X (.Call (.Name x p) (e :: es) [] pos) (eL X.K W (aCB ra R)) :=
  PEm (pe_callB hc hg hm hv ha hn hdb hs hpl) (cb_lift (wh := eL X.K W (aCB rLst R)) co)
theorem e_callTy {x : Str} {T : String} {p : Pos} (hc : CallR X (.type T) r) (co : CoC X.K r ra) (hg : Gl X x) (hm : X.mg x = none) (hv : bootBuiltins x = some (.type T)) (ha : PA X (e :: es) (aL X.K W R)) (hn : x ≠ "__name__" := by decide) (hdb : (x == ("__debug__" : Str)) = false := by decide)
    (hs : starEach (e :: es) X.env = (false, eval e X.env) :: starEach es X.env := by rfl) (hpl : (backTo pos (starEach es X.env)).any (·.1) = false := by rfl) : PE X (.Call (.Name x p) (e :: es) [] pos) (eL X.K W (aCB ra R)) :=
  PEm (pe_callTy hc hg hm hv ha hn hdb hs hpl) (cb_lift (wh := eL X.K W (aCB rLst R)) co)
/-! a def of one's own -/
def kCall (p : AP) (P : SV → ME → Prop) : List SV → ME → Prop := fun ss ms => p ss ms P fun _ _ => False
def aCall (p : AP) (R : AA) : AE := fun Wa dl ms P => R Wa dl ms (kCall p P)
def kCallX (p : AP) (Wa : AW) (dl : SL) (P : SV → ME → Prop) : List SV → ME → Prop := fun ss ms => p ss ms P fun xa ms' => Wa xa dl ms'
def aCallX (p : AP) (R : AA) : AE := fun Wa dl ms P => R Wa dl ms (kCallX p Wa dl P)
theorem call_lift {p : AP} (σ : L2.St) (H : Hp) (Q : VK) (h : eL X.K W (aCall p R) σ H Q) : tCall (liftP X.K p) [] E0 (aL X.K W R) σ H Q := by
  obtain ⟨g, dl, ms, Wa, P, st, q, vr⟩ := h
  refine ⟨g, dl, ms, Wa, _, st, q, fun ss ms1 g1 vs H1 n1 r1 p1 => ?_⟩
  show liftP X.K p (vs ++ []) H1 Q E0
  rw [List.append_nil]
  exact ⟨g1, ss, ms1, _, _, n1.mem, r1, p1, vr.mono n1, fun _ _ _ _ _ _ _ _ z => z.elim⟩
theorem callX_lift {p : AP} (σ : L2.St) (H : Hp) (Q : VK) (h : eL X.K W (aCallX p R) σ H Q) : tCallS (liftP X.K p) (WE W) (aL X.K W R) σ H Q := by
  obtain ⟨g, dl, ms, Wa, P, st, q, vr⟩ := h
  refine ⟨g, dl, ms, Wa, _, st, q, fun ss ms1 g1 vs H1 n1 r1 p1 => ?_⟩
  exact ⟨g1, ss, ms1, _, _, n1.mem, r1, p1, vr.mono n1, fun xa ms' g' cls d H' n' rx w => st.wr xa dl ms' g' σ H' cls d (n1.trans n') ((st.slo.mono n1.le).mono n'.le) rx w⟩
theorem passX {X : Cx} : Passes (L2.CX X.prog X.w) X E0 := fun _ _ _ _ _ _ _ c => by
  obtain ⟨_, _, _, _, _, _, _, _, _, _, _, _, z⟩ := c
  exact z.elim
theorem e_call {CX : CXT} {k : Nat} {f : Addr} {fd : FuncData} {ps : List Str} {p : AP} {x : Str} {px : Pos} (F : FnOk X.prog X.w X.K X.mg X.base CX k f fd ps (liftP X.K p)) (hx : Passes CX X E0) (hr : Room k X.A) (hg : Gl X x) (hm : X.mg x = some (.ref f)) (hk : PySem.W.keepIn X.K (.ref f) = true) (hb : Binds X.K fd ps [])
    (ha : PA X (e :: es) (aL X.K W R)) (hdb : (x == ("__debug__" : Str)) = false := by decide) (he : starEach (e :: es) X.env = (false, eval e X.env) :: starEach es X.env := by rfl) (hpl : (backTo pos (starEach es X.env)).any (·.1) = false := by rfl) : PE X (.Call (.Name x px) (e :: es) [] pos) (eL X.K W (aCall p R)) :=
  PEm (pe_call F hr hg hm hk hb .nil hx ha hdb he hpl) call_lift
theorem e_callX {CX : CXT} {k : Nat} {f : Addr} {fd : FuncData} {ps : List Str} {p : AP} {x : Str} {px : Pos} (F : FnOk X.prog X.w X.K X.mg X.base CX k f fd ps (liftP X.K p)) (hx : ∀ σ, PassesAt CX X σ (WE W σ)) (hr : Room k X.A) (hg : Gl X x) (hm : X.mg x = some (.ref f)) (hk : PySem.W.keepIn X.K (.ref f) = true) (hb : Binds X.K fd ps [])
    (ha : PA X (e :: es) (aL X.K W R)) (hdb : (x == ("__debug__" : Str)) = false := by decide) (he : starEach (e :: es) X.env = (false, eval e X.env) :: starEach es X.env := by rfl) (hpl : (backTo pos (starEach es X.env)).any (·.1) = false := by rfl) : PE X (.Call (.Name x px) (e :: es) [] pos) (eL X.K W (aCallX p R)) :=
  PEm (pe_callS F hr hg hm hk hb hx ha hdb he hpl) callX_lift
end
/-! ### methods of built-in types -/
abbrev ARm := SV → List SV → ME → (SV → ME → Prop) → Prop
def CoM (K : PySem.W.Frag) (r : V → List V → Hp → VK → Prop) (ra : ARm) : Prop := ∀ g ms H x vs sx ss P Q, MemOk K g ms H → RSV K g x sx → RSs K g vs ss → ra sx ss ms P → VRel K g H P Q → r x vs H Q
def tyA (T : String) (ms : ME) : SV → Prop
  | .d (.str _) => T = "str"
  | .d (.int _) => T = "int"
  | .d (.list _) => T = "list"
  | .xl _ => T = "list"
  | .o k => (T = "list" ∧ ∃ xs, ms[k]? = some (.lst xs)) ∨ (T = "dict" ∧ ((∃ kvs, ms[k]? = some (.dK kvs)) ∨ ∃ kvs, ms[k]? = some (.dT kvs)))
  | _ => False
theorem tyA_ok {K : PySem.W.Frag} {g : G} {ms : ME} {H : Hp} {x : V} {sx : SV} {T : String} (m : MemOk K g ms H) (r : RSV K g x sx) (h : tyA T ms sx) : tyV K T x H := by
  cases sx with
  | d y =>
    cases y with
    | str z => cases r; exact h
    | int z => cases r; exact h
    | list ds =>
      cases r with
      | lst h1 h2 => exact .inl ⟨h, _, SqL.of (m.ex _ _ h1)⟩
    | _ => exact h.elim
  | xl ds =>
    obtain ⟨a, vs, rfl, h2, h3⟩ := r
    exact .inl ⟨h, _, ex_l m.ex h2⟩
  | xt ds => exact h.elim
  | o k =>
    obtain ⟨a, h1, rfl⟩ := r
    rcases h with ⟨e, xs, h⟩ | ⟨e, ⟨kvs, h⟩ | ⟨kvs, h⟩⟩
    · obtain ⟨_, o, q, ro⟩ := m.ob k _ a h h1 rfl
      cases o with
      | lst vs => exact .inl ⟨e, _, SqL.of q⟩
      | _ => exact ro.elim
    · obtain ⟨_, o, q, ro⟩ := m.ob k _ a h h1 rfl
      cases o with
      | dK vs => exact .inr (.inr (.inl ⟨e, .inl ⟨_, q⟩⟩))
      | _ => exact ro.elim
    · obtain ⟨_, o, q, ro⟩ := m.ob k _ a h h1 rfl
      cases o with
      | dT vs => exact .inr (.inr (.inl ⟨e, .inr ⟨_, q⟩⟩))
      | _ => exact ro.elim
def kBM0 (T : String) (ra : ARm) (P : SV → ME → Prop) : SV → ME → Prop := fun x ms => tyA T ms x ∧ ra x [] ms P
def aBM0 (T : String) (ra : ARm) (A : AE) : AE := fun Wa dl ms P => A Wa dl ms (kBM0 T ra P)
def kBM2 (ra : ARm) (x : SV) (P : SV → ME → Prop) : List SV → ME → Prop := fun ss ms => ra x ss ms P
def kBM1 (T : String) (ra : ARm) (R : AA) (Wa : AW) (dl : SL) (P : SV → ME → Prop) : SV → ME → Prop := fun x ms => tyA T ms x ∧ R Wa dl ms (kBM2 ra x P)
def aBM (T : String) (ra : ARm) (A : AE) (R : AA) : AE := fun Wa dl ms P => A Wa dl ms (kBM1 T ra R Wa dl P)
section
variable {X : Cx} {W : WX} {o e : Expr} {es : List Expr} {A : AE} {R : AA} {ra : ARm} {r : V → List V → Hp → VK → Prop} {name : Str} {apos cpos : Pos} {T id : String}
theorem e_bm0 (pa : PlainAttrs T) (slot : Slot T name id) (hty : typeOf (.builtin id) = pure (.type "method_descriptor")) (hm : MtR X id r) (co : CoM X.K r ra) (ho : PE X o (eL X.K W A))
    (hbase : attributeBase o name X.env (eval o X.env) = eval o X.env := by rfl) (hline : (apos.endLine == cpos.line) = true := by rfl) : PE X (.Call (.Attribute o name apos) [] [] cpos) (eL X.K W (aBM0 T ra A)) :=
  PEm (pe_bm0 pa slot hty hm ho hbase hline) fun σ H Q ⟨g, dl, ms, Wa, P, st, p, vr⟩ => ⟨g, dl, ms, Wa, _, st, p, fun sx ms1 g1 x H1 n1 r1 ⟨ty, p1⟩ => ⟨tyA_ok n1.mem r1 ty, co g1 ms1 H1 x [] sx [] P Q n1.mem r1 .nil p1 (vr.mono n1)⟩⟩
theorem e_bm (pa : PlainAttrs T) (slot : Slot T name id) (hty : typeOf (.builtin id) = pure (.type "method_descriptor")) (hm : MtR X id r) (co : CoM X.K r ra) (ho : PE X o (eL X.K W A)) (ha : PA X (e :: es) (aL X.K W R))
    (hbase : attributeBase o name X.env (eval o X.env) = eval o X.env := by rfl)
    (hfew : ((backTo cpos (starEach (e :: es) X.env)).all (fun x => !x.1) && (backToKw cpos (keywordEach [] X.env)).all (fun x => x.1.isSome)
      && decide ((e :: es).length + ([] : List Keyword).length + (if ([] : List Keyword).isEmpty then 0 else 1) < 30)) = true := by rfl)
    (hline : (apos.endLine == cpos.line) = true := by rfl) (hs : starEach (e :: es) X.env = (false, eval e X.env) :: starEach es X.env := by rfl) (hplain : (backTo cpos (starEach es X.env)).any (·.1) = false := by rfl) :
    PE X (.Call (.Attribute o name apos) (e :: es) [] cpos) (eL X.K W (aBM T ra A R)) :=
  PEm (pe_bm pa slot hty hm ho ha hbase hfew hline hs hplain) fun σ H Q ⟨g, dl, ms, Wa, P, st, p, vr⟩ => ⟨g, dl, ms, Wa, _, st, p, fun sx ms1 g1 x H1 n1 r1 ⟨ty, p1⟩ => ⟨tyA_ok n1.mem r1 ty,
    g1, dl, ms1, Wa, _, st.to n1, p1, fun ss ms2 g2 vs H2 n2 r2 p2 => co g2 ms2 H2 x vs sx ss P Q n2.mem (r1.mono n2.le) r2 p2 (vr.mono (n1.trans n2))⟩⟩
end
end Z

/-! Layer Z, part C: targets, statements, loops, comprehensions, the theorem of a def. -/
namespace Z
open PySem PySem.Spec PyProof.Rows L2 Evl
/-! ### targets -/
def GRel (K : PySem.W.Frag) (Ga : AG) (gt : TG) : Prop := ∀ g dl ms σ H v sv P Q, MemOk K g ms H → SlotsOk K g dl σ → RSV K g v sv → Ga sv dl ms P → NRel K g H P Q → gt v σ H Q
def GsRel (K : PySem.W.Frag) (Ga : AGs) (gt : TGs) : Prop := ∀ g dl ms σ H vs ss P Q, MemOk K g ms H → SlotsOk K g dl σ → RSs K g vs ss → Ga ss dl ms P → NRel K g H P Q → gt vs σ H Q
def aName (i : Nat) : AG := fun sv dl ms P => P (dl.set i (some sv)) ms
def aGNil : AGs := fun xs dl ms P => xs = [] ∧ P dl ms
def kG (u : AGs) (r : List SV) (P : SL → ME → Prop) : SL → ME → Prop := fun dl ms => u r dl ms P
def aGCons (t : AG) (u : AGs) : AGs := fun xs dl ms P => ∃ x r, xs = x :: r ∧ t x dl ms (kG u r P)
def aGTup (n : Nat) (ts : AGs) : AG := fun sv dl ms P => ∃ xs, seqT sv = some xs ∧ xs.length = n ∧ ts xs dl ms P
section
variable {K : PySem.W.Frag}
theorem gr_name {i : Nat} : GRel K (aName i) (gName i) := fun g dl ms σ H v sv P Q m s r p nr => nr _ ms g _ H m.nx (s.set r) p
theorem gr_nil : GsRel K aGNil gNil := by
  intro g dl ms σ H vs ss P Q m s r ⟨e, p⟩ nr
  subst e
  cases r
  exact ⟨rfl, nr dl ms g σ H m.nx s p⟩
theorem gr_cons {t : AG} {u : AGs} {tc : TG} {uc : TGs} (h1 : GRel K t tc) (h2 : GsRel K u uc) : GsRel K (aGCons t u) (gCons tc uc) := by
  intro g dl ms σ H vs ss P Q m s r ⟨x, rr, e, p⟩ nr
  subst e
  cases r with
  | cons r1 r2 =>
    refine ⟨_, _, rfl, h1 g dl ms σ H _ x _ _ m s r1 p fun dl1 ms1 g1 σ1 H1 n1 s1 p1 => ?_⟩
    exact h2 g1 dl1 ms1 σ1 H1 _ rr P Q n1.mem s1 (RSs.mono n1.le r2) p1 (nr.mono n1)
theorem gr_tup {n : Nat} {ts : AGs} {tc : TGs} (h : GsRel K ts tc) : GRel K (aGTup n ts) (gTup K n tc) := by
  intro g dl ms σ H v sv P Q m s r ⟨xs, e, hl, p⟩ nr
  obtain ⟨a, vs, e1, h1, h2⟩ := seqT_ok m r e
  exact ⟨a, vs, e1, h1, by rw [Paired.length h2]; exact hl, h g dl ms σ H vs xs P Q m s h2 p nr⟩
end
/-! ### statements -/
def aNext : AS := fun _ De dl ms => De.nx dl ms
def kSeq (S : AS) (Wa : AW) (De : AEnds) : SL → ME → Prop := fun dl ms => S Wa De dl ms
def aSeq (S T : AS) : AS := fun Wa De dl ms => S Wa { De with nx := kSeq T Wa De } dl ms
def kDrop (De : AEnds) (dl : SL) : SV → ME → Prop := fun _ ms => De.nx dl ms
def aDrop (A : AE) : AS := fun Wa De dl ms => A Wa dl ms (kDrop De dl)
def aRet (A : AE) : AS := fun Wa De dl ms => A Wa dl ms De.rt
def aRetN : AS := fun _ De _ ms => De.rt (.d .none) ms
def kIfS (S T : AS) (Wa : AW) (De : AEnds) (dl : SL) : Bool → ME → Prop := fun b ms => if b = true then S Wa De dl ms else T Wa De dl ms
def aIfS (C : AT) (S T : AS) : AS := fun Wa De dl ms => C Wa dl ms (kIfS S T Wa De dl)
def kAsg (Ga : AG) (De : AEnds) (dl : SL) : SV → ME → Prop := fun x ms => Ga x dl ms De.nx
def aAsg (A : AE) (Ga : AG) : AS := fun Wa De dl ms => A Wa dl ms (kAsg Ga De dl)
def aBrk : AS := fun _ De dl ms => De.bk dl ms
def aCont : AS := fun _ De dl ms => De.ct dl ms
def aNever : AS := fun _ _ _ _ => False
section
variable {X : Cx} {W : WX} {pos : Pos} {st : Stmt} {rest : List Stmt} {S T : AS} {A : AE} {C : AT} {e c : Expr}
theorem ss_nil : PSs X [] (sL X.K W aNext) := PSsm pss_nil fun D σ H ⟨g, dl, ms, Wa, De, st, p, dr⟩ => dr.nx dl ms g σ H st.mem.nx st.slo p
theorem ss_cons (h1 : PS X st (sL X.K W S)) (h2 : PSs X rest (sL X.K W T)) : PSs X (st :: rest) (sL X.K W (aSeq S T)) :=
  PSsm (pss_cons h1 h2) fun D σ H ⟨g, dl, ms, Wa, De, st, p, dr⟩ => ⟨g, dl, ms, Wa, { De with nx := kSeq T Wa De }, st, p,
    ⟨fun dl1 ms1 g1 σ1 H1 n1 s1 p1 => ⟨g1, dl1, ms1, Wa, De, ⟨n1.mem, s1, st.wr.mono n1⟩, p1, dr.mono n1⟩, dr.rt, dr.bk, dr.ct⟩⟩
theorem ss_one (h1 : PS X st (sL X.K W S)) : PSs X [st] (sL X.K W S) := pss_one h1
theorem s_expr (he : PE X e (eL X.K W A)) (hs : swapsWith e none pos.line X.env = pure false := by rfl) : PS X (.Expr e pos) (sL X.K W (aDrop A)) :=
  PSm (ps_expr he hs) fun D σ H ⟨g, dl, ms, Wa, De, st, p, dr⟩ => ⟨g, dl, ms, Wa, _, st, p, fun sv ms1 g1 v H1 n1 r1 p1 => dr.nx dl ms1 g1 σ H1 n1 (st.slo.mono n1.le) p1⟩
theorem s_ret (he : PE X e (eL X.K W A)) : PS X (.Return (some e) pos) (sL X.K W (aRet A)) :=
  PSm (ps_ret he) fun D σ H ⟨g, dl, ms, Wa, De, st, p, dr⟩ => ⟨g, dl, ms, Wa, _, st, p, dr.rt⟩
theorem s_retN : PS X (.Return none pos) (sL X.K W aRetN) :=
  PSm ps_retN fun D σ H ⟨g, dl, ms, Wa, De, st, p, dr⟩ => dr.rt (.d .none) ms g .non H st.mem.nx RD.non p
theorem s_if {a b : List Stmt} (hc : PT X c (tL X.K W C)) (ha : PSs X a (sL X.K W S)) (hb : PSs X b (sL X.K W T)) : PS X (.If c a b pos) (sL X.K W (aIfS C S T)) :=
  PSm (ps_if hc ha hb) fun D σ H ⟨g, dl, ms, Wa, De, st, p, dr⟩ => ⟨g, dl, ms, Wa, _, st, p, fun b ms1 g1 H1 n1 p1 => by
    cases b with
    | true => exact ⟨g1, dl, ms1, Wa, De, st.to n1, p1, dr.mono n1⟩
    | false => exact ⟨g1, dl, ms1, Wa, De, st.to n1, p1, dr.mono n1⟩⟩
theorem asg_lift {Ga : AG} {gt : TG} (gr : GRel X.K Ga gt) (D : Ends) (σ : L2.St) (H : Hp) (h : sL X.K W (aAsg A Ga) D σ H) : tAsg (eL X.K W A) gt D σ H := by
  obtain ⟨g, dl, ms, Wa, De, st, p, dr⟩ := h
  exact ⟨g, dl, ms, Wa, _, st, p, fun sv ms1 g1 v H1 n1 r1 p1 => gr g1 dl ms1 σ H1 v sv De.nx D.nx n1.mem (st.slo.mono n1.le) r1 p1 (dr.nx.mono n1)⟩
theorem s_set {i : Nat} {x : Str} {pos' : Pos} (hN : X.N.Nodup) (hi : X.N[i]? = some x) (hx : Loc X.env.scope x) (he : PE X e (eL X.K W A)) (hs : swapsWith e (some (.Name x pos')) pos.line X.env = pure false := by rfl) (hf : X.fn x = true ∨ X.env.scope.names.lookup x = some .local := by first | exact .inl rfl | exact .inr rfl | assumption) :
    PS X (.Assign [.Name x pos'] e pos) (sL X.K W (aAsg A (aName i))) := PSm (ps_set hN hi hx he hs hf) (asg_lift gr_name)
theorem s_asg {tg : Expr} {Ga : AG} {gt : TG} (hg : PG X tg gt) (gr : GRel X.K Ga gt) (he : PE X e (eL X.K W A)) (hs : swapsWithSole [tg] e pos.line X.env = pure false := by rfl) (hw : swappedStores [tg] e X.env = pure none := by rfl)
    (h1 : (assignEach [tg] X.env).map (·.2) = [assign tg X.env] := by rfl) : PS X (.Assign [tg] e pos) (sL X.K W (aAsg A Ga)) := PSm (ps_asg he hg hs hw h1) (asg_lift gr)
theorem s_pass : PS X (.Pass pos) (sL X.K W aNext) := PSm ps_pass fun D σ H ⟨g, dl, ms, Wa, De, st, p, dr⟩ => dr.nx dl ms g σ H st.mem.nx st.slo p
theorem s_break : PS X (.Break pos) (sL X.K W aBrk) := PSm ps_break fun D σ H ⟨g, dl, ms, Wa, De, st, p, dr⟩ => dr.bk dl ms g σ H st.mem.nx st.slo p
theorem s_continue : PS X (.Continue pos) (sL X.K W aCont) := PSm ps_continue fun D σ H ⟨g, dl, ms, Wa, De, st, p, dr⟩ => dr.ct dl ms g σ H st.mem.nx st.slo p
theorem s_never : PS X st (sL X.K W aNever) := PSm ps_never fun _ _ _ ⟨_, _, _, _, _, _, p, _⟩ => p
theorem ss_never {sts : List Stmt} : PSs X sts (sL X.K W aNever) := PSsm pss_never fun _ _ _ ⟨_, _, _, _, _, _, p, _⟩ => p
/-- a, b = x, y -/
def kPar (i j : Nat) (De : AEnds) (dl : SL) : List SV → ME → Prop := fun xs ms => ∃ v w, xs = [v, w] ∧ De.nx ((dl.set i (some v)).set j (some w)) ms
def aPar (i j : Nat) (R : AA) : AS := fun Wa De dl ms => R Wa dl ms (kPar i j De dl)
theorem s_par {R : AA} {i j : Nat} {x y : Str} {a b : Expr} {px py pt : Pos} {kt k2 pt2} (hc : X.calm = true) (hN : X.N.Nodup) (hi : X.N[i]? = some x) (hj : X.N[j]? = some y) (hij : i ≠ j)
    (hx : X.env.scope.names.lookup x = some .local) (hy : X.env.scope.names.lookup y = some .local) (ha : PA X [a, b] (aL X.K W R))
    (hw : swappedStores [.Tuple [.Name x px, .Name y py] kt pt] (.Tuple [a, b] k2 pt2) X.env = pure (some [x, y]))
    (hs : swapsWithSole [.Tuple [.Name x px, .Name y py] kt pt] (.Tuple [a, b] k2 pt2) pos.line X.env = pure false := by rfl) :
    PS X (.Assign [.Tuple [.Name x px, .Name y py] kt pt] (.Tuple [a, b] k2 pt2) pos) (sL X.K W (aPar i j R)) :=
  PSm (ps_par hc hN hi hj hij hx hy ha hw hs) fun D σ H ⟨g, dl, ms, Wa, De, st, p, dr⟩ => ⟨g, dl, ms, Wa, _, st, p, fun ss ms1 g1 vs H1 n1 r1 ⟨v, w, e, p1⟩ => by
    subst e
    cases r1 with
    | cons q1 r2 => cases r2 with
      | cons q2 r3 =>
        cases r3
        exact ⟨_, _, rfl, dr.nx _ ms1 g1 _ H1 n1 (((st.slo.mono n1.le).set q1).set q2) p1⟩⟩
/-- name op= e -/
abbrev AIp := SV → SV → ME → (SV → ME → Prop) → Prop
def CoIp (K : PySem.W.Frag) (r : TIp) (ra : AIp) : Prop := ∀ g ms H x y sx sy P Q, MemOk K g ms H → RSV K g x sx → RSV K g y sy → ra sx sy ms P → VRel K g H P Q → r x y H Q
def kAug2 (i : Nat) (De : AEnds) (dl : SL) : SV → ME → Prop := fun z ms => De.nx (dl.set i (some z)) ms
def kAug (i : Nat) (ra : AIp) (x : SV) (De : AEnds) (dl : SL) : SV → ME → Prop := fun y ms => ra x y ms (kAug2 i De dl)
def aAug (i : Nat) (A : AE) (ra : AIp) : AS := fun Wa De dl ms => ∃ x, dl[i]? = some (some x) ∧ A Wa dl ms (kAug i ra x De dl)
theorem s_aug {i : Nat} {x : Str} {op : Operator} {ti : TIp} {ra : AIp} {pos' : Pos} (hN : X.N.Nodup) (hi : X.N[i]? = some x) (hx : Loc X.env.scope x) (ho : PIp X op ti) (co : CoIp X.K ti ra) (he : PE X e (eL X.K W A)) (hf : X.fn x = true ∨ X.env.scope.names.lookup x = some .local := by first | exact .inl rfl | exact .inr rfl | assumption) :
    PS X (.AugAssign (.Name x pos') op e pos) (sL X.K W (aAug i A ra)) :=
  PSm (ps_aug hN hi hx he ho hf) fun D σ H ⟨g, dl, ms, Wa, De, st, ⟨sx, e, p⟩, dr⟩ => by
    obtain ⟨v, h1, h2⟩ := st.slo.2 i sx e
    refine ⟨v, h1, g, dl, ms, Wa, _, st, p, fun sy ms1 g1 y H1 n1 r1 p1 => ?_⟩
    exact co g1 ms1 H1 v y sx sy _ _ n1.mem (h2.mono n1.le) r1 p1 fun sz ms2 g2 z H2 n2 r2 p2 => dr.nx _ ms2 g2 _ H2 (n1.trans n2) (((st.slo.mono n1.le).mono n2.le).set r2) p2
end
/-! ### while -/
def aWhile (C : AT) (S : AS) : AS := fun Wa De dl ms => ∃ Pv : Nat → SL → ME → Prop, (∃ m, Pv m dl ms) ∧ ∀ m dl ms, Pv m dl ms →
  C Wa dl ms fun b ms1 => if b = true then S Wa { De with nx := fun dl' ms' => ∃ m', m' < m ∧ Pv m' dl' ms', ct := fun dl' ms' => ∃ m', m' < m ∧ Pv m' dl' ms', bk := De.nx } dl ms1 else De.nx dl ms1
section
variable {X : Cx} {W : WX} {pos : Pos} {S : AS} {C : AT} {c : Expr} {body : List Stmt}
theorem s_while (hp : PassesOwn (model X.prog X.w) X.A X.env X.xe) (hc : PT X c (tL X.K W C)) (hb : PSs X body (sL X.K W S)) : PS X (.While c body [] pos) (sL X.K W (aWhile C S)) :=
  PSm (ps_while hp hc hb) fun D σ H ⟨g, dl, ms, Wa, De, st, ⟨Pv, ⟨m0, p0⟩, turn⟩, dr⟩ => by
    refine ⟨fun m σ1 H1 => ∃ g1 dl1 ms1, Nx X.K g H ms1 g1 H1 ∧ SlotsOk X.K g1 dl1 σ1 ∧ Pv m dl1 ms1, ⟨m0, g, dl, ms, st.mem.nx, st.slo, p0⟩, fun m σ1 H1 ⟨g1, dl1, ms1, n1, s1, p1⟩ => ?_⟩
    refine ⟨g1, dl1, ms1, Wa, _, ⟨n1.mem, s1, st.wr.mono n1⟩, turn m dl1 ms1 p1, fun b ms2 g2 H2 n2 p2 => ?_⟩
    cases b with
    | false => exact dr.nx dl1 ms2 g2 σ1 H2 (n1.trans n2) (s1.mono n2.le) p2
    | true =>
      refine ⟨fun σ' H' => ∃ m', m' < m ∧ ∃ g1 dl1 ms1, Nx X.K g H ms1 g1 H' ∧ SlotsOk X.K g1 dl1 σ' ∧ Pv m' dl1 ms1, fun _ _ z => z, ?_⟩
      have n12 := n1.trans n2
      refine ⟨g2, dl1, ms2, Wa, _, ⟨n2.mem, s1.mono n2.le, st.wr.mono n12⟩, p2, ⟨fun dl3 ms3 g3 σ3 H3 n3 s3 ⟨m', hm, p3⟩ => ⟨m', hm, g3, dl3, ms3, n12.trans n3, s3, p3⟩, dr.rt.mono n12, dr.nx.mono n12, fun dl3 ms3 g3 σ3 H3 n3 s3 ⟨m', hm, p3⟩ => ⟨m', hm, g3, dl3, ms3, n12.trans n3, s3, p3⟩⟩⟩
end
/-! ### for -/
def aFor (A : AI) (Ga : AG) (S : AS) : AS := fun Wa De dl ms => A Wa dl ms fun it ms1 => ∃ Pv : Nat → SL → ME → Prop, Pv 0 dl ms1 ∧ (∀ i dl' ms', i ≤ it.n → Pv i dl' ms' → it.inv ms') ∧
  (∀ i x dl' ms', i < it.n → it.at_ i = some x → Pv i dl' ms' → Ga x dl' ms' fun dl2 ms2 => S Wa { De with nx := Pv (i + 1), ct := Pv (i + 1), bk := De.nx } dl2 ms2) ∧ ∀ dl' ms', Pv it.n dl' ms' → De.nx dl' ms'
section
variable {X : Cx} {W : WX} {pos : Pos} {S : AS} {iter tg : Expr} {body : List Stmt} {A : AI} {Ga : AG} {gt : TG}
theorem s_for (hp : PassesOwn (model X.prog X.w) X.A X.env X.xe) (hc : X.calm = true) (hi : PI X tg iter (iL X.K W A)) (hg : PG X tg gt) (gr : GRel X.K Ga gt) (hb : PSs X body (sL X.K W S))
    (hs : ∀ x, foldedSetIterable iter X.env x = pure x := by intro _; rfl) : PS X (.For tg iter body [] pos) (sL X.K W (aFor A Ga S)) :=
  PSm (ps_for hp hc hi hg hb hs) fun D σ H ⟨g, dl, ms, Wa, De, st, p, dr⟩ => by
    refine ⟨g, dl, ms, Wa, _, st, p, fun it ms1 g1 H1 J n1 ir p1 => ?_⟩
    obtain ⟨Pv, p0, hinv, hs, hd⟩ := p1
    refine ⟨fun i m σ2 H2 => m = it.n - i ∧ i ≤ it.n ∧ ∃ g2 dl2 ms2, Nx X.K g1 H1 ms2 g2 H2 ∧ SlotsOk X.K g2 dl2 σ2 ∧ Pv i dl2 ms2, ⟨it.n, by simp, Nat.zero_le _, g1, dl, ms1, n1.mem.nx, st.slo.mono n1.le, p0⟩, ?_⟩
    rintro i m σ2 H2 ⟨rfl, hi, g2, dl2, ms2, n2, s2, p2⟩
    have iv := hinv i dl2 ms2 hi p2
    obtain ⟨r1, r2⟩ := ir i g2 ms2 H2 n2 iv
    by_cases hlt : i < it.n
    · obtain ⟨go, yl⟩ := r1 hlt
      refine .inr ⟨go, fun σ' H' => ∃ g2 dl2 ms2, Nx X.K g1 H1 ms2 g2 H' ∧ SlotsOk X.K g2 dl2 σ' ∧ Pv (i + 1) dl2 ms2, fun σ' H' z => ⟨it.n - (i + 1), by omega, rfl, hlt, z⟩, fun x H3 y => ?_⟩
      obtain ⟨g3, sv, n3, ea, r3⟩ := yl x H3 y
      have n13 := n2.trans n3
      have n03 := n1.trans n13
      refine gr g3 dl2 ms2 σ2 H3 x sv _ _ n3.mem (s2.mono n3.le) r3 (hs i sv dl2 ms2 hlt ea p2) fun dl4 ms4 g4 σ4 H4 n4 s4 p4 => ?_
      have n14 := n13.trans n4
      have n04 := n03.trans n4
      exact ⟨g4, dl4, ms4, Wa, _, ⟨n4.mem, s4, st.wr.mono n04⟩, p4, ⟨fun dl5 ms5 g5 σ5 H5 n5 s5 p5 => ⟨g5, dl5, ms5, n14.trans n5, s5, p5⟩, dr.rt.mono n04, dr.nx.mono n04, fun dl5 ms5 g5 σ5 H5 n5 s5 p5 => ⟨g5, dl5, ms5, n14.trans n5, s5, p5⟩⟩⟩
    · have e : i = it.n := by omega
      exact .inl ⟨r2 e, dr.nx dl2 ms2 g2 σ2 H2 (n1.trans n2) s2 (hd dl2 ms2 (e ▸ p2))⟩
end
/-! what is walked -/
def itSeq (xs : List SV) (inv : ME → Prop) : AIt := ⟨xs.length, fun i => xs[i]?, inv⟩
def kIL (P : AIt → ME → Prop) : SV → ME → Prop := fun sv ms => ∃ xs, seqL ms sv = some xs ∧ P (itSeq xs fun ms' => seqL ms' sv = some xs) ms
def aIL (A : AE) : AI := fun Wa dl ms P => A Wa dl ms (kIL P)
def kIT (P : AIt → ME → Prop) : SV → ME → Prop := fun sv ms => ∃ xs, seqT sv = some xs ∧ P (itSeq xs fun _ => True) ms
def aIT (A : AE) : AI := fun Wa dl ms P => A Wa dl ms (kIT P)
def kIR1 (P : AIt → ME → Prop) : List SV → ME → Prop := fun ss ms => ∃ j : Int, ss = [.d (.int j)] ∧ -(2 ^ 62) ≤ j ∧ j < 2 ^ 62 ∧ P ⟨j.toNat, fun i => some (.d (.int (i : Int))), fun _ => True⟩ ms
def aIR1 (R : AA) : AI := fun Wa dl ms P => R Wa dl ms (kIR1 P)
def kIR2 (P : AIt → ME → Prop) : List SV → ME → Prop := fun ss ms => ∃ i j : Int, ss = [.d (.int i), .d (.int j)] ∧ (-(2 ^ 62) ≤ i ∧ i < 2 ^ 62 ∧ -(2 ^ 62) ≤ j ∧ j < 2 ^ 62) ∧ P ⟨(j - i).toNat, fun k => some (.d (.int (i + (k : Int)))), fun _ => True⟩ ms
def aIR2 (R : AA) : AI := fun Wa dl ms P => R Wa dl ms (kIR2 P)
def kIS (P : AIt → ME → Prop) : SV → ME → Prop := fun sv ms => ∃ x : Str, sv = .d (.str x) ∧ P ⟨x.cps.size, fun i => (x.cps[i]?).map fun c => .d (.str ⟨#[c]⟩), fun _ => True⟩ ms
def aIS (A : AE) : AI := fun Wa dl ms P => A Wa dl ms (kIS P)
section
variable {X : Cx} {W : WX} {tg e : Expr} {A : AE} {R : AA}
theorem i_list (h : PE X e (eL X.K W A)) : PI X tg e (iL X.K W (aIL A)) := PIm (pi_list h) fun σ H Q ⟨g, dl, ms, Wa, P, st, p, ir⟩ => by
  refine ⟨g, dl, ms, Wa, _, st, p, fun sv ms1 g1 v H1 n1 r1 ⟨xs, e, p1⟩ => ?_⟩
  obtain ⟨a, vs, ev, hq, _⟩ := seqL_ok n1.mem r1 e
  refine ⟨a, ev, ⟨vs, hq⟩, ir _ ms1 g1 H1 _ n1 (fun i g2 ms2 H2 n2 iv => ?_) p1⟩
  obtain ⟨a2, vs2, ev2, hq2, rs2⟩ := seqL_ok n2.mem (r1.mono n2.le) iv
  have ea : a2 = a := by rw [ev] at ev2; cases ev2; rfl
  subst ea
  have hl := Paired.length rs2
  refine ⟨fun hi => ?_, fun hi => ⟨vs2, hq2, by rw [hi, hl]; exact Nat.le_refl _⟩⟩
  have hi' : i < xs.length := hi
  obtain ⟨x, hx, rx⟩ := Paired.get rs2 (List.getElem?_eq_getElem hi')
  refine ⟨⟨vs2, x, hq2, hx⟩, fun y H' ⟨e1, e2⟩ => ?_⟩
  subst e1
  have := e2 vs2 hq2
  rw [hx] at this
  cases this
  exact ⟨g2, xs[i], n2.mem.nx, List.getElem?_eq_getElem hi', rx⟩
theorem i_tup (h : PE X e (eL X.K W A)) : PI X tg e (iL X.K W (aIT A)) := PIm (pi_tup h) fun σ H Q ⟨g, dl, ms, Wa, P, st, p, ir⟩ => by
  refine ⟨g, dl, ms, Wa, _, st, p, fun sv ms1 g1 v H1 n1 r1 ⟨xs, e, p1⟩ => ?_⟩
  obtain ⟨a, vs, ev, hq, _⟩ := seqT_ok n1.mem r1 e
  refine ⟨a, ev, ⟨vs, hq⟩, ir _ ms1 g1 H1 _ n1 (fun i g2 ms2 H2 n2 iv => ?_) p1⟩
  obtain ⟨a2, vs2, ev2, hq2, rs2⟩ := seqT_ok n2.mem (r1.mono n2.le) e
  have ea : a2 = a := by rw [ev] at ev2; cases ev2; rfl
  subst ea
  have hl := Paired.length rs2
  refine ⟨fun hi => ?_, fun hi => ⟨vs2, hq2, by rw [hi, hl]; exact Nat.le_refl _⟩⟩
  have hi' : i < xs.length := hi
  obtain ⟨x, hx, rx⟩ := Paired.get rs2 (List.getElem?_eq_getElem hi')
  refine ⟨⟨vs2, x, hq2, hx⟩, fun y H' ⟨e1, e2⟩ => ?_⟩
  subst e1
  have := e2 vs2 hq2
  rw [hx] at this
  cases this
  exact ⟨g2, xs[i], n2.mem.nx, List.getElem?_eq_getElem hi', rx⟩
theorem ir_range {K : PySem.W.Frag} {g : G} {H : Hp} {lo : Int} {n : Nat} {f : Nat → Option SV} (hf : ∀ i, f i = some (.d (.int (lo + (i : Int))))) : IRel K g H ⟨n, f, fun _ => True⟩ (Itr lo n) := fun i g2 ms2 H2 n2 _ => by
  refine ⟨fun hi => ⟨hi, fun x H' ⟨e1, e2⟩ => ?_⟩, fun hi => Nat.le_of_eq hi.symm⟩
  subst e1 e2
  exact ⟨g2, .d (.int (lo + (i : Int))), n2.mem.nx, hf i, RD.int _⟩
theorem i_range1 {a : Expr} {p pos : Pos} (hg : Gl X "range") (hm : X.mg "range" = none) (ha : PA X [a] (aL X.K W R)) (hs : starEach [a] X.env = [(false, eval a X.env)] := by rfl) : PI X tg (.Call (.Name "range" p) [a] [] pos) (iL X.K W (aIR1 R)) :=
  PIm (pi_range1 hg hm ha hs) fun σ H Q ⟨g, dl, ms, Wa, P, st, p, ir⟩ => ⟨g, dl, ms, Wa, _, st, p, fun ss ms1 g1 vs H1 n1 r1 ⟨j, e, h1, h2, p1⟩ => by
    subst e
    cases r1 with
    | cons q1 r2 =>
      cases r2
      cases q1
      exact ⟨j, rfl, h1, h2, ir _ ms1 g1 H1 _ n1 (ir_range (lo := 0) fun i => by simp) p1⟩⟩
theorem i_range2 {a b : Expr} {p pos : Pos} (hg : Gl X "range") (hm : X.mg "range" = none) (ha : PA X [a, b] (aL X.K W R)) (hs : starEach [a, b] X.env = [(false, eval a X.env), (false, eval b X.env)] := by rfl) (hs2 : starEach [b] X.env = [(false, eval b X.env)] := by rfl) : PI X tg (.Call (.Name "range" p) [a, b] [] pos) (iL X.K W (aIR2 R)) :=
  PIm (pi_range2 hg hm ha hs hs2) fun σ H Q ⟨g, dl, ms, Wa, P, st, p, ir⟩ => ⟨g, dl, ms, Wa, _, st, p, fun ss ms1 g1 vs H1 n1 r1 ⟨i, j, e, h1, p1⟩ => by
    subst e
    cases r1 with
    | cons q1 r2 => cases r2 with
      | cons q2 r3 =>
        cases r3
        cases q1
        cases q2
        exact ⟨i, j, rfl, h1, ir _ ms1 g1 H1 _ n1 (ir_range fun _ => rfl) p1⟩⟩
theorem i_str (h : PE X e (eL X.K W A)) : PI X tg e (iL X.K W (aIS A)) := PIm (pi_str h) fun σ H Q ⟨g, dl, ms, Wa, P, st, p, ir⟩ => by
  refine ⟨g, dl, ms, Wa, _, st, p, fun sv ms1 g1 v H1 n1 r1 ⟨x, e, p1⟩ => ?_⟩
  subst e
  cases r1
  refine ⟨x, rfl, ir ⟨x.cps.size, fun i => (x.cps[i]?).map fun c => .d (.str ⟨#[c]⟩), fun _ => True⟩ ms1 g1 H1 _ n1 (fun i g2 ms2 H2 n2 _ => ⟨fun hi => ⟨hi, fun y H' ⟨e1, c, e2, e3⟩ => ?_⟩, fun hi => Nat.le_of_eq hi.symm⟩) p1⟩
  subst e1 e3
  exact ⟨g2, .d (.str ⟨#[c]⟩), n2.mem.nx, by show (x.cps[i]?).map _ = _; rw [e2]; rfl, RD.str _⟩
end
/-! ### list comprehensions -/
theorem wipe_get : ∀ (vs : List Nat) (σ : L2.St) (i : Nat), (wipe σ vs)[i]? = if i ∈ vs then (σ[i]?).map (fun _ => none) else σ[i]?
  | [], σ, i => by simp [wipe]
  | v :: vs, σ, i => by
    unfold wipe
    by_cases e : v = i
    · subst e
      rw [List.getElem?_set, if_pos rfl, wipe_length, if_pos List.mem_cons_self]
      by_cases hl : v < σ.length
      · rw [if_pos hl, List.getElem?_eq_getElem hl]; rfl
      · rw [if_neg hl, List.getElem?_eq_none (by omega)]; rfl
    · rw [List.getElem?_set_ne e, wipe_get vs σ i]
      have : (i ∈ v :: vs) ↔ i ∈ vs := by
        constructor
        · intro h; rcases List.mem_cons.mp h with z | z
          · exact absurd z.symm e
          · exact z
        · exact List.mem_cons_of_mem _
      by_cases hi : i ∈ vs
      · rw [if_pos hi, if_pos (this.mpr hi)]
      · rw [if_neg hi, if_neg fun z => hi (this.mp z)]
theorem wipe_set {σ : L2.St} {vs : List Nat} {j : Nat} {y : Option V} (h : j ∈ vs) : wipe (σ.set j y) vs = wipe σ vs := by
  apply List.ext_getElem?
  intro i
  rw [wipe_get, wipe_get]
  by_cases hi : i ∈ vs
  · rw [if_pos hi, if_pos hi]
    by_cases e : j = i
    · subst e
      rw [List.getElem?_set, if_pos rfl]
      by_cases hl : j < σ.length
      · rw [if_pos hl, List.getElem?_eq_getElem hl]; rfl
      · rw [if_neg hl, List.getElem?_eq_none (by omega)]
    · rw [List.getElem?_set_ne e]
  · rw [if_neg hi, if_neg hi, List.getElem?_set_ne (fun z : j = i => hi (by rw [← z]; exact h))]
theorem wipe_wipe {σ : L2.St} {vs : List Nat} : wipe (wipe σ vs) vs = wipe σ vs := by
  apply List.ext_getElem?
  intro i
  rw [wipe_get, wipe_get]
  by_cases hi : i ∈ vs
  · rw [if_pos hi, if_pos hi]; cases σ[i]? <;> rfl
  · rw [if_neg hi, if_neg hi]
def wipeA (dl : SL) : List Nat → SL
  | [] => dl
  | v :: vs => (wipeA dl vs).set v none
theorem SlotsOk.wipe {K : PySem.W.Frag} {g : G} {dl : SL} {σ : L2.St} (h : SlotsOk K g dl σ) : ∀ vs : List Nat, SlotsOk K g (wipeA dl vs) (L2.wipe σ vs)
  | [] => h
  | v :: vs => (SlotsOk.wipe h vs).setN
/-- a target within a comprehension stores to the comprehension's own names alone -/
def GW (gt : TG) (vs : List Nat) : Prop := ∀ v (τ σ : L2.St) H Q, L2.wipe τ vs = L2.wipe σ vs → gt v τ H Q → gt v τ H fun σ2 H2 => L2.wipe σ2 vs = L2.wipe σ vs ∧ Q σ2 H2
def GsW (gt : TGs) (vs : List Nat) : Prop := ∀ v (τ σ : L2.St) H Q, L2.wipe τ vs = L2.wipe σ vs → gt v τ H Q → gt v τ H fun σ2 H2 => L2.wipe σ2 vs = L2.wipe σ vs ∧ Q σ2 H2
theorem gw_name {i : Nat} {vs : List Nat} (h : i ∈ vs) : GW (gName i) vs := fun v τ σ H Q e q => ⟨(wipe_set h).trans e, q⟩
theorem gw_nil {vs : List Nat} : GsW gNil vs := fun v τ σ H Q e ⟨q1, q2⟩ => ⟨q1, e, q2⟩
theorem mono_name {i : Nat} : ∀ v σ H (Q Q' : L2.St → Hp → Prop), (∀ s h, Q s h → Q' s h) → gName i v σ H Q → gName i v σ H Q' := fun v σ H Q Q' k q => k _ _ q
def GMono (gt : TG) : Prop := ∀ v σ H (Q Q' : L2.St → Hp → Prop), (∀ s h, Q s h → Q' s h) → gt v σ H Q → gt v σ H Q'
def GsMono (gt : TGs) : Prop := ∀ v σ H (Q Q' : L2.St → Hp → Prop), (∀ s h, Q s h → Q' s h) → gt v σ H Q → gt v σ H Q'
theorem gm_nil : GsMono gNil := fun v σ H Q Q' k ⟨a, b⟩ => ⟨a, k _ _ b⟩
theorem gm_cons {t : TG} {u : TGs} (h1 : GMono t) (h2 : GsMono u) : GsMono (gCons t u) := fun v σ H Q Q' k ⟨x, r, e, q⟩ => ⟨x, r, e, h1 _ _ _ _ _ (fun s h q => h2 _ _ _ _ _ k q) q⟩
theorem gm_tup {K : PySem.W.Frag} {n : Nat} {u : TGs} (h : GsMono u) : GMono (gTup K n u) := fun v σ H Q Q' k ⟨a, xs, e, h1, h2, q⟩ => ⟨a, xs, e, h1, h2, h _ _ _ _ _ k q⟩
theorem gw_cons {t : TG} {u : TGs} {vs : List Nat} (h1 : GW t vs) (m1 : GMono t) (h2 : GsW u vs) : GsW (gCons t u) vs := fun v τ σ H Q e ⟨x, r, ev, q⟩ => ⟨x, r, ev, m1 _ _ _ _ _ (fun s h ⟨q1, q2⟩ => h2 r s σ h Q q1 q2) (h1 x τ σ H _ e q)⟩
theorem gw_tup {K : PySem.W.Frag} {n : Nat} {u : TGs} {vs : List Nat} (h : GsW u vs) : GW (gTup K n u) vs := fun v τ σ H Q e ⟨a, xs, ev, h1, h2, q⟩ => ⟨a, xs, ev, h1, h2, h xs τ σ H Q e q⟩
def finD (acc : List SV) (ms : ME) (P : SV → ME → Prop) : Prop := ∃ ds, allD acc = some ds ∧ P (.d (.list ds)) ms
def finO (acc : List SV) (ms : ME) (P : SV → ME → Prop) : Prop := P (.o ms.length) (ms ++ [.lst acc])
def aLc (fin : List SV → ME → (SV → ME → Prop) → Prop) (A : AI) (Ga : AG) (C : AT) (E : AE) (vs : List Nat) : AE := fun Wa dl ms P => A Wa dl ms fun it ms1 => it.n ≤ sizeLine ∧ ∃ Pv : Nat → List SV → ME → Prop, Pv 0 [] ms1 ∧ (∀ i acc ms', i ≤ it.n → Pv i acc ms' → it.inv ms') ∧
  (∀ i x acc ms', i < it.n → it.at_ i = some x → Pv i acc ms' → Ga x (wipeA dl vs) ms' fun dl2 ms2 => C Wa dl2 ms2 fun b ms3 => if b = true then E Wa dl2 ms3 fun y ms4 => Pv (i + 1) (acc ++ [y]) ms4 else Pv (i + 1) acc ms3) ∧ ∀ acc ms', Pv it.n acc ms' → fin acc ms' P
def FinOk (K : PySem.W.Frag) (fin : List SV → ME → (SV → ME → Prop) → Prop) : Prop := ∀ g0 H0 g H acc vs Dd ms P Q, MemOk K g ms H → Nx K g0 H0 ms g H → H0 Dd = none → g.F Dd = none → Dd ∉ g.as → H Dd = some (.lst vs) → RSs K g vs acc → fin acc ms P → VRel K g0 H0 P Q → Q (.ref Dd) H
theorem nx_free {K : PySem.W.Frag} {g0 g g' : G} {H0 H H' : Hp} {ms ms' : ME} {Dd : Addr} (n : Nx K g0 H0 ms g H) (h0 : H0 Dd = none) (le : Le g g') (m' : MemOk K g' ms' H') (hH : ∀ b, b ≠ Dd → H' b = H b) (ho : ∀ b, b ≠ Dd → (g'.F b = g.F b) ∧ (b ∈ g'.as ↔ b ∈ g.as)) : Nx K g0 H0 ms' g' H' := by
  refine ⟨n.le.trans le, m', fun a h1 h2 h3 => ?_⟩
  have ne : a ≠ Dd := fun z => h1 (z ▸ h0)
  obtain ⟨q1, q2, q3⟩ := n.out a h1 h2 h3
  exact ⟨(hH a ne).trans q1, (ho a ne).1.trans q2, fun z => q3 ((ho a ne).2.mp z)⟩
theorem fin_D {K : PySem.W.Frag} : FinOk K finD := by
  intro g0 H0 g H acc vs Dd ms P Q m n h0 hF hA hD rs ⟨ds, ea, p⟩ vr
  have e := allD_map ea
  subst e
  obtain ⟨le, m'⟩ := m.inF hD hF hA
  refine vr (.d (.list ds)) ms _ _ _ (nx_free n h0 le m' (fun _ _ => rfl) fun b hb => ⟨upd_ne hb, Iff.rfl⟩) (show RD _ (V.ref Dd) (.list ds) from .lst upd_same ((RSs.rd rs).mono le.1)) p
theorem fin_O {K : PySem.W.Frag} : FinOk K finO := by
  intro g0 H0 g H acc vs Dd ms P Q m n h0 hF hA hD rs p vr
  refine vr _ _ _ _ _ (nx_free n h0 (le_own g Dd) (m.inO (mo := .lst acc) hD hF hA rs) (fun _ _ => rfl) fun b hb => ⟨rfl, ?_⟩) (own_at m) p
  show b ∈ g.as ++ [Dd] ↔ b ∈ g.as
  rw [List.mem_append]
  exact ⟨fun z => z.elim id fun q => absurd (by simpa using q) hb, .inl⟩
def aYes : AT := fun _ _ ms P => P true ms
section
variable {X : Cx} {W : WX} {pos : Pos}
theorem ts_nil : PTs X [] (tL X.K W aYes) := PTsm pts_nil fun σ H Q ⟨g, dl, ms, Wa, P, st, p, br⟩ => br true ms g H st.mem.nx p
theorem ts_one {c : Expr} {C : AT} (h : PT X c (tL X.K W C)) : PTs X [c] (tL X.K W C) := pts_one h
variable {elt tg iter : Expr} {ifs : List Expr} {scope : Scope} {own : List (Str × Nat)} {A : AI} {Ga : AG} {gt : TG} {C : AT} {E : AE} {fin : List SV → ME → (SV → ME → Prop) → Prop}
theorem lc_lift (gr : GRel X.K Ga gt) (gw : GW gt (own.map (·.2))) (fo : FinOk X.K fin) (σ : L2.St) (H : Hp) (Q : VK) (h : eL X.K W (aLc fin A Ga C E (own.map (·.2))) σ H Q) : tLc (iL X.K W A) gt (tL X.K W C) (eL X.K W E) (own.map (·.2)) σ H Q := by
  obtain ⟨g, dl, ms, Wa, P, st, p, vr⟩ := h
  refine ⟨g, dl, ms, Wa, _, st, p, fun it ms1 g1 H1 J n1 ir ⟨hz, Pv, p0, hinv, hs, hd⟩ => ?_⟩
  intro Dd hD
  have hF1 := n1.mem.fnone hD
  have hA1 := n1.mem.nas hD
  -- what holds between the turns
  refine ⟨fun i m H2 => m = it.n - i ∧ i ≤ it.n ∧ ∃ g2 ms2 vs acc, Nx X.K g1 H1 ms2 g2 H2 ∧ g2.F Dd = none ∧ Dd ∉ g2.as ∧ H2 Dd = some (.lst vs) ∧ RSs X.K g2 vs acc ∧ acc.length ≤ i ∧ Pv i acc ms2,
    ⟨it.n, by simp, Nat.zero_le _, g1, ms1, [], [], ⟨Le.refl _, n1.mem.outW hF1 hA1, fun a h1 h2 h3 => ⟨upd_ne fun z => h1 (z ▸ hD), h2, h3⟩⟩, hF1, hA1, upd_same, .nil, Nat.le_refl _, p0⟩, ?_⟩
  rintro i m H2 ⟨rfl, hi, g2, ms2, vs, acc, n2, hF, hA, hv, rs, hl, p2⟩
  have iv := hinv i acc ms2 hi p2
  have ir2 := ir i g2 ms2 H2 n2 iv
  by_cases hlt : i < it.n
  · obtain ⟨go, yl⟩ := ir2.1 hlt
    refine .inr ⟨go, fun H' => ∃ g2 ms2 vs acc, Nx X.K g1 H1 ms2 g2 H' ∧ g2.F Dd = none ∧ Dd ∉ g2.as ∧ H' Dd = some (.lst vs) ∧ RSs X.K g2 vs acc ∧ acc.length ≤ i + 1 ∧ Pv (i + 1) acc ms2, fun H' z => ⟨it.n - (i + 1), by omega, rfl, hlt, z⟩, fun x H3 y => ?_⟩
    obtain ⟨g3, sv, n3, ea, r3⟩ := yl x H3 y
    have o3 := n3.out Dd (by rw [hv]; intro z; cases z) hF hA
    refine gw x _ σ H3 _ wipe_wipe ?_
    refine gr g3 (wipeA dl (own.map (·.2))) ms2 _ H3 x sv _ _ n3.mem (((st.slo.mono n1.le).mono (n2.le.trans n3.le)).wipe _) r3 (hs i sv acc ms2 hlt ea p2) fun dl4 ms4 g4 σ4 H4 n4 s4 p4 => ?_
    have o4 := n4.out Dd (by rw [o3.1, hv]; intro z; cases z) o3.2.1 o3.2.2
    have n04 := n1.trans (n2.trans (n3.trans n4))
    refine ⟨g4, dl4, ms4, Wa, _, ⟨n4.mem, s4, st.wr.mono n04⟩, p4, fun b ms5 g5 H5 n5 p5 => ?_⟩
    have o5 := n5.out Dd (by rw [o4.1, o3.1, hv]; intro z; cases z) o4.2.1 o4.2.2
    have e5 : H5 Dd = some (.lst vs) := by rw [o5.1, o4.1, o3.1, hv]
    have n35 := n3.trans (n4.trans n5)
    cases b with
    | false =>
      have p5' : Pv (i + 1) acc ms5 := p5
      exact ⟨g5, ms5, vs, acc, n2.trans n35, o5.2.1, o5.2.2, e5, RSs.mono n35.le rs, Nat.le_succ_of_le hl, p5'⟩
    | true =>
      have p5' : E Wa dl4 ms5 fun y ms4 => Pv (i + 1) (acc ++ [y]) ms4 := p5
      refine ⟨g5, dl4, ms5, Wa, _, ⟨n5.mem, s4.mono n5.le, st.wr.mono (n04.trans n5)⟩, p5', fun sy ms6 g6 y H6 n6 r6 p6 => ?_⟩
      have o6 := n6.out Dd (by rw [e5]; intro z; cases z) o5.2.1 o5.2.2
      have n36 := n35.trans n6
      have hlen : vs.length = acc.length := Paired.length rs
      have m6 := n6.mem.outW (o := .lst (vs ++ [y])) o6.2.1 o6.2.2
      refine ⟨vs, by rw [o6.1, e5], by rw [hlen]; omega, g6, ms6, vs ++ [y], acc ++ [sy], ?_, o6.2.1, o6.2.2, upd_same, Paired.app (RSs.mono n36.le rs) (.cons r6 .nil), by rw [List.length_append]; exact Nat.succ_le_succ hl, p6⟩
      · refine ⟨n2.le.trans n36.le, m6, fun a h1 h2 h3 => ?_⟩
        have ne : a ≠ Dd := fun z => h1 (z ▸ hD)
        obtain ⟨q1, q2, q3⟩ := (n2.trans n36).out a h1 h2 h3
        exact ⟨(upd_ne ne).trans q1, q2, q3⟩
  · have e : i = it.n := by omega
    subst e
    refine .inl ⟨ir2.2 rfl, ?_⟩
    exact fo g1 H1 g2 H2 acc vs Dd ms2 P Q n2.mem n2 hD hF hA hv rs (hd acc ms2 p2) (vr.mono n1)
end
end Z

/-! Layer Z, part D: the theorem of a def; operators, built-ins, methods, stores. -/
namespace Z
open PySem PySem.Spec PyProof.Rows L2 Evl
/-! ### the theorem of a def -/
def Fin (n : Nat) (Q : SV → ME → Prop) : SV → ME → Prop := fun sv ms' => ∃ ms0 jk, ms' = ms0 ++ jk ∧ n ≤ ms0.length ∧ Closed ms0.length ms0 ∧ sv.below ms0.length ∧ Q sv ms0
def FinE (n : Nat) (E : XA → ME → Prop) : AW := fun xa _ ms' => ∃ ms0 jk, ms' = ms0 ++ jk ∧ n ≤ ms0.length ∧ Closed ms0.length ms0 ∧ E xa ms0
theorem Fin.same {n : Nat} {Q : SV → ME → Prop} {sv : SV} {ms : ME} (hn : n ≤ ms.length) (c : Closed ms.length ms) (b : sv.below ms.length) (q : Q sv ms) : Fin n Q sv ms := ⟨ms, [], by simp, hn, c, b, q⟩
theorem RX.cut {g : G} {n : Nat} {cls : Value} {d : Option Addr} {H : Hp} {xa : XA} (r : RX g cls d H xa) : RX (cutG g n) cls d H xa := r
def startA (N : Nat) (ss : List SV) : SL := ss.map some ++ List.replicate (N - ss.length) none
theorem start_ok {K : PySem.W.Frag} {g : G} {N : List Str} {vs : List V} {ss : List SV} (r : RSs K g vs ss) : SlotsOk K g (startA N.length ss) (L2.start N vs) := by
  have hl := Paired.length r
  refine ⟨by simp [startA, L2.start, hl], fun i sv h => ?_⟩
  unfold startA at h
  by_cases hi : i < ss.length
  · rw [List.getElem?_append_left (by rw [List.length_map]; exact hi), List.getElem?_map] at h
    cases e : ss[i]? with
    | none => rw [e] at h; cases h
    | some s =>
      rw [e] at h
      cases h
      obtain ⟨v, h1, h2⟩ := Paired.get r e
      refine ⟨v, ?_, h2⟩
      unfold L2.start
      rw [List.getElem?_append_left (by rw [List.length_map, hl]; exact hi), List.getElem?_map, h1]
      rfl
  · rw [List.getElem?_append_right (by rw [List.length_map]; omega), List.getElem?_replicate] at h
    split at h <;> cases h
section
variable {P : Program} {w : World} {K : PySem.W.Frag} {mg : Str → Option Value} {base : Heap} {x qual : Str} {params : Arguments} {body : List Stmt} {scope : Scope} {f : Addr} {fd : FuncData} {N ps : List Str} {k : Nat}
theorem body_lift {CX : CXT} {X : Cx} {p : AP} {T : AS} {vs : List V} {H : Hp} {Q : VK} {E : XK} {W : WX} {n : Nat} (hW : ∀ cls d σ H', E cls d H' → W cls d σ H') (hN : N.length = n)
    (hread : ∀ ss ms Qa Ea, Closed ms.length ms → p ss ms Qa Ea → T (FinE ms.length Ea) { nx := fun _ ms' => Fin ms.length Qa (.d .none) ms', rt := Fin ms.length Qa } (startA n ss) ms)
    (h : liftP K p vs H Q E) : sL K W T { nx := fun _ H' => Q .non H', rt := Q } (L2.start N vs) H := by
  subst hN
  obtain ⟨g, ss, ms, Qa, Ea, m, rs, hp, vr, er⟩ := h
  have c := m.closed'
  refine ⟨g, startA N.length ss, ms, FinE ms.length Ea, _, ⟨m, start_ok rs, ?_⟩, hread ss ms Qa Ea c hp, ⟨?_, ?_, fun _ _ _ _ _ _ _ z => z.elim, fun _ _ _ _ _ _ _ z => z.elim⟩⟩
  · rintro xa dl ms' g' σ H' cls d n' s' rx ⟨ms0, jk, e, hn, c0, q⟩
    subst e
    refine hW cls d σ H' (er xa ms0 (cutG g' ms0.length) cls d H' ⟨le_cut n'.le (by rw [m.len]; exact hn), n'.mem.cut c0, out_cut n'.out⟩ rx.cut q)
  · rintro dl ms' g' σ H' n' s' ⟨ms0, jk, e, hn, c0, b, q⟩
    subst e
    exact vr (.d .none) ms0 (cutG g' ms0.length) .non H' ⟨le_cut n'.le (by rw [m.len]; exact hn), n'.mem.cut c0, out_cut n'.out⟩ RD.non q
  · rintro sv ms' g' v H' n' r' ⟨ms0, jk, e, hn, c0, b, q⟩
    subst e
    exact vr sv ms0 (cutG g' ms0.length) v H' ⟨le_cut n'.le (by rw [m.len]; exact hn), n'.mem.cut c0, out_cut n'.out⟩ (r'.cut b) q
theorem okA (F : FunD K x qual params body scope [] [] f fd) (S : FnScope N ps scope) {p : AP} {T : AS} (hlen : ∀ ss ms Qa Ea, p ss ms Qa Ea → ss.length = ps.length)
    (hbody : ∀ (X : Cx), X.prog = P → X.w = w → X.K = K → X.mg = mg → X.base = base → X.N = N → X.env.scope = scope → X.calm = true → (∀ x, X.fn x = true) → X.xe = (fun _ _ => False) → Room k X.A → PSs X body (sL K (fun _ _ _ _ => False) T)) : True := trivial
/-- a def that lets no exception out -/
theorem ok0 (F : FunD K x qual params body scope [] [] f fd) (S : FnScope N ps scope) {p : AP} {T : AS} (n : Nat) (hN : N.length = n) (hlen : ∀ ss ms Qa Ea, p ss ms Qa Ea → ss.length = ps.length)
    (hbody : ∀ (cdv : Value) (A : Around) (outer : List Env) (s : Shared) (H : Hp) (E : XK), Room k (A.deeper (envOfC qual scope s.heap.objs.size f cdv)) → PSs (cxOf CX0 P w K mg base N qual scope f cdv A outer s H E).nox body (sL K (fun _ _ _ _ => False) T))
    (hread : ∀ ss ms Qa Ea, Closed ms.length ms → p ss ms Qa Ea → T (fun _ _ _ => False) { nx := fun _ ms' => Fin ms.length Qa (.d .none) ms', rt := Fin ms.length Qa } (startA n ss) ms) : FnOk P w K mg base CX0 (k + 1) f fd ps (liftP K p) := by
  refine F.ok S (fun vs H Q E ⟨g, ss, ms, Qa, Ea, m, rs, hp, _⟩ => (Paired.length rs).trans (hlen ss ms Qa Ea hp)) fun cdv A outer s H vs Q E hr h => ⟨_, (hbody cdv A outer s H E hr).nox, ?_⟩
  subst hN
  obtain ⟨g, ss, ms, Qa, Ea, m, rs, hp, vr, er⟩ := h
  have c := m.closed'
  refine ⟨g, startA N.length ss, ms, fun _ _ _ => False, _, ⟨m, start_ok rs, fun _ _ _ _ _ _ _ _ _ _ _ z => z⟩, hread ss ms Qa Ea c hp, ⟨?_, ?_, fun _ _ _ _ _ _ _ z => z.elim, fun _ _ _ _ _ _ _ z => z.elim⟩⟩
  · rintro dl ms' g' σ H' n' s' ⟨ms0, jk, e, hn, c0, b, q⟩
    subst e
    exact vr (.d .none) ms0 (cutG g' ms0.length) .non H' ⟨le_cut n'.le (by rw [m.len]; exact hn), n'.mem.cut c0, out_cut n'.out⟩ RD.non q
  · rintro sv ms' g' v H' n' r' ⟨ms0, jk, e, hn, c0, b, q⟩
    subst e
    exact vr sv ms0 (cutG g' ms0.length) v H' ⟨le_cut n'.le (by rw [m.len]; exact hn), n'.mem.cut c0, out_cut n'.out⟩ (r'.cut b) q
/-- a def that may raise -/
theorem okX (F : FunD K x qual params body scope [] [] f fd) (S : FnScope N ps scope) {p : AP} {T : AS} (n : Nat) (hN : N.length = n) (hlen : ∀ ss ms Qa Ea, p ss ms Qa Ea → ss.length = ps.length)
    (hbody : ∀ (cdv : Value) (A : Around) (outer : List Env) (s : Shared) (H : Hp) (E : XK), Room k (A.deeper (envOfC qual scope s.heap.objs.size f cdv)) → PSs (cxOf (L2.CX P w) P w K mg base N qual scope f cdv A outer s H E) body (sL K (fun cls d _ H => E cls d H) T))
    (hread : ∀ ss ms Qa Ea, Closed ms.length ms → p ss ms Qa Ea → T (FinE ms.length Ea) { nx := fun _ ms' => Fin ms.length Qa (.d .none) ms', rt := Fin ms.length Qa } (startA n ss) ms) : FnOk P w K mg base (L2.CX P w) (k + 1) f fd ps (liftP K p) := by
  refine F.ok S (fun vs H Q E ⟨g, ss, ms, Qa, Ea, m, rs, hp, _⟩ => (Paired.length rs).trans (hlen ss ms Qa Ea hp)) fun cdv A outer s H vs Q E hr h => ⟨_, hbody cdv A outer s H E hr, ?_⟩
  exact body_lift (CX := CX0) (X := cxOf (L2.CX P w) P w K mg base N qual scope f cdv A outer s H E) (fun _ _ _ _ z => z) hN hread h
end
/-! ### operators -/
def raI (C : Int → Int → Prop) (f : Int → Int → Int) : AR2 := fun x y ms P => ∃ i j, x = .d (.int i) ∧ y = .d (.int j) ∧ C i j ∧ P (.d (.int (f i j))) ms
def raI0 (f : Int → Int → Int) : AR2 := fun x y ms P => ∃ i j, x = .d (.int i) ∧ y = .d (.int j) ∧ P (.d (.int (f i j))) ms
def raB0 (f : Int → Int → Bool) : AR2 := fun x y ms P => ∃ i j, x = .d (.int i) ∧ y = .d (.int j) ∧ P (.d (.bool (f i j))) ms
section
variable {K : PySem.W.Frag}
theorem co_I {C : Int → Int → Prop} {f : Int → Int → Int} : Co2 K (rI C fun i j => .int (f i j)) (raI C f) := by
  intro g ms H x y sx sy P Q m rx ry ⟨i, j, e1, e2, hc, p⟩ vr
  subst e1 e2
  cases rx
  cases ry
  exact ⟨i, j, rfl, rfl, hc, vr _ ms g _ H m.nx (show RSV K g (.int (f i j)) (.d (.int (f i j))) from RD.int _) p⟩
theorem co_I0 {f : Int → Int → Int} : Co2 K (rI0 fun i j => .int (f i j)) (raI0 f) := by
  intro g ms H x y sx sy P Q m rx ry ⟨i, j, e1, e2, p⟩ vr
  subst e1 e2
  cases rx
  cases ry
  exact ⟨i, j, rfl, rfl, vr _ ms g _ H m.nx (show RSV K g (.int (f i j)) (.d (.int (f i j))) from RD.int _) p⟩
theorem co_B0 {f : Int → Int → Bool} : Co2 K (rI0 fun i j => .bl (f i j)) (raB0 f) := by
  intro g ms H x y sx sy P Q m rx ry ⟨i, j, e1, e2, p⟩ vr
  subst e1 e2
  cases rx
  cases ry
  exact ⟨i, j, rfl, rfl, vr _ ms g _ H m.nx (show RSV K g (.bl (f i j)) (.d (.bool (f i j))) from RD.bl _) p⟩
/-- texts -/
def raAddS : AR2 := fun x y ms P => ∃ a b, x = .d (.str a) ∧ y = .d (.str b) ∧ a.length + b.length ≤ sizeLine ∧ P (.d (.str (a ++ b))) ms
theorem co_addS : Co2 K (fun x y H Q => ∃ i j, x = .str i ∧ y = .str j ∧ i.length + j.length ≤ sizeLine ∧ Q (.str (i ++ j)) H) raAddS := by
  intro g ms H x y sx sy P Q m rx ry ⟨i, j, e1, e2, hc, p⟩ vr
  subst e1 e2
  cases rx
  cases ry
  exact ⟨i, j, rfl, rfl, hc, vr _ ms g _ H m.nx (show RSV K g (.str (i ++ j)) (.d (.str (i ++ j))) from RD.str _) p⟩
def repS (a : Str) (n : Nat) : Str := ⟨(List.replicate n a.cps).foldl (· ++ ·) #[]⟩
theorem rep_toList (c : Array Nat) : ∀ (n : Nat) (acc : Array Nat), ((List.replicate n c).foldl (· ++ ·) acc).toList = acc.toList ++ (List.replicate n c.toList).flatten
  | 0, acc => by simp
  | n + 1, acc => by
    rw [List.replicate_succ, List.foldl_cons, rep_toList c n, List.replicate_succ, List.flatten_cons, Array.toList_append, List.append_assoc]
theorem repS_toList (a : Str) (n : Nat) : (repS a n).cps.toList = (List.replicate n a.cps.toList).flatten := by
  show ((List.replicate n a.cps).foldl (· ++ ·) #[]).toList = _
  rw [rep_toList]
  simp
theorem repS_len (a : Str) (n : Nat) : (repS a n).length = n * a.length := by
  show (repS a n).cps.size = n * a.cps.size
  rw [← Array.length_toList, repS_toList, List.length_flatten, List.map_replicate, List.sum_replicate_nat, Array.length_toList]
def raMulS : AR2 := fun x y ms P => ∃ a n, x = .d (.str a) ∧ y = .d (.int n) ∧ 2 ≤ n ∧ n ≤ 1000 ∧ 1 ≤ a.length ∧ a.length ≤ 1000 ∧ P (.d (.str (repS a n.toNat))) ms
def rMulS : R2 := fun x y H Q => ∃ a n, x = .str a ∧ y = .int n ∧ 2 ≤ n ∧ n ≤ 1000 ∧ 1 ≤ a.length ∧ a.length ≤ 1000 ∧ Q (.str (repS a n.toNat)) H
theorem op_mulS {X : Cx} : OpR X (binaryOp .Mult) rMulS := by
  intro pins s σ H x y v u Q I rx ry h
  obtain ⟨a, n, rfl, rfl, h1, h2, h3, h4, q⟩ := h
  obtain ⟨t, rfl⟩ := rx
  obtain ⟨t', rfl⟩ := ry
  have c1 : ¬ n < 1 := by omega
  have c2 : (n == 1 || a.length == 0) = false := by
    rw [Bool.or_eq_false_iff]
    exact ⟨by rw [beq_eq_false_iff_ne]; omega, by rw [beq_eq_false_iff_ne]; omega⟩
  refine PySem.P.mul_str ?_ (fun _ _ => ?_) (fun _ _ => ?_) ?_
  · rw [Bool.or_eq_false_iff]
    exact ⟨decide_eq_false (by omega), decide_eq_false (by omega)⟩
  · have h5 : (a.length : Int) * n ≤ 1000 * 1000 := Int.mul_le_mul (by omega) h2 (by omega) (by omega)
    have h6 : (a.length : Int) ≤ (2 ^ 63 - 1) / n := (Int.le_ediv_iff_mul_le (by omega)).mpr (by omega)
    omega
  · have h5 : a.length * n.toNat ≤ 1000 * 1000 := Nat.mul_le_mul h4 (by omega)
    show decide (a.length * n.toNat > sizeLine) = false
    exact decide_eq_false (by have := sizeLine_eq; omega)
  · rw [if_neg c1, if_neg (by rw [c2]; decide)]
    refine ⟨?_, .str (repS a n.toNat), H, I.tok _, ⟨_, rfl⟩, q⟩
    have h5 : a.length * n.toNat ≤ 1000 * 1000 := Nat.mul_le_mul h4 (by omega)
    show (repS a n.toNat).length ≤ sizeLine
    rw [repS_len, Nat.mul_comm]
    have := sizeLine_eq
    omega
theorem co_mulS : Co2 K rMulS raMulS := by
  intro g ms H x y sx sy P Q m rx ry ⟨a, n, e1, e2, h1, h2, h3, h4, p⟩ vr
  subst e1 e2
  cases rx
  cases ry
  exact ⟨a, n, rfl, rfl, h1, h2, h3, h4, vr _ ms g _ H m.nx (show RSV K g (.str (repS a n.toNat)) (.d (.str (repS a n.toNat))) from RD.str _) p⟩
/-! equal, unequal data of any depth -/
def raEqD (neg : Bool) : AR2 := fun x y ms P => ∃ d e, asD ms x = some d ∧ asD ms y = some e ∧ SeqAt.shaped d = true ∧ SeqAt.shaped e = true ∧ P (.d (.bool (if neg then !PyData.eqv d e else PyData.eqv d e))) ms
theorem co_eqD : Co2 K (rEqD K) (raEqD false) := by
  intro g ms H x y sx sy P Q m rx ry ⟨d, e, e1, e2, h1, h2, p⟩ vr
  exact ⟨d, e, asD_ok m rx e1, asD_ok m ry e2, h1, h2, vr _ ms g _ H m.nx (show RSV K g (.bl _) (.d (.bool _)) from RD.bl _) p⟩
theorem co_neD : Co2 K (rNeD K) (raEqD true) := by
  intro g ms H x y sx sy P Q m rx ry ⟨d, e, e1, e2, h1, h2, p⟩ vr
  exact ⟨d, e, asD_ok m rx e1, asD_ok m ry e2, h1, h2, vr _ ms g _ H m.nx (show RSV K g (.bl _) (.d (.bool _)) from RD.bl _) p⟩
/-! is None -/
def isNo : SV → Bool
  | .d .none => true
  | _ => false
theorem isNo_ok {g : G} {v : V} {s : SV} (r : RSV K g v s) : decide (v = .non) = isNo s := by
  cases s with
  | d x => cases r <;> rfl
  | o k => obtain ⟨a, _, rfl⟩ := r; rfl
  | xl ds => obtain ⟨a, vs, rfl, _⟩ := r; rfl
  | xt ds => obtain ⟨a, vs, rfl, _⟩ := r; rfl
def raIsN (neg : Bool) : AR2 := fun x y ms P => y = .d .none ∧ P (.d (.bool (if neg then !isNo x else isNo x))) ms
theorem co_isN : Co2 K (fun x y H Q => y = .non ∧ Q (.bl (decide (x = .non))) H) (raIsN false) := by
  intro g ms H x y sx sy P Q m rx ry ⟨e, p⟩ vr
  subst e
  cases ry
  refine ⟨rfl, ?_⟩
  rw [isNo_ok rx]
  exact vr _ ms g _ H m.nx (show RSV K g (.bl _) (.d (.bool _)) from RD.bl _) p
theorem co_notN : Co2 K (fun x y H Q => y = .non ∧ Q (.bl (!decide (x = .non))) H) (raIsN true) := by
  intro g ms H x y sx sy P Q m rx ry ⟨e, p⟩ vr
  subst e
  cases ry
  refine ⟨rfl, ?_⟩
  rw [isNo_ok rx]
  exact vr _ ms g _ H m.nx (show RSV K g (.bl _) (.d (.bool _)) from RD.bl _) p
def raIsB (neg : Bool) : AR2 := fun x y ms P => ∃ a b, x = .d (.bool a) ∧ y = .d (.bool b) ∧ P (.d (.bool (if neg then !(a == b) else a == b))) ms
theorem co_isB : Co2 K (fun x y H Q => ∃ a b : Bool, x = .bl a ∧ y = .bl b ∧ Q (.bl (decide (a = b))) H) (raIsB false) := by
  intro g ms H x y sx sy P Q m rx ry ⟨a, b, e1, e2, p⟩ vr
  subst e1 e2
  cases rx
  cases ry
  exact ⟨a, b, rfl, rfl, vr _ ms g _ H m.nx (show RSV K g (.bl (decide (a = b))) (.d (.bool (decide (a = b)))) from RD.bl _) (by rw [← Bool.beq_eq_decide_eq]; exact p)⟩
theorem co_isNB : Co2 K (fun x y H Q => ∃ a b : Bool, x = .bl a ∧ y = .bl b ∧ Q (.bl (!decide (a = b))) H) (raIsB true) := by
  intro g ms H x y sx sy P Q m rx ry ⟨a, b, e1, e2, p⟩ vr
  subst e1 e2
  cases rx
  cases ry
  exact ⟨a, b, rfl, rfl, vr _ ms g _ H m.nx (show RSV K g (.bl (!decide (a = b))) (.d (.bool (!decide (a = b)))) from RD.bl _) (by rw [← Bool.beq_eq_decide_eq]; exact p)⟩
/-! a place -/
def raIxL : AR2 := fun x y ms P => ∃ xs i v, seqL ms x = some xs ∧ y = .d (.int i) ∧ atI xs i = some v ∧ P v ms
def raIxT : AR2 := fun x y ms P => ∃ xs i v, seqT x = some xs ∧ y = .d (.int i) ∧ atI xs i = some v ∧ P v ms
def raIxS : AR2 := fun x y ms P => ∃ z i c, x = .d (.str z) ∧ y = .d (.int i) ∧ z.length ≤ sizeLine ∧ atI z.cps.toList i = some c ∧ P (.d (.str ⟨#[c]⟩)) ms
theorem at_get {R : V → SV → Prop} {vs : List V} {xs : List SV} (r : Paired R vs xs) {i : Int} {v : SV} (h : atI xs i = some v) : ∃ y, atI vs i = some y ∧ R y v := by
  unfold atI at h ⊢
  rw [Paired.length r]
  cases e : ixN xs.length i with
  | none => rw [e] at h; cases h
  | some j =>
    rw [e] at h
    obtain ⟨y, h1, h2⟩ := Paired.get r (show xs[j]? = some v from h)
    exact ⟨y, h1, h2⟩
theorem co_ixL : Co2 K (rIxL K) raIxL := by
  intro g ms H x y sx sy P Q m rx ry ⟨xs, i, v, e1, e2, e3, p⟩ vr
  subst e2
  cases ry
  obtain ⟨a, vs, rfl, h1, h2⟩ := seqL_ok m rx e1
  obtain ⟨y, h3, h4⟩ := at_get h2 e3
  exact ⟨a, vs, i, y, rfl, rfl, h1, h3, vr v ms g y H m.nx h4 p⟩
theorem co_ixT : Co2 K (rIxT K) raIxT := by
  intro g ms H x y sx sy P Q m rx ry ⟨xs, i, v, e1, e2, e3, p⟩ vr
  subst e2
  cases ry
  obtain ⟨a, vs, rfl, h1, h2⟩ := seqT_ok m rx e1
  obtain ⟨y, h3, h4⟩ := at_get h2 e3
  exact ⟨a, vs, i, y, rfl, rfl, h1, h3, vr v ms g y H m.nx h4 p⟩
theorem co_ixS : Co2 K rIxS raIxS := by
  intro g ms H x y sx sy P Q m rx ry ⟨z, i, c, e1, e2, e3, e4, p⟩ vr
  subst e1 e2
  cases rx
  cases ry
  exact ⟨z, i, c, rfl, rfl, e3, e4, vr _ ms g _ H m.nx (show RSV K g (.str _) (.d (.str _)) from RD.str _) p⟩
/-! in, among flat things -/
def flatD : D → Bool
  | .none => true
  | .bool _ => true
  | .int _ => true
  | .str _ => true
  | _ => false
def eqF : D → D → Bool
  | .none, .none => true
  | .bool a, .bool b => a == b
  | .bool a, .int b => (if a then 1 else 0) == b
  | .int a, .bool b => a == (if b then 1 else 0)
  | .int a, .int b => a == b
  | .str a, .str b => a == b
  | _, _ => false
def inF (x : D) (ds : List D) : Bool := ds.any fun y => eqF y x
theorem flat_ok {F : Hp} {v : V} {d : D} (r : RD F v d) (h : flatD d = true) : flatV v = true := by
  cases r <;> first | rfl | cases h
theorem eqF_ok {F : Hp} {v u : V} {d e : D} (r : RD F v d) (q : RD F u e) (h : flatD d = true) (h2 : flatD e = true) : eqV v u = eqF d e := by
  cases r <;> first | cases h; done | (cases q <;> first | cases h2; done | rfl)
theorem flats_ok {F : Hp} : ∀ {vs : List V} {ds : List D}, RDs F vs ds → ds.all flatD = true → vs.all flatV = true
  | _, _, .nil, _ => rfl
  | _, _, .cons r t, h => by
    rw [List.all_cons, Bool.and_eq_true] at h ⊢
    exact ⟨flat_ok r h.1, flats_ok t h.2⟩
theorem inF_ok {F : Hp} {v : V} {d : D} (r : RD F v d) (h : flatD d = true) : ∀ {vs : List V} {ds : List D}, RDs F vs ds → ds.all flatD = true → inV v vs = inF d ds
  | _, _, .nil, _ => rfl
  | _, _, .cons q t, h2 => by
    rw [List.all_cons, Bool.and_eq_true] at h2
    unfold inV inF
    rw [List.any_cons, List.any_cons, eqF_ok q r h2.1 h]
    have := inF_ok r h t h2.2
    unfold inV inF at this
    rw [this]
/-- the items as data, of a list or a tuple -/
def itemsD (ms : ME) (s : SV) : Option (List D) := match seqL ms s with
  | some xs => allD xs
  | none => (seqT s).bind allD
def raIn (neg : Bool) : AR2 := fun x y ms P => ∃ d ds, x = .d d ∧ itemsD ms y = some ds ∧ flatD d = true ∧ ds.all flatD = true ∧ P (.d (.bool (if neg then !inF d ds else inF d ds))) ms
theorem itemsD_ok {g : G} {ms : ME} {H : Hp} {v : V} {s : SV} {ds : List D} (m : MemOk K g ms H) (r : RSV K g v s) (h : itemsD ms s = some ds) : ∃ a vs, v = .ref a ∧ (SqL K H a vs ∨ SqT K H a vs) ∧ RDs g.F vs ds := by
  unfold itemsD at h
  split at h
  · rename_i xs e
    obtain ⟨a, vs, e1, h1, h2⟩ := seqL_ok m r e
    have := allD_map h
    subst this
    exact ⟨a, vs, e1, .inl h1, RSs.rd h2⟩
  · rename_i e
    cases e2 : seqT s with
    | none => rw [e2] at h; cases h
    | some xs =>
      rw [e2] at h
      obtain ⟨a, vs, e1, h1, h2⟩ := seqT_ok m r e2
      have := allD_map (show allD xs = some ds from h)
      subst this
      exact ⟨a, vs, e1, .inr h1, RSs.rd h2⟩
theorem co_in {neg : Bool} : Co2 K (rIn K neg) (raIn neg) := by
  intro g ms H x y sx sy P Q m rx ry ⟨d, ds, e1, e2, h1, h2, p⟩ vr
  subst e1
  obtain ⟨a, vs, rfl, h3, h4⟩ := itemsD_ok m ry e2
  refine ⟨a, vs, rfl, h3, flat_ok rx h1, flats_ok h4 h2, ?_⟩
  rw [inF_ok rx h1 h4 h2]
  exact vr _ ms g _ H m.nx (show RSV K g (.bl _) (.d (.bool _)) from RD.bl _) p
/-- one sign in a text -/
def raInS (neg : Bool) : AR2 := fun x y ms P => ∃ (c : Nat) (z : Str), x = .d (.str ⟨#[c]⟩) ∧ y = .d (.str z) ∧ P (.d (.bool (if neg then !decide (c ∈ z.cps.toList) else decide (c ∈ z.cps.toList)))) ms
theorem co_inS : Co2 K rInS (raInS false) := by
  intro g ms H x y sx sy P Q m rx ry ⟨c, z, e1, e2, p⟩ vr
  subst e1 e2
  cases rx
  cases ry
  exact ⟨c, z, rfl, rfl, vr _ ms g _ H m.nx (show RSV K g (.bl _) (.d (.bool _)) from RD.bl _) p⟩
theorem co_notInS : Co2 K rNotInS (raInS true) := by
  intro g ms H x y sx sy P Q m rx ry ⟨c, z, e1, e2, p⟩ vr
  subst e1 e2
  cases rx
  cases ry
  exact ⟨c, z, rfl, rfl, vr _ ms g _ H m.nx (show RSV K g (.bl _) (.d (.bool _)) from RD.bl _) p⟩
/-! slices -/
def asInt? : Option SV → Option (Option Int)
  | none => some none
  | some (.d (.int i)) => some (some i)
  | _ => none
def cutG' {α : Type} (xs : List α) (lo hi : Option Int) : List α := (xs.drop (HT.sIx xs.length 0 lo)).take (HT.sIx xs.length xs.length hi - HT.sIx xs.length 0 lo)
abbrev AO := AW → SL → ME → (Option Int → ME → Prop) → Prop
def aNoPart : AO := fun _ _ ms P => P none ms
def kPart (P : Option Int → ME → Prop) : SV → ME → Prop := fun x ms => ∃ i, x = .d (.int i) ∧ P (some i) ms
def aPart (A : AE) : AO := fun Wa dl ms P => A Wa dl ms (kPart P)
def oL (K : PySem.W.Frag) (W : WX) (A : AO) : TO := fun σ H Q => ∃ g dl ms Wa P, Sta K g dl ms Wa W σ H ∧ A Wa dl ms P ∧ ∀ o ms' g' H', Nx K g H ms' g' H' → P o ms' → Q o H'
theorem POm {X : Cx} {e : Option Expr} {t t' : TO} (h : PO X e t) (k : ∀ σ H Q, t' σ H Q → t σ H Q) : PO X e t' := ⟨fun pins s σ H Q I q => h.run pins s σ H Q I (k σ H Q q)⟩
theorem o_none {X : Cx} {W : WX} : PO X none (oL X.K W aNoPart) := POm po_none fun σ H Q ⟨g, dl, ms, Wa, P, st, p, k⟩ => k none ms g H st.mem.nx p
theorem o_some {X : Cx} {W : WX} {e : Expr} {A : AE} (h : PE X e (eL X.K W A)) : PO X (some e) (oL X.K W (aPart A)) := POm (po_some h) fun σ H Q ⟨g, dl, ms, Wa, P, st, p, k⟩ =>
  ⟨g, dl, ms, Wa, _, st, p, fun sv ms1 g1 v H1 n1 r1 ⟨i, e, p1⟩ => by
    subst e
    cases r1
    exact ⟨i, rfl, k (some i) ms1 g1 H1 n1 p1⟩⟩
abbrev ASl := SV → Option Int → Option Int → ME → (SV → ME → Prop) → Prop
def CoSl (K : PySem.W.Frag) (r : V → Option Int → Option Int → Hp → VK → Prop) (ra : ASl) : Prop := ∀ g ms H x sx lo hi P Q, MemOk K g ms H → RSV K g x sx → ra sx lo hi ms P → VRel K g H P Q → r x lo hi H Q
def kSl3 (ra : ASl) (x : SV) (lo : Option Int) (P : SV → ME → Prop) : Option Int → ME → Prop := fun hi ms => ra x lo hi ms P
def kSl2 (ra : ASl) (U : AO) (Wa : AW) (dl : SL) (x : SV) (P : SV → ME → Prop) : Option Int → ME → Prop := fun lo ms => U Wa dl ms (kSl3 ra x lo P)
def kSl1 (ra : ASl) (L U : AO) (Wa : AW) (dl : SL) (P : SV → ME → Prop) : SV → ME → Prop := fun x ms => L Wa dl ms (kSl2 ra U Wa dl x P)
def aSl (ra : ASl) (A : AE) (L U : AO) : AE := fun Wa dl ms P => A Wa dl ms (kSl1 ra L U Wa dl P)
theorem e_slice {X : Cx} {W : WX} {e : Expr} {lo hi : Option Expr} {A : AE} {L U : AO} {pos p2 : Pos} {r : V → Option Int → Option Int → Hp → VK → Prop} {ra : ASl} (hr : SlR X r) (co : CoSl X.K r ra) (he : PE X e (eL X.K W A)) (hl : PO X lo (oL X.K W L)) (hu : PO X hi (oL X.K W U)) :
    PE X (.Subscript e (.Slice lo hi none p2) pos) (eL X.K W (aSl ra A L U)) :=
  PEm (pe_slice hr he hl hu) fun σ H Q ⟨g, dl, ms, Wa, P, st, p, vr⟩ => ⟨g, dl, ms, Wa, _, st, p, fun sx ms1 g1 x H1 n1 r1 p1 =>
    ⟨g1, dl, ms1, Wa, _, st.to n1, p1, fun l ms2 g2 H2 n2 p2 => ⟨g2, dl, ms2, Wa, _, (st.to n1).to n2, p2, fun u ms3 g3 H3 n3 p3 =>
      co g3 ms3 H3 x sx l u P Q n3.mem (r1.mono (n2.trans n3).le) p3 (vr.mono (n1.trans (n2.trans n3)))⟩⟩⟩
def raSlS : ASl := fun x lo hi ms P => ∃ z, x = .d (.str z) ∧ z.length ≤ sizeLine ∧ P (.d (.str (cutS z lo hi))) ms
theorem co_slS : CoSl K rSlS raSlS := by
  intro g ms H x sx lo hi P Q m rx ⟨z, e, hz, p⟩ vr
  subst e
  cases rx
  exact ⟨z, rfl, hz, vr _ ms g _ H m.nx (show RSV K g (.str _) (.d (.str _)) from RD.str _) p⟩
theorem RSs.cut {g : G} {vs : List V} {xs : List SV} (r : RSs K g vs xs) (lo hi : Option Int) : RSs K g (cutV vs lo hi) (cutG' xs lo hi) := by
  unfold cutV cutG'
  rw [Paired.length r]
  exact Paired.take _ (Paired.drop _ r)
def raSlL : ASl := fun x lo hi ms P => ∃ xs ds, seqL ms x = some xs ∧ allD (cutG' xs lo hi) = some ds ∧ P (.d (.list ds)) ms
theorem co_slL : CoSl K (rSlL K) raSlL := by
  intro g ms H x sx lo hi P Q m rx ⟨xs, ds, e1, e2, p⟩ vr
  obtain ⟨a, vs, rfl, h1, h2⟩ := seqL_ok m rx e1
  refine ⟨a, vs, rfl, h1, fun q hq => ?_⟩
  have n := m.nxF (o := .lst (cutV vs lo hi)) hq
  have r := RSs.cut h2 lo hi
  rw [allD_map e2] at r
  exact vr (.d (.list ds)) ms _ _ _ n (show RD _ _ _ from .lst upd_same ((RSs.rd r).mono n.le.1)) p
end
/-! ### built-ins -/
section
variable {K : PySem.W.Frag}
def lenA (ms : ME) : SV → Option Nat
  | .d (.str y) => if y.length ≤ sizeLine then some y.length else none
  | s => match seqL ms s with
    | some xs => some xs.length
    | none => (seqT s).map List.length
def raLen : AR := fun ss ms P => ∃ x n, ss = [x] ∧ lenA ms x = some n ∧ P (.d (.int (n : Int))) ms
theorem co_len : CoC K (fun xs H Q => ∃ x n, xs = [x] ∧ LenV K x H n ∧ Q (.int n) H) raLen := by
  intro g ms H vs ss P Q m rs ⟨x, n, e, h, p⟩ vr
  subst e
  cases rs with
  | cons r t =>
    cases t
    rename_i v
    refine ⟨v, n, rfl, ?_, vr _ ms g _ H m.nx (show RSV K g (.int _) (.d (.int _)) from RD.int _) p⟩
    have base : ∀ s : SV, RSV K g v s → (match seqL ms s with
      | some xs => some xs.length
      | none => (seqT s).map List.length) = some n → LenV K v H n := by
      intro s r h
      split at h
      · rename_i xs e
        obtain ⟨a, ws, rfl, h1, h2⟩ := seqL_ok m r e
        cases h
        exact .inl ⟨ws, h1, (Paired.length h2).symm⟩
      · rename_i e
        cases e2 : seqT s with
        | none => rw [e2] at h; cases h
        | some xs =>
          rw [e2] at h
          cases h
          obtain ⟨a, ws, rfl, h1, h2⟩ := seqT_ok m r e2
          exact .inr ⟨ws, h1, (Paired.length h2).symm⟩
    cases x with
    | d y =>
      cases y with
      | str z =>
        cases r
        have h' : (if z.length ≤ sizeLine then some z.length else none) = some n := h
        split at h'
        · rename_i hz
          cases h'
          exact ⟨hz, rfl⟩
        · cases h'
      | _ => exact base _ r h
    | _ => exact base _ r h
def raInt : AR := fun ss ms P => (∃ i, ss = [.d (.int i)] ∧ P (.d (.int i)) ms) ∨ ∃ b, ss = [.d (.bool b)] ∧ P (.d (.int (if b then 1 else 0))) ms
theorem co_int : CoC K (fun xs H Q => (∃ i, xs = [.int i] ∧ Q (.int i) H) ∨ ∃ k, xs = [.bl k] ∧ Q (.int (if k then 1 else 0)) H) raInt := by
  intro g ms H vs ss P Q m rs h vr
  rcases h with ⟨i, e, p⟩ | ⟨b, e, p⟩
  · subst e
    cases rs with
    | cons r t =>
      cases t
      cases r
      exact .inl ⟨i, rfl, vr _ ms g _ H m.nx (show RSV K g (.int _) (.d (.int _)) from RD.int _) p⟩
  · subst e
    cases rs with
    | cons r t =>
      cases t
      cases r
      exact .inr ⟨b, rfl, vr _ ms g _ H m.nx (show RSV K g (.int _) (.d (.int _)) from RD.int _) p⟩
def raIntS : AR := fun ss ms P => ∃ a n, ss = [.d (.str a)] ∧ PySem.intText? a = some n ∧ a.length ≤ 640 ∧ P (.d (.int n)) ms
theorem co_intS : CoC K (fun xs H Q => ∃ a n, xs = [.str a] ∧ PySem.intText? a = some n ∧ a.length ≤ 640 ∧ Q (.int n) H) raIntS := by
  intro g ms H vs ss P Q m rs ⟨a, n, e, h1, h2, p⟩ vr
  subst e
  cases rs with
  | cons r t =>
    cases t
    cases r
    exact ⟨a, n, rfl, h1, h2, vr _ ms g _ H m.nx (show RSV K g (.int _) (.d (.int _)) from RD.int _) p⟩
def raStr : AR := fun ss ms P => ∃ i, ss = [.d (.int i)] ∧ i.natAbs.log2 < 1920 ∧ P (.d (.str (toString i))) ms
theorem co_str : CoC K (fun xs H Q => ∃ i, xs = [.int i] ∧ i.natAbs.log2 < 1920 ∧ Q (.str (toString i)) H) raStr := by
  intro g ms H vs ss P Q m rs ⟨i, e, h, p⟩ vr
  subst e
  cases rs with
  | cons r t =>
    cases t
    cases r
    exact ⟨i, rfl, h, vr _ ms g _ H m.nx (show RSV K g (.str _) (.d (.str _)) from RD.str _) p⟩
def raOrd : AR := fun ss ms P => ∃ c : Nat, ss = [.d (.str ⟨#[c]⟩)] ∧ P (.d (.int (c : Int))) ms
theorem co_ord : CoC K (fun xs H Q => ∃ x, xs = [.str x] ∧ x.length = 1 ∧ Q (.int (x.cps.getD 0 0 : Nat)) H) raOrd := by
  intro g ms H vs ss P Q m rs ⟨c, e, p⟩ vr
  subst e
  cases rs with
  | cons r t =>
    cases t
    cases r
    exact ⟨⟨#[c]⟩, rfl, rfl, vr _ ms g _ H m.nx (show RSV K g (.int (c : Int)) (.d (.int _)) from RD.int _) p⟩
/-- list(xs) | tuple(xs), of data -/
def raList : AR := fun ss ms P => ∃ x ds, ss = [x] ∧ itemsD ms x = some ds ∧ P (.d (.list ds)) ms
theorem co_list : CoC K (fun xs H Q => ∃ p ys, xs = [.ref p] ∧ (SqL K H p ys ∨ SqT K H p ys) ∧ ∀ l, H l = none → Q (.ref l) (upd H l (.lst ys))) raList := by
  intro g ms H vs ss P Q m rs ⟨x, ds, e, h, p⟩ vr
  subst e
  cases rs with
  | cons r t =>
    cases t
    obtain ⟨a, ws, rfl, h1, h2⟩ := itemsD_ok m r h
    refine ⟨a, ws, rfl, h1, fun q hq => ?_⟩
    have n := m.nxF (o := .lst ws) hq
    exact vr (.d (.list ds)) ms _ _ _ n (show RD _ _ _ from .lst upd_same (h2.mono n.le.1)) p
/-- list(xs), owned -/
def raListO : AR := fun ss ms P => ∃ x xs, ss = [x] ∧ (seqL ms x = some xs ∨ seqT x = some xs) ∧ P (.o ms.length) (ms ++ [.lst xs])
theorem co_listO : CoC K (fun xs H Q => ∃ p ys, xs = [.ref p] ∧ (SqL K H p ys ∨ SqT K H p ys) ∧ ∀ l, H l = none → Q (.ref l) (upd H l (.lst ys))) raListO := by
  intro g ms H vs ss P Q m rs ⟨x, xs, e, h, p⟩ vr
  subst e
  cases rs with
  | cons r t =>
    cases t
    rename_i v
    have : ∃ a ws, v = V.ref a ∧ (SqL K H a ws ∨ SqT K H a ws) ∧ RSs K g ws xs := by
      rcases h with h | h
      · obtain ⟨a, ws, e, h1, h2⟩ := seqL_ok m r h; exact ⟨a, ws, e, .inl h1, h2⟩
      · obtain ⟨a, ws, e, h1, h2⟩ := seqT_ok m r h; exact ⟨a, ws, e, .inr h1, h2⟩
    obtain ⟨a, ws, rfl, h1, h2⟩ := this
    exact ⟨a, ws, rfl, h1, fun q hq => vr _ _ _ _ _ (m.nxO (mo := .lst xs) (o := .lst ws) hq h2) (own_at m) p⟩
def raTupL : AR := fun ss ms P => ∃ x xs ds, ss = [x] ∧ seqL ms x = some xs ∧ allD xs = some ds ∧ P (.d (.tuple ds)) ms
theorem co_tupL : CoC K (fun xs H Q => ∃ p ys, xs = [.ref p] ∧ ((SqL K H p ys ∧ ∀ l, H l = none → Q (.ref l) (upd H l (.tup ys))) ∨ (SqT K H p ys ∧ Q (.ref p) H))) raTupL := by
  intro g ms H vs ss P Q m rs ⟨x, xs, ds, e, h, h3, p⟩ vr
  subst e
  cases rs with
  | cons r t =>
    cases t
    obtain ⟨a, ws, rfl, h1, h2⟩ := seqL_ok m r h
    have := allD_map h3
    subst this
    refine ⟨a, ws, rfl, .inl ⟨h1, fun q hq => ?_⟩⟩
    have n := m.nxF (o := .tup ws) hq
    exact vr (.d (.tuple ds)) ms _ _ _ n (show RD _ _ _ from .tup upd_same ((RSs.rd h2).mono n.le.1)) p
/-! isinstance of a built-in type -/
def tyNm : SV → Option String
  | .d .none => some "NoneType"
  | .d (.bool _) => some "bool"
  | .d (.int _) => some "int"
  | .d (.str _) => some "str"
  | .d (.list _) => some "list"
  | .d (.tuple _) => some "tuple"
  | _ => none
def isiB (n : String) (ms : ME) : SV → Option Bool
  | .o k => match ms[k]? with
    | some (.lst _) => kitB "list" n
    | some (.dK _) => kitB "dict" n
    | some (.dT _) => kitB "dict" n
    | _ => none
  | s => (tyNm s).bind fun t => kitB t n
def kIsi (n : String) (P : SV → ME → Prop) : SV → ME → Prop := fun x ms => ∃ b, isiB n ms x = some b ∧ P (.d (.bool b)) ms
def aIsi (n : String) (A : AE) : AE := fun Wa dl ms P => A Wa dl ms (kIsi n P)
theorem tyx_ok {g : G} {ms : ME} {H : Hp} {v : V} {s : SV} {n : String} {b : Bool} (m : MemOk K g ms H) (r : RSV K g v s) (h : isiB n ms s = some b) : ∃ t, TyX K H v (.type t) ∧ kitB t n = some b := by
  cases s with
  | d x =>
    cases x with
    | none => cases r; exact ⟨_, .base .non, h⟩
    | bool z => cases r; exact ⟨_, .base (.bl _), h⟩
    | int z => cases r; exact ⟨_, .base (.int _), h⟩
    | str z => cases r; exact ⟨_, .base (.str _), h⟩
    | list z => cases r with
      | lst h1 h2 => exact ⟨_, .base (.lst (m.ex _ _ h1)), h⟩
    | tuple z => cases r with
      | tup h1 h2 => exact ⟨_, .base (.tup (m.ex _ _ h1)), h⟩
    | dict z => cases h
  | xl z => cases h
  | xt z => cases h
  | o k =>
    obtain ⟨a, h1, rfl⟩ := r
    have h' : (match ms[k]? with
      | some (.lst _) => kitB "list" n
      | some (.dK _) => kitB "dict" n
      | some (.dT _) => kitB "dict" n
      | _ => none) = some b := h
    split at h'
    · rename_i e
      obtain ⟨_, o, q, ro⟩ := m.ob k _ a e h1 rfl
      cases o with
      | lst vs => exact ⟨_, .base (.lst q), h'⟩
      | _ => exact ro.elim
    · rename_i e
      obtain ⟨_, o, q, ro⟩ := m.ob k _ a e h1 rfl
      cases o with
      | dK vs => exact ⟨_, .base (.dK q), h'⟩
      | _ => exact ro.elim
    · rename_i e
      obtain ⟨_, o, q, ro⟩ := m.ob k _ a e h1 rfl
      cases o with
      | dT vs => exact ⟨_, .base (.dT q), h'⟩
      | _ => exact ro.elim
    · cases h'
theorem e_isi {X : Cx} {W : WX} {pos p cp : Pos} {e : Expr} {A : AE} {c : Str} {n : String} (hg : Gl X "isinstance") (hm : X.mg "isinstance" = none) (hv : bootBuiltins "isinstance" = some (.builtin "isinstance")) (he : PE X e (eL X.K W A)) (hgc : Gl X c) (hmc : X.mg c = none) (hvc : bootBuiltins c = some (.type n)) (hnc : c ≠ "__name__" := by decide) (hdc : (c == ("__debug__" : Str)) = false := by decide)
    (hs : starEach [e, .Name c cp] X.env = (false, eval e X.env) :: starEach [.Name c cp] X.env := by rfl) (hpl : (backTo pos (starEach [.Name c cp] X.env)).any (·.1) = false := by rfl) (hs2 : starEach [.Name c cp] X.env = [(false, eval (.Name c cp) X.env)] := by rfl) :
    PE X (.Call (.Name "isinstance" p) [e, .Name c cp] [] pos) (eL X.K W (aIsi n A)) :=
  PEm (pe_callB (t := tCons (eL X.K W A) (tCons (tC (.ty n)) tNil)) call_isi hg hm hv (pa_cons he (pa_cons (pe_bltn hgc hmc hvc rfl hnc hdc) pa_nil hs2) hs) (by decide) (by decide) hs hpl) fun σ H Q ⟨g, dl, ms, Wa, P, st, p, vr⟩ =>
    ⟨g, dl, ms, Wa, _, st, p, fun sx ms1 g1 x H1 n1 r1 ⟨b, h1, p1⟩ => by
      obtain ⟨t, ht, hk⟩ := tyx_ok n1.mem r1 h1
      exact ⟨x, .ty n, .type t, .type n, b, rfl, .ty n, ht, kit_ty hk, vr _ ms1 g1 _ H1 n1 (show RSV X.K g1 (.bl _) (.d (.bool _)) from RD.bl _) p1⟩⟩
/-! ### methods -/
def rmAppend : ARm := fun x ss ms P => ∃ k xs y, x = .o k ∧ ss = [y] ∧ ms[k]? = some (.lst xs) ∧ xs.length < sizeLine ∧ P (.d .none) (ms.set k (.lst (xs ++ [y])))
theorem co_append : CoM K rAppend rmAppend := by
  intro g ms H x vs sx ss P Q m rx rs ⟨k, xs, y, e1, e2, h1, h2, p⟩ vr
  subst e1 e2
  cases rs with
  | cons r t =>
    cases t
    obtain ⟨a, ha, rfl⟩ := rx
    obtain ⟨_, o, q, ro⟩ := m.ob k _ a h1 ha rfl
    cases o with
    | lst ws =>
      have rl : RSs K g ws xs := ro
      refine ⟨a, ws, _, rfl, rfl, q, by rw [Paired.length rl]; exact h2, ?_⟩
      exact vr (.d .none) _ g _ _ (m.nxW (mo' := .lst (xs ++ [y])) (o' := .lst (ws ++ [_])) h1 rfl ha (Paired.app rl (.cons r .nil))) RD.non p
    | _ => exact ro.elim
def rmSplit : ARm := fun x ss ms P => ∃ a b, x = .d (.str a) ∧ ss = [.d (.str b)] ∧ (b.length == 0) = false ∧ a.length + 2 ≤ sizeLine ∧ P (.d (.list ((Txt.split a b).map PyData.str))) ms
theorem strs_rd {F : Hp} : ∀ ys : List Str, RDs F (ys.map V.str) (ys.map PyData.str)
  | [] => .nil
  | y :: r => .cons (.str y) (strs_rd r)
theorem rd_strs {F : Hp} : ∀ {ys : List Str} {vs : List V}, RDs F vs (ys.map PyData.str) → vs = ys.map V.str
  | [], _, .nil => rfl
  | y :: r, _, .cons h t => by cases h; rw [rd_strs t]; rfl
theorem co_split : CoM K (fun x xs H Q => ∃ a b, x = .str a ∧ xs = [.str b] ∧ (b.length == 0) = false ∧ a.length + 2 ≤ sizeLine ∧ rNewStrs (Txt.split a b) H Q) rmSplit := by
  intro g ms H x vs sx ss P Q m rx rs ⟨a, b, e1, e2, h1, h2, p⟩ vr
  subst e1 e2
  cases rx
  cases rs with
  | cons r t =>
    cases t
    cases r
    refine ⟨a, b, rfl, rfl, h1, h2, fun q hq => ?_⟩
    have n := m.nxF (o := .lst ((Txt.split a b).map V.str)) hq
    exact vr (.d (.list ((Txt.split a b).map PyData.str))) ms _ _ _ n (show RD _ _ _ from .lst upd_same (strs_rd _)) p
def rmJoin : ARm := fun x ss ms P => ∃ a s ys, x = .d (.str a) ∧ ss = [s] ∧ itemsD ms s = some (ys.map PyData.str) ∧ (ys.map (·.length)).sum + ys.length * a.length ≤ 16777216 ∧ P (.d (.str (Txt.join a ys))) ms
theorem co_join : CoM K (fun x xs H Q => ∃ a p, ∃ ys : List Str, x = .str a ∧ xs = [.ref p] ∧ (SqL K H p (ys.map V.str) ∨ SqT K H p (ys.map V.str)) ∧ (ys.map (·.length)).sum + ys.length * a.length ≤ 16777216 ∧ Q (.str (Txt.join a ys)) H) rmJoin := by
  intro g ms H x vs sx ss P Q m rx rs ⟨a, sv, ys, e1, e2, h1, h2, p⟩ vr
  subst e1 e2
  cases rx
  cases rs with
  | cons r t =>
    cases t
    obtain ⟨b, ws, rfl, h3, h4⟩ := itemsD_ok m r h1
    have e := rd_strs h4
    subst e
    exact ⟨a, b, ys, rfl, rfl, h3, h2, vr _ ms g _ H m.nx (show RSV K g (.str _) (.d (.str _)) from RD.str _) p⟩
end
/-! ### o[i] = v of an owned list -/
def kSet3 (o v : SV) (De : AEnds) (dl : SL) : SV → ME → Prop := fun i ms => ∃ k xs n j, o = .o k ∧ ms[k]? = some (.lst xs) ∧ i = .d (.int n) ∧ ixN xs.length n = some j ∧ De.nx dl (ms.set k (.lst (xs.set j v)))
def kSet2 (I : AE) (v : SV) (Wa : AW) (De : AEnds) (dl : SL) : SV → ME → Prop := fun o ms => I Wa dl ms (kSet3 o v De dl)
def kSet1 (O I : AE) (Wa : AW) (De : AEnds) (dl : SL) : SV → ME → Prop := fun v ms => O Wa dl ms (kSet2 I v Wa De dl)
def aSetL (A O I : AE) : AS := fun Wa De dl ms => A Wa dl ms (kSet1 O I Wa De dl)
theorem s_setL {X : Cx} {W : WX} {pos p2 : Pos} {e o i : Expr} {A O I : AE} (he : PE X e (eL X.K W A)) (ho : PE X o (eL X.K W O)) (hi : PE X i (eL X.K W I))
    (ha : ∀ v, assign (.Subscript o i p2) X.env v = (do
      let ov ← holding [v] (eval o X.env)
      let iv ← holding [v, ov] (eval i X.env)
      standAt p2
      holding [v, ov, iv] (setItem ov iv v)
      release [v, ov, iv] []) := by intro _; rfl)
    (hs : swapsWithSole [.Subscript o i p2] e pos.line X.env = pure false := by rfl) (hw : swappedStores [.Subscript o i p2] e X.env = pure none := by rfl)
    (h1 : (assignEach [.Subscript o i p2] X.env).map (·.2) = [assign (.Subscript o i p2) X.env] := by rfl) : PS X (.Assign [.Subscript o i p2] e pos) (sL X.K W (aSetL A O I)) :=
  PSm (ps_asg he (pg_sub ho hi set_list ha) hs hw h1) fun D σ H ⟨g, dl, ms, Wa, De, st, p, dr⟩ => ⟨g, dl, ms, Wa, _, st, p, fun sv ms1 g1 v H1 n1 r1 p1 =>
    ⟨g1, dl, ms1, Wa, _, st.to n1, p1, fun so ms2 g2 o H2 n2 r2 p2 => ⟨g2, dl, ms2, Wa, _, (st.to n1).to n2, p2, fun si ms3 g3 i H3 n3 r3 ⟨k, xs, n, j, e1, e2, e3, e4, p3⟩ => by
      subst e1 e3
      cases r3
      obtain ⟨a, ha, rfl⟩ := r2.mono n3.le
      obtain ⟨_, ob, q, ro⟩ := n3.mem.ob k _ a e2 ha rfl
      cases ob with
      | lst ws =>
        have rl : RSs X.K g3 ws xs := ro
        refine ⟨a, ws, n, j, rfl, rfl, q, by rw [Paired.length rl]; exact e4, ?_⟩
        have n4 := n3.mem.nxW (mo' := .lst (xs.set j sv)) (o' := .lst (ws.set j v)) e2 rfl ha (Paired.set (r1.mono (n2.trans n3).le) j rl)
        have n04 := n1.trans (n2.trans (n3.trans n4))
        exact dr.nx dl _ g3 σ _ n04 (st.slo.mono n04.le) p3
      | _ => exact ro.elim⟩⟩⟩
end Z

/-! Layer Z, part E: short words for derivations; constants of the module; defs by name. -/
namespace Z
open PySem PySem.Spec PyProof.Rows L2 Evl
section
variable {X : Cx} {W : WX} {pos : Pos}
theorem ev (i : Nat) {x : Str} (hN : X.N[i]? = some x := by rfl) (hv : Vis X.env.scope x := by first | exact Or.inl rfl | exact Or.inr (Or.inl rfl) | exact Or.inr (Or.inr rfl)) (hd : (x == ("__debug__" : Str)) = false := by decide)
    (hcd : (x == ("__classdict__" : Str)) = false := by decide) : PE X (.Name x pos) (eL X.K W (aVar i)) := e_var hN hv hd hcd
theorem e_lc {elt tg iter : Expr} {ifs : List Expr} {scope : Scope} {own : List (Str × Nat)} {A : AI} {Ga : AG} {gt : TG} {C : AT} {E : AE} {fin : List SV → ME → (SV → ME → Prop) → Prop} (fo : FinOk X.K fin) (hc : X.calm = true) (hN : X.N.Nodup) (hi : PI X tg iter (iL X.K W A)) (ok : BlkOk X.N X.env.scope scope own)
    (hg : ∀ (s : Shared) (H : Hp) (C : Addr) (cl : List (Str × Addr)) (fp : List Addr), PG (X.blk s H scope (compEnvC scope cl C X.env) fp) tg gt) (gr : GRel X.K Ga gt) (gw : GW gt (own.map (·.2)))
    (ht : ∀ (s : Shared) (H : Hp) (C' : Addr) (cl : List (Str × Addr)) (fp : List Addr), PTs (X.blk s H scope (compEnvC scope cl C' X.env) fp) ifs (tL X.K W C))
    (he : ∀ (s : Shared) (H : Hp) (C : Addr) (cl : List (Str × Addr)) (fp : List Addr), PE (X.blk s H scope (compEnvC scope cl C X.env) fp) elt (eL X.K W E)) (hs : ∀ x, foldedSetIterable iter X.env x = pure x := by intro _; rfl) :
    PE X (.ListComp elt [⟨tg, iter, ifs, 0⟩] scope pos) (eL X.K W (aLc fin A Ga C E (own.map (·.2)))) := PEm (pe_lc hc hN hi ok hg ht he hs) (lc_lift gr gw fo)
theorem s_setLc {i : Nat} {y : Str} {py spos : Pos} {elt tg iter : Expr} {ifs : List Expr} {scope : Scope} {own : List (Str × Nat)} {A : AI} {Ga : AG} {gt : TG} {C : AT} {E : AE} {fin : List SV → ME → (SV → ME → Prop) → Prop} (fo : FinOk X.K fin) (hc : X.calm = true) (hN : X.N.Nodup) (hy : X.N[i]? = some y) (hyl : X.env.scope.names.lookup y = some .local)
    (hsw : swapsWith (.ListComp elt [⟨tg, iter, ifs, 0⟩] scope pos) (some (.Name y py)) spos.line X.env = pure true) (hi : PI X tg iter (iL X.K W A)) (ok : BlkOk X.N X.env.scope scope own)
    (hg : ∀ (s : Shared) (H : Hp) (C : Addr) (cl : List (Str × Addr)) (fp : List Addr), PG (X.blk s H scope (compEnvC scope cl C X.env) fp) tg gt) (gr : GRel X.K Ga gt) (gw : GW gt (own.map (·.2)))
    (ht : ∀ (s : Shared) (H : Hp) (C' : Addr) (cl : List (Str × Addr)) (fp : List Addr), PTs (X.blk s H scope (compEnvC scope cl C' X.env) fp) ifs (tL X.K W C))
    (he : ∀ (s : Shared) (H : Hp) (C : Addr) (cl : List (Str × Addr)) (fp : List Addr), PE (X.blk s H scope (compEnvC scope cl C X.env) fp) elt (eL X.K W E)) (hs : ∀ x, foldedSetIterable iter X.env x = pure x := by intro _; rfl) :
    PS X (.Assign [.Name y py] (.ListComp elt [⟨tg, iter, ifs, 0⟩] scope pos) spos) (sL X.K W (aAsg (aLc fin A Ga C E (own.map (·.2))) (aName i))) :=
  PSm (ps_setLc hc hN hy hyl hsw hi ok hg ht he hs) fun D σ H h => asg_lift (A := aLc fin A Ga C E (own.map (·.2))) gr_name D σ H h |> fun q => by
    obtain ⟨g, dl, ms, Wa, De, st, p, dr⟩ := h
    exact lc_lift gr gw fo σ H _ ⟨g, dl, ms, Wa, _, st, p, fun sv ms1 g1 v H1 n1 r1 p1 => gr_name g1 dl ms1 σ H1 v sv De.nx D.nx n1.mem (st.slo.mono n1.le) r1 p1 (dr.nx.mono n1)⟩
/-! ### the module's own names -/
theorem e_gI {x : Str} {i : Int} (h : ∃ t, X.mg x = some (.int i t)) (hg : Gl X x) (hd : (x == ("__debug__" : Str)) = false := by decide) : PE X (.Name x pos) (eL X.K W (aC (.int i))) :=
  let ⟨t, e⟩ := h
  e_const (pe_glob hg e (v := .int i) ⟨t, rfl⟩ hd) fun _ => .int i
theorem e_gS {x z : Str} (h : ∃ t, X.mg x = some (.str z t)) (hg : Gl X x) (hd : (x == ("__debug__" : Str)) = false := by decide) : PE X (.Name x pos) (eL X.K W (aC (.str z))) :=
  let ⟨t, e⟩ := h
  e_const (pe_glob hg e (v := .str z) ⟨t, rfl⟩ hd) fun _ => .str z
def aXT (ds : List D) : AE := fun _ _ ms P => P (.xt ds) ms
theorem e_gT {x : Str} {zs : List Str} (h : ∃ a, X.mg x = some (.ref a) ∧ ∀ H, SqT X.K H a (zs.map V.str)) (hg : Gl X x) (hd : (x == ("__debug__" : Str)) = false := by decide) : PE X (.Name x pos) (eL X.K W (aXT (zs.map PyData.str))) :=
  let ⟨a, e, hq⟩ := h
  PEm (pe_glob hg e (v := .ref a) rfl hd) fun σ H Q ⟨g, dl, ms, Wa, P, st, p, vr⟩ => vr (.xt (zs.map PyData.str)) ms g _ H st.mem.nx ⟨a, _, rfl, hq g.F, strs_rd zs⟩ p
/-! ### defs by name -/
structure OkAt (P : Program) (w : World) (K : PySem.W.Frag) (mg : Str → Option Value) (base : Heap) (CX : CXT) (k : Nat) (x : Str) (ps : List Str) (p : AP) (f : Addr) (fd : FuncData) : Prop where
  gl : mg x = some (.ref f)
  kp : PySem.W.keepIn K (.ref f) = true
  bi : Binds K fd ps []
  ok : FnOk P w K mg base CX k f fd ps (liftP K p)
def Ok (P : Program) (w : World) (K : PySem.W.Frag) (mg : Str → Option Value) (base : Heap) (CX : CXT) (k : Nat) (x : Str) (ps : List Str) (p : AP) : Prop := ∃ f fd, OkAt P w K mg base CX k x ps p f fd
theorem e_callO {e : Expr} {es : List Expr} {R : AA} {CX : CXT} {k : Nat} {ps : List Str} {p : AP} {x : Str} {px : Pos} (h : Ok X.prog X.w X.K X.mg X.base CX k x ps p) (hx : Passes CX X E0) (hr : Room k X.A) (hg : Gl X x)
    (ha : PA X (e :: es) (aL X.K W R)) (hdb : (x == ("__debug__" : Str)) = false := by decide) (he : starEach (e :: es) X.env = (false, eval e X.env) :: starEach es X.env := by rfl) (hpl : (backTo pos (starEach es X.env)).any (·.1) = false := by rfl) : PE X (.Call (.Name x px) (e :: es) [] pos) (eL X.K W (aCall p R)) :=
  let ⟨_, _, o⟩ := h
  e_call o.ok hx hr hg o.gl o.kp o.bi ha hdb he hpl
theorem e_callXO {e : Expr} {es : List Expr} {R : AA} {k : Nat} {ps : List Str} {p : AP} {x : Str} {px : Pos} (h : Ok X.prog X.w X.K X.mg X.base (L2.CX X.prog X.w) k x ps p) (tk : Takes X W) (hr : Room k X.A) (hg : Gl X x)
    (ha : PA X (e :: es) (aL X.K W R)) (hdb : (x == ("__debug__" : Str)) = false := by decide) (he : starEach (e :: es) X.env = (false, eval e X.env) :: starEach es X.env := by rfl) (hpl : (backTo pos (starEach es X.env)).any (·.1) = false := by rfl) : PE X (.Call (.Name x px) (e :: es) [] pos) (eL X.K W (aCallX p R)) :=
  let ⟨_, _, o⟩ := h
  e_callX o.ok (fun σ => passAt tk σ) hr hg o.gl o.kp o.bi ha hdb he hpl
theorem List.set_eq_of_getElem?_eq_some_aux {α : Type} {l : List α} {i : Nat} {x : α} (h : l[i]? = some x) : l.set i x = l := by
  apply List.ext_getElem?
  intro j
  by_cases e : i = j
  · subst e
    rw [List.getElem?_set_self (List.getElem?_eq_some_iff.mp h).1, h]
  · rw [List.getElem?_set_ne e]
/-- a def as the head tells it -/
structure DefAt (K : PySem.W.Frag) (mg : Str → Option Value) (x : Str) (st : Stmt) : Prop where
  fn : ∃ fd, FunD K x x (defArgs st) (defBody st) (defScope st) [] [] (He.ga K x) fd
  gl : mg x = some (.ref (He.ga K x))
end
theorem DefAt.ok {P : Program} {w : World} {K : PySem.W.Frag} {mg : Str → Option Value} {base : Heap} {x : Str} {st : Stmt} (h : DefAt K mg x st) {CX : CXT} {k : Nat} {ps : List Str} {p : AP}
    (hb : ∀ fd, FunD K x x (defArgs st) (defBody st) (defScope st) [] [] (He.ga K x) fd → Binds K fd ps [])
    (ho : ∀ fd, FunD K x x (defArgs st) (defBody st) (defScope st) [] [] (He.ga K x) fd → FnOk P w K mg base CX k (He.ga K x) fd ps (liftP K p)) : Ok P w K mg base CX k x ps p := by
  obtain ⟨fd, F⟩ := h.fn
  exact ⟨_, fd, h.gl, F.kp, hb fd F, ho fd F⟩
/-! ### freezing -/
def kFrz (P : SV → ME → Prop) : SV → ME → Prop := fun x ms => ∃ k xs ds, x = .o k ∧ ms[k]? = some (.lst xs) ∧ allD xs = some ds ∧ P (.d (.list ds)) (ms.set k .dead)
def aFrz (A : AE) : AE := fun Wa dl ms P => A Wa dl ms (kFrz P)
theorem e_frz {X : Cx} {W : WX} {e : Expr} {A : AE} (h : PE X e (eL X.K W A)) : PE X e (eL X.K W (aFrz A)) := PEm h fun σ H Q ⟨g, dl, ms, Wa, P, st, p, vr⟩ => ⟨g, dl, ms, Wa, _, st, p, fun sv ms1 g1 v H1 n1 r1 ⟨k, xs, ds, e, e2, e3, p1⟩ => by
  subst e
  have ex := allD_map e3
  subst ex
  obtain ⟨a, g2, ha, n2, r2⟩ := n1.mem.nxZ e2
  obtain ⟨b, hb, rfl⟩ := r1
  rw [ha] at hb
  cases hb
  exact vr (.d (.list ds)) _ g2 _ H1 (n1.trans n2) r2 p1⟩
def aFrzS (i : Nat) (S : AS) : AS := fun Wa De dl ms => ∃ k xs ds, dl[i]? = some (some (.o k)) ∧ ms[k]? = some (.lst xs) ∧ allD xs = some ds ∧ S Wa De (dl.set i (some (.d (.list ds)))) (ms.set k .dead)
theorem ss_frz {X : Cx} {W : WX} {sts : List Stmt} {S : AS} (i : Nat) (h : PSs X sts (sL X.K W S)) : PSs X sts (sL X.K W (aFrzS i S)) := PSsm h fun D σ H ⟨g, dl, ms, Wa, De, st, ⟨k, xs, ds, e1, e2, e3, p⟩, dr⟩ => by
  have ex := allD_map e3
  subst ex
  obtain ⟨a, g2, ha, n2, r2⟩ := st.mem.nxZ e2
  obtain ⟨v, hv, b, hb, e⟩ := st.slo.2 i _ e1
  subst e
  rw [ha] at hb
  cases hb
  have s2 := (st.slo.mono n2.le).set (i := i) (v := .ref a) (s := .d (.list ds)) r2
  rw [List.set_eq_of_getElem?_eq_some_aux hv] at s2
  exact ⟨g2, _, _, Wa, De, ⟨n2.mem, s2, st.wr.mono n2⟩, p, dr.mono n2⟩
end Z

/-! Layer Z, part F: more operators and built-ins. -/
namespace Z
open PySem PySem.Spec PyProof.Rows L2 Evl
section
variable {K : PySem.W.Frag}
/-! -x -/
def kUn (f : Int → Int) (P : SV → ME → Prop) : SV → ME → Prop := fun x ms => ∃ i, x = .d (.int i) ∧ P (.d (.int (f i))) ms
def aUn (f : Int → Int) (A : AE) : AE := fun Wa dl ms P => A Wa dl ms (kUn f P)
abbrev rNeg : Int → Int := fun i => -i
theorem e_neg {X : Cx} {W : WX} {pos : Pos} {a : Expr} {A : AE} (h : PE X a (eL X.K W A)) : PE X (.UnaryOp .USub a pos) (eL X.K W (aUn rNeg A)) := PEm (pe_un un_neg h) fun σ H Q ⟨g, dl, ms, Wa, P, st, p, vr⟩ => ⟨g, dl, ms, Wa, _, st, p, fun sv ms1 g1 v H1 n1 r1 ⟨i, e, p1⟩ => by
  subst e
  cases r1
  exact ⟨i, rfl, vr _ ms1 g1 _ H1 n1 (show RSV X.K g1 (.int (-i)) (.d (.int (rNeg i))) from RD.int _) p1⟩⟩
/-! lists joined -/
def seqM (ms : ME) : SV → Option (List SV)
  | .d (.list ds) => some (ds.map SV.d)
  | .o k => match ms[k]? with
    | some (.lst xs) => some xs
    | _ => none
  | _ => none
theorem seqM_ok {g : G} {ms : ME} {H : Hp} {v : V} {s : SV} {xs : List SV} (m : MemOk K g ms H) (r : RSV K g v s) (h : seqM ms s = some xs) : ∃ a vs, v = .ref a ∧ H a = some (.lst vs) ∧ RSs K g vs xs := by
  cases s with
  | d x =>
    cases x with
    | list ds =>
      cases h
      cases r with
      | lst h1 h2 => exact ⟨_, _, rfl, m.ex _ _ h1, h2.rs⟩
    | _ => cases h
  | xl ds => cases h
  | xt ds => cases h
  | o k =>
    obtain ⟨a, h1, h2⟩ := r
    have h' : (match ms[k]? with
      | some (.lst xs) => some xs
      | _ => none) = some xs := h
    split at h'
    · rename_i ys e
      cases h'
      obtain ⟨_, o, e2, q⟩ := m.ob k _ a e h1 rfl
      cases o with
      | lst vs => exact ⟨a, vs, h2, e2, q⟩
      | _ => exact q.elim
    · cases h'
def raCat : AR2 := fun x y ms P => ∃ xs ys ds, seqM ms x = some xs ∧ seqM ms y = some ys ∧ allD (xs ++ ys) = some ds ∧ xs.length + ys.length ≤ sizeLine ∧ P (.d (.list ds)) ms
theorem co_cat : Co2 K rCat raCat := by
  intro g ms H x y sx sy P Q m rx ry ⟨xs, ys, ds, e1, e2, e3, hl, p⟩ vr
  obtain ⟨a, vs, rfl, h1, h2⟩ := seqM_ok m rx e1
  obtain ⟨b, ws, rfl, h3, h4⟩ := seqM_ok m ry e2
  refine ⟨a, b, vs, ws, rfl, rfl, h1, h3, by rw [Paired.length h2, Paired.length h4]; exact hl, fun q hq => ?_⟩
  have n := m.nxF (o := .lst (vs ++ ws)) hq
  have r : RSs K g (vs ++ ws) (xs ++ ys) := Paired.app h2 h4
  rw [allD_map e3] at r
  exact vr (.d (.list ds)) ms _ _ _ n (show RD _ _ _ from .lst upd_same ((RSs.rd r).mono n.le.1)) p
def raRep : AR2 := fun x y ms P => ∃ xs k ds, seqM ms x = some xs ∧ y = .d (.int k) ∧ -(2 ^ 63) ≤ k ∧ k < 2 ^ 63 ∧ xs.length * k.toNat ≤ sizeLine ∧ allD xs = some ds ∧ P (.d (.list (List.replicate k.toNat ds).flatten)) ms
theorem rep_rel {K : PySem.W.Frag} {g : G} {vs : List V} {ds : List D} (r : RDs g.F vs ds) : ∀ n : Nat, RDs g.F (List.replicate n vs).flatten (List.replicate n ds).flatten
  | 0 => .nil
  | n + 1 => by
    rw [List.replicate_succ, List.replicate_succ, List.flatten_cons, List.flatten_cons]
    have := Paired.app (RDs.rs (K := K) r) (RDs.rs (K := K) (rep_rel (K := K) r n))
    rw [← List.map_append] at this
    exact RSs.rd this
theorem co_rep : Co2 K rRep raRep := by
  intro g ms H x y sx sy P Q m rx ry ⟨xs, k, ds, e1, e2, h1, h2, h3, e3, p⟩ vr
  subst e2
  cases ry
  obtain ⟨a, vs, rfl, h4, h5⟩ := seqM_ok m rx e1
  refine ⟨a, k, vs, rfl, rfl, h4, h1, h2, by rw [Paired.length h5]; exact h3, fun q hq => ?_⟩
  have n := m.nxF (o := .lst (List.replicate k.toNat vs).flatten) hq
  rw [allD_map e3] at h5
  exact vr (.d (.list _)) ms _ _ _ n (show RD _ _ _ from .lst upd_same ((rep_rel (K := K) (RSs.rd h5) _).mono n.le.1)) p
/-! tuples joined, cut -/
def raCatT : AR2 := fun x y ms P => ∃ xs ys ds, seqT x = some xs ∧ seqT y = some ys ∧ allD (xs ++ ys) = some ds ∧ xs ≠ [] ∧ ys ≠ [] ∧ xs.length + ys.length ≤ sizeLine ∧ P (.d (.tuple ds)) ms
theorem co_catT : Co2 K (rCatA K) raCatT := by
  intro g ms H x y sx sy P Q m rx ry ⟨xs, ys, ds, e1, e2, e3, z1, z2, hl, p⟩ vr
  obtain ⟨a, vs, rfl, h1, h2⟩ := seqT_ok m rx e1
  obtain ⟨b, ws, rfl, h3, h4⟩ := seqT_ok m ry e2
  have nx : vs ≠ [] := fun z => by subst z; cases h2; exact z1 rfl
  have ny : ws ≠ [] := fun z => by subst z; cases h4; exact z2 rfl
  refine ⟨a, b, vs, ws, rfl, rfl, h1, h3, by rw [Paired.length h2, Paired.length h4]; exact hl, fun z => absurd z nx, fun _ z => absurd z ny, fun _ _ q hq => ?_⟩
  have n := m.nxF (o := .tup (vs ++ ws)) hq
  have r : RSs K g (vs ++ ws) (xs ++ ys) := Paired.app h2 h4
  rw [allD_map e3] at r
  exact vr (.d (.tuple ds)) ms _ _ _ n (show RD _ _ _ from .tup upd_same ((RSs.rd r).mono n.le.1)) p
/-! name += e -/
def ipAdd : AIp := fun x y ms P => ∃ i j, x = .d (.int i) ∧ y = .d (.int j) ∧ P (.d (.int (i + j))) ms
def ipSub : AIp := fun x y ms P => ∃ i j, x = .d (.int i) ∧ y = .d (.int j) ∧ P (.d (.int (i - j))) ms
theorem co_ipAdd : CoIp K (ipI fun i j => i + j) ipAdd := by
  intro g ms H x y sx sy P Q m rx ry ⟨i, j, e1, e2, p⟩ vr
  subst e1 e2
  cases rx
  cases ry
  exact ⟨i, j, rfl, rfl, vr _ ms g _ H m.nx (show RSV K g (.int (i + j)) (.d (.int (i + j))) from RD.int _) p⟩
theorem co_ipSub : CoIp K (ipI fun i j => i - j) ipSub := by
  intro g ms H x y sx sy P Q m rx ry ⟨i, j, e1, e2, p⟩ vr
  subst e1 e2
  cases rx
  cases ry
  exact ⟨i, j, rfl, rfl, vr _ ms g _ H m.nx (show RSV K g (.int (i - j)) (.d (.int (i - j))) from RD.int _) p⟩
/-! min, max of two ints -/
def raMin2 : AR := fun ss ms P => ∃ i j, ss = [.d (.int i), .d (.int j)] ∧ P (.d (.int (if j < i then j else i))) ms
def raMax2 : AR := fun ss ms P => ∃ i j, ss = [.d (.int i), .d (.int j)] ∧ P (.d (.int (if j > i then j else i))) ms
theorem co_min2 : CoC K (fun xs H Q => ∃ i j, xs = [.int i, .int j] ∧ Q (.int (if j < i then j else i)) H) raMin2 := by
  intro g ms H vs ss P Q m rs ⟨i, j, e, p⟩ vr
  subst e
  cases rs with
  | cons r t => cases t with
    | cons r2 t =>
      cases t
      cases r
      cases r2
      exact ⟨i, j, rfl, vr _ ms g _ H m.nx (show RSV K g (.int _) (.d (.int _)) from RD.int _) p⟩
theorem co_max2 : CoC K (fun xs H Q => ∃ i j, xs = [.int i, .int j] ∧ Q (.int (if j > i then j else i)) H) raMax2 := by
  intro g ms H vs ss P Q m rs ⟨i, j, e, p⟩ vr
  subst e
  cases rs with
  | cons r t => cases t with
    | cons r2 t =>
      cases t
      cases r
      cases r2
      exact ⟨i, j, rfl, vr _ ms g _ H m.nx (show RSV K g (.int _) (.d (.int _)) from RD.int _) p⟩
/-! in, of any depth, among a list's items -/
def raInD (neg : Bool) : AR2 := fun x y ms P => ∃ d ds, asD ms x = some d ∧ asD ms y = some (.list ds) ∧ SeqAt.shaped d = true ∧ SeqAt.shaped (.list ds) = true ∧ P (.d (.bool (if neg then !ds.any (fun z => PyData.eqv z d) else ds.any fun z => PyData.eqv z d))) ms
theorem co_inD : Co2 K (rInD K) (raInD false) := by
  intro g ms H x y sx sy P Q m rx ry ⟨d, ds, e1, e2, h1, h2, p⟩ vr
  exact ⟨d, ds, asD_ok m rx e1, asD_ok m ry e2, h1, h2, vr _ ms g _ H m.nx (show RSV K g (.bl _) (.d (.bool _)) from RD.bl _) p⟩
theorem co_notInD : Co2 K (rNotInD K) (raInD true) := by
  intro g ms H x y sx sy P Q m rx ry ⟨d, ds, e1, e2, h1, h2, p⟩ vr
  exact ⟨d, ds, asD_ok m rx e1, asD_ok m ry e2, h1, h2, vr _ ms g _ H m.nx (show RSV K g (.bl _) (.d (.bool _)) from RD.bl _) p⟩
/-! list.pop() of an owned list; list.index of flat things -/
def rmPop : ARm := fun x ss ms P => ∃ k xs y, x = .o k ∧ ss = [] ∧ ms[k]? = some (.lst xs) ∧ xs[xs.length - 1]? = some y ∧ P y (ms.set k (.lst xs.dropLast))
theorem dropLast_take {α : Type} (l : List α) : l.dropLast = l.take (l.length - 1) := List.dropLast_eq_take
theorem co_pop : CoM K rPop rmPop := by
  intro g ms H x vs sx ss P Q m rx rs ⟨k, xs, y, e1, e2, h1, h2, p⟩ vr
  subst e1 e2
  cases rs
  obtain ⟨a, ha, rfl⟩ := rx
  obtain ⟨_, o, q, ro⟩ := m.ob k _ a h1 ha rfl
  cases o with
  | lst ws =>
    have rl : RSs K g ws xs := ro
    obtain ⟨v, hv, rv⟩ := Paired.get rl h2
    refine ⟨a, ws, v, rfl, rfl, q, by rw [Paired.length rl]; exact hv, ?_⟩
    refine vr y _ g v _ (m.nxW (mo' := .lst xs.dropLast) (o' := .lst ws.dropLast) h1 rfl ha ?_) rv p
    show RSs K g ws.dropLast xs.dropLast
    rw [dropLast_take, dropLast_take, Paired.length rl]
    exact Paired.take _ rl
  | _ => exact ro.elim
def rmIndex : ARm := fun x ss ms P => ∃ d ds j z, ss = [.d d] ∧ (∃ xs, seqL ms x = some xs ∧ allD xs = some ds) ∧ flatD d = true ∧ ds.all flatD = true ∧ ds[j]? = some z ∧ eqF z d = true ∧ (∀ (m : Nat) z', m < j → ds[m]? = some z' → eqF z' d = false) ∧ P (.d (.int (j : Nat))) ms
theorem RDs.get {F : Hp} : ∀ {vs : List V} {ds : List D} {i : Nat} {d : D}, RDs F vs ds → ds[i]? = some d → ∃ v, vs[i]? = some v ∧ RD F v d
  | _, _, _, _, .nil, h => by simp at h
  | _, _, 0, _, .cons r _, h => by simp at h; subst h; exact ⟨_, rfl, r⟩
  | _, _, i + 1, _, .cons _ t, h => by
    obtain ⟨v, h1, h2⟩ := RDs.get (i := i) t (by simpa using h)
    exact ⟨v, by simpa using h1, h2⟩
theorem RDs.get' {F : Hp} : ∀ {vs : List V} {ds : List D} {i : Nat} {v : V}, RDs F vs ds → vs[i]? = some v → ∃ d, ds[i]? = some d ∧ RD F v d
  | _, _, _, _, .nil, h => by simp at h
  | _, _, 0, _, .cons r _, h => by simp at h; subst h; exact ⟨_, rfl, r⟩
  | _, _, i + 1, _, .cons _ t, h => by
    obtain ⟨v, h1, h2⟩ := RDs.get' (i := i) t (by simpa using h)
    exact ⟨v, by simpa using h1, h2⟩
theorem flat_get {ds : List D} (f : ds.all flatD = true) {j : Nat} {z : D} (h : ds[j]? = some z) : flatD z = true := List.all_eq_true.mp f z (List.mem_of_getElem? h)
theorem co_index : CoM K (rIndex K) rmIndex := by
  intro g ms H x vs sx ss P Q m rx rs ⟨d, ds, j, z, e, ⟨xs, e1, e2⟩, h1, h2, h3, h4, h5, p⟩ vr
  subst e
  have ex := allD_map e2
  subst ex
  obtain ⟨a, ws, rfl, h6, h7⟩ := seqL_ok m rx e1
  have rd := RSs.rd h7
  cases rs with
  | cons r t =>
    cases t
    obtain ⟨vz, hv, rz⟩ := RDs.get rd h3
    refine ⟨a, ws, _, j, vz, rfl, rfl, h6, flat_ok r h1, flats_ok rd h2, hv, ?_, fun k z' hk hz' => ?_, vr _ ms g _ H m.nx (show RSV K g (.int _) (.d (.int _)) from RD.int _) p⟩
    · rw [eqF_ok rz r (flat_get h2 h3) h1]; exact h4
    · obtain ⟨d', hd', rd'⟩ := RDs.get' rd hz'
      rw [eqF_ok rd' r (flat_get h2 hd') h1]
      exact h5 k d' hk hd'
/-! sum of a list of ints -/
def raSum : AR := fun ss ms P => ∃ (x : SV) (ns : List Int), ss = [x] ∧ (∃ xs, seqL ms x = some xs ∧ allD xs = some (ns.map PyData.int)) ∧ P (.d (.int ns.sum)) ms
theorem ints_rd {F : Hp} : ∀ {ns : List Int} {vs : List V}, RDs F vs (ns.map PyData.int) → vs = ns.map V.int
  | [], _, .nil => rfl
  | n :: r, _, .cons h t => by
    cases h
    rw [ints_rd t, List.map_cons]
theorem co_sum : CoC K (rSum K) raSum := by
  intro g ms H vs ss P Q m rs ⟨x, ns, e, ⟨xs, e1, e2⟩, p⟩ vr
  subst e
  have ex := allD_map e2
  subst ex
  cases rs with
  | cons r t =>
    cases t
    obtain ⟨a, ws, rfl, h6, h7⟩ := seqL_ok m r e1
    have e := ints_rd (RSs.rd h7)
    subst e
    exact ⟨a, ns, rfl, h6, vr _ ms g _ H m.nx (show RSV K g (.int _) (.d (.int _)) from RD.int _) p⟩
/-! truth of a sequence -/
def truA (ms : ME) : SV → Option Bool
  | .d (.int i) => some (i != 0)
  | .d .none => some false
  | s => match seqL ms s with
    | some xs => some (!xs.isEmpty)
    | none => (seqT s).map fun xs => !xs.isEmpty
def kTru (P : Bool → ME → Prop) : SV → ME → Prop := fun x ms => ∃ b, truA ms x = some b ∧ P b ms
def aTru (A : AE) : AT := fun Wa dl ms P => A Wa dl ms (kTru P)
theorem truA_ok {g : G} {ms : ME} {H : Hp} {v : V} {s : SV} {b : Bool} (m : MemOk K g ms H) (r : RSV K g v s) (h : truA ms s = some b) : TruV K v H b := by
  have base : ∀ s : SV, RSV K g v s → (match seqL ms s with
    | some xs => some (!xs.isEmpty)
    | none => (seqT s).map fun xs => !xs.isEmpty) = some b → TruV K v H b := by
    intro s r h
    split at h
    · rename_i xs e
      obtain ⟨a, ws, rfl, h1, h2⟩ := seqL_ok m r e
      cases h
      exact .inl ⟨ws, h1, by cases h2 <;> rfl⟩
    · cases e2 : seqT s with
      | none => rw [e2] at h; cases h
      | some xs =>
        rw [e2] at h
        cases h
        obtain ⟨a, ws, rfl, h1, h2⟩ := seqT_ok m r e2
        exact .inr (.inl ⟨ws, h1, by cases h2 <;> rfl⟩)
  cases s with
  | d x =>
    cases x with
    | int i => cases r; cases h; rfl
    | none => cases r; cases h; rfl
    | _ => exact base _ r h
  | _ => exact base _ r h
theorem t_tru {X : Cx} {W : WX} {e : Expr} {A : AE} (h : PE X e (eL X.K W A)) (he : ∀ whole, isTrue e X.env whole = (do let v ← whole; standAt e.pos; holding [v] (truthy v)) := by intro _; rfl) : PT X e (tL X.K W (aTru A)) :=
  PTm (pt_truth h he) fun σ H Q ⟨g, dl, ms, Wa, P, st, p, br⟩ => ⟨g, dl, ms, Wa, _, st, p, fun sv ms1 g1 v H1 n1 r1 ⟨b, e, p1⟩ => ⟨b, truA_ok n1.mem r1 e, br b ms1 g1 H1 n1 p1⟩⟩
/-! equal, unequal scalars of like kind -/
def scalA : SV → SV → Bool
  | .d .none, .d .none => true
  | .d (.bool _), .d (.bool _) => true
  | .d (.int _), .d (.int _) => true
  | .d (.str _), .d (.str _) => true
  | _, _ => false
def eqA : SV → SV → Bool
  | .d .none, .d .none => true
  | .d (.bool a), .d (.bool b) => a == b
  | .d (.int a), .d (.int b) => a == b
  | .d (.str a), .d (.str b) => a == b
  | _, _ => false
def raEq (neg : Bool) : AR2 := fun x y ms P => scalA x y = true ∧ P (.d (.bool (if neg then !eqA x y else eqA x y))) ms
theorem scal_ok {g : G} {v u : V} {x y : SV} (r : RSV K g v x) (q : RSV K g u y) (h : scalA x y = true) : scal v u = true ∧ decide (v = u) = eqA x y := by
  cases x with
  | d a =>
    cases y with
    | d b =>
      cases a with
      | none => cases b with
        | none => cases r; cases q; exact ⟨rfl, rfl⟩
        | _ => cases h
      | bool a => cases b with
        | bool b =>
          cases r; cases q
          refine ⟨rfl, ?_⟩
          cases a <;> cases b <;> rfl
        | _ => cases h
      | int a => cases b with
        | int b =>
          cases r; cases q
          refine ⟨rfl, ?_⟩
          show decide (V.int a = V.int b) = (a == b)
          by_cases e : a = b
          · subst e; simp
          · have : ¬ V.int a = V.int b := fun z => e (V.int.inj z)
            rw [decide_eq_false this]
            exact (beq_eq_false_iff_ne.mpr e).symm
        | _ => cases h
      | str a => cases b with
        | str b =>
          cases r; cases q
          refine ⟨rfl, ?_⟩
          show decide (V.str a = V.str b) = (a == b)
          by_cases e : a = b
          · subst e; simp
          · have : ¬ V.str a = V.str b := fun z => e (V.str.inj z)
            rw [decide_eq_false this]
            exact (beq_eq_false_iff_ne.mpr e).symm
        | _ => cases h
      | list a => cases h
      | tuple a => cases h
      | dict a => cases h
    | _ => cases a <;> cases h
  | _ => cases h
theorem co_eq : Co2 K rEq (raEq false) := by
  intro g ms H x y sx sy P Q m rx ry ⟨h, p⟩ vr
  obtain ⟨h1, h2⟩ := scal_ok rx ry h
  refine ⟨h1, ?_⟩
  rw [h2]
  exact vr _ ms g _ H m.nx (show RSV K g (.bl _) (.d (.bool _)) from RD.bl _) p
theorem co_ne : Co2 K rNe (raEq true) := by
  intro g ms H x y sx sy P Q m rx ry ⟨h, p⟩ vr
  obtain ⟨h1, h2⟩ := scal_ok rx ry h
  refine ⟨h1, ?_⟩
  rw [h2]
  exact vr _ ms g _ H m.nx (show RSV K g (.bl _) (.d (.bool _)) from RD.bl _) p
end
/-! a statement, then the rest, with a word between them -/
def aCut (S T : AS) : AS := fun Wa De dl ms => ∃ Mid : SL → ME → Prop, S Wa { De with nx := Mid } dl ms ∧ ∀ dl' ms', Mid dl' ms' → T Wa De dl' ms'
theorem ss_cut {X : Cx} {W : WX} {st : Stmt} {rest : List Stmt} {S T : AS} (h1 : PS X st (sL X.K W S)) (h2 : PSs X rest (sL X.K W T)) : PSs X (st :: rest) (sL X.K W (aCut S T)) :=
  PSsm (pss_cons h1 h2) fun D σ H ⟨g, dl, ms, Wa, De, st, ⟨Mid, p, hm⟩, dr⟩ => ⟨g, dl, ms, Wa, { De with nx := Mid }, st, p,
    ⟨fun dl1 ms1 g1 σ1 H1 n1 s1 p1 => ⟨g1, dl1, ms1, Wa, De, ⟨n1.mem, s1, st.wr.mono n1⟩, hm dl1 ms1 p1, dr.mono n1⟩, dr.rt, dr.bk, dr.ct⟩⟩
end Z

/-! Layer Z, part G: reading bodies step by step. -/
namespace Z
open PySem PySem.Spec PyProof.Rows L2
theorem z_aC {x : D} {u0} {u1} {ms} {Q} (h : Q (.d x) ms) : aC x u0 u1 ms Q := h
theorem z_kOp2 {ra : AR2} {x : SV} {P : SV → ME → Prop} {y} {ms} (h : ra x y ms P) : kOp2 ra x P y ms := h
theorem z_kOp1 {ra : AR2} {B : AE} {Wa : AW} {dl : SL} {P : SV → ME → Prop} {x} {ms} (h : B Wa dl ms (kOp2 ra x P)) : kOp1 ra B Wa dl P x ms := h
theorem z_aOp {ra : AR2} {A B : AE} {Wa} {dl} {ms} {P} (h : A Wa dl ms (kOp1 ra B Wa dl P)) : aOp ra A B Wa dl ms P := h
theorem z_aB {A : AE} {Wa} {dl} {ms} {P} (h : A Wa dl ms (kB P)) : aB A Wa dl ms P := h
theorem z_kNot {P : Bool → ME → Prop} {b} {ms} (h : P (!b) ms) : kNot P b ms := h
theorem z_aAnd {S T : AT} {Wa} {dl} {ms} {P} (h : S Wa dl ms (kAnd T Wa dl P)) : aAnd S T Wa dl ms P := h
theorem z_aOr {S T : AT} {Wa} {dl} {ms} {P} (h : S Wa dl ms (kOr T Wa dl P)) : aOr S T Wa dl ms P := h
theorem z_aNot {S : AT} {Wa} {dl} {ms} {P} (h : S Wa dl ms (kNot P)) : aNot S Wa dl ms P := h
theorem z_aAndV {A B : AE} {Wa} {dl} {ms} {P} (h : A Wa dl ms (kAndV B Wa dl P)) : aAndV A B Wa dl ms P := h
theorem z_aOrV {A B : AE} {Wa} {dl} {ms} {P} (h : A Wa dl ms (kOrV B Wa dl P)) : aOrV A B Wa dl ms P := h
theorem z_aNotV {A : AE} {Wa} {dl} {ms} {P} (h : A Wa dl ms (kNotV P)) : aNotV A Wa dl ms P := h
theorem z_aIf {T : AT} {A B : AE} {Wa} {dl} {ms} {P} (h : T Wa dl ms (kIf A B Wa dl P)) : aIf T A B Wa dl ms P := h
theorem z_aNil {u0} {u1} {ms} {P} (h : P [] ms) : aNil u0 u1 ms P := h
theorem z_kCons2 {x : SV} {P : List SV → ME → Prop} {xs} {ms} (h : P (x :: xs) ms) : kCons2 x P xs ms := h
theorem z_kCons1 {R : AA} {Wa : AW} {dl : SL} {P : List SV → ME → Prop} {x} {ms} (h : R Wa dl ms (kCons2 x P)) : kCons1 R Wa dl P x ms := h
theorem z_aCons {A : AE} {R : AA} {Wa} {dl} {ms} {P} (h : A Wa dl ms (kCons1 R Wa dl P)) : aCons A R Wa dl ms P := h
theorem z_kCB {ra : AR} {P : SV → ME → Prop} {ss} {ms} (h : ra ss ms P) : kCB ra P ss ms := h
theorem z_aCB {ra : AR} {R : AA} {Wa} {dl} {ms} {P} (h : R Wa dl ms (kCB ra P)) : aCB ra R Wa dl ms P := h
theorem z_aCall {p : AP} {R : AA} {Wa} {dl} {ms} {P} (h : R Wa dl ms (kCall p P)) : aCall p R Wa dl ms P := h
theorem z_aCallX {p : AP} {R : AA} {Wa} {dl} {ms} {P} (h : R Wa dl ms (kCallX p Wa dl P)) : aCallX p R Wa dl ms P := h
theorem z_aBM0 {T : String} {ra : ARm} {A : AE} {Wa} {dl} {ms} {P} (h : A Wa dl ms (kBM0 T ra P)) : aBM0 T ra A Wa dl ms P := h
theorem z_kBM2 {ra : ARm} {x : SV} {P : SV → ME → Prop} {ss} {ms} (h : ra x ss ms P) : kBM2 ra x P ss ms := h
theorem z_aBM {T : String} {ra : ARm} {A : AE} {R : AA} {Wa} {dl} {ms} {P} (h : A Wa dl ms (kBM1 T ra R Wa dl P)) : aBM T ra A R Wa dl ms P := h
theorem z_aName {i : Nat} {sv} {dl} {ms} {P} (h : P (dl.set i (some sv)) ms) : aName i sv dl ms P := h
theorem z_kG {u : AGs} {r : List SV} {P : SL → ME → Prop} {dl} {ms} (h : u r dl ms P) : kG u r P dl ms := h
theorem z_aNext {u0} {De} {dl} {ms} (h : De.nx dl ms) : aNext u0 De dl ms := h
theorem z_kSeq {S : AS} {Wa : AW} {De : AEnds} {dl} {ms} (h : S Wa De dl ms) : kSeq S Wa De dl ms := h
theorem z_aSeq {S T : AS} {Wa} {De} {dl} {ms} (h : S Wa { De with nx := kSeq T Wa De } dl ms) : aSeq S T Wa De dl ms := h
theorem z_kDrop {De : AEnds} {dl : SL} {u0} {ms} (h : De.nx dl ms) : kDrop De dl u0 ms := h
theorem z_aDrop {A : AE} {Wa} {De} {dl} {ms} (h : A Wa dl ms (kDrop De dl)) : aDrop A Wa De dl ms := h
theorem z_aRet {A : AE} {Wa} {De} {dl} {ms} (h : A Wa dl ms De.rt) : aRet A Wa De dl ms := h
theorem z_aRetN {u0} {De} {u2} {ms} (h : De.rt (.d .none) ms) : aRetN u0 De u2 ms := h
theorem z_aIfS {C : AT} {S T : AS} {Wa} {De} {dl} {ms} (h : C Wa dl ms (kIfS S T Wa De dl)) : aIfS C S T Wa De dl ms := h
theorem z_kAsg {Ga : AG} {De : AEnds} {dl : SL} {x} {ms} (h : Ga x dl ms De.nx) : kAsg Ga De dl x ms := h
theorem z_aAsg {A : AE} {Ga : AG} {Wa} {De} {dl} {ms} (h : A Wa dl ms (kAsg Ga De dl)) : aAsg A Ga Wa De dl ms := h
theorem z_aBrk {u0} {De} {dl} {ms} (h : De.bk dl ms) : aBrk u0 De dl ms := h
theorem z_aCont {u0} {De} {dl} {ms} (h : De.ct dl ms) : aCont u0 De dl ms := h
theorem z_aNever {u0} {u1} {u2} {u3} (h : False) : aNever u0 u1 u2 u3 := h
theorem z_aPar {i j : Nat} {R : AA} {Wa} {De} {dl} {ms} (h : R Wa dl ms (kPar i j De dl)) : aPar i j R Wa De dl ms := h
theorem z_kAug2 {i : Nat} {De : AEnds} {dl : SL} {z} {ms} (h : De.nx (dl.set i (some z)) ms) : kAug2 i De dl z ms := h
theorem z_kAug {i : Nat} {ra : AIp} {x : SV} {De : AEnds} {dl : SL} {y} {ms} (h : ra x y ms (kAug2 i De dl)) : kAug i ra x De dl y ms := h
theorem z_aIL {A : AE} {Wa} {dl} {ms} {P} (h : A Wa dl ms (kIL P)) : aIL A Wa dl ms P := h
theorem z_aIT {A : AE} {Wa} {dl} {ms} {P} (h : A Wa dl ms (kIT P)) : aIT A Wa dl ms P := h
theorem z_aIR1 {R : AA} {Wa} {dl} {ms} {P} (h : R Wa dl ms (kIR1 P)) : aIR1 R Wa dl ms P := h
theorem z_aIR2 {R : AA} {Wa} {dl} {ms} {P} (h : R Wa dl ms (kIR2 P)) : aIR2 R Wa dl ms P := h
theorem z_aIS {A : AE} {Wa} {dl} {ms} {P} (h : A Wa dl ms (kIS P)) : aIS A Wa dl ms P := h
theorem z_aYes {u0} {u1} {ms} {P} (h : P true ms) : aYes u0 u1 ms P := h
theorem z_aNoPart {u0} {u1} {ms} {P} (h : P none ms) : aNoPart u0 u1 ms P := h
theorem z_aPart {A : AE} {Wa} {dl} {ms} {P} (h : A Wa dl ms (kPart P)) : aPart A Wa dl ms P := h
theorem z_kSl3 {ra : ASl} {x : SV} {lo : Option Int} {P : SV → ME → Prop} {hi} {ms} (h : ra x lo hi ms P) : kSl3 ra x lo P hi ms := h
theorem z_kSl2 {ra : ASl} {U : AO} {Wa : AW} {dl : SL} {x : SV} {P : SV → ME → Prop} {lo} {ms} (h : U Wa dl ms (kSl3 ra x lo P)) : kSl2 ra U Wa dl x P lo ms := h
theorem z_kSl1 {ra : ASl} {L U : AO} {Wa : AW} {dl : SL} {P : SV → ME → Prop} {x} {ms} (h : L Wa dl ms (kSl2 ra U Wa dl x P)) : kSl1 ra L U Wa dl P x ms := h
theorem z_aSl {ra : ASl} {A : AE} {L U : AO} {Wa} {dl} {ms} {P} (h : A Wa dl ms (kSl1 ra L U Wa dl P)) : aSl ra A L U Wa dl ms P := h
theorem z_aIsi {n : String} {A : AE} {Wa} {dl} {ms} {P} (h : A Wa dl ms (kIsi n P)) : aIsi n A Wa dl ms P := h
theorem z_kSet2 {I : AE} {v : SV} {Wa : AW} {De : AEnds} {dl : SL} {o} {ms} (h : I Wa dl ms (kSet3 o v De dl)) : kSet2 I v Wa De dl o ms := h
theorem z_kSet1 {O I : AE} {Wa : AW} {De : AEnds} {dl : SL} {v} {ms} (h : O Wa dl ms (kSet2 I v Wa De dl)) : kSet1 O I Wa De dl v ms := h
theorem z_aSetL {A O I : AE} {Wa} {De} {dl} {ms} (h : A Wa dl ms (kSet1 O I Wa De dl)) : aSetL A O I Wa De dl ms := h
theorem z_aXT {ds : List D} {u0} {u1} {ms} {P} (h : P (.xt ds) ms) : aXT ds u0 u1 ms P := h
theorem z_aFrz {A : AE} {Wa} {dl} {ms} {P} (h : A Wa dl ms (kFrz P)) : aFrz A Wa dl ms P := h
theorem z_aUn {f : Int → Int} {A : AE} {Wa} {dl} {ms} {P} (h : A Wa dl ms (kUn f P)) : aUn f A Wa dl ms P := h
theorem z_aTru {A : AE} {Wa} {dl} {ms} {P} (h : A Wa dl ms (kTru P)) : aTru A Wa dl ms P := h
section
variable {i j : Nat} {W : AW} {De : AEnds} {dl : SL} {ms : ME} {P : SV → ME → Prop} {Pb : Bool → ME → Prop} {sv : SV} {A B : AE} {S T : AS} {C : AT} {x y : Int} {b c : Bool}
theorem z_nx {p : SL → ME → Prop} {r q s} (h : p dl ms) : ({ nx := p, rt := r, bk := q, ct := s } : AEnds).nx dl ms := h
theorem z_bk {p r s} {q : SL → ME → Prop} (h : q dl ms) : ({ nx := p, rt := r, bk := q, ct := s } : AEnds).bk dl ms := h
theorem z_ct {p r q} {s : SL → ME → Prop} (h : s dl ms) : ({ nx := p, rt := r, bk := q, ct := s } : AEnds).ct dl ms := h
theorem z_rt {p q s} {r : SV → ME → Prop} (h : r sv ms) : ({ nx := p, rt := r, bk := q, ct := s } : AEnds).rt sv ms := h
theorem z_aVar (e : dl[i]? = some (some sv)) (h : P sv ms) : aVar i W dl ms P := ⟨sv, e, h⟩
theorem z_kB (h : Pb b ms) : kB Pb (.d (.bool b)) ms := ⟨b, rfl, h⟩
theorem z_kNotV (h : P (.d (.bool (!b))) ms) : kNotV P (.d (.bool b)) ms := ⟨b, rfl, h⟩
theorem z_if (h1 : b = true → S W De dl ms) (h2 : b = false → T W De dl ms) : kIfS S T W De dl b ms := by
  unfold kIfS
  cases b with
  | true => exact h1 rfl
  | false => exact h2 rfl
theorem z_ifT (h : S W De dl ms) : kIfS S T W De dl true ms := h
theorem z_ifF (h : T W De dl ms) : kIfS S T W De dl false ms := h
theorem z_ife (h1 : b = true → A W dl ms P) (h2 : b = false → B W dl ms P) : kIf A B W dl P b ms := by
  unfold kIf
  cases b with
  | true => exact h1 rfl
  | false => exact h2 rfl
theorem z_ifeT (h : A W dl ms P) : kIf A B W dl P true ms := h
theorem z_ifeF (h : B W dl ms P) : kIf A B W dl P false ms := h
theorem z_and (h1 : b = true → C W dl ms Pb) (h2 : b = false → Pb false ms) : kAnd C W dl Pb b ms := by
  unfold kAnd
  cases b with
  | true => exact h1 rfl
  | false => exact h2 rfl
theorem z_andT (h : C W dl ms Pb) : kAnd C W dl Pb true ms := h
theorem z_andF (h : Pb false ms) : kAnd C W dl Pb false ms := h
theorem z_or (h1 : b = true → Pb true ms) (h2 : b = false → C W dl ms Pb) : kOr C W dl Pb b ms := by
  unfold kOr
  cases b with
  | true => exact h1 rfl
  | false => exact h2 rfl
theorem z_orT (h : Pb true ms) : kOr C W dl Pb true ms := h
theorem z_orF (h : C W dl ms Pb) : kOr C W dl Pb false ms := h
theorem z_andV (h1 : b = true → B W dl ms P) (h2 : b = false → P (.d (.bool false)) ms) : kAndV B W dl P (.d (.bool b)) ms := ⟨b, rfl, by
  cases b with
  | true => exact h1 rfl
  | false => exact h2 rfl⟩
theorem z_orV (h1 : b = true → P (.d (.bool true)) ms) (h2 : b = false → B W dl ms P) : kOrV B W dl P (.d (.bool b)) ms := ⟨b, rfl, by
  cases b with
  | true => exact h1 rfl
  | false => exact h2 rfl⟩
theorem z_raI {C : Int → Int → Prop} {f : Int → Int → Int} (hc : C x y) (h : P (.d (.int (f x y))) ms) : raI C f (.d (.int x)) (.d (.int y)) ms P := ⟨x, y, rfl, rfl, hc, h⟩
theorem z_raI0 {f : Int → Int → Int} (h : P (.d (.int (f x y))) ms) : raI0 f (.d (.int x)) (.d (.int y)) ms P := ⟨x, y, rfl, rfl, h⟩
theorem z_raB0 {f : Int → Int → Bool} (h : P (.d (.bool (f x y))) ms) : raB0 f (.d (.int x)) (.d (.int y)) ms P := ⟨x, y, rfl, rfl, h⟩
theorem z_raAddS {s t : Str} (hl : s.length + t.length ≤ sizeLine) (h : P (.d (.str (s ++ t))) ms) : raAddS (.d (.str s)) (.d (.str t)) ms P := ⟨s, t, rfl, rfl, hl, h⟩
theorem z_raInt (h : P (.d (.int x)) ms) : raInt [.d (.int x)] ms P := .inl ⟨x, rfl, h⟩
theorem z_raIntB (h : P (.d (.int (if b then 1 else 0))) ms) : raInt [.d (.bool b)] ms P := .inr ⟨b, rfl, h⟩
theorem z_raStr (hx : x.natAbs.log2 < 1920) (h : P (.d (.str (toString x))) ms) : raStr [.d (.int x)] ms P := ⟨x, rfl, hx, h⟩
theorem z_raOrd {n : Nat} (h : P (.d (.int (n : Int))) ms) : raOrd [.d (.str ⟨#[n]⟩)] ms P := ⟨n, rfl, h⟩
theorem z_raEqI (h : P (.d (.bool (x == y))) ms) : raEq false (.d (.int x)) (.d (.int y)) ms P := ⟨rfl, h⟩
theorem z_raNeI (h : P (.d (.bool (!(x == y)))) ms) : raEq true (.d (.int x)) (.d (.int y)) ms P := ⟨rfl, h⟩
theorem z_raEqS {s t : Str} (h : P (.d (.bool (s == t))) ms) : raEq false (.d (.str s)) (.d (.str t)) ms P := ⟨rfl, h⟩
theorem z_raNeS {s t : Str} (h : P (.d (.bool (!(s == t)))) ms) : raEq true (.d (.str s)) (.d (.str t)) ms P := ⟨rfl, h⟩
theorem z_raIsN (h : P (.d (.bool (isNo sv))) ms) : raIsN false sv (.d .none) ms P := ⟨rfl, h⟩
theorem z_raNotN (h : P (.d (.bool (!isNo sv))) ms) : raIsN true sv (.d .none) ms P := ⟨rfl, h⟩
theorem z_raLen {n : Nat} (e : lenA ms sv = some n) (h : P (.d (.int (n : Int))) ms) : raLen [sv] ms P := ⟨sv, n, rfl, e, h⟩
theorem z_raIxL {xs : List SV} (e : seqL ms sv = some xs) {v : SV} (e2 : atI xs x = some v) (h : P v ms) : raIxL sv (.d (.int x)) ms P := ⟨xs, x, v, e, rfl, e2, h⟩
theorem z_raIxT {xs : List SV} (e : seqT sv = some xs) {v : SV} (e2 : atI xs x = some v) (h : P v ms) : raIxT sv (.d (.int x)) ms P := ⟨xs, x, v, e, rfl, e2, h⟩
theorem z_raIxS {z : Str} {n : Nat} (hl : z.length ≤ sizeLine) (e : atI z.cps.toList x = some n) (h : P (.d (.str ⟨#[n]⟩)) ms) : raIxS (.d (.str z)) (.d (.int x)) ms P := ⟨z, x, n, rfl, rfl, hl, e, h⟩
theorem z_rTup {ss : List SV} {ds : List D} (e : allD ss = some ds) (hl : ss.length ≤ sizeLine) (h : P (.d (.tuple ds)) ms) : rTup ss ms P := ⟨ds, e, hl, h⟩
theorem z_rLst {ss : List SV} {ds : List D} (e : allD ss = some ds) (hl : ss.length ≤ sizeLine) (h : P (.d (.list ds)) ms) : rLst ss ms P := ⟨ds, e, hl, h⟩
theorem z_rLstO {ss : List SV} (hl : ss.length ≤ sizeLine) (h : P (.o ms.length) (ms ++ [.lst ss])) : rLstO ss ms P := ⟨hl, h⟩
theorem z_kPart {Po : Option Int → ME → Prop} (h : Po (some x) ms) : kPart Po (.d (.int x)) ms := ⟨x, rfl, h⟩
theorem z_kUn {f : Int → Int} (h : P (.d (.int (f x))) ms) : kUn f P (.d (.int x)) ms := ⟨x, rfl, h⟩
theorem z_kIsi {n : String} (e : isiB n ms sv = some b) (h : P (.d (.bool b)) ms) : kIsi n P sv ms := ⟨b, e, h⟩
theorem z_kTru (e : truA ms sv = some b) (h : Pb b ms) : kTru Pb sv ms := ⟨b, e, h⟩
theorem z_kPar {v w : SV} (h : De.nx ((dl.set i (some v)).set j (some w)) ms) : kPar i j De dl [v, w] ms := ⟨v, w, rfl, h⟩
theorem z_aAug {ra : AIp} (e : dl[i]? = some (some sv)) (h : A W dl ms (kAug i ra sv De dl)) : aAug i A ra W De dl ms := ⟨sv, e, h⟩
theorem z_ipAdd (h : P (.d (.int (x + y))) ms) : ipAdd (.d (.int x)) (.d (.int y)) ms P := ⟨x, y, rfl, rfl, h⟩
theorem z_ipSub (h : P (.d (.int (x - y))) ms) : ipSub (.d (.int x)) (.d (.int y)) ms P := ⟨x, y, rfl, rfl, h⟩
theorem z_kBM0 {Ty : String} {ra : ARm} (ty : tyA Ty ms sv) (h : ra sv [] ms P) : kBM0 Ty ra P sv ms := ⟨ty, h⟩
theorem z_kBM1 {Ty : String} {ra : ARm} {R : AA} (ty : tyA Ty ms sv) (h : R W dl ms (kBM2 ra sv P)) : kBM1 Ty ra R W dl P sv ms := ⟨ty, h⟩
theorem z_kCall {p : AP} {ss : List SV} (h : p ss ms P fun _ _ => False) : kCall p P ss ms := h
theorem z_kCallX {p : AP} {ss : List SV} (h : p ss ms P fun xa ms' => W xa dl ms') : kCallX p W dl P ss ms := h
theorem z_aGTup {n : Nat} {ts : AGs} {xs : List SV} {p : SL → ME → Prop} (e : seqT sv = some xs) (hl : xs.length = n) (h : ts xs dl ms p) : aGTup n ts sv dl ms p := ⟨xs, e, hl, h⟩
theorem z_aGCons {t : AG} {u : AGs} {r : List SV} {p : SL → ME → Prop} (h : t sv dl ms (kG u r p)) : aGCons t u (sv :: r) dl ms p := ⟨sv, r, rfl, h⟩
theorem z_aGNil {p : SL → ME → Prop} (h : p dl ms) : aGNil [] dl ms p := ⟨rfl, h⟩
theorem z_kSet3 {k : Nat} {xs : List SV} {v : SV} {q : Nat} (e : ms[k]? = some (.lst xs)) (e2 : ixN xs.length x = some q) (h : De.nx dl (ms.set k (.lst (xs.set q v)))) : kSet3 (.o k) v De dl (.d (.int x)) ms := ⟨k, xs, x, q, rfl, e, rfl, e2, h⟩
theorem z_kFrz {k : Nat} {xs : List SV} {ds : List D} (e : ms[k]? = some (.lst xs)) (e2 : allD xs = some ds) (h : P (.d (.list ds)) (ms.set k .dead)) : kFrz P (.o k) ms := ⟨k, xs, ds, rfl, e, e2, h⟩
theorem seqL_o {k : Nat} {xs : List SV} (e : ms[k]? = some (.lst xs)) : seqL ms (.o k) = some xs := by
  show (match ms[k]? with
    | some (.lst xs) => some xs
    | _ => none) = some xs
  rw [e]
theorem seqM_o {k : Nat} {xs : List SV} (e : ms[k]? = some (.lst xs)) : seqM ms (.o k) = some xs := by
  show (match ms[k]? with
    | some (.lst xs) => some xs
    | _ => none) = some xs
  rw [e]
theorem asD_o {k : Nat} {ds : List D} (e : ms[k]? = some (.lst (ds.map SV.d))) : asD ms (.o k) = some (.list ds) := by
  show (match ms[k]? with
    | some (.lst xs) => (allD xs).map PyData.list
    | _ => none) = some (.list ds)
  rw [e]
  show (allD (ds.map SV.d)).map PyData.list = _
  rw [allD_of]
  rfl
theorem lenA_o {k : Nat} {xs : List SV} (e : ms[k]? = some (.lst xs)) : lenA ms (.o k) = some xs.length := by
  show (match seqL ms (.o k) with
    | some xs => some xs.length
    | none => (seqT (.o k)).map List.length) = some xs.length
  rw [seqL_o e]
theorem lenA_l {ds : List D} : lenA ms (.d (.list ds)) = some ds.length := by
  show some (ds.map SV.d).length = _
  rw [List.length_map]
theorem lenA_t {ds : List D} : lenA ms (.d (.tuple ds)) = some ds.length := by
  show some (ds.map SV.d).length = _
  rw [List.length_map]
theorem lenA_s {s : Str} (h : s.length ≤ sizeLine) : lenA ms (.d (.str s)) = some s.length := by
  show (if s.length ≤ sizeLine then some s.length else none) = some s.length
  rw [if_pos h]
theorem atI_of {α : Type} {xs : List α} {r : Int} {v : α} (h0 : 0 ≤ r) (e : xs[r.toNat]? = some v) : atI xs r = some v := by
  have : r = ((r.toNat : Nat) : Int) := by omega
  rw [this]
  exact atI_nat e
theorem ixN_of {n : Nat} {r : Int} (h0 : 0 ≤ r) (h : r.toNat < n) : ixN n r = some r.toNat := by
  unfold ixN
  rw [if_pos h0, if_pos (by omega)]
theorem z_raIxLo {k : Nat} {xs : List SV} {v : SV} (e : ms[k]? = some (.lst xs)) (e2 : atI xs x = some v) (h : P v ms) : raIxL (.o k) (.d (.int x)) ms P := z_raIxL (seqL_o e) e2 h
theorem z_raLenO {k : Nat} {xs : List SV} (e : ms[k]? = some (.lst xs)) (h : P (.d (.int (xs.length : Int))) ms) : raLen [.o k] ms P := z_raLen (lenA_o e) h
theorem z_kSet3g {k : Nat} {xs : List SV} {v : SV} {q : Nat} (e : ms[k]? = some (.lst xs)) (e2 : ixN xs.length x = some q) (h : ∀ ms', ms' = ms.set k (.lst (xs.set q v)) → ms'[k]? = some (.lst (xs.set q v)) → De.nx dl ms') : kSet3 (.o k) v De dl (.d (.int x)) ms :=
  z_kSet3 e e2 (h _ rfl (List.getElem?_set_self (List.getElem?_eq_some_iff.mp e).1))
theorem z_cut (h : S W { De with nx := kSeq T W De } dl ms) : aCut S T W De dl ms := ⟨_, h, fun _ _ q => q⟩
theorem z_cutM (Mid : SL → ME → Prop) (h1 : S W { De with nx := Mid } dl ms) (h2 : ∀ dl' ms', Mid dl' ms' → T W De dl' ms') : aCut S T W De dl ms := ⟨Mid, h1, h2⟩
/-! loops -/
def kFor (Ga : AG) (S : AS) (W : AW) (De : AEnds) (dl : SL) : AIt → ME → Prop := fun it ms1 => ∃ Pv : Nat → SL → ME → Prop, Pv 0 dl ms1 ∧ (∀ i dl' ms', i ≤ it.n → Pv i dl' ms' → it.inv ms') ∧
  (∀ i x dl' ms', i < it.n → it.at_ i = some x → Pv i dl' ms' → Ga x dl' ms' fun dl2 ms2 => S W { De with nx := Pv (i + 1), ct := Pv (i + 1), bk := De.nx } dl2 ms2) ∧ ∀ dl' ms', Pv it.n dl' ms' → De.nx dl' ms'
theorem z_aFor {I : AI} {Ga : AG} (h : I W dl ms (kFor Ga S W De dl)) : aFor I Ga S W De dl ms := h
def kBody (S : AS) (W : AW) (De : AEnds) (N : SL → ME → Prop) : SL → ME → Prop := fun dl ms => S W { nx := N, rt := De.rt, bk := De.nx, ct := N } dl ms
theorem z_kBody {N : SL → ME → Prop} (h : S W { nx := N, rt := De.rt, bk := De.nx, ct := N } dl ms) : kBody S W De N dl ms := h
theorem z_kFor {Ga : AG} {it : AIt} (Pv : Nat → SL → ME → Prop) (h0 : Pv 0 dl ms) (hi : ∀ i dl' ms', i ≤ it.n → Pv i dl' ms' → it.inv ms') (hs : ∀ i x dl' ms', i < it.n → it.at_ i = some x → Pv i dl' ms' → Ga x dl' ms' (kBody S W De (Pv (i + 1)))) (hd : ∀ dl' ms', Pv it.n dl' ms' → De.nx dl' ms') : kFor Ga S W De dl it ms := ⟨Pv, h0, hi, hs, hd⟩
/-- over data items, no condition on the memory -/
theorem z_forD {Ga : AG} {ds : List D} {inv : ME → Prop} (Pv : Nat → SL → ME → Prop) (h0 : Pv 0 dl ms) (hi : ∀ ms', inv ms') (hs : ∀ i d dl' ms', ds[i]? = some d → Pv i dl' ms' → Ga (.d d) dl' ms' (kBody S W De (Pv (i + 1)))) (hd : ∀ dl' ms', Pv ds.length dl' ms' → De.nx dl' ms') : kFor Ga S W De dl (itSeq (ds.map SV.d) inv) ms := by
  refine z_kFor Pv h0 (fun _ _ ms' _ _ => hi ms') (fun i x dl' ms' h1 h2 p => ?_) (fun dl' ms' p => hd dl' ms' (by rw [← List.length_map (f := SV.d)]; exact p))
  have h2' : (ds.map SV.d)[i]? = some x := h2
  rw [List.getElem?_map] at h2'
  cases e : ds[i]? with
  | none => rw [e] at h2'; cases h2'
  | some d =>
    rw [e] at h2'
    cases h2'
    exact hs i d dl' ms' e p
theorem z_forR {Ga : AG} {n : Nat} {lo : Int} (Pv : Nat → SL → ME → Prop) (h0 : Pv 0 dl ms) (hs : ∀ (i : Nat) dl' ms', i < n → Pv i dl' ms' → Ga (.d (.int (lo + (i : Int)))) dl' ms' (kBody S W De (Pv (i + 1)))) (hd : ∀ dl' ms', Pv n dl' ms' → De.nx dl' ms') : kFor Ga S W De dl ⟨n, fun i => some (.d (.int (lo + (i : Int)))), fun _ => True⟩ ms :=
  z_kFor Pv h0 (fun _ _ _ _ _ => trivial) (fun i x dl' ms' h1 h2 p => by cases h2; exact hs i dl' ms' h1 p) hd
theorem z_forR0 {Ga : AG} {n : Nat} (Pv : Nat → SL → ME → Prop) (h0 : Pv 0 dl ms) (hs : ∀ (i : Nat) dl' ms', i < n → Pv i dl' ms' → Ga (.d (.int (i : Int))) dl' ms' (kBody S W De (Pv (i + 1)))) (hd : ∀ dl' ms', Pv n dl' ms' → De.nx dl' ms') : kFor Ga S W De dl ⟨n, fun i => some (.d (.int (i : Int))), fun _ => True⟩ ms :=
  z_kFor Pv h0 (fun _ _ _ _ _ => trivial) (fun i x dl' ms' h1 h2 p => by cases h2; exact hs i dl' ms' h1 p) hd
theorem z_forS {Ga : AG} {z : Str} (Pv : Nat → SL → ME → Prop) (h0 : Pv 0 dl ms) (hs : ∀ (i : Nat) c dl' ms', z.cps.toList[i]? = some c → Pv i dl' ms' → Ga (.d (.str ⟨#[c]⟩)) dl' ms' (kBody S W De (Pv (i + 1)))) (hd : ∀ dl' ms', Pv z.cps.toList.length dl' ms' → De.nx dl' ms') : kFor Ga S W De dl ⟨z.cps.size, fun i => (z.cps[i]?).map fun c => .d (.str ⟨#[c]⟩), fun _ => True⟩ ms :=
  z_kFor Pv h0 (fun _ _ _ _ _ => trivial) (fun i x dl' ms' h1 h2 p => by
    have h2' : (z.cps[i]?).map (fun c => SV.d (.str ⟨#[c]⟩)) = some x := h2
    cases e : z.cps[i]? with
    | none => rw [e] at h2'; cases h2'
    | some c =>
      rw [e] at h2'
      cases h2'
      exact hs i c dl' ms' (by rw [Array.getElem?_toList]; exact e) p) fun dl' ms' p => hd dl' ms' (by rw [Array.length_toList]; exact p)
theorem z_kIL {Pi : AIt → ME → Prop} {xs : List SV} (e : seqL ms sv = some xs) (h : Pi (itSeq xs fun ms' => seqL ms' sv = some xs) ms) : kIL Pi sv ms := ⟨xs, e, h⟩
theorem z_kIT {Pi : AIt → ME → Prop} {xs : List SV} (e : seqT sv = some xs) (h : Pi (itSeq xs fun _ => True) ms) : kIT Pi sv ms := ⟨xs, e, h⟩
theorem z_kIR1 {Pi : AIt → ME → Prop} (h1 : -(2 ^ 62) ≤ x) (h2 : x < 2 ^ 62) (h : Pi ⟨x.toNat, fun i => some (.d (.int (i : Int))), fun _ => True⟩ ms) : kIR1 Pi [.d (.int x)] ms := ⟨x, rfl, h1, h2, h⟩
theorem z_kIR2 {Pi : AIt → ME → Prop} (h1 : -(2 ^ 62) ≤ x ∧ x < 2 ^ 62 ∧ -(2 ^ 62) ≤ y ∧ y < 2 ^ 62) (h : Pi ⟨(y - x).toNat, fun k => some (.d (.int (x + (k : Int)))), fun _ => True⟩ ms) : kIR2 Pi [.d (.int x), .d (.int y)] ms := ⟨x, y, rfl, h1, h⟩
theorem z_kIS {Pi : AIt → ME → Prop} {z : Str} (h : Pi ⟨z.cps.size, fun i => (z.cps[i]?).map fun c => .d (.str ⟨#[c]⟩), fun _ => True⟩ ms) : kIS Pi (.d (.str z)) ms := ⟨z, rfl, h⟩
/-! comprehensions -/
def kLc (fin : List SV → ME → (SV → ME → Prop) → Prop) (Ga : AG) (C : AT) (E : AE) (vs : List Nat) (W : AW) (dl : SL) (P : SV → ME → Prop) : AIt → ME → Prop := fun it ms1 => it.n ≤ sizeLine ∧ ∃ Pv : Nat → List SV → ME → Prop, Pv 0 [] ms1 ∧ (∀ i acc ms', i ≤ it.n → Pv i acc ms' → it.inv ms') ∧
  (∀ i x acc ms', i < it.n → it.at_ i = some x → Pv i acc ms' → Ga x (wipeA dl vs) ms' fun dl2 ms2 => C W dl2 ms2 fun b ms3 => if b = true then E W dl2 ms3 fun y ms4 => Pv (i + 1) (acc ++ [y]) ms4 else Pv (i + 1) acc ms3) ∧ ∀ acc ms', Pv it.n acc ms' → fin acc ms' P
theorem z_aLc {fin I Ga C E vs} (h : I W dl ms (kLc fin Ga C E vs W dl P)) : aLc fin I Ga C E vs W dl ms P := h
/-- a turn: the item's place is taken, the test, the element -/
def kTurn (C : AT) (E : AE) (W : AW) (N : List SV → ME → Prop) (acc : List SV) : SL → ME → Prop := fun dl2 ms2 => C W dl2 ms2 fun b ms3 => if b = true then E W dl2 ms3 fun y ms4 => N (acc ++ [y]) ms4 else N acc ms3
def kTest (E : AE) (W : AW) (dl : SL) (N : List SV → ME → Prop) (acc : List SV) : Bool → ME → Prop := fun b ms3 => if b = true then E W dl ms3 fun y ms4 => N (acc ++ [y]) ms4 else N acc ms3
def kElt (N : List SV → ME → Prop) (acc : List SV) : SV → ME → Prop := fun y ms => N (acc ++ [y]) ms
theorem z_kTurn {E : AE} {N : List SV → ME → Prop} {acc : List SV} (h : C W dl ms (kTest E W dl N acc)) : kTurn C E W N acc dl ms := h
theorem z_test {E : AE} {N : List SV → ME → Prop} {acc : List SV} (h1 : b = true → E W dl ms (kElt N acc)) (h2 : b = false → N acc ms) : kTest E W dl N acc b ms := by
  unfold kTest
  cases b with
  | true => exact h1 rfl
  | false => exact h2 rfl
theorem z_testT {E : AE} {N : List SV → ME → Prop} {acc : List SV} (h : E W dl ms (kElt N acc)) : kTest E W dl N acc true ms := h
theorem z_kElt {N : List SV → ME → Prop} {acc : List SV} (h : N (acc ++ [sv]) ms) : kElt N acc sv ms := h
theorem z_kLc {fin Ga C E vs} {it : AIt} (hz : it.n ≤ sizeLine) (Pv : Nat → List SV → ME → Prop) (h0 : Pv 0 [] ms) (hi : ∀ i acc ms', i ≤ it.n → Pv i acc ms' → it.inv ms')
    (hs : ∀ i x acc ms', i < it.n → it.at_ i = some x → Pv i acc ms' → Ga x (wipeA dl vs) ms' (kTurn C E W (Pv (i + 1)) acc)) (hd : ∀ acc ms', Pv it.n acc ms' → fin acc ms' P) : kLc fin Ga C E vs W dl P it ms := ⟨hz, Pv, h0, hi, hs, hd⟩
theorem z_lcD {fin Ga C E vs} {ds : List D} {inv : ME → Prop} (hz : ds.length ≤ sizeLine) (Pv : Nat → List SV → ME → Prop) (h0 : Pv 0 [] ms) (hi : ∀ ms', inv ms') (hs : ∀ i d acc ms', ds[i]? = some d → Pv i acc ms' → Ga (.d d) (wipeA dl vs) ms' (kTurn C E W (Pv (i + 1)) acc)) (hd : ∀ acc ms', Pv ds.length acc ms' → fin acc ms' P) : kLc fin Ga C E vs W dl P (itSeq (ds.map SV.d) inv) ms := by
  refine z_kLc (by show (ds.map SV.d).length ≤ _; rw [List.length_map]; exact hz) Pv h0 (fun _ _ ms' _ _ => hi ms') (fun i x dl' ms' h1 h2 p => ?_) (fun dl' ms' p => hd dl' ms' (by rw [← List.length_map (f := SV.d)]; exact p))
  have h2' : (ds.map SV.d)[i]? = some x := h2
  rw [List.getElem?_map] at h2'
  cases e : ds[i]? with
  | none => rw [e] at h2'; cases h2'
  | some d =>
    rw [e] at h2'
    cases h2'
    exact hs i d dl' ms' e p
theorem z_lcR {fin Ga C E vs} {n : Nat} (hz : n ≤ sizeLine) (Pv : Nat → List SV → ME → Prop) (h0 : Pv 0 [] ms) (hs : ∀ (i : Nat) acc ms', i < n → Pv i acc ms' → Ga (.d (.int (i : Int))) (wipeA dl vs) ms' (kTurn C E W (Pv (i + 1)) acc)) (hd : ∀ acc ms', Pv n acc ms' → fin acc ms' P) : kLc fin Ga C E vs W dl P ⟨n, fun i => some (.d (.int (i : Int))), fun _ => True⟩ ms :=
  z_kLc hz Pv h0 (fun _ _ _ _ _ => trivial) (fun i x dl' ms' h1 h2 p => by cases h2; exact hs i dl' ms' h1 p) hd
theorem z_lcS {fin Ga C E vs} {z : Str} (hz : z.length ≤ sizeLine) (Pv : Nat → List SV → ME → Prop) (h0 : Pv 0 [] ms) (hs : ∀ (i : Nat) c acc ms', z.cps.toList[i]? = some c → Pv i acc ms' → Ga (.d (.str ⟨#[c]⟩)) (wipeA dl vs) ms' (kTurn C E W (Pv (i + 1)) acc)) (hd : ∀ acc ms', Pv z.cps.toList.length acc ms' → fin acc ms' P) : kLc fin Ga C E vs W dl P ⟨z.cps.size, fun i => (z.cps[i]?).map fun c => .d (.str ⟨#[c]⟩), fun _ => True⟩ ms :=
  z_kLc hz Pv h0 (fun _ _ _ _ _ => trivial) (fun i x dl' ms' h1 h2 p => by
    have h2' : (z.cps[i]?).map (fun c => SV.d (.str ⟨#[c]⟩)) = some x := h2
    cases e : z.cps[i]? with
    | none => rw [e] at h2'; cases h2'
    | some c =>
      rw [e] at h2'
      cases h2'
      exact hs i c dl' ms' (by rw [Array.getElem?_toList]; exact e) p) fun dl' ms' p => hd dl' ms' (by rw [Array.length_toList]; exact p)
theorem z_finD {acc : List SV} {ds : List D} (e : allD acc = some ds) (h : P (.d (.list ds)) ms) : finD acc ms P := ⟨ds, e, h⟩
theorem z_finO {acc : List SV} (h : P (.o ms.length) (ms ++ [.lst acc])) : finO acc ms P := h
end
end Z

namespace Lw
open PySem PySem.Spec PyProof.Rows L2 Z
/-- one step -/
local macro_rules | `(tactic| walk_at "z") => `(tactic| first
  | ((with_reducible apply z_aVar); exact rfl)
  | with_reducible refine z_nx ?_
  | with_reducible refine z_kSeq ?_
  | with_reducible refine z_aSeq ?_
  | with_reducible refine z_aC ?_
  | with_reducible refine z_kOp2 ?_
  | with_reducible refine z_kOp1 ?_
  | with_reducible refine z_aOp ?_
  | with_reducible refine z_aB ?_
  | with_reducible refine z_kNot ?_
  | with_reducible refine z_aAnd ?_
  | with_reducible refine z_aOr ?_
  | with_reducible refine z_aNot ?_
  | with_reducible refine z_aAndV ?_
  | with_reducible refine z_aOrV ?_
  | with_reducible refine z_aNotV ?_
  | with_reducible refine z_aIf ?_
  | with_reducible refine z_aNil ?_
  | with_reducible refine z_kCons2 ?_
  | with_reducible refine z_kCons1 ?_
  | with_reducible refine z_aCons ?_
  | with_reducible refine z_kCB ?_
  | with_reducible refine z_aCB ?_
  | with_reducible refine z_aCall ?_
  | with_reducible refine z_aCallX ?_
  | with_reducible refine z_aBM0 ?_
  | with_reducible refine z_kBM2 ?_
  | with_reducible refine z_aBM ?_
  | with_reducible refine z_aName ?_
  | with_reducible refine z_kG ?_
  | with_reducible refine z_aNext ?_
  | with_reducible refine z_kDrop ?_
  | with_reducible refine z_aDrop ?_
  | with_reducible refine z_aRet ?_
  | with_reducible refine z_aRetN ?_
  | with_reducible refine z_aIfS ?_
  | with_reducible refine z_kAsg ?_
  | with_reducible refine z_aAsg ?_
  | with_reducible refine z_aBrk ?_
  | with_reducible refine z_aCont ?_
  | with_reducible refine z_aNever ?_
  | with_reducible refine z_aPar ?_
  | with_reducible refine z_kAug2 ?_
  | with_reducible refine z_kAug ?_
  | with_reducible refine z_aIL ?_
  | with_reducible refine z_aIT ?_
  | with_reducible refine z_aIR1 ?_
  | with_reducible refine z_aIR2 ?_
  | with_reducible refine z_aIS ?_
  | with_reducible refine z_aYes ?_
  | with_reducible refine z_aNoPart ?_
  | with_reducible refine z_aPart ?_
  | with_reducible refine z_kSl3 ?_
  | with_reducible refine z_kSl2 ?_
  | with_reducible refine z_kSl1 ?_
  | with_reducible refine z_aSl ?_
  | with_reducible refine z_aIsi ?_
  | with_reducible refine z_kSet2 ?_
  | with_reducible refine z_kSet1 ?_
  | with_reducible refine z_aSetL ?_
  | with_reducible refine z_aXT ?_
  | with_reducible refine z_aFrz ?_
  | with_reducible refine z_aUn ?_
  | with_reducible refine z_aTru ?_
  | with_reducible refine z_rt ?_
  | with_reducible refine z_bk ?_
  | with_reducible refine z_ct ?_
  | with_reducible refine z_kB ?_
  | with_reducible refine z_kNotV ?_
  | with_reducible refine z_ifT ?_
  | with_reducible refine z_ifF ?_
  | with_reducible refine z_ifeT ?_
  | with_reducible refine z_ifeF ?_
  | with_reducible refine z_andT ?_
  | with_reducible refine z_andF ?_
  | with_reducible refine z_orT ?_
  | with_reducible refine z_orF ?_
  | with_reducible refine z_raI0 ?_
  | with_reducible refine z_raB0 ?_
  | with_reducible refine z_raInt ?_
  | with_reducible refine z_raIntB ?_
  | with_reducible refine z_raOrd ?_
  | with_reducible refine z_raEqI ?_
  | with_reducible refine z_raNeI ?_
  | with_reducible refine z_raEqS ?_
  | with_reducible refine z_raNeS ?_
  | with_reducible refine z_raIsN ?_
  | with_reducible refine z_raNotN ?_
  | with_reducible refine z_kPart ?_
  | with_reducible refine z_kUn ?_
  | with_reducible refine z_kPar ?_
  | with_reducible refine z_ipAdd ?_
  | with_reducible refine z_ipSub ?_
  | with_reducible refine z_kCall ?_
  | with_reducible refine z_kCallX ?_
  | with_reducible refine z_aFor ?_
  | with_reducible refine z_kBody ?_
  | with_reducible refine z_aLc ?_
  | with_reducible refine z_kTurn ?_
  | with_reducible refine z_testT ?_
  | with_reducible refine z_kElt ?_
  | with_reducible refine z_kIS ?_
  | with_reducible refine z_finO ?_
  | with_reducible refine z_aGCons ?_
  | with_reducible refine z_aGNil ?_
  | ((with_reducible apply z_rTup); exact rfl; exact Evl.sz_of (by simp only [List.length_cons, List.length_nil]; omega))
  | ((with_reducible apply z_rLst); exact rfl; exact Evl.sz_of (by simp only [List.length_cons, List.length_nil]; omega))
  | ((with_reducible apply z_aAug); exact rfl)
  | ((with_reducible apply z_kIsi); exact rfl)
  | ((with_reducible apply z_aGTup); exact rfl; exact rfl)
  | ((with_reducible apply z_raIxLo); assumption; exact rfl)
  | ((with_reducible apply z_raIxL); exact rfl; exact rfl)
  | ((with_reducible apply z_raIxT); exact rfl; exact rfl)
  | with_reducible refine z_raLen lenA_l ?_
  | with_reducible refine z_raLen lenA_t ?_
  | ((with_reducible apply z_raLenO); assumption))
local macro_rules | `(tactic| walk_at "zr") => `(tactic| repeat (walk_at "z"))

/-! ### the maths of records -/
abbrev mk (l : List Nat) : Str := ⟨l.toArray⟩
def sumS (t c : Nat) : Nat := (31 * t + c) % 9973
def sumF (t : Nat) (l : List Nat) : Nat := l.foldl sumS t
def sumL (l : List Nat) : Nat := sumF 7 l
theorem sumF_lt {t : Nat} (h : t < 9973) : ∀ l : List Nat, sumF t l < 9973
  | [] => h
  | c :: r => sumF_lt (t := sumS t c) (Nat.mod_lt _ (by decide)) r
theorem sumL_lt (l : List Nat) : sumL l < 9973 := sumF_lt (by decide) l
theorem sumF_app (t : Nat) (l m : List Nat) : sumF t (l ++ m) = sumF (sumF t l) m := List.foldl_append
theorem sumS_inj {t u c : Nat} (ht : t < 9973) (hu : u < 9973) (h : sumS t c = sumS u c) : t = u := by
  unfold sumS at h
  omega
theorem sumF_inj : ∀ {l : List Nat} {t u : Nat}, t < 9973 → u < 9973 → sumF t l = sumF u l → t = u
  | [], _, _, _, _, h => h
  | c :: r, t, u, ht, hu, h => sumS_inj ht hu (sumF_inj (l := r) (Nat.mod_lt _ (by decide)) (Nat.mod_lt _ (by decide)) h)
theorem sumS_ne {t c d : Nat} (hc : c < 200) (hd : d < 200) (h : sumS t c = sumS t d) : c = d := by
  unfold sumS at h
  omega
theorem sum_one {a b : List Nat} {c d : Nat} (hc : c < 200) (hd : d < 200) (h : sumL (a ++ c :: b) = sumL (a ++ d :: b)) : c = d := by
  unfold sumL at h
  rw [sumF_app, sumF_app] at h
  exact sumS_ne hc hd (sumF_inj (Nat.mod_lt _ (by decide)) (Nat.mod_lt _ (by decide)) h)
structure Ent where
  kind : List Nat
  other : List Nat
  label : List Nat
  num : Nat
def kinds : List (List Nat) := [[112], [107], [103], [116], [114], [97], [110], [121], [120], [119], [122]]
def isNumL (d : List Nat) : Bool := !(d == []) && (decide (d.length ≤ 9) && (!(d.head? == some 48) && d.all fun c => decide (48 ≤ c) && decide (c ≤ 57)))
open TL in
def parseL (l : List Nat) : Option Ent := match spl [32] 0 [] l with
  | [a, b, c, d, s] => if kinds.contains a && (!(b == []) && (!(c == []) && (isNumL d && (numL (sumL (l.take (l.length - s.length))) == s)))) then some ⟨a, b, c, NumText.digitsVal d⟩ else none
  | _ => none
def readLs : List (List Nat) → List Ent
  | [] => []
  | l :: r => match parseL l with
    | none => []
    | some e => e :: readLs r
def readL (t : List Nat) : List Ent := readLs (TL.spl [10] 0 [] t).dropLast
open TL
theorem spl_ne (S : List Nat) : ∀ (l : List Nat) (k : Nat) (acc : List Nat), spl S k acc l ≠ []
  | [], k, acc => by rw [spl_nil]; exact List.cons_ne_nil _ _
  | c :: r, 0, acc => by
    cases h : pre S (c :: r) with
    | true => rw [spl_hit h]; exact List.cons_ne_nil _ _
    | false => rw [spl_miss h]; exact spl_ne S r 0 _
  | c :: r, k + 1, acc => by rw [spl_pass]; rw [show (c :: r).drop (k + 1) = r.drop k from rfl, ← spl_pass]; exact spl_ne S r k acc
theorem read_line {l rest : List Nat} (h : 10 ∉ l) : readL (l ++ 10 :: rest) = match parseL l with
    | none => []
    | some e => e :: readL rest := by
  unfold readL
  have e : spl [10] 0 [] (l ++ 10 :: rest) = l :: spl [10] 0 [] rest := spl_part1 (S := []) h
  rw [e, List.dropLast_cons_of_ne_nil (spl_ne _ _ _ _)]
  rfl
theorem read_last {l : List Nat} (h : 10 ∉ l) : readL l = [] := by
  unfold readL
  have e : spl [10] 0 [] l = [l] := spl_last1 h
  rw [e]
  rfl
/-! parts by spaces -/
theorem spl_back (s : Nat) : ∀ (l acc : List Nat), s ∉ acc → joinL [s] (spl [s] 0 acc l) = acc ++ l ∧ (∀ p ∈ spl [s] 0 acc l, s ∉ p) ∧ (spl [s] 0 acc l).length = l.count s + 1
  | [], acc, h => by
    rw [spl_nil]
    exact ⟨(List.append_nil _).symm ▸ rfl, fun p hp => by rw [List.mem_singleton.mp hp]; exact h, by simp⟩
  | c :: r, acc, h => by
    by_cases hc : c = s
    · subst hc
      have e := spl_hit (S := [c]) (acc := acc) (r := r) (c := c) (by simp [pre])
      obtain ⟨h1, h2, h3⟩ := spl_back c r [] List.not_mem_nil
      rw [e]
      refine ⟨?_, ?_, ?_⟩
      · show joinL [c] (acc :: spl [c] 0 [] r) = _
        cases q : spl [c] 0 [] r with
        | nil => exact absurd q (spl_ne _ _ _ _)
        | cons a t =>
          rw [q] at h1
          show acc ++ ([c] ++ joinL [c] (a :: t)) = _
          rw [h1]
          rfl
      · intro p hp
        rcases List.mem_cons.mp hp with g | g
        · rw [g]; exact h
        · exact h2 p g
      · show (spl [c] 0 [] r).length + 1 = _
        rw [h3, List.count_cons_self]
    · have e := spl_miss (S := [s]) (acc := acc) (r := r) (c := c) (pre_of_head [] r hc)
      obtain ⟨h1, h2, h3⟩ := spl_back s r (acc ++ [c]) (by simp only [List.mem_append, List.mem_singleton]; intro g; rcases g with g | g; exact h g; exact hc g.symm)
      rw [e]
      refine ⟨by rw [h1]; simp, h2, by rw [h3, List.count_cons_of_ne hc]⟩
/-- a line that is read: its parts and its sum -/
theorem parse_some {l : List Nat} {e : Ent} (h : parseL l = some e) : l.count 32 = 4 ∧ ∃ P s, l = P ++ 32 :: s ∧ 32 ∉ s ∧ numL (sumL (P ++ [32])) = s := by
  unfold parseL at h
  obtain ⟨h1, h2, h3⟩ := spl_back 32 l [] List.not_mem_nil
  split at h
  · rename_i a b c d s q
    rw [q] at h1 h2 h3
    refine ⟨by simp at h3; omega, a ++ [32] ++ b ++ [32] ++ c ++ [32] ++ d, s, ?_, h2 s (by simp), ?_⟩
    · rw [List.nil_append] at h1
      rw [← h1]
      simp [joinL]
    · split at h
      · rename_i g
        simp only [Bool.and_eq_true, beq_iff_eq] at g
        have g5 := g.2.2.2.2
        rw [← g5]
        congr 2
        have : l = (a ++ [32] ++ b ++ [32] ++ c ++ [32] ++ d ++ [32]) ++ s := by
          rw [List.nil_append] at h1
          rw [← h1]
          simp [joinL]
        rw [this, List.length_append, Nat.add_sub_cancel, List.take_left]
      · cases h
  · cases h
theorem parse_count {l : List Nat} (h : l.count 32 ≠ 4) : parseL l = none := by
  cases e : parseL l with
  | none => rfl
  | some x => exact absurd (parse_some e).1 h
def preL (e : Ent) : List Nat := e.kind ++ 32 :: (e.other ++ 32 :: (e.label ++ 32 :: numL e.num))
def lineL (e : Ent) : List Nat := preL e ++ 32 :: numL (sumL (preL e ++ [32]))
def textL (e : Ent) : List Nat := lineL e ++ [10]
/-- signs of names and labels -/
def sg (c : Nat) : Bool := (decide (48 ≤ c) && decide (c ≤ 57)) || ((decide (97 ≤ c) && decide (c ≤ 122)) || c == 46)
structure EntOk (e : Ent) : Prop where
  kind : e.kind ∈ kinds
  o0 : e.other ≠ []
  o1 : ∀ c ∈ e.other, sg c = true
  o2 : e.other.length ≤ 13
  l0 : e.label ≠ []
  l1 : ∀ c ∈ e.label, sg c = true
  l2 : e.label.length ≤ 27
  n0 : 1 ≤ e.num
  n1 : e.num ≤ 999999999
theorem sg_ne {l : List Nat} (h : ∀ c ∈ l, sg c = true) (s : Nat) (hs : sg s = false) : s ∉ l := fun m => by rw [h s m] at hs; cases hs
theorem kind_sg : ∀ k ∈ kinds, k ≠ [] ∧ ∀ c ∈ k, sg c = true := by decide
theorem kind_len : ∀ k ∈ kinds, k.length = 1 := by decide
theorem num_sg (n : Nat) : ∀ c ∈ numL n, sg c = true := fun c hc => by
  have := numL_digits n c hc
  simp only [sg, Bool.or_eq_true, Bool.and_eq_true, decide_eq_true_eq]
  left
  exact this
theorem count0 {l : List Nat} {s : Nat} (h : s ∉ l) : l.count s = 0 := List.count_eq_zero.mpr h
theorem cons_app (c : Nat) (l : List Nat) : c :: l = [c] ++ l := rfl
theorem kind_no {e : Ent} (h : EntOk e) (s : Nat) (hs : sg s = false) : s ∉ e.kind ∧ s ∉ e.other ∧ s ∉ e.label ∧ s ∉ numL e.num :=
  ⟨sg_ne (kind_sg _ h.kind).2 s hs, sg_ne h.o1 s hs, sg_ne h.l1 s hs, sg_ne (num_sg _) s hs⟩
theorem spl_pre {e : Ent} (h : EntOk e) {s : List Nat} (hs : 32 ∉ s) : spl [32] 0 [] (preL e ++ 32 :: s) = [e.kind, e.other, e.label, numL e.num, s] := by
  obtain ⟨k1, k2, k3, k4⟩ := kind_no h 32 rfl
  unfold preL
  rw [List.append_assoc, List.cons_append, List.append_assoc, List.cons_append, List.append_assoc, List.cons_append]
  have a1 := fun rest => spl_part1 (S := []) (rest := rest) (acc := []) k1
  have a2 := fun rest => spl_part1 (S := []) (rest := rest) (acc := []) k2
  have a3 := fun rest => spl_part1 (S := []) (rest := rest) (acc := []) k3
  have a4 := fun rest => spl_part1 (S := []) (rest := rest) (acc := []) k4
  have a5 := spl_last1 (S := []) (acc := []) hs
  simp only [List.nil_append, List.cons_append] at a1 a2 a3 a4 a5
  rw [a1, a2, a3, a4, a5]
theorem num_is {n : Nat} (h0 : 1 ≤ n) (h1 : n ≤ 999999999) : isNumL (numL n) = true := by
  have d := numL_digits n
  have l := numL_len (n := n) (k := 9) (by decide) (by omega)
  unfold isNumL
  simp only [Bool.and_eq_true, decide_eq_true_eq]
  refine ⟨?_, l, ?_, ?_⟩
  · have := numL_ne n
    simpa using this
  · have z : ∀ m : Nat, 1 ≤ m → (numL m).head? ≠ some 48 := by
      intro m
      induction m using Nat.strongRecOn with
      | _ m ih =>
        intro hm
        by_cases hb : m < 10
        · rw [numL_lt hb]; simp; omega
        · rw [numL_step (by omega)]
          have := ih (m / 10) (by omega) (by omega)
          have ne := numL_ne (m / 10)
          cases q : numL (m / 10) with
          | nil => exact absurd q ne
          | cons a t => rw [q] at this; exact this
    have := z n h0
    simpa using this
  · rw [List.all_eq_true]
    intro c hc
    have := d c hc
    simp only [Bool.and_eq_true, decide_eq_true_eq]
    exact this
theorem parse_ok {e : Ent} (h : EntOk e) : parseL (lineL e) = some e := by
  unfold parseL lineL
  rw [spl_pre h (numL_free (by decide))]
  have t : (preL e ++ 32 :: numL (sumL (preL e ++ [32]))).take ((preL e ++ 32 :: numL (sumL (preL e ++ [32]))).length - (numL (sumL (preL e ++ [32]))).length) = preL e ++ [32] := by
    rw [cons_app, ← List.append_assoc, List.length_append, Nat.add_sub_cancel, List.take_left]
  simp only [t]
  rw [if_pos, numL_val]
  simp only [Bool.and_eq_true, beq_self_eq_true, and_true]
  refine ⟨?_, ?_, ?_, num_is h.n0 h.n1⟩
  · simpa using h.kind
  · have := h.o0; simpa using this
  · have := h.l0; simpa using this
theorem line_free {e : Ent} (h : EntOk e) : 10 ∉ lineL e := by
  obtain ⟨k1, k2, k3, k4⟩ := kind_no h 10 rfl
  have k5 : 10 ∉ numL (sumL (preL e ++ [32])) := numL_free (by decide)
  unfold lineL
  generalize numL (sumL (preL e ++ [32])) = z at k5
  unfold preL
  simp [k1, k2, k3, k4, k5]
theorem pre_count {e : Ent} (h : EntOk e) : (preL e).count 32 = 3 := by
  obtain ⟨k1, k2, k3, k4⟩ := kind_no h 32 rfl
  unfold preL
  simp [count0 k1, count0 k2, count0 k3, count0 k4]
theorem line_count {e : Ent} (h : EntOk e) : (lineL e).count 32 = 4 := by
  have k5 : 32 ∉ numL (sumL (preL e ++ [32])) := numL_free (by decide)
  unfold lineL
  simp [pre_count h, count0 k5]
theorem line_lt {e : Ent} (h : EntOk e) : ∀ c ∈ lineL e, c < 200 := by
  have s : ∀ l : List Nat, (∀ c ∈ l, sg c = true) → ∀ c ∈ l, c < 200 := by
    intro l hl c hc
    have := hl c hc
    simp only [sg, Bool.or_eq_true, Bool.and_eq_true, decide_eq_true_eq, beq_iff_eq] at this
    omega
  intro c hc
  unfold lineL preL at hc
  simp only [List.mem_append, List.mem_cons] at hc
  rcases hc with (g | g | g | g | g | g | g) | g | g
  · exact s _ (kind_sg _ h.kind).2 c g
  · omega
  · exact s _ h.o1 c g
  · omega
  · exact s _ h.l1 c g
  · omega
  · exact s _ (num_sg _) c g
  · omega
  · exact s _ (num_sg _) c g
theorem read_text {e : Ent} (h : EntOk e) (rest : List Nat) : readL (textL e ++ rest) = e :: readL rest := by
  unfold textL
  rw [List.append_assoc, List.singleton_append, read_line (line_free h), parse_ok h]
def textsL (es : List Ent) : List Nat := (es.map textL).flatten
theorem texts_cons (e : Ent) (r : List Ent) : textsL (e :: r) = textL e ++ textsL r := rfl
theorem read_texts : ∀ {es : List Ent}, (∀ e ∈ es, EntOk e) → ∀ rest, readL (textsL es ++ rest) = es ++ readL rest
  | [], _, rest => rfl
  | e :: r, h, rest => by
    rw [texts_cons, List.append_assoc, read_text (h e (List.mem_cons_self ..)), read_texts (fun x hx => h x (List.mem_cons_of_mem _ hx)) rest]
    rfl
theorem read_nil : readL [] = [] := read_last List.not_mem_nil
/-- how many texts end at or ahead of a place -/
def wholeL : List Ent → Nat → Nat
  | [], _ => 0
  | e :: r, p => if (textL e).length ≤ p then wholeL r (p - (textL e).length) + 1 else 0
theorem whole_le : ∀ (es : List Ent) (p : Nat), wholeL es p ≤ es.length
  | [], _ => Nat.le_refl _
  | e :: r, p => by
    unfold wholeL
    split
    · exact Nat.succ_le_succ (whole_le r _)
    · exact Nat.zero_le _
theorem textL_len (e : Ent) : (textL e).length = (lineL e).length + 1 := by simp [textL]
theorem read_cut : ∀ {es : List Ent}, (∀ e ∈ es, EntOk e) → ∀ p, readL ((textsL es).take p) = es.take (wholeL es p)
  | [], _, p => by rw [show textsL [] = [] from rfl, List.take_nil]; exact read_nil
  | e :: r, h, p => by
    have he := h e (List.mem_cons_self ..)
    have hr : ∀ x ∈ r, EntOk x := fun x hx => h x (List.mem_cons_of_mem _ hx)
    rw [texts_cons, List.take_append]
    unfold wholeL
    by_cases hp : (textL e).length ≤ p
    · rw [if_pos hp, List.take_of_length_le hp, read_text he, read_cut hr]
      rfl
    · rw [if_neg hp, show p - (textL e).length = 0 by omega, List.take_zero, List.append_nil, List.take_zero]
      refine read_last fun hm => ?_
      unfold textL at hm
      rw [List.take_append_of_le_length (by rw [textL_len] at hp; omega)] at hm
      exact line_free he (List.mem_of_mem_take hm)
/-- one sign changed -/
def spoil (l : List Nat) (p s : Nat) : List Nat := l.take p ++ s :: l.drop (p + 1)
theorem spoil_app {l m : List Nat} {p s : Nat} (h : p < l.length) : spoil (l ++ m) p s = spoil l p s ++ m := by
  unfold spoil
  rw [List.take_append_of_le_length (by omega), List.drop_append_of_le_length (by omega)]
  simp
theorem spoil_skip {l m : List Nat} {p s : Nat} (h : l.length ≤ p) : spoil (l ++ m) p s = l ++ spoil m (p - l.length) s := by
  unfold spoil
  rw [List.take_append, List.take_of_length_le h, List.drop_append, List.drop_eq_nil_of_le (by omega), show p + 1 - l.length = p - l.length + 1 by omega]
  simp
theorem spoil_len {l : List Nat} {p s : Nat} (h : p < l.length) : (spoil l p s).length = l.length := by
  unfold spoil
  simp
  omega
theorem cut_at {l : List Nat} {p : Nat} (h : p < l.length) : l = l.take p ++ l[p] :: l.drop (p + 1) := by
  rw [← List.drop_eq_getElem_cons h, List.take_append_drop]
theorem get_mid {a b l : List Nat} {c : Nat} (e : l = a ++ c :: b) (h : a.length < l.length) : l[a.length] = c := by
  subst e
  rw [List.getElem_append_right (Nat.le_refl _)]
  simp
theorem spoil_at {l : List Nat} {p s : Nat} (h : p < l.length) : (spoil l p s)[p]'(by rw [spoil_len h]; exact h) = s := by
  have e : (l.take p).length = p := by rw [List.length_take]; omega
  have := get_mid (l := spoil l p s) (a := l.take p) (b := l.drop (p + 1)) (c := s) rfl (by rw [e, spoil_len h]; exact h)
  simp only [e] at this
  exact this
theorem last_part {P Q s t : List Nat} (hs : 32 ∉ s) (ht : 32 ∉ t) (h : P ++ 32 :: s = Q ++ 32 :: t) : P = Q ∧ s = t := by
  rcases List.append_eq_append_iff.mp h with ⟨a, e1, e2⟩ | ⟨a, e1, e2⟩
  · cases a with
    | nil => simp at e2; exact ⟨by rw [e1]; simp, e2⟩
    | cons x r =>
      injection e2 with _ e3
      exact absurd (by rw [e3]; simp) hs
  · cases a with
    | nil => simp at e2; exact ⟨by rw [e1]; simp, e2.symm⟩
    | cons x r =>
      injection e2 with _ e3
      exact absurd (by rw [e3]; simp) ht
theorem spoil_count {l : List Nat} {p s : Nat} (h : p < l.length) : (spoil l p s).count 32 + (if l[p] = 32 then 1 else 0) = l.count 32 + (if s = 32 then 1 else 0) := by
  conv => rhs; rw [cut_at h]
  unfold spoil
  simp only [List.count_append, List.count_cons, beq_iff_eq]
  omega
theorem spoil_line {e : Ent} (h : EntOk e) {p s : Nat} (hp : p < (lineL e).length) (hs : s < 200) (hs1 : s ≠ 10) (hne : (lineL e)[p] ≠ s) : parseL (spoil (lineL e) p s) = none := by
  cases q : parseL (spoil (lineL e) p s) with
  | none => rfl
  | some x =>
    exfalso
    obtain ⟨c4, P, z, ez, hz, en⟩ := parse_some q
    have cc := spoil_count (s := s) hp
    rw [c4, line_count h] at cc
    have n1 : (lineL e)[p] ≠ 32 := fun g => by
      rw [if_pos g] at cc
      by_cases hh : s = 32
      · exact hne (g.trans hh.symm)
      · rw [if_neg hh] at cc; omega
    have n2 : s ≠ 32 := fun g => by
      rw [if_pos g, if_neg n1] at cc
      omega
    have k5 : 32 ∉ numL (sumL (preL e ++ [32])) := numL_free (by decide)
    have ol := line_lt h _ (List.getElem_mem hp)
    by_cases hb : p < (preL e).length
    · have e1 : spoil (lineL e) p s = spoil (preL e) p s ++ 32 :: numL (sumL (preL e ++ [32])) := spoil_app hb
      rw [e1] at ez
      obtain ⟨g1, g2⟩ := last_part k5 hz ez
      rw [← g1, ← g2] at en
      have en := numL_inj en
      have u1 : spoil (preL e) p s ++ [32] = (preL e).take p ++ s :: ((preL e).drop (p + 1) ++ [32]) := by simp [spoil]
      have u2 : preL e ++ [32] = (preL e).take p ++ (preL e)[p] :: ((preL e).drop (p + 1) ++ [32]) := by
        have := congrArg (fun z => z ++ [32]) (cut_at hb)
        refine Eq.trans this ?_
        show List.take p (preL e) ++ (preL e)[p] :: List.drop (p + 1) (preL e) ++ [32] = _
        rw [List.append_assoc, List.cons_append]
      have ep : (lineL e)[p] = (preL e)[p] := List.getElem_append_left hb
      rw [u1, u2] at en
      rw [ep] at ol hne
      exact hne (sum_one hs ol en).symm
    · by_cases hb2 : p = (preL e).length
      · subst hb2
        exact n1 (get_mid rfl hp)
      · have e0 : lineL e = (preL e ++ [32]) ++ numL (sumL (preL e ++ [32])) := by simp [lineL]
        have hp2 : p - (preL e ++ [32]).length < (numL (sumL (preL e ++ [32]))).length := by
          rw [e0, List.length_append] at hp
          have : (preL e ++ [32]).length = (preL e).length + 1 := by simp
          omega
        have e1 : spoil (lineL e) p s = (preL e ++ [32]) ++ spoil (numL (sumL (preL e ++ [32]))) (p - (preL e ++ [32]).length) s := by
          rw [e0]; exact spoil_skip (by simp; omega)
        have k6 : 32 ∉ spoil (numL (sumL (preL e ++ [32]))) (p - (preL e ++ [32]).length) s := fun hm => by
          unfold spoil at hm
          rcases List.mem_append.mp hm with g | g
          · exact k5 (List.mem_of_mem_take g)
          · rcases List.mem_cons.mp g with g | g
            · exact n2 g.symm
            · exact k5 (List.mem_of_mem_drop g)
        rw [e1, List.append_assoc, List.singleton_append] at ez
        obtain ⟨g1, g2⟩ := last_part k6 hz ez
        rw [← g1, ← g2] at en
        have ep : (lineL e)[p] = (numL (sumL (preL e ++ [32])))[p - (preL e ++ [32]).length] := by
          simp only [e0]
          exact List.getElem_append_right (by simp; omega)
        rw [ep] at hne
        apply hne
        have : (numL (sumL (preL e ++ [32])))[p - (preL e ++ [32]).length] = (spoil (numL (sumL (preL e ++ [32]))) (p - (preL e ++ [32]).length) s)[p - (preL e ++ [32]).length]'(by rw [spoil_len hp2]; exact hp2) := by
          simp only [← en]
        rw [this]
        exact spoil_at hp2
theorem prefix_line {e : Ent} (h : EntOk e) {p : Nat} (hp : p < (lineL e).length) : parseL ((lineL e).take p) = none := by
  by_cases hb : p ≤ (preL e).length
  · refine parse_count ?_
    unfold lineL
    rw [List.take_append_of_le_length hb]
    have := List.Sublist.count_le 32 (List.take_sublist p (preL e))
    rw [pre_count h] at this
    omega
  · cases q : parseL ((lineL e).take p) with
    | none => rfl
    | some x =>
      exfalso
      obtain ⟨c4, P, z, ez, hz, en⟩ := parse_some q
      have e0 : lineL e = (preL e ++ [32]) ++ numL (sumL (preL e ++ [32])) := by simp [lineL]
      have k5 : 32 ∉ numL (sumL (preL e ++ [32])) := numL_free (by decide)
      have hl : (preL e ++ [32]).length = (preL e).length + 1 := by simp
      rw [e0, List.take_append, List.take_of_length_le (by omega), List.append_assoc, List.singleton_append] at ez
      obtain ⟨g1, g2⟩ := last_part (fun m => k5 (List.mem_of_mem_take m)) hz ez
      rw [← g1, ← g2] at en
      have := congrArg List.length en
      rw [List.length_take] at this
      rw [e0, List.length_append] at hp
      omega
theorem read_spoil : ∀ {es : List Ent}, (∀ e ∈ es, EntOk e) → ∀ {p s : Nat} (hp : p < (textsL es).length), s < 200 → (textsL es)[p] ≠ s → readL (spoil (textsL es) p s) = es.take (wholeL es p)
  | [], _, p, s, hp, _, _ => absurd hp (Nat.not_lt_zero _)
  | e :: r, h, p, s, hp, hs, hne => by
    have he := h e (List.mem_cons_self ..)
    have hr : ∀ x ∈ r, EntOk x := fun x hx => h x (List.mem_cons_of_mem _ hx)
    simp only [texts_cons] at hp hne ⊢
    unfold wholeL
    by_cases hb : (textL e).length ≤ p
    · rw [if_pos hb, spoil_skip hb, read_text he]
      rw [List.length_append] at hp
      rw [List.getElem_append_right hb] at hne
      rw [read_spoil hr (by omega) hs hne]
      rfl
    · rw [if_neg hb, List.take_zero]
      have hlt : p < (textL e).length := by omega
      rw [spoil_app hlt]
      rw [List.getElem_append_left hlt] at hne
      have tl' := textL_len e
      by_cases hq : p = (lineL e).length
      · subst hq
        have e1 : spoil (textL e) (lineL e).length s = lineL e ++ [s] := by
          unfold spoil textL
          rw [List.take_left' rfl, List.drop_eq_nil_of_le (by simp)]
        have hs1 : s ≠ 10 := fun g => hne (by
          rw [g]
          exact get_mid rfl hlt)
        rw [e1]
        have f1 : 10 ∉ lineL e ++ [s] := by
          simp only [List.mem_append, List.mem_singleton]
          intro g
          rcases g with g | g
          · exact line_free he g
          · exact hs1 g.symm
        cases r with
        | nil => rw [show textsL [] = [] from rfl, List.append_nil]; exact read_last f1
        | cons e2 r2 =>
          have he2 := hr e2 (List.mem_cons_self ..)
          rw [texts_cons, show (lineL e ++ [s]) ++ (textL e2 ++ textsL r2) = ((lineL e ++ [s]) ++ lineL e2) ++ 10 :: textsL r2 by simp [textL]]
          rw [read_line (fun g => by rcases List.mem_append.mp g with g | g; exact f1 g; exact line_free he2 g), parse_count]
          rw [List.count_append, List.count_append, line_count he, line_count he2]
          omega
      · have hlt2 : p < (lineL e).length := by omega
        have e1 : spoil (textL e) p s = spoil (lineL e) p s ++ [10] := by
          unfold textL
          exact spoil_app hlt2
        have e2 : (textL e)[p] = (lineL e)[p] := List.getElem_append_left hlt2
        rw [e2] at hne
        by_cases hs1 : s = 10
        · subst hs1
          have : spoil (textL e) p 10 ++ textsL r = (lineL e).take p ++ 10 :: ((lineL e).drop (p + 1) ++ [10] ++ textsL r) := by
            rw [e1]; simp [spoil]
          rw [this, read_line (fun g => line_free he (List.mem_of_mem_take g)), prefix_line he hlt2]
        · rw [e1, List.append_assoc, List.singleton_append, read_line, spoil_line he hlt2 hs hs1 hne]
          intro hm
          unfold spoil at hm
          rcases List.mem_append.mp hm with g | g
          · exact line_free he (List.mem_of_mem_take g)
          · rcases List.mem_cons.mp g with g | g
            · exact hs1 g.symm
            · exact line_free he (List.mem_of_mem_drop g)
/-- lines that are wrong, closed by a newline -/
theorem read_wrong {l rest : List Nat} (h : 10 ∉ l) (g : parseL l = none) : readL (l ++ 10 :: rest) = [] := by
  rw [read_line h, g]
/-! ### the generator's state -/
def stMO (cells : List Int) (pos cell left : Int) (big : Bool) : MO := .lst [.d (.list (cells.map PyData.int)), .d (.int pos), .d (.int cell), .d (.int left), .d (.bool big), .d (.int 500)]
def IsSt (mo : MO) : Prop := ∃ cells pos cell left big, mo = stMO cells pos cell left big ∧ 0 ≤ pos ∧ 0 ≤ cell ∧ 0 ≤ left ∧ cells.length ≤ 1000
def StAt (k : Nat) (ms : ME) : Prop := ∃ mo, ms[k]? = some mo ∧ IsSt mo
def StL (k : Nat) (ms ms' : ME) : Prop := ∃ mo', IsSt mo' ∧ ms' = ms.set k mo'
theorem StL.at {k : Nat} {ms ms' : ME} (h : StL k ms ms') (a : StAt k ms) : StAt k ms' := by
  obtain ⟨mo, e, _⟩ := a
  obtain ⟨mo', i, rfl⟩ := h
  exact ⟨mo', List.getElem?_set_self (List.getElem?_eq_some_iff.mp e).1, i⟩
theorem StL.refl {k : Nat} {ms : ME} (a : StAt k ms) : StL k ms ms := by
  obtain ⟨mo, e, i⟩ := a
  exact ⟨mo, i, (List.set_eq_of_getElem?_eq_some_aux e).symm⟩
theorem StL.trans {k : Nat} {a b c : ME} (h : StL k a b) (g : StL k b c) : StL k a c := by
  obtain ⟨m1, i1, rfl⟩ := h
  obtain ⟨m2, i2, rfl⟩ := g
  exact ⟨m2, i2, List.set_set ..⟩
theorem StL.len {k : Nat} {a b : ME} (h : StL k a b) : b.length = a.length := by
  obtain ⟨m1, i1, rfl⟩ := h
  exact List.length_set
theorem IsSt.below {mo : MO} (h : IsSt mo) (n : Nat) : mo.below n := by
  obtain ⟨cells, pos, cell, left, big, rfl, _⟩ := h
  intro x hx
  simp only [List.mem_cons, List.not_mem_nil, or_false] at hx
  rcases hx with rfl | rfl | rfl | rfl | rfl | rfl <;> trivial
theorem closed_set {n k : Nat} {ms : ME} {mo : MO} (c : Closed n ms) (h : mo.below n) : Closed n (ms.set k mo) := fun x hx => by
  rcases List.mem_or_eq_of_mem_set hx with q | q
  · exact c x q
  · rw [q]; exact h
theorem StL.closed {k : Nat} {a b : ME} (h : StL k a b) (c : Closed a.length a) : Closed b.length b := by
  have e := h.len
  obtain ⟨m1, i1, rfl⟩ := h
  rw [e]
  exact closed_set c (i1.below _)
/-- the way out of a def that draws -/
theorem StL.fin {k : Nat} {a b : ME} {Q : SV → ME → Prop} {d : D} (h : StL k a b) (c : Closed a.length a) (q : Q (.d d) b) : Fin a.length Q (.d d) b := Fin.same (Nat.le_of_eq h.len.symm) (h.closed c) trivial q
theorem fin_d {a : ME} {Q : SV → ME → Prop} {d : D} (c : Closed a.length a) (q : Q (.d d) a) : Fin a.length Q (.d d) a := Fin.same (Nat.le_refl _) c trivial q
def p__law_state : AP := fun ss ms Q _ => ∃ ns : List Int, ss = [.xl (ns.map PyData.int)] ∧ ns.length ≤ 63 ∧ ∀ mo, IsSt mo → Q (.o ms.length) (ms ++ [mo])
def p__law_draw : AP := fun ss ms Q _ => ∃ k limit, ss = [.o k, .d (.int limit)] ∧ StAt k ms ∧ 0 < limit ∧ limit ≤ 10 ^ 18 ∧ ∀ r ms', 0 ≤ r → r < limit → StL k ms ms' → Q (.d (.int r)) ms'
/-! ### promises -/
abbrev low (x : Str) : Prop := ∀ c ∈ tl x, c < 200
def entD (e : Ent) : D := .tuple [.str (mk e.kind), .str (mk e.other), .str (mk e.label), .int (e.num : Int)]
def parseD (l : List Nat) : D := match parseL l with
  | none => .none
  | some e => entD e
def p_sum_of : AP := fun ss ms Q _ => ∃ x, ss = [.d (.str x)] ∧ Q (.d (.int (sumL (tl x) : Nat))) ms
def p__law_sum : AP := p_sum_of
def p_is_number : AP := fun ss ms Q _ => ∃ x, ss = [.d (.str x)] ∧ x.length ≤ 10000 ∧ low x ∧ Q (.d (.bool (isNumL (tl x)))) ms
def p_parsed : AP := fun ss ms Q _ => ∃ x, ss = [.d (.str x)] ∧ x.length ≤ 10000 ∧ low x ∧ Q (.d (parseD (tl x))) ms
def p_read_records : AP := fun ss ms Q _ => ∃ x, ss = [.d (.str x)] ∧ x.length ≤ 10000 ∧ low x ∧ Q (.d (.list ((readL (tl x)).map entD))) ms
def p_record : AP := fun ss ms Q _ => ∃ e, ss = [.d (.str (mk e.kind)), .d (.str (mk e.other)), .d (.str (mk e.label)), .d (.int (e.num : Int))] ∧ EntOk e ∧ Q (.d (.str (mk (textL e)))) ms
def p__law_text : AP := fun ss ms Q _ => ∃ e, ss = [.d (entD e)] ∧ EntOk e ∧ Q (.d (.str (mk (textL e)))) ms
def p__law_whole : AP := fun ss ms Q _ => ∃ (es : List Ent) (p : Nat), ss = [.d (.list (es.map fun e => .str (mk (textL e)))), .d (.int (p : Int))] ∧ (∀ e ∈ es, EntOk e) ∧ es.length ≤ 100 ∧ Q (.d (.int (wholeL es p : Nat))) ms
def p__law_reads : AP := fun ss ms Q _ => ∃ (x : Str) (es : List Ent), ss = [.d (.str x), .d (.list (es.map entD))] ∧ x.length ≤ 10000 ∧ low x ∧ (∀ e ∈ es, EntOk e) ∧ readL (tl x) = es ∧ Q (.d (.bool true)) ms
def wordsL : List (List Nat) := [[112, 97, 99, 116], [101, 110, 100], [99, 104, 111, 105, 99, 101], [98, 111, 116, 104], [108, 111, 111, 112], [117, 115, 101]]
def sgN (c : Nat) : Bool := (decide (48 ≤ c) && decide (c ≤ 57)) || (decide (97 ≤ c) && decide (c ≤ 122))
structure NameL (l : List Nat) : Prop where
  len : l.length ≤ 12
  hd : ∃ c r, l = c :: r ∧ 97 ≤ c ∧ c ≤ 122
  sg : ∀ c ∈ l, sgN c = true
  nw : l ∉ wordsL
def p__law_name : AP := fun ss ms Q _ => ∃ k, ss = [.o k] ∧ StAt k ms ∧ ∀ l ms', NameL l → StL k ms ms' → Q (.d (.str (mk l))) ms'
def p__law_record : AP := fun ss ms Q _ => ∃ k, ss = [.o k] ∧ StAt k ms ∧ ∀ e ms', EntOk e → StL k ms ms' → Q (.d (entD e)) ms'
def p_law : AP := fun ss ms Q _ => ∃ ns : List Int, ss = [.xl (ns.map PyData.int)] ∧ ns.length ≤ 63 ∧ ∀ ms', Q (.d (.bool true)) ms'

def top (i : Nat) : Stmt := PySem.Challenge.pw_pactguild_k24_records_of_journals.main.body.getD i (.Pass ⟨0, 0, 0, 0⟩)
abbrev c_DIGITS : Str := "0123456789"
def c_KINDS_s : List Str := ["p", "k", "g", "t", "r", "a", "n", "y", "x", "w", "z"]
abbrev c_KINDS : List D := c_KINDS_s.map PyData.str
/-! ### _law_state(script): slots 0 script -/
abbrev s__law_state : Stmt := top 13
abbrev N__law_state : List Str := ["script"]
theorem sc__law_state : FnScope N__law_state ["script"] (defScope s__law_state) := ⟨rfl, rfl, rfl, by decide +kernel, rfl, by decide +kernel, by decide +kernel⟩
def b__law_state : AS := aRet (aCB rLstO (aCons (aCB raList (aCons (aVar 0) (aNil))) (aCons (aC (.int 0)) (aCons (aC (.int 0)) (aCons (aC (.int 0)) (aCons (aC (.bool false)) (aCons (aC (.int 500)) (aNil))))))))
abbrev lenT__law_state : Prop := ∀ ss ms Qa Ea, p__law_state ss ms Qa Ea → ss.length = 1
abbrev rdT__law_state : Prop := ∀ ss ms Qa Ea, Closed ms.length ms → p__law_state ss ms Qa Ea → b__law_state (fun _ _ _ => False) { nx := fun _ ms' => Fin ms.length Qa (.d .none) ms', rt := Fin ms.length Qa } (startA 1 ss) ms
/-! ### _law_draw(state, limit): slots 0 state, 1 limit, 2 cell, 3 digit, 4 mixed -/
abbrev s__law_draw : Stmt := top 14
abbrev N__law_draw : List Str := ["state", "limit", "cell", "digit", "mixed"]
theorem sc__law_draw : FnScope N__law_draw ["state", "limit"] (defScope s__law_draw) := ⟨rfl, rfl, rfl, by decide +kernel, rfl, by decide +kernel, by decide +kernel⟩
def b__law_draw : AS := aCut (aIfS (aB (aOp (raEq false) (aOp raIxL (aVar 0) (aC (.int 3))) (aC (.int 0)))) (aCut (aIfS (aB (aOp (raB0 fun i j => decide (j ≤ i)) (aOp raIxL (aVar 0) (aC (.int 1))) (aCB raLen (aCons (aOp raIxL (aVar 0) (aC (.int 0))) (aNil))))) (aRet (aC (.int 0))) (aNext)) (aSeq (aAsg (aOp raIxL (aOp raIxL (aVar 0) (aC (.int 0))) (aOp raIxL (aVar 0) (aC (.int 1)))) (aName 2)) (aCut (aIfS (aB (aOp (raB0 fun i j => decide (i < j)) (aVar 2) (aC (.int 0)))) (aAsg (aOp (raI0 fun i j => i - j) (aUn rNeg (aC (.int 1))) (aVar 2)) (aName 2)) (aNext)) (aSeq (aSetL (aOp (raI0 fun i j => i + j) (aOp raIxL (aVar 0) (aC (.int 1))) (aC (.int 1))) (aVar 0) (aC (.int 1))) (aSeq (aSetL (aVar 2) (aVar 0) (aC (.int 2))) (aSeq (aSetL (aOp (raB0 fun i j => decide (j ≤ i)) (aVar 2) (aOp (raI CPow fun i j => i ^ j.toNat) (aC (.int 10)) (aC (.int 18)))) (aVar 0) (aC (.int 4))) (aSeq (aSetL (aC (.int 6)) (aVar 0) (aC (.int 3))) (aIfS (aB (aOp raIxL (aVar 0) (aC (.int 4)))) (aSetL (aC (.int 60)) (aVar 0) (aC (.int 3))) (aNext))))))))) (aNext)) (aSeq (aSetL (aOp (raI0 fun i j => i - j) (aOp raIxL (aVar 0) (aC (.int 3))) (aC (.int 1))) (aVar 0) (aC (.int 3))) (aCut (aIfS (aB (aOp raIxL (aVar 0) (aC (.int 4)))) (aSeq (aAsg (aOp (raI (fun _ j => 0 < j) fun i j => i % j) (aCB raInt (aCons (aOp raIxL (aVar 0) (aC (.int 2))) (aNil))) (aVar 1)) (aName 3)) (aSeq (aSetL (aOp (raI CDivW fun i j => i / j) (aOp raIxL (aVar 0) (aC (.int 2))) (aVar 1)) (aVar 0) (aC (.int 2))) (aCut (aIfS (aB (aOp (raEq false) (aOp raIxL (aVar 0) (aC (.int 2))) (aC (.int 0)))) (aSetL (aC (.int 0)) (aVar 0) (aC (.int 3))) (aNext)) (aRet (aVar 3))))) (aNext)) (aSeq (aAsg (aOp (raI (fun _ j => 0 < j) fun i j => i % j) (aCB raInt (aCons (aOp (raI0 fun i j => i + j) (aOp (raI0 fun i j => i + j) (aOp (raI CMul fun i j => i * j) (aOp raIxL (aVar 0) (aC (.int 2))) (aC (.int 48271))) (aOp (raI CMul fun i j => i * j) (aOp raIxL (aVar 0) (aC (.int 3))) (aC (.int 69621)))) (aC (.int 7))) (aNil))) (aC (.int 2147483647))) (aName 4)) (aSeq (aAsg (aOp (raI (fun _ j => 0 < j) fun i j => i % j) (aCB raInt (aCons (aOp (raI0 fun i j => i + j) (aOp (raI0 fun i j => i + j) (aOp (raI CMul fun i j => i * j) (aVar 4) (aVar 4)) (aOp (raI CMul fun i j => i * j) (aOp raIxL (aVar 0) (aC (.int 2))) (aC (.int 31)))) (aOp raIxL (aVar 0) (aC (.int 3)))) (aNil))) (aC (.int 1000003))) (aName 4)) (aRet (aOp (raI (fun _ j => 0 < j) fun i j => i % j) (aCB raInt (aCons (aVar 4) (aNil))) (aVar 1)))))))
abbrev lenT__law_draw : Prop := ∀ ss ms Qa Ea, p__law_draw ss ms Qa Ea → ss.length = 2
abbrev rdT__law_draw : Prop := ∀ ss ms Qa Ea, Closed ms.length ms → p__law_draw ss ms Qa Ea → b__law_draw (fun _ _ _ => False) { nx := fun _ ms' => Fin ms.length Qa (.d .none) ms', rt := Fin ms.length Qa } (startA 5 ss) ms
/-! ### is_number(text): slots 0 text, 1 char -/
abbrev s_is_number : Stmt := top 9
abbrev N_is_number : List Str := ["text", "char"]
theorem sc_is_number : FnScope N_is_number ["text"] (defScope s_is_number) := ⟨rfl, rfl, rfl, by decide +kernel, rfl, by decide +kernel, by decide +kernel⟩
def b_is_number : AS := aCut (aIfS (aOr (aB (aOp (raEq false) (aVar 0) (aC (.str "")))) (aOr (aB (aOp (raB0 fun i j => decide (j < i)) (aCB raLen (aCons (aVar 0) (aNil))) (aC (.int 9)))) (aB (aOp (raEq false) (aOp raIxS (aVar 0) (aC (.int 0))) (aC (.str "0")))))) (aRet (aC (.bool false))) (aNext)) (aRet (aOp (raEqD false) (aLc finD (aIS (aVar 0)) (aName 1) (aB (aOp (raInS true) (aVar 1) (aC (.str c_DIGITS)))) (aVar 1) [1]) (aCB rLst (aNil))))
abbrev lenT_is_number : Prop := ∀ ss ms Qa Ea, p_is_number ss ms Qa Ea → ss.length = 1
abbrev rdT_is_number : Prop := ∀ ss ms Qa Ea, Closed ms.length ms → p_is_number ss ms Qa Ea → b_is_number (fun _ _ _ => False) { nx := fun _ ms' => Fin ms.length Qa (.d .none) ms', rt := Fin ms.length Qa } (startA 2 ss) ms
/-! ### sum_of(text): slots 0 text, 1 total, 2 char -/
abbrev s_sum_of : Stmt := top 7
abbrev N_sum_of : List Str := ["text", "total", "char"]
theorem sc_sum_of : FnScope N_sum_of ["text"] (defScope s_sum_of) := ⟨rfl, rfl, rfl, by decide +kernel, rfl, by decide +kernel, by decide +kernel⟩
def f_sum_of_0 : AS := aAsg (aOp (raI (fun _ j => 0 < j) fun i j => i % j) (aOp (raI0 fun i j => i + j) (aOp (raI CMul fun i j => i * j) (aC (.int 31)) (aVar 1)) (aCB raOrd (aCons (aVar 2) (aNil)))) (aC (.int 9973))) (aName 1)
def b_sum_of : AS := aSeq (aAsg (aC (.int 7)) (aName 1)) (aSeq (aFor (aIS (aVar 0)) (aName 2) (f_sum_of_0)) (aRet (aVar 1)))
abbrev lenT_sum_of : Prop := ∀ ss ms Qa Ea, p_sum_of ss ms Qa Ea → ss.length = 1
abbrev rdT_sum_of : Prop := ∀ ss ms Qa Ea, Closed ms.length ms → p_sum_of ss ms Qa Ea → b_sum_of (fun _ _ _ => False) { nx := fun _ ms' => Fin ms.length Qa (.d .none) ms', rt := Fin ms.length Qa } (startA 3 ss) ms
/-! ### parsed(line): slots 0 line, 1 parts -/
abbrev s_parsed : Stmt := top 10
abbrev N_parsed : List Str := ["line", "parts"]
theorem sc_parsed : FnScope N_parsed ["line"] (defScope s_parsed) := ⟨rfl, rfl, rfl, by decide +kernel, rfl, by decide +kernel, by decide +kernel⟩
def b_parsed : AS := aSeq (aAsg (aBM "str" rmSplit (aVar 0) (aCons (aC (.str " ")) (aNil))) (aName 1)) (aCut (aIfS (aOr (aB (aOp (raEq true) (aCB raLen (aCons (aVar 1) (aNil))) (aC (.int 5)))) (aOr (aB (aOp (raIn true) (aOp raIxL (aVar 1) (aC (.int 0))) (aXT c_KINDS))) (aOr (aB (aOp (raEq false) (aOp raIxL (aVar 1) (aC (.int 1))) (aC (.str "")))) (aOr (aB (aOp (raEq false) (aOp raIxL (aVar 1) (aC (.int 2))) (aC (.str "")))) (aNot (aB (aCall p_is_number (aCons (aOp raIxL (aVar 1) (aC (.int 3))) (aNil))))))))) (aRet (aC .none)) (aNext)) (aCut (aIfS (aB (aOp (raEq true) (aCB raStr (aCons (aCall p_sum_of (aCons (aSl raSlS (aVar 0) (aNoPart) (aPart (aOp (raI0 fun i j => i - j) (aCB raLen (aCons (aVar 0) (aNil))) (aCB raLen (aCons (aOp raIxL (aVar 1) (aC (.int 4))) (aNil)))))) (aNil))) (aNil))) (aOp raIxL (aVar 1) (aC (.int 4))))) (aRet (aC .none)) (aNext)) (aRet (aCB rTup (aCons (aOp raIxL (aVar 1) (aC (.int 0))) (aCons (aOp raIxL (aVar 1) (aC (.int 1))) (aCons (aOp raIxL (aVar 1) (aC (.int 2))) (aCons (aCB raIntS (aCons (aOp raIxL (aVar 1) (aC (.int 3))) (aNil))) (aNil)))))))))
abbrev lenT_parsed : Prop := ∀ ss ms Qa Ea, p_parsed ss ms Qa Ea → ss.length = 1
abbrev rdT_parsed : Prop := ∀ ss ms Qa Ea, Closed ms.length ms → p_parsed ss ms Qa Ea → b_parsed (fun _ _ _ => False) { nx := fun _ ms' => Fin ms.length Qa (.d .none) ms', rt := Fin ms.length Qa } (startA 2 ss) ms
/-! ### read_records(text): slots 0 text, 1 found, 2 lines, 3 line, 4 entry -/
abbrev s_read_records : Stmt := top 11
abbrev N_read_records : List Str := ["text", "found", "lines", "line", "entry"]
theorem sc_read_records : FnScope N_read_records ["text"] (defScope s_read_records) := ⟨rfl, rfl, rfl, by decide +kernel, rfl, by decide +kernel, by decide +kernel⟩
def f_read_records_0 : AS := aSeq (aAsg (aCall p_parsed (aCons (aVar 3) (aNil))) (aName 4)) (aCut (aIfS (aB (aOp (raIsN false) (aVar 4) (aC .none))) (aBrk) (aNext)) (aDrop (aBM "list" rmAppend (aVar 1) (aCons (aVar 4) (aNil)))))
def b_read_records : AS := aSeq (aAsg (aCB rLstO (aNil)) (aName 1)) (aSeq (aAsg (aBM "str" rmSplit (aVar 0) (aCons (aC (.str "\n")) (aNil))) (aName 2)) (aSeq (aFor (aIL (aSl raSlL (aVar 2) (aNoPart) (aPart (aUn rNeg (aC (.int 1)))))) (aName 3) (f_read_records_0)) (aRet (aFrz (aVar 1)))))
abbrev lenT_read_records : Prop := ∀ ss ms Qa Ea, p_read_records ss ms Qa Ea → ss.length = 1
abbrev rdT_read_records : Prop := ∀ ss ms Qa Ea, Closed ms.length ms → p_read_records ss ms Qa Ea → b_read_records (fun _ _ _ => False) { nx := fun _ ms' => Fin ms.length Qa (.d .none) ms', rt := Fin ms.length Qa } (startA 5 ss) ms
/-! ### _law_sum(text): slots 0 text, 1 total, 2 char -/
abbrev s__law_sum : Stmt := top 17
abbrev N__law_sum : List Str := ["text", "total", "char"]
theorem sc__law_sum : FnScope N__law_sum ["text"] (defScope s__law_sum) := ⟨rfl, rfl, rfl, by decide +kernel, rfl, by decide +kernel, by decide +kernel⟩
def f__law_sum_0 : AS := aAsg (aOp (raI (fun _ j => 0 < j) fun i j => i % j) (aCB raInt (aCons (aOp (raI0 fun i j => i + j) (aOp (raI CMul fun i j => i * j) (aVar 1) (aC (.int 31))) (aCB raOrd (aCons (aVar 2) (aNil)))) (aNil))) (aC (.int 9973))) (aName 1)
def b__law_sum : AS := aSeq (aAsg (aC (.int 7)) (aName 1)) (aSeq (aFor (aIS (aVar 0)) (aName 2) (f__law_sum_0)) (aRet (aVar 1)))
abbrev lenT__law_sum : Prop := ∀ ss ms Qa Ea, p__law_sum ss ms Qa Ea → ss.length = 1
abbrev rdT__law_sum : Prop := ∀ ss ms Qa Ea, Closed ms.length ms → p__law_sum ss ms Qa Ea → b__law_sum (fun _ _ _ => False) { nx := fun _ ms' => Fin ms.length Qa (.d .none) ms', rt := Fin ms.length Qa } (startA 3 ss) ms
/-! ### the readings of the program's defs -/
theorem len_sum_of : lenT_sum_of := by
  rintro ss ms Qa Ea ⟨x, rfl, _⟩; rfl
theorem len__law_sum : lenT__law_sum := by
  rintro ss ms Qa Ea ⟨x, rfl, _⟩; rfl
theorem take_next {α : Type} {l : List α} {i : Nat} {c : α} (h : l[i]? = some c) : l.take (i + 1) = l.take i ++ [c] := by
  rw [List.take_add_one, h]; rfl
theorem sumF_next {l : List Nat} {i c : Nat} (h : l[i]? = some c) : (sumF 7 (l.take (i + 1)) : Nat) = sumS (sumF 7 (l.take i)) c := by
  rw [take_next h, sumF_app]; rfl
theorem sumS_int (t c : Nat) : ((sumS t c : Nat) : Int) = (31 * (t : Int) + (c : Int)) % 9973 := by
  unfold sumS; omega
def SumP (x : Str) (ms0 : ME) (i : Nat) (dl : SL) (ms : ME) : Prop := ms = ms0 ∧ ∃ s2, dl = [some (.d (.str x)), some (.d (.int (sumF 7 ((tl x).take i) : Nat))), s2]
theorem rd_sum_of : rdT_sum_of := by
  rintro ss ms Qa Ea c ⟨x, rfl, q⟩
  unfold b_sum_of
  walk_at "zr"
  refine z_forS (SumP x ms) ⟨rfl, _, rfl⟩ ?_ ?_
  · rintro i k dl' ms' hc ⟨rfl, s2, rfl⟩
    unfold f_sum_of_0
    walk_at "zr"
    refine z_raI (.inl (by decide)) ?_
    walk_at "zr"
    refine z_raI (by decide) ?_
    walk_at "zr"
    refine ⟨rfl, some (.d (.str ⟨#[k]⟩)), ?_⟩
    rw [sumF_next hc, sumS_int]
    rfl
  · rintro dl' ms' ⟨rfl, s2, rfl⟩
    walk_at "zr"
    refine fin_d c ?_
    rw [List.take_length]
    exact q
theorem rd__law_sum : rdT__law_sum := by
  rintro ss ms Qa Ea c ⟨x, rfl, q⟩
  unfold b__law_sum
  walk_at "zr"
  refine z_forS (SumP x ms) ⟨rfl, _, rfl⟩ ?_ ?_
  · rintro i k dl' ms' hc ⟨rfl, s2, rfl⟩
    unfold f__law_sum_0
    walk_at "zr"
    refine z_raI (.inr (by decide)) ?_
    walk_at "zr"
    refine z_raI (by decide) ?_
    walk_at "zr"
    refine ⟨rfl, some (.d (.str ⟨#[k]⟩)), ?_⟩
    rw [sumF_next hc, sumS_int, Int.mul_comm 31]
    rfl
  · rintro dl' ms' ⟨rfl, s2, rfl⟩
    walk_at "zr"
    refine fin_d c ?_
    rw [List.take_length]
    exact q
theorem len_is_number : lenT_is_number := by
  rintro ss ms Qa Ea ⟨x, rfl, _⟩; rfl
theorem str_beq (x y : Str) : (x == y) = (tl x == tl y) := by
  rw [Bool.eq_iff_iff, beq_iff_eq, beq_iff_eq]
  exact ⟨fun h => h ▸ rfl, ext_tl⟩
theorem size_10000 {x : Str} (h : x.length ≤ 10000) : x.length ≤ sizeLine := Nat.le_trans h (by decide)
theorem strOk_of {x : Str} (h : low x) : PyData.strOk x = true := by
  unfold PySem.PyData.strOk
  rw [Array.all_eq_true']
  intro c hc
  have := h c (Array.mem_toList_iff.mpr hc)
  exact decide_eq_true (by omega)
theorem lay_all {ds : List D} (h : ∀ d ∈ ds, d.canLay0 = true) : PyData.canLayAll0 ds = true := by
  induction ds with
  | nil => rfl
  | cons a r ih => rw [PyData.canLayAll0, h a (List.mem_cons_self ..), ih fun d hd => h d (List.mem_cons_of_mem _ hd)]; rfl
theorem depth_all {ds : List D} {n : Nat} (h : ∀ d ∈ ds, d.depth ≤ n) : PyData.depthAll ds ≤ n := by
  induction ds with
  | nil => exact Nat.zero_le _
  | cons a r ih =>
    rw [PyData.depthAll]
    exact Nat.max_le.mpr ⟨h a (List.mem_cons_self ..), ih fun d hd => h d (List.mem_cons_of_mem _ hd)⟩
theorem shaped_list {ds : List D} (h1 : ∀ d ∈ ds, d.canLay0 = true) (h2 : ∀ d ∈ ds, d.depth ≤ 60) : SeqAt.shaped (.list ds) = true := by
  unfold SeqAt.shaped
  have := depth_all h2
  rw [PyData.canLay0, lay_all h1, PyData.depth]
  simp only [Bool.true_and, decide_eq_true_eq]
  omega
def NumP (x : Str) (ms0 : ME) (i : Nat) (acc : List SV) (ms : ME) : Prop := ms = ms0 ∧ acc = (((tl x).take i).filter fun c => !decide (c ∈ c_DIGITS.cps.toList)).map fun c => .d (.str ⟨#[c]⟩)
theorem allD_map' {α : Type} (f : α → D) (l : List α) : allD (l.map fun c => .d (f c)) = some (l.map f) := by
  rw [show (l.map fun c => SV.d (f c)) = (l.map f).map SV.d by rw [List.map_map]; rfl]
  exact allD_of _
theorem digits_tl : c_DIGITS.cps.toList = [48, 49, 50, 51, 52, 53, 54, 55, 56, 57] := by decide +kernel
theorem digit_iff (c : Nat) : decide (c ∈ c_DIGITS.cps.toList) = (decide (48 ≤ c) && decide (c ≤ 57)) := by
  rw [digits_tl, Bool.eq_iff_iff]
  simp only [List.mem_cons, List.not_mem_nil, or_false, decide_eq_true_eq, Bool.and_eq_true]
  omega
theorem filt_one {p : Nat → Bool} {c : Nat} : [c].filter p = if p c = true then [c] else [] := by rw [List.filter_cons, List.filter_nil]
theorem rd_is_number : rdT_is_number := by
  rintro ss ms Qa Ea c ⟨x, rfl, hl, hx, q⟩
  have hz := size_10000 hl
  have len := len_tl x
  have e0 : tl ("" : Str) = [] := by decide +kernel
  have e48 : tl ("0" : Str) = [48] := by decide +kernel
  unfold b_is_number
  refine z_cut ?_
  walk_at "zr"
  refine z_or (fun h => ?_) (fun h => ?_)
  · walk_at "zr"
    refine fin_d c ?_
    rw [str_beq, e0] at h
    have : isNumL (tl x) = false := by unfold isNumL; rw [h]; rfl
    rw [← this]; exact q
  rw [str_beq, e0] at h
  walk_at "zr"
  refine z_raLen (lenA_s hz) ?_
  walk_at "zr"
  refine z_or (fun h2 => ?_) (fun h2 => ?_)
  · walk_at "zr"
    refine fin_d c ?_
    have h2' := of_decide_eq_true h2
    have : isNumL (tl x) = false := by
      unfold isNumL
      rw [decide_eq_false (show ¬ (tl x).length ≤ 9 by omega), Bool.false_and, Bool.and_false]
    rw [← this]; exact q
  have h2' := of_decide_eq_false h2
  obtain ⟨a, r, ex⟩ : ∃ a r, tl x = a :: r := by
    cases e : tl x with
    | nil => rw [e] at h; cases h
    | cons a r => exact ⟨a, r, rfl⟩
  walk_at "zr"
  refine z_raIxS (n := a) hz (atI_of (by decide) (by rw [show x.cps.toList = a :: r from ex]; rfl)) ?_
  walk_at "zr"
  refine z_if (fun h3 => ?_) (fun h3 => ?_)
  · walk_at "zr"
    refine fin_d c ?_
    rw [str_beq, e48] at h3
    have h3 : [a] = [48] := beq_iff_eq.mp h3
    injection h3 with h3
    have : isNumL (tl x) = false := by
      unfold isNumL
      rw [ex, h3]
      simp
    rw [← this]; exact q
  rw [str_beq, e48] at h3
  have h3 : ¬ a = 48 := fun g => by rw [g] at h3; exact absurd (beq_self_eq_true [48]) (by rw [show ([48] == [48]) = false from h3]; decide)
  walk_at "zr"
  refine z_lcS hz (NumP x ms) ⟨rfl, rfl⟩ ?_ ?_
  · rintro i k acc ms' hc ⟨rfl, rfl⟩
    walk_at "zr"
    refine ⟨k, _, rfl, rfl, ?_⟩
    walk_at "zr"
    refine z_test (fun g => ?_) (fun g => ?_)
    · walk_at "zr"
      refine ⟨rfl, ?_⟩
      have g : (!decide (k ∈ c_DIGITS.cps.toList)) = true := g
      rw [take_next hc, List.filter_append, List.map_append, filt_one, if_pos g]
      rfl
    · refine ⟨rfl, ?_⟩
      have g : (!decide (k ∈ c_DIGITS.cps.toList)) = false := g
      rw [take_next hc, List.filter_append, List.map_append, filt_one, if_neg (by rw [g]; decide)]
      exact (List.append_nil _).symm
  · rintro acc ms' ⟨rfl, rfl⟩
    rw [List.take_length]
    refine z_finD (allD_map' (fun c => PyData.str ⟨#[c]⟩) _) ?_
    walk_at "zr"
    refine ⟨_, _, rfl, rfl, shaped_list ?_ ?_, rfl, ?_⟩
    · intro d hd
      obtain ⟨c, hc, rfl⟩ := List.mem_map.mp hd
      have := hx c (List.mem_filter.mp hc).1
      exact strOk_of (x := ⟨#[c]⟩) fun d hd => by rw [List.mem_singleton.mp hd]; exact this
    · intro d hd
      obtain ⟨c, hc, rfl⟩ := List.mem_map.mp hd
      exact Nat.zero_le _
    · walk_at "zr"
      refine fin_d c ?_
      have : isNumL (tl x) = PyData.eqv (PyData.list (((tl x).filter fun c => !decide (c ∈ c_DIGITS.cps.toList)).map fun c => PyData.str ⟨#[c]⟩)) (.list []) := by
        have e1 : isNumL (tl x) = (tl x).all fun c => decide (48 ≤ c) && decide (c ≤ 57) := by
          unfold isNumL
          rw [decide_eq_true (show (tl x).length ≤ 9 by omega), h, ex]
          have : (some a == some 48) = false := by simpa using h3
          simp only [List.head?_cons, this]
          rfl
        rw [e1]
        have e2 : ∀ ds : List D, PyData.eqv (.list ds) (.list []) = ds.isEmpty := by
          intro ds
          cases ds <;> rw [PyData.eqv, PyData.eqvAll] <;> rfl
        rw [e2, List.isEmpty_map]
        generalize tl x = l
        induction l with
        | nil => rfl
        | cons b t ih =>
          rw [List.all_cons, List.filter_cons, digit_iff, ih]
          cases decide (48 ≤ b) && decide (b ≤ 57) <;> rfl
      rw [this] at q
      exact q
theorem len_parsed : lenT_parsed := by
  rintro ss ms Qa Ea ⟨x, rfl, _⟩; rfl
theorem sp_tl : tl (" " : Str) = [32] := by decide +kernel
theorem nl_tl : tl ("\n" : Str) = [10] := by decide +kernel
theorem split_sp (x : Str) : (Txt.split x " ").map tl = spl [32] 0 [] (tl x) := by
  rw [split_spl x " " (by rw [sp_tl]; exact List.cons_ne_nil _ _) (kind_ok (by decide +kernel)), sp_tl]
theorem split_nl (x : Str) : (Txt.split x "\n").map tl = spl [10] 0 [] (tl x) := by
  rw [split_spl x "\n" (by rw [nl_tl]; exact List.cons_ne_nil _ _) (kind_ok (by decide +kernel)), nl_tl]
theorem spl_low (s : Nat) (l : List Nat) (h : ∀ c ∈ l, c < 200) : ∀ p ∈ spl [s] 0 [] l, (∀ c ∈ p, c < 200) ∧ p.length ≤ l.length := by
  have gen : ∀ (l acc : List Nat), (∀ c ∈ l, c < 200) → (∀ c ∈ acc, c < 200) → ∀ p ∈ spl [s] 0 acc l, (∀ c ∈ p, c < 200) ∧ p.length ≤ acc.length + l.length := by
    intro l
    induction l with
    | nil =>
      intro acc _ ha p hp
      rw [spl_nil] at hp
      rw [List.mem_singleton.mp hp]
      exact ⟨ha, Nat.le_add_right _ _⟩
    | cons c r ih =>
      intro acc hl ha p hp
      have hr : ∀ c ∈ r, c < 200 := fun d hd => hl d (List.mem_cons_of_mem _ hd)
      by_cases hc : c = s
      · subst hc
        rw [spl_hit (by simp [pre])] at hp
        rcases List.mem_cons.mp hp with g | g
        · rw [g]; exact ⟨ha, Nat.le_add_right _ _⟩
        · have := ih [] hr (fun _ h => absurd h List.not_mem_nil) p g
          exact ⟨this.1, by have := this.2; simp at this ⊢; omega⟩
      · rw [spl_miss (pre_of_head [] r hc)] at hp
        have := ih (acc ++ [c]) hr (fun d hd => by
          rcases List.mem_append.mp hd with g | g
          · exact ha d g
          · rw [List.mem_singleton.mp g]; exact hl c (List.mem_cons_self ..)) p hp
        exact ⟨this.1, by have := this.2; simp at this ⊢; omega⟩
  intro p hp
  have := gen l [] h (fun _ h => absurd h List.not_mem_nil) p hp
  exact ⟨this.1, by have := this.2; simp at this; omega⟩
theorem parse_len {l : List Nat} (h : (spl [32] 0 [] l).length ≠ 5) : parseL l = none := by
  unfold parseL
  split
  · rename_i q
    rw [q] at h
    exact absurd rfl h
  · rfl
theorem parse_eq {l a b c d s : List Nat} (h : spl [32] 0 [] l = [a, b, c, d, s]) : parseL l = if kinds.contains a && (!(b == []) && (!(c == []) && (isNumL d && (numL (sumL (l.take (l.length - s.length))) == s)))) then some ⟨a, b, c, NumText.digitsVal d⟩ else none := by
  unfold parseL
  rw [h]
theorem kinds_tl : c_KINDS_s.map tl = kinds := by decide +kernel
theorem inF_strs (x : Str) (l : List Str) : inF (.str x) (l.map PyData.str) = (l.map tl).contains (tl x) := by
  unfold inF
  induction l with
  | nil => rfl
  | cons a r ih =>
    rw [List.map_cons, List.map_cons, List.any_cons, List.contains_cons, ih]
    congr 1
    show (a == x) = _
    rw [str_beq, Bool.eq_iff_iff, beq_iff_eq, beq_iff_eq]
    exact ⟨Eq.symm, Eq.symm⟩
theorem flat_strs (l : List Str) : (l.map PyData.str).all flatD = true := by
  rw [List.all_map]
  exact List.all_eq_true.mpr fun _ _ => rfl
theorem str_num (n : Nat) : tl (toString ((n : Nat) : Int) : String) = numL n := by
  have := tl_num n
  exact this
theorem cut_hi (x : Str) (k : Nat) : tl (cutS x none (some (k : Int))) = (tl x).take k := by
  unfold cutS
  rw [HT.sIx_nat, HT.sIx_none]
  show ((tl x).drop 0).take (min k x.length - 0) = _
  rw [List.drop_zero, Nat.sub_zero, len_tl, List.take_eq_take_iff]
  omega
theorem cut_lo (x : Str) (k : Nat) : tl (cutS x (some (k : Int)) none) = (tl x).drop k := by
  unfold cutS
  rw [HT.sIx_nat, HT.sIx_none]
  show ((tl x).drop (min k x.length)).take (x.length - min k x.length) = _
  rw [len_tl]
  by_cases h : k ≤ (tl x).length
  · rw [Nat.min_eq_left h, List.take_of_length_le (by rw [List.length_drop]; omega)]
  · rw [Nat.min_eq_right (by omega), Nat.sub_self, List.take_zero, List.drop_eq_nil_of_le (by omega)]
theorem z_inXT {neg : Bool} {d : D} {ds : List D} {P : SV → ME → Prop} {ms : ME} (h1 : ds.all flatD = true) (h2 : flatD d = true) (h : P (.d (.bool (if neg then !inF d ds else inF d ds))) ms) : raIn neg (.d d) (.xt ds) ms P := ⟨d, ds, rfl, allD_of ds, h2, h1, h⟩
theorem rd_parsed : rdT_parsed := by
  rintro ss ms Qa Ea c ⟨x, rfl, hl, hx, q⟩
  have hz := size_10000 hl
  have len := len_tl x
  have sp := split_sp x
  have lo := spl_low 32 (tl x) hx
  unfold b_parsed
  walk_at "zr"
  refine z_kBM1 rfl ?_
  walk_at "zr"
  refine ⟨x, " ", rfl, rfl, by decide +kernel, Nat.le_trans (Nat.add_le_add_right hl 2) (by decide), ?_⟩
  generalize Txt.split x " " = parts at sp
  walk_at "zr"
  refine z_cut ?_
  have bad : parseL (tl x) = none → Qa (.d .none) ms := fun g => by unfold parseD at q; rw [g] at q; exact q
  walk_at "zr"
  refine z_or (fun h => ?_) (fun h => ?_)
  · walk_at "zr"
    refine fin_d c (bad (parse_len ?_))
    rw [← sp, List.length_map]
    rw [List.length_map] at h
    have : ¬ ((parts.length : Int) = 5) := by simpa using h
    omega
  obtain ⟨a, b, l, d, s, rfl⟩ : ∃ a b l d s, parts = [a, b, l, d, s] := by
    rw [List.length_map] at h
    have h : ((parts.length : Int) = 5) := by simpa using h
    have h : parts.length = 5 := by omega
    match parts, h with
    | [a, b, l, d, s], _ => exact ⟨a, b, l, d, s, rfl⟩
  have pe := parse_eq sp.symm
  have ld := lo (tl d) (by rw [← sp]; simp)
  have ls := lo (tl s) (by rw [← sp]; simp)
  have bl := len_tl d
  have sl := len_tl s
  walk_at "zr"
  refine z_inXT (flat_strs _) rfl ?_
  rw [inF_strs, kinds_tl]
  walk_at "zr"
  refine z_or (fun h => ?_) (fun h1 => ?_)
  · walk_at "zr"
    refine fin_d c (bad ?_)
    rw [pe, if_neg]
    have h : (!kinds.contains (tl a)) = true := h
    simp only [Bool.not_eq_true'] at h
    rw [h]
    simp
  have h1 : (!kinds.contains (tl a)) = false := h1
  simp only [Bool.not_eq_false'] at h1
  walk_at "zr"
  have e0 : tl ("" : Str) = [] := by decide +kernel
  refine z_or (fun h => ?_) (fun h2 => ?_)
  · walk_at "zr"
    refine fin_d c (bad ?_)
    rw [str_beq, e0] at h
    rw [pe, if_neg]
    rw [h]
    simp
  rw [str_beq, e0] at h2
  walk_at "zr"
  refine z_or (fun h => ?_) (fun h3 => ?_)
  · walk_at "zr"
    refine fin_d c (bad ?_)
    rw [str_beq, e0] at h
    rw [pe, if_neg]
    rw [h]
    simp
  rw [str_beq, e0] at h3
  walk_at "zr"
  refine ⟨d, rfl, by omega, ld.1, ?_⟩
  walk_at "zr"
  refine z_if (fun h => ?_) (fun h4 => ?_)
  · walk_at "zr"
    refine fin_d c (bad ?_)
    simp only [Bool.not_eq_true'] at h
    rw [pe, if_neg]
    rw [h]
    simp
  simp only [Bool.not_eq_false'] at h4
  walk_at "zr"
  refine z_cut ?_
  walk_at "zr"
  refine z_raLen (lenA_s hz) ?_
  walk_at "zr"
  refine z_raLen (lenA_s (size_10000 (by omega))) ?_
  walk_at "zr"
  refine ⟨x, rfl, hz, ?_⟩
  walk_at "zr"
  refine ⟨_, rfl, ?_⟩
  walk_at "zr"
  have ek : ((x.length : Int) - (s.length : Int)) = ((x.length - s.length : Nat) : Int) := by omega
  rw [ek, cut_hi, len, sl]
  have lt := sumL_lt ((tl x).take ((tl x).length - (tl s).length))
  refine z_raStr ?_ ?_
  · exact Nat.lt_of_lt_of_le (PySem.Flt.log2_lt_of (k := 64) (by decide) (by omega)) (by decide)
  walk_at "zr"
  rw [str_beq]
  have es : ∀ n : Nat, tl (toString ((n : Nat) : Int) : String) = numL n := str_num
  refine z_if (fun h => ?_) (fun h5 => ?_)
  · walk_at "zr"
    refine fin_d c (bad ?_)
    simp only [Bool.not_eq_true'] at h
    rw [es] at h
    rw [pe, if_neg]
    rw [h]
    simp
  simp only [Bool.not_eq_false'] at h5
  rw [es] at h5
  walk_at "zr"
  have nd : NumText.AllDigits (tl d) ∧ tl d ≠ [] ∧ (tl d).length ≤ 9 := by
    unfold isNumL at h4
    simp only [Bool.and_eq_true, decide_eq_true_eq, List.all_eq_true] at h4
    refine ⟨fun c hc => h4.2.2.2 c hc, fun g => ?_, h4.2.1⟩
    have := h4.1
    rw [g] at this
    cases this
  refine ⟨d, _, rfl, PySem.intText_digits nd.1 nd.2.1 (by omega), by omega, ?_⟩
  walk_at "zr"
  refine fin_d c ?_
  unfold parseD at q
  rw [pe, if_pos (by rw [h1, h2, h3, h4, h5]; decide)] at q
  have m : ∀ y : Str, mk (tl y) = y := mk_tl
  unfold entD at q
  simp only [m] at q
  exact q
theorem len_read_records : lenT_read_records := by
  rintro ss ms Qa Ea ⟨x, rfl, _⟩; rfl
/-- the loop over the lines: what was found, and that all lines so far were read -/
def RdP (x : Str) (k : Nat) (lines : List Str) (ms0 : ME) (i : Nat) (dl : SL) (ms : ME) : Prop := ∃ es s3 s4, es.length ≤ i ∧ ms = ms0 ++ [.lst (es.map fun e => .d (entD e))] ∧ dl = [some (.d (.str x)), some (.o ms0.length), some (.d (.list (lines.map PyData.str))), s3, s4] ∧ readL (tl x) = es ++ readLs ((lines.dropLast.drop i).map tl)
theorem neg_one_cut {α : Type} (l : List α) : cutG' l none (some (-1)) = l.dropLast := by
  have e : HT.sIx l.length l.length (some (-1)) = l.length - 1 := by
    show (if (-1 : Int) < 0 then ((-1 : Int) + (l.length : Int)).toNat else min (-1 : Int).toNat l.length) = _
    rw [if_pos (by decide)]
    omega
  unfold cutG'
  rw [HT.sIx_none, List.drop_zero, e, List.dropLast_eq_take]
  rfl
theorem fin_jk {a jk : ME} {Q : SV → ME → Prop} {d : D} (c : Closed a.length a) (q : Q (.d d) a) : Fin a.length Q (.d d) (a ++ jk) := ⟨a, jk, rfl, Nat.le_refl _, c, trivial, q⟩
theorem at_last {a : ME} {m : MO} : (a ++ [m])[a.length]? = some m := by
  rw [List.getElem?_append_right (Nat.le_refl _), Nat.sub_self]; rfl
theorem set_last {a : ME} {m m' : MO} : (a ++ [m]).set a.length m' = a ++ [m'] := by
  rw [List.set_append_right _ _ (Nat.le_refl _), Nat.sub_self]; rfl
theorem drop_next {α : Type} {l : List α} {i : Nat} {c : α} (h : l[i]? = some c) : l.drop i = c :: l.drop (i + 1) := by
  obtain ⟨h1, h2⟩ := List.getElem?_eq_some_iff.mp h
  rw [List.drop_eq_getElem_cons h1, h2]
theorem rd_read_records : rdT_read_records := by
  rintro ss ms Qa Ea c ⟨x, rfl, hl, hx, q⟩
  have hz := size_10000 hl
  have len := len_tl x
  have sp := split_nl x
  have lo := spl_low 10 (tl x) hx
  unfold b_read_records
  walk_at "zr"
  refine z_rLstO (by decide) ?_
  walk_at "zr"
  refine z_kBM1 rfl ?_
  walk_at "zr"
  refine ⟨x, "\n", rfl, rfl, by decide +kernel, Nat.le_trans (Nat.add_le_add_right hl 2) (by decide), ?_⟩
  generalize Txt.split x "\n" = lines at sp
  walk_at "zr"
  refine ⟨_, (lines.dropLast.map PyData.str), rfl, ?_, ?_⟩
  · rw [neg_one_cut, ← List.map_dropLast, ← List.map_dropLast]
    exact allD_of _
  refine z_kIL rfl ?_
  refine z_forD (RdP x 0 lines ms) ⟨[], _, _, Nat.le_refl _, rfl, rfl, ?_⟩ (fun _ => rfl) ?_ ?_
  · unfold readL
    rw [← sp, List.drop_zero, List.map_dropLast]
    rfl
  · rintro i d dl' ms' hd ⟨es, s3, s4, le, rfl, rfl, er⟩
    rw [List.getElem?_map] at hd
    obtain ⟨z, hz1, rfl⟩ := Option.map_eq_some_iff.mp hd
    have zm : tl z ∈ spl [10] 0 [] (tl x) := by
      rw [← sp]
      exact List.mem_map_of_mem (List.dropLast_subset _ (List.mem_of_getElem? hz1))
    have zl := lo _ zm
    have zlen := len_tl z
    unfold f_read_records_0
    walk_at "zr"
    refine ⟨z, rfl, by omega, zl.1, ?_⟩
    walk_at "zr"
    refine z_cut ?_
    walk_at "zr"
    rw [drop_next hz1, List.map_cons] at er
    cases pq : parseL (tl z) with
    | none =>
      have e1 : parseD (tl z) = .none := by unfold parseD; rw [pq]
      rw [e1]
      walk_at "zr"
      refine z_ifT ?_
      walk_at "zr"
      refine z_kFrz (ds := es.map entD) at_last (allD_map' entD es) ?_
      have er : readL (tl x) = es := by
        rw [er]
        unfold readLs
        rw [pq]
        exact List.append_nil _
      rw [er] at q
      rw [set_last]
      exact fin_jk c q
    | some e =>
      have e1 : parseD (tl z) = entD e := by unfold parseD; rw [pq]
      rw [e1]
      walk_at "zr"
      refine z_ifF ?_
      walk_at "zr"
      refine z_kBM1 (.inl ⟨rfl, _, at_last⟩) ?_
      walk_at "zr"
      refine ⟨_, _, _, rfl, rfl, at_last, ?_, ?_⟩
      · have := (List.getElem?_eq_some_iff.mp hz1).1
        rw [List.length_dropLast] at this
        have n := congrArg List.length sp
        rw [(spl_back 10 (tl x) [] List.not_mem_nil).2.2, List.length_map] at n
        have cl : (tl x).count 10 ≤ (tl x).length := List.count_le_length
        rw [List.length_map]
        exact Nat.lt_of_lt_of_le (show es.length < 20000 by omega) (by decide)
      walk_at "zr"
      refine ⟨es ++ [e], _, _, by rw [List.length_append]; exact Nat.succ_le_succ le, by rw [set_last, List.map_append]; rfl, rfl, ?_⟩
      rw [er, List.append_assoc, List.singleton_append]
      conv => lhs; unfold readLs; rw [pq]
  · rintro dl' ms' ⟨es, s3, s4, le, rfl, rfl, er⟩
    walk_at "zr"
    refine z_kFrz (ds := es.map entD) at_last (allD_map' entD es) ?_
    have er : readL (tl x) = es := by
      rw [er, List.drop_eq_nil_of_le (by rw [List.length_map]; exact Nat.le_refl _)]
      exact List.append_nil _
    rw [er] at q
    rw [set_last]
    exact fin_jk c q

theorem len__law_state : lenT__law_state := by
  rintro ss ms Qa Ea ⟨ns, rfl, _⟩; rfl
theorem rd__law_state : rdT__law_state := by
  rintro ss ms Qa Ea c ⟨ns, rfl, hl, q⟩
  unfold b__law_state
  walk_at "zr"
  refine ⟨_, ns.map PyData.int, rfl, allD_of _, ?_⟩
  walk_at "zr"
  refine z_rLstO (Evl.sz_of (by simp only [List.length_cons, List.length_nil]; omega)) ?_
  walk_at "zr"
  have i : IsSt (stMO ns 0 0 0 false) := ⟨ns, 0, 0, 0, false, rfl, by decide, by decide, by decide, by omega⟩
  refine Fin.same (by rw [List.length_append]; omega) ?_ (by show ms.length < (ms ++ [_]).length; rw [List.length_append]; exact Nat.lt_succ_self _) (q _ i)
  intro mo hm
  rcases List.mem_append.mp hm with h | h
  · have := c mo h
    exact MO.below_mono this (by rw [List.length_append]; omega)
  · have : mo = stMO ns 0 0 0 false := List.mem_singleton.mp h
    rw [this]
    exact i.below _
theorem len__law_draw : lenT__law_draw := by
  rintro ss ms Qa Ea ⟨k, limit, rfl, _⟩; rfl
theorem St.get {cells : List Int} {p : Int} (hp : 0 ≤ p) (h : p < cells.length) : atI ((cells.map PyData.int).map SV.d) p = some (.d (.int (cells[p.toNat]'(by omega)))) := by
  refine atI_of hp ?_
  rw [List.getElem?_map, List.getElem?_map, List.getElem?_eq_getElem (by omega)]
  rfl
/-- the state behind the first test: a number of the cell is left -/
def Dr (k : Nat) (limit : Int) (ms0 : ME) (dl : SL) (ms : ME) : Prop := ∃ s2 s3 s4 cells pos cell left big, dl = [some (.o k), some (.d (.int limit)), s2, s3, s4] ∧ ms[k]? = some (stMO cells pos cell left big) ∧ StL k ms0 ms ∧ 0 ≤ pos ∧ 0 ≤ cell ∧ 1 ≤ left ∧ cells.length ≤ 1000
theorem rd__law_draw : rdT__law_draw := by
  rintro ss ms Qa Ea c ⟨k, limit, rfl, ⟨mo, em, cells, pos, cell, left, big, rfl, hp, hc, hl, hn⟩, h0, h1, q⟩
  have sa : StAt k ms := ⟨_, em, cells, pos, cell, left, big, rfl, hp, hc, hl, hn⟩
  unfold b__law_draw
  refine z_cutM (Dr k limit ms) ?_ ?_
  · walk_at "zr"
    refine z_if (fun hb => ?_) (fun hb => ?_)
    · refine z_cut ?_
      walk_at "zr"
      refine z_if (fun hb2 => ?_) (fun hb2 => ?_)
      · walk_at "zr"
        exact fin_d c (q 0 ms (by decide) h0 (StL.refl sa))
      · walk_at "zr"
        have hb3 : pos < cells.length := by
          have := of_decide_eq_false hb2
          rw [List.length_map] at this
          omega
        refine z_raIxL rfl (St.get hp hb3) ?_
        walk_at "zr"
        refine z_cutM (fun dl ms' => ∃ cell', 0 ≤ cell' ∧ dl = [some (.o k), some (.d (.int limit)), some (.d (.int cell')), none, none] ∧ ms' = ms) ?_ ?_
        · walk_at "zr"
          refine z_if (fun hb4 => ?_) (fun hb4 => ?_)
          · walk_at "zr"
            have := of_decide_eq_true hb4
            exact ⟨_, by show 0 ≤ -1 - _; omega, rfl, rfl⟩
          · walk_at "zr"
            have := of_decide_eq_false hb4
            exact ⟨_, by omega, rfl, rfl⟩
        · rintro dl ms' ⟨cell', hc', rfl, rfl⟩
          walk_at "zr"
          refine z_kSet3g em rfl (fun m1 e1 em1 => ?_)
          walk_at "zr"
          refine z_kSet3g em1 rfl (fun m2 e2 em2 => ?_)
          walk_at "zr"
          refine z_raI ⟨by decide, by decide, by decide⟩ ?_
          walk_at "zr"
          refine z_kSet3g em2 rfl (fun m3 e3 em3 => ?_)
          walk_at "zr"
          refine z_kSet3g em3 rfl (fun m4 e4 em4 => ?_)
          have sl4 : StL k ms' m4 := ⟨stMO cells (pos + 1) cell' 6 (decide ((10 : Int) ^ 18 ≤ cell')), ⟨cells, pos + 1, cell', 6, _, rfl, by omega, hc', by omega, hn⟩, by
            rw [e4, e3, e2, e1, List.set_set, List.set_set, List.set_set]; rfl⟩
          walk_at "zr"
          refine z_if (fun hb5 => ?_) (fun hb5 => ?_)
          · walk_at "zr"
            refine z_kSet3g em4 rfl (fun m5 e5 em5 => ?_)
            walk_at "zr"
            exact ⟨_, _, _, cells, pos + 1, cell', 60, _, rfl, em5, sl4.trans ⟨stMO cells (pos + 1) cell' 60 (decide ((10 : Int) ^ 18 ≤ cell')), ⟨cells, pos + 1, cell', 60, _, rfl, by omega, hc', by omega, hn⟩, e5⟩, by omega, hc', by omega, hn⟩
          · walk_at "zr"
            exact ⟨_, _, _, cells, pos + 1, cell', 6, _, rfl, em4, sl4, by omega, hc', by omega, hn⟩
    · walk_at "zr"
      have : ¬ left = 0 := by simpa using hb
      exact ⟨_, _, _, cells, pos, cell, left, big, rfl, em, StL.refl sa, hp, hc, by omega, hn⟩
  · rintro dl ms1 ⟨s2, s3, s4, cells, pos, cell, left, big, rfl, em1, sl1, hp, hc, hl, hn⟩
    walk_at "zr"
    refine z_kSet3g em1 rfl (fun m2 e2 em2 => ?_)
    have sl2 : StL k ms m2 := sl1.trans ⟨stMO cells pos cell (left - 1) big, ⟨cells, pos, cell, left - 1, big, rfl, hp, hc, by omega, hn⟩, e2⟩
    walk_at "zr"
    refine z_cut ?_
    walk_at "zr"
    refine z_if (fun hb => ?_) (fun hb => ?_)
    · walk_at "zr"
      refine z_raI h0 ?_
      walk_at "zr"
      refine z_raI ⟨h0, ?_⟩ ?_
      · exact Nat.lt_of_lt_of_le (PySem.Flt.log2_lt_of (k := 64) (by decide) (by omega)) (by decide)
      walk_at "zr"
      refine z_kSet3g em2 rfl (fun m3 e3 em3 => ?_)
      have hd : 0 ≤ cell / limit := Int.ediv_nonneg hc (by omega)
      have sl3 : StL k ms m3 := sl2.trans ⟨stMO cells pos (cell / limit) (left - 1) big, ⟨cells, pos, cell / limit, left - 1, big, rfl, hp, hd, by omega, hn⟩, e3⟩
      have r0 : 0 ≤ cell % limit := Int.emod_nonneg _ (by omega)
      have r1 : cell % limit < limit := Int.emod_lt_of_pos _ h0
      walk_at "zr"
      refine z_cut ?_
      walk_at "zr"
      refine z_if (fun hb2 => ?_) (fun hb2 => ?_)
      · walk_at "zr"
        refine z_kSet3g em3 rfl (fun m4 e4 em4 => ?_)
        have sl4 : StL k ms m4 := sl3.trans ⟨stMO cells pos (cell / limit) 0 big, ⟨cells, pos, cell / limit, 0, big, rfl, hp, hd, by omega, hn⟩, e4⟩
        walk_at "zr"
        exact sl4.fin c (q _ _ r0 r1 sl4)
      · walk_at "zr"
        exact sl3.fin c (q _ _ r0 r1 sl3)
    · walk_at "zr"
      refine z_raI (.inr (by decide)) ?_
      walk_at "zr"
      refine z_raI (.inr (by decide)) ?_
      walk_at "zr"
      refine z_raI (by decide) ?_
      walk_at "zr"
      generalize hm : (cell * 48271 + (left - 1) * 69621 + 7) % 2147483647 = mixed
      have m0 : 0 ≤ mixed := by rw [← hm]; exact Int.emod_nonneg _ (by decide)
      have m1 : mixed < 2147483647 := by rw [← hm]; exact Int.emod_lt_of_pos _ (by decide)
      refine z_raI (.inl (by omega)) ?_
      walk_at "zr"
      refine z_raI (.inr (by decide)) ?_
      walk_at "zr"
      refine z_raI (by decide) ?_
      walk_at "zr"
      refine z_raI h0 ?_
      walk_at "zr"
      exact sl2.fin c (q _ _ (Int.emod_nonneg _ (by omega)) (Int.emod_lt_of_pos _ h0) sl2)

end Lw

namespace Lw
open PySem PySem.Spec PyProof.Rows L2 Z TL
/-- one step -/
local macro_rules | `(tactic| walk_at "z") => `(tactic| first
  | ((with_reducible apply z_aVar); exact rfl)
  | with_reducible refine z_nx ?_
  | with_reducible refine z_kSeq ?_
  | with_reducible refine z_aSeq ?_
  | with_reducible refine z_aC ?_
  | with_reducible refine z_kOp2 ?_
  | with_reducible refine z_kOp1 ?_
  | with_reducible refine z_aOp ?_
  | with_reducible refine z_aB ?_
  | with_reducible refine z_kNot ?_
  | with_reducible refine z_aAnd ?_
  | with_reducible refine z_aOr ?_
  | with_reducible refine z_aNot ?_
  | with_reducible refine z_aAndV ?_
  | with_reducible refine z_aOrV ?_
  | with_reducible refine z_aNotV ?_
  | with_reducible refine z_aIf ?_
  | with_reducible refine z_aNil ?_
  | with_reducible refine z_kCons2 ?_
  | with_reducible refine z_kCons1 ?_
  | with_reducible refine z_aCons ?_
  | with_reducible refine z_kCB ?_
  | with_reducible refine z_aCB ?_
  | with_reducible refine z_aCall ?_
  | with_reducible refine z_aCallX ?_
  | with_reducible refine z_aBM0 ?_
  | with_reducible refine z_kBM2 ?_
  | with_reducible refine z_aBM ?_
  | with_reducible refine z_aName ?_
  | with_reducible refine z_kG ?_
  | with_reducible refine z_aNext ?_
  | with_reducible refine z_kDrop ?_
  | with_reducible refine z_aDrop ?_
  | with_reducible refine z_aRet ?_
  | with_reducible refine z_aRetN ?_
  | with_reducible refine z_aIfS ?_
  | with_reducible refine z_kAsg ?_
  | with_reducible refine z_aAsg ?_
  | with_reducible refine z_aBrk ?_
  | with_reducible refine z_aCont ?_
  | with_reducible refine z_aNever ?_
  | with_reducible refine z_aPar ?_
  | with_reducible refine z_kAug2 ?_
  | with_reducible refine z_kAug ?_
  | with_reducible refine z_aIL ?_
  | with_reducible refine z_aIT ?_
  | with_reducible refine z_aIR1 ?_
  | with_reducible refine z_aIR2 ?_
  | with_reducible refine z_aIS ?_
  | with_reducible refine z_aYes ?_
  | with_reducible refine z_aNoPart ?_
  | with_reducible refine z_aPart ?_
  | with_reducible refine z_kSl3 ?_
  | with_reducible refine z_kSl2 ?_
  | with_reducible refine z_kSl1 ?_
  | with_reducible refine z_aSl ?_
  | with_reducible refine z_aIsi ?_
  | with_reducible refine z_kSet2 ?_
  | with_reducible refine z_kSet1 ?_
  | with_reducible refine z_aSetL ?_
  | with_reducible refine z_aXT ?_
  | with_reducible refine z_aFrz ?_
  | with_reducible refine z_aUn ?_
  | with_reducible refine z_aTru ?_
  | with_reducible refine z_rt ?_
  | with_reducible refine z_bk ?_
  | with_reducible refine z_ct ?_
  | with_reducible refine z_kB ?_
  | with_reducible refine z_kNotV ?_
  | with_reducible refine z_ifT ?_
  | with_reducible refine z_ifF ?_
  | with_reducible refine z_ifeT ?_
  | with_reducible refine z_ifeF ?_
  | with_reducible refine z_andT ?_
  | with_reducible refine z_andF ?_
  | with_reducible refine z_orT ?_
  | with_reducible refine z_orF ?_
  | with_reducible refine z_raI0 ?_
  | with_reducible refine z_raB0 ?_
  | with_reducible refine z_raInt ?_
  | with_reducible refine z_raIntB ?_
  | with_reducible refine z_raOrd ?_
  | with_reducible refine z_raEqI ?_
  | with_reducible refine z_raNeI ?_
  | with_reducible refine z_raEqS ?_
  | with_reducible refine z_raNeS ?_
  | with_reducible refine z_raIsN ?_
  | with_reducible refine z_raNotN ?_
  | with_reducible refine z_kPart ?_
  | with_reducible refine z_kUn ?_
  | with_reducible refine z_kPar ?_
  | with_reducible refine z_ipAdd ?_
  | with_reducible refine z_ipSub ?_
  | with_reducible refine z_kCall ?_
  | with_reducible refine z_kCallX ?_
  | with_reducible refine z_aFor ?_
  | with_reducible refine z_kBody ?_
  | with_reducible refine z_aLc ?_
  | with_reducible refine z_kTurn ?_
  | with_reducible refine z_testT ?_
  | with_reducible refine z_kElt ?_
  | with_reducible refine z_kIS ?_
  | with_reducible refine z_finO ?_
  | with_reducible refine z_aGCons ?_
  | with_reducible refine z_aGNil ?_
  | ((with_reducible apply z_rTup); exact rfl; exact Evl.sz_of (by simp only [List.length_cons, List.length_nil]; omega))
  | ((with_reducible apply z_rLst); exact rfl; exact Evl.sz_of (by simp only [List.length_cons, List.length_nil]; omega))
  | ((with_reducible apply z_aAug); exact rfl)
  | ((with_reducible apply z_kIsi); exact rfl)
  | ((with_reducible apply z_aGTup); exact rfl; exact rfl)
  | ((with_reducible apply z_raIxLo); assumption; exact rfl)
  | ((with_reducible apply z_raIxL); exact rfl; exact rfl)
  | ((with_reducible apply z_raIxT); exact rfl; exact rfl)
  | with_reducible refine z_raLen lenA_l ?_
  | with_reducible refine z_raLen lenA_t ?_
  | ((with_reducible apply z_raLenO); assumption))
local macro_rules | `(tactic| walk_at "zr") => `(tactic| repeat (walk_at "z"))

/-! ### _law_name(state): slots 0 state, 1 first, 2 other, 3 number, 4 name, 5 tail -/
abbrev s__law_name : Stmt := top 15
abbrev N__law_name : List Str := ["state", "first", "other", "number", "name", "tail"]
theorem sc__law_name : FnScope N__law_name ["state"] (defScope s__law_name) := ⟨rfl, rfl, rfl, by decide +kernel, rfl, by decide +kernel, by decide +kernel⟩
def b__law_name : AS := aSeq (aAsg (aC (.str "abcdefghijklmnopqrstuvwxyz")) (aName 1)) (aSeq (aAsg (aOp raAddS (aVar 1) (aC (.str "0123456789"))) (aName 2)) (aSeq (aAsg (aCall p__law_draw (aCons (aVar 0) (aCons (aC (.int 134784)) (aNil)))) (aName 3)) (aSeq (aAsg (aOp raIxS (aVar 1) (aOp (raI (fun _ j => 0 < j) fun i j => i % j) (aCB raInt (aCons (aOp (raI CDiv fun i j => i / j) (aVar 3) (aC (.int 4))) (aNil))) (aC (.int 26)))) (aName 4)) (aSeq (aAsg (aOp raAddS (aOp raAddS (aOp raIxS (aVar 2) (aOp (raI (fun _ j => 0 < j) fun i j => i % j) (aCB raInt (aCons (aOp (raI CDiv fun i j => i / j) (aVar 3) (aC (.int 104))) (aNil))) (aC (.int 36)))) (aOp raIxS (aVar 2) (aOp (raI (fun _ j => 0 < j) fun i j => i % j) (aCB raInt (aCons (aOp (raI CDiv fun i j => i / j) (aVar 3) (aC (.int 3744))) (aNil))) (aC (.int 36))))) (aOp raIxS (aVar 2) (aOp (raI (fun _ j => 0 < j) fun i j => i % j) (aCB raInt (aCons (aVar 3) (aNil))) (aC (.int 35))))) (aName 5)) (aCut (aIfS (aB (aOp (raEq false) (aCall p__law_draw (aCons (aVar 0) (aCons (aC (.int 9)) (aNil)))) (aC (.int 8)))) (aAsg (aSl raSlS (aOp raAddS (aVar 4) (aOp raMulS (aVar 5) (aC (.int 4)))) (aNoPart) (aPart (aOp (raI0 fun i j => i + j) (aC (.int 4)) (aCall p__law_draw (aCons (aVar 0) (aCons (aC (.int 9)) (aNil))))))) (aName 4)) (aAsg (aOp raAddS (aVar 4) (aSl raSlS (aVar 5) (aNoPart) (aPart (aOp (raI (fun _ j => 0 < j) fun i j => i % j) (aCB raInt (aCons (aVar 3) (aNil))) (aC (.int 4)))))) (aName 4))) (aCut (aIfS (aB (aOp (raIn false) (aVar 4) (aCB rLst (aCons (aC (.str "pact")) (aCons (aC (.str "end")) (aCons (aC (.str "choice")) (aCons (aC (.str "both")) (aCons (aC (.str "loop")) (aCons (aC (.str "use")) (aNil)))))))))) (aRet (aOp raAddS (aVar 4) (aC (.str "1")))) (aNext)) (aRet (aVar 4))))))))
abbrev lenT__law_name : Prop := ∀ ss ms Qa Ea, p__law_name ss ms Qa Ea → ss.length = 1
abbrev rdT__law_name : Prop := ∀ ss ms Qa Ea, Closed ms.length ms → p__law_name ss ms Qa Ea → b__law_name (fun _ _ _ => False) { nx := fun _ ms' => Fin ms.length Qa (.d .none) ms', rt := Fin ms.length Qa } (startA 6 ss) ms
/-! ### the readings of the law's defs -/
theorem z_addT {x y : Str} {l m : List Nat} {P : SV → ME → Prop} {ms : ME} (hx : tl x = l) (hy : tl y = m) (h : l.length + m.length ≤ 10000) (hp : P (.d (.str (mk (l ++ m)))) ms) : raAddS (.d (.str x)) (.d (.str y)) ms P := by
  have e : x ++ y = mk (l ++ m) := ext_tl (by rw [tl_append, hx, hy])
  refine z_raAddS ?_ ?_
  · rw [len_tl, len_tl, hx, hy]
    exact Nat.le_trans h (by decide)
  · rw [e]; exact hp
theorem ix_const {z : Str} {P : Nat → Bool} (h : (tl z).all P = true) {r : Int} (h0 : 0 ≤ r) (h1 : r.toNat < (tl z).length) : ∃ n, atI z.cps.toList r = some n ∧ P n = true :=
  ⟨(tl z)[r.toNat], atI_of h0 (List.getElem?_eq_getElem h1), List.all_eq_true.mp h _ (List.getElem_mem h1)⟩
def nameB (l : List Nat) : Bool := decide (l.length ≤ 12) && ((match l with
  | [] => false
  | c :: _ => decide (97 ≤ c) && decide (c ≤ 122)) && (l.all sgN && !wordsL.contains l))
theorem NameL.of {l : List Nat} (h : nameB l = true) : NameL l := by
  unfold nameB at h
  simp only [Bool.and_eq_true, decide_eq_true_eq, List.all_eq_true, Bool.not_eq_true'] at h
  obtain ⟨h1, h2, h3, h4⟩ := h
  refine ⟨h1, ?_, h3, fun m => ?_⟩
  · cases l with
    | nil => cases h2
    | cons c r =>
      simp only [Bool.and_eq_true, decide_eq_true_eq] at h2
      exact ⟨c, r, rfl, h2⟩
  · rw [List.contains_iff_mem.mpr m] at h4
    cases h4
structure Name0 (l : List Nat) : Prop where
  len : l.length ≤ 12
  hd : ∃ c r, l = c :: r ∧ 97 ≤ c ∧ c ≤ 122
  sg : ∀ c ∈ l, sgN c = true
theorem words1 : ∀ w ∈ wordsL, nameB (w ++ [49]) = true := by decide +kernel
def wordsS : List Str := ["pact", "end", "choice", "both", "loop", "use"]
theorem wordsS_tl : wordsS.map tl = wordsL := by decide +kernel
theorem len__law_name : lenT__law_name := by
  rintro ss ms Qa Ea ⟨k, rfl, _⟩; rfl
def lowB (c : Nat) : Bool := decide (97 ≤ c) && decide (c ≤ 122)
theorem lowB_sgN {c : Nat} (h : lowB c = true) : sgN c = true := by
  unfold sgN
  unfold lowB at h
  rw [h, Bool.or_true]
def NmMid (k : Nat) (ms0 : ME) (dl : SL) (ms : ME) : Prop := ∃ l s1 s2 s3 s5, dl = [some (.o k), s1, s2, s3, some (.d (.str (mk l))), s5] ∧ Name0 l ∧ StL k ms0 ms
theorem rd__law_name : rdT__law_name := by
  rintro ss ms Qa Ea c ⟨k, rfl, sa, q⟩
  unfold b__law_name
  walk_at "zr"
  refine z_raAddS (by decide +kernel) ?_
  walk_at "zr"
  refine ⟨k, _, rfl, sa, by decide, by decide, fun r ms1 r0 r1 sl1 => ?_⟩
  have c1 := sl1.closed c
  have sa1 := sl1.at sa
  walk_at "zr"
  refine z_raI ⟨by decide, by decide⟩ ?_
  walk_at "zr"
  refine z_raI (by decide) ?_
  walk_at "zr"
  obtain ⟨n0, g0, p0⟩ := ix_const (z := "abcdefghijklmnopqrstuvwxyz") (P := lowB) (by decide +kernel) (r := r / 4 % 26) (by omega) (by
    rw [show (tl ("abcdefghijklmnopqrstuvwxyz" : Str)).length = 26 by decide +kernel]; omega)
  refine z_raIxS (by decide +kernel) g0 ?_
  walk_at "zr"
  refine z_raI ⟨by decide, by decide⟩ ?_
  walk_at "zr"
  refine z_raI (by decide) ?_
  walk_at "zr"
  have ol : (tl (("abcdefghijklmnopqrstuvwxyz" : Str) ++ "0123456789")).length = 36 := by decide +kernel
  have oa : (tl (("abcdefghijklmnopqrstuvwxyz" : Str) ++ "0123456789")).all sgN = true := by decide +kernel
  obtain ⟨n1, g1, p1⟩ := ix_const oa (r := r / 104 % 36) (by omega) (by rw [ol]; omega)
  refine z_raIxS (by decide +kernel) g1 ?_
  walk_at "zr"
  refine z_raI ⟨by decide, by decide⟩ ?_
  walk_at "zr"
  refine z_raI (by decide) ?_
  walk_at "zr"
  obtain ⟨n2, g2, p2⟩ := ix_const oa (r := r / 3744 % 36) (by omega) (by rw [ol]; omega)
  refine z_raIxS (by decide +kernel) g2 ?_
  walk_at "zr"
  refine z_addT (l := [n1]) (m := [n2]) rfl rfl (by show 2 ≤ 10000; decide) ?_
  walk_at "zr"
  refine z_raI (by decide) ?_
  walk_at "zr"
  obtain ⟨n3, g3, p3⟩ := ix_const oa (r := r % 35) (by omega) (by rw [ol]; omega)
  refine z_raIxS (by decide +kernel) g3 ?_
  walk_at "zr"
  refine z_addT (l := [n1, n2]) (m := [n3]) rfl rfl (by show 3 ≤ 10000; decide) ?_
  walk_at "zr"
  have al : ∀ c ∈ [n1, n2, n3], sgN c = true := by
    intro c hc
    simp only [List.mem_cons, List.not_mem_nil, or_false] at hc
    rcases hc with rfl | rfl | rfl <;> assumption
  have mkName : ∀ m : List Nat, m.length ≤ 11 → (∀ c ∈ m, sgN c = true) → Name0 (n0 :: m) := by
    intro m hm ha
    have p0' := p0
    unfold lowB at p0'
    simp only [Bool.and_eq_true, decide_eq_true_eq] at p0'
    refine ⟨by rw [List.length_cons]; omega, ⟨n0, m, rfl, p0'⟩, fun c hc => ?_⟩
    rcases List.mem_cons.mp hc with g | g
    · rw [g]; exact lowB_sgN p0
    · exact ha c g
  refine z_cutM (NmMid k ms) ?_ ?_
  · walk_at "zr"
    refine ⟨k, _, rfl, sa1, by decide, by decide, fun r2 ms2 r20 r21 sl2 => ?_⟩
    have sl2 := sl1.trans sl2
    walk_at "zr"
    refine z_if (fun hb => ?_) (fun hb => ?_)
    · walk_at "zr"
      refine ⟨mk [n1, n2, n3], 4, rfl, rfl, by decide, by decide, by show 1 ≤ 3; decide, by show 3 ≤ 1000; decide, ?_⟩
      walk_at "zr"
      have rt : tl (repS (mk [n1, n2, n3]) (4 : Int).toNat) = [n1, n2, n3, n1, n2, n3, n1, n2, n3, n1, n2, n3] := repS_toList _ _
      refine z_addT (l := [n0]) rfl rt (by show 13 ≤ 10000; decide) ?_
      walk_at "zr"
      refine ⟨k, _, rfl, sl2.at sa, by decide, by decide, fun r3 ms3 r30 r31 sl3 => ?_⟩
      have sl3 := sl2.trans sl3
      walk_at "zr"
      refine ⟨_, rfl, by show 13 ≤ sizeLine; decide, ?_⟩
      walk_at "zr"
      obtain ⟨j, rfl⟩ : ∃ j : Nat, r3 = j := ⟨r3.toNat, by omega⟩
      have ej : (4 + (j : Int)) = ((3 + j + 1 : Nat) : Int) := by omega
      have e : cutS (mk ([n0] ++ [n1, n2, n3, n1, n2, n3, n1, n2, n3, n1, n2, n3])) none (some (4 + (j : Int))) = mk (n0 :: ([n1, n2, n3, n1, n2, n3, n1, n2, n3, n1, n2, n3].take (3 + j))) := by
        rw [ej]
        exact ext_tl (cut_hi _ _)
      rw [e]
      refine ⟨_, _, _, _, _, rfl, mkName _ ?_ ?_, sl3⟩
      · rw [List.length_take]; omega
      · intro c hc
        have := List.mem_of_mem_take hc
        refine al c ?_
        simp only [List.mem_cons, List.not_mem_nil, or_false] at this ⊢
        omega
    · walk_at "zr"
      refine z_raI (by decide) ?_
      walk_at "zr"
      refine ⟨_, rfl, by show 3 ≤ sizeLine; decide, ?_⟩
      walk_at "zr"
      obtain ⟨j, ej⟩ : ∃ j : Nat, r % 4 = j := ⟨(r % 4).toNat, by omega⟩
      rw [ej]
      refine z_addT (l := [n0]) rfl (cut_hi _ j) (by rw [List.length_take]; show 1 + min j 3 ≤ 10000; omega) ?_
      walk_at "zr"
      refine ⟨_, _, _, _, _, rfl, mkName (([n1, n2, n3] : List Nat).take j) ?_ ?_, sl2⟩
      · rw [List.length_take]; show min j 3 ≤ 11; omega
      · intro c hc
        exact al c (List.mem_of_mem_take hc)
  · rintro dl ms' ⟨l, s1, s2, s3, s5, rfl, nm, sl⟩
    have c' := sl.closed c
    walk_at "zr"
    refine z_cut ?_
    walk_at "zr"
    refine ⟨_, wordsS.map PyData.str, rfl, allD_of _, rfl, flat_strs _, ?_⟩
    rw [inF_strs, wordsS_tl]
    walk_at "zr"
    refine z_if (fun hb => ?_) (fun hb => ?_)
    · walk_at "zr"
      refine z_addT (m := [49]) rfl (by decide +kernel) (by have := nm.len; rw [tl_mk]; show l.length + 1 ≤ 10000; omega) ?_
      walk_at "zr"
      have hb : wordsL.contains l = true := hb
      exact sl.fin c (q _ _ (NameL.of (words1 l (List.contains_iff_mem.mp hb))) sl)
    · walk_at "zr"
      have hb : wordsL.contains l = false := hb
      exact sl.fin c (q _ _ ⟨nm.len, nm.hd, nm.sg, fun m => by rw [List.contains_iff_mem.mpr m] at hb; cases hb⟩ sl)

end Lw

namespace Lw
open PySem PySem.Spec PyProof.Rows L2 Z TL
/-- one step -/
local macro_rules | `(tactic| walk_at "z") => `(tactic| first
  | ((with_reducible apply z_aVar); exact rfl)
  | with_reducible refine z_nx ?_
  | with_reducible refine z_kSeq ?_
  | with_reducible refine z_aSeq ?_
  | with_reducible refine z_aC ?_
  | with_reducible refine z_kOp2 ?_
  | with_reducible refine z_kOp1 ?_
  | with_reducible refine z_aOp ?_
  | with_reducible refine z_aB ?_
  | with_reducible refine z_kNot ?_
  | with_reducible refine z_aAnd ?_
  | with_reducible refine z_aOr ?_
  | with_reducible refine z_aNot ?_
  | with_reducible refine z_aAndV ?_
  | with_reducible refine z_aOrV ?_
  | with_reducible refine z_aNotV ?_
  | with_reducible refine z_aIf ?_
  | with_reducible refine z_aNil ?_
  | with_reducible refine z_kCons2 ?_
  | with_reducible refine z_kCons1 ?_
  | with_reducible refine z_aCons ?_
  | with_reducible refine z_kCB ?_
  | with_reducible refine z_aCB ?_
  | with_reducible refine z_aCall ?_
  | with_reducible refine z_aCallX ?_
  | with_reducible refine z_aBM0 ?_
  | with_reducible refine z_kBM2 ?_
  | with_reducible refine z_aBM ?_
  | with_reducible refine z_aName ?_
  | with_reducible refine z_kG ?_
  | with_reducible refine z_aNext ?_
  | with_reducible refine z_kDrop ?_
  | with_reducible refine z_aDrop ?_
  | with_reducible refine z_aRet ?_
  | with_reducible refine z_aRetN ?_
  | with_reducible refine z_aIfS ?_
  | with_reducible refine z_kAsg ?_
  | with_reducible refine z_aAsg ?_
  | with_reducible refine z_aBrk ?_
  | with_reducible refine z_aCont ?_
  | with_reducible refine z_aNever ?_
  | with_reducible refine z_aPar ?_
  | with_reducible refine z_kAug2 ?_
  | with_reducible refine z_kAug ?_
  | with_reducible refine z_aIL ?_
  | with_reducible refine z_aIT ?_
  | with_reducible refine z_aIR1 ?_
  | with_reducible refine z_aIR2 ?_
  | with_reducible refine z_aIS ?_
  | with_reducible refine z_aYes ?_
  | with_reducible refine z_aNoPart ?_
  | with_reducible refine z_aPart ?_
  | with_reducible refine z_kSl3 ?_
  | with_reducible refine z_kSl2 ?_
  | with_reducible refine z_kSl1 ?_
  | with_reducible refine z_aSl ?_
  | with_reducible refine z_aIsi ?_
  | with_reducible refine z_kSet2 ?_
  | with_reducible refine z_kSet1 ?_
  | with_reducible refine z_aSetL ?_
  | with_reducible refine z_aXT ?_
  | with_reducible refine z_aFrz ?_
  | with_reducible refine z_aUn ?_
  | with_reducible refine z_aTru ?_
  | with_reducible refine z_rt ?_
  | with_reducible refine z_bk ?_
  | with_reducible refine z_ct ?_
  | with_reducible refine z_kB ?_
  | with_reducible refine z_kNotV ?_
  | with_reducible refine z_ifT ?_
  | with_reducible refine z_ifF ?_
  | with_reducible refine z_ifeT ?_
  | with_reducible refine z_ifeF ?_
  | with_reducible refine z_andT ?_
  | with_reducible refine z_andF ?_
  | with_reducible refine z_orT ?_
  | with_reducible refine z_orF ?_
  | with_reducible refine z_raI0 ?_
  | with_reducible refine z_raB0 ?_
  | with_reducible refine z_raInt ?_
  | with_reducible refine z_raIntB ?_
  | with_reducible refine z_raOrd ?_
  | with_reducible refine z_raEqI ?_
  | with_reducible refine z_raNeI ?_
  | with_reducible refine z_raEqS ?_
  | with_reducible refine z_raNeS ?_
  | with_reducible refine z_raIsN ?_
  | with_reducible refine z_raNotN ?_
  | with_reducible refine z_kPart ?_
  | with_reducible refine z_kUn ?_
  | with_reducible refine z_kPar ?_
  | with_reducible refine z_ipAdd ?_
  | with_reducible refine z_ipSub ?_
  | with_reducible refine z_kCall ?_
  | with_reducible refine z_kCallX ?_
  | with_reducible refine z_aFor ?_
  | with_reducible refine z_kBody ?_
  | with_reducible refine z_aLc ?_
  | with_reducible refine z_kTurn ?_
  | with_reducible refine z_testT ?_
  | with_reducible refine z_kElt ?_
  | with_reducible refine z_kIS ?_
  | with_reducible refine z_finO ?_
  | with_reducible refine z_aGCons ?_
  | with_reducible refine z_aGNil ?_
  | ((with_reducible apply z_rTup); exact rfl; exact Evl.sz_of (by simp only [List.length_cons, List.length_nil]; omega))
  | ((with_reducible apply z_rLst); exact rfl; exact Evl.sz_of (by simp only [List.length_cons, List.length_nil]; omega))
  | ((with_reducible apply z_aAug); exact rfl)
  | ((with_reducible apply z_kIsi); exact rfl)
  | ((with_reducible apply z_aGTup); exact rfl; exact rfl)
  | ((with_reducible apply z_raIxLo); assumption; exact rfl)
  | ((with_reducible apply z_raIxL); exact rfl; exact rfl)
  | ((with_reducible apply z_raIxT); exact rfl; exact rfl)
  | with_reducible refine z_raLen lenA_l ?_
  | with_reducible refine z_raLen lenA_t ?_
  | ((with_reducible apply z_raLenO); assumption))
local macro_rules | `(tactic| walk_at "zr") => `(tactic| repeat (walk_at "z"))

/-! ### _law_reads(text, due): slots 0 text, 1 due, 2 told, 3 one -/
abbrev s__law_reads : Stmt := top 21
abbrev N__law_reads : List Str := ["text", "due", "told", "one"]
theorem sc__law_reads : FnScope N__law_reads ["text", "due"] (defScope s__law_reads) := ⟨rfl, rfl, rfl, by decide +kernel, rfl, by decide +kernel, by decide +kernel⟩
def b__law_reads : AS := aSeq (aAsg (aCall p_read_records (aCons (aVar 0) (aNil))) (aName 2)) (aCut (aIfS (aOr (aNot (aB (aIsi "list" (aVar 2)))) (aB (aOp (raEqD true) (aVar 2) (aVar 1)))) (aRet (aC (.bool false))) (aNext)) (aRet (aOp (raEq false) (aCB raLen (aCons (aLc finD (aIL (aVar 2)) (aName 3) (aOr (aNot (aB (aIsi "int" (aOp raIxT (aVar 3) (aC (.int 3)))))) (aB (aIsi "bool" (aOp raIxT (aVar 3) (aC (.int 3)))))) (aVar 3) [3]) (aNil))) (aC (.int 0)))))
abbrev lenT__law_reads : Prop := ∀ ss ms Qa Ea, p__law_reads ss ms Qa Ea → ss.length = 2
abbrev rdT__law_reads : Prop := ∀ ss ms Qa Ea, Closed ms.length ms → p__law_reads ss ms Qa Ea → b__law_reads (fun _ _ _ => False) { nx := fun _ ms' => Fin ms.length Qa (.d .none) ms', rt := Fin ms.length Qa } (startA 4 ss) ms
/-! ### _law_record(state): slots 0 state, 1 kind, 2 other, 3 label, 4 number -/
abbrev s__law_record : Stmt := top 18
abbrev N__law_record : List Str := ["state", "kind", "other", "label", "number"]
theorem sc__law_record : FnScope N__law_record ["state"] (defScope s__law_record) := ⟨rfl, rfl, rfl, by decide +kernel, rfl, by decide +kernel, by decide +kernel⟩
def b__law_record : AS := aSeq (aAsg (aOp raIxS (aC (.str "pkgtranyxwz")) (aCall p__law_draw (aCons (aVar 0) (aCons (aC (.int 11)) (aNil))))) (aName 1)) (aSeq (aAsg (aCall p__law_name (aCons (aVar 0) (aNil))) (aName 2)) (aSeq (aAsg (aCall p__law_name (aCons (aVar 0) (aNil))) (aName 3)) (aCut (aIfS (aB (aOp (raEq false) (aCall p__law_draw (aCons (aVar 0) (aCons (aC (.int 3)) (aNil)))) (aC (.int 2)))) (aAsg (aOp raIxL (aCB rLst (aCons (aC (.str ".")) (aCons (aOp raAddS (aOp raAddS (aVar 3) (aC (.str "."))) (aVar 2)) (aNil)))) (aCall p__law_draw (aCons (aVar 0) (aCons (aC (.int 2)) (aNil))))) (aName 3)) (aNext)) (aSeq (aAsg (aOp (raI0 fun i j => i + j) (aC (.int 1)) (aCall p__law_draw (aCons (aVar 0) (aCons (aOp raIxL (aCB rLst (aCons (aC (.int 9)) (aCons (aC (.int 999999999)) (aNil)))) (aCall p__law_draw (aCons (aVar 0) (aCons (aC (.int 2)) (aNil))))) (aNil))))) (aName 4)) (aRet (aCB rTup (aCons (aVar 1) (aCons (aVar 2) (aCons (aVar 3) (aCons (aVar 4) (aNil)))))))))))
abbrev lenT__law_record : Prop := ∀ ss ms Qa Ea, p__law_record ss ms Qa Ea → ss.length = 1
abbrev rdT__law_record : Prop := ∀ ss ms Qa Ea, Closed ms.length ms → p__law_record ss ms Qa Ea → b__law_record (fun _ _ _ => False) { nx := fun _ ms' => Fin ms.length Qa (.d .none) ms', rt := Fin ms.length Qa } (startA 5 ss) ms
/-! ### _law_text(entry): slots 0 entry, 1 text -/
abbrev s__law_text : Stmt := top 19
abbrev N__law_text : List Str := ["entry", "text"]
theorem sc__law_text : FnScope N__law_text ["entry"] (defScope s__law_text) := ⟨rfl, rfl, rfl, by decide +kernel, rfl, by decide +kernel, by decide +kernel⟩
def b__law_text : AS := aSeq (aAsg (aOp raAddS (aOp raAddS (aOp raAddS (aOp raAddS (aOp raAddS (aOp raAddS (aOp raAddS (aOp raIxT (aVar 0) (aC (.int 0))) (aC (.str " "))) (aOp raIxT (aVar 0) (aC (.int 1)))) (aC (.str " "))) (aOp raIxT (aVar 0) (aC (.int 2)))) (aC (.str " "))) (aCB raStr (aCons (aOp raIxT (aVar 0) (aC (.int 3))) (aNil)))) (aC (.str " "))) (aName 1)) (aRet (aOp raAddS (aOp raAddS (aVar 1) (aCB raStr (aCons (aCall p__law_sum (aCons (aVar 1) (aNil))) (aNil)))) (aC (.str "\n"))))
abbrev lenT__law_text : Prop := ∀ ss ms Qa Ea, p__law_text ss ms Qa Ea → ss.length = 1
abbrev rdT__law_text : Prop := ∀ ss ms Qa Ea, Closed ms.length ms → p__law_text ss ms Qa Ea → b__law_text (fun _ _ _ => False) { nx := fun _ ms' => Fin ms.length Qa (.d .none) ms', rt := Fin ms.length Qa } (startA 2 ss) ms
/-! ### record(kind, other, label, number): slots 0 kind, 1 other, 2 label, 3 number, 4 text -/
abbrev s_record : Stmt := top 8
abbrev N_record : List Str := ["kind", "other", "label", "number", "text"]
theorem sc_record : FnScope N_record ["kind", "other", "label", "number"] (defScope s_record) := ⟨rfl, rfl, rfl, by decide +kernel, rfl, by decide +kernel, by decide +kernel⟩
def b_record : AS := aSeq (aAsg (aOp raAddS (aOp raAddS (aOp raAddS (aOp raAddS (aOp raAddS (aOp raAddS (aOp raAddS (aVar 0) (aC (.str " "))) (aVar 1)) (aC (.str " "))) (aVar 2)) (aC (.str " "))) (aCB raStr (aCons (aVar 3) (aNil)))) (aC (.str " "))) (aName 4)) (aRet (aOp raAddS (aOp raAddS (aVar 4) (aCB raStr (aCons (aCall p_sum_of (aCons (aVar 4) (aNil))) (aNil)))) (aC (.str "\n"))))
abbrev lenT_record : Prop := ∀ ss ms Qa Ea, p_record ss ms Qa Ea → ss.length = 4
abbrev rdT_record : Prop := ∀ ss ms Qa Ea, Closed ms.length ms → p_record ss ms Qa Ea → b_record (fun _ _ _ => False) { nx := fun _ ms' => Fin ms.length Qa (.d .none) ms', rt := Fin ms.length Qa } (startA 5 ss) ms
/-! ### _law_whole(texts, length): slots 0 texts, 1 length, 2 count, 3 size, 4 text -/
abbrev s__law_whole : Stmt := top 20
abbrev N__law_whole : List Str := ["texts", "length", "count", "size", "text"]
theorem sc__law_whole : FnScope N__law_whole ["texts", "length"] (defScope s__law_whole) := ⟨rfl, rfl, rfl, by decide +kernel, rfl, by decide +kernel, by decide +kernel⟩
def f__law_whole_0 : AS := aSeq (aAsg (aOp (raI0 fun i j => i + j) (aVar 3) (aCB raLen (aCons (aVar 4) (aNil)))) (aName 3)) (aIfS (aB (aOp (raB0 fun i j => decide (i ≤ j)) (aVar 3) (aVar 1))) (aAsg (aOp (raI0 fun i j => i + j) (aVar 2) (aC (.int 1))) (aName 2)) (aNext))
def b__law_whole : AS := aSeq (aAsg (aC (.int 0)) (aName 2)) (aSeq (aAsg (aC (.int 0)) (aName 3)) (aSeq (aFor (aIL (aVar 0)) (aName 4) (f__law_whole_0)) (aRet (aVar 2))))
abbrev lenT__law_whole : Prop := ∀ ss ms Qa Ea, p__law_whole ss ms Qa Ea → ss.length = 2
abbrev rdT__law_whole : Prop := ∀ ss ms Qa Ea, Closed ms.length ms → p__law_whole ss ms Qa Ea → b__law_whole (fun _ _ _ => False) { nx := fun _ ms' => Fin ms.length Qa (.d .none) ms', rt := Fin ms.length Qa } (startA 5 ss) ms
theorem NameL.ne {l : List Nat} (h : NameL l) : l ≠ [] := by
  obtain ⟨c, r, rfl, _⟩ := h.hd
  exact List.cons_ne_nil _ _
theorem sgN_sg {l : List Nat} (h : ∀ c ∈ l, sgN c = true) : ∀ c ∈ l, sg c = true := by
  intro c hc
  have := h c hc
  unfold sgN at this
  unfold sg
  simp only [Bool.or_eq_true] at this ⊢
  rcases this with g | g
  · exact .inl g
  · exact .inr (.inl g)
theorem len__law_record : lenT__law_record := by
  rintro ss ms Qa Ea ⟨k, rfl, _⟩; rfl
structure LabOk (l : List Nat) : Prop where
  l0 : l ≠ []
  l1 : ∀ c ∈ l, sg c = true
  l2 : l.length ≤ 27
theorem dot_tl : tl ("." : Str) = [46] := by decide +kernel
def kdB (c : Nat) : Bool := kinds.contains [c]
def LbMid (k : Nat) (kd ot : SV) (ms0 : ME) (dl : SL) (ms : ME) : Prop := ∃ l, dl = [some (.o k), some kd, some ot, some (.d (.str (mk l))), none] ∧ LabOk l ∧ StL k ms0 ms
theorem rd__law_record : rdT__law_record := by
  rintro ss ms Qa Ea c ⟨k, rfl, sa, q⟩
  unfold b__law_record
  walk_at "zr"
  refine ⟨k, _, rfl, sa, by decide, by decide, fun r ms1 r0 r1 sl1 => ?_⟩
  walk_at "zr"
  obtain ⟨kd, g0, p0⟩ := ix_const (z := "pkgtranyxwz") (P := kdB) (by decide +kernel) (r := r) r0 (by
    rw [show (tl ("pkgtranyxwz" : Str)).length = 11 by decide +kernel]; omega)
  refine z_raIxS (by decide +kernel) g0 ?_
  walk_at "zr"
  refine ⟨k, rfl, sl1.at sa, fun ot ms2 hot sl2 => ?_⟩
  have sl2 := sl1.trans sl2
  walk_at "zr"
  refine ⟨k, rfl, sl2.at sa, fun lb ms3 hlb sl3 => ?_⟩
  have sl3 := sl2.trans sl3
  walk_at "zr"
  refine z_cutM (LbMid k (.d (.str ⟨#[kd]⟩)) (.d (.str (mk ot))) ms) ?_ ?_
  · walk_at "zr"
    refine ⟨k, _, rfl, sl3.at sa, by decide, by decide, fun r2 ms4 r20 r21 sl4 => ?_⟩
    have sl4 := sl3.trans sl4
    walk_at "zr"
    refine z_if (fun hb => ?_) (fun hb => ?_)
    · walk_at "zr"
      have h1 := hlb.len
      have h2 := hot.len
      refine z_addT (l := lb) rfl dot_tl (by show lb.length + 1 ≤ 10000; omega) ?_
      walk_at "zr"
      refine z_addT (l := lb ++ [46]) (m := ot) rfl rfl (by rw [List.length_append]; show lb.length + 1 + _ ≤ 10000; omega) ?_
      walk_at "zr"
      refine ⟨k, _, rfl, sl4.at sa, by decide, by decide, fun r3 ms5 r30 r31 sl5 => ?_⟩
      have sl5 := sl4.trans sl5
      have : r3 = 0 ∨ r3 = 1 := by omega
      rcases this with rfl | rfl
      · walk_at "zr"
        exact ⟨[46], rfl, ⟨by decide, by decide, by decide⟩, sl5⟩
      · walk_at "zr"
        refine ⟨lb ++ [46] ++ ot, rfl, ⟨?_, ?_, ?_⟩, sl5⟩
        · simp
        · intro c hc
          simp only [List.mem_append, List.mem_singleton] at hc
          rcases hc with (g | g) | g
          · exact sgN_sg hlb.sg c g
          · rw [g]; decide
          · exact sgN_sg hot.sg c g
        · simp only [List.length_append, List.length_cons, List.length_nil]; omega
    · walk_at "zr"
      refine ⟨lb, rfl, ⟨hlb.ne, sgN_sg hlb.sg, by have := hlb.len; omega⟩, sl4⟩
  · rintro dl' ms4 ⟨lab, rfl, lok, sl4⟩
    walk_at "zr"
    refine ⟨k, _, rfl, sl4.at sa, by decide, by decide, fun r3 ms5 r30 r31 sl5 => ?_⟩
    have sl5 := sl4.trans sl5
    have fin : ∀ (lim r4 : Int) ms6, 0 ≤ r4 → r4 < lim → lim ≤ 999999999 → StL k ms ms6 → Fin ms.length Qa (.d (.tuple [.str ⟨#[kd]⟩, .str (mk ot), .str (mk lab), .int (1 + r4)])) ms6 := by
      intro lim r4 ms6 h0 h1 h2 sl6
      obtain ⟨n, rfl⟩ : ∃ n : Nat, r4 = n := ⟨r4.toNat, by omega⟩
      have e : (1 + (n : Int)) = ((n + 1 : Nat) : Int) := by omega
      rw [e]
      refine sl6.fin c (q ⟨[kd], ot, lab, n + 1⟩ _ ⟨?_, hot.ne, sgN_sg hot.sg, by have := hot.len; show ot.length ≤ 13; omega, lok.l0, lok.l1, lok.l2, by show 1 ≤ n + 1; omega, by show n + 1 ≤ 999999999; omega⟩ sl6)
      unfold kdB at p0
      exact List.contains_iff_mem.mp p0
    have : r3 = 0 ∨ r3 = 1 := by omega
    rcases this with rfl | rfl
    · walk_at "zr"
      refine ⟨k, _, rfl, sl5.at sa, by decide, by decide, fun r4 ms6 r40 r41 sl6 => ?_⟩
      have sl6 := sl5.trans sl6
      walk_at "zr"
      exact fin 9 r4 ms6 r40 r41 (by decide) sl6
    · walk_at "zr"
      refine ⟨k, _, rfl, sl5.at sa, by decide, by decide, fun r4 ms6 r40 r41 sl6 => ?_⟩
      have sl6 := sl5.trans sl6
      walk_at "zr"
      exact fin 999999999 r4 ms6 r40 r41 (by decide) sl6
theorem len_record : lenT_record := by
  rintro ss ms Qa Ea ⟨e, rfl, _⟩; rfl
theorem len__law_text : lenT__law_text := by
  rintro ss ms Qa Ea ⟨e, rfl, _⟩; rfl
theorem num_len {e : Ent} (h : EntOk e) : (numL e.num).length ≤ 9 := numL_len (by decide) (by have := h.n1; omega)
theorem sum_len (l : List Nat) : (numL (sumL l)).length ≤ 4 := numL_len (by decide) (by have := sumL_lt l; omega)
theorem textL_le {e : Ent} (h : EntOk e) : (textL e).length ≤ 100 := by
  have h1 := kind_len _ h.kind
  have h2 := num_len h
  have h3 := sum_len (preL e ++ [32])
  have h4 := h.o2
  have h5 := h.l2
  unfold textL lineL
  generalize numL (sumL (preL e ++ [32])) = z at h3
  unfold preL
  simp only [List.length_append, List.length_cons, List.length_nil]
  omega
theorem textL_eq (e : Ent) : textL e = ((((((((e.kind ++ [32]) ++ e.other) ++ [32]) ++ e.label) ++ [32]) ++ numL e.num) ++ [32]) ++ numL (sumL (((((((e.kind ++ [32]) ++ e.other) ++ [32]) ++ e.label) ++ [32]) ++ numL e.num) ++ [32]))) ++ [10] := by
  have : (((((((e.kind ++ [32]) ++ e.other) ++ [32]) ++ e.label) ++ [32]) ++ numL e.num) ++ [32]) = preL e ++ [32] := by simp [preL]
  rw [this]
  simp [textL, lineL]
theorem log_num {n : Nat} (h : n ≤ 999999999) : ((n : Int)).natAbs.log2 < 1920 := Nat.lt_of_lt_of_le (PySem.Flt.log2_lt_of (k := 64) (by decide) (by omega)) (by decide)
theorem rd_record : rdT_record := by
  rintro ss ms Qa Ea c ⟨e, rfl, h, q⟩
  have h1 := kind_len _ h.kind
  have h2 := num_len h
  have h4 := h.o2
  have h5 := h.l2
  unfold b_record
  walk_at "zr"
  refine z_addT rfl sp_tl (by simp only [tl_mk, List.length_append, List.length_cons, List.length_nil]; omega) ?_
  walk_at "zr"
  refine z_addT rfl rfl (by simp only [tl_mk, List.length_append, List.length_cons, List.length_nil]; omega) ?_
  walk_at "zr"
  refine z_addT rfl sp_tl (by simp only [tl_mk, List.length_append, List.length_cons, List.length_nil]; omega) ?_
  walk_at "zr"
  refine z_addT rfl rfl (by simp only [tl_mk, List.length_append, List.length_cons, List.length_nil]; omega) ?_
  walk_at "zr"
  refine z_addT rfl sp_tl (by simp only [tl_mk, List.length_append, List.length_cons, List.length_nil]; omega) ?_
  walk_at "zr"
  refine z_raStr (log_num h.n1) ?_
  walk_at "zr"
  refine z_addT rfl (str_num _) (by simp only [tl_mk, List.length_append, List.length_cons, List.length_nil]; omega) ?_
  walk_at "zr"
  refine z_addT rfl sp_tl (by simp only [tl_mk, List.length_append, List.length_cons, List.length_nil]; omega) ?_
  walk_at "zr"
  refine ⟨_, rfl, ?_⟩
  walk_at "zr"
  have h6 := fun l => sumL_lt l
  refine z_raStr (log_num (by have := h6 (tl (mk (((((((e.kind ++ [32]) ++ e.other) ++ [32]) ++ e.label) ++ [32]) ++ numL e.num) ++ [32]))); simp only [tl_mk] at this ⊢; omega)) ?_
  walk_at "zr"
  refine z_addT rfl (str_num _) (by have := sum_len (((((((e.kind ++ [32]) ++ e.other) ++ [32]) ++ e.label) ++ [32]) ++ numL e.num) ++ [32]); simp only [tl_mk, List.length_append, List.length_cons, List.length_nil] at this ⊢; omega) ?_
  walk_at "zr"
  refine z_addT rfl nl_tl (by have := sum_len (((((((e.kind ++ [32]) ++ e.other) ++ [32]) ++ e.label) ++ [32]) ++ numL e.num) ++ [32]); simp only [tl_mk, List.length_append, List.length_cons, List.length_nil] at this ⊢; omega) ?_
  walk_at "zr"
  rw [textL_eq] at q
  exact fin_d c q
theorem rd__law_text : rdT__law_text := by
  rintro ss ms Qa Ea c ⟨e, rfl, h, q⟩
  have h1 := kind_len _ h.kind
  have h2 := num_len h
  have h4 := h.o2
  have h5 := h.l2
  unfold b__law_text entD
  walk_at "zr"
  refine z_addT rfl sp_tl (by simp only [tl_mk, List.length_append, List.length_cons, List.length_nil]; omega) ?_
  walk_at "zr"
  refine z_addT rfl rfl (by simp only [tl_mk, List.length_append, List.length_cons, List.length_nil]; omega) ?_
  walk_at "zr"
  refine z_addT rfl sp_tl (by simp only [tl_mk, List.length_append, List.length_cons, List.length_nil]; omega) ?_
  walk_at "zr"
  refine z_addT rfl rfl (by simp only [tl_mk, List.length_append, List.length_cons, List.length_nil]; omega) ?_
  walk_at "zr"
  refine z_addT rfl sp_tl (by simp only [tl_mk, List.length_append, List.length_cons, List.length_nil]; omega) ?_
  walk_at "zr"
  refine z_raStr (log_num h.n1) ?_
  walk_at "zr"
  refine z_addT rfl (str_num _) (by simp only [tl_mk, List.length_append, List.length_cons, List.length_nil]; omega) ?_
  walk_at "zr"
  refine z_addT rfl sp_tl (by simp only [tl_mk, List.length_append, List.length_cons, List.length_nil]; omega) ?_
  walk_at "zr"
  refine ⟨_, rfl, ?_⟩
  walk_at "zr"
  have h6 := fun l => sumL_lt l
  refine z_raStr (log_num (by have := h6 (tl (mk (((((((e.kind ++ [32]) ++ e.other) ++ [32]) ++ e.label) ++ [32]) ++ numL e.num) ++ [32]))); simp only [tl_mk] at this ⊢; omega)) ?_
  walk_at "zr"
  refine z_addT rfl (str_num _) (by have := sum_len (((((((e.kind ++ [32]) ++ e.other) ++ [32]) ++ e.label) ++ [32]) ++ numL e.num) ++ [32]); simp only [tl_mk, List.length_append, List.length_cons, List.length_nil] at this ⊢; omega) ?_
  walk_at "zr"
  refine z_addT rfl nl_tl (by have := sum_len (((((((e.kind ++ [32]) ++ e.other) ++ [32]) ++ e.label) ++ [32]) ++ numL e.num) ++ [32]); simp only [tl_mk, List.length_append, List.length_cons, List.length_nil] at this ⊢; omega) ?_
  walk_at "zr"
  rw [textL_eq] at q
  exact fin_d c q
theorem len__law_whole : lenT__law_whole := by
  rintro ss ms Qa Ea ⟨es, p, rfl, _⟩; rfl
def WhP (es : List Ent) (p : Nat) (s0 s1 : SV) (ms0 : ME) (i : Nat) (dl : SL) (ms : ME) : Prop := ms = ms0 ∧ ∃ (n z : Nat) (s4 : Option SV), dl = [some s0, some s1, some (.d (.int n)), some (.d (.int z)), s4] ∧ ((z ≤ p ∧ wholeL es p = n + wholeL (es.drop i) (p - z)) ∨ (p < z ∧ wholeL es p = n))
theorem rd__law_whole : rdT__law_whole := by
  rintro ss ms Qa Ea c ⟨es, p, rfl, h, hl, q⟩
  unfold b__law_whole
  walk_at "zr"
  refine z_kIL rfl ?_
  refine z_forD (WhP es p _ _ ms) ⟨rfl, 0, 0, _, rfl, .inl ⟨Nat.zero_le _, by rw [List.drop_zero, Nat.zero_add, Nat.sub_zero]⟩⟩ (fun _ => rfl) ?_ ?_
  · rintro i d dl' ms' hd ⟨rfl, n, z, s4, rfl, hi⟩
    rw [List.getElem?_map] at hd
    obtain ⟨e, he, rfl⟩ := Option.map_eq_some_iff.mp hd
    have eo := h e (List.mem_of_getElem? he)
    have le := textL_le eo
    have lm : (mk (textL e)).length = (textL e).length := len_tl _
    rw [drop_next he] at hi
    unfold f__law_whole_0
    walk_at "zr"
    refine z_raLen (lenA_s (Nat.le_trans (show (mk (textL e)).length ≤ 100 by omega) (by decide))) ?_
    walk_at "zr"
    rw [lm]
    have ez : ((z : Int) + ((textL e).length : Int)) = ((z + (textL e).length : Nat) : Int) := by omega
    rw [ez]
    refine z_if (fun hb => ?_) (fun hb => ?_)
    · walk_at "zr"
      have hb := of_decide_eq_true hb
      refine ⟨rfl, n + 1, z + (textL e).length, _, rfl, ?_⟩
      rcases hi with ⟨h1, h2⟩ | ⟨h1, h2⟩
      · left
        refine ⟨by omega, ?_⟩
        rw [h2]
        conv => lhs; unfold wholeL
        rw [if_pos (by omega), show p - z - (textL e).length = p - (z + (textL e).length) by omega]
        omega
      · omega
    · walk_at "zr"
      have hb := of_decide_eq_false hb
      refine ⟨rfl, n, z + (textL e).length, _, rfl, ?_⟩
      right
      refine ⟨by omega, ?_⟩
      rcases hi with ⟨h1, h2⟩ | ⟨h1, h2⟩
      · rw [h2]
        unfold wholeL
        rw [if_neg (by omega)]
        rfl
      · exact h2
  · rintro dl' ms' ⟨rfl, n, z, s4, rfl, hi⟩
    walk_at "zr"
    rw [List.drop_eq_nil_of_le (by rw [List.length_map]; exact Nat.le_refl _)] at hi
    have : wholeL es p = n := by
      rcases hi with ⟨h1, h2⟩ | ⟨h1, h2⟩
      · exact h2
      · exact h2
    rw [this] at q
    exact fin_d c q
theorem len__law_reads : lenT__law_reads := by
  rintro ss ms Qa Ea ⟨x, es, rfl, _⟩; rfl
theorem sg_low {l : List Nat} (h : ∀ c ∈ l, sg c = true) : ∀ c ∈ l, c < 200 := by
  intro c hc
  have := h c hc
  simp only [sg, Bool.or_eq_true, Bool.and_eq_true, decide_eq_true_eq, beq_iff_eq] at this
  omega
theorem shaped_ents {es : List Ent} (h : ∀ e ∈ es, EntOk e) : SeqAt.shaped (.list (es.map entD)) = true := by
  refine shaped_list ?_ ?_
  · intro d hd
    obtain ⟨e, he, rfl⟩ := List.mem_map.mp hd
    have eo := h e he
    unfold entD
    rw [PyData.canLay0]
    refine lay_all ?_
    intro d hd
    simp only [List.mem_cons, List.not_mem_nil, or_false] at hd
    rcases hd with rfl | rfl | rfl | rfl
    · exact strOk_of (x := mk e.kind) (sg_low (kind_sg _ eo.kind).2)
    · exact strOk_of (x := mk e.other) (sg_low eo.o1)
    · exact strOk_of (x := mk e.label) (sg_low eo.l1)
    · rfl
  · intro d hd
    obtain ⟨e, he, rfl⟩ := List.mem_map.mp hd
    show PyData.depthAll _ + 1 ≤ 60
    have : PyData.depthAll [.str (mk e.kind), .str (mk e.other), .str (mk e.label), .int (e.num : Int)] ≤ 0 := by
      refine depth_all ?_
      intro d hd
      simp only [List.mem_cons, List.not_mem_nil, or_false] at hd
      rcases hd with rfl | rfl | rfl | rfl <;> exact Nat.le_refl _
    omega
theorem eqv_shaped {d : D} (h : SeqAt.shaped d = true) : PyData.eqv d d = true := by
  unfold SeqAt.shaped at h
  rw [Bool.and_eq_true] at h
  exact PySem.SeqAt.eqv_refl d h.1
def RsP (ms0 : ME) (i : Nat) (acc : List SV) (ms : ME) : Prop := ms = ms0 ∧ acc = []
theorem rd__law_reads : rdT__law_reads := by
  rintro ss ms Qa Ea c ⟨x, es, rfl, hl, hx, h, er, q⟩
  unfold b__law_reads
  walk_at "zr"
  refine ⟨x, rfl, hl, hx, ?_⟩
  rw [er]
  walk_at "zr"
  refine z_cut ?_
  walk_at "zr"
  have sh := shaped_ents h
  refine z_orF ?_
  walk_at "zr"
  refine ⟨_, _, rfl, rfl, sh, sh, ?_⟩
  rw [eqv_shaped sh]
  walk_at "zr"
  refine z_ifF ?_
  walk_at "zr"
  refine z_kIL rfl ?_
  refine z_lcD ?_ (RsP ms) ⟨rfl, rfl⟩ (fun _ => rfl) ?_ ?_
  · have := congrArg List.length er
    have n : (readL (tl x)).length ≤ (tl x).length + 1 := by
      have gen : ∀ ls : List (List Nat), (readLs ls).length ≤ ls.length := by
        intro ls
        induction ls with
        | nil => exact Nat.le_refl _
        | cons a r ih =>
          unfold readLs
          split
          · exact Nat.zero_le _
          · exact Nat.succ_le_succ ih
      unfold readL
      refine Nat.le_trans (gen _) ?_
      rw [List.length_dropLast, (spl_back 10 (tl x) [] List.not_mem_nil).2.2]
      have cl : (tl x).count 10 ≤ (tl x).length := List.count_le_length
      omega
    have len := len_tl x
    rw [List.length_map]
    exact Nat.le_trans (show es.length ≤ 20000 by omega) (by decide)
  · rintro i d acc ms' hd ⟨rfl, rfl⟩
    rw [List.getElem?_map] at hd
    obtain ⟨e, he, rfl⟩ := Option.map_eq_some_iff.mp hd
    unfold entD
    walk_at "zr"
    refine z_orF ?_
    walk_at "zr"
    refine z_test (fun g => ?_) (fun g => ⟨rfl, rfl⟩)
    cases g
  · rintro acc ms' ⟨rfl, rfl⟩
    refine z_finD (ds := []) rfl ?_
    walk_at "zr"
    exact fin_d c q

end Lw

namespace Lw
open PySem PySem.Spec PyProof.Rows L2 Z TL
/-- one step -/
local macro_rules | `(tactic| walk_at "z") => `(tactic| first
  | ((with_reducible apply z_aVar); exact rfl)
  | with_reducible refine z_nx ?_
  | with_reducible refine z_kSeq ?_
  | with_reducible refine z_aSeq ?_
  | with_reducible refine z_aC ?_
  | with_reducible refine z_kOp2 ?_
  | with_reducible refine z_kOp1 ?_
  | with_reducible refine z_aOp ?_
  | with_reducible refine z_aB ?_
  | with_reducible refine z_kNot ?_
  | with_reducible refine z_aAnd ?_
  | with_reducible refine z_aOr ?_
  | with_reducible refine z_aNot ?_
  | with_reducible refine z_aAndV ?_
  | with_reducible refine z_aOrV ?_
  | with_reducible refine z_aNotV ?_
  | with_reducible refine z_aIf ?_
  | with_reducible refine z_aNil ?_
  | with_reducible refine z_kCons2 ?_
  | with_reducible refine z_kCons1 ?_
  | with_reducible refine z_aCons ?_
  | with_reducible refine z_kCB ?_
  | with_reducible refine z_aCB ?_
  | with_reducible refine z_aCall ?_
  | with_reducible refine z_aCallX ?_
  | with_reducible refine z_aBM0 ?_
  | with_reducible refine z_kBM2 ?_
  | with_reducible refine z_aBM ?_
  | with_reducible refine z_aName ?_
  | with_reducible refine z_kG ?_
  | with_reducible refine z_aNext ?_
  | with_reducible refine z_kDrop ?_
  | with_reducible refine z_aDrop ?_
  | with_reducible refine z_aRet ?_
  | with_reducible refine z_aRetN ?_
  | with_reducible refine z_aIfS ?_
  | with_reducible refine z_kAsg ?_
  | with_reducible refine z_aAsg ?_
  | with_reducible refine z_aBrk ?_
  | with_reducible refine z_aCont ?_
  | with_reducible refine z_aNever ?_
  | with_reducible refine z_aPar ?_
  | with_reducible refine z_kAug2 ?_
  | with_reducible refine z_kAug ?_
  | with_reducible refine z_aIL ?_
  | with_reducible refine z_aIT ?_
  | with_reducible refine z_aIR1 ?_
  | with_reducible refine z_aIR2 ?_
  | with_reducible refine z_aIS ?_
  | with_reducible refine z_aYes ?_
  | with_reducible refine z_aNoPart ?_
  | with_reducible refine z_aPart ?_
  | with_reducible refine z_kSl3 ?_
  | with_reducible refine z_kSl2 ?_
  | with_reducible refine z_kSl1 ?_
  | with_reducible refine z_aSl ?_
  | with_reducible refine z_aIsi ?_
  | with_reducible refine z_kSet2 ?_
  | with_reducible refine z_kSet1 ?_
  | with_reducible refine z_aSetL ?_
  | with_reducible refine z_aXT ?_
  | with_reducible refine z_aFrz ?_
  | with_reducible refine z_aUn ?_
  | with_reducible refine z_aTru ?_
  | with_reducible refine z_rt ?_
  | with_reducible refine z_bk ?_
  | with_reducible refine z_ct ?_
  | with_reducible refine z_kB ?_
  | with_reducible refine z_kNotV ?_
  | with_reducible refine z_ifT ?_
  | with_reducible refine z_ifF ?_
  | with_reducible refine z_ifeT ?_
  | with_reducible refine z_ifeF ?_
  | with_reducible refine z_andT ?_
  | with_reducible refine z_andF ?_
  | with_reducible refine z_orT ?_
  | with_reducible refine z_orF ?_
  | with_reducible refine z_raI0 ?_
  | with_reducible refine z_raB0 ?_
  | with_reducible refine z_raInt ?_
  | with_reducible refine z_raIntB ?_
  | with_reducible refine z_raOrd ?_
  | with_reducible refine z_raEqI ?_
  | with_reducible refine z_raNeI ?_
  | with_reducible refine z_raEqS ?_
  | with_reducible refine z_raNeS ?_
  | with_reducible refine z_raIsN ?_
  | with_reducible refine z_raNotN ?_
  | with_reducible refine z_kPart ?_
  | with_reducible refine z_kUn ?_
  | with_reducible refine z_kPar ?_
  | with_reducible refine z_ipAdd ?_
  | with_reducible refine z_ipSub ?_
  | with_reducible refine z_kCall ?_
  | with_reducible refine z_kCallX ?_
  | with_reducible refine z_aFor ?_
  | with_reducible refine z_kBody ?_
  | with_reducible refine z_aLc ?_
  | with_reducible refine z_kTurn ?_
  | with_reducible refine z_testT ?_
  | with_reducible refine z_kElt ?_
  | with_reducible refine z_kIS ?_
  | with_reducible refine z_finO ?_
  | with_reducible refine z_aGCons ?_
  | with_reducible refine z_aGNil ?_
  | ((with_reducible apply z_rTup); exact rfl; exact Evl.sz_of (by simp only [List.length_cons, List.length_nil]; omega))
  | ((with_reducible apply z_rLst); exact rfl; exact Evl.sz_of (by simp only [List.length_cons, List.length_nil]; omega))
  | ((with_reducible apply z_aAug); exact rfl)
  | ((with_reducible apply z_kIsi); exact rfl)
  | ((with_reducible apply z_aGTup); exact rfl; exact rfl)
  | ((with_reducible apply z_raIxLo); assumption; exact rfl)
  | ((with_reducible apply z_raIxL); exact rfl; exact rfl)
  | ((with_reducible apply z_raIxT); exact rfl; exact rfl)
  | with_reducible refine z_raLen lenA_l ?_
  | with_reducible refine z_raLen lenA_t ?_
  | ((with_reducible apply z_raLenO); assumption))
local macro_rules | `(tactic| walk_at "zr") => `(tactic| repeat (walk_at "z"))

/-! ### law(script): slots 0 script, 1 state, 2 k, 3 entries, 4 texts, 5 told, 6 text, 7 kind, 8 place, 9 heads, 10 wrong, 11 others, 12 sign, 13 spoiled, 14 entry -/
abbrev s_law : Stmt := top 22
abbrev N_law : List Str := ["script", "state", "k", "entries", "texts", "told", "text", "kind", "place", "heads", "wrong", "others", "sign", "spoiled", "entry"]
theorem sc_law : FnScope N_law ["script"] (defScope s_law) := ⟨rfl, rfl, rfl, by decide +kernel, rfl, by decide +kernel, by decide +kernel⟩
def f_law_0 : AS := aSeq (aAsg (aCall p_record (aCons (aOp raIxT (aOp raIxL (aVar 3) (aVar 2)) (aC (.int 0))) (aCons (aOp raIxT (aOp raIxL (aVar 3) (aVar 2)) (aC (.int 1))) (aCons (aOp raIxT (aOp raIxL (aVar 3) (aVar 2)) (aC (.int 2))) (aCons (aOp raIxT (aOp raIxL (aVar 3) (aVar 2)) (aC (.int 3))) (aNil)))))) (aName 5)) (aIfS (aOr (aNot (aB (aIsi "str" (aVar 5)))) (aB (aOp (raEq true) (aVar 5) (aOp raIxL (aVar 4) (aVar 2))))) (aRet (aC (.bool false))) (aNext))
def b_law : AS := aSeq (aAsg (aCall p__law_state (aCons (aVar 0) (aNil))) (aName 1)) (aSeq (aAsg (aLc finD (aIR1 (aCons (aOp (raI0 fun i j => i + j) (aC (.int 1)) (aCall p__law_draw (aCons (aVar 1) (aCons (aC (.int 20)) (aNil))))) (aNil))) (aName 2) (aYes) (aCall p__law_record (aCons (aVar 1) (aNil))) [2]) (aName 3)) (aSeq (aAsg (aLc finD (aIL (aVar 3)) (aName 14) (aYes) (aCall p__law_text (aCons (aVar 14) (aNil))) [14]) (aName 4)) (aSeq (aFor (aIR1 (aCons (aCB raLen (aCons (aVar 3) (aNil))) (aNil))) (aName 2) (f_law_0)) (aSeq (aAsg (aBM "str" rmJoin (aC (.str "")) (aCons (aVar 4) (aNil))) (aName 6)) (aSeq (aAsg (aCall p__law_draw (aCons (aVar 1) (aCons (aC (.int 4)) (aNil)))) (aName 7)) (aSeq (aAsg (aCall p__law_draw (aCons (aVar 1) (aCons (aOp (raI0 fun i j => i + j) (aCB raLen (aCons (aVar 6) (aNil))) (aC (.int 1))) (aNil)))) (aName 8)) (aCut (aIfS (aB (aOp (raEq false) (aVar 7) (aC (.int 0)))) (aRet (aCall p__law_reads (aCons (aVar 6) (aCons (aVar 3) (aNil))))) (aNext)) (aCut (aIfS (aB (aOp (raEq false) (aVar 7) (aC (.int 1)))) (aRet (aCall p__law_reads (aCons (aSl raSlS (aVar 6) (aNoPart) (aPart (aVar 8))) (aCons (aSl raSlL (aVar 3) (aNoPart) (aPart (aCall p__law_whole (aCons (aVar 4) (aCons (aVar 8) (aNil)))))) (aNil))))) (aNext)) (aCut (aIfS (aB (aOp (raEq false) (aVar 7) (aC (.int 2)))) (aSeq (aAsg (aCB rLst (aCons (aC (.str "p b x 01 ")) (aCons (aC (.str "q b x 1 ")) (aCons (aC (.str "p  x 1 ")) (aCons (aC (.str "p b  1 ")) (aCons (aC (.str "p b x 0 ")) (aCons (aC (.str "p b x 1234567890 ")) (aCons (aC (.str "p b x -1 ")) (aCons (aC (.str "p b x  ")) (aCons (aC (.str "pp b x 1 ")) (aNil))))))))))) (aName 9)) (aSeq (aAsg (aOp raCat (aVar 9) (aCB rLst (aCons (aC (.str "p b x 1 0")) (aCons (aC (.str "p b x y ")) (aCons (aC (.str "p b x 1 1 ")) (aCons (aC (.str " b x 1 ")) (aNil))))))) (aName 9)) (aSeq (aAsg (aOp raCat (aVar 9) (aCB rLst (aCons (aC (.str "c b x 1 ")) (aCons (aC (.str "P b x 1 ")) (aCons (aC (.str "p b x 1000000000 ")) (aCons (aC (.str "p b x 1.0 ")) (aCons (aC (.str "p b x +1 ")) (aNil)))))))) (aName 9)) (aSeq (aAsg (aOp raIxL (aVar 9) (aCall p__law_draw (aCons (aVar 1) (aCons (aC (.int 18)) (aNil))))) (aName 10)) (aSeq (aAsg (aOp raAddS (aOp raAddS (aVar 10) (aCB raStr (aCons (aCall p__law_sum (aCons (aOp raIxL (aCB rLst (aCons (aC (.str "p b x 1 ")) (aCons (aVar 10) (aNil)))) (aCB raInt (aCons (aOp (raEq true) (aVar 10) (aC (.str "p b x 1 0"))) (aNil)))) (aNil))) (aNil)))) (aC (.str "\n"))) (aName 10)) (aSeq (aAsg (aCB rLst (aCons (aC (.str "p b x 1 764\n")) (aCons (aC (.str "p b x 1\n")) (aCons (aC (.str "\n")) (aCons (aC (.str "p b x 1 763")) (aCons (aC (.str "p b x 1 763 \n")) (aCons (aC (.str "p b x 1 10736\n")) (aCons (aVar 10) (aCons (aVar 10) (aCons (aVar 10) (aNil))))))))))) (aName 11)) (aRet (aCall p__law_reads (aCons (aOp raAddS (aOp raAddS (aVar 6) (aOp raIxL (aVar 11) (aCall p__law_draw (aCons (aVar 1) (aCons (aC (.int 9)) (aNil)))))) (aOp raIxL (aCB rLst (aCons (aC (.str "")) (aCons (aCall p__law_text (aCons (aCall p__law_record (aCons (aVar 1) (aNil))) (aNil))) (aNil)))) (aCall p__law_draw (aCons (aVar 1) (aCons (aC (.int 2)) (aNil)))))) (aCons (aVar 3) (aNil))))))))))) (aNext)) (aCut (aIfS (aB (aOp (raEq false) (aVar 8) (aCB raLen (aCons (aVar 6) (aNil))))) (aRet (aC (.bool true))) (aNext)) (aSeq (aAsg (aOp raIxL (aCB rLst (aCons (aC (.str "a")) (aCons (aC (.str " ")) (aCons (aC (.str "\n")) (aCons (aC (.str "7")) (aCons (aC (.str "0")) (aCons (aC (.str ".")) (aCons (aC (.str "p")) (aCons (aC (.str "-")) (aNil)))))))))) (aCall p__law_draw (aCons (aVar 1) (aCons (aC (.int 8)) (aNil))))) (aName 12)) (aCut (aIfS (aB (aOp (raEq false) (aOp raIxS (aVar 6) (aVar 8)) (aVar 12))) (aRet (aC (.bool true))) (aNext)) (aSeq (aAsg (aOp raAddS (aOp raAddS (aSl raSlS (aVar 6) (aNoPart) (aPart (aVar 8))) (aVar 12)) (aSl raSlS (aVar 6) (aPart (aOp (raI0 fun i j => i + j) (aVar 8) (aC (.int 1)))) (aNoPart))) (aName 13)) (aRet (aCall p__law_reads (aCons (aVar 13) (aCons (aSl raSlL (aVar 3) (aNoPart) (aPart (aCall p__law_whole (aCons (aVar 4) (aCons (aVar 8) (aNil)))))) (aNil))))))))))))))))))
abbrev lenT_law : Prop := ∀ ss ms Qa Ea, p_law ss ms Qa Ea → ss.length = 1
abbrev rdT_law : Prop := ∀ ss ms Qa Ea, Closed ms.length ms → p_law ss ms Qa Ea → b_law (fun _ _ _ => False) { nx := fun _ ms' => Fin ms.length Qa (.d .none) ms', rt := Fin ms.length Qa } (startA 15 ss) ms
theorem StL.fin_last {a b : ME} {mo : MO} {Q : SV → ME → Prop} {d : D} (h : StL a.length (a ++ [mo]) b) (c : Closed a.length a) (q : Q (.d d) a) : Fin a.length Q (.d d) b := by
  obtain ⟨m1, _, e⟩ := h
  rw [set_last] at e
  exact ⟨a, [m1], e, Nat.le_refl _, c, trivial, q⟩
theorem take_cut {α : Type} (l : List α) (k : Nat) : cutG' l none (some (k : Int)) = l.take k := by
  unfold cutG'
  rw [HT.sIx_nat, HT.sIx_none, List.drop_zero, Nat.sub_zero, List.take_eq_take_iff]
  omega
theorem textsL_len : ∀ {es : List Ent}, (∀ e ∈ es, EntOk e) → (textsL es).length ≤ 100 * es.length
  | [], _ => Nat.le_refl _
  | e :: r, h => by
    have h1 := textL_le (h e (List.mem_cons_self ..))
    have h2 := textsL_len (es := r) fun x hx => h x (List.mem_cons_of_mem _ hx)
    rw [texts_cons, List.length_append, List.length_cons]
    omega
theorem text_lt {e : Ent} (h : EntOk e) : ∀ c ∈ textL e, c < 200 := by
  intro c hc
  unfold textL at hc
  rcases List.mem_append.mp hc with g | g
  · exact line_lt h c g
  · rw [List.mem_singleton.mp g]; decide
theorem texts_lt : ∀ {es : List Ent}, (∀ e ∈ es, EntOk e) → ∀ c ∈ textsL es, c < 200
  | [], _, c, hc => absurd hc List.not_mem_nil
  | e :: r, h, c, hc => by
    rw [texts_cons] at hc
    rcases List.mem_append.mp hc with g | g
    · exact text_lt (h e (List.mem_cons_self ..)) c g
    · exact texts_lt (es := r) (fun x hx => h x (List.mem_cons_of_mem _ hx)) c g
theorem joinL_nil : ∀ l : List (List Nat), joinL [] l = l.flatten
  | [] => rfl
  | [a] => by show a = a ++ []; rw [List.append_nil]
  | a :: b :: r => by
    show a ++ ([] ++ joinL [] (b :: r)) = _
    rw [joinL_nil (b :: r)]
    rfl
theorem join_texts (es : List Ent) : tl (Txt.join "" (es.map fun e => mk (textL e))) = textsL es := by
  rw [join_eq, tl_join, show tl ("" : Str) = [] by decide +kernel, joinL_nil, List.map_map]
  rfl
theorem sum_texts : ∀ {es : List Ent}, (∀ e ∈ es, EntOk e) → ((es.map fun e => mk (textL e)).map (·.length)).sum ≤ 100 * es.length
  | [], _ => Nat.le_refl _
  | e :: r, h => by
    have h1 := textL_le (h e (List.mem_cons_self ..))
    have h2 := sum_texts (es := r) fun x hx => h x (List.mem_cons_of_mem _ hx)
    have h3 : (mk (textL e)).length = (textL e).length := len_tl _
    rw [List.map_cons, List.map_cons, List.sum_cons, List.length_cons, h3]
    omega
def headsS : List Str := ["p b x 01 ", "q b x 1 ", "p  x 1 ", "p b  1 ", "p b x 0 ", "p b x 1234567890 ", "p b x -1 ", "p b x  ", "pp b x 1 ", "p b x 1 0", "p b x y ", "p b x 1 1 ", " b x 1 ", "c b x 1 ", "P b x 1 ", "p b x 1000000000 ", "p b x 1.0 ", "p b x +1 "]
def sumOf (h : Str) : Nat := sumL (if h == "p b x 1 0" then tl ("p b x 1 " : Str) else tl h)
def wrongL (h : Str) : List Nat := tl h ++ numL (sumOf h)
def lineB (l : List Nat) : Bool := (parseL l).isNone && (!l.contains 10 && (l.all (fun c => decide (c < 200)) && decide (l.length ≤ 100)))
theorem lineB_of {l : List Nat} (h : lineB l = true) : parseL l = none ∧ 10 ∉ l ∧ (∀ c ∈ l, c < 200) ∧ l.length ≤ 100 := by
  unfold lineB at h
  simp only [Bool.and_eq_true, Bool.not_eq_true', List.all_eq_true, decide_eq_true_eq, Option.isNone_iff_eq_none] at h
  obtain ⟨h1, h2, h3⟩ := h
  exact ⟨h1, (fun m => by rw [List.contains_iff_mem.mpr m] at h2; cases h2), h3⟩
theorem wrong_all : ∀ h ∈ headsS, lineB (wrongL h) = true := by decide +kernel
/-- what is put behind the texts: a wrong line, or one whose newline is missing -/
def Oth (l : List Nat) : Prop := (∃ m, l = m ++ [10] ∧ lineB m = true) ∨ l = tl ("p b x 1 763" : Str)
theorem Oth.low {l : List Nat} (h : Oth l) : (∀ c ∈ l, c < 200) ∧ l.length ≤ 101 := by
  rcases h with ⟨m, rfl, h⟩ | rfl
  · obtain ⟨_, _, h3, h4⟩ := lineB_of h
    refine ⟨fun c hc => ?_, by rw [List.length_append]; exact Nat.succ_le_succ h4⟩
    rcases List.mem_append.mp hc with g | g
    · exact h3 c g
    · rw [List.mem_singleton.mp g]; decide
  · decide +kernel
theorem oth_read {l t : List Nat} (h : Oth l) (ht : t = [] ∨ ∃ e, EntOk e ∧ t = textL e) : readL (l ++ t) = [] := by
  rcases h with ⟨m, rfl, h⟩ | rfl
  · obtain ⟨h1, h2, _, _⟩ := lineB_of h
    rw [List.append_assoc, List.singleton_append]
    exact read_wrong h2 h1
  · have n : 10 ∉ tl ("p b x 1 763" : Str) := by decide +kernel
    rcases ht with rfl | ⟨e, eo, rfl⟩
    · rw [List.append_nil]; exact read_last n
    · unfold textL
      rw [← List.append_assoc]
      refine read_wrong (fun m => ?_) (parse_count ?_)
      · rcases List.mem_append.mp m with g | g
        · exact n g
        · exact line_free eo g
      · rw [List.count_append, line_count eo, show (tl ("p b x 1 763" : Str)).count 32 = 4 by decide +kernel]
        decide
theorem len_law : lenT_law := by
  rintro ss ms Qa Ea ⟨ns, rfl, _⟩; rfl
def EsP (k : Nat) (ms0 : ME) (i : Nat) (acc : List SV) (ms : ME) : Prop := ∃ es : List Ent, es.length = i ∧ (∀ e ∈ es, EntOk e) ∧ acc = es.map (fun e => SV.d (entD e)) ∧ StL k ms0 ms
def TxP (es : List Ent) (ms0 : ME) (i : Nat) (acc : List SV) (ms : ME) : Prop := ms = ms0 ∧ acc = (es.take i).map fun e => SV.d (.str (mk (textL e)))
def LpP (k : Nat) (ns : List Int) (es : List Ent) (ms0 : ME) (i : Nat) (dl : SL) (ms : ME) : Prop := ms = ms0 ∧ ∃ s2 s5 s14 : Option SV, dl = [some (.xl (ns.map PyData.int)), some (.o k), s2, some (.d (.list (es.map entD))), some (.d (.list (es.map fun e => .str (mk (textL e))))), s5, none, none, none, none, none, none, none, none, s14]
theorem rd_law : rdT_law := by
  rintro ss ms Qa Ea c ⟨ns, rfl, hn, q⟩
  unfold b_law
  walk_at "zr"
  refine ⟨ns, rfl, hn, fun mo hmo => ?_⟩
  have sa : StAt ms.length (ms ++ [mo]) := ⟨mo, at_last, hmo⟩
  generalize hk : ms.length = k at sa
  have fin : ∀ ms', StL k (ms ++ [mo]) ms' → Fin k Qa (.d (.bool true)) ms' := by
    subst hk
    exact fun ms' sl => sl.fin_last c (q ms)
  generalize ms ++ [mo] = m0 at sa fin
  walk_at "zr"
  refine ⟨k, _, rfl, sa, by decide, by decide, fun r ms1 r0 r1 sl1 => ?_⟩
  walk_at "zr"
  refine z_kIR1 (by omega) (by omega) ?_
  have hN : (1 + r).toNat ≤ 20 := by omega
  generalize (1 + r).toNat = N at hN
  refine z_lcR (Nat.le_trans hN (by decide)) (EsP k m0) ⟨[], rfl, fun _ h => absurd h List.not_mem_nil, rfl, sl1⟩ ?_ ?_
  · rintro i acc ms2 hi ⟨es, rfl, ok, rfl, sl2⟩
    walk_at "zr"
    refine ⟨k, rfl, sl2.at sa, fun e ms3 eo sl3 => ?_⟩
    walk_at "zr"
    refine ⟨es ++ [e], by rw [List.length_append]; rfl, fun x hx => ?_, by rw [List.map_append]; rfl, sl2.trans sl3⟩
    rcases List.mem_append.mp hx with g | g
    · exact ok x g
    · rw [List.mem_singleton.mp g]; exact eo
  rintro acc ms2 ⟨es, hlen, ok, rfl, sl2⟩
  have hlen : es.length ≤ 20 := by omega
  clear hN
  have sa2 := sl2.at sa
  refine z_finD (allD_map' entD es) ?_
  walk_at "zr"
  refine z_kIL rfl ?_
  refine z_lcD (by rw [List.length_map]; exact Nat.le_trans hlen (by decide)) (TxP es ms2) ⟨rfl, rfl⟩ (fun _ => rfl) ?_ ?_
  · rintro i d acc ms3 hd ⟨rfl, rfl⟩
    rw [List.getElem?_map] at hd
    obtain ⟨e, he, rfl⟩ := Option.map_eq_some_iff.mp hd
    walk_at "zr"
    refine ⟨e, rfl, ok e (List.mem_of_getElem? he), ?_⟩
    walk_at "zr"
    refine ⟨rfl, ?_⟩
    rw [take_next he, List.map_append]
    rfl
  rintro acc ms3 ⟨rfl, rfl⟩
  rw [List.length_map, List.take_length]
  refine z_finD (allD_map' (fun e => PyData.str (mk (textL e))) es) ?_
  walk_at "zr"
  refine z_kIR1 (by rw [List.length_map]; omega) (by rw [List.length_map]; omega) ?_
  rw [List.length_map, Int.toNat_natCast]
  refine z_forR0 (LpP k ns es ms3) ⟨rfl, _, _, _, rfl⟩ ?_ ?_
  · rintro i dl' ms4 hi ⟨rfl, s2, s5, s14, rfl⟩
    obtain ⟨e, he⟩ : ∃ e, es[i]? = some e := ⟨es[i], List.getElem?_eq_getElem hi⟩
    have ix : atI ((es.map entD).map SV.d) (i : Int) = some (.d (entD e)) := atI_of (by omega) (by rw [Int.toNat_natCast, List.getElem?_map, List.getElem?_map, he]; rfl)
    have ix2 : atI ((es.map fun e => PyData.str (mk (textL e))).map SV.d) (i : Int) = some (.d (.str (mk (textL e)))) := atI_of (by omega) (by rw [Int.toNat_natCast, List.getElem?_map, List.getElem?_map, he]; rfl)
    unfold f_law_0
    walk_at "zr"
    refine z_raIxL rfl ix ?_
    walk_at "zr"
    refine z_raIxL rfl ix ?_
    walk_at "zr"
    refine z_raIxL rfl ix ?_
    walk_at "zr"
    refine z_raIxL rfl ix ?_
    walk_at "zr"
    refine ⟨e, rfl, ok e (List.mem_of_getElem? he), ?_⟩
    walk_at "zr"
    refine z_orF ?_
    walk_at "zr"
    refine z_raIxL rfl ix2 ?_
    walk_at "zr"
    refine z_if (fun hb => ?_) (fun hb => ?_)
    · simp at hb
    · walk_at "zr"
      exact ⟨rfl, _, _, _, rfl⟩
  rintro dl' ms4 ⟨rfl, s2, s5, s14, rfl⟩
  have hX : tl (Txt.join "" (es.map fun e => mk (textL e))) = textsL es := join_texts es
  have hsz : ((es.map fun e => mk (textL e)).map (·.length)).sum + (es.map fun e => mk (textL e)).length * ("" : Str).length ≤ 16777216 := by
    have := sum_texts ok
    rw [show ("" : Str).length = 0 by decide +kernel]
    omega
  walk_at "zr"
  refine z_kBM1 rfl ?_
  walk_at "zr"
  refine ⟨"", _, es.map fun e => mk (textL e), rfl, rfl, ?_, hsz, ?_⟩
  · show allD ((es.map fun e => PyData.str (mk (textL e))).map SV.d) = _
    rw [allD_of, List.map_map]
    rfl
  generalize Txt.join "" (es.map fun e => mk (textL e)) = X at hX
  have lenX := len_tl X
  rw [hX] at lenX
  have lX := textsL_len ok
  have hz : X.length ≤ sizeLine := Nat.le_trans (show X.length ≤ 10000 by omega) (by decide)
  have lowX : low X := by
    intro c hc
    rw [hX] at hc
    exact texts_lt ok c hc
  walk_at "zr"
  refine ⟨k, _, rfl, sa2, by decide, by decide, fun kd ms5 k0 k1 sl3 => ?_⟩
  have sl3 := sl2.trans sl3
  walk_at "zr"
  refine z_raLen (lenA_s hz) ?_
  walk_at "zr"
  refine ⟨k, _, rfl, sl3.at sa, by omega, by omega, fun pl ms6 pl0 pl1 sl4 => ?_⟩
  have sl4 := sl3.trans sl4
  obtain ⟨p, rfl⟩ : ∃ p : Nat, pl = p := ⟨pl.toNat, by omega⟩
  walk_at "zr"
  refine z_cut ?_
  walk_at "zr"
  refine z_if (fun hb => ?_) (fun hb => ?_)
  · walk_at "zr"
    refine ⟨X, es, rfl, by omega, lowX, ok, ?_, ?_⟩
    · rw [hX]
      have := read_texts ok []
      rw [List.append_nil, read_nil, List.append_nil] at this
      exact this
    walk_at "zr"
    exact fin _ sl4
  walk_at "zr"
  refine z_cut ?_
  walk_at "zr"
  have okt : ∀ n, ∀ e ∈ es.take n, EntOk e := fun n e he => ok e (List.mem_of_mem_take he)
  refine z_if (fun hb1 => ?_) (fun hb1 => ?_)
  · walk_at "zr"
    refine ⟨X, rfl, hz, ?_⟩
    walk_at "zr"
    refine ⟨es, p, rfl, ok, by omega, ?_⟩
    walk_at "zr"
    refine ⟨_, (es.take (wholeL es p)).map entD, rfl, ?_, ?_⟩
    · rw [take_cut, ← List.map_take, ← List.map_take]
      exact allD_of _
    walk_at "zr"
    refine ⟨_, es.take (wholeL es p), rfl, Nat.le_trans (cutS_length ..) (by omega), ?_, okt _, ?_, ?_⟩
    · intro c hc
      rw [cut_hi] at hc
      exact lowX c (List.mem_of_mem_take hc)
    · rw [cut_hi, hX]
      exact read_cut ok p
    walk_at "zr"
    exact fin _ sl4
  walk_at "zr"
  refine z_cut ?_
  walk_at "zr"
  refine z_if (fun hb2 => ?_) (fun hb2 => ?_)
  · walk_at "zr"
    refine ⟨_, _, _, rfl, rfl, rfl, by decide, ?_⟩
    walk_at "zr"
    refine ⟨_, _, _, rfl, rfl, rfl, by decide, ?_⟩
    walk_at "zr"
    refine ⟨k, _, rfl, sl4.at sa, by decide, by decide, fun r5 ms7 r50 r51 sl5 => ?_⟩
    have sl5 := sl4.trans sl5
    obtain ⟨h, hh, hm⟩ : ∃ h, headsS[r5.toNat]? = some h ∧ h ∈ headsS := by
      have : r5.toNat < headsS.length := by show r5.toNat < 18; omega
      exact ⟨headsS[r5.toNat], List.getElem?_eq_getElem this, List.getElem_mem this⟩
    have ixh : atI ((headsS.map PyData.str).map SV.d) r5 = some (.d (.str h)) := atI_of r50 (by rw [List.getElem?_map, List.getElem?_map, hh]; rfl)
    refine z_raIxL (xs := (headsS.map PyData.str).map SV.d) rfl ixh ?_
    walk_at "zr"
    have wa := wrong_all h hm
    obtain ⟨_, _, wl, wn⟩ := lineB_of wa
    have hs : ∃ y : Str, atI [SV.d (.str "p b x 1 "), SV.d (.str h)] (if (!(h == "p b x 1 0")) = true then 1 else 0) = some (.d (.str y)) ∧ sumL (tl y) = sumOf h := by
      unfold sumOf
      cases h == "p b x 1 0" with
      | true => exact ⟨"p b x 1 ", rfl, rfl⟩
      | false => exact ⟨h, rfl, rfl⟩
    obtain ⟨y, iy, sy⟩ := hs
    refine z_raIxL rfl iy ?_
    walk_at "zr"
    refine ⟨y, rfl, ?_⟩
    rw [sy]
    have s9 : sumOf h < 9973 := sumL_lt _
    walk_at "zr"
    refine z_raStr (log_num (by omega)) ?_
    walk_at "zr"
    refine z_addT rfl (str_num _) ?_ ?_
    · unfold wrongL at wn
      rw [List.length_append] at wn
      omega
    walk_at "zr"
    refine z_addT (l := wrongL h) rfl nl_tl (by show (wrongL h).length + 1 ≤ 10000; omega) ?_
    walk_at "zr"
    refine ⟨k, _, rfl, sl5.at sa, by decide, by decide, fun r6 ms8 r60 r61 sl6 => ?_⟩
    have sl6 := sl5.trans sl6
    have ho : ∃ o : Str, atI ((([("p b x 1 764\n" : Str), "p b x 1\n", "\n", "p b x 1 763", "p b x 1 763 \n", "p b x 1 10736\n", mk (wrongL h ++ [10]), mk (wrongL h ++ [10]), mk (wrongL h ++ [10])] : List Str).map PyData.str).map SV.d) r6 = some (.d (.str o)) ∧ Oth (tl o) := by
      have wo : Oth (tl (mk (wrongL h ++ [10]))) := .inl ⟨wrongL h, rfl, wa⟩
      have : r6 = 0 ∨ r6 = 1 ∨ r6 = 2 ∨ r6 = 3 ∨ r6 = 4 ∨ r6 = 5 ∨ r6 = 6 ∨ r6 = 7 ∨ r6 = 8 := by omega
      rcases this with rfl | rfl | rfl | rfl | rfl | rfl | rfl | rfl | rfl
      · exact ⟨_, rfl, .inl ⟨(tl ("p b x 1 764\n" : Str)).dropLast, by decide +kernel, by decide +kernel⟩⟩
      · exact ⟨_, rfl, .inl ⟨(tl ("p b x 1\n" : Str)).dropLast, by decide +kernel, by decide +kernel⟩⟩
      · exact ⟨_, rfl, .inl ⟨(tl ("\n" : Str)).dropLast, by decide +kernel, by decide +kernel⟩⟩
      · exact ⟨_, rfl, .inr rfl⟩
      · exact ⟨_, rfl, .inl ⟨(tl ("p b x 1 763 \n" : Str)).dropLast, by decide +kernel, by decide +kernel⟩⟩
      · exact ⟨_, rfl, .inl ⟨(tl ("p b x 1 10736\n" : Str)).dropLast, by decide +kernel, by decide +kernel⟩⟩
      · exact ⟨_, rfl, wo⟩
      · exact ⟨_, rfl, wo⟩
      · exact ⟨_, rfl, wo⟩
    obtain ⟨o, io, oo⟩ := ho
    obtain ⟨ol, on⟩ := oo.low
    refine z_raIxL rfl io ?_
    walk_at "zr"
    refine z_addT hX rfl (by omega) ?_
    walk_at "zr"
    refine ⟨k, rfl, sl6.at sa, fun e2 ms9 eo2 sl7 => ?_⟩
    have sl7 := sl6.trans sl7
    walk_at "zr"
    refine ⟨e2, rfl, eo2, ?_⟩
    walk_at "zr"
    refine ⟨k, _, rfl, sl7.at sa, by decide, by decide, fun r8 ms10 r80 r81 sl8 => ?_⟩
    have sl8 := sl7.trans sl8
    have ht : ∃ t : Str, atI [SV.d (.str ""), SV.d (.str (mk (textL e2)))] r8 = some (.d (.str t)) ∧ (tl t = [] ∨ ∃ e, EntOk e ∧ tl t = textL e) := by
      have : r8 = 0 ∨ r8 = 1 := by omega
      rcases this with rfl | rfl
      · exact ⟨"", rfl, .inl (by decide +kernel)⟩
      · exact ⟨_, rfl, .inr ⟨e2, eo2, rfl⟩⟩
    obtain ⟨t, it, tt⟩ := ht
    have tb : (∀ c ∈ tl t, c < 200) ∧ (tl t).length ≤ 100 := by
      rcases tt with g | ⟨e, eo, g⟩
      · rw [g]; exact ⟨fun _ h => absurd h List.not_mem_nil, by decide⟩
      · rw [g]; exact ⟨text_lt eo, textL_le eo⟩
    refine z_raIxL rfl it ?_
    walk_at "zr"
    refine z_addT (l := textsL es ++ tl o) rfl rfl (by rw [List.length_append]; omega) ?_
    walk_at "zr"
    refine ⟨_, es, rfl, ?_, ?_, ok, ?_, ?_⟩
    · rw [len_tl, tl_mk, List.length_append, List.length_append]; omega
    · intro c hc
      rw [tl_mk] at hc
      rcases List.mem_append.mp hc with g | g
      · rcases List.mem_append.mp g with g | g
        · exact texts_lt ok c g
        · exact ol c g
      · exact tb.1 c g
    · rw [tl_mk, List.append_assoc, read_texts ok, oth_read oo tt, List.append_nil]
    walk_at "zr"
    exact fin _ sl8
  walk_at "zr"
  refine z_cut ?_
  walk_at "zr"
  refine z_raLen (lenA_s hz) ?_
  walk_at "zr"
  refine z_if (fun hb3 => ?_) (fun hb3 => ?_)
  · walk_at "zr"
    exact fin _ sl4
  have hp : p < (textsL es).length := by
    have : ¬ ((p : Int) = (X.length : Int)) := by simpa using hb3
    omega
  walk_at "zr"
  refine ⟨k, _, rfl, sl4.at sa, by decide, by decide, fun r5 ms7 r50 r51 sl5 => ?_⟩
  have sl5 := sl4.trans sl5
  have hs : ∃ (sg : Str) (s : Nat), atI ((([("a" : Str), " ", "\n", "7", "0", ".", "p", "-"] : List Str).map PyData.str).map SV.d) r5 = some (.d (.str sg)) ∧ tl sg = [s] ∧ s < 200 := by
    have : r5 = 0 ∨ r5 = 1 ∨ r5 = 2 ∨ r5 = 3 ∨ r5 = 4 ∨ r5 = 5 ∨ r5 = 6 ∨ r5 = 7 := by omega
    rcases this with rfl | rfl | rfl | rfl | rfl | rfl | rfl | rfl
    · exact ⟨_, 97, rfl, by decide +kernel, by decide⟩
    · exact ⟨_, 32, rfl, by decide +kernel, by decide⟩
    · exact ⟨_, 10, rfl, by decide +kernel, by decide⟩
    · exact ⟨_, 55, rfl, by decide +kernel, by decide⟩
    · exact ⟨_, 48, rfl, by decide +kernel, by decide⟩
    · exact ⟨_, 46, rfl, by decide +kernel, by decide⟩
    · exact ⟨_, 112, rfl, by decide +kernel, by decide⟩
    · exact ⟨_, 45, rfl, by decide +kernel, by decide⟩
  obtain ⟨sg, s, is_, ts, hs⟩ := hs
  refine z_raIxL rfl is_ ?_
  walk_at "zr"
  refine z_cut ?_
  walk_at "zr"
  refine z_raIxS (n := (textsL es)[p]) hz (atI_of (by omega) (by rw [show X.cps.toList = textsL es from hX, Int.toNat_natCast]; exact List.getElem?_eq_getElem hp)) ?_
  walk_at "zr"
  refine z_if (fun hb4 => ?_) (fun hb4 => ?_)
  · walk_at "zr"
    exact fin _ sl5
  have hne : (textsL es)[p] ≠ s := fun g => by
    rw [str_beq, ts, ← g] at hb4
    have : ([(textsL es)[p]] == [(textsL es)[p]]) = false := hb4
    rw [beq_self_eq_true] at this
    cases this
  walk_at "zr"
  refine ⟨X, rfl, hz, ?_⟩
  walk_at "zr"
  refine z_addT (cut_hi X p) ts (by rw [List.length_take, hX]; show min p _ + 1 ≤ 10000; omega) ?_
  walk_at "zr"
  refine ⟨X, rfl, hz, ?_⟩
  walk_at "zr"
  rw [show ((p : Int) + 1) = ((p + 1 : Nat) : Int) by omega]
  refine z_addT rfl (cut_lo X (p + 1)) (by rw [tl_mk, List.length_append, List.length_take, List.length_drop, hX]; show min p _ + 1 + _ ≤ 10000; omega) ?_
  walk_at "zr"
  have ex : ∀ z, tl (mk ((tl X).take p ++ [s] ++ (tl X).drop (p + 1))) = z → z = spoil (textsL es) p s := by
    intro z hz
    rw [← hz, tl_mk, hX]
    simp [spoil]
  refine ⟨es, p, rfl, ok, by omega, ?_⟩
  walk_at "zr"
  refine ⟨_, (es.take (wholeL es p)).map entD, rfl, ?_, ?_⟩
  · rw [take_cut, ← List.map_take, ← List.map_take]
    exact allD_of _
  walk_at "zr"
  refine ⟨_, es.take (wholeL es p), rfl, ?_, ?_, okt _, ?_, ?_⟩
  · rw [len_tl, ex _ rfl, spoil_len hp]; omega
  · intro c hc
    rw [ex _ rfl] at hc
    unfold spoil at hc
    rcases List.mem_append.mp hc with g | g
    · exact texts_lt ok c (List.mem_of_mem_take g)
    · rcases List.mem_cons.mp g with g | g
      · rw [g]; exact hs
      · exact texts_lt ok c (List.mem_of_mem_drop g)
  · rw [ex _ rfl]
    exact read_spoil ok hp hs hne
  walk_at "zr"
  exact fin _ sl5

end Lw

namespace Lw
open PySem PySem.Spec PyProof.Rows L2 Z TL
/-- one step -/
local macro_rules | `(tactic| walk_at "z") => `(tactic| first
  | ((with_reducible apply z_aVar); exact rfl)
  | with_reducible refine z_nx ?_
  | with_reducible refine z_kSeq ?_
  | with_reducible refine z_aSeq ?_
  | with_reducible refine z_aC ?_
  | with_reducible refine z_kOp2 ?_
  | with_reducible refine z_kOp1 ?_
  | with_reducible refine z_aOp ?_
  | with_reducible refine z_aB ?_
  | with_reducible refine z_kNot ?_
  | with_reducible refine z_aAnd ?_
  | with_reducible refine z_aOr ?_
  | with_reducible refine z_aNot ?_
  | with_reducible refine z_aAndV ?_
  | with_reducible refine z_aOrV ?_
  | with_reducible refine z_aNotV ?_
  | with_reducible refine z_aIf ?_
  | with_reducible refine z_aNil ?_
  | with_reducible refine z_kCons2 ?_
  | with_reducible refine z_kCons1 ?_
  | with_reducible refine z_aCons ?_
  | with_reducible refine z_kCB ?_
  | with_reducible refine z_aCB ?_
  | with_reducible refine z_aCall ?_
  | with_reducible refine z_aCallX ?_
  | with_reducible refine z_aBM0 ?_
  | with_reducible refine z_kBM2 ?_
  | with_reducible refine z_aBM ?_
  | with_reducible refine z_aName ?_
  | with_reducible refine z_kG ?_
  | with_reducible refine z_aNext ?_
  | with_reducible refine z_kDrop ?_
  | with_reducible refine z_aDrop ?_
  | with_reducible refine z_aRet ?_
  | with_reducible refine z_aRetN ?_
  | with_reducible refine z_aIfS ?_
  | with_reducible refine z_kAsg ?_
  | with_reducible refine z_aAsg ?_
  | with_reducible refine z_aBrk ?_
  | with_reducible refine z_aCont ?_
  | with_reducible refine z_aNever ?_
  | with_reducible refine z_aPar ?_
  | with_reducible refine z_kAug2 ?_
  | with_reducible refine z_kAug ?_
  | with_reducible refine z_aIL ?_
  | with_reducible refine z_aIT ?_
  | with_reducible refine z_aIR1 ?_
  | with_reducible refine z_aIR2 ?_
  | with_reducible refine z_aIS ?_
  | with_reducible refine z_aYes ?_
  | with_reducible refine z_aNoPart ?_
  | with_reducible refine z_aPart ?_
  | with_reducible refine z_kSl3 ?_
  | with_reducible refine z_kSl2 ?_
  | with_reducible refine z_kSl1 ?_
  | with_reducible refine z_aSl ?_
  | with_reducible refine z_aIsi ?_
  | with_reducible refine z_kSet2 ?_
  | with_reducible refine z_kSet1 ?_
  | with_reducible refine z_aSetL ?_
  | with_reducible refine z_aXT ?_
  | with_reducible refine z_aFrz ?_
  | with_reducible refine z_aUn ?_
  | with_reducible refine z_aTru ?_
  | with_reducible refine z_rt ?_
  | with_reducible refine z_bk ?_
  | with_reducible refine z_ct ?_
  | with_reducible refine z_kB ?_
  | with_reducible refine z_kNotV ?_
  | with_reducible refine z_ifT ?_
  | with_reducible refine z_ifF ?_
  | with_reducible refine z_ifeT ?_
  | with_reducible refine z_ifeF ?_
  | with_reducible refine z_andT ?_
  | with_reducible refine z_andF ?_
  | with_reducible refine z_orT ?_
  | with_reducible refine z_orF ?_
  | with_reducible refine z_raI0 ?_
  | with_reducible refine z_raB0 ?_
  | with_reducible refine z_raInt ?_
  | with_reducible refine z_raIntB ?_
  | with_reducible refine z_raOrd ?_
  | with_reducible refine z_raEqI ?_
  | with_reducible refine z_raNeI ?_
  | with_reducible refine z_raEqS ?_
  | with_reducible refine z_raNeS ?_
  | with_reducible refine z_raIsN ?_
  | with_reducible refine z_raNotN ?_
  | with_reducible refine z_kPart ?_
  | with_reducible refine z_kUn ?_
  | with_reducible refine z_kPar ?_
  | with_reducible refine z_ipAdd ?_
  | with_reducible refine z_ipSub ?_
  | with_reducible refine z_kCall ?_
  | with_reducible refine z_kCallX ?_
  | with_reducible refine z_aFor ?_
  | with_reducible refine z_kBody ?_
  | with_reducible refine z_aLc ?_
  | with_reducible refine z_kTurn ?_
  | with_reducible refine z_testT ?_
  | with_reducible refine z_kElt ?_
  | with_reducible refine z_kIS ?_
  | with_reducible refine z_finO ?_
  | with_reducible refine z_aGCons ?_
  | with_reducible refine z_aGNil ?_
  | ((with_reducible apply z_rTup); exact rfl; exact Evl.sz_of (by simp only [List.length_cons, List.length_nil]; omega))
  | ((with_reducible apply z_rLst); exact rfl; exact Evl.sz_of (by simp only [List.length_cons, List.length_nil]; omega))
  | ((with_reducible apply z_aAug); exact rfl)
  | ((with_reducible apply z_kIsi); exact rfl)
  | ((with_reducible apply z_aGTup); exact rfl; exact rfl)
  | ((with_reducible apply z_raIxLo); assumption; exact rfl)
  | ((with_reducible apply z_raIxL); exact rfl; exact rfl)
  | ((with_reducible apply z_raIxT); exact rfl; exact rfl)
  | with_reducible refine z_raLen lenA_l ?_
  | with_reducible refine z_raLen lenA_t ?_
  | ((with_reducible apply z_raLenO); assumption))
local macro_rules | `(tactic| walk_at "zr") => `(tactic| repeat (walk_at "z"))

theorem dv__law_state {P : Program} {w : World} {K : PySem.W.Frag} {mg : Str → Option Value} {base : Heap} (z_list : mg "list" = none) {f : Addr} {cdv : Value} {A : Around} {outer : List Env} {s : Shared} {H : Hp} {E : XK} (hr : Room 0 (A.deeper (envOfC "_law_state" (defScope s__law_state) s.heap.objs.size f cdv))) : PSs (cxOf CX0 P w K mg base N__law_state "_law_state" (defScope s__law_state) f cdv A outer s H E).nox (defBody s__law_state) (sL K (fun _ _ _ _ => False) b__law_state) := by
  have hu := hu_of hr
  exact (ss_one (s_ret (e_lstO (a_cons (e_callTy call_list_of co_list (by rfl) z_list (by decide +kernel) (a_cons (ev 0) a_nil)) (a_cons e_int (a_cons e_int (a_cons e_int (a_cons e_bl (a_cons e_int a_nil)))))))))
theorem dv__law_draw {P : Program} {w : World} {K : PySem.W.Frag} {mg : Str → Option Value} {base : Heap} (z_len : mg "len" = none) (z_int : mg "int" = none) {f : Addr} {cdv : Value} {A : Around} {outer : List Env} {s : Shared} {H : Hp} {E : XK} (hr : Room 0 (A.deeper (envOfC "_law_draw" (defScope s__law_draw) s.heap.objs.size f cdv))) : PSs (cxOf CX0 P w K mg base N__law_draw "_law_draw" (defScope s__law_draw) f cdv A outer s H E).nox (defBody s__law_draw) (sL K (fun _ _ _ _ => False) b__law_draw) := by
  have hu := hu_of hr
  exact (ss_cut (s_if (t_cmp op_eq co_eq (e_ix ix_list co_ixL (ev 0) e_int (fun _ _ => rfl)) e_int (nomark _)) (ss_cut (s_if (t_cmp op_ge co_B0 (e_ix ix_list co_ixL (ev 0) e_int (fun _ _ => rfl)) (e_callB call_len co_len (by rfl) z_len PySem.boot_len (a_cons (e_ix ix_list co_ixL (ev 0) e_int (fun _ _ => rfl)) a_nil)) (nomark _)) (ss_one (s_ret e_int)) ss_nil)
    (ss_cons (s_set (i := 2) sc__law_draw.nd rfl (Or.inl rfl) (e_ix ix_list co_ixL (e_ix ix_list co_ixL (ev 0) e_int (fun _ _ => rfl)) (e_ix ix_list co_ixL (ev 0) e_int (fun _ _ => rfl)) (fun _ _ => rfl)))
    (ss_cut (s_if (t_cmp op_lt co_B0 (ev 2) e_int (nomark _)) (ss_one (s_set (i := 2) sc__law_draw.nd rfl (Or.inl rfl) (e_op op_sub co_I0 (e_neg e_int) (ev 2)))) ss_nil)
    (ss_cons (s_setL (e_op op_add co_I0 (e_ix ix_list co_ixL (ev 0) e_int (fun _ _ => rfl)) e_int) (ev 0) e_int)
    (ss_cons (s_setL (ev 2) (ev 0) e_int)
    (ss_cons (s_setL (e_cmp op_ge co_B0 (ev 2) (e_op op_pow co_I e_int e_int) (nomark _)) (ev 0) e_int)
    (ss_cons (s_setL e_int (ev 0) e_int)
    (ss_one (s_if (t_val (e_ix ix_list co_ixL (ev 0) e_int (fun _ _ => rfl))) (ss_one (s_setL e_int (ev 0) e_int)) ss_nil))))))))) ss_nil)
    (ss_cons (s_setL (e_op op_sub co_I0 (e_ix ix_list co_ixL (ev 0) e_int (fun _ _ => rfl)) e_int) (ev 0) e_int)
    (ss_cut (s_if (t_val (e_ix ix_list co_ixL (ev 0) e_int (fun _ _ => rfl))) (ss_cons (s_set (i := 3) sc__law_draw.nd rfl (Or.inl rfl) (e_op op_mod co_I (e_callTy call_int1 co_int (by rfl) z_int (by decide +kernel) (a_cons (e_ix ix_list co_ixL (ev 0) e_int (fun _ _ => rfl)) a_nil)) (ev 1)))
    (ss_cons (s_setL (e_op op_fdivW co_I (e_ix ix_list co_ixL (ev 0) e_int (fun _ _ => rfl)) (ev 1)) (ev 0) e_int)
    (ss_cut (s_if (t_cmp op_eq co_eq (e_ix ix_list co_ixL (ev 0) e_int (fun _ _ => rfl)) e_int (nomark _)) (ss_one (s_setL e_int (ev 0) e_int)) ss_nil)
    (ss_one (s_ret (ev 3)))))) ss_nil)
    (ss_cons (s_set (i := 4) sc__law_draw.nd rfl (Or.inl rfl) (e_op op_mod co_I (e_callTy call_int1 co_int (by rfl) z_int (by decide +kernel) (a_cons (e_op op_add co_I0 (e_op op_add co_I0 (e_op op_mul co_I (e_ix ix_list co_ixL (ev 0) e_int (fun _ _ => rfl)) e_int) (e_op op_mul co_I (e_ix ix_list co_ixL (ev 0) e_int (fun _ _ => rfl)) e_int)) e_int) a_nil)) e_int))
    (ss_cons (s_set (i := 4) sc__law_draw.nd rfl (Or.inl rfl) (e_op op_mod co_I (e_callTy call_int1 co_int (by rfl) z_int (by decide +kernel) (a_cons (e_op op_add co_I0 (e_op op_add co_I0 (e_op op_mul co_I (ev 4) (ev 4)) (e_op op_mul co_I (e_ix ix_list co_ixL (ev 0) e_int (fun _ _ => rfl)) e_int)) (e_ix ix_list co_ixL (ev 0) e_int (fun _ _ => rfl))) a_nil)) e_int))
    (ss_one (s_ret (e_op op_mod co_I (e_callTy call_int1 co_int (by rfl) z_int (by decide +kernel) (a_cons (ev 4) a_nil)) (ev 1)))))))))
theorem dv_is_number {P : Program} {w : World} {K : PySem.W.Frag} {mg : Str → Option Value} {base : Heap} (c_MOST_DIGITS_h : ∃ t, mg "MOST_DIGITS" = some (.int 9 t)) (c_DIGITS_h : ∃ t, mg "DIGITS" = some (.str c_DIGITS t)) (z_len : mg "len" = none) {f : Addr} {cdv : Value} {A : Around} {outer : List Env} {s : Shared} {H : Hp} {E : XK} (hr : Room 0 (A.deeper (envOfC "is_number" (defScope s_is_number) s.heap.objs.size f cdv))) : PSs (cxOf CX0 P w K mg base N_is_number "is_number" (defScope s_is_number) f cdv A outer s H E).nox (defBody s_is_number) (sL K (fun _ _ _ _ => False) b_is_number) := by
  have hu := hu_of hr
  exact (ss_cut (s_if (t_w (w_or (t_cmp op_eq co_eq (ev 0) e_str (nomark _)) (w_or (t_cmp op_gt co_B0 (e_callB call_len co_len (by rfl) z_len PySem.boot_len (a_cons (ev 0) a_nil)) (e_gI c_MOST_DIGITS_h (by rfl)) (nomark _)) (w_or1 (t_cmp op_eq co_eq (e_ix ix_str co_ixS (ev 0) e_int (fun _ _ => rfl)) e_str (nomark _)))))) (ss_one (s_ret e_bl)) ss_nil)
    (ss_one (s_ret (e_cmp (op_eqD hr.units) co_eqD (e_lc (own := [("char", 1)]) (gt := gName 1) fin_D rfl sc_is_number.nd (i_str (ev 0)) (blkOk_by (own := [("char", 1)]) (N := N_is_number) (sc := defScope s_is_number) (by decide +kernel)) (fun _ _ _ _ _ => (pg_name (i := 1) sc_is_number.nd rfl (Or.inl rfl))) gr_name (gw_name (by decide)) (fun _ _ _ _ _ => (ts_one (t_cmp op_notInS co_notInS (ev 1) (e_gS c_DIGITS_h (by rfl)) (by rfl)))) (fun _ _ _ _ _ => (ev 1))) (e_lst a_nil) (nomark _)))))
theorem dv_sum_of {P : Program} {w : World} {K : PySem.W.Frag} {mg : Str → Option Value} {base : Heap} (c_START_h : ∃ t, mg "START" = some (.int 7 t)) (c_FACTOR_h : ∃ t, mg "FACTOR" = some (.int 31 t)) (c_MODULUS_h : ∃ t, mg "MODULUS" = some (.int 9973 t)) (z_ord : mg "ord" = none) {f : Addr} {cdv : Value} {A : Around} {outer : List Env} {s : Shared} {H : Hp} {E : XK} (hr : Room 0 (A.deeper (envOfC "sum_of" (defScope s_sum_of) s.heap.objs.size f cdv))) : PSs (cxOf CX0 P w K mg base N_sum_of "sum_of" (defScope s_sum_of) f cdv A outer s H E).nox (defBody s_sum_of) (sL K (fun _ _ _ _ => False) b_sum_of) := by
  have hu := hu_of hr
  exact (ss_cons (s_set (i := 1) sc_sum_of.nd rfl (Or.inl rfl) (e_gI c_START_h (by rfl)))
    (ss_cons (s_for (gt := gName 2) PassesOwn.never rfl (i_str (ev 0)) (pg_name (i := 2) sc_sum_of.nd rfl (Or.inl rfl)) gr_name (ss_one (s_set (i := 1) sc_sum_of.nd rfl (Or.inl rfl) (e_op op_mod co_I (e_op op_add co_I0 (e_op op_mul co_I (e_gI c_FACTOR_h (by rfl)) (ev 1)) (e_callB call_ord co_ord (by rfl) z_ord (by decide +kernel) (a_cons (ev 2) a_nil))) (e_gI c_MODULUS_h (by rfl))))))
    (ss_one (s_ret (ev 1)))))
theorem dv_parsed {P : Program} {w : World} {K : PySem.W.Frag} {mg : Str → Option Value} {base : Heap} (c_KINDS_h : ∃ a, mg "KINDS" = some (.ref a) ∧ ∀ H, SqT K H a (c_KINDS_s.map V.str)) (z_len : mg "len" = none) (z_str : mg "str" = none) (z_int : mg "int" = none) (h_is_number : Ok P w K mg base CX0 1 "is_number" ["text"] p_is_number) (h_sum_of : Ok P w K mg base CX0 1 "sum_of" ["text"] p_sum_of) {f : Addr} {cdv : Value} {A : Around} {outer : List Env} {s : Shared} {H : Hp} {E : XK} (hr : Room 1 (A.deeper (envOfC "parsed" (defScope s_parsed) s.heap.objs.size f cdv))) : PSs (cxOf CX0 P w K mg base N_parsed "parsed" (defScope s_parsed) f cdv A outer s H E).nox (defBody s_parsed) (sL K (fun _ _ _ _ => False) b_parsed) := by
  have hu := hu_of hr
  exact (ss_cons (s_set (i := 1) sc_parsed.nd rfl (Or.inl rfl) (e_bm PySem.F.plainAttrs_str PySem.F.slot_str_split PySem.F.type_str_split mt_split co_split (ev 0) (a_cons e_str a_nil)))
    (ss_cut (s_if (t_w (w_or (t_cmp op_ne co_ne (e_callB call_len co_len (by rfl) z_len PySem.boot_len (a_cons (ev 1) a_nil)) e_int (nomark _)) (w_or (t_cmp op_notIn_seq co_in (e_ix ix_list co_ixL (ev 1) e_int (fun _ _ => rfl)) (e_gT c_KINDS_h (by rfl)) (by rfl)) (w_or (t_cmp op_eq co_eq (e_ix ix_list co_ixL (ev 1) e_int (fun _ _ => rfl)) e_str (nomark _)) (w_or (t_cmp op_eq co_eq (e_ix ix_list co_ixL (ev 1) e_int (fun _ _ => rfl)) e_str (nomark _)) (w_or1 (t_not (t_val (e_callO h_is_number pass0 (hr.mono (by decide)) (by rfl) (a_cons (e_ix ix_list co_ixL (ev 1) e_int (fun _ _ => rfl)) a_nil)))))))))) (ss_one (s_ret e_non)) ss_nil)
    (ss_cut (s_if (t_cmp op_ne co_ne (e_callTy call_str_int co_str (by rfl) z_str (by decide +kernel) (a_cons (e_callO h_sum_of pass0 (hr.mono (by decide)) (by rfl) (a_cons (e_slice sl_str co_slS (ev 0) o_none (o_some (e_op op_sub co_I0 (e_callB call_len co_len (by rfl) z_len PySem.boot_len (a_cons (ev 0) a_nil)) (e_callB call_len co_len (by rfl) z_len PySem.boot_len (a_cons (e_ix ix_list co_ixL (ev 1) e_int (fun _ _ => rfl)) a_nil))))) a_nil)) a_nil)) (e_ix ix_list co_ixL (ev 1) e_int (fun _ _ => rfl)) (nomark _)) (ss_one (s_ret e_non)) ss_nil)
    (ss_one (s_ret (e_tup (a_cons (e_ix ix_list co_ixL (ev 1) e_int (fun _ _ => rfl)) (a_cons (e_ix ix_list co_ixL (ev 1) e_int (fun _ _ => rfl)) (a_cons (e_ix ix_list co_ixL (ev 1) e_int (fun _ _ => rfl)) (a_cons (e_callTy call_int_str co_intS (by rfl) z_int (by decide +kernel) (a_cons (e_ix ix_list co_ixL (ev 1) e_int (fun _ _ => rfl)) a_nil)) a_nil))))))))))
theorem dv_read_records {P : Program} {w : World} {K : PySem.W.Frag} {mg : Str → Option Value} {base : Heap} (h_parsed : Ok P w K mg base CX0 2 "parsed" ["line"] p_parsed) {f : Addr} {cdv : Value} {A : Around} {outer : List Env} {s : Shared} {H : Hp} {E : XK} (hr : Room 2 (A.deeper (envOfC "read_records" (defScope s_read_records) s.heap.objs.size f cdv))) : PSs (cxOf CX0 P w K mg base N_read_records "read_records" (defScope s_read_records) f cdv A outer s H E).nox (defBody s_read_records) (sL K (fun _ _ _ _ => False) b_read_records) := by
  have hu := hu_of hr
  exact (ss_cons (s_set (i := 1) sc_read_records.nd rfl (Or.inl rfl) (e_lstO a_nil))
    (ss_cons (s_set (i := 2) sc_read_records.nd rfl (Or.inl rfl) (e_bm PySem.F.plainAttrs_str PySem.F.slot_str_split PySem.F.type_str_split mt_split co_split (ev 0) (a_cons e_str a_nil)))
    (ss_cons (s_for (gt := gName 3) PassesOwn.never rfl (i_list (e_slice sl_list co_slL (ev 2) o_none (o_some (e_neg e_int)))) (pg_name (i := 3) sc_read_records.nd rfl (Or.inl rfl)) gr_name (ss_cons (s_set (i := 4) sc_read_records.nd rfl (Or.inl rfl) (e_callO h_parsed pass0 (hr.mono (by decide)) (by rfl) (a_cons (ev 3) a_nil)))
    (ss_cut (s_if (t_cmp op_isN co_isN (ev 4) e_non (nomark _)) (ss_one s_break) ss_nil)
    (ss_one (s_expr (e_bm PySem.F.plainAttrs_list PySem.F.slot_list_append PySem.F.type_list_append mt_append co_append (ev 1) (a_cons (ev 4) a_nil)))))))
    (ss_one (s_ret (e_frz (ev 1)))))))
theorem dv__law_reads {P : Program} {w : World} {K : PySem.W.Frag} {mg : Str → Option Value} {base : Heap} (z_isinstance : mg "isinstance" = none) (z_list : mg "list" = none) (z_int : mg "int" = none) (z_bool : mg "bool" = none) (z_len : mg "len" = none) (h_read_records : Ok P w K mg base CX0 3 "read_records" ["text"] p_read_records) {f : Addr} {cdv : Value} {A : Around} {outer : List Env} {s : Shared} {H : Hp} {E : XK} (hr : Room 3 (A.deeper (envOfC "_law_reads" (defScope s__law_reads) s.heap.objs.size f cdv))) : PSs (cxOf CX0 P w K mg base N__law_reads "_law_reads" (defScope s__law_reads) f cdv A outer s H E).nox (defBody s__law_reads) (sL K (fun _ _ _ _ => False) b__law_reads) := by
  have hu := hu_of hr
  exact (ss_cons (s_set (i := 2) sc__law_reads.nd rfl (Or.inl rfl) (e_callO h_read_records pass0 (hr.mono (by decide)) (by rfl) (a_cons (ev 0) a_nil)))
    (ss_cut (s_if (t_w (w_or (t_not (t_val (e_isi (by rfl) z_isinstance boot_isinstance (ev 2) (by rfl) z_list (by decide +kernel)))) (w_or1 (t_cmp (op_neD hr.units) co_neD (ev 2) (ev 1) (nomark _))))) (ss_one (s_ret e_bl)) ss_nil)
    (ss_one (s_ret (e_cmp op_eq co_eq (e_callB call_len co_len (by rfl) z_len PySem.boot_len (a_cons (e_lc (own := [("one", 3)]) (gt := gName 3) fin_D rfl sc__law_reads.nd (i_list (ev 2)) (blkOk_by (own := [("one", 3)]) (N := N__law_reads) (sc := defScope s__law_reads) (by decide +kernel)) (fun _ _ _ _ _ => (pg_name (i := 3) sc__law_reads.nd rfl (Or.inl rfl))) gr_name (gw_name (by decide)) (fun _ _ _ _ _ => (ts_one (t_w (w_or (t_not (t_val (e_isi (by rfl) z_isinstance boot_isinstance (e_ix ix_tup co_ixT (ev 3) e_int (fun _ _ => rfl)) (by rfl) z_int (by decide +kernel)))) (w_or1 (t_val (e_isi (by rfl) z_isinstance boot_isinstance (e_ix ix_tup co_ixT (ev 3) e_int (fun _ _ => rfl)) (by rfl) z_bool (by decide +kernel)))))))) (fun _ _ _ _ _ => (ev 3))) a_nil)) e_int (nomark _))))))
theorem dv__law_name {P : Program} {w : World} {K : PySem.W.Frag} {mg : Str → Option Value} {base : Heap} (z_int : mg "int" = none) (h__law_draw : Ok P w K mg base CX0 1 "_law_draw" ["state", "limit"] p__law_draw) {f : Addr} {cdv : Value} {A : Around} {outer : List Env} {s : Shared} {H : Hp} {E : XK} (hr : Room 1 (A.deeper (envOfC "_law_name" (defScope s__law_name) s.heap.objs.size f cdv))) : PSs (cxOf CX0 P w K mg base N__law_name "_law_name" (defScope s__law_name) f cdv A outer s H E).nox (defBody s__law_name) (sL K (fun _ _ _ _ => False) b__law_name) := by
  have hu := hu_of hr
  exact (ss_cons (s_set (i := 1) sc__law_name.nd rfl (Or.inl rfl) e_str)
    (ss_cons (s_set (i := 2) sc__law_name.nd rfl (Or.inl rfl) (e_op op_add_str co_addS (ev 1) e_str))
    (ss_cons (s_set (i := 3) sc__law_name.nd rfl (Or.inl rfl) (e_callO h__law_draw pass0 (hr.mono (by decide)) (by rfl) (a_cons (ev 0) (a_cons e_int a_nil))))
    (ss_cons (s_set (i := 4) sc__law_name.nd rfl (Or.inl rfl) (e_ix ix_str co_ixS (ev 1) (e_op op_mod co_I (e_callTy call_int1 co_int (by rfl) z_int (by decide +kernel) (a_cons (e_op op_fdiv co_I (ev 3) e_int) a_nil)) e_int) (fun _ _ => rfl)))
    (ss_cons (s_set (i := 5) sc__law_name.nd rfl (Or.inl rfl) (e_op op_add_str co_addS (e_op op_add_str co_addS (e_ix ix_str co_ixS (ev 2) (e_op op_mod co_I (e_callTy call_int1 co_int (by rfl) z_int (by decide +kernel) (a_cons (e_op op_fdiv co_I (ev 3) e_int) a_nil)) e_int) (fun _ _ => rfl)) (e_ix ix_str co_ixS (ev 2) (e_op op_mod co_I (e_callTy call_int1 co_int (by rfl) z_int (by decide +kernel) (a_cons (e_op op_fdiv co_I (ev 3) e_int) a_nil)) e_int) (fun _ _ => rfl))) (e_ix ix_str co_ixS (ev 2) (e_op op_mod co_I (e_callTy call_int1 co_int (by rfl) z_int (by decide +kernel) (a_cons (ev 3) a_nil)) e_int) (fun _ _ => rfl))))
    (ss_cut (s_if (t_cmp op_eq co_eq (e_callO h__law_draw pass0 (hr.mono (by decide)) (by rfl) (a_cons (ev 0) (a_cons e_int a_nil))) e_int (nomark _)) (ss_one (s_set (i := 4) sc__law_name.nd rfl (Or.inl rfl) (e_slice sl_str co_slS (e_op op_add_str co_addS (ev 4) (e_op op_mulS co_mulS (ev 5) e_int)) o_none (o_some (e_op op_add co_I0 e_int (e_callO h__law_draw pass0 (hr.mono (by decide)) (by rfl) (a_cons (ev 0) (a_cons e_int a_nil)))))))) (ss_one (s_set (i := 4) sc__law_name.nd rfl (Or.inl rfl) (e_op op_add_str co_addS (ev 4) (e_slice sl_str co_slS (ev 5) o_none (o_some (e_op op_mod co_I (e_callTy call_int1 co_int (by rfl) z_int (by decide +kernel) (a_cons (ev 3) a_nil)) e_int)))))))
    (ss_cut (s_if (t_cmp op_in_seq co_in (ev 4) (e_lst (a_cons e_str (a_cons e_str (a_cons e_str (a_cons e_str (a_cons e_str (a_cons e_str a_nil))))))) (by rfl)) (ss_one (s_ret (e_op op_add_str co_addS (ev 4) e_str))) ss_nil)
    (ss_one (s_ret (ev 4))))))))))
theorem dv__law_record {P : Program} {w : World} {K : PySem.W.Frag} {mg : Str → Option Value} {base : Heap} (h__law_draw : Ok P w K mg base CX0 1 "_law_draw" ["state", "limit"] p__law_draw) (h__law_name : Ok P w K mg base CX0 2 "_law_name" ["state"] p__law_name) {f : Addr} {cdv : Value} {A : Around} {outer : List Env} {s : Shared} {H : Hp} {E : XK} (hr : Room 2 (A.deeper (envOfC "_law_record" (defScope s__law_record) s.heap.objs.size f cdv))) : PSs (cxOf CX0 P w K mg base N__law_record "_law_record" (defScope s__law_record) f cdv A outer s H E).nox (defBody s__law_record) (sL K (fun _ _ _ _ => False) b__law_record) := by
  have hu := hu_of hr
  exact (ss_cons (s_set (i := 1) sc__law_record.nd rfl (Or.inl rfl) (e_ix ix_str co_ixS e_str (e_callO h__law_draw pass0 (hr.mono (by decide)) (by rfl) (a_cons (ev 0) (a_cons e_int a_nil))) (fun _ _ => rfl)))
    (ss_cons (s_set (i := 2) sc__law_record.nd rfl (Or.inl rfl) (e_callO h__law_name pass0 (hr.mono (by decide)) (by rfl) (a_cons (ev 0) a_nil)))
    (ss_cons (s_set (i := 3) sc__law_record.nd rfl (Or.inl rfl) (e_callO h__law_name pass0 (hr.mono (by decide)) (by rfl) (a_cons (ev 0) a_nil)))
    (ss_cut (s_if (t_cmp op_eq co_eq (e_callO h__law_draw pass0 (hr.mono (by decide)) (by rfl) (a_cons (ev 0) (a_cons e_int a_nil))) e_int (nomark _)) (ss_one (s_set (i := 3) sc__law_record.nd rfl (Or.inl rfl) (e_ix ix_list co_ixL (e_lst (a_cons e_str (a_cons (e_op op_add_str co_addS (e_op op_add_str co_addS (ev 3) e_str) (ev 2)) a_nil))) (e_callO h__law_draw pass0 (hr.mono (by decide)) (by rfl) (a_cons (ev 0) (a_cons e_int a_nil))) (fun _ _ => rfl)))) ss_nil)
    (ss_cons (s_set (i := 4) sc__law_record.nd rfl (Or.inl rfl) (e_op op_add co_I0 e_int (e_callO h__law_draw pass0 (hr.mono (by decide)) (by rfl) (a_cons (ev 0) (a_cons (e_ix ix_list co_ixL (e_lst (a_cons e_int (a_cons e_int a_nil))) (e_callO h__law_draw pass0 (hr.mono (by decide)) (by rfl) (a_cons (ev 0) (a_cons e_int a_nil))) (fun _ _ => rfl)) a_nil)))))
    (ss_one (s_ret (e_tup (a_cons (ev 1) (a_cons (ev 2) (a_cons (ev 3) (a_cons (ev 4) a_nil))))))))))))
theorem dv__law_sum {P : Program} {w : World} {K : PySem.W.Frag} {mg : Str → Option Value} {base : Heap} (z_ord : mg "ord" = none) (z_int : mg "int" = none) {f : Addr} {cdv : Value} {A : Around} {outer : List Env} {s : Shared} {H : Hp} {E : XK} (hr : Room 0 (A.deeper (envOfC "_law_sum" (defScope s__law_sum) s.heap.objs.size f cdv))) : PSs (cxOf CX0 P w K mg base N__law_sum "_law_sum" (defScope s__law_sum) f cdv A outer s H E).nox (defBody s__law_sum) (sL K (fun _ _ _ _ => False) b__law_sum) := by
  have hu := hu_of hr
  exact (ss_cons (s_set (i := 1) sc__law_sum.nd rfl (Or.inl rfl) e_int)
    (ss_cons (s_for (gt := gName 2) PassesOwn.never rfl (i_str (ev 0)) (pg_name (i := 2) sc__law_sum.nd rfl (Or.inl rfl)) gr_name (ss_one (s_set (i := 1) sc__law_sum.nd rfl (Or.inl rfl) (e_op op_mod co_I (e_callTy call_int1 co_int (by rfl) z_int (by decide +kernel) (a_cons (e_op op_add co_I0 (e_op op_mul co_I (ev 1) e_int) (e_callB call_ord co_ord (by rfl) z_ord (by decide +kernel) (a_cons (ev 2) a_nil))) a_nil)) e_int))))
    (ss_one (s_ret (ev 1)))))
theorem dv__law_text {P : Program} {w : World} {K : PySem.W.Frag} {mg : Str → Option Value} {base : Heap} (z_str : mg "str" = none) (h__law_sum : Ok P w K mg base CX0 1 "_law_sum" ["text"] p__law_sum) {f : Addr} {cdv : Value} {A : Around} {outer : List Env} {s : Shared} {H : Hp} {E : XK} (hr : Room 1 (A.deeper (envOfC "_law_text" (defScope s__law_text) s.heap.objs.size f cdv))) : PSs (cxOf CX0 P w K mg base N__law_text "_law_text" (defScope s__law_text) f cdv A outer s H E).nox (defBody s__law_text) (sL K (fun _ _ _ _ => False) b__law_text) := by
  have hu := hu_of hr
  exact (ss_cons (s_set (i := 1) sc__law_text.nd rfl (Or.inl rfl) (e_op op_add_str co_addS (e_op op_add_str co_addS (e_op op_add_str co_addS (e_op op_add_str co_addS (e_op op_add_str co_addS (e_op op_add_str co_addS (e_op op_add_str co_addS (e_ix ix_tup co_ixT (ev 0) e_int (fun _ _ => rfl)) e_str) (e_ix ix_tup co_ixT (ev 0) e_int (fun _ _ => rfl))) e_str) (e_ix ix_tup co_ixT (ev 0) e_int (fun _ _ => rfl))) e_str) (e_callTy call_str_int co_str (by rfl) z_str (by decide +kernel) (a_cons (e_ix ix_tup co_ixT (ev 0) e_int (fun _ _ => rfl)) a_nil))) e_str))
    (ss_one (s_ret (e_op op_add_str co_addS (e_op op_add_str co_addS (ev 1) (e_callTy call_str_int co_str (by rfl) z_str (by decide +kernel) (a_cons (e_callO h__law_sum pass0 (hr.mono (by decide)) (by rfl) (a_cons (ev 1) a_nil)) a_nil))) e_str))))
theorem dv_record {P : Program} {w : World} {K : PySem.W.Frag} {mg : Str → Option Value} {base : Heap} (z_str : mg "str" = none) (h_sum_of : Ok P w K mg base CX0 1 "sum_of" ["text"] p_sum_of) {f : Addr} {cdv : Value} {A : Around} {outer : List Env} {s : Shared} {H : Hp} {E : XK} (hr : Room 1 (A.deeper (envOfC "record" (defScope s_record) s.heap.objs.size f cdv))) : PSs (cxOf CX0 P w K mg base N_record "record" (defScope s_record) f cdv A outer s H E).nox (defBody s_record) (sL K (fun _ _ _ _ => False) b_record) := by
  have hu := hu_of hr
  exact (ss_cons (s_set (i := 4) sc_record.nd rfl (Or.inl rfl) (e_op op_add_str co_addS (e_op op_add_str co_addS (e_op op_add_str co_addS (e_op op_add_str co_addS (e_op op_add_str co_addS (e_op op_add_str co_addS (e_op op_add_str co_addS (ev 0) e_str) (ev 1)) e_str) (ev 2)) e_str) (e_callTy call_str_int co_str (by rfl) z_str (by decide +kernel) (a_cons (ev 3) a_nil))) e_str))
    (ss_one (s_ret (e_op op_add_str co_addS (e_op op_add_str co_addS (ev 4) (e_callTy call_str_int co_str (by rfl) z_str (by decide +kernel) (a_cons (e_callO h_sum_of pass0 (hr.mono (by decide)) (by rfl) (a_cons (ev 4) a_nil)) a_nil))) e_str))))
theorem dv__law_whole {P : Program} {w : World} {K : PySem.W.Frag} {mg : Str → Option Value} {base : Heap} (z_len : mg "len" = none) {f : Addr} {cdv : Value} {A : Around} {outer : List Env} {s : Shared} {H : Hp} {E : XK} (hr : Room 0 (A.deeper (envOfC "_law_whole" (defScope s__law_whole) s.heap.objs.size f cdv))) : PSs (cxOf CX0 P w K mg base N__law_whole "_law_whole" (defScope s__law_whole) f cdv A outer s H E).nox (defBody s__law_whole) (sL K (fun _ _ _ _ => False) b__law_whole) := by
  have hu := hu_of hr
  exact (ss_cons (s_set (i := 2) sc__law_whole.nd rfl (Or.inl rfl) e_int)
    (ss_cons (s_set (i := 3) sc__law_whole.nd rfl (Or.inl rfl) e_int)
    (ss_cons (s_for (gt := gName 4) PassesOwn.never rfl (i_list (ev 0)) (pg_name (i := 4) sc__law_whole.nd rfl (Or.inl rfl)) gr_name (ss_cons (s_set (i := 3) sc__law_whole.nd rfl (Or.inl rfl) (e_op op_add co_I0 (ev 3) (e_callB call_len co_len (by rfl) z_len PySem.boot_len (a_cons (ev 4) a_nil))))
    (ss_one (s_if (t_cmp op_le co_B0 (ev 3) (ev 1) (nomark _)) (ss_one (s_set (i := 2) sc__law_whole.nd rfl (Or.inl rfl) (e_op op_add co_I0 (ev 2) e_int))) ss_nil))))
    (ss_one (s_ret (ev 2))))))
theorem dv_law {P : Program} {w : World} {K : PySem.W.Frag} {mg : Str → Option Value} {base : Heap} (z_range : mg "range" = none) (z_len : mg "len" = none) (z_isinstance : mg "isinstance" = none) (z_str : mg "str" = none) (z_int : mg "int" = none) (h__law_state : Ok P w K mg base CX0 1 "_law_state" ["script"] p__law_state) (h__law_draw : Ok P w K mg base CX0 1 "_law_draw" ["state", "limit"] p__law_draw) (h__law_record : Ok P w K mg base CX0 3 "_law_record" ["state"] p__law_record) (h__law_text : Ok P w K mg base CX0 2 "_law_text" ["entry"] p__law_text) (h_record : Ok P w K mg base CX0 2 "record" ["kind", "other", "label", "number"] p_record) (h__law_reads : Ok P w K mg base CX0 4 "_law_reads" ["text", "due"] p__law_reads) (h__law_whole : Ok P w K mg base CX0 1 "_law_whole" ["texts", "length"] p__law_whole) (h__law_sum : Ok P w K mg base CX0 1 "_law_sum" ["text"] p__law_sum) {f : Addr} {cdv : Value} {A : Around} {outer : List Env} {s : Shared} {H : Hp} {E : XK} (hr : Room 4 (A.deeper (envOfC "law" (defScope s_law) s.heap.objs.size f cdv))) : PSs (cxOf CX0 P w K mg base N_law "law" (defScope s_law) f cdv A outer s H E).nox (defBody s_law) (sL K (fun _ _ _ _ => False) b_law) := by
  have hu := hu_of hr
  exact (ss_cons (s_set (i := 1) sc_law.nd rfl (Or.inr rfl) (e_callO h__law_state pass0 (hr.mono (by decide)) (by rfl) (a_cons (ev 0) a_nil)))
    (ss_cons (s_setLc (i := 3) (own := [("k", 2)]) (gt := gName 2) fin_D rfl sc_law.nd rfl rfl (sw_true rfl rfl rfl (by decide +kernel)) (i_range1 (by rfl) z_range (a_cons (e_op op_add co_I0 e_int (e_callO h__law_draw pass0 (hr.mono (by decide)) (by rfl) (a_cons (ev 1) (a_cons e_int a_nil)))) a_nil)) (blkOk_by (own := [("k", 2)]) (N := N_law) (sc := defScope s_law) (by decide +kernel)) (fun _ _ _ _ _ => (pg_name (i := 2) sc_law.nd rfl (Or.inl rfl))) gr_name (gw_name (by decide)) (fun _ _ _ _ _ => ts_nil) (fun _ _ _ _ _ => (e_callO h__law_record pass0 (hr.mono (by decide)) (by rfl) (a_cons (ev 1) a_nil))))
    (ss_cons (s_setLc (i := 4) (own := [("entry", 14)]) (gt := gName 14) fin_D rfl sc_law.nd rfl rfl (sw_true rfl rfl rfl (by decide +kernel)) (i_list (ev 3)) (blkOk_by (own := [("entry", 14)]) (N := N_law) (sc := defScope s_law) (by decide +kernel)) (fun _ _ _ _ _ => (pg_name (i := 14) sc_law.nd rfl (Or.inl rfl))) gr_name (gw_name (by decide)) (fun _ _ _ _ _ => ts_nil) (fun _ _ _ _ _ => (e_callO h__law_text pass0 (hr.mono (by decide)) (by rfl) (a_cons (ev 14) a_nil))))
    (ss_cons (s_for (gt := gName 2) PassesOwn.never rfl (i_range1 (by rfl) z_range (a_cons (e_callB call_len co_len (by rfl) z_len PySem.boot_len (a_cons (ev 3) a_nil)) a_nil)) (pg_name (i := 2) sc_law.nd rfl (Or.inl rfl)) gr_name (ss_cons (s_set (i := 5) sc_law.nd rfl (Or.inl rfl) (e_callO h_record pass0 (hr.mono (by decide)) (by rfl) (a_cons (e_ix ix_tup co_ixT (e_ix ix_list co_ixL (ev 3) (ev 2) (fun _ _ => rfl)) e_int (fun _ _ => rfl)) (a_cons (e_ix ix_tup co_ixT (e_ix ix_list co_ixL (ev 3) (ev 2) (fun _ _ => rfl)) e_int (fun _ _ => rfl)) (a_cons (e_ix ix_tup co_ixT (e_ix ix_list co_ixL (ev 3) (ev 2) (fun _ _ => rfl)) e_int (fun _ _ => rfl)) (a_cons (e_ix ix_tup co_ixT (e_ix ix_list co_ixL (ev 3) (ev 2) (fun _ _ => rfl)) e_int (fun _ _ => rfl)) a_nil))))))
    (ss_one (s_if (t_w (w_or (t_not (t_val (e_isi (by rfl) z_isinstance boot_isinstance (ev 5) (by rfl) z_str (by decide +kernel)))) (w_or1 (t_cmp op_ne co_ne (ev 5) (e_ix ix_list co_ixL (ev 4) (ev 2) (fun _ _ => rfl)) (nomark _))))) (ss_one (s_ret e_bl)) ss_nil))))
    (ss_cons (s_set (i := 6) sc_law.nd rfl (Or.inl rfl) (e_bm PySem.F.plainAttrs_str PySem.F.slot_str_join PySem.F.type_str_join mt_join co_join e_str (a_cons (ev 4) a_nil)))
    (ss_cons (s_set (i := 7) sc_law.nd rfl (Or.inl rfl) (e_callO h__law_draw pass0 (hr.mono (by decide)) (by rfl) (a_cons (ev 1) (a_cons e_int a_nil))))
    (ss_cons (s_set (i := 8) sc_law.nd rfl (Or.inl rfl) (e_callO h__law_draw pass0 (hr.mono (by decide)) (by rfl) (a_cons (ev 1) (a_cons (e_op op_add co_I0 (e_callB call_len co_len (by rfl) z_len PySem.boot_len (a_cons (ev 6) a_nil)) e_int) a_nil))))
    (ss_cut (s_if (t_cmp op_eq co_eq (ev 7) e_int (nomark _)) (ss_one (s_ret (e_callO h__law_reads pass0 (hr.mono (by decide)) (by rfl) (a_cons (ev 6) (a_cons (ev 3) a_nil))))) ss_nil)
    (ss_cut (s_if (t_cmp op_eq co_eq (ev 7) e_int (nomark _)) (ss_one (s_ret (e_callO h__law_reads pass0 (hr.mono (by decide)) (by rfl) (a_cons (e_slice sl_str co_slS (ev 6) o_none (o_some (ev 8))) (a_cons (e_slice sl_list co_slL (ev 3) o_none (o_some (e_callO h__law_whole pass0 (hr.mono (by decide)) (by rfl) (a_cons (ev 4) (a_cons (ev 8) a_nil))))) a_nil))))) ss_nil)
    (ss_cut (s_if (t_cmp op_eq co_eq (ev 7) e_int (nomark _)) (ss_cons (s_set (i := 9) sc_law.nd rfl (Or.inl rfl) (e_lst (a_cons e_str (a_cons e_str (a_cons e_str (a_cons e_str (a_cons e_str (a_cons e_str (a_cons e_str (a_cons e_str (a_cons e_str a_nil)))))))))))
    (ss_cons (s_set (i := 9) sc_law.nd rfl (Or.inl rfl) (e_op op_cat co_cat (ev 9) (e_lst (a_cons e_str (a_cons e_str (a_cons e_str (a_cons e_str a_nil)))))))
    (ss_cons (s_set (i := 9) sc_law.nd rfl (Or.inl rfl) (e_op op_cat co_cat (ev 9) (e_lst (a_cons e_str (a_cons e_str (a_cons e_str (a_cons e_str (a_cons e_str a_nil))))))))
    (ss_cons (s_set (i := 10) sc_law.nd rfl (Or.inl rfl) (e_ix ix_list co_ixL (ev 9) (e_callO h__law_draw pass0 (hr.mono (by decide)) (by rfl) (a_cons (ev 1) (a_cons e_int a_nil))) (fun _ _ => rfl)))
    (ss_cons (s_set (i := 10) sc_law.nd rfl (Or.inl rfl) (e_op op_add_str co_addS (e_op op_add_str co_addS (ev 10) (e_callTy call_str_int co_str (by rfl) z_str (by decide +kernel) (a_cons (e_callO h__law_sum pass0 (hr.mono (by decide)) (by rfl) (a_cons (e_ix ix_list co_ixL (e_lst (a_cons e_str (a_cons (ev 10) a_nil))) (e_callTy call_int1 co_int (by rfl) z_int (by decide +kernel) (a_cons (e_cmp op_ne co_ne (ev 10) e_str (nomark _)) a_nil)) (fun _ _ => rfl)) a_nil)) a_nil))) e_str))
    (ss_cons (s_set (i := 11) sc_law.nd rfl (Or.inl rfl) (e_lst (a_cons e_str (a_cons e_str (a_cons e_str (a_cons e_str (a_cons e_str (a_cons e_str (a_cons (ev 10) (a_cons (ev 10) (a_cons (ev 10) a_nil)))))))))))
    (ss_one (s_ret (e_callO h__law_reads pass0 (hr.mono (by decide)) (by rfl) (a_cons (e_op op_add_str co_addS (e_op op_add_str co_addS (ev 6) (e_ix ix_list co_ixL (ev 11) (e_callO h__law_draw pass0 (hr.mono (by decide)) (by rfl) (a_cons (ev 1) (a_cons e_int a_nil))) (fun _ _ => rfl))) (e_ix ix_list co_ixL (e_lst (a_cons e_str (a_cons (e_callO h__law_text pass0 (hr.mono (by decide)) (by rfl) (a_cons (e_callO h__law_record pass0 (hr.mono (by decide)) (by rfl) (a_cons (ev 1) a_nil)) a_nil)) a_nil))) (e_callO h__law_draw pass0 (hr.mono (by decide)) (by rfl) (a_cons (ev 1) (a_cons e_int a_nil))) (fun _ _ => rfl))) (a_cons (ev 3) a_nil))))))))))) ss_nil)
    (ss_cut (s_if (t_cmp op_eq co_eq (ev 8) (e_callB call_len co_len (by rfl) z_len PySem.boot_len (a_cons (ev 6) a_nil)) (nomark _)) (ss_one (s_ret e_bl)) ss_nil)
    (ss_cons (s_set (i := 12) sc_law.nd rfl (Or.inl rfl) (e_ix ix_list co_ixL (e_lst (a_cons e_str (a_cons e_str (a_cons e_str (a_cons e_str (a_cons e_str (a_cons e_str (a_cons e_str (a_cons e_str a_nil))))))))) (e_callO h__law_draw pass0 (hr.mono (by decide)) (by rfl) (a_cons (ev 1) (a_cons e_int a_nil))) (fun _ _ => rfl)))
    (ss_cut (s_if (t_cmp op_eq co_eq (e_ix ix_str co_ixS (ev 6) (ev 8) (fun _ _ => rfl)) (ev 12) (nomark _)) (ss_one (s_ret e_bl)) ss_nil)
    (ss_cons (s_set (i := 13) sc_law.nd rfl (Or.inl rfl) (e_op op_add_str co_addS (e_op op_add_str co_addS (e_slice sl_str co_slS (ev 6) o_none (o_some (ev 8))) (ev 12)) (e_slice sl_str co_slS (ev 6) (o_some (e_op op_add co_I0 (ev 8) e_int)) o_none)))
    (ss_one (s_ret (e_callO h__law_reads pass0 (hr.mono (by decide)) (by rfl) (a_cons (ev 13) (a_cons (e_slice sl_list co_slL (ev 3) o_none (o_some (e_callO h__law_whole pass0 (hr.mono (by decide)) (by rfl) (a_cons (ev 4) (a_cons (ev 8) a_nil))))) a_nil)))))))))))))))))))
theorem ok__law_state {P : Program} {w : World} {K : PySem.W.Frag} {mg : Str → Option Value} {base : Heap} (D : DefAt K mg "_law_state" s__law_state) (z_list : mg "list" = none) : Ok P w K mg base CX0 1 "_law_state" ["script"] p__law_state :=
  D.ok (fun fd F => F.bindsN fun _ _ _ _ _ _ us hl => match us, hl with | [_], _ => rfl) fun fd F => ok0 F sc__law_state 1 rfl len__law_state (fun cdv A outer s H E hr => dv__law_state z_list hr) rd__law_state
theorem ok__law_draw {P : Program} {w : World} {K : PySem.W.Frag} {mg : Str → Option Value} {base : Heap} (D : DefAt K mg "_law_draw" s__law_draw) (z_len : mg "len" = none) (z_int : mg "int" = none) : Ok P w K mg base CX0 1 "_law_draw" ["state", "limit"] p__law_draw :=
  D.ok (fun fd F => F.bindsN fun _ _ _ _ _ _ us hl => match us, hl with | [_, _], _ => rfl) fun fd F => ok0 F sc__law_draw 5 rfl len__law_draw (fun cdv A outer s H E hr => dv__law_draw z_len z_int hr) rd__law_draw
theorem ok_is_number {P : Program} {w : World} {K : PySem.W.Frag} {mg : Str → Option Value} {base : Heap} (D : DefAt K mg "is_number" s_is_number) (c_MOST_DIGITS_h : ∃ t, mg "MOST_DIGITS" = some (.int 9 t)) (c_DIGITS_h : ∃ t, mg "DIGITS" = some (.str c_DIGITS t)) (z_len : mg "len" = none) : Ok P w K mg base CX0 1 "is_number" ["text"] p_is_number :=
  D.ok (fun fd F => F.bindsN fun _ _ _ _ _ _ us hl => match us, hl with | [_], _ => rfl) fun fd F => ok0 F sc_is_number 2 rfl len_is_number (fun cdv A outer s H E hr => dv_is_number c_MOST_DIGITS_h c_DIGITS_h z_len hr) rd_is_number
theorem ok_sum_of {P : Program} {w : World} {K : PySem.W.Frag} {mg : Str → Option Value} {base : Heap} (D : DefAt K mg "sum_of" s_sum_of) (c_START_h : ∃ t, mg "START" = some (.int 7 t)) (c_FACTOR_h : ∃ t, mg "FACTOR" = some (.int 31 t)) (c_MODULUS_h : ∃ t, mg "MODULUS" = some (.int 9973 t)) (z_ord : mg "ord" = none) : Ok P w K mg base CX0 1 "sum_of" ["text"] p_sum_of :=
  D.ok (fun fd F => F.bindsN fun _ _ _ _ _ _ us hl => match us, hl with | [_], _ => rfl) fun fd F => ok0 F sc_sum_of 3 rfl len_sum_of (fun cdv A outer s H E hr => dv_sum_of c_START_h c_FACTOR_h c_MODULUS_h z_ord hr) rd_sum_of
theorem ok_parsed {P : Program} {w : World} {K : PySem.W.Frag} {mg : Str → Option Value} {base : Heap} (D : DefAt K mg "parsed" s_parsed) (c_KINDS_h : ∃ a, mg "KINDS" = some (.ref a) ∧ ∀ H, SqT K H a (c_KINDS_s.map V.str)) (z_len : mg "len" = none) (z_str : mg "str" = none) (z_int : mg "int" = none) (h_is_number : Ok P w K mg base CX0 1 "is_number" ["text"] p_is_number) (h_sum_of : Ok P w K mg base CX0 1 "sum_of" ["text"] p_sum_of) : Ok P w K mg base CX0 2 "parsed" ["line"] p_parsed :=
  D.ok (fun fd F => F.bindsN fun _ _ _ _ _ _ us hl => match us, hl with | [_], _ => rfl) fun fd F => ok0 F sc_parsed 2 rfl len_parsed (fun cdv A outer s H E hr => dv_parsed c_KINDS_h z_len z_str z_int h_is_number h_sum_of hr) rd_parsed
theorem ok_read_records {P : Program} {w : World} {K : PySem.W.Frag} {mg : Str → Option Value} {base : Heap} (D : DefAt K mg "read_records" s_read_records) (h_parsed : Ok P w K mg base CX0 2 "parsed" ["line"] p_parsed) : Ok P w K mg base CX0 3 "read_records" ["text"] p_read_records :=
  D.ok (fun fd F => F.bindsN fun _ _ _ _ _ _ us hl => match us, hl with | [_], _ => rfl) fun fd F => ok0 F sc_read_records 5 rfl len_read_records (fun cdv A outer s H E hr => dv_read_records h_parsed hr) rd_read_records
theorem ok__law_reads {P : Program} {w : World} {K : PySem.W.Frag} {mg : Str → Option Value} {base : Heap} (D : DefAt K mg "_law_reads" s__law_reads) (z_isinstance : mg "isinstance" = none) (z_list : mg "list" = none) (z_int : mg "int" = none) (z_bool : mg "bool" = none) (z_len : mg "len" = none) (h_read_records : Ok P w K mg base CX0 3 "read_records" ["text"] p_read_records) : Ok P w K mg base CX0 4 "_law_reads" ["text", "due"] p__law_reads :=
  D.ok (fun fd F => F.bindsN fun _ _ _ _ _ _ us hl => match us, hl with | [_, _], _ => rfl) fun fd F => ok0 F sc__law_reads 4 rfl len__law_reads (fun cdv A outer s H E hr => dv__law_reads z_isinstance z_list z_int z_bool z_len h_read_records hr) rd__law_reads
theorem ok__law_name {P : Program} {w : World} {K : PySem.W.Frag} {mg : Str → Option Value} {base : Heap} (D : DefAt K mg "_law_name" s__law_name) (z_int : mg "int" = none) (h__law_draw : Ok P w K mg base CX0 1 "_law_draw" ["state", "limit"] p__law_draw) : Ok P w K mg base CX0 2 "_law_name" ["state"] p__law_name :=
  D.ok (fun fd F => F.bindsN fun _ _ _ _ _ _ us hl => match us, hl with | [_], _ => rfl) fun fd F => ok0 F sc__law_name 6 rfl len__law_name (fun cdv A outer s H E hr => dv__law_name z_int h__law_draw hr) rd__law_name
theorem ok__law_record {P : Program} {w : World} {K : PySem.W.Frag} {mg : Str → Option Value} {base : Heap} (D : DefAt K mg "_law_record" s__law_record) (h__law_draw : Ok P w K mg base CX0 1 "_law_draw" ["state", "limit"] p__law_draw) (h__law_name : Ok P w K mg base CX0 2 "_law_name" ["state"] p__law_name) : Ok P w K mg base CX0 3 "_law_record" ["state"] p__law_record :=
  D.ok (fun fd F => F.bindsN fun _ _ _ _ _ _ us hl => match us, hl with | [_], _ => rfl) fun fd F => ok0 F sc__law_record 5 rfl len__law_record (fun cdv A outer s H E hr => dv__law_record h__law_draw h__law_name hr) rd__law_record
theorem ok__law_sum {P : Program} {w : World} {K : PySem.W.Frag} {mg : Str → Option Value} {base : Heap} (D : DefAt K mg "_law_sum" s__law_sum) (z_ord : mg "ord" = none) (z_int : mg "int" = none) : Ok P w K mg base CX0 1 "_law_sum" ["text"] p__law_sum :=
  D.ok (fun fd F => F.bindsN fun _ _ _ _ _ _ us hl => match us, hl with | [_], _ => rfl) fun fd F => ok0 F sc__law_sum 3 rfl len__law_sum (fun cdv A outer s H E hr => dv__law_sum z_ord z_int hr) rd__law_sum
theorem ok__law_text {P : Program} {w : World} {K : PySem.W.Frag} {mg : Str → Option Value} {base : Heap} (D : DefAt K mg "_law_text" s__law_text) (z_str : mg "str" = none) (h__law_sum : Ok P w K mg base CX0 1 "_law_sum" ["text"] p__law_sum) : Ok P w K mg base CX0 2 "_law_text" ["entry"] p__law_text :=
  D.ok (fun fd F => F.bindsN fun _ _ _ _ _ _ us hl => match us, hl with | [_], _ => rfl) fun fd F => ok0 F sc__law_text 2 rfl len__law_text (fun cdv A outer s H E hr => dv__law_text z_str h__law_sum hr) rd__law_text
theorem ok_record {P : Program} {w : World} {K : PySem.W.Frag} {mg : Str → Option Value} {base : Heap} (D : DefAt K mg "record" s_record) (z_str : mg "str" = none) (h_sum_of : Ok P w K mg base CX0 1 "sum_of" ["text"] p_sum_of) : Ok P w K mg base CX0 2 "record" ["kind", "other", "label", "number"] p_record :=
  D.ok (fun fd F => F.bindsN fun _ _ _ _ _ _ us hl => match us, hl with | [_, _, _, _], _ => rfl) fun fd F => ok0 F sc_record 5 rfl len_record (fun cdv A outer s H E hr => dv_record z_str h_sum_of hr) rd_record
theorem ok__law_whole {P : Program} {w : World} {K : PySem.W.Frag} {mg : Str → Option Value} {base : Heap} (D : DefAt K mg "_law_whole" s__law_whole) (z_len : mg "len" = none) : Ok P w K mg base CX0 1 "_law_whole" ["texts", "length"] p__law_whole :=
  D.ok (fun fd F => F.bindsN fun _ _ _ _ _ _ us hl => match us, hl with | [_, _], _ => rfl) fun fd F => ok0 F sc__law_whole 5 rfl len__law_whole (fun cdv A outer s H E hr => dv__law_whole z_len hr) rd__law_whole
theorem ok_law {P : Program} {w : World} {K : PySem.W.Frag} {mg : Str → Option Value} {base : Heap} (D : DefAt K mg "law" s_law) (z_range : mg "range" = none) (z_len : mg "len" = none) (z_isinstance : mg "isinstance" = none) (z_str : mg "str" = none) (z_int : mg "int" = none) (h__law_state : Ok P w K mg base CX0 1 "_law_state" ["script"] p__law_state) (h__law_draw : Ok P w K mg base CX0 1 "_law_draw" ["state", "limit"] p__law_draw) (h__law_record : Ok P w K mg base CX0 3 "_law_record" ["state"] p__law_record) (h__law_text : Ok P w K mg base CX0 2 "_law_text" ["entry"] p__law_text) (h_record : Ok P w K mg base CX0 2 "record" ["kind", "other", "label", "number"] p_record) (h__law_reads : Ok P w K mg base CX0 4 "_law_reads" ["text", "due"] p__law_reads) (h__law_whole : Ok P w K mg base CX0 1 "_law_whole" ["texts", "length"] p__law_whole) (h__law_sum : Ok P w K mg base CX0 1 "_law_sum" ["text"] p__law_sum) : Ok P w K mg base CX0 5 "law" ["script"] p_law :=
  D.ok (fun fd F => F.bindsN fun _ _ _ _ _ _ us hl => match us, hl with | [_], _ => rfl) fun fd F => ok0 F sc_law 15 rfl len_law (fun cdv A outer s H E hr => dv_law z_range z_len z_isinstance z_str z_int h__law_state h__law_draw h__law_record h__law_text h_record h__law_reads h__law_whole h__law_sum hr) rd_law
end Lw

namespace Lw
open PySem PySem.Spec PyProof.Rows L2 Z TL
/-- one step -/
local macro_rules | `(tactic| walk_at "z") => `(tactic| first
  | ((with_reducible apply z_aVar); exact rfl)
  | with_reducible refine z_nx ?_
  | with_reducible refine z_kSeq ?_
  | with_reducible refine z_aSeq ?_
  | with_reducible refine z_aC ?_
  | with_reducible refine z_kOp2 ?_
  | with_reducible refine z_kOp1 ?_
  | with_reducible refine z_aOp ?_
  | with_reducible refine z_aB ?_
  | with_reducible refine z_kNot ?_
  | with_reducible refine z_aAnd ?_
  | with_reducible refine z_aOr ?_
  | with_reducible refine z_aNot ?_
  | with_reducible refine z_aAndV ?_
  | with_reducible refine z_aOrV ?_
  | with_reducible refine z_aNotV ?_
  | with_reducible refine z_aIf ?_
  | with_reducible refine z_aNil ?_
  | with_reducible refine z_kCons2 ?_
  | with_reducible refine z_kCons1 ?_
  | with_reducible refine z_aCons ?_
  | with_reducible refine z_kCB ?_
  | with_reducible refine z_aCB ?_
  | with_reducible refine z_aCall ?_
  | with_reducible refine z_aCallX ?_
  | with_reducible refine z_aBM0 ?_
  | with_reducible refine z_kBM2 ?_
  | with_reducible refine z_aBM ?_
  | with_reducible refine z_aName ?_
  | with_reducible refine z_kG ?_
  | with_reducible refine z_aNext ?_
  | with_reducible refine z_kDrop ?_
  | with_reducible refine z_aDrop ?_
  | with_reducible refine z_aRet ?_
  | with_reducible refine z_aRetN ?_
  | with_reducible refine z_aIfS ?_
  | with_reducible refine z_kAsg ?_
  | with_reducible refine z_aAsg ?_
  | with_reducible refine z_aBrk ?_
  | with_reducible refine z_aCont ?_
  | with_reducible refine z_aNever ?_
  | with_reducible refine z_aPar ?_
  | with_reducible refine z_kAug2 ?_
  | with_reducible refine z_kAug ?_
  | with_reducible refine z_aIL ?_
  | with_reducible refine z_aIT ?_
  | with_reducible refine z_aIR1 ?_
  | with_reducible refine z_aIR2 ?_
  | with_reducible refine z_aIS ?_
  | with_reducible refine z_aYes ?_
  | with_reducible refine z_aNoPart ?_
  | with_reducible refine z_aPart ?_
  | with_reducible refine z_kSl3 ?_
  | with_reducible refine z_kSl2 ?_
  | with_reducible refine z_kSl1 ?_
  | with_reducible refine z_aSl ?_
  | with_reducible refine z_aIsi ?_
  | with_reducible refine z_kSet2 ?_
  | with_reducible refine z_kSet1 ?_
  | with_reducible refine z_aSetL ?_
  | with_reducible refine z_aXT ?_
  | with_reducible refine z_aFrz ?_
  | with_reducible refine z_aUn ?_
  | with_reducible refine z_aTru ?_
  | with_reducible refine z_rt ?_
  | with_reducible refine z_bk ?_
  | with_reducible refine z_ct ?_
  | with_reducible refine z_kB ?_
  | with_reducible refine z_kNotV ?_
  | with_reducible refine z_ifT ?_
  | with_reducible refine z_ifF ?_
  | with_reducible refine z_ifeT ?_
  | with_reducible refine z_ifeF ?_
  | with_reducible refine z_andT ?_
  | with_reducible refine z_andF ?_
  | with_reducible refine z_orT ?_
  | with_reducible refine z_orF ?_
  | with_reducible refine z_raI0 ?_
  | with_reducible refine z_raB0 ?_
  | with_reducible refine z_raInt ?_
  | with_reducible refine z_raIntB ?_
  | with_reducible refine z_raOrd ?_
  | with_reducible refine z_raEqI ?_
  | with_reducible refine z_raNeI ?_
  | with_reducible refine z_raEqS ?_
  | with_reducible refine z_raNeS ?_
  | with_reducible refine z_raIsN ?_
  | with_reducible refine z_raNotN ?_
  | with_reducible refine z_kPart ?_
  | with_reducible refine z_kUn ?_
  | with_reducible refine z_kPar ?_
  | with_reducible refine z_ipAdd ?_
  | with_reducible refine z_ipSub ?_
  | with_reducible refine z_kCall ?_
  | with_reducible refine z_kCallX ?_
  | with_reducible refine z_aFor ?_
  | with_reducible refine z_kBody ?_
  | with_reducible refine z_aLc ?_
  | with_reducible refine z_kTurn ?_
  | with_reducible refine z_testT ?_
  | with_reducible refine z_kElt ?_
  | with_reducible refine z_kIS ?_
  | with_reducible refine z_finO ?_
  | with_reducible refine z_aGCons ?_
  | with_reducible refine z_aGNil ?_
  | ((with_reducible apply z_rTup); exact rfl; exact Evl.sz_of (by simp only [List.length_cons, List.length_nil]; omega))
  | ((with_reducible apply z_rLst); exact rfl; exact Evl.sz_of (by simp only [List.length_cons, List.length_nil]; omega))
  | ((with_reducible apply z_aAug); exact rfl)
  | ((with_reducible apply z_kIsi); exact rfl)
  | ((with_reducible apply z_aGTup); exact rfl; exact rfl)
  | ((with_reducible apply z_raIxLo); assumption; exact rfl)
  | ((with_reducible apply z_raIxL); exact rfl; exact rfl)
  | ((with_reducible apply z_raIxT); exact rfl; exact rfl)
  | with_reducible refine z_raLen lenA_l ?_
  | with_reducible refine z_raLen lenA_t ?_
  | ((with_reducible apply z_raLenO); assumption))
local macro_rules | `(tactic| walk_at "zr") => `(tactic| repeat (walk_at "z"))

theorem ints_rds {F : Hp} : ∀ ns : List Int, RDs F (ns.map V.int) (ns.map PyData.int)
  | [] => .nil
  | n :: r => .cons (.int n) (ints_rds r)
theorem lift_law {K : PySem.W.Frag} {H : Hp} {a : Addr} {ns : List Int} {p : AP} (hS : SqL K H a (ns.map V.int)) (h : p [.xl (ns.map PyData.int)] [] (fun sv _ => sv = .d (.bool true)) (fun _ _ => False)) : liftP K p [.ref a] H (fun v _ => v = .bl true) fun _ _ _ => False := by
  refine ⟨⟨H, []⟩, _, [], _, _, ⟨fun _ _ e => e, rfl, List.nodup_nil, fun _ h => absurd h List.not_mem_nil, fun k mo a e => by cases e⟩, .cons ?_ .nil, h, ?_, fun _ _ _ _ _ _ _ _ e => e⟩
  · exact ⟨a, _, rfl, hS, ints_rds ns⟩
  · intro sv ms g2 v H2 l r e
    subst e
    cases r
    rfl

def d__law_state : He.DefD := ⟨("_law_state", none), "_law_state", "_law_state", defArgs s__law_state, defBody s__law_state, defScope s__law_state, [], []⟩
def d__law_draw : He.DefD := ⟨("_law_draw", none), "_law_draw", "_law_draw", defArgs s__law_draw, defBody s__law_draw, defScope s__law_draw, [], []⟩
def d_is_number : He.DefD := ⟨("is_number", none), "is_number", "is_number", defArgs s_is_number, defBody s_is_number, defScope s_is_number, [], []⟩
def d_sum_of : He.DefD := ⟨("sum_of", none), "sum_of", "sum_of", defArgs s_sum_of, defBody s_sum_of, defScope s_sum_of, [], []⟩
def d_parsed : He.DefD := ⟨("parsed", none), "parsed", "parsed", defArgs s_parsed, defBody s_parsed, defScope s_parsed, [], []⟩
def d_read_records : He.DefD := ⟨("read_records", none), "read_records", "read_records", defArgs s_read_records, defBody s_read_records, defScope s_read_records, [], []⟩
def d__law_reads : He.DefD := ⟨("_law_reads", none), "_law_reads", "_law_reads", defArgs s__law_reads, defBody s__law_reads, defScope s__law_reads, [], []⟩
def d__law_name : He.DefD := ⟨("_law_name", none), "_law_name", "_law_name", defArgs s__law_name, defBody s__law_name, defScope s__law_name, [], []⟩
def d__law_record : He.DefD := ⟨("_law_record", none), "_law_record", "_law_record", defArgs s__law_record, defBody s__law_record, defScope s__law_record, [], []⟩
def d__law_sum : He.DefD := ⟨("_law_sum", none), "_law_sum", "_law_sum", defArgs s__law_sum, defBody s__law_sum, defScope s__law_sum, [], []⟩
def d__law_text : He.DefD := ⟨("_law_text", none), "_law_text", "_law_text", defArgs s__law_text, defBody s__law_text, defScope s__law_text, [], []⟩
def d_record : He.DefD := ⟨("record", none), "record", "record", defArgs s_record, defBody s_record, defScope s_record, [], []⟩
def d__law_whole : He.DefD := ⟨("_law_whole", none), "_law_whole", "_law_whole", defArgs s__law_whole, defBody s__law_whole, defScope s__law_whole, [], []⟩
def d_law : He.DefD := ⟨("law", none), "law", "law", defArgs s_law, defBody s_law, defScope s_law, [], []⟩
def fnL : List He.DefD := [d__law_state, d__law_draw, d_is_number, d_sum_of, d_parsed, d_read_records, d__law_reads, d__law_name, d__law_record, d__law_sum, d__law_text, d_record, d__law_whole, d_law]
def faL : List He.Fa := [.glo "_law_state", .glo "_law_draw", .glo "is_number", .glo "sum_of", .glo "parsed", .glo "read_records", .glo "_law_reads", .glo "_law_name", .glo "_law_record", .glo "_law_sum", .glo "_law_text", .glo "record", .glo "_law_whole", .glo "law", .free "list", .free "len", .free "int", .free "ord", .free "str", .free "isinstance", .free "bool", .free "range", .int "MOST_DIGITS" 9, .str "DIGITS" c_DIGITS, .int "START" 7, .int "FACTOR" 31, .int "MODULUS" 9973, .glo "KINDS"]
def exL (K : PySem.W.Frag) : Bool := He.tupB K "KINDS" (c_KINDS_s.map He.Dv.str)
abbrev hR : PySem.W.OpenRow := PySem.W.OpenLaw.row PySem.Challenge.rw_pactguild_k24_records_of_journals
abbrev hK : PySem.W.Hook := He.hookX 4 faL fnL [] [] exL
def hOb (s : PySem.W.SharedT) : He.AlX := He.obsX 4 faL fnL [] [] exL (HandSHeadRun.getT s)
theorem hOb_eq (s : PySem.W.SharedT) : hOb s = hK.obs s.abs := He.obsX_eq (HandSHeadRun.getT_eq s)
def lo0 : List Str := ["KINDS", "DIGITS", "MOST_DIGITS", "START", "FACTOR", "MODULUS", "sum_of", "record", "is_number", "parsed", "read_records", "_law_state", "_law_draw", "_law_name", "_law_names", "_law_sum", "_law_record", "_law_text", "_law_whole", "_law_reads"]
abbrev hLo : List Str := ["KINDS", "DIGITS", "MOST_DIGITS", "START", "FACTOR", "MODULUS", "sum_of", "record", "is_number", "parsed", "read_records", "_law_state", "_law_draw", "_law_name", "_law_names", "_law_sum", "_law_record", "_law_text", "_law_whole", "_law_reads"]
theorem hRun (w : World) : HandSHeadRun.RunEq hR (PySem.W.view hR.prog [22]) hK hOb 5000 hLo w := by
  intro os
  kernel_rfl
theorem hFacts {P : Program} {w : World} {K : PySem.W.Frag} {h : Heap} {mg : Str → Option Value} {f : Addr} (X : K.In h) (G : h.Ns mainGlobals mg) (hfa : mg ("law" : Str) = some (.ref f)) (c : He.SaysX faL fnL [] [] exL w h K) : ∃ fd : FuncData, (∀ (s : Shared) (v : Value), BindsTo s fd ⟨[v], []⟩ [("script", v)]) ∧ ∀ base : Heap, K.In base → base.Ns mainGlobals mg → FnOk P w K mg base CX0 5 f fd ["script"] (liftP K p_law) := by
  have cd := c.t.d
  have D__law_state : DefAt K mg "_law_state" s__law_state := ⟨cd.def_ 0 (d := d__law_state) rfl, He.glo_ok X G (cd.fact 0 (f := .glo "_law_state") rfl)⟩
  have D__law_draw : DefAt K mg "_law_draw" s__law_draw := ⟨cd.def_ 1 (d := d__law_draw) rfl, He.glo_ok X G (cd.fact 1 (f := .glo "_law_draw") rfl)⟩
  have D_is_number : DefAt K mg "is_number" s_is_number := ⟨cd.def_ 2 (d := d_is_number) rfl, He.glo_ok X G (cd.fact 2 (f := .glo "is_number") rfl)⟩
  have D_sum_of : DefAt K mg "sum_of" s_sum_of := ⟨cd.def_ 3 (d := d_sum_of) rfl, He.glo_ok X G (cd.fact 3 (f := .glo "sum_of") rfl)⟩
  have D_parsed : DefAt K mg "parsed" s_parsed := ⟨cd.def_ 4 (d := d_parsed) rfl, He.glo_ok X G (cd.fact 4 (f := .glo "parsed") rfl)⟩
  have D_read_records : DefAt K mg "read_records" s_read_records := ⟨cd.def_ 5 (d := d_read_records) rfl, He.glo_ok X G (cd.fact 5 (f := .glo "read_records") rfl)⟩
  have D__law_reads : DefAt K mg "_law_reads" s__law_reads := ⟨cd.def_ 6 (d := d__law_reads) rfl, He.glo_ok X G (cd.fact 6 (f := .glo "_law_reads") rfl)⟩
  have D__law_name : DefAt K mg "_law_name" s__law_name := ⟨cd.def_ 7 (d := d__law_name) rfl, He.glo_ok X G (cd.fact 7 (f := .glo "_law_name") rfl)⟩
  have D__law_record : DefAt K mg "_law_record" s__law_record := ⟨cd.def_ 8 (d := d__law_record) rfl, He.glo_ok X G (cd.fact 8 (f := .glo "_law_record") rfl)⟩
  have D__law_sum : DefAt K mg "_law_sum" s__law_sum := ⟨cd.def_ 9 (d := d__law_sum) rfl, He.glo_ok X G (cd.fact 9 (f := .glo "_law_sum") rfl)⟩
  have D__law_text : DefAt K mg "_law_text" s__law_text := ⟨cd.def_ 10 (d := d__law_text) rfl, He.glo_ok X G (cd.fact 10 (f := .glo "_law_text") rfl)⟩
  have D_record : DefAt K mg "record" s_record := ⟨cd.def_ 11 (d := d_record) rfl, He.glo_ok X G (cd.fact 11 (f := .glo "record") rfl)⟩
  have D__law_whole : DefAt K mg "_law_whole" s__law_whole := ⟨cd.def_ 12 (d := d__law_whole) rfl, He.glo_ok X G (cd.fact 12 (f := .glo "_law_whole") rfl)⟩
  have z_list := He.free_ok X G (cd.fact 14 (f := .free "list") rfl)
  have z_len := He.free_ok X G (cd.fact 15 (f := .free "len") rfl)
  have z_int := He.free_ok X G (cd.fact 16 (f := .free "int") rfl)
  have z_ord := He.free_ok X G (cd.fact 17 (f := .free "ord") rfl)
  have z_str := He.free_ok X G (cd.fact 18 (f := .free "str") rfl)
  have z_isinstance := He.free_ok X G (cd.fact 19 (f := .free "isinstance") rfl)
  have z_bool := He.free_ok X G (cd.fact 20 (f := .free "bool") rfl)
  have z_range := He.free_ok X G (cd.fact 21 (f := .free "range") rfl)
  have c_MOST_DIGITS_h := He.int_ok X G (cd.fact 22 (f := .int "MOST_DIGITS" 9) rfl)
  have c_DIGITS_h := He.str_ok X G (cd.fact 23 (f := .str "DIGITS" c_DIGITS) rfl)
  have c_START_h := He.int_ok X G (cd.fact 24 (f := .int "START" 7) rfl)
  have c_FACTOR_h := He.int_ok X G (cd.fact 25 (f := .int "FACTOR" 31) rfl)
  have c_MODULUS_h := He.int_ok X G (cd.fact 26 (f := .int "MODULUS" 9973) rfl)
  have c_KINDS_h : ∃ a, mg "KINDS" = some (.ref a) ∧ ∀ H, SqT K H a (c_KINDS_s.map V.str) := ⟨_, He.glo_ok X G (cd.fact 27 (f := .glo "KINDS") rfl), fun H => by have := He.tupB_ok c.more H; rw [List.map_map] at this; exact this⟩
  obtain ⟨fd, F⟩ := cd.def_ 13 (d := d_law) rfl
  have e := hfa.symm.trans (He.glo_ok X G (cd.fact 13 (f := .glo "law") rfl))
  cases e
  have b := FunD.bindsA (ps := ["script"]) F fun _ _ _ _ _ _ us hl => match us, hl with | [_], _ => rfl
  refine ⟨fd, fun s v => b s [v] rfl, fun base _ _ => ?_⟩
  have h__law_state := ok__law_state (P := P) (w := w) (base := base) D__law_state z_list
  have h__law_draw := ok__law_draw (P := P) (w := w) (base := base) D__law_draw z_len z_int
  have h_is_number := ok_is_number (P := P) (w := w) (base := base) D_is_number c_MOST_DIGITS_h c_DIGITS_h z_len
  have h_sum_of := ok_sum_of (P := P) (w := w) (base := base) D_sum_of c_START_h c_FACTOR_h c_MODULUS_h z_ord
  have h_parsed := ok_parsed (P := P) (w := w) (base := base) D_parsed c_KINDS_h z_len z_str z_int h_is_number h_sum_of
  have h_read_records := ok_read_records (P := P) (w := w) (base := base) D_read_records h_parsed
  have h__law_reads := ok__law_reads (P := P) (w := w) (base := base) D__law_reads z_isinstance z_list z_int z_bool z_len h_read_records
  have h__law_name := ok__law_name (P := P) (w := w) (base := base) D__law_name z_int h__law_draw
  have h__law_record := ok__law_record (P := P) (w := w) (base := base) D__law_record h__law_draw h__law_name
  have h__law_sum := ok__law_sum (P := P) (w := w) (base := base) D__law_sum z_ord z_int
  have h__law_text := ok__law_text (P := P) (w := w) (base := base) D__law_text z_str h__law_sum
  have h_record := ok_record (P := P) (w := w) (base := base) D_record z_str h_sum_of
  have h__law_whole := ok__law_whole (P := P) (w := w) (base := base) D__law_whole z_len
  exact ok0 F sc_law 15 rfl len_law (fun cdv A outer s H E hr => dv_law z_range z_len z_isinstance z_str z_int h__law_state h__law_draw h__law_record h__law_text h_record h__law_reads h__law_whole h__law_sum hr) rd_law
end Lw
open PySem PySem.W PySem.Calls PyProof.Rows
theorem PySem.Challenge.cw_pactguild_k24_records_of_journals_holds : PySem.Challenge.rw_pactguild_k24_records_of_journals.Holds := by
  w_on; o_law
  refine HandSHeadRun.head_any (r := OpenLaw.row PySem.Challenge.rw_pactguild_k24_records_of_journals) (q := view (OpenLaw.row PySem.Challenge.rw_pactguild_k24_records_of_journals).prog [22]) (H := Lw.hK) (ob := Lw.hOb) (M := 5000) (loose := Lw.hLo) (d := HandSHeadRun.topDef (OpenLaw.row PySem.Challenge.rw_pactguild_k24_records_of_journals).prog 22) (kwd := []) Lw.hOb_eq
    (by kernel_rfl) (fun s => by kernel_rfl) Lw.hRun (by kernel_rfl) (by kernel_rfl) (by kernel_rfl) (by rfl) (by first | assumption | decide +kernel) (by decide +kernel) ⟨rfl, rfl, rfl, rfl, rfl, by decide +kernel⟩ ?hw ?hc
  case hw => w_witness2
  case hc =>
    refine L2.walk_ofE (l := PySem.Challenge.rw_pactguild_k24_records_of_journals) (n := 63) (k := 5) (x := "script") (CX := L2.CX0) rfl (by decide) (by kernel_rfl) ⟨rfl, by decide, by decide⟩ ?F (fun _ _ _ _ z => z)
    intro w mg fa h Y G hmg0
    obtain ⟨K, KX, c⟩ := Y
    have hmg : mg ("law" : PySem.Str) = some (.ref fa) := by
      have e : (HandSHeadRun.topDef (OpenLaw.row PySem.Challenge.rw_pactguild_k24_records_of_journals).prog 22).name = ("law" : PySem.Str) := by kernel_rfl
      rw [← e]
      exact hmg0
    obtain ⟨fd, hb, hF⟩ := Lw.hFacts (P := (PySem.Challenge.rw_pactguild_k24_records_of_journals).prog) (w := w) KX G hmg c
    exact ⟨K, fd, _, KX, hb, fun H a ns hl _ hS => Lw.lift_law hS ⟨ns, rfl, hl, fun _ => rfl⟩, hF⟩

