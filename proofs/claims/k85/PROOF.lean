import PyProof.Rows.All
import Wide.All
import OpenK.AllK
import Wide.FinOn
import HandS.ForMost
import HandS.ForExc
import HandS.Evl
import HandS.Wide
import HandS.IsInst
import HandS.Style
import HandS.TupAny
import HandS.Text
import HandS.Deep
import HandS.Defaults
import HandS.Steps
import HandS.Conv
import KE.SortData
import HandS.HeadHook1
import HandS.HeadHook2
import HandS.TupLen
import HandS.WordsDict
import KE.GoesMore
import PyProof.EnumMake
import HandS.Zip
import HandS.Rev
import HandS.More
import KE.DataMinMax
import KE.DataCmp
import PySem.Challenge.RW_pactguild_k85_whole_orders_that_come_to
import KE.OsSortAny
import HandS.Head0
import HandS.Head1
import HandS.Head2
import HandS.HeadEnd
import HandS.HeadHook3
import HandS.HeadHook4
set_option Elab.async false
set_option linter.all false
set_option maxRecDepth 100000
set_option maxHeartbeats 4000000
/-! Layer Y, part A: data, owned trees, the ghost, what slots stand for. -/
namespace Y
open PySem PySem.Spec PyProof.Rows L2 Evl
abbrev D := PyData
/-- an owned tree: frozen data at its leaves -/
inductive MV where
  | d (x : D) | lst (ms : List MV) | dK (kvs : List (Key × MV)) | dT (kvs : List (List Key × MV))
/-- what a slot holds: data | an owned tree | an owned tree of a parameter | a tree to be read only | nothing that may be touched | the outside list -/
inductive SV where
  | d (x : D) | w (m : MV) | p (m : MV) | k (m : MV) | h | x (ds : List D)
/-- an expression's value: data | a new tree | what stands in a slot | the outside list | a tuple of the module | a child of a slot's tree, the tree in hand (p: a parameter's) -/
inductive TV where
  | d (x : D) | t (m : MV) | var (i : Nat) | x (ds : List D) | c (ds : List D) | sub (p : Bool) (i j : Nat) (m : MV)
abbrev SL := List (Option SV)
structure G where
  F : Hp
  lab : Addr → Option Nat
  π : Nat → Option V
  ro : Nat → Addr → Prop
def G.RO (g : G) (a : Addr) : Prop := ∃ j, g.ro j a
mutual
inductive RD (K : PySem.W.Frag) (F : Hp) : V → D → Prop
  | non : RD K F .non .none
  | bl (b : Bool) : RD K F (.bl b) (.bool b)
  | int (i : Int) : RD K F (.int i) (.int i)
  | str (x : Str) : RD K F (.str x) (.str x)
  | lst {a : Addr} {vs : List V} {ds : List D} : F a = some (.lst vs) → RDs K F vs ds → RD K F (.ref a) (.list ds)
  | tup {a : Addr} {vs : List V} {ds : List D} : F a = some (.tup vs) → RDs K F vs ds → RD K F (.ref a) (.tuple ds)
inductive RDs (K : PySem.W.Frag) (F : Hp) : List V → List D → Prop
  | nil : RDs K F [] []
  | cons {v : V} {vs : List V} {d : D} {ds : List D} : RD K F v d → RDs K F vs ds → RDs K F (v :: vs) (d :: ds)
end
section
variable {K : PySem.W.Frag} {F F' H H' : Hp}
mutual
theorem RD.mono (e : Ex F F') : ∀ {v : V} {d : D}, RD K F v d → RD K F' v d
  | _, _, .non => .non
  | _, _, .bl b => .bl b
  | _, _, .int i => .int i
  | _, _, .str x => .str x
  | _, _, .lst h r => .lst (e _ _ h) (RDs.mono e r)
  | _, _, .tup h r => .tup (e _ _ h) (RDs.mono e r)
theorem RDs.mono (e : Ex F F') : ∀ {vs : List V} {ds : List D}, RDs K F vs ds → RDs K F' vs ds
  | _, _, .nil => .nil
  | _, _, .cons h r => .cons (RD.mono e h) (RDs.mono e r)
end
mutual
theorem RD.dp : ∀ {v : V} {d : D}, RD K F v d → Dp K F v d
  | _, _, .non => .non
  | _, _, .bl b => .bl b
  | _, _, .int i => .int i
  | _, _, .str x => .str x
  | _, _, .lst h r => .lst (SqL.of h) (RDs.dp r)
  | _, _, .tup h r => .tup (SqT.of h) (RDs.dp r)
theorem RDs.dp : ∀ {vs : List V} {ds : List D}, RDs K F vs ds → DpAll K F vs ds
  | _, _, .nil => .nil
  | _, _, .cons h r => .cons (RD.dp h) (RDs.dp r)
end
mutual
theorem dp_mono (e : Ex F F') : ∀ {v : V} {d : D}, Dp K F v d → Dp K F' v d
  | _, _, .non => .non
  | _, _, .bl b => .bl b
  | _, _, .int i => .int i
  | _, _, .str x => .str x
  | _, _, .lst h r => .lst (ex_l e h) (dpa_mono e r)
  | _, _, .tup h r => .tup (ex_t e h) (dpa_mono e r)
theorem dpa_mono (e : Ex F F') : ∀ {vs : List V} {ds : List D}, DpAll K F vs ds → DpAll K F' vs ds
  | _, _, .nil => .nil
  | _, _, .cons h r => .cons (dp_mono e h) (dpa_mono e r)
end
theorem RDs.paired : ∀ {vs : List V} {ds : List D}, RDs K F vs ds → Paired (RD K F) vs ds
  | _, _, .nil => .nil
  | _, _, .cons h r => .cons h (RDs.paired r)
theorem RDs.of : ∀ {vs : List V} {ds : List D}, Paired (RD K F) vs ds → RDs K F vs ds
  | _, _, .nil => .nil
  | _, _, .cons h r => .cons h (RDs.of r)
theorem RDs.length {vs : List V} {ds : List D} (h : RDs K F vs ds) : vs.length = ds.length := Paired.length h.paired
theorem RDs.get : ∀ {vs : List V} {ds : List D} {i : Nat} {d : D}, RDs K F vs ds → ds[i]? = some d → ∃ v, vs[i]? = some v ∧ RD K F v d
  | _, _, _, _, .nil, h => by simp at h
  | _, _, 0, _, .cons r _, h => by simp at h; subst h; exact ⟨_, rfl, r⟩
  | _, _, i + 1, _, .cons _ t, h => by
    obtain ⟨v, h1, h2⟩ := RDs.get (i := i) t (by simpa using h)
    exact ⟨v, by simpa using h1, h2⟩
theorem RDs.get' : ∀ {vs : List V} {ds : List D} {i : Nat} {v : V}, RDs K F vs ds → vs[i]? = some v → ∃ d, ds[i]? = some d ∧ RD K F v d
  | _, _, _, _, .nil, h => by simp at h
  | _, _, 0, _, .cons r _, h => by simp at h; subst h; exact ⟨_, rfl, r⟩
  | _, _, i + 1, _, .cons _ t, h => by
    obtain ⟨v, h1, h2⟩ := RDs.get' (i := i) t (by simpa using h)
    exact ⟨v, by simpa using h1, h2⟩
theorem RDs.app : ∀ {vs : List V} {ds : List D} {ws : List V} {es : List D}, RDs K F vs ds → RDs K F ws es → RDs K F (vs ++ ws) (ds ++ es)
  | _, _, _, _, .nil, s => s
  | _, _, _, _, .cons h r, s => .cons h (RDs.app r s)
theorem RDs.take : ∀ {vs : List V} {ds : List D} (n : Nat), RDs K F vs ds → RDs K F (vs.take n) (ds.take n)
  | _, _, 0, _ => .nil
  | _, _, _ + 1, .nil => .nil
  | _, _, n + 1, .cons h r => .cons h (RDs.take n r)
theorem RDs.drop : ∀ {vs : List V} {ds : List D} (n : Nat), RDs K F vs ds → RDs K F (vs.drop n) (ds.drop n)
  | _, _, 0, h => h
  | _, _, _ + 1, .nil => .nil
  | _, _, n + 1, .cons _ r => RDs.drop n r
theorem RDs.set {v : V} {d : D} (q : RD K F v d) : ∀ {vs : List V} {ds : List D} (i : Nat), RDs K F vs ds → RDs K F (vs.set i v) (ds.set i d)
  | _, _, _, .nil => .nil
  | _, _, 0, .cons h r => .cons q r
  | _, _, i + 1, .cons h r => .cons h (RDs.set q i r)
/-! ### trees -/
end
mutual
inductive Rep (K : PySem.W.Frag) (F H : Hp) : V → MV → List Addr → Prop
  | d {v : V} {x : D} : RD K F v x → Rep K F H v (.d x) []
  | lst {a : Addr} {vs : List V} {ms : List MV} {S : List Addr} : H a = some (.lst vs) → Reps K F H vs ms S → Rep K F H (.ref a) (.lst ms) (a :: S)
  | dK {a : Addr} {kws : List (Key × V)} {kvs : List (Key × MV)} {S : List Addr} : H a = some (.dK kws) → kws.map (·.1) = kvs.map (·.1) ∧ (kvs.map (·.1)).Nodup → Reps K F H (kws.map (·.2)) (kvs.map (·.2)) S → Rep K F H (.ref a) (.dK kvs) (a :: S)
  | dT {a : Addr} {kws : List (List Key × V)} {kvs : List (List Key × MV)} {S : List Addr} : H a = some (.dT kws) → kws.map (·.1) = kvs.map (·.1) ∧ (kvs.map (·.1)).Nodup → Reps K F H (kws.map (·.2)) (kvs.map (·.2)) S → Rep K F H (.ref a) (.dT kvs) (a :: S)
inductive Reps (K : PySem.W.Frag) (F H : Hp) : List V → List MV → List Addr → Prop
  | nil : Reps K F H [] [] []
  | cons {v : V} {vs : List V} {m : MV} {ms : List MV} {S T : List Addr} : Rep K F H v m S → Reps K F H vs ms T → Reps K F H (v :: vs) (m :: ms) (S ++ T)
end
def Keep (o : Option HO) : Prop := o ≠ none ∧ ∀ ws, o ≠ some (.tup ws)
theorem keep_lst {o : Option HO} {vs : List V} (h : o = some (.lst vs)) : Keep o := by
  subst h
  exact ⟨(fun z => by cases z), (fun ws z => by cases z)⟩
theorem keep_dK {o : Option HO} {vs : List (Key × V)} (h : o = some (.dK vs)) : Keep o := by
  subst h
  exact ⟨(fun z => by cases z), (fun ws z => by cases z)⟩
theorem keep_dT {o : Option HO} {vs : List (List Key × V)} (h : o = some (.dT vs)) : Keep o := by
  subst h
  exact ⟨(fun z => by cases z), (fun ws z => by cases z)⟩
section
variable {K : PySem.W.Frag} {F F' H H' : Hp}
mutual
theorem Rep.mono (e : Ex F F') : ∀ {v : V} {m : MV} {S : List Addr}, Rep K F H v m S → (∀ a ∈ S, H' a = H a) → Rep K F' H' v m S
  | _, _, _, .d r, _ => .d (r.mono e)
  | _, _, _, .lst h r, k => .lst ((k _ List.mem_cons_self).trans h) (Reps.mono e r fun a z => k a (List.mem_cons_of_mem _ z))
  | _, _, _, .dK h q r, k => .dK ((k _ List.mem_cons_self).trans h) q (Reps.mono e r fun a z => k a (List.mem_cons_of_mem _ z))
  | _, _, _, .dT h q r, k => .dT ((k _ List.mem_cons_self).trans h) q (Reps.mono e r fun a z => k a (List.mem_cons_of_mem _ z))
theorem Reps.mono (e : Ex F F') : ∀ {vs : List V} {ms : List MV} {S : List Addr}, Reps K F H vs ms S → (∀ a ∈ S, H' a = H a) → Reps K F' H' vs ms S
  | _, _, _, .nil, _ => .nil
  | _, _, _, .cons h r, k => .cons (Rep.mono e h fun a z => k a (List.mem_append_left _ z)) (Reps.mono e r fun a z => k a (List.mem_append_right _ z))
end
mutual
theorem Rep.keep : ∀ {v : V} {m : MV} {S : List Addr}, Rep K F H v m S → ∀ a ∈ S, Keep (H a)
  | _, _, _, .d _, a, h => nomatch h
  | _, _, _, .lst h r, a, z => by
    rcases List.mem_cons.mp z with e | e
    · subst e; exact keep_lst h
    · exact Reps.keep r a e
  | _, _, _, .dK h _ r, a, z => by
    rcases List.mem_cons.mp z with e | e
    · subst e; exact keep_dK h
    · exact Reps.keep r a e
  | _, _, _, .dT h _ r, a, z => by
    rcases List.mem_cons.mp z with e | e
    · subst e; exact keep_dT h
    · exact Reps.keep r a e
theorem Reps.keep : ∀ {vs : List V} {ms : List MV} {S : List Addr}, Reps K F H vs ms S → ∀ a ∈ S, Keep (H a)
  | _, _, _, .nil, a, h => nomatch h
  | _, _, _, .cons h r, a, z => by
    rcases List.mem_append.mp z with e | e
    · exact Rep.keep h a e
    · exact Reps.keep r a e
end
theorem Reps.length : ∀ {vs : List V} {ms : List MV} {S : List Addr}, Reps K F H vs ms S → vs.length = ms.length
  | _, _, _, .nil => rfl
  | _, _, _, .cons _ r => by rw [List.length_cons, List.length_cons, Reps.length r]
theorem Reps.leaves : ∀ {ds : List D} {vs : List V} {S : List Addr}, Reps K F H vs (ds.map MV.d) S → S = [] ∧ RDs K F vs ds
  | [], _, _, .nil => ⟨rfl, .nil⟩
  | _ :: _, _, _, .cons (.d h) r => let ⟨e, q⟩ := Reps.leaves r; ⟨by rw [e]; rfl, .cons h q⟩
theorem RDs.reps : ∀ {vs : List V} {ds : List D}, RDs K F vs ds → Reps K F H vs (ds.map MV.d) []
  | _, _, .nil => .nil
  | _, _, .cons h r => Reps.cons (S := []) (T := []) (.d h) (RDs.reps r)
theorem Reps.app : ∀ {vs : List V} {ms : List MV} {S : List Addr} {ws : List V} {ns : List MV} {T : List Addr}, Reps K F H vs ms S → Reps K F H ws ns T → Reps K F H (vs ++ ws) (ms ++ ns) (S ++ T)
  | _, _, _, _, _, _, .nil, s => s
  | _, _, _, _, _, _, .cons h r, s => by rw [List.append_assoc]; exact .cons h (Reps.app r s)
/-- one child: it, and what stands around it -/
theorem Reps.get : ∀ {vs : List V} {ms : List MV} {S : List Addr} {j : Nat} {m : MV}, Reps K F H vs ms S → ms[j]? = some m → ∃ v A T B, vs[j]? = some v ∧ Rep K F H v m T ∧ S = A ++ (T ++ B) ∧
    ∀ F' H' v' m' T', Ex F F' → (∀ a, a ∈ A ∨ a ∈ B → H' a = H a) → Rep K F' H' v' m' T' → Reps K F' H' (vs.set j v') (ms.set j m') (A ++ (T' ++ B))
  | _, _, _, _, _, .nil, h => by simp at h
  | v :: vs, m :: ms, _, 0, _, .cons (S := S) (T := T) r t, h => by
    simp at h; subst h
    exact ⟨v, [], S, T, rfl, r, rfl, fun F' H' v' m' T' e k r' => Reps.cons (S := T') (T := T) r' (t.mono e fun a z => k a (.inr z))⟩
  | v :: vs, m :: ms, _, j + 1, _, .cons (S := S) (T := T) r t, h => by
    obtain ⟨u, A, T1, B, h1, h2, h3, h4⟩ := Reps.get (j := j) t (by simpa using h)
    refine ⟨u, S ++ A, T1, B, by simpa using h1, h2, by rw [h3, List.append_assoc], fun F' H' v' m' T' e k r' => ?_⟩
    rw [List.append_assoc]
    exact .cons (r.mono e fun a z => k a (.inl (List.mem_append_left _ z))) (h4 F' H' v' m' T' e (fun a z => k a (z.imp (List.mem_append_right _) id)) r')
/-! one child of a tree -/
end
def kid : MV → Nat → Option MV
  | .lst ms, j => ms[j]?
  | .dK kvs, j => (kvs[j]?).map (·.2)
  | .dT kvs, j => (kvs[j]?).map (·.2)
  | .d _, _ => none
def setKid : MV → Nat → MV → MV
  | .lst ms, j, m => .lst (ms.set j m)
  | .dK kvs, j, m => .dK (kvs.modify j fun p => (p.1, m))
  | .dT kvs, j, m => .dT (kvs.modify j fun p => (p.1, m))
  | x, _, _ => x
def KidV (H : Hp) (v0 : V) (j : Nat) (v : V) : Prop := ∃ a, v0 = .ref a ∧ ((∃ vs : List V, H a = some (.lst vs) ∧ vs[j]? = some v) ∨ (∃ kws : List (Key × V), H a = some (.dK kws) ∧ (kws[j]?).map (·.2) = some v) ∨ ∃ kws : List (List Key × V), H a = some (.dT kws) ∧ (kws[j]?).map (·.2) = some v)
theorem KidV.inj {H : Hp} {v0 v v' : V} {j : Nat} (h : KidV H v0 j v) (h' : KidV H v0 j v') : v = v' := by
  obtain ⟨a, rfl, h⟩ := h
  obtain ⟨b, e, h'⟩ := h'
  cases e
  rcases h with ⟨x, h1, h2⟩ | ⟨x, h1, h2⟩ | ⟨x, h1, h2⟩ <;> rcases h' with ⟨y, k1, k2⟩ | ⟨y, k1, k2⟩ | ⟨y, k1, k2⟩ <;> (rw [h1] at k1; cases k1) <;> (rw [h2] at k2; cases k2; rfl)
theorem KidV.mono {H H' : Hp} {v0 v : V} {j : Nat} (h : KidV H v0 j v) (k : ∀ a, v0 = .ref a → H' a = H a) : KidV H' v0 j v := by
  obtain ⟨a, e, h⟩ := h
  refine ⟨a, e, ?_⟩
  rw [k a e]
  exact h
theorem modify_fst {α β : Type} (m : β) : ∀ (l : List (α × β)) (j : Nat), (l.modify j fun p => (p.1, m)).map (·.1) = l.map (·.1)
  | [], j => by simp
  | x :: l, 0 => rfl
  | x :: l, j + 1 => by rw [List.modify_succ_cons, List.map_cons, List.map_cons, modify_fst m l j]
theorem modify_snd {α β : Type} (m : β) : ∀ (l : List (α × β)) (j : Nat), (l.modify j fun p => (p.1, m)).map (·.2) = (l.map (·.2)).set j m
  | [], j => by simp
  | x :: l, 0 => rfl
  | x :: l, j + 1 => by rw [List.modify_succ_cons, List.map_cons, List.map_cons, List.set_cons_succ, modify_snd m l j]
section
variable {K : PySem.W.Frag} {F F' H H' : Hp}
theorem Rep.root {v : V} {m : MV} {S : List Addr} {j : Nat} {c : MV} (r : Rep K F H v m S) (h : kid m j = some c) : ∃ a S', v = .ref a ∧ S = a :: S' := by
  cases r with
  | d _ => cases h
  | lst _ _ => exact ⟨_, _, rfl, rfl⟩
  | dK _ _ _ => exact ⟨_, _, rfl, rfl⟩
  | dT _ _ _ => exact ⟨_, _, rfl, rfl⟩
theorem Rep.kid {v0 : V} {m0 m : MV} {S : List Addr} {j : Nat} (r : Rep K F H v0 m0 S) (h : Y.kid m0 j = some m) : ∃ v P T B, KidV H v0 j v ∧ Rep K F H v m T ∧ S = P ++ (T ++ B) ∧
    ∀ F' H' m' T', Ex F F' → (∀ b, b ∈ P ∨ b ∈ B → H' b = H b) → Rep K F' H' v m' T' → Rep K F' H' v0 (setKid m0 j m') (P ++ (T' ++ B)) ∧ KidV H' v0 j v := by
  cases r with
  | d _ => cases h
  | @lst a vs ms S ha rs =>
    obtain ⟨v, A, T, B, h1, h2, h3, h4⟩ := rs.get (show ms[j]? = some m from h)
    refine ⟨v, a :: A, T, B, ⟨a, rfl, .inl ⟨vs, ha, h1⟩⟩, h2, by rw [h3]; rfl, fun F' H' m' T' ex k r' => ?_⟩
    have ha' : H' a = some (.lst vs) := (k a (.inl List.mem_cons_self)).trans ha
    have := h4 F' H' v m' T' ex (fun b hb => k b (hb.imp (List.mem_cons_of_mem _) id)) r'
    rw [show vs.set j v = vs from by
      apply List.ext_getElem?
      intro i
      by_cases e : j = i
      · subst e; rw [List.getElem?_set_self (List.getElem?_eq_some_iff.mp h1).1, h1]
      · rw [List.getElem?_set_ne e]] at this
    exact ⟨.lst ha' this, ⟨a, rfl, .inl ⟨vs, ha', h1⟩⟩⟩
  | @dK a kws kvs S ha hk rs =>
    have h' : (kvs.map (·.2))[j]? = some m := by rw [List.getElem?_map]; exact h
    obtain ⟨v, A, T, B, h1, h2, h3, h4⟩ := rs.get h'
    have h1' : (kws[j]?).map (·.2) = some v := by rw [← List.getElem?_map]; exact h1
    refine ⟨v, a :: A, T, B, ⟨a, rfl, .inr (.inl ⟨kws, ha, h1'⟩)⟩, h2, by rw [h3]; rfl, fun F' H' m' T' ex k r' => ?_⟩
    have ha' : H' a = some (.dK kws) := (k a (.inl List.mem_cons_self)).trans ha
    have := h4 F' H' v m' T' ex (fun b hb => k b (hb.imp (List.mem_cons_of_mem _) id)) r'
    rw [show (kws.map (·.2)).set j v = kws.map (·.2) from by
      apply List.ext_getElem?
      intro i
      by_cases e : j = i
      · subst e; rw [List.getElem?_set_self (List.getElem?_eq_some_iff.mp h1).1, h1]
      · rw [List.getElem?_set_ne e], ← modify_snd] at this
    exact ⟨.dK ha' ⟨by rw [modify_fst]; exact hk.1, by rw [modify_fst]; exact hk.2⟩ this, ⟨a, rfl, .inr (.inl ⟨kws, ha', h1'⟩)⟩⟩
  | @dT a kws kvs S ha hk rs =>
    have h' : (kvs.map (·.2))[j]? = some m := by rw [List.getElem?_map]; exact h
    obtain ⟨v, A, T, B, h1, h2, h3, h4⟩ := rs.get h'
    have h1' : (kws[j]?).map (·.2) = some v := by rw [← List.getElem?_map]; exact h1
    refine ⟨v, a :: A, T, B, ⟨a, rfl, .inr (.inr ⟨kws, ha, h1'⟩)⟩, h2, by rw [h3]; rfl, fun F' H' m' T' ex k r' => ?_⟩
    have ha' : H' a = some (.dT kws) := (k a (.inl List.mem_cons_self)).trans ha
    have := h4 F' H' v m' T' ex (fun b hb => k b (hb.imp (List.mem_cons_of_mem _) id)) r'
    rw [show (kws.map (·.2)).set j v = kws.map (·.2) from by
      apply List.ext_getElem?
      intro i
      by_cases e : j = i
      · subst e; rw [List.getElem?_set_self (List.getElem?_eq_some_iff.mp h1).1, h1]
      · rw [List.getElem?_set_ne e], ← modify_snd] at this
    exact ⟨.dT ha' ⟨by rw [modify_fst]; exact hk.1, by rw [modify_fst]; exact hk.2⟩ this, ⟨a, rfl, .inr (.inr ⟨kws, ha', h1'⟩)⟩⟩
/-! freezing -/
end
mutual
def frz : MV → Option D
  | .d x => some x
  | .lst ms => (frzs ms).map PyData.list
  | _ => none
def frzs : List MV → Option (List D)
  | [] => some []
  | m :: ms => (frz m).bind fun x => (frzs ms).map (x :: ·)
end
theorem frzs_map : ∀ ds : List D, frzs (ds.map MV.d) = some ds
  | [] => by unfold frzs; rfl
  | x :: r => by
    rw [List.map_cons]
    unfold frzs
    rw [frzs_map r]
    unfold frz
    rfl
@[simp] theorem frz_lst (ds : List D) : frz (.lst (ds.map MV.d)) = some (.list ds) := by
  unfold frz
  rw [frzs_map]
  rfl
@[simp] theorem frz_d (x : D) : frz (.d x) = some x := by unfold frz; rfl
section
variable {K : PySem.W.Frag} {F F' H H' : Hp}
mutual
theorem Rep.frz (e : Ex F F') : ∀ {v : V} {m : MV} {S : List Addr} {x : D}, Rep K F H v m S → Y.frz m = some x → (∀ a ∈ S, F' a = H a) → RD K F' v x
  | _, _, _, x, .d r, h, _ => by
    rw [frz_d] at h; cases h
    exact r.mono e
  | _, _, _, x, .lst (ms := ms) ha r, h, k => by
    unfold Y.frz at h
    obtain ⟨ds, h1, rfl⟩ := Option.map_eq_some_iff.mp h
    exact .lst ((k _ List.mem_cons_self).trans ha) (Reps.frz e r h1 fun a z => k a (List.mem_cons_of_mem _ z))
  | _, _, _, x, .dK _ _ _, h, _ => by unfold Y.frz at h; cases h
  | _, _, _, x, .dT _ _ _, h, _ => by unfold Y.frz at h; cases h
theorem Reps.frz (e : Ex F F') : ∀ {vs : List V} {ms : List MV} {S : List Addr} {xs : List D}, Reps K F H vs ms S → frzs ms = some xs → (∀ a ∈ S, F' a = H a) → RDs K F' vs xs
  | _, _, _, xs, .nil, h, _ => by
    unfold frzs at h; cases h
    exact .nil
  | _, _, _, xs, .cons r t, h, k => by
    unfold frzs at h
    obtain ⟨x, h1, h2⟩ := Option.bind_eq_some_iff.mp h
    obtain ⟨ys, h3, rfl⟩ := Option.map_eq_some_iff.mp h2
    exact .cons (Rep.frz e r h1 fun a z => k a (List.mem_append_left _ z)) (Reps.frz e t h3 fun a z => k a (List.mem_append_right _ z))
end
mutual
theorem Rep.dp (e : Ex F H) : ∀ {v : V} {m : MV} {S : List Addr} {x : D}, Rep K F H v m S → Y.frz m = some x → Dp K H v x
  | _, _, _, x, .d r, h => by
    rw [frz_d] at h; cases h
    exact dp_mono e (RD.dp r)
  | _, _, _, x, .lst (ms := ms) ha r, h => by
    unfold Y.frz at h
    obtain ⟨ds, h1, rfl⟩ := Option.map_eq_some_iff.mp h
    exact .lst (SqL.of ha) (Reps.dp e r h1)
  | _, _, _, x, .dK _ _ _, h => by unfold Y.frz at h; cases h
  | _, _, _, x, .dT _ _ _, h => by unfold Y.frz at h; cases h
theorem Reps.dp (e : Ex F H) : ∀ {vs : List V} {ms : List MV} {S : List Addr} {xs : List D}, Reps K F H vs ms S → frzs ms = some xs → DpAll K H vs xs
  | _, _, _, xs, .nil, h => by
    unfold frzs at h; cases h
    exact .nil
  | _, _, _, xs, .cons r t, h => by
    unfold frzs at h
    obtain ⟨x, h1, h2⟩ := Option.bind_eq_some_iff.mp h
    obtain ⟨ys, h3, rfl⟩ := Option.map_eq_some_iff.mp h2
    exact .cons (Rep.dp e r h1) (Reps.dp e t h3)
end
end
/-! ### the ghost -/
def Framed (g : G) (H : Hp) (a : Addr) : Prop := Keep (H a) ∧ g.F a = none ∧ g.lab a = none
structure Nx (g : G) (H : Hp) (g' : G) (H' : Hp) : Prop where
  ex : Ex g.F g'.F
  pi : g'.π = g.π
  ro : g'.ro = g.ro
  out : ∀ a, Framed g H a → H' a = H a ∧ g'.F a = none ∧ g'.lab a = none
theorem Nx.fr {g g' : G} {H H' : Hp} (n : Nx g H g' H') {a : Addr} (f : Framed g H a) : Framed g' H' a := let ⟨h1, h2, h3⟩ := n.out a f; ⟨h1 ▸ f.1, h2, h3⟩
theorem Nx.refl (g : G) (H : Hp) : Nx g H g H := ⟨fun _ _ h => h, rfl, rfl, fun _ f => ⟨rfl, f.2.1, f.2.2⟩⟩
theorem Nx.trans {g g1 g2 : G} {H H1 H2 : Hp} (a : Nx g H g1 H1) (b : Nx g1 H1 g2 H2) : Nx g H g2 H2 :=
  ⟨fun x o h => b.ex x o (a.ex x o h), b.pi.trans a.pi, b.ro.trans a.ro, fun x f => let ⟨h1, h2, h3⟩ := b.out x (a.fr f); ⟨h1.trans (a.out x f).1, h2, h3⟩⟩
def Fresh (g : G) (H : Hp) (S : List Addr) : Prop := ∀ a ∈ S, ¬ Framed g H a
theorem Fresh.back {g g1 : G} {H H1 : Hp} {S : List Addr} (n : Nx g H g1 H1) (f : Fresh g1 H1 S) : Fresh g H S := fun a h z => f a h (n.fr z)
theorem Fresh.nil (g : G) (H : Hp) : Fresh g H [] := fun _ h => nomatch h
structure Sta (K : PySem.W.Frag) (g : G) (H : Hp) (σ : L2.St) (sl : SL) : Prop where
  ex : Ex g.F H
  lf : ∀ a, g.lab a ≠ none → g.F a = none
  la : ∀ a, g.lab a ≠ none → Keep (H a)
  ro : ∀ a, g.RO a → Framed g H a
  len : σ.length = sl.length
  d : ∀ (i : Nat) x, sl[i]? = some (some (.d x)) → ∃ v, σ[i]? = some (some v) ∧ RD K g.F v x
  w : ∀ (i : Nat) m, sl[i]? = some (some (.w m)) → ∃ v S, σ[i]? = some (some v) ∧ Rep K g.F H v m S ∧ S.Nodup ∧ ∀ a ∈ S, g.lab a = some i
  p : ∀ (i : Nat) m, sl[i]? = some (some (.p m)) → ∃ v S, (σ[i]? = some (some v) ∧ g.π i = some v) ∧ Rep K g.F H v m S ∧ S.Nodup ∧ ∀ a ∈ S, g.lab a = some i
  k : ∀ (i : Nat) m, sl[i]? = some (some (.k m)) → ∃ v S, (σ[i]? = some (some v) ∧ g.π i = some v) ∧ Rep K g.F H v m S ∧ S.Nodup ∧ ∀ a ∈ S, g.ro i a
  h : ∀ (i : Nat), sl[i]? = some (some .h) → ∃ v, σ[i]? = some (some v) ∧ g.π i = some v
  x : ∀ (i : Nat) ds, sl[i]? = some (some (.x ds)) → ∃ a vs, σ[i]? = some (some (.ref a)) ∧ SqL K g.F a vs ∧ RDs K g.F vs ds
def RTV (K : PySem.W.Frag) (g : G) (H : Hp) (σ : L2.St) (v : V) : TV → List Addr → Prop
  | .d x, S => S = [] ∧ RD K g.F v x
  | .t m, S => Rep K g.F H v m S ∧ S.Nodup ∧ ∀ a ∈ S, g.F a = none ∧ g.lab a = none ∧ ¬ g.RO a
  | .var i, S => S = [] ∧ σ[i]? = some (some v)
  | .x ds, S => S = [] ∧ ∃ a vs, v = .ref a ∧ SqL K g.F a vs ∧ RDs K g.F vs ds
  | .c ds, S => S = [] ∧ ∃ a vs, v = .ref a ∧ SqT K g.F a vs ∧ RDs K g.F vs ds
  | .sub p i j m, S => ∃ v0, (σ[i]? = some (some v0) ∧ (p = true → g.π i = some v0)) ∧ (Rep K g.F H v0 m S ∧ S.Nodup ∧ ∀ a ∈ S, g.F a = none ∧ g.lab a = none ∧ ¬ g.RO a) ∧ KidV H v0 j v ∧ ∃ c, kid m j = some c
section
variable {K : PySem.W.Frag} {g g' : G} {H H' : Hp} {σ : L2.St} {sl : SL} {v : V} {tv : TV} {S : List Addr}
theorem RTV.framed {m : MV} (r : RTV K g H σ v (.t m) S) : ∀ a ∈ S, Framed g H a := fun a z => ⟨r.1.keep a z, (r.2.2 a z).1, (r.2.2 a z).2.1⟩
theorem RTV.framedS {p : Bool} {i j : Nat} {m : MV} (r : RTV K g H σ v (.sub p i j m) S) : ∀ a ∈ S, Framed g H a := fun a z => let ⟨_, _, r, _⟩ := r; ⟨r.1.keep a z, (r.2.2 a z).1, (r.2.2 a z).2.1⟩
theorem RTV.mono (n : Nx g H g' H') (r : RTV K g H σ v tv S) : RTV K g' H' σ v tv S := by
  cases tv with
  | d x => exact ⟨r.1, r.2.mono n.ex⟩
  | t m => exact ⟨r.1.mono n.ex fun a z => (n.out a (r.framed a z)).1, r.2.1, fun a z => ⟨(n.out a (r.framed a z)).2.1, (n.out a (r.framed a z)).2.2, fun q => (r.2.2 a z).2.2 (by unfold G.RO at q ⊢; rw [n.ro] at q; exact q)⟩⟩
  | var i => exact r
  | x ds => obtain ⟨e, a, vs, h1, h2, h3⟩ := r; exact ⟨e, a, vs, h1, ex_l n.ex h2, h3.mono n.ex⟩
  | c ds => obtain ⟨e, a, vs, h1, h2, h3⟩ := r; exact ⟨e, a, vs, h1, ex_t n.ex h2, h3.mono n.ex⟩
  | sub p i j m =>
    have fr := r.framedS
    obtain ⟨v0, ⟨h1, h2⟩, r1, h3, c, h4⟩ := r
    obtain ⟨a, S', e1, e2⟩ := r1.1.root h4
    refine ⟨v0, ⟨h1, fun z => by rw [n.pi]; exact h2 z⟩, ⟨r1.1.mono n.ex fun a z => (n.out a (fr a z)).1, r1.2.1, fun a z => ⟨(n.out a (fr a z)).2.1, (n.out a (fr a z)).2.2, fun q => (r1.2.2 a z).2.2 (by unfold G.RO at q ⊢; rw [n.ro] at q; exact q)⟩⟩, h3.mono fun b eb => ?_, c, h4⟩
    have : b = a := by rw [e1] at eb; cases eb; rfl
    rw [this]
    exact (n.out a (fr a (by rw [e2]; exact List.mem_cons_self))).1
/-- a pending value and one that was made behind it stand apart -/
theorem RTV.apart {T : List Addr} (r : RTV K g H σ v tv S) (f : Fresh g H T) : ∀ a ∈ S, a ∉ T := by
  cases tv with
  | d x => obtain ⟨rfl, _⟩ := r; exact fun _ h => nomatch h
  | var x => obtain ⟨rfl, _⟩ := r; exact fun _ h => nomatch h
  | x x => obtain ⟨rfl, _⟩ := r; exact fun _ h => nomatch h
  | c x => obtain ⟨rfl, _⟩ := r; exact fun _ h => nomatch h
  | t m => exact fun a h z => f a z (r.framed a h)
  | sub p i j m => exact fun a h z => f a z (r.framedS a h)
end
end Y

/-! Layer Y, part B: how states change; the judgements. -/
namespace Y
open PySem PySem.Spec PyProof.Rows L2 Evl
def wAt (sl : SL) (i : Nat) : Option MV := match sl[i]? with
  | some (some (.w m)) => some m
  | some (some (.p m)) => some m
  | _ => none
def putAt (sl : SL) (i : Nat) (m : MV) : SL := match sl[i]? with
  | some (some (.p _)) => sl.set i (some (.p m))
  | _ => sl.set i (some (.w m))
section
variable {K : PySem.W.Frag} {g g0 : G} {H H0 H' : Hp} {σ : L2.St} {sl : SL} {v : V} {tv : TV} {S : List Addr} {i : Nat} {m m' : MV} {x : D}
theorem set_set {α : Type} {l : List α} {i : Nat} {x : α} (h : l[i]? = some x) : l.set i x = l := by
  apply List.ext_getElem?
  intro j
  by_cases e : i = j
  · subst e
    rw [List.getElem?_set_self (List.getElem?_eq_some_iff.mp h).1, h]
  · rw [List.getElem?_set_ne e]
theorem getset {α : Type} {l : List α} {i j : Nat} {x y : α} (h : (l.set i x)[j]? = some y) : (i = j ∧ x = y) ∨ (i ≠ j ∧ l[j]? = some y) := by
  by_cases e : i = j
  · subst e
    have hl : i < l.length := by
      have := (List.getElem?_eq_some_iff.mp h).1
      rwa [List.length_set] at this
    rw [List.getElem?_set_self hl] at h
    exact .inl ⟨rfl, Option.some.inj h⟩
  · rw [List.getElem?_set_ne e] at h
    exact .inr ⟨e, h⟩
theorem getset2 {α β : Type} {l : List α} {i j : Nat} {x y : α} {r : List β} {z : β} (hl : r.length = l.length) (h : (l.set i x)[j]? = some y) : (i = j ∧ x = y ∧ (r.set i z)[j]? = some z) ∨ (i ≠ j ∧ l[j]? = some y ∧ (r.set i z)[j]? = r[j]?) := by
  have hj := (List.getElem?_eq_some_iff.mp h).1
  rw [List.length_set] at hj
  rcases getset h with ⟨e, e2⟩ | ⟨e, e2⟩
  · subst e
    exact .inl ⟨rfl, e2, List.getElem?_set_self (by rw [hl]; exact hj)⟩
  · exact .inr ⟨e, e2, List.getElem?_set_ne e⟩
theorem Sta.own (st : Sta K g H σ sl) (h : wAt sl i = some m) : ∃ v S, σ[i]? = some (some v) ∧ Rep K g.F H v m S ∧ S.Nodup ∧ ∀ a ∈ S, g.lab a = some i := by
  unfold wAt at h
  split at h
  · rename_i q e; cases h; exact st.w i _ e
  · rename_i q e; cases h
    obtain ⟨v, S, ⟨h1, _⟩, h2⟩ := st.p i _ e
    exact ⟨v, S, h1, h2⟩
  · cases h
/-- a slot is given data -/
theorem Sta.setD (st : Sta K g H σ sl) (r : RD K g.F v x) : Sta K g H (σ.set i (some v)) (sl.set i (some (.d x))) := by
  refine ⟨st.ex, st.lf, st.la, st.ro, by rw [List.length_set, List.length_set, st.len], fun j y q => ?_, fun j y q => ?_, fun j y q => ?_, fun j y q => ?_, fun j q => ?_, fun j y q => ?_⟩
  · rcases getset2 (z := some v) st.len q with ⟨rfl, e, z⟩ | ⟨_, e, z⟩
    · cases e; exact ⟨v, z, r⟩
    · rw [z]; exact st.d j y e
  all_goals
    rcases getset2 (z := some v) st.len q with ⟨_, e, _⟩ | ⟨_, e, z⟩
    · cases e
  · rw [z]; exact st.w j y e
  · rw [z]; exact st.p j y e
  · rw [z]; exact st.k j y e
  · rw [z]; exact st.h j e
  · rw [z]; exact st.x j y e
/-- a slot is forgotten, whatever it holds -/
theorem Sta.setN {o : Option V} (st : Sta K g H σ sl) : Sta K g H (σ.set i o) (sl.set i none) := by
  refine ⟨st.ex, st.lf, st.la, st.ro, by rw [List.length_set, List.length_set, st.len], fun j y q => ?_, fun j y q => ?_, fun j y q => ?_, fun j y q => ?_, fun j q => ?_, fun j y q => ?_⟩
  all_goals
    rcases getset2 (z := o) st.len q with ⟨_, e, _⟩ | ⟨_, e, z⟩
    · cases e
  · rw [z]; exact st.d j y e
  · rw [z]; exact st.w j y e
  · rw [z]; exact st.p j y e
  · rw [z]; exact st.k j y e
  · rw [z]; exact st.h j e
  · rw [z]; exact st.x j y e
theorem Sta.forget (st : Sta K g H σ sl) : Sta K g H σ (sl.set i none) := by
  by_cases hi : i < σ.length
  · have := st.setN (i := i) (o := σ[i]'hi)
    rwa [set_set (List.getElem?_eq_getElem hi)] at this
  · rw [List.set_eq_of_length_le (by rw [← st.len]; omega)]
    exact st
theorem Sta.setX {ds : List D} {a : Addr} {vs : List V} (st : Sta K g H σ sl) (h1 : SqL K g.F a vs) (h2 : RDs K g.F vs ds) : Sta K g H (σ.set i (some (.ref a))) (sl.set i (some (.x ds))) := by
  refine ⟨st.ex, st.lf, st.la, st.ro, by rw [List.length_set, List.length_set, st.len], fun j y q => ?_, fun j y q => ?_, fun j y q => ?_, fun j y q => ?_, fun j q => ?_, fun j y q => ?_⟩
  all_goals
    rcases getset2 (z := some (.ref a)) st.len q with ⟨_, e, z⟩ | ⟨_, e, z⟩
  · cases e
  · rw [z]; exact st.d j y e
  · cases e
  · rw [z]; exact st.w j y e
  · cases e
  · rw [z]; exact st.p j y e
  · cases e
  · rw [z]; exact st.k j y e
  · cases e
  · rw [z]; exact st.h j e
  · cases e; exact ⟨a, vs, z, h1, h2⟩
  · rw [z]; exact st.x j y e
/-- the ghost, a set of addresses given to a slot -/
def labG (g : G) (S : List Addr) (i : Nat) : G := { g with lab := fun a => if a ∈ S then some i else g.lab a }
theorem labG_in {a : Addr} (h : a ∈ S) : (labG g S i).lab a = some i := by unfold labG; simp [h]
theorem labG_ne {a : Addr} (h : a ∉ S) : (labG g S i).lab a = g.lab a := by unfold labG; simp [h]
theorem Sta.setW (n : Nx g0 H0 g H) (f : Fresh g0 H0 S) (st : Sta K g H σ sl) (r : RTV K g H σ v (.t m) S) : Nx g0 H0 (labG g S i) H ∧ Sta K (labG g S i) H (σ.set i (some v)) (sl.set i (some (.w m))) := by
  have ns : ∀ a j, g.lab a = some j → a ∉ S := fun a j h z => by rw [(r.2.2 a z).2.1] at h; cases h
  refine ⟨⟨n.ex, n.pi, n.ro, fun a fa => ?_⟩, ⟨st.ex, fun a h => ?_, fun a h => ?_, fun a h => ?_, by rw [List.length_set, List.length_set, st.len], fun j y q => ?_, fun j y q => ?_, fun j y q => ?_, fun j y q => ?_, fun j q => ?_, fun j y q => ?_⟩⟩
  · obtain ⟨h1, h2, h3⟩ := n.out a fa
    exact ⟨h1, h2, by rw [labG_ne fun z => f a z fa]; exact h3⟩
  · by_cases z : a ∈ S
    · exact (r.2.2 a z).1
    · rw [labG_ne z] at h; exact st.lf a h
  · by_cases z : a ∈ S
    · exact r.1.keep a z
    · rw [labG_ne z] at h; exact st.la a h
  · obtain ⟨h1, h2, h3⟩ := st.ro a h
    exact ⟨h1, h2, by rw [labG_ne fun z => (r.2.2 a z).2.2 h]; exact h3⟩
  · rcases getset2 (z := some v) st.len q with ⟨_, e, z⟩ | ⟨_, e, z⟩
    · cases e
    · rw [z]; exact st.d j y e
  · rcases getset2 (z := some v) st.len q with ⟨rfl, e, z⟩ | ⟨_, e, z⟩
    · cases e; exact ⟨v, S, z, r.1, r.2.1, fun a h => labG_in h⟩
    · rw [z]
      obtain ⟨u, T, h1, h2, h3, h4⟩ := st.w j y e
      exact ⟨u, T, h1, h2, h3, fun a h => by rw [labG_ne (ns a j (h4 a h))]; exact h4 a h⟩
  · rcases getset2 (z := some v) st.len q with ⟨_, e, z⟩ | ⟨_, e, z⟩
    · cases e
    · rw [z]
      obtain ⟨u, T, h1, h2, h3, h4⟩ := st.p j y e
      exact ⟨u, T, h1, h2, h3, fun a h => by rw [labG_ne (ns a j (h4 a h))]; exact h4 a h⟩
  · rcases getset2 (z := some v) st.len q with ⟨_, e, z⟩ | ⟨_, e, z⟩
    · cases e
    · rw [z]; exact st.k j y e
  · rcases getset2 (z := some v) st.len q with ⟨_, e, z⟩ | ⟨_, e, z⟩
    · cases e
    · rw [z]; exact st.h j e
  · rcases getset2 (z := some v) st.len q with ⟨_, e, z⟩ | ⟨_, e, z⟩
    · cases e
    · rw [z]; exact st.x j y e
/-- the ghost, a set of addresses frozen -/
def frzG (g : G) (H : Hp) (S : List Addr) : G := { g with F := fun a => if a ∈ S then H a else g.F a, lab := fun a => if a ∈ S then none else g.lab a }
theorem frzG_ex (h : ∀ a ∈ S, g.F a = none) : Ex g.F (frzG g H S).F := fun a o e => by
  show (if a ∈ S then H a else g.F a) = some o
  by_cases z : a ∈ S
  · rw [h a z] at e; cases e
  · rw [if_neg z]; exact e
theorem frzG_in {a : Addr} (z : a ∈ S) : (frzG g H S).F a = H a := if_pos z
theorem frzG_F {a : Addr} (z : a ∉ S) : (frzG g H S).F a = g.F a := if_neg z
theorem frzG_lab {a : Addr} (z : a ∉ S) : (frzG g H S).lab a = g.lab a := if_neg z
theorem frzG_labi {a : Addr} (z : a ∈ S) : (frzG g H S).lab a = none := if_pos z
/-- freezing addresses that no slot but i holds -/
theorem Sta.frzS (n : Nx g0 H0 g H) (f : Fresh g0 H0 S) (st : Sta K g H σ sl) (hF : ∀ a ∈ S, g.F a = none) (hr : ∀ a ∈ S, ¬ g.RO a)
    (hw : ∀ (j : Nat) y, (sl[j]? = some (some (.w y)) ∨ sl[j]? = some (some (.p y))) → ∀ a ∈ S, g.lab a ≠ some j) : Nx g0 H0 (frzG g H S) H ∧ Sta K (frzG g H S) H σ sl := by
  have ex : Ex g.F (frzG g H S).F := frzG_ex hF
  refine ⟨⟨fun a o h => ex a o (n.ex a o h), n.pi, n.ro, fun a fa => ?_⟩, ⟨fun a o h => ?_, fun a h => ?_, fun a h => ?_, fun a h => ?_, st.len, fun j y q => ?_, fun j y q => ?_, fun j y q => ?_, fun j y q => ?_, fun j q => ?_, fun j y q => ?_⟩⟩
  · obtain ⟨h1, h2, h3⟩ := n.out a fa
    have z : a ∉ S := fun z => f a z fa
    exact ⟨h1, by rw [frzG_F z]; exact h2, by rw [frzG_lab z]; exact h3⟩
  · by_cases z : a ∈ S
    · rw [frzG_in z] at h; exact h
    · rw [frzG_F z] at h; exact st.ex a o h
  · by_cases z : a ∈ S
    · rw [frzG_labi z] at h; exact absurd rfl h
    · rw [frzG_lab z] at h; rw [frzG_F z]; exact st.lf a h
  · by_cases z : a ∈ S
    · rw [frzG_labi z] at h; exact absurd rfl h
    · rw [frzG_lab z] at h; exact st.la a h
  · obtain ⟨h1, h2, h3⟩ := st.ro a h
    have z : a ∉ S := fun z => hr a z h
    exact ⟨h1, by rw [frzG_F z]; exact h2, by rw [frzG_lab z]; exact h3⟩
  · obtain ⟨v, h1, h2⟩ := st.d j y q
    exact ⟨v, h1, h2.mono ex⟩
  · obtain ⟨u, T, h1, h2, h3, h4⟩ := st.w j y q
    exact ⟨u, T, h1, h2.mono ex fun _ _ => rfl, h3, fun a h => by rw [frzG_lab fun z => hw j y (.inl q) a z (h4 a h)]; exact h4 a h⟩
  · obtain ⟨u, T, h1, h2, h3, h4⟩ := st.p j y q
    exact ⟨u, T, h1, h2.mono ex fun _ _ => rfl, h3, fun a h => by rw [frzG_lab fun z => hw j y (.inr q) a z (h4 a h)]; exact h4 a h⟩
  · obtain ⟨u, T, h1, h2, h3, h4⟩ := st.k j y q
    exact ⟨u, T, h1, h2.mono ex fun _ _ => rfl, h3, h4⟩
  · exact st.h j q
  · obtain ⟨a, vs, h1, h2, h3⟩ := st.x j y q
    exact ⟨a, vs, h1, ex_l ex h2, h3.mono ex⟩
/-- a temp as data -/
theorem Sta.frzT (n : Nx g0 H0 g H) (f : Fresh g0 H0 S) (st : Sta K g H σ sl) (r : RTV K g H σ v (.t m) S) (e : frz m = some x) : Nx g0 H0 (frzG g H S) H ∧ Sta K (frzG g H S) H σ sl ∧ RD K (frzG g H S).F v x := by
  have hF : ∀ a ∈ S, g.F a = none := fun a z => (r.2.2 a z).1
  obtain ⟨n', st'⟩ := st.frzS n f hF (fun a z => (r.2.2 a z).2.2) fun j y _ a z h => by rw [(r.2.2 a z).2.1] at h; cases h
  exact ⟨n', st', r.1.frz (frzG_ex hF) e fun a z => frzG_in z⟩
theorem Sta.notframed (st : Sta K g H σ sl) (n : Nx g0 H0 g H) {a : Addr} {j : Nat} (h : g.lab a = some j) : ¬ Framed g0 H0 a := fun z => by
  rw [(n.out a z).2.2] at h; cases h
/-- a slot's tree as data -/
theorem Sta.frzV (n : Nx g0 H0 g H) (st : Sta K g H σ sl) (h : wAt sl i = some m) (e : frz m = some x) : ∃ g' v, Nx g0 H0 g' H ∧ Sta K g' H σ (sl.set i (some (.d x))) ∧ σ[i]? = some (some v) ∧ RD K g'.F v x := by
  obtain ⟨v, S, h1, h2, h3, h4⟩ := st.own h
  have hF : ∀ a ∈ S, g.F a = none := fun a z => st.lf a (by rw [h4 a z]; exact fun z => nomatch z)
  have st1 : Sta K g H σ (sl.set i none) := st.forget
  obtain ⟨n', st'⟩ := st1.frzS n (fun a z => st.notframed n (h4 a z)) hF (fun a z q => by have := (st.ro a q).2.2; rw [h4 a z] at this; cases this) fun j y q a z h => by
    have ei : i = j := by rw [h4 a z] at h; exact Option.some.inj h
    subst ei
    rcases q with q | q <;> (rcases getset q with ⟨_, q⟩ | ⟨q, _⟩ <;> first | exact absurd rfl q | cases q)
  have r : RD K (frzG g H S).F v x := h2.frz (frzG_ex hF) e fun a z => frzG_in z
  have st2 := st'.setD (i := i) r
  rw [List.set_set, set_set h1] at st2
  exact ⟨_, v, n', st2, h1, r⟩
theorem wAt_lt (h : wAt sl i = some m) : i < sl.length := by
  unfold wAt at h
  split at h
  · rename_i e; exact (List.getElem?_eq_some_iff.mp e).1
  · rename_i e; exact (List.getElem?_eq_some_iff.mp e).1
  · cases h
/-- the tree at a slot is changed -/
theorem Sta.mut {S' T : List Addr} (n : Nx g0 H0 g H) (fT : Fresh g0 H0 T) (st : Sta K g H σ sl) (h : wAt sl i = some m) (hv : σ[i]? = some (some v)) (hS : ∀ a ∈ S, g.lab a = some i) (hT : ∀ a ∈ T, g.F a = none ∧ g.lab a = none ∧ ¬ g.RO a)
    (hH : ∀ a, a ∉ S → H a ≠ none → H' a = H a) (hA : ∀ a, Keep (H a) → Keep (H' a)) (hTa : ∀ a ∈ T, Keep (H a)) (r : Rep K g.F H' v m' S') (nd : S'.Nodup) (hS' : ∀ a ∈ S', a ∈ S ∨ a ∈ T) : Nx g0 H0 (labG g T i) H' ∧ Sta K (labG g T i) H' σ (putAt sl i m') := by
  have hSF : ∀ a ∈ S, g.F a = none := fun a z => st.lf a (by rw [hS a z]; exact fun z => nomatch z)
  have ex' : Ex g.F H' := fun a o e => by
    rw [hH a (fun z => by rw [hSF a z] at e; cases e) (by rw [st.ex a o e]; exact fun z => nomatch z)]
    exact st.ex a o e
  have ns : ∀ a j, g.lab a = some j → a ∉ T := fun a j h z => by rw [(hT a z).2.1] at h; cases h
  have hlab' : ∀ a ∈ S', (labG g T i).lab a = some i := fun a z => by
    rcases hS' a z with z | z
    · rw [labG_ne (ns a i (hS a z))]; exact hS a z
    · exact labG_in z
  have oth : ∀ {j : Nat} {u : V} {y : MV} {U : List Addr}, j ≠ i → Rep K g.F H u y U → (∀ a ∈ U, g.lab a = some j) → Rep K g.F H' u y U := fun {j u y U} ne q ha =>
    q.mono (fun _ _ z => z) fun a z => hH a (fun z2 => ne (by have h1 := ha a z; have h2 := hS a z2; rw [h1] at h2; exact Option.some.inj h2)) (q.keep a z).1
  refine ⟨⟨n.ex, n.pi, n.ro, fun a fa => ?_⟩, ⟨ex', fun a h => ?_, fun a h => ?_, fun a h => ?_, ?_, fun j y q => ?_, fun j y q => ?_, fun j y q => ?_, fun j y q => ?_, fun j q => ?_, fun j y q => ?_⟩⟩
  · obtain ⟨h1, h2, h3⟩ := n.out a fa
    refine ⟨(hH a (fun z => st.notframed n (hS a z) fa) (h1 ▸ fa.1.1)).trans h1, h2, ?_⟩
    rw [labG_ne fun z => fT a z fa]; exact h3
  · by_cases z : a ∈ T
    · exact (hT a z).1
    · rw [labG_ne z] at h; exact st.lf a h
  · by_cases z : a ∈ T
    · exact hA a (hTa a z)
    · rw [labG_ne z] at h; exact hA a (st.la a h)
  · obtain ⟨h1, h2, h3⟩ := st.ro a h
    have zS : a ∉ S := fun z => by rw [hS a z] at h3; cases h3
    exact ⟨by rw [hH a zS h1.1]; exact h1, h2, by rw [labG_ne fun z => (hT a z).2.2 h]; exact h3⟩
  · unfold putAt; split <;> rw [List.length_set, st.len]
  · unfold putAt at q
    split at q
    all_goals
      rcases getset q with ⟨rfl, e⟩ | ⟨_, e⟩
      · cases e
      · exact st.d j y e
  · unfold putAt at q
    split at q
    · rcases getset q with ⟨rfl, e⟩ | ⟨ne, e⟩
      · cases e
      · obtain ⟨u, U, h1, h2, h3, h4⟩ := st.w j y e
        exact ⟨u, U, h1, oth (Ne.symm ne) h2 h4, h3, fun a h => by rw [labG_ne (ns a j (h4 a h))]; exact h4 a h⟩
    · rcases getset q with ⟨rfl, e⟩ | ⟨ne, e⟩
      · cases e
        exact ⟨v, S', hv, r, nd, hlab'⟩
      · obtain ⟨u, U, h1, h2, h3, h4⟩ := st.w j y e
        exact ⟨u, U, h1, oth (Ne.symm ne) h2 h4, h3, fun a h => by rw [labG_ne (ns a j (h4 a h))]; exact h4 a h⟩
  · unfold putAt at q
    split at q
    · rename_i ep
      rcases getset q with ⟨rfl, e⟩ | ⟨ne, e⟩
      · cases e
        obtain ⟨u, U, ⟨h1, h1'⟩, _⟩ := st.p _ _ ep
        rw [hv] at h1
        cases h1
        exact ⟨v, S', ⟨hv, h1'⟩, r, nd, hlab'⟩
      · obtain ⟨u, U, h1, h2, h3, h4⟩ := st.p j y e
        exact ⟨u, U, h1, oth (Ne.symm ne) h2 h4, h3, fun a h => by rw [labG_ne (ns a j (h4 a h))]; exact h4 a h⟩
    · rcases getset q with ⟨rfl, e⟩ | ⟨ne, e⟩
      · cases e
      · obtain ⟨u, U, h1, h2, h3, h4⟩ := st.p j y e
        exact ⟨u, U, h1, oth (Ne.symm ne) h2 h4, h3, fun a h => by rw [labG_ne (ns a j (h4 a h))]; exact h4 a h⟩
  · have e : sl[j]? = some (some (.k y)) := by
      unfold putAt at q
      split at q <;> (rcases getset q with ⟨rfl, e⟩ | ⟨ne, e⟩ <;> first | exact e | cases e)
    obtain ⟨u, U, h1, h2, h3, h4⟩ := st.k j y e
    exact ⟨u, U, h1, h2.mono (fun _ _ z => z) fun a z => hH a (fun z2 => by have := (st.ro a ⟨_, h4 a z⟩).2.2; rw [hS a z2] at this; cases this) (h2.keep a z).1, h3, h4⟩
  · have e : sl[j]? = some (some .h) := by
      unfold putAt at q
      split at q <;> (rcases getset q with ⟨rfl, e⟩ | ⟨ne, e⟩ <;> first | exact e | cases e)
    exact st.h j e
  · have e : sl[j]? = some (some (.x y)) := by
      unfold putAt at q
      split at q <;> (rcases getset q with ⟨rfl, e⟩ | ⟨ne, e⟩ <;> first | exact e | cases e)
    exact st.x j y e
/-- a new thing that never changes -/
theorem Sta.newF {p : Addr} {o : HO} (n : Nx g0 H0 g H) (st : Sta K g H σ sl) (h : H p = none) : Nx g0 H0 { g with F := upd g.F p o } (upd H p o) ∧ Sta K { g with F := upd g.F p o } (upd H p o) σ sl ∧ Ex g.F (upd g.F p o) := by
  have hp : g.F p = none := fresh_back st.ex h
  have ex : Ex g.F (upd g.F p o) := Ex.new hp
  have re : ∀ {v : V} {m : MV} {S : List Addr}, Rep K g.F H v m S → Rep K (upd g.F p o) (upd H p o) v m S := fun r => r.mono ex fun a z => upd_ne fun e => by subst e; exact (r.keep _ z).1 h
  have nf : ∀ {a : Addr}, Keep (H a) → a ≠ p := fun k e => by subst e; exact k.1 h
  refine ⟨⟨fun a u e => ex a u (n.ex a u e), n.pi, n.ro, fun a fa => ?_⟩, ⟨fun a u e => ?_, fun a q => ?_, fun a q => ?_, fun a q => ?_, st.len, fun j y q => ?_, fun j y q => ?_, fun j y q => ?_, fun j y q => ?_, fun j q => ?_, fun j y q => ?_⟩, ex⟩
  · obtain ⟨h1, h2, h3⟩ := n.out a fa
    have ne := nf (h1 ▸ fa.1)
    exact ⟨(upd_ne ne).trans h1, (upd_ne ne).trans h2, h3⟩
  · by_cases e2 : a = p
    · subst e2
      have e3 : upd g.F a o a = some u := e
      rw [upd_same] at e3 ⊢; exact e3
    · rw [upd_ne e2]
      have e3 : upd g.F p o a = some u := e
      rw [upd_ne e2] at e3
      exact st.ex a u e3
  · have ne : a ≠ p := fun e => by subst e; exact (st.la _ q).1 h
    exact (upd_ne ne).trans (st.lf a q)
  · have ne : a ≠ p := fun e => by subst e; exact (st.la _ q).1 h
    rw [upd_ne ne]; exact st.la a q
  · obtain ⟨h1, h2, h3⟩ := st.ro a q
    exact ⟨by rw [upd_ne (nf h1)]; exact h1, (upd_ne (nf h1)).trans h2, h3⟩
  · obtain ⟨v, h1, h2⟩ := st.d j y q
    exact ⟨v, h1, h2.mono ex⟩
  · obtain ⟨u, T, h1, h2, h3, h4⟩ := st.w j y q
    exact ⟨u, T, h1, re h2, h3, h4⟩
  · obtain ⟨u, T, h1, h2, h3, h4⟩ := st.p j y q
    exact ⟨u, T, h1, re h2, h3, h4⟩
  · obtain ⟨u, T, h1, h2, h3, h4⟩ := st.k j y q
    exact ⟨u, T, h1, re h2, h3, h4⟩
  · exact st.h j q
  · obtain ⟨a, vs, h1, h2, h3⟩ := st.x j y q
    exact ⟨a, vs, h1, ex_l ex h2, h3.mono ex⟩
/-- a new object that nobody holds yet -/
theorem Sta.newT {p : Addr} {o : HO} (n : Nx g0 H0 g H) (st : Sta K g H σ sl) (h : H p = none) : Nx g0 H0 g (upd H p o) ∧ Sta K g (upd H p o) σ sl ∧ g.F p = none ∧ g.lab p = none ∧ ¬ g.RO p ∧ ¬ Framed g0 H0 p := by
  have hp : g.F p = none := fresh_back st.ex h
  have re : ∀ {v : V} {m : MV} {S : List Addr}, Rep K g.F H v m S → Rep K g.F (upd H p o) v m S := fun r => r.mono (fun _ _ z => z) fun a z => upd_ne fun e => by subst e; exact (r.keep _ z).1 h
  have nf : ∀ {a : Addr}, Keep (H a) → a ≠ p := fun k e => by subst e; exact k.1 h
  refine ⟨⟨n.ex, n.pi, n.ro, fun a fa => ?_⟩, ⟨fun a u e => ?_, st.lf, fun a q => ?_, fun a q => ?_, st.len, st.d, fun j y q => ?_, fun j y q => ?_, fun j y q => ?_, st.h, st.x⟩, hp, ?_, fun q => (st.ro p q).1.1 h, fun q => ?_⟩
  · obtain ⟨h1, h2, h3⟩ := n.out a fa
    exact ⟨(upd_ne (nf (h1 ▸ fa.1))).trans h1, h2, h3⟩
  · rw [upd_ne fun z => by subst z; rw [hp] at e; cases e]; exact st.ex a u e
  · rw [upd_ne fun z => by subst z; exact (st.la _ q).1 h]; exact st.la a q
  · obtain ⟨h1, h2, h3⟩ := st.ro a q
    exact ⟨by rw [upd_ne (nf h1)]; exact h1, h2, h3⟩
  · obtain ⟨u, T, h1, h2, h3, h4⟩ := st.w j y q
    exact ⟨u, T, h1, re h2, h3, h4⟩
  · obtain ⟨u, T, h1, h2, h3, h4⟩ := st.p j y q
    exact ⟨u, T, h1, re h2, h3, h4⟩
  · obtain ⟨u, T, h1, h2, h3, h4⟩ := st.k j y q
    exact ⟨u, T, h1, re h2, h3, h4⟩
  · cases e : g.lab p with
    | none => rfl
    | some j => exact absurd h (st.la p (by rw [e]; exact fun z => nomatch z)).1
  · have := (n.out p q).1
    rw [h] at this
    exact q.1.1 this.symm
end
end Y

/-! Layer Y, part C: results, lifts, expressions. -/
namespace Y
open PySem PySem.Spec PyProof.Rows L2 Evl
abbrev XA := Value × Option (List (Str × D))
inductive Res (α : Type) where
  | ok (a : α) (s : SL) | ex (xa : XA) (s : SL)
abbrev AE := SL → Option (Res TV)
abbrev AT := SL → Option (Res Bool)
abbrev AA := SL → Option (Res (List TV))
inductive SR where
  | nx (s : SL) | rt (t : TV) (s : SL) | bk (s : SL) | ct (s : SL) | ex (xa : XA) (s : SL)
abbrev AS := SL → Option SR
def bd {α β : Type} (x : Option (Res α)) (f : α → SL → Option (Res β)) : Option (Res β) := match x with
  | some (.ok a s) => f a s
  | some (.ex xa s) => some (.ex xa s)
  | none => none
@[simp] theorem bd_ok {α β : Type} {a : α} {s : SL} {f : α → SL → Option (Res β)} : bd (some (.ok a s)) f = f a s := rfl
@[simp] theorem bd_ex {α β : Type} {a : XA} {s : SL} {f : α → SL → Option (Res β)} : bd (some (.ex a s)) f = some (.ex a s) := rfl
@[simp] theorem bd_none {α β : Type} {f : α → SL → Option (Res β)} : bd none f = none := rfl
/-- an exception that flies -/
def RX (K : PySem.W.Frag) (g : G) (cls : Value) (d : Option Addr) (H : Hp) (xa : XA) : Prop := cls = xa.1 ∧ match xa.2 with
  | none => d = none
  | some fs => ∃ a kvs, d = some a ∧ H a = some (.xd kvs) ∧ Paired (fun (p : Str × V) (q : Str × D) => p.1 = q.1 ∧ RD K g.F p.2 q.2) kvs fs
def Kx (K : PySem.W.Frag) (W : WX) (g0 : G) (H0 : Hp) (σ : L2.St) (xa : XA) (sl : SL) : Prop := ∀ g H cls d, Nx g0 H0 g H → Sta K g H σ sl → RX K g cls d H xa → W cls d σ H
/-- what is wanted of a result; R tells what stands for what -/
def Kg (K : PySem.W.Frag) {ω α : Type} (R : G → Hp → ω → α → List Addr → Prop) (σ : L2.St) (Q : ω → Hp → Prop) (g0 : G) (H0 : Hp) (a : α) (sl : SL) : Prop := ∀ g H v S, Nx g0 H0 g H → Sta K g H σ sl → R g H v a S → Fresh g0 H0 S → Q v H
def EK (K : PySem.W.Frag) {ω α : Type} (R : G → Hp → ω → α → List Addr → Prop) (W : WX) (σ : L2.St) (Q : ω → Hp → Prop) (g0 : G) (H0 : Hp) : Res α → Prop
  | .ok a sl => Kg K R σ Q g0 H0 a sl
  | .ex xa sl => Kx K W g0 H0 σ xa sl
def lft (K : PySem.W.Frag) {ω α : Type} (R : L2.St → G → Hp → ω → α → List Addr → Prop) (W : WX) (A : SL → Option (Res α)) : L2.St → Hp → (ω → Hp → Prop) → Prop :=
  fun σ H Q => ∃ g sl r, Sta K g H σ sl ∧ A sl = some r ∧ EK K (R σ) W σ Q g H r
inductive RTVs (K : PySem.W.Frag) (g : G) (H : Hp) (σ : L2.St) : List V → List TV → List Addr → Prop
  | nil : RTVs K g H σ [] [] []
  | cons {v : V} {vs : List V} {t : TV} {ts : List TV} {S T : List Addr} : RTV K g H σ v t S → RTVs K g H σ vs ts T → (∀ a ∈ S, a ∉ T) → RTVs K g H σ (v :: vs) (t :: ts) (S ++ T)
abbrev RV (K : PySem.W.Frag) : L2.St → G → Hp → V → TV → List Addr → Prop := fun σ g H v t S => RTV K g H σ v t S
abbrev RB : L2.St → G → Hp → Bool → Bool → List Addr → Prop := fun _ _ _ a b S => a = b ∧ S = []
abbrev RL (K : PySem.W.Frag) : L2.St → G → Hp → List V → List TV → List Addr → Prop := fun σ g H v t S => RTVs K g H σ v t S
abbrev eL (K : PySem.W.Frag) (W : WX) (A : AE) : TE := lft K (RV K) W A
abbrev tL (K : PySem.W.Frag) (W : WX) (A : AT) : TT := lft K RB W A
abbrev aL (K : PySem.W.Frag) (W : WX) (A : AA) : TA := lft K (RL K) W A
section
variable {K : PySem.W.Frag} {W : WX} {g g0 g1 g' : G} {H H0 H1 H' : Hp} {σ : L2.St} {sl sl' : SL}
theorem Kx.mono {xa : XA} (k : Kx K W g H σ xa sl) (n : Nx g H g1 H1) : Kx K W g1 H1 σ xa sl := fun g2 H2 cls d m => k g2 H2 cls d (n.trans m)
section
variable {ω α β : Type} {R : L2.St → G → Hp → ω → α → List Addr → Prop}
theorem Kg.mono {R : G → Hp → ω → α → List Addr → Prop} {Q : ω → Hp → Prop} {a : α} (k : Kg K R σ Q g H a sl) (n : Nx g H g1 H1) (hf : ∀ g2 H2 v S, R g2 H2 v a S → Fresh g1 H1 S → Fresh g H S := fun _ _ _ _ _ f => Fresh.back n f) : Kg K R σ Q g1 H1 a sl := fun g2 H2 v S m st r f => k g2 H2 v S (n.trans m) st r (hf g2 H2 v S r f)
theorem EK.mono {R : G → Hp → ω → α → List Addr → Prop} {Q : ω → Hp → Prop} {r : Res α} (n : Nx g H g1 H1) (k : EK K R W σ Q g H r) : EK K R W σ Q g1 H1 r := by
  cases r with
  | ok a s => exact Kg.mono k n
  | ex xa s => exact Kx.mono k n
theorem EK.x {R : G → Hp → ω → α → List Addr → Prop} {Q : ω → Hp → Prop} {r : Res α} (k : EK K R W σ Q g H r) : ∀ xa s, r = .ex xa s → Kx K W g H σ xa s := fun xa s e => by subst e; exact k
theorem run1 {A : SL → Option (Res α)} {f : α → SL → Option (Res β)} {r : Res β} {Q : ω → Hp → Prop} (st : Sta K g H σ sl) (h : bd (A sl) f = some r) (hx : ∀ xa s, r = .ex xa s → Kx K W g H σ xa s)
    (hk : ∀ a s1 g1 H1 v S, f a s1 = some r → Nx g H g1 H1 → Sta K g1 H1 σ s1 → R σ g1 H1 v a S → Fresh g H S → Q v H1) : lft K R W A σ H Q := by
  unfold bd at h
  split at h
  · rename_i a s e
    exact ⟨g, sl, _, st, e, fun g1 H1 v S n st1 r f => hk a s g1 H1 v S h n st1 r f⟩
  · rename_i xa s e
    cases h
    exact ⟨g, sl, _, st, e, hx xa s rfl⟩
  · cases h
end
theorem hxm {α : Type} {r : Res α} (h : ∀ xa s, r = .ex xa s → Kx K W g H σ xa s) (n : Nx g H g1 H1) : ∀ xa s, r = .ex xa s → Kx K W g1 H1 σ xa s := fun xa s e => (h xa s e).mono n
/-! ends of readings -/
theorem Kg.scal {Q : VK} {x : D} {v : V} (k : Kg K (RV K σ) σ Q g0 H0 (.d x) sl) (n : Nx g0 H0 g H) (st : Sta K g H σ sl) (r : RD K g.F v x) : Q v H := k g H v [] n st ⟨rfl, r⟩ (Fresh.nil _ _)
theorem Kg.newT {Q : VK} {ds : List D} {vs : List V} (k : Kg K (RV K σ) σ Q g0 H0 (.d (.tuple ds)) sl) (n : Nx g0 H0 g H) (st : Sta K g H σ sl) (r : RDs K g.F vs ds) {p : Addr} (hp : H p = none) : Q (.ref p) (upd H p (.tup vs)) := by
  obtain ⟨n', st', ex⟩ := st.newF (o := .tup vs) n hp
  exact k _ _ _ [] n' st' ⟨rfl, .tup upd_same (r.mono ex)⟩ (Fresh.nil _ _)
theorem Kg.newM {Q : VK} {ms : List MV} {vs : List V} {S : List Addr} (k : Kg K (RV K σ) σ Q g0 H0 (.t (.lst ms)) sl) (n : Nx g0 H0 g H) (st : Sta K g H σ sl) (r : Reps K g.F H vs ms S) (nd : S.Nodup) (hS : ∀ a ∈ S, g.F a = none ∧ g.lab a = none ∧ ¬ g.RO a) (f : Fresh g0 H0 S) {p : Addr} (hp : H p = none) : Q (.ref p) (upd H p (.lst vs)) := by
  obtain ⟨n', st', h1, h2, h3, h4⟩ := st.newT (o := .lst vs) n hp
  have np : ∀ a ∈ S, a ≠ p := fun a z e => by subst e; exact (r.keep _ z).1 hp
  refine k _ _ _ (p :: S) n' st' ⟨.lst upd_same (r.mono (fun _ _ z => z) fun a z => upd_ne (np a z)), List.nodup_cons.mpr ⟨fun z => np p z rfl, nd⟩, fun a z => ?_⟩ fun a z => ?_
  · rcases List.mem_cons.mp z with e | e
    · subst e; exact ⟨h1, h2, h3⟩
    · exact hS a e
  · rcases List.mem_cons.mp z with e | e
    · subst e; exact h4
    · exact f a e
theorem Kg.newL {Q : VK} {ds : List D} {vs : List V} (k : Kg K (RV K σ) σ Q g0 H0 (.t (.lst (ds.map MV.d))) sl) (n : Nx g0 H0 g H) (st : Sta K g H σ sl) (r : RDs K g.F vs ds) {p : Addr} (hp : H p = none) : Q (.ref p) (upd H p (.lst vs)) :=
  k.newM n st (RDs.reps r) List.nodup_nil (fun _ h => nomatch h) (Fresh.nil _ _) hp
end
theorem PEm {X : Cx} {e : Expr} {t t' : TE} (h : PE X e t) (k : ∀ σ H Q, t' σ H Q → t σ H Q) : PE X e t' := ⟨fun pins s σ H Q I q => h.run pins s σ H Q I (k σ H Q q)⟩
theorem PTm {X : Cx} {e : Expr} {t t' : TT} (h : PT X e t) (k : ∀ σ H Q, t' σ H Q → t σ H Q) : PT X e t' := ⟨fun pins s σ H Q I q => h.run pins s σ H Q I (k σ H Q q)⟩
theorem PWm {X : Cx} {e : Expr} {t t' : TT} (h : PW X e t) (k : ∀ σ H Q, t' σ H Q → t σ H Q) : PW X e t' := ⟨fun wh pins s σ H Q I q => h.run wh pins s σ H Q I (k σ H Q q)⟩
theorem PAm {X : Cx} {e : List Expr} {t t' : TA} (h : PA X e t) (k : ∀ σ H Q, t' σ H Q → t σ H Q) : PA X e t' := ⟨fun po pins s σ H Q I q => h.run po pins s σ H Q I (k σ H Q q)⟩
theorem PSm {X : Cx} {e : Stmt} {t t' : TS} (h : PS X e t) (k : ∀ D σ H, t' D σ H → t D σ H) : PS X e t' := ⟨fun pins s σ H D I q => h.run pins s σ H D I (k D σ H q)⟩
theorem PSsm {X : Cx} {e : List Stmt} {t t' : TS} (h : PSs X e t) (k : ∀ D σ H, t' D σ H → t D σ H) : PSs X e t' := ⟨fun pins s σ H D I q => h.run pins s σ H D I (k D σ H q)⟩
theorem PIm {X : Cx} {tg e : Expr} {t t' : TI} (h : PI X tg e t) (k : ∀ σ H Q, t' σ H Q → t σ H Q) : PI X tg e t' := ⟨fun pins s σ H Q I q => h.run pins s σ H Q I (k σ H Q q)⟩
/-! ### views -/
def vw (sl : SL) : TV → Option MV
  | .d x => some (.d x)
  | .t m => some m
  | .var i => match sl[i]? with
    | some (some (.d x)) => some (.d x)
    | some (some (.w m)) => some m
    | some (some (.p m)) => some m
    | some (some (.k m)) => some m
    | _ => none
  | .x _ => none
  | .c _ => none
  | .sub _ _ _ _ => none
def lvs : List MV → Option (List D)
  | [] => some []
  | .d x :: r => (lvs r).map (x :: ·)
  | _ :: _ => none
@[simp] theorem lvs_map : ∀ ds : List D, lvs (ds.map MV.d) = some ds
  | [] => rfl
  | x :: r => by
    show (lvs (r.map MV.d)).map (x :: ·) = some (x :: r)
    rw [lvs_map r]; rfl
theorem lvs_eq : ∀ {ms : List MV} {ds : List D}, lvs ms = some ds → ms = ds.map MV.d
  | [], ds, h => by cases h; rfl
  | .d x :: r, ds, h => by
    have h' : (lvs r).map (x :: ·) = some ds := h
    obtain ⟨es, e1, rfl⟩ := Option.map_eq_some_iff.mp h'
    rw [List.map_cons, ← lvs_eq e1]
  | .lst _ :: _, _, h => by cases h
  | .dK _ :: _, _, h => by cases h
  | .dT _ :: _, _, h => by cases h
/-- a list's items; of the outside one too -/
def seqL (sl : SL) : TV → Option (List MV)
  | .x ds => some (ds.map MV.d)
  | tv => match vw sl tv with
    | some (.d (.list ds)) => some (ds.map MV.d)
    | some (.lst ms) => some ms
    | _ => none
def seqM (sl : SL) (tv : TV) : Option (List MV) := match vw sl tv with
  | some (.d (.list ds)) => some (ds.map MV.d)
  | some (.lst ms) => some ms
  | _ => none
def seqTd (sl : SL) (tv : TV) : Option (List D) := match vw sl tv with
  | some (.d (.tuple ds)) => some ds
  | _ => none
/-- a tuple's items; of the module's one too -/
def seqT (sl : SL) : TV → Option (List D)
  | .c ds => some ds
  | tv => seqTd sl tv
def asD (sl : SL) : TV → Option D
  | .x ds => some (.list ds)
  | .c ds => some (.tuple ds)
  | tv => (vw sl tv).bind frz
/-- the items as data, of a list or a tuple -/
def itemsD (sl : SL) (tv : TV) : Option (List D) := match seqT sl tv with
  | some ds => some ds
  | none => (seqL sl tv).bind lvs
section
variable {K : PySem.W.Frag} {g : G} {H : Hp} {σ : L2.St} {sl : SL} {v : V} {tv : TV} {S : List Addr}
theorem vw_ok {m : MV} (st : Sta K g H σ sl) (r : RTV K g H σ v tv S) (h : vw sl tv = some m) : ∃ T, Rep K g.F H v m T := by
  cases tv with
  | d x => cases h; exact ⟨[], .d r.2⟩
  | t m => cases h; exact ⟨S, r.1⟩
  | x ds => cases h
  | c ds => cases h
  | sub p i j m => cases h
  | var i =>
    obtain ⟨_, hv⟩ := r
    unfold vw at h
    dsimp only at h
    split at h
    · rename_i e; cases h
      obtain ⟨u, h1, h2⟩ := st.d i _ e
      rw [hv] at h1; cases h1
      exact ⟨[], .d h2⟩
    · rename_i e; cases h
      obtain ⟨u, U, h1, h2, _⟩ := st.w i _ e
      rw [hv] at h1; cases h1
      exact ⟨U, h2⟩
    · rename_i e; cases h
      obtain ⟨u, U, ⟨h1, _⟩, h2, _⟩ := st.p i _ e
      rw [hv] at h1; cases h1
      exact ⟨U, h2⟩
    · rename_i e; cases h
      obtain ⟨u, U, ⟨h1, _⟩, h2, _⟩ := st.k i _ e
      rw [hv] at h1; cases h1
      exact ⟨U, h2⟩
    · cases h
theorem seqM_ok {ms : List MV} (st : Sta K g H σ sl) (r : RTV K g H σ v tv S) (h : seqM sl tv = some ms) : ∃ a vs T, v = .ref a ∧ H a = some (.lst vs) ∧ Reps K g.F H vs ms T := by
  unfold seqM at h
  split at h
  · rename_i ds e
    cases h
    obtain ⟨T, q⟩ := vw_ok st r e
    cases q with
    | d q => cases q with
      | lst h1 h2 => exact ⟨_, _, _, rfl, st.ex _ _ h1, RDs.reps h2⟩
  · rename_i ds e
    cases h
    obtain ⟨T, q⟩ := vw_ok st r e
    cases q with
    | lst h1 h2 => exact ⟨_, _, _, rfl, h1, h2⟩
  · cases h
theorem seqL_ok {ms : List MV} (st : Sta K g H σ sl) (r : RTV K g H σ v tv S) (h : seqL sl tv = some ms) : ∃ a vs T, v = .ref a ∧ SqL K H a vs ∧ Reps K g.F H vs ms T := by
  have base : seqM sl tv = some ms → ∃ a vs T, v = .ref a ∧ SqL K H a vs ∧ Reps K g.F H vs ms T := fun h => by
    obtain ⟨a, vs, T, h1, h2, h3⟩ := seqM_ok st r h
    exact ⟨a, vs, T, h1, SqL.of h2, h3⟩
  cases tv with
  | x ds =>
    cases h
    obtain ⟨_, a, vs, rfl, h2, h3⟩ := r
    exact ⟨a, vs, _, rfl, ex_l st.ex h2, RDs.reps h3⟩
  | c ds => exact base h
  | d x => exact base h
  | t m => exact base h
  | var i => exact base h
  | sub p i j m => exact base h
theorem seqT_rd {ds : List D} (st : Sta K g H σ sl) (r : RTV K g H σ v tv S) (h : seqTd sl tv = some ds) : RD K g.F v (.tuple ds) := by
  unfold seqTd at h
  split at h
  · rename_i ds e
    cases h
    obtain ⟨T, q⟩ := vw_ok st r e
    cases q with
    | d q => exact q
  · cases h
theorem seqTd_ok {ds : List D} (st : Sta K g H σ sl) (r : RTV K g H σ v tv S) (h : seqTd sl tv = some ds) : ∃ a vs, v = .ref a ∧ SqT K H a vs ∧ RDs K g.F vs ds := by
  cases seqT_rd st r h with
  | tup h1 h2 => exact ⟨_, _, rfl, SqT.of (st.ex _ _ h1), h2⟩
theorem seqT_ok {ds : List D} (st : Sta K g H σ sl) (r : RTV K g H σ v tv S) (h : seqT sl tv = some ds) : ∃ a vs, v = .ref a ∧ SqT K H a vs ∧ RDs K g.F vs ds := by
  cases tv with
  | c es =>
    cases h
    obtain ⟨_, a, vs, rfl, h2, h3⟩ := r
    exact ⟨a, vs, rfl, ex_t st.ex h2, h3⟩
  | d x => exact seqTd_ok st r h
  | t x => exact seqTd_ok st r h
  | var x => exact seqTd_ok st r h
  | x x => exact seqTd_ok st r h
  | sub p i j m => exact seqTd_ok st r h
theorem asD_ok {x : D} (st : Sta K g H σ sl) (r : RTV K g H σ v tv S) (h : asD sl tv = some x) : Dp K H v x := by
  have base : (vw sl tv).bind frz = some x → Dp K H v x := fun h => by
    obtain ⟨m, h1, h2⟩ := Option.bind_eq_some_iff.mp h
    obtain ⟨T, q⟩ := vw_ok st r h1
    exact q.dp st.ex h2
  cases tv with
  | x ds =>
    cases h
    obtain ⟨_, a, vs, rfl, h2, h3⟩ := r
    exact .lst (ex_l st.ex h2) (dpa_mono st.ex (RDs.dp h3))
  | c ds =>
    cases h
    obtain ⟨_, a, vs, rfl, h2, h3⟩ := r
    exact .tup (ex_t st.ex h2) (dpa_mono st.ex (RDs.dp h3))
  | d x => exact base h
  | t m => exact base h
  | var i => exact base h
  | sub p i j m => exact base h
theorem itemsD_ok {ds : List D} (st : Sta K g H σ sl) (r : RTV K g H σ v tv S) (h : itemsD sl tv = some ds) : ∃ a vs, v = .ref a ∧ (SqL K H a vs ∨ SqT K H a vs) ∧ RDs K g.F vs ds := by
  unfold itemsD at h
  split at h
  · rename_i xs e
    cases h
    obtain ⟨a, vs, e1, h1, h2⟩ := seqT_ok st r e
    exact ⟨a, vs, e1, .inr h1, h2⟩
  · obtain ⟨ms, h1, h2⟩ := Option.bind_eq_some_iff.mp h
    obtain ⟨a, vs, T, e1, h3, h4⟩ := seqL_ok st r h1
    rw [lvs_eq h2] at h4
    exact ⟨a, vs, e1, .inl h3, h4.leaves.2⟩
/-! a tree in hand, put back -/
def bk (sl : SL) (p : Bool) (i : Nat) (m : MV) : SL := sl.set i (some (if p = true then .p m else .w m))
theorem Sta.toP {m : MV} {i : Nat} (st : Sta K g H σ sl) (h : sl[i]? = some (some (.w m))) (hv : ∀ u, σ[i]? = some (some u) → g.π i = some u) : Sta K g H σ (sl.set i (some (.p m))) := by
  refine ⟨st.ex, st.lf, st.la, st.ro, by rw [List.length_set, st.len], fun j y q => ?_, fun j y q => ?_, fun j y q => ?_, fun j y q => ?_, fun j q => ?_, fun j y q => ?_⟩
  · rcases getset q with ⟨_, q⟩ | ⟨_, q⟩
    · cases q
    · exact st.d j y q
  · rcases getset q with ⟨_, q⟩ | ⟨_, q⟩
    · cases q
    · exact st.w j y q
  · rcases getset q with ⟨e, q2⟩ | ⟨_, q⟩
    · subst e
      cases q2
      obtain ⟨u, S, h1, h2⟩ := st.w _ _ h
      exact ⟨u, S, ⟨h1, hv u h1⟩, h2⟩
    · exact st.p j y q
  · rcases getset q with ⟨_, q⟩ | ⟨_, q⟩
    · cases q
    · exact st.k j y q
  · rcases getset q with ⟨_, q⟩ | ⟨_, q⟩
    · cases q
    · exact st.h j q
  · rcases getset q with ⟨_, q⟩ | ⟨_, q⟩
    · cases q
    · exact st.x j y q
theorem Sta.back {p : Bool} {i : Nat} {m : MV} {v0 : V} {g0 : G} {H0 : Hp} (n : Nx g0 H0 g H) (f : Fresh g0 H0 S) (st : Sta K g H σ sl) (hv : σ[i]? = some (some v0)) (hp : p = true → g.π i = some v0) (r : RTV K g H σ v0 (.t m) S) :
    Nx g0 H0 (labG g S i) H ∧ Sta K (labG g S i) H σ (bk sl p i m) := by
  obtain ⟨n1, st1⟩ := st.setW n f r (i := i)
  rw [set_set hv] at st1
  refine ⟨n1, ?_⟩
  unfold bk
  cases p with
  | false => exact st1
  | true =>
    have hi : i < sl.length := by rw [← st.len]; exact (List.getElem?_eq_some_iff.mp hv).1
    have := st1.toP (i := i) (m := m) (List.getElem?_set_self hi) fun u hu => by rw [hv] at hu; cases hu; exact hp rfl
    rw [List.set_set] at this
    exact this
theorem RTV.lab {u : V} {tu : TV} {U : List Addr} {i : Nat} (q : RTV K g H σ u tu U) (ap : ∀ a ∈ S, a ∉ U) : RTV K (labG g S i) H σ u tu U := by
  cases tu with
  | d y => exact q
  | var j => exact q
  | x ds => exact q
  | c ds => exact q
  | t m => exact ⟨q.1, q.2.1, fun a z => ⟨(q.2.2 a z).1, by rw [labG_ne fun z2 => ap a z2 z]; exact (q.2.2 a z).2.1, (q.2.2 a z).2.2⟩⟩
  | sub p i j m =>
    obtain ⟨v0, e, q, kv⟩ := q
    exact ⟨v0, e, ⟨q.1, q.2.1, fun a z => ⟨(q.2.2 a z).1, by rw [labG_ne fun z2 => ap a z2 z]; exact (q.2.2 a z).2.1, (q.2.2 a z).2.2⟩⟩, kv⟩
theorem RTV.frzK {u : V} {tu : TV} {U : List Addr} {S' : List Addr} (hF : ∀ a ∈ S', g.F a = none) (q : RTV K g H σ u tu U) (ap : ∀ a ∈ S', a ∉ U) : RTV K (frzG g H S') H σ u tu U := by
  have ex := frzG_ex (H := H) hF
  cases tu with
  | d y => exact ⟨q.1, q.2.mono ex⟩
  | var j => exact q
  | x ds => obtain ⟨e, a, vs, h1, h2, h3⟩ := q; exact ⟨e, a, vs, h1, ex_l ex h2, h3.mono ex⟩
  | c ds => obtain ⟨e, a, vs, h1, h2, h3⟩ := q; exact ⟨e, a, vs, h1, ex_t ex h2, h3.mono ex⟩
  | t m => exact ⟨q.1.mono ex fun _ _ => rfl, q.2.1, fun a z => ⟨by rw [frzG_F fun z2 => ap a z2 z]; exact (q.2.2 a z).1, by rw [frzG_lab fun z2 => ap a z2 z]; exact (q.2.2 a z).2.1, (q.2.2 a z).2.2⟩⟩
  | sub p i j m =>
    obtain ⟨v0, e, q, kv⟩ := q
    exact ⟨v0, e, ⟨q.1.mono ex fun _ _ => rfl, q.2.1, fun a z => ⟨by rw [frzG_F fun z2 => ap a z2 z]; exact (q.2.2 a z).1, by rw [frzG_lab fun z2 => ap a z2 z]; exact (q.2.2 a z).2.1, (q.2.2 a z).2.2⟩⟩, kv⟩
/-- a child frozen where it stands -/
theorem Sta.frzKid {p : Bool} {i j : Nat} {m c : MV} {x : D} {g0 : G} {H0 : Hp} (n : Nx g0 H0 g H) (f : Fresh g0 H0 S) (st : Sta K g H σ sl) (r : RTV K g H σ v (.sub p i j m) S) (h1 : kid m j = some c) (h2 : frz c = some x) :
    ∃ g', Nx g0 H0 g' H ∧ Sta K g' H σ (bk sl p i (setKid m j (.d x))) ∧ RD K g'.F v x ∧ (∀ u tu U, RTV K g H σ u tu U → (∀ a ∈ S, a ∉ U) → RTV K g' H σ u tu U) ∧ Ex g.F g'.F := by
  obtain ⟨v0, ⟨hv, hp⟩, rr, kv, _⟩ := r
  obtain ⟨v1, P, T, B, k1, k2, k3, k4⟩ := rr.1.kid h1
  obtain rfl := k1.inj kv
  subst k3
  have hF : ∀ a ∈ T, g.F a = none := fun a z => (rr.2.2 a (List.mem_append_right _ (List.mem_append_left _ z))).1
  have ex := frzG_ex (H := H) hF
  obtain ⟨n1, st1⟩ := st.frzS n (fun a z => f a (List.mem_append_right _ (List.mem_append_left _ z))) hF (fun a z => (rr.2.2 a (List.mem_append_right _ (List.mem_append_left _ z))).2.2) fun j y _ a z h => by
    rw [(rr.2.2 a (List.mem_append_right _ (List.mem_append_left _ z))).2.1] at h; cases h
  have rx : RD K (frzG g H T).F v1 x := k2.frz ex h2 fun a z => frzG_in z
  obtain ⟨r0, _⟩ := k4 (frzG g H T).F H (.d x) [] ex (fun _ _ => rfl) (.d rx)
  rw [List.nil_append] at r0
  have nd := List.nodup_append.mp rr.2.1
  have nd2 := List.nodup_append.mp nd.2.1
  have nT : ∀ a ∈ P ++ B, a ∉ T := fun a z z2 => by
    rcases List.mem_append.mp z with z | z
    · exact nd.2.2 a z a (List.mem_append_left _ z2) rfl
    · exact nd2.2.2 a z2 a z rfl
  have sub : ∀ a ∈ P ++ B, a ∈ P ++ (T ++ B) := fun a z => by
    rcases List.mem_append.mp z with z | z
    · exact List.mem_append_left _ z
    · exact List.mem_append_right _ (List.mem_append_right _ z)
  have rt : RTV K (frzG g H T) H σ v0 (.t (setKid m j (.d x))) (P ++ B) := ⟨r0, List.nodup_append.mpr ⟨nd.1, nd2.2.1, fun a z b z2 => nd.2.2 a z b (List.mem_append_right _ z2)⟩, fun a z => ⟨by rw [frzG_F (nT a z)]; exact (rr.2.2 a (sub a z)).1, by rw [frzG_lab (nT a z)]; exact (rr.2.2 a (sub a z)).2.1, (rr.2.2 a (sub a z)).2.2⟩⟩
  obtain ⟨n2, st2⟩ := st1.back n1 (fun a z => f a (sub a z)) hv hp rt
  refine ⟨_, n2, st2, rx, fun u tu U q ap => ?_, ex⟩
  exact RTV.lab (RTV.frzK hF q fun a z => ap a (List.mem_append_right _ (List.mem_append_left _ z))) fun a z => ap a (sub a z)
/-- a value as data, frozen where it must be -/
def fz (sl : SL) : TV → Option (D × SL)
  | .d x => some (x, sl)
  | .t m => (frz m).map fun x => (x, sl)
  | .var i => match sl[i]? with
    | some (some (.d x)) => some (x, sl)
    | _ => (wAt sl i).bind fun m => (frz m).map fun x => (x, sl.set i (some (.d x)))
  | .x _ => none
  | .c _ => none
  | .sub p i j m => (kid m j).bind fun c => (frz c).map fun x => (x, bk sl p i (setKid m j (.d x)))
theorem fz_ok {x : D} {sl' : SL} {g0 : G} {H0 : Hp} (n : Nx g0 H0 g H) (f : Fresh g0 H0 S) (st : Sta K g H σ sl) (r : RTV K g H σ v tv S) (h : fz sl tv = some (x, sl')) : ∃ g', Nx g0 H0 g' H ∧ Sta K g' H σ sl' ∧ RD K g'.F v x := by
  cases tv with
  | d y => cases h; exact ⟨g, n, st, r.2⟩
  | t m =>
    obtain ⟨y, h1, h2⟩ := Option.map_eq_some_iff.mp (show (frz m).map (fun x => (x, sl)) = some (x, sl') from h)
    cases h2
    obtain ⟨n', st', q⟩ := st.frzT n f r h1
    exact ⟨_, n', st', q⟩
  | x ds => cases h
  | c ds => cases h
  | sub p i j m =>
      obtain ⟨c, h1, h2⟩ := Option.bind_eq_some_iff.mp (show (kid m j).bind (fun c => (frz c).map fun x => (x, bk sl p i (setKid m j (.d x)))) = some (x, sl') from h)
      obtain ⟨y, h3, h4⟩ := Option.map_eq_some_iff.mp h2
      cases h4
      obtain ⟨g', n', st', q, _⟩ := st.frzKid n f r h1 h3
      exact ⟨g', n', st', q⟩
  | var i =>
    obtain ⟨_, hv⟩ := r
    unfold fz at h
    dsimp only at h
    split at h
    · rename_i e; cases h
      obtain ⟨u, h1, h2⟩ := st.d i _ e
      rw [hv] at h1; cases h1
      exact ⟨g, n, st, h2⟩
    · obtain ⟨m, h1, h2⟩ := Option.bind_eq_some_iff.mp h
      obtain ⟨y, h3, h4⟩ := Option.map_eq_some_iff.mp h2
      cases h4
      obtain ⟨g', u, n', st', h5, h6⟩ := st.frzV n h1 h3
      rw [hv] at h5; cases h5
      exact ⟨g', n', st', h6⟩
/-- what a frozen value leaves of other pending ones -/
theorem fz_keep {x : D} {sl' : SL} {g0 : G} {H0 : Hp} (n : Nx g0 H0 g H) (f : Fresh g0 H0 S) (st : Sta K g H σ sl) (r : RTV K g H σ v tv S) (h : fz sl tv = some (x, sl')) :
    ∃ g', Nx g0 H0 g' H ∧ Sta K g' H σ sl' ∧ RD K g'.F v x ∧ (∀ u tu T, RTV K g H σ u tu T → (∀ a ∈ S, a ∉ T) → RTV K g' H σ u tu T) ∧ Ex g.F g'.F := by
  have gen : ∀ (S' : List Addr), (∀ a ∈ S', g.F a = none) → ∀ u tu T, RTV K g H σ u tu T → (∀ a ∈ S', a ∉ T) → RTV K (frzG g H S') H σ u tu T := fun S' hF u tu T q ap => RTV.frzK hF q ap
  cases tv with
  | d y => cases h; exact ⟨g, n, st, r.2, fun u tu T q _ => q, fun _ _ z => z⟩
  | t m =>
    obtain ⟨y, h1, h2⟩ := Option.map_eq_some_iff.mp (show (frz m).map (fun x => (x, sl)) = some (x, sl') from h)
    cases h2
    obtain ⟨n', st', q⟩ := st.frzT n f r h1
    exact ⟨_, n', st', q, gen S fun a z => (r.2.2 a z).1, frzG_ex fun a z => (r.2.2 a z).1⟩
  | x ds => cases h
  | c ds => cases h
  | sub p i j m =>
      obtain ⟨c, h1, h2⟩ := Option.bind_eq_some_iff.mp (show (kid m j).bind (fun c => (frz c).map fun x => (x, bk sl p i (setKid m j (.d x)))) = some (x, sl') from h)
      obtain ⟨y, h3, h4⟩ := Option.map_eq_some_iff.mp h2
      cases h4
      exact st.frzKid n f r h1 h3
  | var i =>
    obtain ⟨_, hv⟩ := r
    unfold fz at h
    dsimp only at h
    split at h
    · rename_i e; cases h
      obtain ⟨u, h1, h2⟩ := st.d i _ e
      rw [hv] at h1; cases h1
      exact ⟨g, n, st, h2, fun u tu T q _ => q, fun _ _ z => z⟩
    · obtain ⟨m, h1, h2⟩ := Option.bind_eq_some_iff.mp h
      obtain ⟨y, h3, h4⟩ := Option.map_eq_some_iff.mp h2
      cases h4
      obtain ⟨u, S', k1, k2, k3, k4⟩ := st.own h1
      have hF : ∀ a ∈ S', g.F a = none := fun a z => st.lf a (by rw [k4 a z]; exact fun z => nomatch z)
      rw [hv] at k1; cases k1
      have st1 : Sta K g H σ (sl.set i none) := st.forget
      obtain ⟨n', st'⟩ := st1.frzS n (fun a z => st.notframed n (k4 a z)) hF (fun a z q => by have := (st.ro a q).2.2; rw [k4 a z] at this; cases this) fun j y q a z h => by
        have ei : i = j := by rw [k4 a z] at h; exact Option.some.inj h
        subst ei
        rcases q with q | q <;> (rcases getset q with ⟨_, q⟩ | ⟨q, _⟩ <;> first | exact absurd rfl q | cases q)
      have r' : RD K (frzG g H S').F v x := k2.frz (frzG_ex hF) h3 fun a z => frzG_in z
      have st2 := st'.setD (i := i) r'
      rw [List.set_set, set_set hv] at st2
      refine ⟨_, n', st2, r', fun u tu T q _ => gen S' hF u tu T q fun a z z2 => ?_, frzG_ex hF⟩
      cases tu with
      | d y => rw [q.1] at z2; cases z2
      | var j => rw [q.1] at z2; cases z2
      | x j => rw [q.1] at z2; cases z2
      | c j => rw [q.1] at z2; cases z2
      | t m => have := (q.2.2 a z2).2.1; rw [k4 a z] at this; cases this
      | sub p i j m => obtain ⟨v0, e, q, kv⟩ := q; have := (q.2.2 a z2).2.1; rw [k4 a z] at this; cases this
end
end Y

/-! Layer Y, part D: expressions. -/
namespace Y
open PySem PySem.Spec PyProof.Rows L2 Evl
def aVar (i : Nat) : AE := fun s => match s[i]? with
  | some (some (.d x)) => some (.ok (.d x) s)
  | some (some (.x ds)) => some (.ok (.x ds) s)
  | some (some (.w _)) => some (.ok (.var i) s)
  | some (some (.p _)) => some (.ok (.var i) s)
  | some (some (.k _)) => some (.ok (.var i) s)
  | _ => none
def aC (x : D) : AE := fun s => some (.ok (.d x) s)
section
variable {X : Cx} {W : WX} {pos : Pos}
theorem e_var {i : Nat} {x : Str} (hN : X.N[i]? = some x) (hv : Vis X.env.scope x) (hd : (x == ("__debug__" : Str)) = false := by decide) (hcd : (x == ("__classdict__" : Str)) = false := by decide) : PE X (.Name x pos) (eL X.K W (aVar i)) :=
  PEm (pe_var hN hv hd hcd) fun σ H Q ⟨g, sl, r, st, e, k⟩ => by
    unfold aVar at e
    split at e
    · rename_i e2; cases e
      obtain ⟨v, h1, h2⟩ := st.d i _ e2
      exact ⟨v, h1, k _ _ _ [] (Nx.refl _ _) st ⟨rfl, h2⟩ (Fresh.nil _ _)⟩
    · rename_i e2; cases e
      obtain ⟨a, vs, h1, h2, h3⟩ := st.x i _ e2
      exact ⟨_, h1, k _ _ _ [] (Nx.refl _ _) st ⟨rfl, a, vs, rfl, h2, h3⟩ (Fresh.nil _ _)⟩
    · rename_i e2; cases e
      obtain ⟨v, S, h1, _⟩ := st.w i _ e2
      exact ⟨v, h1, k _ _ _ [] (Nx.refl _ _) st ⟨rfl, h1⟩ (Fresh.nil _ _)⟩
    · rename_i e2; cases e
      obtain ⟨v, S, ⟨h1, _⟩, _⟩ := st.p i _ e2
      exact ⟨v, h1, k _ _ _ [] (Nx.refl _ _) st ⟨rfl, h1⟩ (Fresh.nil _ _)⟩
    · rename_i e2; cases e
      obtain ⟨v, S, ⟨h1, _⟩, _⟩ := st.k i _ e2
      exact ⟨v, h1, k _ _ _ [] (Nx.refl _ _) st ⟨rfl, h1⟩ (Fresh.nil _ _)⟩
    · cases e
theorem e_const {e : Expr} {v : V} {x : D} (h : PE X e (tC v)) (r : ∀ F, RD X.K F v x) : PE X e (eL X.K W (aC x)) :=
  PEm h fun σ H Q ⟨g, sl, _, st, e, k⟩ => by cases e; exact k g H v [] (Nx.refl _ _) st ⟨rfl, r _⟩ (Fresh.nil _ _)
theorem e_int {i j} : PE X (.Constant (.int i) j pos) (eL X.K W (aC (.int i))) := e_const pe_int fun _ => .int i
theorem e_bl {b j} : PE X (.Constant (.bool b) j pos) (eL X.K W (aC (.bool b))) := e_const pe_bl fun _ => .bl b
theorem e_non {j} : PE X (.Constant .none j pos) (eL X.K W (aC .none)) := e_const pe_non fun _ => .non
theorem e_str {x j} : PE X (.Constant (.str x) j pos) (eL X.K W (aC (.str x))) := e_const pe_str fun _ => .str x
theorem ev (i : Nat) {x : Str} (hN : X.N[i]? = some x := by rfl) (hv : Vis X.env.scope x := by first | exact Or.inl rfl | exact Or.inr (Or.inl rfl) | exact Or.inr (Or.inr rfl)) (hd : (x == ("__debug__" : Str)) = false := by decide)
    (hcd : (x == ("__classdict__" : Str)) = false := by decide) : PE X (.Name x pos) (eL X.K W (aVar i)) := e_var hN hv hd hcd
end
/-! ### two values -/
abbrev O2 := SL → TV → TV → Option (TV × SL)
def Co2 (K : PySem.W.Frag) (r : R2) (o : O2) : Prop := ∀ g0 H0 g H σ sl x y tx ty S T tv sl' Q, Nx g0 H0 g H → Sta K g H σ sl → RTV K g H σ x tx S → Fresh g0 H0 S → RTV K g H σ y ty T → Fresh g0 H0 T → (∀ a ∈ S, a ∉ T) → o sl tx ty = some (tv, sl') → Kg K (RV K σ) σ Q g0 H0 tv sl' → r x y H Q
def aOp (o : O2) (A B : AE) : AE := fun s => bd (A s) fun x s1 => bd (B s1) fun y s2 => (o s2 x y).map fun r => .ok r.1 r.2
theorem mapok {α : Type} {o : Option (α × SL)} {r : Res α} (h : (o.map fun r => Res.ok r.1 r.2) = some r) : ∃ a s, o = some (a, s) ∧ r = .ok a s := by
  obtain ⟨⟨a, s⟩, h1, rfl⟩ := Option.map_eq_some_iff.mp h
  exact ⟨a, s, h1, rfl⟩
section
variable {X : Cx} {W : WX} {pos : Pos} {a b : Expr} {A B : AE} {r : R2} {o : O2}
theorem op_lift (hc : Co2 X.K r o) (σ : L2.St) (H : Hp) (Q : VK) (h : eL X.K W (aOp o A B) σ H Q) : tOp r (eL X.K W A) (eL X.K W B) σ H Q := by
  obtain ⟨g, sl, res, st, e, k⟩ := h
  refine run1 (R := RV X.K) st e k.x fun tx s1 g1 H1 x S e1 n1 st1 r1 f1 => ?_
  refine run1 (R := RV X.K) st1 e1 (hxm k.x n1) fun ty s2 g2 H2 y T e2 n2 st2 r2 f2 => ?_
  obtain ⟨tv, s3, e3, rfl⟩ := mapok e2
  exact hc g H g2 H2 σ s2 x y tx ty S T tv s3 Q (n1.trans n2) st2 (r1.mono n2) f1 r2 (f2.back n1) (r1.apart f2) e3 k
theorem e_op {op : Operator} (ho : OpR X (binaryOp op) r) (hc : Co2 X.K r o) (ha : PE X a (eL X.K W A)) (hb : PE X b (eL X.K W B)) : PE X (.BinOp a op b pos) (eL X.K W (aOp o A B)) := PEm (pe_op ho ha hb) (op_lift hc)
theorem e_cmp {op : CmpOp} (ho : OpR X (compareOp op) r) (hc : Co2 X.K r o) (ha : PE X a (eL X.K W A)) (hb : PE X b (eL X.K W B)) (hm : behindInMarks op b = false) : PE X (.Compare a [op] [b] pos) (eL X.K W (aOp o A B)) := PEm (pe_cmpR ho ha hb hm) (op_lift hc)
theorem e_ix (ho : IxR X r) (hc : Co2 X.K r o) (ha : PE X a (eL X.K W A)) (hb : PE X b (eL X.K W B)) (hs : PlainIx b) : PE X (.Subscript a b pos) (eL X.K W (aOp o A B)) := PEm (pe_ix ho ha hb hs) (op_lift hc)
end
/-- a value that is a bool, as a test -/
def aB (A : AE) : AT := fun s => bd (A s) fun x s1 => match x with
  | .d (.bool b) => some (.ok b s1)
  | _ => none
section
variable {X : Cx} {W : WX} {pos : Pos} {a b c : Expr} {A B : AE} {r : R2} {o : O2} {S T : AT}
theorem b_lift {t : TE} (σ : L2.St) (H : Hp) (Q : Bool → Hp → Prop) (q : tL X.K W (aB A) σ H Q) (k : ∀ σ H Q, eL X.K W A σ H Q → t σ H Q) : t σ H fun x H' => ∃ k, x = .bl k ∧ Q k H' := by
  obtain ⟨g, sl, res, st, e, kk⟩ := q
  refine k σ H _ (run1 (R := RV X.K) st e kk.x fun tx s1 g1 H1 x S e1 n1 st1 r1 f1 => ?_)
  split at e1
  · cases e1
    obtain ⟨_, r⟩ := r1
    cases r
    exact ⟨_, rfl, kk g1 H1 _ [] n1 st1 ⟨rfl, rfl⟩ (Fresh.nil _ _)⟩
  · cases e1
theorem t_val (h : PE X a (eL X.K W A)) (he : ∀ whole, isTrue a X.env whole = (do let v ← whole; standAt a.pos; holding [v] (truthy v)) := by intro _; rfl) : PT X a (tL X.K W (aB A)) :=
  PTm (pt_val h he) fun σ H Q q => b_lift σ H Q q fun _ _ _ z => z
theorem t_cmp {op : CmpOp} (ho : OpR X (compareOp op) r) (hc : Co2 X.K r o) (ha : PE X a (eL X.K W A)) (hb : PE X b (eL X.K W B)) (hm : behindInMarks op b = false) : PT X (.Compare a [op] [b] pos) (tL X.K W (aB (aOp o A B))) :=
  PTm (pt_cmpR ho ha hb hm) fun σ H Q q => b_lift σ H Q q (op_lift hc)
/-- by a PC -/
theorem t_pc {op : CmpOp} {t : TE} (h : PC X op a b t) (k : ∀ σ H Q, eL X.K W A σ H Q → t σ H Q) (h1 : behindInMarks op b = false := by first | exact nobehind _ (by decide) (by decide) | rfl) : PT X (.Compare a [op] [b] pos) (tL X.K W (aB A)) :=
  PTm (pt_cmp h h1) fun σ H Q q => b_lift σ H Q q k
theorem e_pc {op : CmpOp} {t : TE} (h : PC X op a b t) (k : ∀ σ H Q, eL X.K W A σ H Q → t σ H Q) (h1 : behindInMarks op b = false := by first | exact nobehind _ (by decide) (by decide) | rfl) : PE X (.Compare a [op] [b] pos) (eL X.K W A) :=
  PEm (pe_cmp h h1) k
/-! tests joined -/
def aAnd (S T : AT) : AT := fun s => bd (S s) fun b s1 => if b = true then T s1 else some (.ok false s1)
def aOr (S T : AT) : AT := fun s => bd (S s) fun b s1 => if b = true then some (.ok true s1) else T s1
def aNot (S : AT) : AT := fun s => bd (S s) fun b s1 => some (.ok (!b) s1)
theorem w_and1 (ha : PT X a (tL X.K W S)) : PW X (.BoolOp .And [a] pos) (tL X.K W S) := pw_and1 ha
theorem w_or1 (ha : PT X a (tL X.K W S)) : PW X (.BoolOp .Or [a] pos) (tL X.K W S) := pw_or1 ha
theorem w_and {rest : List Expr} (ha : PT X a (tL X.K W S)) (hb : PW X (.BoolOp .And (b :: rest) pos) (tL X.K W T)) : PW X (.BoolOp .And (a :: b :: rest) pos) (tL X.K W (aAnd S T)) :=
  PWm (pw_and ha hb) fun σ H Q ⟨g, sl, res, st, e, k⟩ => run1 (R := RB) st e k.x fun tb s1 g1 H1 b U e1 n1 st1 r1 f1 => by
    obtain ⟨rfl, rfl⟩ := r1
    cases b with
    | true => exact ⟨g1, s1, res, st1, e1, k.mono n1⟩
    | false => cases e1; exact k g1 H1 _ _ n1 st1 ⟨rfl, rfl⟩ f1
theorem w_or {rest : List Expr} (ha : PT X a (tL X.K W S)) (hb : PW X (.BoolOp .Or (b :: rest) pos) (tL X.K W T)) : PW X (.BoolOp .Or (a :: b :: rest) pos) (tL X.K W (aOr S T)) :=
  PWm (pw_or ha hb) fun σ H Q ⟨g, sl, res, st, e, k⟩ => run1 (R := RB) st e k.x fun tb s1 g1 H1 b U e1 n1 st1 r1 f1 => by
    obtain ⟨rfl, rfl⟩ := r1
    cases b with
    | false => exact ⟨g1, s1, res, st1, e1, k.mono n1⟩
    | true => cases e1; exact k g1 H1 _ _ n1 st1 ⟨rfl, rfl⟩ f1
theorem t_w (h : PW X a (tL X.K W S)) : PT X a (tL X.K W S) := h.pt
theorem t_not (ha : PT X a (tL X.K W S)) : PT X (.UnaryOp .Not a pos) (tL X.K W (aNot S)) :=
  PTm (pt_not ha) fun σ H Q ⟨g, sl, res, st, e, k⟩ => run1 (R := RB) st e k.x fun tb s1 g1 H1 b U e1 n1 st1 r1 f1 => by
    obtain ⟨rfl, rfl⟩ := r1
    cases e1
    exact k g1 H1 _ _ n1 st1 ⟨rfl, rfl⟩ f1
/-! .. as values -/
def aAndV (A B : AE) : AE := fun s => bd (A s) fun x s1 => match x with
  | .d (.bool b) => if b = true then B s1 else some (.ok (.d (.bool false)) s1)
  | _ => none
def aOrV (A B : AE) : AE := fun s => bd (A s) fun x s1 => match x with
  | .d (.bool b) => if b = true then some (.ok (.d (.bool true)) s1) else B s1
  | _ => none
def aNotV (A : AE) : AE := fun s => bd (A s) fun x s1 => match x with
  | .d (.bool b) => some (.ok (.d (.bool (!b))) s1)
  | _ => none
theorem e_and {rest : List Expr} (ha : PE X a (eL X.K W A)) (hb : PE X (.BoolOp .And (b :: rest) pos) (eL X.K W B)) : PE X (.BoolOp .And (a :: b :: rest) pos) (eL X.K W (aAndV A B)) :=
  PEm (pe_and ha hb) fun σ H Q ⟨g, sl, res, st, e, k⟩ => run1 (R := RV X.K) st e k.x fun tb s1 g1 H1 v U e1 n1 st1 r1 f1 => by
    split at e1
    · rename_i b
      obtain ⟨rfl, r⟩ := r1
      cases r
      refine ⟨b, rfl, ?_⟩
      cases b with
      | true => exact ⟨g1, s1, res, st1, e1, k.mono n1⟩
      | false => cases e1; exact k g1 H1 _ _ n1 st1 ⟨rfl, .bl _⟩ f1
    · cases e1
theorem e_or {rest : List Expr} (ha : PE X a (eL X.K W A)) (hb : PE X (.BoolOp .Or (b :: rest) pos) (eL X.K W B)) : PE X (.BoolOp .Or (a :: b :: rest) pos) (eL X.K W (aOrV A B)) :=
  PEm (pe_or ha hb) fun σ H Q ⟨g, sl, res, st, e, k⟩ => run1 (R := RV X.K) st e k.x fun tb s1 g1 H1 v U e1 n1 st1 r1 f1 => by
    split at e1
    · rename_i b
      obtain ⟨rfl, r⟩ := r1
      cases r
      refine ⟨b, rfl, ?_⟩
      cases b with
      | false => exact ⟨g1, s1, res, st1, e1, k.mono n1⟩
      | true => cases e1; exact k g1 H1 _ _ n1 st1 ⟨rfl, .bl _⟩ f1
    · cases e1
theorem e_one {op} (h : PE X a (eL X.K W A)) : PE X (.BoolOp op [a] pos) (eL X.K W A) := pe_one h
theorem e_not (ha : PE X a (eL X.K W A)) : PE X (.UnaryOp .Not a pos) (eL X.K W (aNotV A)) :=
  PEm (pe_not ha) fun σ H Q ⟨g, sl, res, st, e, k⟩ => run1 (R := RV X.K) st e k.x fun tb s1 g1 H1 v U e1 n1 st1 r1 f1 => by
    split at e1
    · rename_i b
      obtain ⟨rfl, r⟩ := r1
      cases r
      cases e1
      exact ⟨b, rfl, k g1 H1 _ _ n1 st1 ⟨rfl, .bl _⟩ f1⟩
    · cases e1
def aIf (T : AT) (A B : AE) : AE := fun s => bd (T s) fun b s1 => if b = true then A s1 else B s1
theorem e_if (hc : PT X c (tL X.K W T)) (ha : PE X a (eL X.K W A)) (hb : PE X b (eL X.K W B)) : PE X (.IfExp c a b pos) (eL X.K W (aIf T A B)) :=
  PEm (pe_ifExp hc ha hb) fun σ H Q ⟨g, sl, res, st, e, k⟩ => run1 (R := RB) st e k.x fun tb s1 g1 H1 b U e1 n1 st1 r1 f1 => by
    obtain ⟨rfl, rfl⟩ := r1
    cases b with
    | true => exact ⟨g1, s1, res, st1, e1, k.mono n1⟩
    | false => exact ⟨g1, s1, res, st1, e1, k.mono n1⟩
end
/-! ### truth of a value -/
def truA (sl : SL) (t : TV) : Option Bool := match t with
  | .d (.int i) => some (i != 0)
  | .d .none => some false
  | .d (.bool b) => some b
  | .d (.str x) => if x.length ≤ sizeLine then some (!(x.length == 0)) else none
  | t => match seqL sl t with
    | some xs => some (!xs.isEmpty)
    | none => (seqT sl t).map fun xs => !xs.isEmpty
def aTru (A : AE) : AT := fun s => bd (A s) fun x s1 => (truA s1 x).map fun b => .ok b s1
section
variable {X : Cx} {W : WX} {pos : Pos} {a : Expr} {A : AE}
theorem truA_ok {K : PySem.W.Frag} {g : G} {H : Hp} {σ : L2.St} {sl : SL} {v : V} {t : TV} {S : List Addr} {b : Bool} (st : Sta K g H σ sl) (r : RTV K g H σ v t S) (h : truA sl t = some b) : TruV K v H b := by
  have base : (match seqL sl t with
    | some xs => some (!xs.isEmpty)
    | none => (seqT sl t).map fun xs => !xs.isEmpty) = some b → TruV K v H b := by
    intro h
    split at h
    · rename_i xs e
      obtain ⟨a, ws, T, rfl, h1, h2⟩ := seqL_ok st r e
      cases h
      exact .inl ⟨ws, h1, by cases h2 <;> rfl⟩
    · obtain ⟨ds, e2, rfl⟩ := Option.map_eq_some_iff.mp h
      obtain ⟨a, ws, rfl, h1, h2⟩ := seqT_ok st r e2
      exact .inr (.inl ⟨ws, h1, by cases h2 <;> rfl⟩)
  cases t with
  | d x =>
    cases x with
    | int i => obtain ⟨_, r⟩ := r; cases r; cases h; rfl
    | none => obtain ⟨_, r⟩ := r; cases r; cases h; rfl
    | bool z => obtain ⟨_, r⟩ := r; cases r; cases h; rfl
    | str y =>
      obtain ⟨_, r⟩ := r; cases r
      have h' : (if y.length ≤ sizeLine then some (!(y.length == 0)) else none) = some b := h
      split at h'
      · rename_i hy
        cases h'
        refine ⟨hy, ?_⟩
        cases y.length <;> rfl
      · cases h'
    | _ => exact base h
  | _ => exact base h
theorem t_tru (h : PE X a (eL X.K W A)) (he : ∀ whole, isTrue a X.env whole = (do let v ← whole; standAt a.pos; holding [v] (truthy v)) := by intro _; rfl) : PT X a (tL X.K W (aTru A)) :=
  PTm (pt_truth h he) fun σ H Q ⟨g, sl, res, st, e, k⟩ => run1 (R := RV X.K) st e k.x fun tx s1 g1 H1 v S e1 n1 st1 r1 f1 => by
    obtain ⟨b, h1, rfl⟩ := Option.map_eq_some_iff.mp e1
    exact ⟨b, truA_ok st1 r1 h1, k g1 H1 _ [] n1 st1 ⟨rfl, rfl⟩ (Fresh.nil _ _)⟩
/-- a test as a value -/
def aTV (C : AT) : AE := fun s => bd (C s) fun b s1 => some (.ok (.d (.bool b)) s1)
end
/-! ### arguments, displays, calls -/
def aNil : AA := fun s => some (.ok [] s)
def aCons (A : AE) (R : AA) : AA := fun s => bd (A s) fun x s1 => bd (R s1) fun xs s2 => some (.ok (x :: xs) s2)
abbrev O1 := SL → List TV → Option (TV × SL)
def CoC (K : PySem.W.Frag) (r : List V → Hp → VK → Prop) (o : O1) : Prop := ∀ g0 H0 g H σ sl vs ts S tv sl' Q, Nx g0 H0 g H → Sta K g H σ sl → RTVs K g H σ vs ts S → Fresh g0 H0 S → o sl ts = some (tv, sl') → Kg K (RV K σ) σ Q g0 H0 tv sl' → r vs H Q
def aCB (o : O1) (R : AA) : AE := fun s => bd (R s) fun xs s1 => (o s1 xs).map fun r => .ok r.1 r.2
/-- all as data -/
def fzs : SL → List TV → Option (List D × SL)
  | sl, [] => some ([], sl)
  | sl, t :: ts => (fz sl t).bind fun r => (fzs r.2 ts).map fun q => (r.1 :: q.1, q.2)
theorem RTVs.length {K : PySem.W.Frag} {g : G} {H : Hp} {σ : L2.St} : ∀ {vs : List V} {ts : List TV} {S : List Addr}, RTVs K g H σ vs ts S → vs.length = ts.length
  | _, _, _, .nil => rfl
  | _, _, _, .cons _ r _ => by rw [List.length_cons, List.length_cons, RTVs.length r]
theorem RTVs.mono {K : PySem.W.Frag} {g g' : G} {H H' : Hp} {σ : L2.St} (n : Nx g H g' H') : ∀ {vs : List V} {ts : List TV} {S : List Addr}, RTVs K g H σ vs ts S → RTVs K g' H' σ vs ts S
  | _, _, _, .nil => .nil
  | _, _, _, .cons q r h => .cons (q.mono n) (RTVs.mono n r) h
/-- pending values beside a state that changed -/
theorem RTVs.keep {K : PySem.W.Frag} {g g' : G} {H H' : Hp} {σ : L2.St} {S0 : List Addr} (k : ∀ u tu T, RTV K g H σ u tu T → (∀ a ∈ S0, a ∉ T) → RTV K g' H' σ u tu T) : ∀ {vs : List V} {ts : List TV} {S : List Addr}, RTVs K g H σ vs ts S → (∀ a ∈ S0, a ∉ S) → RTVs K g' H' σ vs ts S
  | _, _, _, .nil, _ => .nil
  | _, _, _, .cons q r h, ap => .cons (k _ _ _ q fun a z z2 => ap a z (List.mem_append_left _ z2)) (RTVs.keep k r fun a z z2 => ap a z (List.mem_append_right _ z2)) h
theorem fzs_ok {K : PySem.W.Frag} {g0 : G} {H0 : Hp} {H : Hp} {σ : L2.St} : ∀ {ts : List TV} {vs : List V} {S : List Addr} {g : G} {sl sl' : SL} {ds : List D}, Nx g0 H0 g H → Fresh g0 H0 S → Sta K g H σ sl → RTVs K g H σ vs ts S → fzs sl ts = some (ds, sl') →
    ∃ g', Nx g0 H0 g' H ∧ Sta K g' H σ sl' ∧ RDs K g'.F vs ds ∧ Ex g.F g'.F
  | [], [], _, g, _, _, _, n, _, st, r, h => by cases r; cases h; exact ⟨g, n, st, .nil, fun _ _ z => z⟩
  | [], _ :: _, _, g, _, _, _, n, _, st, r, h => by cases r
  | t :: ts, [], _, g, _, _, _, n, _, st, r, h => by cases r
  | t :: ts, v :: vs, _, g, sl, sl', ds, n, f, st, r, h => by
    cases r with
    | cons q r ap =>
    obtain ⟨⟨x, s1⟩, h1, h2⟩ := Option.bind_eq_some_iff.mp h
    obtain ⟨⟨xs, s2⟩, h3, h4⟩ := Option.map_eq_some_iff.mp h2
    cases h4
    obtain ⟨g1, n1, st1, q1, kp, ex1⟩ := fz_keep n (fun a z => f a (List.mem_append_left _ z)) st q h1
    obtain ⟨g2, n2, st2, q2, ex2⟩ := fzs_ok n1 (fun a z => f a (List.mem_append_right _ z)) st1 (RTVs.keep kp r ap) h3
    exact ⟨g2, n2, st2, .cons (q1.mono ex2) q2, fun a o z => ex2 a o (ex1 a o z)⟩
def toM (sl : SL) : TV → Option (MV × SL)
  | .t m => some (m, sl)
  | t => (fz sl t).map fun r => (.d r.1, r.2)
def mvs : SL → List TV → Option (List MV × SL)
  | sl, [] => some ([], sl)
  | sl, t :: ts => (toM sl t).bind fun r => (mvs r.2 ts).map fun q => (r.1 :: q.1, q.2)
/-- a value that goes into an owned tree -/
theorem toM_ok {K : PySem.W.Frag} {g0 g : G} {H0 H : Hp} {σ : L2.St} {v : V} {t : TV} {S : List Addr} {sl sl' : SL} {m : MV} (n : Nx g0 H0 g H) (f : Fresh g0 H0 S) (st : Sta K g H σ sl) (r : RTV K g H σ v t S) (h : toM sl t = some (m, sl')) :
    ∃ g' T, Nx g0 H0 g' H ∧ Sta K g' H σ sl' ∧ RTV K g' H σ v (.t m) T ∧ (∀ a ∈ T, a ∈ S) ∧ (∀ u tu U, RTV K g H σ u tu U → (∀ a ∈ S, a ∉ U) → RTV K g' H σ u tu U) ∧ Ex g.F g'.F := by
  have base : (fz sl t).map (fun r => (MV.d r.1, r.2)) = some (m, sl') → ∃ g' T, Nx g0 H0 g' H ∧ Sta K g' H σ sl' ∧ RTV K g' H σ v (.t m) T ∧ (∀ a ∈ T, a ∈ S) ∧ (∀ u tu U, RTV K g H σ u tu U → (∀ a ∈ S, a ∉ U) → RTV K g' H σ u tu U) ∧ Ex g.F g'.F := fun h => by
    obtain ⟨⟨x, s1⟩, h1, h2⟩ := Option.map_eq_some_iff.mp h
    cases h2
    obtain ⟨g1, n1, st1, q1, kp, ex1⟩ := fz_keep n f st r h1
    exact ⟨g1, [], n1, st1, ⟨.d q1, List.nodup_nil, (fun _ h => nomatch h)⟩, (fun _ h => nomatch h), kp, ex1⟩
  cases t with
  | t m' => cases h; exact ⟨g, S, n, st, r, fun _ z => z, fun _ _ _ q _ => q, fun _ _ z => z⟩
  | d x => exact base h
  | var x => exact base h
  | x x => exact base h
  | c x => exact base h
  | sub p i j m => exact base h
theorem mvs_ok {K : PySem.W.Frag} {g0 : G} {H0 : Hp} {H : Hp} {σ : L2.St} : ∀ {ts : List TV} {vs : List V} {S : List Addr} {g : G} {sl sl' : SL} {ms : List MV}, Nx g0 H0 g H → Fresh g0 H0 S → Sta K g H σ sl → RTVs K g H σ vs ts S → mvs sl ts = some (ms, sl') →
    ∃ g' T, Nx g0 H0 g' H ∧ Sta K g' H σ sl' ∧ Reps K g'.F H vs ms T ∧ T.Nodup ∧ (∀ a ∈ T, g'.F a = none ∧ g'.lab a = none ∧ ¬ g'.RO a) ∧ (∀ a ∈ T, a ∈ S) ∧ Ex g.F g'.F ∧ ∀ u tu U, RTV K g H σ u tu U → (∀ a ∈ S, a ∉ U) → RTV K g' H σ u tu U
  | [], [], _, g, _, _, _, n, _, st, r, h => by cases r; cases h; exact ⟨g, [], n, st, .nil, List.nodup_nil, (fun _ h => nomatch h), (fun _ h => nomatch h), (fun _ _ z => z), fun _ _ _ q _ => q⟩
  | [], _ :: _, _, g, _, _, _, n, _, st, r, h => by cases r
  | t :: ts, [], _, g, _, _, _, n, _, st, r, h => by cases r
  | t :: ts, v :: vs, _, g, sl, sl', ms, n, f, st, r, h => by
    cases r with
    | cons q r ap =>
    obtain ⟨⟨x, s1⟩, h1, h2⟩ := Option.bind_eq_some_iff.mp h
    obtain ⟨⟨xs, s2⟩, h3, h4⟩ := Option.map_eq_some_iff.mp h2
    cases h4
    obtain ⟨g1, T1, n1, st1, q1, sub1, kp, ex1⟩ := toM_ok n (fun a z => f a (List.mem_append_left _ z)) st q h1
    obtain ⟨g2, T2, n2, st2, q2, nd2, u2, sub2, ex2, kp2⟩ := mvs_ok n1 (fun a z => f a (List.mem_append_right _ z)) st1 (RTVs.keep kp r ap) h3
    have q1' := kp2 v (.t x) T1 q1 fun a z z2 => ap a (sub1 a z2) z
    refine ⟨g2, T1 ++ T2, n2, st2, .cons q1'.1 q2, List.nodup_append.mpr ⟨q1'.2.1, nd2, fun a z b z2 e => ap a (sub1 a z) (e ▸ sub2 b z2)⟩, fun a z => ?_, fun a z => ?_, fun a o z => ex2 a o (ex1 a o z), fun u tu U q ap2 => kp2 u tu U (kp u tu U q fun a z => ap2 a (List.mem_append_left _ z)) fun a z => ap2 a (List.mem_append_right _ z)⟩
    · rcases List.mem_append.mp z with z | z
      · exact q1'.2.2 a z
      · exact u2 a z
    · rcases List.mem_append.mp z with z | z
      · exact List.mem_append_left _ (sub1 a z)
      · exact List.mem_append_right _ (sub2 a z)
def oTup : O1 := fun sl ts => if ts.length ≤ sizeLine then (fzs sl ts).map fun r => (.d (.tuple r.1), r.2) else none
def oLst : O1 := fun sl ts => if ts.length ≤ sizeLine then (mvs sl ts).map fun r => (.t (.lst r.1), r.2) else none
section
variable {X : Cx} {W : WX} {pos : Pos} {e : Expr} {es : List Expr} {A : AE} {R : AA} {o : O1} {r : List V → Hp → VK → Prop}
theorem a_nil : PA X [] (aL X.K W aNil) := PAm pa_nil fun σ H Q ⟨g, sl, res, st, e, k⟩ => by
  cases e
  exact k g H [] [] (Nx.refl _ _) st .nil (Fresh.nil _ _)
theorem a_cons (ha : PE X e (eL X.K W A)) (hr : PA X es (aL X.K W R)) (hs : starEach (e :: es) X.env = (false, eval e X.env) :: starEach es X.env := by rfl) : PA X (e :: es) (aL X.K W (aCons A R)) :=
  PAm (pa_cons ha hr hs) fun σ H Q ⟨g, sl, res, st, e, k⟩ => run1 (R := RV X.K) st e k.x fun tx s1 g1 H1 v S e1 n1 st1 r1 f1 =>
    run1 (R := RL X.K) st1 e1 (hxm k.x n1) fun txs s2 g2 H2 vs T e2 n2 st2 r2 f2 => by
      cases e2
      refine k g2 H2 (v :: vs) (S ++ T) (n1.trans n2) st2 (.cons (r1.mono n2) r2 (r1.apart f2)) fun a z => ?_
      rcases List.mem_append.mp z with z | z
      · exact f1 a z
      · exact (f2.back n1) a z
theorem cb_lift (hc : CoC X.K r o) (σ : L2.St) (H : Hp) (Q : VK) (h : eL X.K W (aCB o R) σ H Q) : (fun σ H Q => aL X.K W R σ H fun vs H1 => r vs H1 Q) σ H Q := by
  obtain ⟨g, sl, res, st, e, k⟩ := h
  refine run1 (R := RL X.K) st e k.x fun tx s1 g1 H1 vs S e1 n1 st1 r1 f1 => ?_
  obtain ⟨tv, s2, e2, rfl⟩ := mapok e1
  exact hc g H g1 H1 σ s1 vs tx S tv s2 Q n1 st1 r1 f1 e2 k
theorem co_tup {K : PySem.W.Frag} : CoC K (fun xs H1 Q => xs.length ≤ sizeLine ∧ ∀ p, H1 p = none → Q (.ref p) (upd H1 p (.tup xs))) oTup := by
  intro g0 H0 g H σ sl vs ts S tv sl' Q n st rs f h k
  unfold oTup at h
  split at h
  · rename_i hl
    obtain ⟨⟨ds, s1⟩, h1, h2⟩ := Option.map_eq_some_iff.mp h
    cases h2
    obtain ⟨g1, n1, st1, q, _⟩ := fzs_ok n f st rs h1
    exact ⟨by rw [rs.length]; exact hl, fun p hp => k.newT n1 st1 q hp⟩
  · cases h
theorem co_lst {K : PySem.W.Frag} : CoC K (fun xs H1 Q => xs.length ≤ sizeLine ∧ ∀ p, H1 p = none → Q (.ref p) (upd H1 p (.lst xs))) oLst := by
  intro g0 H0 g H σ sl vs ts S tv sl' Q n st rs f h k
  unfold oLst at h
  split at h
  · rename_i hl
    obtain ⟨⟨ds, s1⟩, h1, h2⟩ := Option.map_eq_some_iff.mp h
    cases h2
    obtain ⟨g1, T, n1, st1, q, nd, un, sub, _⟩ := mvs_ok n f st rs h1
    exact ⟨by rw [rs.length]; exact hl, fun p hp => k.newM n1 st1 q nd un (fun a z => f a (sub a z)) hp⟩
  · cases h
theorem e_tup {x1} (h : PA X es (aL X.K W R)) : PE X (.Tuple es x1 pos) (eL X.K W (aCB oTup R)) := PEm (pe_tup h) (cb_lift co_tup)
theorem e_lst (h : PA X es (aL X.K W R)) : PE X (.List es pos) (eL X.K W (aCB oLst R)) := PEm (pe_lst h) (cb_lift co_lst)
theorem e_callB {x : Str} {id : String} {p : Pos} (hc : CallR X (.builtin id) r) (co : CoC X.K r o) (hg : Gl X x) (hm : X.mg x = none) (hv : bootBuiltins x = some (.builtin id)) (ha : PA X (e :: es) (aL X.K W R)) (hn : x ≠ "__name__" := by decide) (hdb : (x == ("__debug__" : Str)) = false := by decide)
    (hs : starEach (e :: es) X.env = (false, eval e X.env) :: starEach es X.env := by rfl) (hpl : (backTo pos (starEach es X.env)).any (·.1) = false := by rfl) : PE X (.Call (.Name x p) (e :: es) [] pos) (eL X.K W (aCB o R)) :=
  PEm (pe_callB hc hg hm hv ha hn hdb hs hpl) (cb_lift co)
theorem e_callTy {x : Str} {T : String} {p : Pos} (hc : CallR X (.type T) r) (co : CoC X.K r o) (hg : Gl X x) (hm : X.mg x = none) (hv : bootBuiltins x = some (.type T)) (ha : PA X (e :: es) (aL X.K W R)) (hn : x ≠ "__name__" := by decide) (hdb : (x == ("__debug__" : Str)) = false := by decide)
    (hs : starEach (e :: es) X.env = (false, eval e X.env) :: starEach es X.env := by rfl) (hpl : (backTo pos (starEach es X.env)).any (·.1) = false := by rfl) : PE X (.Call (.Name x p) (e :: es) [] pos) (eL X.K W (aCB o R)) :=
  PEm (pe_callTy hc hg hm hv ha hn hdb hs hpl) (cb_lift co)
end
end Y

/-! Layer Y, part E: operators, places, slices. -/
namespace Y
open PySem PySem.Spec PyProof.Rows L2 Evl
theorem op_or {X : Cx} {f : Value → Value → Sem Value} {r q : R2} (h1 : OpR X f r) (h2 : OpR X f q) : OpR X f (fun x y H Q => r x y H Q ∨ q x y H Q) := fun pins s σ H x y v u Q I rx ry h => h.elim (h1 pins s σ H x y v u Q I rx ry) (h2 pins s σ H x y v u Q I rx ry)
theorem ix_or {X : Cx} {r q : R2} (h1 : IxR X r) (h2 : IxR X q) : IxR X (fun x y H Q => r x y H Q ∨ q x y H Q) := fun value slice pins s σ H x y v u Q I rx ry h hs =>
  h.elim (fun h => h1 value slice pins s σ H x y v u Q I rx ry h hs) fun h => h2 value slice pins s σ H x y v u Q I rx ry h hs
/-! ints -/
def oI (C : Int → Int → Bool) (f : Int → Int → Int) : O2 := fun s x y => match x, y with
  | .d (.int i), .d (.int j) => if C i j = true then some (.d (.int (f i j)), s) else none
  | _, _ => none
def oI0 (f : Int → Int → Int) : O2 := fun s x y => match x, y with
  | .d (.int i), .d (.int j) => some (.d (.int (f i j)), s)
  | _, _ => none
def oB0 (f : Int → Int → Bool) : O2 := fun s x y => match x, y with
  | .d (.int i), .d (.int j) => some (.d (.bool (f i j)), s)
  | _, _ => none
section
variable {K : PySem.W.Frag}
theorem co_I {P : Int → Int → Prop} {C : Int → Int → Bool} {f : Int → Int → Int} (hC : ∀ i j, C i j = true → P i j) : Co2 K (rI P fun i j => .int (f i j)) (oI C f) := by
  intro g0 H0 g H σ sl x y tx ty S T tv sl' Q n st rx _ ry _ _ h k
  unfold oI at h
  split at h
  · rename_i i j
    split at h
    · rename_i hc
      cases h
      obtain ⟨_, rx⟩ := rx
      obtain ⟨_, ry⟩ := ry
      cases rx; cases ry
      exact ⟨i, j, rfl, rfl, hC i j hc, k.scal n st (.int _)⟩
    · cases h
  · cases h
theorem co_I0 {f : Int → Int → Int} : Co2 K (rI0 fun i j => .int (f i j)) (oI0 f) := by
  intro g0 H0 g H σ sl x y tx ty S T tv sl' Q n st rx _ ry _ _ h k
  unfold oI0 at h
  split at h
  · rename_i i j
    cases h
    obtain ⟨_, rx⟩ := rx
    obtain ⟨_, ry⟩ := ry
    cases rx; cases ry
    exact ⟨i, j, rfl, rfl, k.scal n st (.int _)⟩
  · cases h
theorem co_B0 {f : Int → Int → Bool} : Co2 K (rI0 fun i j => .bl (f i j)) (oB0 f) := by
  intro g0 H0 g H σ sl x y tx ty S T tv sl' Q n st rx _ ry _ _ h k
  unfold oB0 at h
  split at h
  · rename_i i j
    cases h
    obtain ⟨_, rx⟩ := rx
    obtain ⟨_, ry⟩ := ry
    cases rx; cases ry
    exact ⟨i, j, rfl, rfl, k.scal n st (.bl _)⟩
  · cases h
/-! a list's items as data, frozen where they must be -/
def lsD (sl : SL) (tv : TV) : Option (List D × SL) := match (seqM sl tv).bind lvs with
  | some ds => some (ds, sl)
  | none => match fz sl tv with
    | some (.list ds, s') => some (ds, s')
    | _ => none
theorem lsD_ok {g0 g : G} {H0 H : Hp} {σ : L2.St} {sl sl' : SL} {v : V} {tv : TV} {S : List Addr} {ds : List D} (n : Nx g0 H0 g H) (f : Fresh g0 H0 S) (st : Sta K g H σ sl) (r : RTV K g H σ v tv S) (h : lsD sl tv = some (ds, sl')) :
    ∃ g' a vs, Nx g0 H0 g' H ∧ Sta K g' H σ sl' ∧ v = .ref a ∧ H a = some (.lst vs) ∧ RDs K g'.F vs ds ∧ (∀ u tu T, RTV K g H σ u tu T → (∀ a ∈ S, a ∉ T) → RTV K g' H σ u tu T) ∧ Ex g.F g'.F := by
  unfold lsD at h
  split at h
  · rename_i es e
    cases h
    obtain ⟨ms, h1, h2⟩ := Option.bind_eq_some_iff.mp e
    obtain ⟨a, vs, T, e1, h3, h4⟩ := seqM_ok st r h1
    rw [lvs_eq h2] at h4
    exact ⟨g, a, vs, n, st, e1, h3, h4.leaves.2, fun _ _ _ q _ => q, fun _ _ z => z⟩
  · split at h
    · rename_i es s1 e
      cases h
      obtain ⟨g1, n1, st1, q, kp, ex⟩ := fz_keep n f st r e
      cases q with
      | lst h1 h2 => exact ⟨g1, _, _, n1, st1, rfl, st1.ex _ _ h1, h2, kp, ex⟩
    · cases h
/-! + of ints, texts, lists, tuples -/
def oAdd : O2 := fun s x y => match x, y with
  | .d (.int i), .d (.int j) => some (.d (.int (i + j)), s)
  | .d (.str a), .d (.str b) => if a.length + b.length ≤ sizeLine then some (.d (.str (a ++ b)), s) else none
  | x, y => match seqTd s x, seqTd s y with
    | some xs, some ys => if xs.length + ys.length ≤ sizeLine then some (.d (.tuple (xs ++ ys)), s) else none
    | _, _ => (lsD s x).bind fun p => (lsD p.2 y).bind fun q => if p.1.length + q.1.length ≤ sizeLine then some (.t (.lst ((p.1 ++ q.1).map MV.d)), q.2) else none
def rAdd (K : PySem.W.Frag) : R2 := fun x y H Q => (rI0 (fun i j => .int (i + j)) x y H Q ∨ ∃ i j, x = .str i ∧ y = .str j ∧ i.length + j.length ≤ sizeLine ∧ Q (.str (i ++ j)) H) ∨ rCat x y H Q ∨ rCatA K x y H Q
theorem op_Add {X : Cx} : OpR X (binaryOp .Add) (rAdd X.K) := op_or (op_or op_add op_add_str) (op_or op_cat op_catA)
theorem co_Add : Co2 K (rAdd K) oAdd := by
  intro g0 H0 g H σ sl x y tx ty S T tv sl' Q n st rx fx ry fy ap h k
  unfold oAdd at h
  split at h
  · cases h
    obtain ⟨_, rx⟩ := rx
    obtain ⟨_, ry⟩ := ry
    cases rx; cases ry
    exact .inl (.inl ⟨_, _, rfl, rfl, k.scal n st (.int _)⟩)
  · split at h
    · rename_i hl
      cases h
      obtain ⟨_, rx⟩ := rx
      obtain ⟨_, ry⟩ := ry
      cases rx; cases ry
      exact .inl (.inr ⟨_, _, rfl, rfl, hl, k.scal n st (.str _)⟩)
    · cases h
  · split at h
    · rename_i xs ys e1 e2
      split at h
      · rename_i hl
        cases h
        obtain ⟨a, vs, rfl, h1, h2⟩ := seqTd_ok st rx e1
        obtain ⟨b, ws, rfl, h3, h4⟩ := seqTd_ok st ry e2
        refine .inr (.inr ⟨a, b, vs, ws, rfl, rfl, h1, h3, by rw [h2.length, h4.length]; exact hl, fun z => ?_, fun _ z => ?_, fun _ _ p hp => k.newT n st (h2.app h4) hp⟩)
        · subst z
          have e0 := h2.length
          rw [List.length_nil] at e0
          have e3 : xs = [] := List.length_eq_zero_iff.mp e0.symm
          subst e3
          exact k.scal n st (seqT_rd st ry e2)
        · subst z
          have e0 := h4.length
          rw [List.length_nil] at e0
          have e3 : ys = [] := List.length_eq_zero_iff.mp e0.symm
          subst e3
          rw [List.append_nil] at k
          exact k.scal n st (seqT_rd st rx e1)
      · cases h
    · obtain ⟨⟨xs, s1⟩, e1, h⟩ := Option.bind_eq_some_iff.mp h
      obtain ⟨⟨ys, s2⟩, e2, h⟩ := Option.bind_eq_some_iff.mp h
      dsimp only at h
      split at h
      · rename_i hl
        cases h
        obtain ⟨g1, a, vs, n1, st1, rfl, h1, h2, kp, ex1⟩ := lsD_ok n fx st rx e1
        obtain ⟨g2, b, ws, n2, st2, rfl, h3, h4, _, ex2⟩ := lsD_ok n1 fy st1 (kp _ _ _ ry ap) e2
        exact .inr (.inl ⟨a, b, vs, ws, rfl, rfl, h1, h3, by rw [h2.length, h4.length]; exact hl, fun p hp => k.newL n2 st2 ((h2.mono ex2).app h4) hp⟩)
      · cases h
/-! * -/
def CMulB (i j : Int) : Bool := (decide (-(2 ^ 64) < i) && decide (i < 2 ^ 64)) || (decide (-(2 ^ 64) < j) && decide (j < 2 ^ 64))
def repS (a : Str) (n : Nat) : Str := ⟨(List.replicate n a.cps).foldl (· ++ ·) #[]⟩
theorem rep_toList (c : Array Nat) : ∀ (n : Nat) (acc : Array Nat), ((List.replicate n c).foldl (· ++ ·) acc).toList = acc.toList ++ (List.replicate n c.toList).flatten
  | 0, acc => by simp
  | n + 1, acc => by
    rw [List.replicate_succ, List.foldl_cons, rep_toList c n, List.replicate_succ, List.flatten_cons, Array.toList_append, List.append_assoc]
theorem repS_toList (a : Str) (n : Nat) : (repS a n).cps.toList = (List.replicate n a.cps.toList).flatten := by
  show ((List.replicate n a.cps).foldl (· ++ ·) #[]).toList = _
  rw [rep_toList]
  simp
theorem repS_len (a : Str) (n : Nat) : (repS a n).length = n * a.length := by
  show (repS a n).cps.size = n * a.cps.size
  rw [← Array.length_toList, repS_toList, List.length_flatten, List.map_replicate, List.sum_replicate_nat, Array.length_toList]
def rMulS : R2 := fun x y H Q => ∃ a n, x = .str a ∧ y = .int n ∧ 2 ≤ n ∧ n ≤ 1000 ∧ 1 ≤ a.length ∧ a.length ≤ 1000 ∧ Q (.str (repS a n.toNat)) H
theorem op_mulS {X : Cx} : OpR X (binaryOp .Mult) rMulS := by
  intro pins s σ H x y v u Q I rx ry h
  obtain ⟨a, n, rfl, rfl, h1, h2, h3, h4, q⟩ := h
  obtain ⟨t, rfl⟩ := rx
  obtain ⟨t', rfl⟩ := ry
  have c1 : ¬ n < 1 := by omega
  have c2 : (n == 1 || a.length == 0) = false := by
    rw [Bool.or_eq_false_iff]
    exact ⟨by rw [beq_eq_false_iff_ne]; omega, by rw [beq_eq_false_iff_ne]; omega⟩
  refine PySem.P.mul_str ?_ (fun _ _ => ?_) (fun _ _ => ?_) ?_
  · rw [Bool.or_eq_false_iff]
    exact ⟨decide_eq_false (by omega), decide_eq_false (by omega)⟩
  · have h5 : (a.length : Int) * n ≤ 1000 * 1000 := Int.mul_le_mul (by omega) h2 (by omega) (by omega)
    have h6 : (a.length : Int) ≤ (2 ^ 63 - 1) / n := (Int.le_ediv_iff_mul_le (by omega)).mpr (by omega)
    omega
  · have h5 : a.length * n.toNat ≤ 1000 * 1000 := Nat.mul_le_mul h4 (by omega)
    show decide (a.length * n.toNat > sizeLine) = false
    exact decide_eq_false (by have := sizeLine_eq; omega)
  · rw [if_neg c1, if_neg (by rw [c2]; decide)]
    refine ⟨?_, .str (repS a n.toNat), H, I.tok _, ⟨_, rfl⟩, q⟩
    have h5 : a.length * n.toNat ≤ 1000 * 1000 := Nat.mul_le_mul h4 (by omega)
    show (repS a n.toNat).length ≤ sizeLine
    rw [repS_len, Nat.mul_comm]
    have := sizeLine_eq
    omega
def oMul : O2 := fun s x y => match x, y with
  | .d (.int i), .d (.int j) => if CMulB i j = true then some (.d (.int (i * j)), s) else none
  | .d (.str a), .d (.int n) => if 2 ≤ n ∧ n ≤ 1000 ∧ 1 ≤ a.length ∧ a.length ≤ 1000 then some (.d (.str (repS a n.toNat)), s) else none
  | x, .d (.int n) => (lsD s x).bind fun p => if (-(2 ^ 63) ≤ n ∧ n < 2 ^ 63) ∧ p.1.length * n.toNat ≤ sizeLine then some (.t (.lst ((List.replicate n.toNat p.1).flatten.map MV.d)), p.2) else none
  | _, _ => none
theorem rep_rel {F : Hp} {vs : List V} {ds : List D} (r : RDs K F vs ds) : ∀ n : Nat, RDs K F (List.replicate n vs).flatten (List.replicate n ds).flatten
  | 0 => .nil
  | n + 1 => by
    rw [List.replicate_succ, List.replicate_succ, List.flatten_cons, List.flatten_cons]
    exact r.app (rep_rel r n)
def rMul : R2 := fun x y H Q => rI CMul (fun i j => .int (i * j)) x y H Q ∨ rMulS x y H Q ∨ rRep x y H Q
theorem op_Mul {X : Cx} : OpR X (binaryOp .Mult) rMul := op_or op_mul (op_or op_mulS op_rep)
theorem co_Mul : Co2 K rMul oMul := by
  intro g0 H0 g H σ sl x y tx ty S T tv sl' Q n st rx fx ry fy ap h k
  unfold oMul at h
  split at h
  · split at h
    · rename_i hc
      cases h
      obtain ⟨_, rx⟩ := rx
      obtain ⟨_, ry⟩ := ry
      cases rx; cases ry
      refine .inl ⟨_, _, rfl, rfl, ?_, k.scal n st (.int _)⟩
      unfold CMulB at hc
      rcases Bool.or_eq_true_iff.mp hc with q | q
      · exact .inl ⟨of_decide_eq_true (Bool.and_eq_true_iff.mp q).1, of_decide_eq_true (Bool.and_eq_true_iff.mp q).2⟩
      · exact .inr ⟨of_decide_eq_true (Bool.and_eq_true_iff.mp q).1, of_decide_eq_true (Bool.and_eq_true_iff.mp q).2⟩
    · cases h
  · split at h
    · rename_i hc
      cases h
      obtain ⟨_, rx⟩ := rx
      obtain ⟨_, ry⟩ := ry
      cases rx; cases ry
      exact .inr (.inl ⟨_, _, rfl, rfl, hc.1, hc.2.1, hc.2.2.1, hc.2.2.2, k.scal n st (.str _)⟩)
    · cases h
  · obtain ⟨⟨xs, s1⟩, e1, h⟩ := Option.bind_eq_some_iff.mp h
    dsimp only at h
    split at h
    · rename_i hc
      cases h
      obtain ⟨g1, a, vs, n1, st1, rfl, h1, h2, kp, ex1⟩ := lsD_ok n fx st rx e1
      obtain ⟨_, ry⟩ := ry
      cases ry
      exact .inr (.inr ⟨a, _, vs, rfl, rfl, h1, hc.1.1, hc.1.2, by rw [h2.length]; exact hc.2, fun p hp => k.newL n1 st1 (rep_rel h2 _) hp⟩)
    · cases h
  · cases h
/-! //, %, ** -/
theorem hMod : ∀ i j : Int, decide (0 < j) = true → 0 < j := fun _ _ h => of_decide_eq_true h
/-! ==, != of data of any depth -/
def oEq (neg : Bool) : O2 := fun s x y => (asD s x).bind fun d => (asD s y).bind fun e => if SeqAt.shaped d = true ∧ SeqAt.shaped e = true then some (.d (.bool (if neg then !PyData.eqv d e else PyData.eqv d e)), s) else none
theorem co_Eq : Co2 K (rEqD K) (oEq false) := by
  intro g0 H0 g H σ sl x y tx ty S T tv sl' Q n st rx fx ry fy ap h k
  obtain ⟨d, e1, h⟩ := Option.bind_eq_some_iff.mp h
  obtain ⟨e, e2, h⟩ := Option.bind_eq_some_iff.mp h
  split at h
  · rename_i hs
    cases h
    exact ⟨d, e, asD_ok st rx e1, asD_ok st ry e2, hs.1, hs.2, k.scal n st (.bl _)⟩
  · cases h
theorem co_Ne : Co2 K (rNeD K) (oEq true) := by
  intro g0 H0 g H σ sl x y tx ty S T tv sl' Q n st rx fx ry fy ap h k
  obtain ⟨d, e1, h⟩ := Option.bind_eq_some_iff.mp h
  obtain ⟨e, e2, h⟩ := Option.bind_eq_some_iff.mp h
  split at h
  · rename_i hs
    cases h
    exact ⟨d, e, asD_ok st rx e1, asD_ok st ry e2, hs.1, hs.2, k.scal n st (.bl _)⟩
  · cases h
/-! is None, is a bool -/
def isNo (s : SL) (t : TV) : Option Bool := match t with
  | .d .none => some true
  | .d _ => some false
  | t => match vw s t with
    | some (.lst _) => some false
    | some (.dK _) => some false
    | some (.dT _) => some false
    | _ => none
theorem isNo_ok {g : G} {H : Hp} {σ : L2.St} {sl : SL} {v : V} {t : TV} {S : List Addr} {b : Bool} (st : Sta K g H σ sl) (r : RTV K g H σ v t S) (h : isNo sl t = some b) : decide (v = .non) = b := by
  have base : (match vw sl t with
    | some (.lst _) => some false
    | some (.dK _) => some false
    | some (.dT _) => some false
    | _ => none) = some b → decide (v = .non) = b := fun h => by
    split at h
    · rename_i e
      obtain ⟨T, q⟩ := vw_ok st r e
      cases q; cases h; rfl
    · rename_i e
      obtain ⟨T, q⟩ := vw_ok st r e
      cases q; cases h; rfl
    · rename_i e
      obtain ⟨T, q⟩ := vw_ok st r e
      cases q; cases h; rfl
    · cases h
  cases t with
  | d x => obtain ⟨_, r⟩ := r; cases r <;> (cases h; rfl)
  | t m => exact base h
  | var i => exact base h
  | x i => exact base h
  | c i => exact base h
  | sub p i j m => exact base h
def oIsN (neg : Bool) : O2 := fun s x y => match y with
  | .d .none => (isNo s x).map fun b => (.d (.bool (if neg then !b else b)), s)
  | _ => none
theorem co_isN : Co2 K (fun x y H Q => y = .non ∧ Q (.bl (decide (x = .non))) H) (oIsN false) := by
  intro g0 H0 g H σ sl x y tx ty S T tv sl' Q n st rx fx ry fy ap h k
  unfold oIsN at h
  split at h
  · obtain ⟨b, h1, h2⟩ := Option.map_eq_some_iff.mp h
    cases h2
    obtain ⟨_, ry⟩ := ry
    cases ry
    rw [isNo_ok st rx h1]
    exact ⟨rfl, k.scal n st (.bl _)⟩
  · cases h
theorem co_notN : Co2 K (fun x y H Q => y = .non ∧ Q (.bl (!decide (x = .non))) H) (oIsN true) := by
  intro g0 H0 g H σ sl x y tx ty S T tv sl' Q n st rx fx ry fy ap h k
  unfold oIsN at h
  split at h
  · obtain ⟨b, h1, h2⟩ := Option.map_eq_some_iff.mp h
    cases h2
    obtain ⟨_, ry⟩ := ry
    cases ry
    rw [isNo_ok st rx h1]
    exact ⟨rfl, k.scal n st (.bl _)⟩
  · cases h
def oIsB (neg : Bool) : O2 := fun s x y => match x, y with
  | .d (.bool a), .d (.bool b) => some (.d (.bool (if neg then !(a == b) else a == b)), s)
  | _, _ => none
theorem co_isB : Co2 K (fun x y H Q => ∃ a b : Bool, x = .bl a ∧ y = .bl b ∧ Q (.bl (decide (a = b))) H) (oIsB false) := by
  intro g0 H0 g H σ sl x y tx ty S T tv sl' Q n st rx fx ry fy ap h k
  unfold oIsB at h
  split at h
  · cases h
    obtain ⟨_, rx⟩ := rx
    obtain ⟨_, ry⟩ := ry
    cases rx; cases ry
    refine ⟨_, _, rfl, rfl, ?_⟩
    rw [← Bool.beq_eq_decide_eq]
    exact k.scal n st (.bl _)
  · cases h
theorem co_notB : Co2 K (fun x y H Q => ∃ a b : Bool, x = .bl a ∧ y = .bl b ∧ Q (.bl (!decide (a = b))) H) (oIsB true) := by
  intro g0 H0 g H σ sl x y tx ty S T tv sl' Q n st rx fx ry fy ap h k
  unfold oIsB at h
  split at h
  · cases h
    obtain ⟨_, rx⟩ := rx
    obtain ⟨_, ry⟩ := ry
    cases rx; cases ry
    refine ⟨_, _, rfl, rfl, ?_⟩
    rw [← Bool.beq_eq_decide_eq]
    exact k.scal n st (.bl _)
  · cases h
/-! in: among a list's items of any depth; flat things among a tuple's; a sign in a text -/
def flatD : D → Bool
  | .none => true
  | .bool _ => true
  | .int _ => true
  | .str _ => true
  | _ => false
def eqF : D → D → Bool
  | .none, .none => true
  | .bool a, .bool b => a == b
  | .bool a, .int b => (if a then 1 else 0) == b
  | .int a, .bool b => a == (if b then 1 else 0)
  | .int a, .int b => a == b
  | .str a, .str b => a == b
  | _, _ => false
def inF (x : D) (ds : List D) : Bool := ds.any fun y => eqF y x
theorem flat_ok {F : Hp} {v : V} {d : D} (r : RD K F v d) (h : flatD d = true) : flatV v = true := by
  cases r <;> first | rfl | cases h
theorem eqF_ok {F : Hp} {v u : V} {d e : D} (r : RD K F v d) (q : RD K F u e) (h : flatD d = true) (h2 : flatD e = true) : eqV v u = eqF d e := by
  cases r <;> first | cases h; done | (cases q <;> first | cases h2; done | rfl)
theorem flats_ok {F : Hp} : ∀ {vs : List V} {ds : List D}, RDs K F vs ds → ds.all flatD = true → vs.all flatV = true
  | _, _, .nil, _ => rfl
  | _, _, .cons r t, h => by
    rw [List.all_cons, Bool.and_eq_true] at h ⊢
    exact ⟨flat_ok r h.1, flats_ok t h.2⟩
theorem inF_ok {F : Hp} {v : V} {d : D} (r : RD K F v d) (h : flatD d = true) : ∀ {vs : List V} {ds : List D}, RDs K F vs ds → ds.all flatD = true → inV v vs = inF d ds
  | _, _, .nil, _ => rfl
  | _, _, .cons q t, h2 => by
    rw [List.all_cons, Bool.and_eq_true] at h2
    unfold inV inF
    rw [List.any_cons, List.any_cons, eqF_ok q r h2.1 h]
    have := inF_ok r h t h2.2
    unfold inV inF at this
    rw [this]
def inD (neg : Bool) (d : D) (ds : List D) : Bool := if neg then !ds.any (fun z => PyData.eqv z d) else ds.any fun z => PyData.eqv z d
def oIn (neg : Bool) : O2 := fun s x y => match y with
  | .d (.str z) => match x with
    | .d (.str c) => match c.cps.toList with
      | [u] => some (.d (.bool (if neg then !decide (u ∈ z.cps.toList) else decide (u ∈ z.cps.toList))), s)
      | _ => none
    | _ => none
  | y => match seqT s y with
    | some ds => match x with
      | .d d => if flatD d = true ∧ ds.all flatD = true then some (.d (.bool (if neg then !inF d ds else inF d ds)), s) else none
      | _ => none
    | none => (asD s x).bind fun d => match asD s y with
      | some (.list ds) => if SeqAt.shaped d = true ∧ SeqAt.shaped (.list ds) = true then some (.d (.bool (inD neg d ds)), s) else none
      | _ => none
def rInA (K : PySem.W.Frag) : R2 := fun x y H Q => rInS x y H Q ∨ rIn K false x y H Q ∨ rInD K x y H Q
def rNotInA (K : PySem.W.Frag) : R2 := fun x y H Q => rNotInS x y H Q ∨ rIn K true x y H Q ∨ rNotInD K x y H Q
theorem op_In {X : Cx} (hu : X.A.units + 65 < cLine) : OpR X (compareOp .In) (rInA X.K) := op_or op_inS (op_or op_in_seq (op_inD hu))
theorem op_NotIn {X : Cx} (hu : X.A.units + 65 < cLine) : OpR X (compareOp .NotIn) (rNotInA X.K) := op_or op_notInS (op_or op_notIn_seq (op_notInD hu))
theorem str1 {c : Str} {u : Nat} (h : c.cps.toList = [u]) : c = ⟨#[u]⟩ := by
  obtain ⟨cs⟩ := c
  have : cs = #[u] := by rw [← Array.toList_inj]; exact h
  rw [this]
theorem co_In : Co2 K (rInA K) (oIn false) := by
  intro g0 H0 g H σ sl x y tx ty S T tv sl' Q n st rx fx ry fy ap h k
  unfold oIn at h
  split at h
  · split at h
    · split at h
      · rename_i u e
        cases h
        rw [str1 e] at rx
        obtain ⟨_, rx⟩ := rx
        obtain ⟨_, ry⟩ := ry
        cases rx; cases ry
        exact .inl ⟨u, _, rfl, rfl, k.scal n st (.bl _)⟩
      · cases h
    · cases h
  · split at h
    · rename_i ds e
      split at h
      · rename_i d
        split at h
        · rename_i hf
          cases h
          obtain ⟨a, vs, rfl, h1, h2⟩ := seqT_ok st ry e
          obtain ⟨_, rx⟩ := rx
          refine .inr (.inl ⟨a, vs, rfl, .inr h1, flat_ok rx hf.1, flats_ok h2 hf.2, ?_⟩)
          rw [inF_ok rx hf.1 h2 hf.2]
          exact k.scal n st (.bl _)
        · cases h
      · cases h
    · obtain ⟨d, e1, h⟩ := Option.bind_eq_some_iff.mp h
      split at h
      · rename_i ds e2
        split at h
        · rename_i hs
          cases h
          exact .inr (.inr ⟨d, ds, asD_ok st rx e1, asD_ok st ry e2, hs.1, hs.2, k.scal n st (.bl _)⟩)
        · cases h
      · cases h
theorem co_NotIn : Co2 K (rNotInA K) (oIn true) := by
  intro g0 H0 g H σ sl x y tx ty S T tv sl' Q n st rx fx ry fy ap h k
  unfold oIn at h
  split at h
  · split at h
    · split at h
      · rename_i u e
        cases h
        rw [str1 e] at rx
        obtain ⟨_, rx⟩ := rx
        obtain ⟨_, ry⟩ := ry
        cases rx; cases ry
        exact .inl ⟨u, _, rfl, rfl, k.scal n st (.bl _)⟩
      · cases h
    · cases h
  · split at h
    · rename_i ds e
      split at h
      · rename_i d
        split at h
        · rename_i hf
          cases h
          obtain ⟨a, vs, rfl, h1, h2⟩ := seqT_ok st ry e
          obtain ⟨_, rx⟩ := rx
          refine .inr (.inl ⟨a, vs, rfl, .inr h1, flat_ok rx hf.1, flats_ok h2 hf.2, ?_⟩)
          rw [inF_ok rx hf.1 h2 hf.2]
          exact k.scal n st (.bl _)
        · cases h
      · cases h
    · obtain ⟨d, e1, h⟩ := Option.bind_eq_some_iff.mp h
      split at h
      · rename_i ds e2
        split at h
        · rename_i hs
          cases h
          exact .inr (.inr ⟨d, ds, asD_ok st rx e1, asD_ok st ry e2, hs.1, hs.2, k.scal n st (.bl _)⟩)
        · cases h
      · cases h
/-! < of ints, texts -/
def oLt (f : Int → Int → Bool) : O2 := fun s x y => match x, y with
  | .d (.int i), .d (.int j) => some (.d (.bool (f i j)), s)
  | _, _ => none
def oLtS : O2 := fun s x y => match x, y with
  | .d (.int i), .d (.int j) => some (.d (.bool (decide (i < j))), s)
  | .d (.str i), .d (.str j) => some (.d (.bool (decide (i.cps.toList < j.cps.toList))), s)
  | _, _ => none
def rLtS : R2 := fun x y H Q => rI0 (fun i j => .bl (decide (i < j))) x y H Q ∨ ∃ i j, x = .str i ∧ y = .str j ∧ Q (.bl (decide (i.cps.toList < j.cps.toList))) H
theorem op_Lt {X : Cx} : OpR X (compareOp .Lt) rLtS := op_or op_lt op_lt_str
theorem co_Lt : Co2 K rLtS oLtS := by
  intro g0 H0 g H σ sl x y tx ty S T tv sl' Q n st rx fx ry fy ap h k
  unfold oLtS at h
  split at h
  · cases h
    obtain ⟨_, rx⟩ := rx
    obtain ⟨_, ry⟩ := ry
    cases rx; cases ry
    exact .inl ⟨_, _, rfl, rfl, k.scal n st (.bl _)⟩
  · cases h
    obtain ⟨_, rx⟩ := rx
    obtain ⟨_, ry⟩ := ry
    cases rx; cases ry
    exact .inr ⟨_, _, rfl, rfl, k.scal n st (.bl _)⟩
  · cases h
/-! a place in a list, a tuple, a text -/
theorem at_get {R : V → D → Prop} {vs : List V} {xs : List D} (r : Paired R vs xs) {i : Int} {v : D} (h : atI xs i = some v) : ∃ y, atI vs i = some y ∧ R y v := by
  unfold atI at h ⊢
  rw [Paired.length r]
  cases e : ixN xs.length i with
  | none => rw [e] at h; cases h
  | some j =>
    rw [e] at h
    have get : ∀ {vs : List V} {xs : List D} {j : Nat}, Paired R vs xs → xs[j]? = some v → ∃ y, vs[j]? = some y ∧ R y v := by
      intro vs
      induction vs with
      | nil => intro xs j r h; cases r; simp at h
      | cons u us ih =>
        intro xs j r h
        cases r with
        | cons q t =>
          cases j with
          | zero => simp at h; subst h; exact ⟨u, rfl, q⟩
          | succ j => obtain ⟨y, h1, h2⟩ := ih t (by simpa using h); exact ⟨y, by simpa using h1, h2⟩
    obtain ⟨y, h1, h2⟩ := get r (show xs[j]? = some v from h)
    exact ⟨y, h1, h2⟩
/-- a child that is data -/
def lfAt (ms : List MV) (i : Int) : Option D := (ixN ms.length i).bind fun j => match ms[j]? with
  | some (.d d) => some d
  | _ => none
theorem lfAt_map (ds : List D) (i : Int) : lfAt (ds.map MV.d) i = atI ds i := by
  unfold lfAt atI
  rw [List.length_map]
  cases e : ixN ds.length i with
  | none => rfl
  | some j =>
    show (match (ds.map MV.d)[j]? with
      | some (.d d) => some d
      | _ => none) = ds[j]?
    rw [List.getElem?_map]
    cases ds[j]? <;> rfl
def oIx : O2 := fun s x y => match y with
  | .d (.int i) => match x with
    | .d (.str z) => if z.length ≤ sizeLine then (atI z.cps.toList i).map fun c => (.d (.str ⟨#[c]⟩), s) else none
    | x => match seqT s x with
      | some ds => (atI ds i).map fun d => (.d d, s)
      | none => ((seqL s x).bind fun ms => lfAt ms i).map fun d => (.d d, s)
  | _ => none
def rIxA (K : PySem.W.Frag) : R2 := fun x y H Q => rIxS x y H Q ∨ rIxL K x y H Q ∨ rIxT K x y H Q
theorem ix_A {X : Cx} : IxR X (rIxA X.K) := ix_or ix_str (ix_or ix_list ix_tup)
theorem at_kid {F H : Hp} {vs : List V} {ms : List MV} {U : List Addr} {i : Int} {j : Nat} {c : MV} (r : Reps K F H vs ms U) (h : ixN ms.length i = some j) (hc : ms[j]? = some c) : ∃ u T, atI vs i = some u ∧ vs[j]? = some u ∧ Rep K F H u c T := by
  obtain ⟨v, A, T, B, h1, h2, h3, h4⟩ := r.get hc
  refine ⟨v, T, ?_, h1, h2⟩
  unfold atI
  rw [r.length, h]
  exact h1
theorem co_Ix : Co2 K (rIxA K) oIx := by
  intro g0 H0 g H σ sl x y tx ty S T tv sl' Q n st rx fx ry fy ap h k
  unfold oIx at h
  split at h
  · rename_i i
    obtain ⟨_, ry⟩ := ry
    cases ry
    split at h
    · split at h
      · rename_i z hz
        obtain ⟨c, h1, h2⟩ := Option.map_eq_some_iff.mp h
        cases h2
        obtain ⟨_, rx⟩ := rx
        cases rx
        exact .inl ⟨z, i, c, rfl, rfl, hz, h1, k.scal n st (.str _)⟩
      · cases h
    · split at h
      · rename_i es e
        obtain ⟨d, h2, h3⟩ := Option.map_eq_some_iff.mp h
        cases h3
        obtain ⟨a, vs, rfl, q1, q2⟩ := seqT_ok st rx e
        obtain ⟨u, q3, q4⟩ := at_get q2.paired h2
        exact .inr (.inr ⟨a, vs, i, u, rfl, rfl, q1, q3, k.scal n st q4⟩)
      · obtain ⟨d, h2, h3⟩ := Option.map_eq_some_iff.mp h
        cases h3
        obtain ⟨ms, e1, e2⟩ := Option.bind_eq_some_iff.mp h2
        obtain ⟨j, e3, e4⟩ := Option.bind_eq_some_iff.mp e2
        split at e4
        · rename_i d' e5
          cases e4
          obtain ⟨a, vs, U, rfl, q1, q2⟩ := seqL_ok st rx e1
          obtain ⟨u, T', k1, _, k2⟩ := at_kid q2 e3 e5
          cases k2 with
          | d k2 => exact .inr (.inl ⟨a, vs, i, u, rfl, rfl, q1, k1, k.scal n st k2⟩)
        · cases e4
  · cases h
/-! slices -/
abbrev AO := SL → Option (Res (Option Int))
abbrev RO : L2.St → G → Hp → Option Int → Option Int → List Addr → Prop := fun _ _ _ a b S => a = b ∧ S = []
abbrev oL (K : PySem.W.Frag) (W : WX) (A : AO) : TO := lft K RO W A
def aNoPart : AO := fun s => some (.ok none s)
def aPart (A : AE) : AO := fun s => bd (A s) fun x s1 => match x with
  | .d (.int i) => some (.ok (some i) s1)
  | _ => none
theorem POm {X : Cx} {e : Option Expr} {t t' : TO} (h : PO X e t) (k : ∀ σ H Q, t' σ H Q → t σ H Q) : PO X e t' := ⟨fun pins s σ H Q I q => h.run pins s σ H Q I (k σ H Q q)⟩
theorem o_none {X : Cx} {W : WX} : PO X none (oL X.K W aNoPart) := POm po_none fun σ H Q ⟨g, sl, res, st, e, k⟩ => by
  cases e
  exact k g H _ [] (Nx.refl _ _) st ⟨rfl, rfl⟩ (Fresh.nil _ _)
theorem o_some {X : Cx} {W : WX} {e : Expr} {A : AE} (h : PE X e (eL X.K W A)) : PO X (some e) (oL X.K W (aPart A)) := POm (po_some h) fun σ H Q ⟨g, sl, res, st, e, k⟩ =>
  run1 (R := RV X.K) st e k.x fun tx s1 g1 H1 v S e1 n1 st1 r1 f1 => by
    split at e1
    · cases e1
      obtain ⟨_, r⟩ := r1
      cases r
      exact ⟨_, rfl, k g1 H1 _ [] n1 st1 ⟨rfl, rfl⟩ (Fresh.nil _ _)⟩
    · cases e1
def cutD {α : Type} (xs : List α) (lo hi : Option Int) : List α := (xs.drop (HT.sIx xs.length 0 lo)).take (HT.sIx xs.length xs.length hi - HT.sIx xs.length 0 lo)
theorem RDs.cut {F : Hp} {vs : List V} {ds : List D} (r : RDs K F vs ds) (lo hi : Option Int) : RDs K F (cutV vs lo hi) (cutD ds lo hi) := by
  unfold cutV cutD
  rw [r.length]
  exact (r.drop _).take _
def oSl : SL → TV → Option Int → Option Int → Option (TV × SL) := fun s x lo hi => match x with
  | .d (.str z) => if z.length ≤ sizeLine then some (.d (.str (cutS z lo hi)), s) else none
  | x => match seqTd s x with
    | some ds => some (.d (.tuple (cutD ds lo hi)), s)
    | none => ((seqL s x).bind lvs).map fun ds => (.t (.lst ((cutD ds lo hi).map MV.d)), s)
def aSl (A : AE) (L U : AO) : AE := fun s => bd (A s) fun x s1 => bd (L s1) fun lo s2 => bd (U s2) fun hi s3 => (oSl s3 x lo hi).map fun r => .ok r.1 r.2
def rSlAll (K : PySem.W.Frag) : V → Option Int → Option Int → Hp → VK → Prop := fun x lo hi H Q => rSlS x lo hi H Q ∨ rSlA K x lo hi H Q ∨ rSlL K x lo hi H Q
theorem sl_or {X : Cx} {r q : V → Option Int → Option Int → Hp → VK → Prop} (h1 : SlR X r) (h2 : SlR X q) : SlR X (fun x lo hi H Q => r x lo hi H Q ∨ q x lo hi H Q) := fun pins s σ H x v vl vu lo hi sl Q I rx hs pl pu h => h.elim (h1 pins s σ H x v vl vu lo hi sl Q I rx hs pl pu) (h2 pins s σ H x v vl vu lo hi sl Q I rx hs pl pu)
theorem sl_All {X : Cx} : SlR X (rSlAll X.K) := sl_or sl_str (sl_or sl_tupA sl_list)
end
end Y

/-! Layer Y, part F: slices, built-ins, methods. -/
namespace Y
open PySem PySem.Spec PyProof.Rows L2 Evl
theorem e_slice {X : Cx} {W : WX} {e : Expr} {lo hi : Option Expr} {A : AE} {L U : AO} {pos p2 : Pos} (he : PE X e (eL X.K W A)) (hl : PO X lo (oL X.K W L)) (hu : PO X hi (oL X.K W U)) :
    PE X (.Subscript e (.Slice lo hi none p2) pos) (eL X.K W (aSl A L U)) :=
  PEm (pe_slice sl_All he hl hu) fun σ H Q ⟨g, sl, res, st, e, k⟩ => run1 (R := RV X.K) st e k.x fun tx s1 g1 H1 v S e1 n1 st1 r1 f1 =>
    run1 (R := RO) st1 e1 (hxm k.x n1) fun lo s2 g2 H2 lo' T e2 n2 st2 r2 f2 => run1 (R := RO) st2 e2 (hxm k.x (n1.trans n2)) fun hi s3 g3 H3 hi' U e3 n3 st3 r3 f3 => by
      obtain ⟨rfl, rfl⟩ := r2
      obtain ⟨rfl, rfl⟩ := r3
      obtain ⟨tv, s4, e4, rfl⟩ := mapok e3
      have n := n1.trans (n2.trans n3)
      have r := r1.mono (n2.trans n3)
      unfold oSl at e4
      split at e4
      · split at e4
        · rename_i z hz
          cases e4
          obtain ⟨_, r⟩ := r
          cases r
          exact .inl ⟨z, rfl, hz, Kg.scal k n st3 (.str _)⟩
        · cases e4
      · split at e4
        · rename_i ds e5
          cases e4
          obtain ⟨a, vs, rfl, h1, h2⟩ := seqTd_ok st3 r e5
          refine .inr (.inl ⟨a, vs, rfl, h1, fun hw => ?_, fun _ p hp => Kg.newT k n st3 (h2.cut _ _) hp⟩)
          have ec : cutD ds lo' hi' = ds := by
            unfold cutD
            rw [← h2.length, hw.1, hw.2, List.drop_zero, Nat.sub_zero, h2.length, List.take_length]
          rw [ec] at k
          exact Kg.scal k n st3 (seqT_rd st3 r e5)
        · obtain ⟨ds, e5, e6⟩ := Option.map_eq_some_iff.mp e4
          cases e6
          obtain ⟨ms, e7, e8⟩ := Option.bind_eq_some_iff.mp e5
          obtain ⟨a, vs, U, rfl, h1, h2⟩ := seqL_ok st3 r e7
          rw [lvs_eq e8] at h2
          exact .inr (.inr ⟨a, vs, rfl, h1, fun p hp => Kg.newL k n st3 (h2.leaves.2.cut _ _) hp⟩)
/-! -x, not -/
def aUn (f : Int → Int) (A : AE) : AE := fun s => bd (A s) fun x s1 => match x with
  | .d (.int i) => some (.ok (.d (.int (f i))) s1)
  | _ => none
abbrev rNeg : Int → Int := fun i => -i
theorem e_neg {X : Cx} {W : WX} {pos : Pos} {a : Expr} {A : AE} (h : PE X a (eL X.K W A)) : PE X (.UnaryOp .USub a pos) (eL X.K W (aUn rNeg A)) := PEm (pe_un un_neg h) fun σ H Q ⟨g, sl, res, st, e, k⟩ =>
  run1 (R := RV X.K) st e k.x fun tx s1 g1 H1 v S e1 n1 st1 r1 f1 => by
    split at e1
    · cases e1
      obtain ⟨_, r⟩ := r1
      cases r
      exact ⟨_, rfl, Kg.scal k n1 st1 (.int _)⟩
    · cases e1
section
variable {K : PySem.W.Frag}
theorem RTVs.one {g : G} {H : Hp} {σ : L2.St} {vs : List V} {t : TV} {S : List Addr} (r : RTVs K g H σ vs [t] S) : ∃ v, vs = [v] ∧ RTV K g H σ v t S := by
  cases r with
  | cons q r _ =>
    cases r
    rw [List.append_nil]
    exact ⟨_, rfl, q⟩
theorem RTVs.two {g : G} {H : Hp} {σ : L2.St} {vs : List V} {t u : TV} {S : List Addr} (r : RTVs K g H σ vs [t, u] S) : ∃ v w A B, vs = [v, w] ∧ S = A ++ B ∧ RTV K g H σ v t A ∧ RTV K g H σ w u B ∧ ∀ a ∈ A, a ∉ B := by
  cases r with
  | cons q r ap =>
    obtain ⟨w, rfl, q2⟩ := r.one
    exact ⟨_, _, _, _, rfl, rfl, q, q2, ap⟩
/-! len -/
def lenA (sl : SL) (t : TV) : Option Nat := match t with
  | .d (.str y) => if y.length ≤ sizeLine then some y.length else none
  | t => match seqT sl t with
    | some xs => some xs.length
    | none => (seqL sl t).map List.length
def oLen : O1 := fun sl ts => match ts with
  | [x] => (lenA sl x).map fun n => (.d (.int (n : Nat)), sl)
  | _ => none
theorem co_len : CoC K (fun xs H Q => ∃ x n, xs = [x] ∧ LenV K x H n ∧ Q (.int n) H) oLen := by
  intro g0 H0 g H σ sl vs ts S tv sl' Q n st rs f h k
  unfold oLen at h
  split at h
  · rename_i x
    obtain ⟨m, h1, h2⟩ := Option.map_eq_some_iff.mp h
    cases h2
    obtain ⟨v, rfl, r⟩ := rs.one
    refine ⟨v, m, rfl, ?_, k.scal n st (.int _)⟩
    have base : (match seqT sl x with
      | some xs => some xs.length
      | none => (seqL sl x).map List.length) = some m → LenV K v H m := by
      intro h
      split at h
      · rename_i xs e
        obtain ⟨a, ws, rfl, q1, q2⟩ := seqT_ok st r e
        cases h
        exact .inr ⟨ws, q1, q2.length.symm⟩
      · obtain ⟨xs, e2, rfl⟩ := Option.map_eq_some_iff.mp h
        obtain ⟨a, ws, T, rfl, q1, q2⟩ := seqL_ok st r e2
        exact .inl ⟨ws, q1, q2.length.symm⟩
    cases x with
    | d y =>
      cases y with
      | str z =>
        obtain ⟨_, r⟩ := r
        cases r
        have h' : (if z.length ≤ sizeLine then some z.length else none) = some m := h1
        split at h'
        · rename_i hz; cases h'; exact ⟨hz, rfl⟩
        · cases h'
      | _ => exact base h1
    | _ => exact base h1
  · cases h
/-! int, str, ord, chr, abs -/
def oInt : O1 := fun sl ts => match ts with
  | [.d (.int i)] => some (.d (.int i), sl)
  | [.d (.bool b)] => some (.d (.int (if b then 1 else 0)), sl)
  | _ => none
theorem co_int : CoC K (fun xs H Q => (∃ i, xs = [.int i] ∧ Q (.int i) H) ∨ ∃ k, xs = [.bl k] ∧ Q (.int (if k then 1 else 0)) H) oInt := by
  intro g0 H0 g H σ sl vs ts S tv sl' Q n st rs f h k
  unfold oInt at h
  split at h
  · cases h
    obtain ⟨v, rfl, _, r⟩ := rs.one
    cases r
    exact .inl ⟨_, rfl, k.scal n st (.int _)⟩
  · cases h
    obtain ⟨v, rfl, _, r⟩ := rs.one
    cases r
    exact .inr ⟨_, rfl, k.scal n st (.int _)⟩
  · cases h
def oIntS : O1 := fun sl ts => match ts with
  | [.d (.str a)] => if a.length ≤ 640 then (PySem.intText? a).map fun n => (.d (.int n), sl) else none
  | _ => none
theorem co_intS : CoC K (fun xs H Q => ∃ a n, xs = [.str a] ∧ PySem.intText? a = some n ∧ a.length ≤ 640 ∧ Q (.int n) H) oIntS := by
  intro g0 H0 g H σ sl vs ts S tv sl' Q n st rs f h k
  unfold oIntS at h
  split at h
  · split at h
    · rename_i a ha
      obtain ⟨m, h1, h2⟩ := Option.map_eq_some_iff.mp h
      cases h2
      obtain ⟨v, rfl, _, r⟩ := rs.one
      cases r
      exact ⟨a, m, rfl, h1, ha, k.scal n st (.int _)⟩
    · cases h
  · cases h
def oStr : O1 := fun sl ts => match ts with
  | [.d (.int i)] => if i.natAbs.log2 < 1920 then some (.d (.str (toString i)), sl) else none
  | _ => none
theorem co_str : CoC K (fun xs H Q => ∃ i, xs = [.int i] ∧ i.natAbs.log2 < 1920 ∧ Q (.str (toString i)) H) oStr := by
  intro g0 H0 g H σ sl vs ts S tv sl' Q n st rs f h k
  unfold oStr at h
  split at h
  · split at h
    · rename_i a ha
      cases h
      obtain ⟨v, rfl, _, r⟩ := rs.one
      cases r
      exact ⟨_, rfl, ha, k.scal n st (.str _)⟩
    · cases h
  · cases h
def oOrd : O1 := fun sl ts => match ts with
  | [.d (.str c)] => match c.cps.toList with
    | [u] => some (.d (.int (u : Nat)), sl)
    | _ => none
  | _ => none
theorem co_ord : CoC K (fun xs H Q => ∃ x, xs = [.str x] ∧ x.length = 1 ∧ Q (.int (x.cps.getD 0 0 : Nat)) H) oOrd := by
  intro g0 H0 g H σ sl vs ts S tv sl' Q n st rs f h k
  unfold oOrd at h
  split at h
  · split at h
    · rename_i u e
      cases h
      rw [str1 e] at rs
      obtain ⟨v, rfl, _, r⟩ := rs.one
      cases r
      exact ⟨_, rfl, rfl, k.scal n st (.int _)⟩
    · cases h
  · cases h
def oAbs : O1 := fun sl ts => match ts with
  | [.d (.int i)] => some (.d (.int (if i < 0 then -i else i)), sl)
  | _ => none
theorem co_abs : CoC K (fun xs H Q => ∃ i, xs = [.int i] ∧ Q (.int (if i < 0 then -i else i)) H) oAbs := by
  intro g0 H0 g H σ sl vs ts S tv sl' Q n st rs f h k
  unfold oAbs at h
  split at h
  · cases h
    obtain ⟨v, rfl, _, r⟩ := rs.one
    cases r
    exact ⟨_, rfl, k.scal n st (.int _)⟩
  · cases h
/-! list(xs), tuple(xs) -/
def oList : O1 := fun sl ts => match ts with
  | [x] => (itemsD sl x).map fun ds => (.t (.lst (ds.map MV.d)), sl)
  | _ => none
theorem co_list : CoC K (fun xs H Q => ∃ p ys, xs = [.ref p] ∧ (SqL K H p ys ∨ SqT K H p ys) ∧ ∀ l, H l = none → Q (.ref l) (upd H l (.lst ys))) oList := by
  intro g0 H0 g H σ sl vs ts S tv sl' Q n st rs f h k
  unfold oList at h
  split at h
  · obtain ⟨ds, h1, h2⟩ := Option.map_eq_some_iff.mp h
    cases h2
    obtain ⟨v, rfl, r⟩ := rs.one
    obtain ⟨a, ws, rfl, q1, q2⟩ := itemsD_ok st r h1
    exact ⟨a, ws, rfl, q1, fun p hp => k.newL n st q2 hp⟩
  · cases h
def oTupL : O1 := fun sl ts => match ts with
  | [x] => match seqTd sl x with
    | some ds => some (.d (.tuple ds), sl)
    | none => match (seqL sl x).bind lvs with
      | some ds => some (.d (.tuple ds), sl)
      | none => match fz sl x with
        | some (.list ds, s') => some (.d (.tuple ds), s')
        | _ => none
  | _ => none
theorem co_tupL : CoC K (fun xs H Q => ∃ p ys, xs = [.ref p] ∧ ((SqL K H p ys ∧ ∀ l, H l = none → Q (.ref l) (upd H l (.tup ys))) ∨ (SqT K H p ys ∧ Q (.ref p) H))) oTupL := by
  intro g0 H0 g H σ sl vs ts S tv sl' Q n st rs f h k
  unfold oTupL at h
  split at h
  · obtain ⟨v, rfl, r⟩ := rs.one
    split at h
    · rename_i ds e
      cases h
      obtain ⟨a, ws, rfl, q1, q2⟩ := seqTd_ok st r e
      exact ⟨a, ws, rfl, .inr ⟨q1, k.scal n st (seqT_rd st r e)⟩⟩
    · split at h
      · rename_i ds e
        cases h
        obtain ⟨ms, e1, e2⟩ := Option.bind_eq_some_iff.mp e
        obtain ⟨a, ws, T, rfl, q1, q2⟩ := seqL_ok st r e1
        rw [lvs_eq e2] at q2
        exact ⟨a, ws, rfl, .inl ⟨q1, fun p hp => k.newT n st q2.leaves.2 hp⟩⟩
      · split at h
        · rename_i ds s' e
          cases h
          obtain ⟨g1, n1, st1, q⟩ := fz_ok n f st r e
          cases q with
          | lst h1 h2 => exact ⟨_, _, rfl, .inl ⟨SqL.of (st1.ex _ _ h1), fun p hp => k.newT n1 st1 h2 hp⟩⟩
        · cases h
  · cases h
/-! min, max, sum -/
def oMin2 : O1 := fun sl ts => match ts with
  | [.d (.int i), .d (.int j)] => some (.d (.int (if j < i then j else i)), sl)
  | _ => none
def oMax2 : O1 := fun sl ts => match ts with
  | [.d (.int i), .d (.int j)] => some (.d (.int (if j > i then j else i)), sl)
  | _ => none
theorem co_min2 : CoC K (fun xs H Q => ∃ i j, xs = [.int i, .int j] ∧ Q (.int (if j < i then j else i)) H) oMin2 := by
  intro g0 H0 g H σ sl vs ts S tv sl' Q n st rs f h k
  unfold oMin2 at h
  split at h
  · cases h
    obtain ⟨v, w, A, B, rfl, rfl, ⟨_, r1⟩, ⟨_, r2⟩, _⟩ := rs.two
    cases r1; cases r2
    exact ⟨_, _, rfl, k.scal n st (.int _)⟩
  · cases h
theorem co_max2 : CoC K (fun xs H Q => ∃ i j, xs = [.int i, .int j] ∧ Q (.int (if j > i then j else i)) H) oMax2 := by
  intro g0 H0 g H σ sl vs ts S tv sl' Q n st rs f h k
  unfold oMax2 at h
  split at h
  · cases h
    obtain ⟨v, w, A, B, rfl, rfl, ⟨_, r1⟩, ⟨_, r2⟩, _⟩ := rs.two
    cases r1; cases r2
    exact ⟨_, _, rfl, k.scal n st (.int _)⟩
  · cases h
def intsD : List D → Option (List Int)
  | [] => some []
  | .int i :: r => (intsD r).map (i :: ·)
  | _ :: _ => none
@[simp] theorem ints_map : ∀ ns : List Int, intsD (ns.map PyData.int) = some ns
  | [] => rfl
  | i :: r => by
    show (intsD (r.map PyData.int)).map (i :: ·) = some (i :: r)
    rw [ints_map r]; rfl
theorem ints_eq : ∀ {ds : List D} {ns : List Int}, intsD ds = some ns → ds = ns.map PyData.int
  | [], _, h => by cases h; rfl
  | .int i :: r, ns, h => by
    obtain ⟨ms, e1, rfl⟩ := Option.map_eq_some_iff.mp (show (intsD r).map (i :: ·) = some ns from h)
    rw [List.map_cons, ← ints_eq e1]
  | .none :: _, _, h => by cases h
  | .bool _ :: _, _, h => by cases h
  | .str _ :: _, _, h => by cases h
  | .list _ :: _, _, h => by cases h
  | .tuple _ :: _, _, h => by cases h
  | .dict _ :: _, _, h => by cases h
theorem ints_rd {F : Hp} : ∀ {ns : List Int} {vs : List V}, RDs K F vs (ns.map PyData.int) → vs = ns.map V.int
  | [], _, .nil => rfl
  | n :: r, _, .cons h t => by
    cases h
    rw [ints_rd t, List.map_cons]
def oSum : O1 := fun sl ts => match ts with
  | [x] => (((seqL sl x).bind lvs).bind intsD).map fun ns => (.d (.int ns.sum), sl)
  | _ => none
theorem co_sum : CoC K (rSum K) oSum := by
  intro g0 H0 g H σ sl vs ts S tv sl' Q n st rs f h k
  unfold oSum at h
  split at h
  · obtain ⟨ns, h1, h2⟩ := Option.map_eq_some_iff.mp h
    cases h2
    obtain ⟨ds, h3, h4⟩ := Option.bind_eq_some_iff.mp h1
    obtain ⟨ms, h5, h6⟩ := Option.bind_eq_some_iff.mp h3
    obtain ⟨v, rfl, r⟩ := rs.one
    obtain ⟨a, ws, T, rfl, q1, q2⟩ := seqL_ok st r h5
    rw [lvs_eq h6, ints_eq h4] at q2
    have e := ints_rd q2.leaves.2
    subst e
    exact ⟨a, ns, rfl, q1, k.scal n st (.int _)⟩
  · cases h
def maxI : List Int → Option Int
  | [] => none
  | x :: r => some (r.foldl (fun a b => if a < b then b else a) x)
def minI : List Int → Option Int
  | [] => none
  | x :: r => some (r.foldl (fun a b => if b < a then b else a) x)
theorem foldmax : ∀ (r : List Int) (x m : Int), m ∈ x :: r → (∀ y ∈ x :: r, y ≤ m) → r.foldl (fun a b => if a < b then b else a) x = m
  | [], x, m, h, _ => by simp at h; simp [h]
  | y :: r, x, m, h, hm => by
    rw [List.foldl_cons]
    apply foldmax r
    · by_cases e : x < y
      · rw [if_pos e]
        rcases List.mem_cons.mp h with q | q
        · subst q; exact absurd (hm y (by simp)) (by omega)
        · exact q
      · rw [if_neg e]
        rcases List.mem_cons.mp h with q | q
        · subst q; exact List.mem_cons_self
        · rcases List.mem_cons.mp q with q | q
          · subst q
            have := hm x (by simp)
            rw [show x = m by omega]
            exact List.mem_cons_self
          · exact List.mem_cons_of_mem _ q
    · intro z hz
      rcases List.mem_cons.mp hz with q | q
      · subst q
        split
        · exact hm y (by simp)
        · exact hm x (by simp)
      · exact hm z (by simp [q])
theorem foldmin : ∀ (r : List Int) (x m : Int), m ∈ x :: r → (∀ y ∈ x :: r, m ≤ y) → r.foldl (fun a b => if b < a then b else a) x = m
  | [], x, m, h, _ => by simp at h; simp [h]
  | y :: r, x, m, h, hm => by
    rw [List.foldl_cons]
    apply foldmin r
    · by_cases e : y < x
      · rw [if_pos e]
        rcases List.mem_cons.mp h with q | q
        · subst q; exact absurd (hm y (by simp)) (by omega)
        · exact q
      · rw [if_neg e]
        rcases List.mem_cons.mp h with q | q
        · subst q; exact List.mem_cons_self
        · rcases List.mem_cons.mp q with q | q
          · subst q
            have := hm x (by simp)
            rw [show x = m by omega]
            exact List.mem_cons_self
          · exact List.mem_cons_of_mem _ q
    · intro z hz
      rcases List.mem_cons.mp hz with q | q
      · subst q
        split
        · exact hm y (by simp)
        · exact hm x (by simp)
      · exact hm z (by simp [q])
def oMaxL : O1 := fun sl ts => match ts with
  | [x] => ((((seqL sl x).bind lvs).bind intsD).bind maxI).map fun n => (.d (.int n), sl)
  | _ => none
def oMinL : O1 := fun sl ts => match ts with
  | [x] => ((((seqL sl x).bind lvs).bind intsD).bind minI).map fun n => (.d (.int n), sl)
  | _ => none
theorem co_maxL : CoC K (rMax K) oMaxL := by
  intro g0 H0 g H σ sl vs ts S tv sl' Q n st rs f h k
  unfold oMaxL at h
  split at h
  · obtain ⟨m, h1, h2⟩ := Option.map_eq_some_iff.mp h
    cases h2
    obtain ⟨ns, h3, h4⟩ := Option.bind_eq_some_iff.mp h1
    obtain ⟨ds, h5, h6⟩ := Option.bind_eq_some_iff.mp h3
    obtain ⟨ms, h7, h8⟩ := Option.bind_eq_some_iff.mp h5
    obtain ⟨v, rfl, r⟩ := rs.one
    obtain ⟨a, ws, T, rfl, q1, q2⟩ := seqL_ok st r h7
    rw [lvs_eq h8, ints_eq h6] at q2
    have e := ints_rd q2.leaves.2
    subst e
    cases ns with
    | nil => cases h4
    | cons x t =>
      refine ⟨a, _, rfl, q1, by simp, fun z hz hm => ?_⟩
      have := foldmax t x z hz hm
      have e2 : m = z := by
        have h4' : some (t.foldl (fun a b => if a < b then b else a) x) = some m := h4
        rw [this] at h4'
        exact (Option.some.inj h4').symm
      subst e2
      exact k.scal n st (.int _)
  · cases h
theorem co_minL : CoC K (rMin K) oMinL := by
  intro g0 H0 g H σ sl vs ts S tv sl' Q n st rs f h k
  unfold oMinL at h
  split at h
  · obtain ⟨m, h1, h2⟩ := Option.map_eq_some_iff.mp h
    cases h2
    obtain ⟨ns, h3, h4⟩ := Option.bind_eq_some_iff.mp h1
    obtain ⟨ds, h5, h6⟩ := Option.bind_eq_some_iff.mp h3
    obtain ⟨ms, h7, h8⟩ := Option.bind_eq_some_iff.mp h5
    obtain ⟨v, rfl, r⟩ := rs.one
    obtain ⟨a, ws, T, rfl, q1, q2⟩ := seqL_ok st r h7
    rw [lvs_eq h8, ints_eq h6] at q2
    have e := ints_rd q2.leaves.2
    subst e
    cases ns with
    | nil => cases h4
    | cons x t =>
      refine ⟨a, _, rfl, q1, by simp, fun z hz hm => ?_⟩
      have := foldmin t x z hz hm
      have e2 : m = z := by
        have h4' : some (t.foldl (fun a b => if b < a then b else a) x) = some m := h4
        rw [this] at h4'
        exact (Option.some.inj h4').symm
      subst e2
      exact k.scal n st (.int _)
  · cases h
end
end Y

/-! Layer Y, part G: methods. -/
namespace Y
open PySem PySem.Spec PyProof.Rows L2 Evl
abbrev OM := SL → TV → List TV → Option (TV × SL)
def CoM (K : PySem.W.Frag) (r : V → List V → Hp → VK → Prop) (o : OM) : Prop := ∀ g0 H0 g H σ sl x vs tx ts S T tv sl' Q, Nx g0 H0 g H → Sta K g H σ sl → RTV K g H σ x tx S → Fresh g0 H0 S → RTVs K g H σ vs ts T → Fresh g0 H0 T → (∀ a ∈ S, a ∉ T) → o sl tx ts = some (tv, sl') → Kg K (RV K σ) σ Q g0 H0 tv sl' → r x vs H Q
def tyA (T : String) (sl : SL) (t : TV) : Bool := match t with
  | .d (.str _) => T == "str"
  | .d (.int _) => T == "int"
  | .d (.list _) => T == "list"
  | .x _ => T == "list"
  | .sub _ _ j m => match kid m j with
    | some (.lst _) => T == "list"
    | some (.dK _) => T == "dict"
    | some (.dT _) => T == "dict"
    | _ => false
  | t => match vw sl t with
    | some (.lst _) => T == "list"
    | some (.dK _) => T == "dict"
    | some (.dT _) => T == "dict"
    | _ => false
theorem tyA_ok {K : PySem.W.Frag} {g : G} {H : Hp} {σ : L2.St} {sl : SL} {v : V} {t : TV} {S : List Addr} {T0 : String} (st : Sta K g H σ sl) (r : RTV K g H σ v t S) (h : tyA T0 sl t = true) : tyV K T0 v H := by
  have base : (match vw sl t with
    | some (.lst _) => T0 == "list"
    | some (.dK _) => T0 == "dict"
    | some (.dT _) => T0 == "dict"
    | _ => false) = true → tyV K T0 v H := by
    intro h
    split at h
    · rename_i e
      obtain ⟨U, q⟩ := vw_ok st r e
      cases q with
      | lst h1 h2 => exact .inl ⟨eq_of_beq h, _, SqL.of h1⟩
    · rename_i e
      obtain ⟨U, q⟩ := vw_ok st r e
      cases q with
      | dK h1 h2 h3 => exact .inr (.inr (.inl ⟨eq_of_beq h, .inl ⟨_, h1⟩⟩))
    · rename_i e
      obtain ⟨U, q⟩ := vw_ok st r e
      cases q with
      | dT h1 h2 h3 => exact .inr (.inr (.inl ⟨eq_of_beq h, .inr ⟨_, h1⟩⟩))
    · cases h
  cases t with
  | d y =>
    obtain ⟨_, q⟩ := r
    cases y with
    | str z => cases q; exact eq_of_beq h
    | int z => cases q; exact eq_of_beq h
    | list ds =>
      cases q with
      | lst h1 h2 => exact .inl ⟨eq_of_beq h, _, SqL.of (st.ex _ _ h1)⟩
    | _ => exact base h
  | x ds =>
    obtain ⟨_, a, vs, rfl, h2, h3⟩ := r
    exact .inl ⟨eq_of_beq h, _, ex_l st.ex h2⟩
  | t m => exact base h
  | var i => exact base h
  | c i => exact base h
  | sub p i j m =>
    obtain ⟨v0, _, rr, kv, c, hc⟩ := r
    obtain ⟨v1, P, T, B, k1, k2, k3, k4⟩ := rr.1.kid hc
    obtain rfl := k1.inj kv
    have h' : (match kid m j with
      | some (.lst _) => T0 == "list"
      | some (.dK _) => T0 == "dict"
      | some (.dT _) => T0 == "dict"
      | _ => false) = true := h
    rw [hc] at h'
    cases k2 with
    | d _ => cases h'
    | lst h1 h2 => exact .inl ⟨eq_of_beq h', _, SqL.of h1⟩
    | dK h1 h2 h3 => exact .inr (.inr (.inl ⟨eq_of_beq h', .inl ⟨_, h1⟩⟩))
    | dT h1 h2 h3 => exact .inr (.inr (.inl ⟨eq_of_beq h', .inr ⟨_, h1⟩⟩))
def aBM0 (T : String) (o : OM) (A : AE) : AE := fun s => bd (A s) fun x s1 => if tyA T s1 x = true then (o s1 x []).map fun r => .ok r.1 r.2 else none
def aBM (T : String) (o : OM) (A : AE) (R : AA) : AE := fun s => bd (A s) fun x s1 => if tyA T s1 x = true then bd (R s1) fun xs s2 => (o s2 x xs).map fun r => .ok r.1 r.2 else none
section
variable {X : Cx} {W : WX} {o e : Expr} {es : List Expr} {A : AE} {R : AA} {om : OM} {r : V → List V → Hp → VK → Prop} {name : Str} {apos cpos : Pos} {T id : String}
theorem e_bm0 (pa : PlainAttrs T) (slot : Slot T name id) (hty : typeOf (.builtin id) = pure (.type "method_descriptor")) (hm : MtR X id r) (co : CoM X.K r om) (ho : PE X o (eL X.K W A))
    (hbase : attributeBase o name X.env (eval o X.env) = eval o X.env := by rfl) (hline : (apos.endLine == cpos.line) = true := by rfl) : PE X (.Call (.Attribute o name apos) [] [] cpos) (eL X.K W (aBM0 T om A)) :=
  PEm (pe_bm0 pa slot hty hm ho hbase hline) fun σ H Q ⟨g, sl, res, st, e, k⟩ => run1 (R := RV X.K) st e k.x fun tx s1 g1 H1 v S e1 n1 st1 r1 f1 => by
    split at e1
    · rename_i ht
      obtain ⟨tv, s2, e2, rfl⟩ := mapok e1
      exact ⟨tyA_ok st1 r1 ht, co g H g1 H1 σ s1 v [] tx [] S [] tv s2 Q n1 st1 r1 f1 .nil (Fresh.nil _ _) (fun _ _ z => nomatch z) e2 k⟩
    · cases e1
theorem e_bm (pa : PlainAttrs T) (slot : Slot T name id) (hty : typeOf (.builtin id) = pure (.type "method_descriptor")) (hm : MtR X id r) (co : CoM X.K r om) (ho : PE X o (eL X.K W A)) (ha : PA X (e :: es) (aL X.K W R))
    (hbase : attributeBase o name X.env (eval o X.env) = eval o X.env := by rfl)
    (hfew : ((backTo cpos (starEach (e :: es) X.env)).all (fun x => !x.1) && (backToKw cpos (keywordEach [] X.env)).all (fun x => x.1.isSome)
      && decide ((e :: es).length + ([] : List Keyword).length + (if ([] : List Keyword).isEmpty then 0 else 1) < 30)) = true := by rfl)
    (hline : (apos.endLine == cpos.line) = true := by rfl) (hs : starEach (e :: es) X.env = (false, eval e X.env) :: starEach es X.env := by rfl) (hplain : (backTo cpos (starEach es X.env)).any (·.1) = false := by rfl) :
    PE X (.Call (.Attribute o name apos) (e :: es) [] cpos) (eL X.K W (aBM T om A R)) :=
  PEm (pe_bm pa slot hty hm ho ha hbase hfew hline hs hplain) fun σ H Q ⟨g, sl, res, st, e, k⟩ => run1 (R := RV X.K) st e k.x fun tx s1 g1 H1 v S e1 n1 st1 r1 f1 => by
    split at e1
    · rename_i ht
      refine ⟨tyA_ok st1 r1 ht, run1 (R := RL X.K) st1 e1 (hxm k.x n1) fun txs s2 g2 H2 vs U e2 n2 st2 r2 f2 => ?_⟩
      obtain ⟨tv, s3, e3, rfl⟩ := mapok e2
      exact co g H g2 H2 σ s2 v vs tx txs S U tv s3 Q (n1.trans n2) st2 (r1.mono n2) f1 r2 (f2.back n1) (r1.apart f2) e3 k
    · cases e1
end
section
variable {K : PySem.W.Frag}
/-! ### places that are changed: an owned slot, a child of one -/
structure Pl where
  s : SL
  i : Nat
  m : MV
  put : MV → MV
def pl (sl : SL) : TV → Option Pl
  | .var i => (wAt sl i).map fun m => ⟨sl, i, m, fun x => x⟩
  | .sub p i j m => (kid m j).map fun c => ⟨bk sl p i m, i, c, setKid m j⟩
  | _ => none
def Pl.w (q : Pl) (m : MV) : SL := putAt q.s q.i (q.put m)
theorem wAt_bk {sl : SL} {p : Bool} {i : Nat} {m : MV} (h : i < sl.length) : wAt (bk sl p i m) i = some m := by
  unfold wAt bk
  rw [List.getElem?_set_self h]
  cases p <;> rfl
theorem pl_ok {g0 g : G} {H0 H : Hp} {σ : L2.St} {sl : SL} {v : V} {x : TV} {S : List Addr} {q : Pl} (n : Nx g0 H0 g H) (f : Fresh g0 H0 S) (st : Sta K g H σ sl) (r : RTV K g H σ v x S) (h : pl sl x = some q) :
    ∃ g1 T, Nx g0 H0 g1 H ∧ Sta K g1 H σ q.s ∧ Rep K g1.F H v q.m T ∧ T.Nodup ∧ (∀ a ∈ T, g1.lab a = some q.i) ∧ (g1.F = g.F ∧ g1.ro = g.ro ∧ ∀ a, a ∉ S → g1.lab a = g.lab a) ∧ (∀ u tu U, RTV K g H σ u tu U → (∀ a ∈ S, a ∉ U) → RTV K g1 H σ u tu U) ∧
      ∀ H' c' T' U, Fresh g0 H0 U → (∀ a ∈ U, g1.F a = none ∧ g1.lab a = none ∧ ¬ g1.RO a) → (∀ a, a ∉ T → H a ≠ none → H' a = H a) → (∀ a, Keep (H a) → Keep (H' a)) → (∀ a ∈ U, Keep (H a)) → Rep K g1.F H' v c' T' → T'.Nodup → (∀ a ∈ T', a ∈ T ∨ a ∈ U) → Nx g0 H0 (labG g1 U q.i) H' ∧ Sta K (labG g1 U q.i) H' σ (q.w c') := by
  cases x with
  | d _ => cases h
  | t _ => cases h
  | x _ => cases h
  | c _ => cases h
  | var i =>
    obtain ⟨m, e, rfl⟩ := Option.map_eq_some_iff.mp (show (wAt sl i).map (fun m => Pl.mk sl i m fun x => x) = some q from h)
    obtain ⟨u, T, h1, h2, h3, h4⟩ := st.own e
    rw [r.2] at h1
    cases h1
    exact ⟨g, T, n, st, h2, h3, h4, ⟨rfl, rfl, fun _ _ => rfl⟩, fun _ _ _ q _ => q, fun H' c' T' U fU hU hH hA hk rp nd sub => Sta.mut n fU st e r.2 h4 hU hH hA hk rp nd sub⟩
  | sub p i j m =>
    obtain ⟨c, e, rfl⟩ := Option.map_eq_some_iff.mp (show (kid m j).map (fun c => Pl.mk (bk sl p i m) i c (setKid m j)) = some q from h)
    obtain ⟨v0, ⟨hv, hp⟩, rr, kv, _⟩ := r
    obtain ⟨v1, P, T, B, k1, k2, k3, k4⟩ := rr.1.kid e
    obtain rfl := k1.inj kv
    subst k3
    obtain ⟨n1, st1⟩ := st.back n f hv hp rr
    have hi : i < sl.length := by rw [← st.len]; exact (List.getElem?_eq_some_iff.mp hv).1
    have nd := List.nodup_append.mp rr.2.1
    have nd2 := List.nodup_append.mp nd.2.1
    refine ⟨_, T, n1, st1, k2, nd2.1, fun a z => labG_in (List.mem_append_right _ (List.mem_append_left _ z)), ⟨rfl, rfl, fun a z => labG_ne z⟩, fun u tu U q ap => RTV.lab q ap, fun H' c' T' U fU hU hH hA hk rp ndp sub => ?_⟩
    have oth : ∀ b, b ∈ P ∨ b ∈ B → H' b = H b := fun b z => by
      refine hH b (fun z2 => ?_) (rr.1.keep b ?_).1
      · rcases z with z | z
        · exact nd.2.2 b z b (List.mem_append_left _ z2) rfl
        · exact nd2.2.2 b z2 b z rfl
      · rcases z with z | z
        · exact List.mem_append_left _ z
        · exact List.mem_append_right _ (List.mem_append_right _ z)
    have un : ∀ b ∈ U, b ∉ P ++ (T ++ B) := fun b z z2 => by have := (hU b z).2.1; rw [labG_in z2] at this; cases this
    obtain ⟨r0, _⟩ := k4 g.F H' c' T' (fun _ _ z => z) oth rp
    refine Sta.mut (S := P ++ (T ++ B)) (S' := P ++ (T' ++ B)) n1 fU st1 (wAt_bk hi) hv (fun a z => labG_in z) hU (fun a z hz => hH a (fun z2 => z (List.mem_append_right _ (List.mem_append_left _ z2))) hz) hA hk r0 ?_ fun a z => ?_
    · refine List.nodup_append.mpr ⟨nd.1, List.nodup_append.mpr ⟨ndp, nd2.2.1, fun a za b zb e => ?_⟩, fun a za b zb e => ?_⟩
      · subst e
        rcases sub a za with z | z
        · exact nd2.2.2 a z a zb rfl
        · exact un a z (List.mem_append_right _ (List.mem_append_right _ zb))
      · subst e
        rcases List.mem_append.mp zb with zb | zb
        · rcases sub a zb with z | z
          · exact nd.2.2 a za a (List.mem_append_left _ z) rfl
          · exact un a z (List.mem_append_left _ za)
        · exact nd.2.2 a za a (List.mem_append_right _ zb) rfl
    · rcases List.mem_append.mp z with z | z
      · exact .inl (List.mem_append_left _ z)
      · rcases List.mem_append.mp z with z | z
        · rcases sub a z with z | z
          · exact .inl (List.mem_append_right _ (List.mem_append_left _ z))
          · exact .inr z
        · exact .inl (List.mem_append_right _ (List.mem_append_right _ z))
/-- the root at a place is written -/
theorem pl_root {g0 g : G} {H0 H : Hp} {σ : L2.St} {sl : SL} {v : V} {x : TV} {S T : List Addr} {q : Pl} (n : Nx g0 H0 g H) (f : Fresh g0 H0 S) (st : Sta K g H σ sl) (r : RTV K g H σ v x S) (h : pl sl x = some q) (fT : Fresh g0 H0 T) (ap : ∀ a ∈ S, a ∉ T) (hT : ∀ a ∈ T, g.F a = none ∧ g.lab a = none ∧ ¬ g.RO a) (hTk : ∀ a ∈ T, Keep (H a)) :
    ∃ g1 Z, Nx g0 H0 g1 H ∧ Sta K g1 H σ q.s ∧ g1.F = g.F ∧ Rep K g.F H v q.m Z ∧ Z.Nodup ∧ (∀ b ∈ Z, b ∉ T) ∧
      ∀ a U o m' U', Z = a :: U → Keep (some o) → U'.Nodup → (∀ b ∈ U', b ∈ U ∨ b ∈ T) → (∀ H' : Hp, H' a = some o → (∀ b ∈ U', H' b = H b) → Rep K g.F H' v m' (a :: U')) → Nx g0 H0 (labG g1 T q.i) (upd H a o) ∧ Sta K (labG g1 T q.i) (upd H a o) σ (q.w m') := by
  obtain ⟨g1, Z, n1, st1, rp, nd, lb, ⟨eF, er, el⟩, kp, fin⟩ := pl_ok n f st r h
  have hT1 : ∀ a ∈ T, g1.F a = none ∧ g1.lab a = none ∧ ¬ g1.RO a := fun a z =>
    ⟨by rw [eF]; exact (hT a z).1, by rw [el a fun z2 => ap a z2 z]; exact (hT a z).2.1, fun z2 => (hT a z).2.2 (by unfold G.RO at z2 ⊢; rw [er] at z2; exact z2)⟩
  have zt : ∀ b ∈ Z, b ∉ T := fun b z z2 => by have := (hT1 b z2).2.1; rw [lb b z] at this; cases this
  rw [eF] at rp fin
  refine ⟨g1, Z, n1, st1, eF, rp, nd, zt, fun a U o m' U' e ko nd' sub rep => ?_⟩
  subst e
  have nda := List.nodup_cons.mp nd
  have na : ∀ b ∈ U', b ≠ a := fun b z e => by
    subst e
    rcases sub b z with z | z
    · exact nda.1 z
    · exact zt b List.mem_cons_self z
  exact fin _ m' (a :: U') T fT (by rw [← eF]; exact hT1) (fun b z _ => upd_ne fun e => z (e ▸ List.mem_cons_self)) (fun b z => by
    by_cases e : b = a
    · subst e; rw [upd_same]; exact ko
    · rw [upd_ne e]; exact z) hTk (rep _ upd_same fun b z => upd_ne (na b z)) (List.nodup_cons.mpr ⟨fun z => na a z rfl, nd'⟩) (fun b z => by
    rcases List.mem_cons.mp z with e | e
    · exact .inl (e ▸ List.mem_cons_self)
    · rcases sub b e with e | e
      · exact .inl (List.mem_cons_of_mem _ e)
      · exact .inr e)
/-! xs.append(y) -/
def mAppend : OM := fun sl x ts => match ts with
  | [y] => (toM sl y).bind fun r => (pl r.2 x).bind fun q => match q.m with
    | .lst ms => if ms.length < sizeLine then some (.d .none, q.w (.lst (ms ++ [r.1]))) else none
    | _ => none
  | _ => none
theorem co_append : CoM K rAppend mAppend := by
  intro g0 H0 g H σ sl x vs tx ts S T tv sl' Q n st rx fx rs fs ap h k
  unfold mAppend at h
  split at h
  · rename_i y
    obtain ⟨⟨m, s1⟩, e1, h⟩ := Option.bind_eq_some_iff.mp h
    obtain ⟨q, e2, h⟩ := Option.bind_eq_some_iff.mp h
    obtain ⟨u, rfl, ry⟩ := rs.one
    obtain ⟨g1, U, n1, st1, q1, sub, kp, ex⟩ := toM_ok n fs st ry e1
    have rx1 := kp _ _ _ rx fun a z z2 => ap a z2 z
    dsimp only at h
    split at h
    · rename_i ms em
      split at h
      · rename_i hl
        cases h
        obtain ⟨g2, Z, n2, st2, eF, rp, nd, zt, fin⟩ := pl_root n1 fx st1 rx1 e2 (fun a z => fs a (sub a z)) (fun a z z2 => ap a z (sub a z2)) q1.2.2 (fun a z => q1.1.keep a z)
        rw [em] at rp
        cases rp with
        | @lst a ws _ Z ha hr =>
          have nda := List.nodup_cons.mp nd
          obtain ⟨n3, st3⟩ := fin a Z (.lst (ws ++ [u])) (.lst (ms ++ [m])) (Z ++ U) rfl (keep_lst rfl) (List.nodup_append.mpr ⟨nda.2, q1.2.1, fun b z c z2 e => zt b (List.mem_cons_of_mem _ z) (e ▸ z2)⟩) (fun b z => List.mem_append.mp z) fun H' h1 h2 => by
            have r2 := Reps.app (hr.mono (fun _ _ z => z) fun b z => h2 b (List.mem_append_left _ z)) (.cons (q1.1.mono (fun _ _ z => z) fun b z => h2 b (List.mem_append_right _ z)) .nil)
            rw [List.append_nil] at r2
            exact .lst h1 r2
          exact ⟨a, ws, u, rfl, rfl, ha, by rw [hr.length]; exact hl, Kg.scal k n3 st3 .non⟩
      · cases h
    · cases h
  · cases h
/-- an owned list whose items are data: it, and how it is changed -/
def plL (sl : SL) (x : TV) : Option (Pl × List D) := (pl sl x).bind fun q => match q.m with
  | .lst ms => (lvs ms).map fun ds => (q, ds)
  | _ => none
theorem mut_leaf {g0 g : G} {H0 H : Hp} {σ : L2.St} {sl : SL} {v : V} {x : TV} {S : List Addr} {q : Pl} {ds : List D} (n : Nx g0 H0 g H) (f : Fresh g0 H0 S) (st : Sta K g H σ sl) (rx : RTV K g H σ v x S) (h : plL sl x = some (q, ds)) :
    ∃ a vs, v = .ref a ∧ H a = some (.lst vs) ∧ RDs K g.F vs ds ∧ ∀ ws es, RDs K g.F ws es → ∃ g2, Nx g0 H0 g2 (upd H a (.lst ws)) ∧ Sta K g2 (upd H a (.lst ws)) σ (q.w (.lst (es.map MV.d))) ∧ g2.F = g.F := by
  obtain ⟨q', e1, h⟩ := Option.bind_eq_some_iff.mp h
  split at h
  · rename_i ms em
    obtain ⟨ds', e2, e3⟩ := Option.map_eq_some_iff.mp h
    cases e3
    obtain ⟨g2, Z, n2, st2, eF, rp, nd, zt, fin⟩ := pl_root (T := []) n f st rx e1 (Fresh.nil _ _) (fun _ _ h => nomatch h) (fun _ h => nomatch h) (fun _ h => nomatch h)
    rw [em, lvs_eq e2] at rp
    cases rp with
    | @lst a ws _ Z ha hr =>
      obtain ⟨rfl, rd⟩ := hr.leaves
      refine ⟨a, ws, rfl, ha, rd, fun ws' es q => ?_⟩
      obtain ⟨n3, st3⟩ := fin a [] (.lst ws') (.lst (es.map MV.d)) [] rfl (keep_lst rfl) List.nodup_nil (fun _ h => nomatch h) fun H' h1 h2 => .lst h1 (RDs.reps q)
      exact ⟨_, n3, st3, eF⟩
  · cases h
/-! xs.pop(), xs.pop(i), xs.extend(ys) -/
def mPop : OM := fun sl x ts => match ts with
  | [] => (plL sl x).bind fun q => (q.2[q.2.length - 1]?).map fun y => (.d y, q.1.w (.lst (q.2.dropLast.map MV.d)))
  | _ => none
theorem RDs.dropLast {F : Hp} {vs : List V} {ds : List D} (r : RDs K F vs ds) : RDs K F vs.dropLast ds.dropLast := by
  rw [List.dropLast_eq_take, List.dropLast_eq_take, r.length]
  exact r.take _
theorem co_pop : CoM K rPop mPop := by
  intro g0 H0 g H σ sl x vs tx ts S T tv sl' Q n st rx fx rs fs ap h k
  unfold mPop at h
  split at h
  · obtain ⟨⟨q, ds⟩, e1, h⟩ := Option.bind_eq_some_iff.mp h
    obtain ⟨y, e2, e3⟩ := Option.map_eq_some_iff.mp h
    cases e3
    cases rs
    obtain ⟨a, ws, rfl, ha, rd, fin⟩ := mut_leaf n fx st rx e1
    obtain ⟨u, hu, ru⟩ := rd.get e2
    obtain ⟨g2, n2, st2, eF⟩ := fin _ _ rd.dropLast
    exact ⟨a, ws, u, rfl, rfl, ha, by rw [rd.length]; exact hu, Kg.scal k n2 st2 (by rw [eF]; exact ru)⟩
  · cases h
def mPopAt : OM := fun sl x ts => match ts with
  | [.d (.int j)] => (plL sl x).bind fun q => if -(2 ^ 63) ≤ j ∧ j < 2 ^ 63 then (seqIndex? j q.2.length).bind fun k => (q.2[k]?).map fun y => (.d y, q.1.w (.lst ((q.2.eraseIdx k).map MV.d))) else none
  | _ => none
theorem RDs.erase {F : Hp} : ∀ {vs : List V} {ds : List D} (n : Nat), RDs K F vs ds → RDs K F (vs.eraseIdx n) (ds.eraseIdx n)
  | _, _, _, .nil => .nil
  | _, _, 0, .cons _ r => r
  | _, _, n + 1, .cons h r => .cons h (RDs.erase n r)
theorem co_popAt : CoM K rPopAt mPopAt := by
  intro g0 H0 g H σ sl x vs tx ts S T tv sl' Q n st rx fx rs fs ap h k
  unfold mPopAt at h
  split at h
  · rename_i j
    obtain ⟨⟨q, ds⟩, e1, h⟩ := Option.bind_eq_some_iff.mp h
    dsimp only at h
    split at h
    · rename_i hj
      obtain ⟨p, e2, h⟩ := Option.bind_eq_some_iff.mp h
      obtain ⟨y, e3, e4⟩ := Option.map_eq_some_iff.mp h
      cases e4
      obtain ⟨u, rfl, _, ry⟩ := rs.one
      cases ry
      obtain ⟨a, ws, rfl, ha, rd, fin⟩ := mut_leaf n fx st rx e1
      obtain ⟨u, hu, ru⟩ := rd.get e3
      obtain ⟨g2, n2, st2, eF⟩ := fin _ _ (rd.erase p)
      exact ⟨a, ws, j, p, u, rfl, rfl, ha, hj.1, hj.2, by rw [rd.length]; exact e2, hu, Kg.scal k n2 st2 (by rw [eF]; exact ru)⟩
    · cases h
  · cases h
def mExtend : OM := fun sl x ts => match ts with
  | [y] => (lsD sl y).bind fun r => (plL r.2 x).bind fun q => if q.2.length + r.1.length ≤ sizeLine then some (.d .none, q.1.w (.lst ((q.2 ++ r.1).map MV.d))) else none
  | _ => none
theorem co_extend : CoM K rExtend mExtend := by
  intro g0 H0 g H σ sl x vs tx ts S T tv sl' Q n st rx fx rs fs ap h k
  unfold mExtend at h
  split at h
  · rename_i y
    obtain ⟨⟨es, s1⟩, e1, h⟩ := Option.bind_eq_some_iff.mp h
    obtain ⟨⟨q, ds⟩, e2, h⟩ := Option.bind_eq_some_iff.mp h
    dsimp only at h
    split at h
    · rename_i hl
      cases h
      obtain ⟨u, rfl, ry⟩ := rs.one
      obtain ⟨g1, b, zs, n1, st1, rfl, hb, rb, kp, _⟩ := lsD_ok n fs st ry e1
      obtain ⟨a, ws, rfl, ha, rd, fin⟩ := mut_leaf n1 fx st1 (kp _ _ _ rx fun a z z2 => ap a z2 z) e2
      obtain ⟨g2, n2, st2, eF⟩ := fin _ _ (rd.app rb)
      exact ⟨a, b, ws, zs, rfl, rfl, ha, hb, by rw [rd.length, rb.length]; exact hl, Kg.scal k n2 st2 .non⟩
    · cases h
  · cases h
/-! xs.index(y) -/
def mIndex : OM := fun sl x ts => match ts with
  | [y] => (asD sl y).bind fun d => match asD sl x with
    | some (.list ds) => if SeqAt.shaped (.list ds) = true ∧ SeqAt.shaped d = true then (ds.findIdx? fun z => PyData.eqv z d).map fun j => (.d (.int (j : Nat)), sl) else none
    | _ => none
  | _ => none
theorem co_index : CoM K (rIndexD K) mIndex := by
  intro g0 H0 g H σ sl x vs tx ts S T tv sl' Q n st rx fx rs fs ap h k
  unfold mIndex at h
  split at h
  · obtain ⟨d, e1, h⟩ := Option.bind_eq_some_iff.mp h
    split at h
    · rename_i ds e2
      split at h
      · rename_i hs
        obtain ⟨j, e3, e4⟩ := Option.map_eq_some_iff.mp h
        cases e4
        obtain ⟨u, rfl, ry⟩ := rs.one
        have dx := asD_ok st rx e2
        obtain ⟨a, rfl⟩ : ∃ a, x = V.ref a := by cases dx with
          | lst h1 h2 => exact ⟨_, rfl⟩
        obtain ⟨hj, h1, h2⟩ := List.findIdx?_eq_some_iff_getElem.mp e3
        refine ⟨a, u, d, ds, j, ds[j], rfl, rfl, dx, asD_ok st ry e1, hs.1, hs.2, List.getElem?_eq_getElem hj, h1, fun m z' hm hz => ?_, Kg.scal k n st (.int _)⟩
        obtain ⟨hm', rfl⟩ := List.getElem?_eq_some_iff.mp hz
        exact Bool.eq_false_iff.mpr (h2 m hm)
      · cases h
    · cases h
  · cases h
/-! texts -/
def strsD : List D → Option (List Str)
  | [] => some []
  | .str x :: r => (strsD r).map (x :: ·)
  | _ :: _ => none
@[simp] theorem strsD_map : ∀ ns : List Str, strsD (ns.map PyData.str) = some ns
  | [] => rfl
  | i :: r => by
    show (strsD (r.map PyData.str)).map (i :: ·) = some (i :: r)
    rw [strsD_map r]; rfl
theorem strsD_eq : ∀ {ds : List D} {ns : List Str}, strsD ds = some ns → ds = ns.map PyData.str
  | [], _, h => by cases h; rfl
  | .str i :: r, ns, h => by
    obtain ⟨ms, e1, rfl⟩ := Option.map_eq_some_iff.mp (show (strsD r).map (i :: ·) = some ns from h)
    rw [List.map_cons, ← strsD_eq e1]
  | .none :: _, _, h => by cases h
  | .bool _ :: _, _, h => by cases h
  | .int _ :: _, _, h => by cases h
  | .list _ :: _, _, h => by cases h
  | .tuple _ :: _, _, h => by cases h
  | .dict _ :: _, _, h => by cases h
theorem strs_rd {F : Hp} : ∀ ys : List Str, RDs K F (ys.map V.str) (ys.map PyData.str)
  | [] => .nil
  | y :: r => .cons (.str y) (strs_rd r)
theorem rd_strs {F : Hp} : ∀ {ys : List Str} {vs : List V}, RDs K F vs (ys.map PyData.str) → vs = ys.map V.str
  | [], _, .nil => rfl
  | y :: r, _, .cons h t => by cases h; rw [rd_strs t]; rfl
def mSplit : OM := fun sl x ts => match x, ts with
  | .d (.str a), [.d (.str b)] => if (b.length == 0) = false ∧ a.length + 2 ≤ sizeLine then some (.t (.lst ((Txt.split a b).map fun z => MV.d (.str z))), sl) else none
  | _, _ => none
theorem co_split : CoM K (fun x xs H Q => ∃ a b, x = .str a ∧ xs = [.str b] ∧ (b.length == 0) = false ∧ a.length + 2 ≤ sizeLine ∧ rNewStrs (Txt.split a b) H Q) mSplit := by
  intro g0 H0 g H σ sl x vs tx ts S T tv sl' Q n st rx fx rs fs ap h k
  unfold mSplit at h
  split at h
  · split at h
    · rename_i a b hc
      cases h
      obtain ⟨u, rfl, _, ry⟩ := rs.one
      obtain ⟨_, rx⟩ := rx
      cases rx; cases ry
      refine ⟨a, b, rfl, rfl, hc.1, hc.2, fun q hq => ?_⟩
      have k' : Kg K (RV K σ) σ Q g0 H0 (.t (.lst (((Txt.split a b).map PyData.str).map MV.d))) sl := by rw [List.map_map]; exact k
      exact Kg.newL k' n st (strs_rd _) hq
    · cases h
  · cases h
def mJoin : OM := fun sl x ts => match x, ts with
  | .d (.str a), [y] => ((itemsD sl y).bind strsD).bind fun ys => if (ys.map (·.length)).sum + ys.length * a.length ≤ 16777216 then some (.d (.str (Txt.join a ys)), sl) else none
  | _, _ => none
theorem co_join : CoM K (fun x xs H Q => ∃ a p, ∃ ys : List Str, x = .str a ∧ xs = [.ref p] ∧ (SqL K H p (ys.map V.str) ∨ SqT K H p (ys.map V.str)) ∧ (ys.map (·.length)).sum + ys.length * a.length ≤ 16777216 ∧ Q (.str (Txt.join a ys)) H) mJoin := by
  intro g0 H0 g H σ sl x vs tx ts S T tv sl' Q n st rx fx rs fs ap h k
  unfold mJoin at h
  split at h
  · obtain ⟨ys, e1, h⟩ := Option.bind_eq_some_iff.mp h
    obtain ⟨ds, e2, e3⟩ := Option.bind_eq_some_iff.mp e1
    split at h
    · rename_i a y hc
      cases h
      obtain ⟨u, rfl, ry⟩ := rs.one
      obtain ⟨_, rx⟩ := rx
      cases rx
      obtain ⟨b, ws, rfl, h3, h4⟩ := itemsD_ok st ry e2
      rw [strsD_eq e3] at h4
      have e := rd_strs h4
      subst e
      exact ⟨_, b, ys, rfl, rfl, h3, hc, Kg.scal k n st (.str _)⟩
    · cases h
  · cases h
end
end Y

/-! Layer Y, part H: targets, statements, defs, calls. -/
namespace Y
open PySem PySem.Spec PyProof.Rows L2 Evl
/-! ### statements -/
def SK (K : PySem.W.Frag) (W : WX) (D : Ends) (g0 : G) (H0 : Hp) : SR → Prop
  | .nx s => ∀ g H σ, Nx g0 H0 g H → Sta K g H σ s → D.nx σ H
  | .bk s => ∀ g H σ, Nx g0 H0 g H → Sta K g H σ s → D.bk σ H
  | .ct s => ∀ g H σ, Nx g0 H0 g H → Sta K g H σ s → D.ct σ H
  | .rt t s => ∀ g H σ v S, Nx g0 H0 g H → Sta K g H σ s → RTV K g H σ v t S → Fresh g0 H0 S → D.rt v H
  | .ex xa s => ∀ g H σ cls d, Nx g0 H0 g H → Sta K g H σ s → RX K g cls d H xa → W cls d σ H
def sL (K : PySem.W.Frag) (W : WX) (A : AS) : TS := fun D σ H => ∃ g sl r, Sta K g H σ sl ∧ A sl = some r ∧ SK K W D g H r
def sb {α : Type} (x : Option (Res α)) (f : α → SL → Option SR) : Option SR := match x with
  | some (.ok a s) => f a s
  | some (.ex xa s) => some (.ex xa s)
  | none => none
@[simp] theorem sb_ok {α : Type} {a : α} {s : SL} {f : α → SL → Option SR} : sb (some (.ok a s)) f = f a s := rfl
@[simp] theorem sb_ex {α : Type} {a : XA} {s : SL} {f : α → SL → Option SR} : sb (some (.ex a s)) f = some (.ex a s) := rfl
@[simp] theorem sb_none {α : Type} {f : α → SL → Option SR} : sb none f = none := rfl
section
variable {K : PySem.W.Frag} {W : WX} {g g0 g1 g' : G} {H H0 H1 H' : Hp} {σ : L2.St} {sl sl' : SL}
theorem SK.mono {D : Ends} {r : SR} (n : Nx g H g1 H1) (k : SK K W D g H r) : SK K W D g1 H1 r := by
  cases r with
  | nx s => exact fun g2 H2 σ m st => k g2 H2 σ (n.trans m) st
  | bk s => exact fun g2 H2 σ m st => k g2 H2 σ (n.trans m) st
  | ct s => exact fun g2 H2 σ m st => k g2 H2 σ (n.trans m) st
  | rt t s => exact fun g2 H2 σ v S m st r f => k g2 H2 σ v S (n.trans m) st r (f.back n)
  | ex xa s => exact fun g2 H2 σ cls d m st r => k g2 H2 σ cls d (n.trans m) st r
theorem SK.x {D : Ends} {r : SR} (k : SK K W D g H r) (σ : L2.St) : ∀ xa s, r = .ex xa s → Kx K W g H σ xa s := fun xa s e => by subst e; exact fun g2 H2 cls d => k g2 H2 σ cls d
theorem run1S {ω α : Type} {R : L2.St → G → Hp → ω → α → List Addr → Prop} {A : SL → Option (Res α)} {f : α → SL → Option SR} {r : SR} {Q : ω → Hp → Prop} (st : Sta K g H σ sl) (h : sb (A sl) f = some r) (hx : ∀ xa s, r = .ex xa s → Kx K W g H σ xa s)
    (hk : ∀ a s1 g1 H1 v S, f a s1 = some r → Nx g H g1 H1 → Sta K g1 H1 σ s1 → R σ g1 H1 v a S → Fresh g H S → Q v H1) : lft K R W A σ H Q := by
  unfold sb at h
  split at h
  · rename_i a s e
    exact ⟨g, sl, _, st, e, fun g1 H1 v S n st1 r f => hk a s g1 H1 v S h n st1 r f⟩
  · rename_i xa s e
    cases h
    exact ⟨g, sl, _, st, e, hx xa s rfl⟩
  · cases h
end
def aNext : AS := fun s => some (.nx s)
def aSeq (A B : AS) : AS := fun s => match A s with
  | some (.nx s1) => B s1
  | r => r
def aDrop (A : AE) : AS := fun s => sb (A s) fun _ s1 => some (.nx s1)
def aIfS (C : AT) (S T : AS) : AS := fun s => sb (C s) fun b s1 => if b = true then S s1 else T s1
def aBrk : AS := fun s => some (.bk s)
def aCont : AS := fun s => some (.ct s)
def aNever : AS := fun _ => none
/-- what is returned -/
def rtv (sl : SL) (t : TV) : Option (TV × SL) := match t with
  | .var i => match sl[i]? with
    | some (some (.w m)) => some (.t m, sl.set i none)
    | _ => (fz sl (.var i)).map fun r => (.d r.1, r.2)
  | .x _ => none
  | .c _ => none
  | .sub p i j m => (fz sl (.sub p i j m)).map fun r => (.d r.1, r.2)
  | t => some (t, sl)
def aRet (A : AE) : AS := fun s => sb (A s) fun t s1 => (rtv s1 t).map fun r => .rt r.1 r.2
def aRetN : AS := fun s => some (.rt (.d .none) s)
/-- a slot's tree is taken out -/
theorem Sta.takeA {K : PySem.W.Frag} {g0 g : G} {H0 H : Hp} {σ : L2.St} {sl : SL} {i : Nat} {m : MV} {v : V} {S : List Addr} (n : Nx g0 H0 g H) (st : Sta K g H σ sl) (h2 : Rep K g.F H v m S) (h3 : S.Nodup) (h4 : ∀ a ∈ S, g.lab a = some i) :
    ∃ g', Nx g0 H0 g' H ∧ Sta K g' H σ (sl.set i none) ∧ RTV K g' H σ v (.t m) S ∧ Fresh g0 H0 S ∧ g'.F = g.F ∧ g'.ro = g.ro ∧ (∀ a, g.lab a = none → g'.lab a = none) ∧ ∀ a, a ∉ S → g'.lab a = g.lab a := by
  have st0 : Sta K g H σ (sl.set i none) := st.forget
  refine ⟨{ g with lab := fun a => if a ∈ S then none else g.lab a }, ⟨n.ex, n.pi, n.ro, fun a f => ?_⟩, ⟨st0.ex, fun a z => ?_, fun a z => ?_, fun a z => ?_, st0.len, st0.d, fun j y q => ?_, fun j y q => ?_, fun j y q => st0.k j y q, st0.h, st0.x⟩, ⟨h2, h3, fun a z => ⟨?_, ?_, ?_⟩⟩, fun a z => st.notframed n (h4 a z), rfl, rfl, fun a z => ?_, fun a z => if_neg z⟩
  · obtain ⟨k1, k2, k3⟩ := n.out a f
    refine ⟨k1, k2, ?_⟩
    show (if a ∈ S then none else g.lab a) = none
    split
    · rfl
    · exact k3
  · have z' : (if a ∈ S then none else g.lab a) ≠ none := z
    split at z'
    · exact absurd rfl z'
    · exact st.lf a z'
  · have z' : (if a ∈ S then none else g.lab a) ≠ none := z
    split at z'
    · exact absurd rfl z'
    · exact st.la a z'
  · obtain ⟨k1, k2, k3⟩ := st.ro a z
    refine ⟨k1, k2, ?_⟩
    show (if a ∈ S then none else g.lab a) = none
    split
    · rfl
    · exact k3
  · rcases getset q with ⟨_, q⟩ | ⟨ne, q⟩
    · cases q
    · obtain ⟨w, U, k1, k2, k3, k4⟩ := st.w j y q
      refine ⟨w, U, k1, k2, k3, fun a z => ?_⟩
      show (if a ∈ S then none else g.lab a) = some j
      rw [if_neg fun z2 => ne (by have := h4 a z2; rw [k4 a z] at this; exact (Option.some.inj this).symm)]
      exact k4 a z
  · rcases getset q with ⟨_, q⟩ | ⟨ne, q⟩
    · cases q
    · obtain ⟨w, U, k1, k2, k3, k4⟩ := st.p j y q
      refine ⟨w, U, k1, k2, k3, fun a z => ?_⟩
      show (if a ∈ S then none else g.lab a) = some j
      rw [if_neg fun z2 => ne (by have := h4 a z2; rw [k4 a z] at this; exact (Option.some.inj this).symm)]
      exact k4 a z
  · exact st.lf a (by rw [h4 a z]; exact fun z => nomatch z)
  · exact if_pos z
  · intro q
    have := (st.ro a q).2.2
    rw [h4 a z] at this
    cases this
  · show (if a ∈ S then none else g.lab a) = none
    split
    · rfl
    · exact z
theorem Sta.take {K : PySem.W.Frag} {g0 g : G} {H0 H : Hp} {σ : L2.St} {sl : SL} {i : Nat} {m : MV} {v : V} (n : Nx g0 H0 g H) (st : Sta K g H σ sl) (h : sl[i]? = some (some (.w m))) (hv : σ[i]? = some (some v)) :
    ∃ g' S, Nx g0 H0 g' H ∧ Sta K g' H σ (sl.set i none) ∧ RTV K g' H σ v (.t m) S ∧ Fresh g0 H0 S ∧ g'.F = g.F ∧ g'.ro = g.ro ∧ (∀ a, g.lab a = none → g'.lab a = none) ∧ ∀ a ∈ S, g.lab a = some i := by
  obtain ⟨u, S, h1, h2, h3, h4⟩ := st.w i m h
  rw [hv] at h1; cases h1
  obtain ⟨g', a1, a2, a3, a4, a5, a6, a7, _⟩ := st.takeA n h2 h3 h4
  exact ⟨g', S, a1, a2, a3, a4, a5, a6, a7, h4⟩
theorem rtv_ok {K : PySem.W.Frag} {g0 g : G} {H0 H : Hp} {σ : L2.St} {sl sl' : SL} {v : V} {t t' : TV} {S : List Addr} (n : Nx g0 H0 g H) (f : Fresh g0 H0 S) (st : Sta K g H σ sl) (r : RTV K g H σ v t S) (h : rtv sl t = some (t', sl')) :
    ∃ g' S', Nx g0 H0 g' H ∧ Sta K g' H σ sl' ∧ RTV K g' H σ v t' S' ∧ Fresh g0 H0 S' := by
  cases t with
  | d x => cases h; exact ⟨g, S, n, st, r, f⟩
  | t m => cases h; exact ⟨g, S, n, st, r, f⟩
  | x ds => cases h
  | c ds => cases h
  | sub p i j m =>
    obtain ⟨⟨x, s1⟩, h1, h2⟩ := Option.map_eq_some_iff.mp (show (fz sl (.sub p i j m)).map (fun r => (TV.d r.1, r.2)) = some (t', sl') from h)
    cases h2
    obtain ⟨g', n', st', q⟩ := fz_ok n f st r h1
    exact ⟨g', [], n', st', ⟨rfl, q⟩, Fresh.nil _ _⟩
  | var i =>
    unfold rtv at h
    dsimp only at h
    split at h
    · rename_i m e
      cases h
      obtain ⟨g', S', n', st', r', f', _⟩ := st.take n e r.2
      exact ⟨g', S', n', st', r', f'⟩
    · obtain ⟨⟨x, s1⟩, h1, h2⟩ := Option.map_eq_some_iff.mp h
      cases h2
      obtain ⟨g', n', st', q⟩ := fz_ok n f st r h1
      exact ⟨g', [], n', st', ⟨rfl, q⟩, Fresh.nil _ _⟩
/-! ### a child of a tree as a slot of its own, for one step -/
/-- what a def hands back is a value of its own -/
def OwnT : TV → Prop
  | .d _ => True
  | .t _ => True
  | _ => False
def closeS (N : Nat) (p : Bool) (i j : Nat) (m : MV) (s : SL) : Option SL := match s[N]? with
  | some (some (.w c)) => some (bk (s.take N) p i (setKid m j c))
  | _ => none
section
variable {K : PySem.W.Frag} {g g0 : G} {H H0 : Hp} {σ τ : L2.St} {sl : SL} {v u vc : V} {t : TV} {S Z T U : List Addr}
theorem RTV.ext (r : RTV K g H σ v t S) : RTV K g H (σ ++ τ) v t S := by
  have up : ∀ {i : Nat} {x : Option V}, σ[i]? = some x → (σ ++ τ)[i]? = some x := fun {i x} h => by
    rw [List.getElem?_append_left (List.getElem?_eq_some_iff.mp h).1]; exact h
  cases t with
  | d x => exact r
  | t m => exact r
  | x ds => exact r
  | c ds => exact r
  | var i => exact ⟨r.1, up r.2⟩
  | sub p i j m => obtain ⟨v0, ⟨e, e'⟩, r⟩ := r; exact ⟨v0, ⟨up e, e'⟩, r⟩
theorem RTV.own {σ' : L2.St} (o : OwnT t) (r : RTV K g H σ v t S) : RTV K g H σ' v t S := by
  cases t with
  | d x => exact r
  | t m => exact r
  | x ds => exact o.elim
  | c ds => exact o.elim
  | var i => exact o.elim
  | sub p i j m => exact o.elim
theorem Sta.dropN (st : Sta K g H (σ ++ τ) sl) : Sta K g H σ (sl.take σ.length) := by
  have dn : ∀ {i : Nat} {y : SV}, (sl.take σ.length)[i]? = some (some y) → sl[i]? = some (some y) ∧ (σ ++ τ)[i]? = σ[i]? := fun {i y} h => by
    rw [List.getElem?_take] at h
    split at h
    · rename_i hi
      exact ⟨h, List.getElem?_append_left hi⟩
    · cases h
  have hl := st.len
  rw [List.length_append] at hl
  refine ⟨st.ex, st.lf, st.la, st.ro, by rw [List.length_take]; omega, fun i y q => ?_, fun i y q => ?_, fun i y q => ?_, fun i y q => ?_, fun i q => ?_, fun i y q => ?_⟩
  all_goals
    obtain ⟨h1, h2⟩ := dn q
    rw [← h2]
  · exact st.d i y h1
  · exact st.w i y h1
  · exact st.p i y h1
  · exact st.k i y h1
  · exact st.h i h1
  · exact st.x i y h1
theorem Sta.ext1 (st : Sta K g H σ sl) (n : Nx g0 H0 g H) (f : Fresh g0 H0 T) {c : MV} (r : RTV K g H σ vc (.t c) T) : Nx g0 H0 (labG g T σ.length) H ∧ Sta K (labG g T σ.length) H (σ ++ [some vc]) (sl ++ [some (.w c)]) := by
  have st0 : Sta K g H (σ ++ [none]) (sl ++ [none]) := by
    have lt : ∀ {i : Nat} {y : SV}, (sl ++ [none])[i]? = some (some y) → sl[i]? = some (some y) ∧ (σ ++ [none])[i]? = σ[i]? := fun {i y} h => by
      by_cases hi : i < sl.length
      · rw [List.getElem?_append_left hi] at h
        exact ⟨h, List.getElem?_append_left (by rw [st.len]; exact hi)⟩
      · rw [List.getElem?_append_right (by omega)] at h
        cases e : i - sl.length with
        | zero => rw [e] at h; cases h
        | succ k => rw [e] at h; cases h
    refine ⟨st.ex, st.lf, st.la, st.ro, by simp [st.len], fun i y q => ?_, fun i y q => ?_, fun i y q => ?_, fun i y q => ?_, fun i q => ?_, fun i y q => ?_⟩
    all_goals
      obtain ⟨h1, h2⟩ := lt q
      rw [h2]
    · exact st.d i y h1
    · exact st.w i y h1
    · exact st.p i y h1
    · exact st.k i y h1
    · exact st.h i h1
    · exact st.x i y h1
  have := st0.setW n f r.ext (i := σ.length)
  rw [List.set_append_right _ _ (Nat.le_refl _), Nat.sub_self, st.len, List.set_append_right _ _ (Nat.le_refl _), Nat.sub_self] at this
  rw [st.len]
  exact this
/-- open a child, and what that asks at the end -/
theorem sub_open {p : Bool} {i j : Nat} {m c : MV} (n : Nx g0 H0 g H) (fZ : Fresh g0 H0 Z) (fU : Fresh g0 H0 U) (ap : ∀ a ∈ Z, a ∉ U) (st : Sta K g H σ sl) (r : RTV K g H σ vc (.sub p i j m) Z) (hc : kid m j = some c) :
    ∃ g1 gb T, Nx gb H g1 H ∧ Sta K g1 H (σ ++ [some vc]) (sl ++ [some (.w c)]) ∧ Fresh gb H U ∧ (∀ a ∈ T, a ∈ Z) ∧ g1 = labG g T σ.length ∧ (∀ a, Framed g0 H0 a → Framed gb H a) ∧
      ∀ g2 H2 s3 s4, Nx gb H g2 H2 → Sta K g2 H2 (σ ++ [some vc]) s3 → closeS sl.length p i j m s3 = some s4 → ∃ g3, Nx g0 H0 g3 H2 ∧ Sta K g3 H2 σ s4 ∧ (∀ u t X, OwnT t → RTV K g2 H2 (σ ++ [some vc]) u t X → Fresh gb H X → RTV K g3 H2 σ u t X ∧ Fresh g0 H0 X) ∧ Ex g2.F g3.F := by
  obtain ⟨v0, ⟨hv, hp⟩, rr, kv, _⟩ := r
  obtain ⟨v1, P, T, B, k1, k2, k3, k4⟩ := rr.1.kid hc
  obtain rfl := k1.inj kv
  subst k3
  have nd := List.nodup_append.mp rr.2.1
  have nd2 := List.nodup_append.mp nd.2.1
  have inT : ∀ a ∈ T, a ∈ P ++ (T ++ B) := fun a z => List.mem_append_right _ (List.mem_append_left _ z)
  have inPB : ∀ a, a ∈ P ∨ a ∈ B → a ∈ P ++ (T ++ B) := fun a z => z.elim (fun z => List.mem_append_left _ z) fun z => List.mem_append_right _ (List.mem_append_right _ z)
  have nPB : ∀ a, a ∈ P ∨ a ∈ B → a ∉ T := fun a z z2 => by
    rcases z with z | z
    · exact nd.2.2 a z a (List.mem_append_left _ z2) rfl
    · exact nd2.2.2 a z2 a z rfl
  obtain ⟨n1, st1⟩ := st.ext1 n (fun a z => fZ a (inT a z)) (vc := v1) (c := c) ⟨k2, nd2.1, fun a z => rr.2.2 a (inT a z)⟩
  -- the base: all that others hold is not framed there
  have gbx : Nx (labG (labG g T σ.length) U 0) H (labG g T σ.length) H := ⟨fun _ _ z => z, rfl, rfl, fun a f => by
    refine ⟨rfl, f.2.1, ?_⟩
    by_cases z : a ∈ U
    · have := f.2.2; rw [labG_in z] at this; cases this
    · have := f.2.2; rw [labG_ne z] at this; exact this⟩
  have frd : ∀ a, Framed g0 H0 a → Framed (labG (labG g T σ.length) U 0) H a := fun a f => by
    have f1 := n1.fr f
    exact ⟨f1.1, f1.2.1, by rw [labG_ne fun z => fU a z f]; exact f1.2.2⟩
  have frPB : ∀ a, a ∈ P ∨ a ∈ B → Framed (labG (labG g T σ.length) U 0) H a := fun a z =>
    ⟨rr.1.keep a (inPB a z), (rr.2.2 a (inPB a z)).1, by rw [labG_ne (ap a (inPB a z)), labG_ne (nPB a z)]; exact (rr.2.2 a (inPB a z)).2.1⟩
  refine ⟨_, _, T, gbx, st1, (fun a z f => by have := f.2.2; rw [labG_in z] at this; cases this), inT, rfl, frd, fun g2 H2 s3 s4 n2 st2 hcl => ?_⟩
  unfold closeS at hcl
  split at hcl
  · rename_i c' ec
    cases hcl
    have hvc : (σ ++ [some v1])[sl.length]? = some (some v1) := by rw [← st.len]; simp
    obtain ⟨g3, T', n3, st3, r3, f3, eF, er, el, lT⟩ := st2.take n2 ec hvc
    have st4 : Sta K g3 H2 σ (s3.take sl.length) := by
      have := st3.dropN
      rw [st.len, List.take_set_of_le (Nat.le_refl _)] at this
      exact this
    have outPB : ∀ a, a ∈ P ∨ a ∈ B → H2 a = H a ∧ g3.F a = none ∧ g3.lab a = none := fun a z => n3.out a (frPB a z)
    have exF : Ex g.F g3.F := n3.ex
    obtain ⟨r0, _⟩ := k4 g3.F H2 c' T' exF (fun b z => (outPB b z).1) r3.1
    have dT : ∀ a ∈ T', ¬ (a ∈ P ∨ a ∈ B) := fun a z z2 => f3 a z (frPB a z2)
    have roe : ∀ a, g3.RO a → g.RO a := fun a z => by
      have : g3.ro = g.ro := n3.ro
      unfold G.RO at z ⊢
      rw [this] at z; exact z
    have f0 : ∀ {X : List Addr}, Fresh (labG (labG g T σ.length) U 0) H X → Fresh g0 H0 X := fun f a z q => f a z (frd a q)
    have mem3 : ∀ a ∈ P ++ (T' ++ B), (a ∈ P ∨ a ∈ B) ∨ a ∈ T' := fun a z => by
      rcases List.mem_append.mp z with z | z
      · exact .inl (.inl z)
      · rcases List.mem_append.mp z with z | z
        · exact .inr z
        · exact .inl (.inr z)
    have rt : RTV K g3 H2 σ v0 (.t (setKid m j c')) (P ++ (T' ++ B)) := by
      refine ⟨r0, List.nodup_append.mpr ⟨nd.1, List.nodup_append.mpr ⟨r3.2.1, nd2.2.1, fun a za b zb e => dT a za (.inr (e ▸ zb))⟩, fun a za b zb e => ?_⟩, fun a z => ?_⟩
      · subst e
        rcases List.mem_append.mp zb with zb | zb
        · exact dT a zb (.inl za)
        · exact nd.2.2 a za a (List.mem_append_right _ zb) rfl
      · rcases mem3 a z with z | z
        · exact ⟨(outPB a z).2.1, (outPB a z).2.2, fun q => (rr.2.2 a (inPB a z)).2.2 (roe a q)⟩
        · exact r3.2.2 a z
    have n30 : Nx g0 H0 g3 H2 := ⟨fun a o z => n3.ex a o (n1.ex a o z), n3.pi.trans n1.pi, n3.ro.trans n1.ro, fun a f => by
      obtain ⟨h1, h2, h3⟩ := n3.out a (frd a f)
      exact ⟨h1.trans (n1.out a f).1, h2, h3⟩⟩
    obtain ⟨n4, st5⟩ := st4.back n30 (fun a z => by
      rcases mem3 a z with z | z
      · exact fZ a (inPB a z)
      · exact f0 f3 a z) hv (fun z => by rw [n3.pi]; exact hp z) rt
    refine ⟨_, n4, st5, fun u t X o rX fX => ⟨?_, f0 fX⟩, fun a o z => by rw [show (labG g3 (P ++ (T' ++ B)) i).F = g3.F from rfl, eF]; exact z⟩
    have rX3 : RTV K g3 H2 σ u t X := by
      have rX' := rX.own (σ' := σ) o
      cases t with
      | d x => exact ⟨rX'.1, by rw [eF]; exact rX'.2⟩
      | t m => exact ⟨by rw [eF]; exact rX'.1, rX'.2.1, fun a z => ⟨by rw [eF]; exact (rX'.2.2 a z).1, el a (rX'.2.2 a z).2.1, fun q => (rX'.2.2 a z).2.2 (by unfold G.RO at q ⊢; rw [er] at q; exact q)⟩⟩
      | x ds => exact o.elim
      | c ds => exact o.elim
      | var i => exact o.elim
      | sub p i j m => exact o.elim
    refine RTV.lab rX3 fun a z z2 => ?_
    rcases mem3 a z with z | z
    · exact fX a z2 (frPB a z)
    · cases t with
      | d x => rw [rX.1] at z2; cases z2
      | t m => have := (rX.2.2 a z2).2.1; rw [lT a z] at this; cases this
      | x ds => exact o.elim
      | c ds => exact o.elim
      | var i => exact o.elim
      | sub p i j m => exact o.elim
  · cases hcl
end
/-! targets -/
abbrev AG := TV → SL → Option SL
abbrev AGs := List D → SL → Option SL
def GRel (K : PySem.W.Frag) (Ga : AG) (gt : TG) : Prop := ∀ g0 H0 g H σ sl sl' v t S Q, Nx g0 H0 g H → Sta K g H σ sl → RTV K g H σ v t S → Fresh g0 H0 S → Ga t sl = some sl' → (∀ g' H' σ', Nx g0 H0 g' H' → Sta K g' H' σ' sl' → Q σ' H') → gt v σ H Q
def GsRel (K : PySem.W.Frag) (Ga : AGs) (gt : TGs) : Prop := ∀ g0 H0 g H σ sl sl' vs ds Q, Nx g0 H0 g H → Sta K g H σ sl → RDs K g.F vs ds → Ga ds sl = some sl' → (∀ g' H' σ', Nx g0 H0 g' H' → Sta K g' H' σ' sl' → Q σ' H') → gt vs σ H Q
def aName (i : Nat) : AG := fun t s => match t with
  | .d x => some (s.set i (some (.d x)))
  | .t m => some (s.set i (some (.w m)))
  | .x ds => some (s.set i (some (.x ds)))
  | .var j => (fz s (.var j)).map fun r => r.2.set i (some (.d r.1))
  | .c _ => none
  | .sub p k j m => (fz s (.sub p k j m)).map fun r => r.2.set i (some (.d r.1))
/-- .. as data -/
def aNameF (i : Nat) : AG := fun t s => match t with
  | .x ds => some (s.set i (some (.x ds)))
  | t => (fz s t).map fun r => r.2.set i (some (.d r.1))
def aGNil : AGs := fun ds s => match ds with
  | [] => some s
  | _ => none
def aGCons (t : AG) (u : AGs) : AGs := fun ds s => match ds with
  | d :: r => (t (.d d) s).bind fun s1 => u r s1
  | [] => none
def aGTup (n : Nat) (ts : AGs) : AG := fun t s => match t with
  | .d (.tuple ds) => if ds.length = n then ts ds s else none
  | _ => none
section
variable {K : PySem.W.Frag}
theorem gr_nameF {i : Nat} : GRel K (aNameF i) (gName i) := by
  intro g0 H0 g H σ sl sl' v t S Q n st r f h k
  have base : (fz sl t).map (fun r => r.2.set i (some (SV.d r.1))) = some sl' → gName i v σ H Q := fun h => by
    obtain ⟨⟨x, s1⟩, h1, rfl⟩ := Option.map_eq_some_iff.mp h
    obtain ⟨g1, n1, st1, q⟩ := fz_ok n f st r h1
    exact k g1 H _ n1 (st1.setD q)
  cases t with
  | x ds =>
    cases h
    obtain ⟨_, a, vs, rfl, h2, h3⟩ := r
    exact k g H _ n (st.setX h2 h3)
  | d x => exact base h
  | t m => exact base h
  | var j => exact base h
  | c j => exact base h
  | sub p i j m => exact base h
theorem gr_name {i : Nat} : GRel K (aName i) (gName i) := by
  intro g0 H0 g H σ sl sl' v t S Q n st r f h k
  cases t with
  | x ds =>
    cases h
    obtain ⟨_, a, vs, rfl, h2, h3⟩ := r
    exact k g H _ n (st.setX h2 h3)
  | c ds => cases h
  | d x => cases h; exact k g H _ n (st.setD r.2)
  | t m =>
    cases h
    obtain ⟨n1, st1⟩ := st.setW n f r (i := i)
    exact k _ H _ n1 st1
  | var j =>
    obtain ⟨⟨x, s1⟩, h1, rfl⟩ := Option.map_eq_some_iff.mp (show (fz sl (.var j)).map (fun r => r.2.set i (some (SV.d r.1))) = some sl' from h)
    obtain ⟨g1, n1, st1, q⟩ := fz_ok n f st r h1
    exact k g1 H _ n1 (st1.setD q)
  | sub p j q m =>
    obtain ⟨⟨x, s1⟩, h1, rfl⟩ := Option.map_eq_some_iff.mp (show (fz sl (.sub p j q m)).map (fun r => r.2.set i (some (SV.d r.1))) = some sl' from h)
    obtain ⟨g1, n1, st1, q⟩ := fz_ok n f st r h1
    exact k g1 H _ n1 (st1.setD q)
theorem gr_nil : GsRel K aGNil gNil := by
  intro g0 H0 g H σ sl sl' vs ds Q n st r h k
  cases ds with
  | nil => cases h; cases r; exact ⟨rfl, k g H σ n st⟩
  | cons d r => cases h
theorem gr_cons {t : AG} {u : AGs} {tc : TG} {uc : TGs} (h1 : GRel K t tc) (h2 : GsRel K u uc) : GsRel K (aGCons t u) (gCons tc uc) := by
  intro g0 H0 g H σ sl sl' vs ds Q n st r h k
  cases ds with
  | nil => cases h
  | cons d ds =>
    obtain ⟨s1, e1, e2⟩ := Option.bind_eq_some_iff.mp h
    cases r with
    | cons r1 r2 =>
      refine ⟨_, _, rfl, h1 g H g H σ sl s1 _ (.d d) [] _ (Nx.refl _ _) st ⟨rfl, r1⟩ (Fresh.nil _ _) e1 fun g1 H1 σ1 n1 st1 => ?_⟩
      exact h2 g0 H0 g1 H1 σ1 s1 sl' _ ds Q (n.trans n1) st1 (r2.mono n1.ex) e2 k
theorem gr_tup {n : Nat} {ts : AGs} {tc : TGs} (h : GsRel K ts tc) : GRel K (aGTup n ts) (gTup K n tc) := by
  intro g0 H0 g H σ sl sl' v t S Q nn st r f e k
  unfold aGTup at e
  split at e
  · rename_i ds
    split at e
    · rename_i hl
      obtain ⟨_, r⟩ := r
      cases r with
      | tup h1 h2 => exact ⟨_, _, rfl, SqT.of (st.ex _ _ h1), by rw [h2.length]; exact hl, h g0 H0 g H σ sl sl' _ ds Q nn st h2 e k⟩
    · cases e
  · cases e
end
def aAsg (A : AE) (Ga : AG) : AS := fun s => sb (A s) fun t s1 => (Ga t s1).map .nx
section
variable {X : Cx} {W : WX} {pos : Pos} {st : Stmt} {rest : List Stmt} {S T : AS} {A : AE} {C : AT} {e c : Expr}
theorem ss_nil : PSs X [] (sL X.K W aNext) := PSsm pss_nil fun D σ H ⟨g, sl, r, st, e, k⟩ => by cases e; exact k g H σ (Nx.refl _ _) st
theorem s_pass : PS X (.Pass pos) (sL X.K W aNext) := PSm ps_pass fun D σ H ⟨g, sl, r, st, e, k⟩ => by cases e; exact k g H σ (Nx.refl _ _) st
theorem s_break : PS X (.Break pos) (sL X.K W aBrk) := PSm ps_break fun D σ H ⟨g, sl, r, st, e, k⟩ => by cases e; exact k g H σ (Nx.refl _ _) st
theorem s_continue : PS X (.Continue pos) (sL X.K W aCont) := PSm ps_continue fun D σ H ⟨g, sl, r, st, e, k⟩ => by cases e; exact k g H σ (Nx.refl _ _) st
theorem s_never : PS X st (sL X.K W aNever) := PSm ps_never fun _ _ _ ⟨_, _, _, _, e, _⟩ => by cases e
theorem ss_never {sts : List Stmt} : PSs X sts (sL X.K W aNever) := PSsm pss_never fun _ _ _ ⟨_, _, _, _, e, _⟩ => by cases e
theorem ss_cons (h1 : PS X st (sL X.K W S)) (h2 : PSs X rest (sL X.K W T)) : PSs X (st :: rest) (sL X.K W (aSeq S T)) :=
  PSsm (pss_cons h1 h2) fun D σ H ⟨g, sl, r, st, e, k⟩ => by
    unfold aSeq at e
    cases eS : S sl with
    | none => rw [eS] at e; cases e
    | some q =>
      rw [eS] at e
      cases q with
      | nx s1 => exact ⟨g, sl, _, st, eS, fun g1 H1 σ1 n1 st1 => ⟨g1, s1, r, st1, e, k.mono n1⟩⟩
      | bk s1 => cases e; exact ⟨g, sl, _, st, eS, k⟩
      | ct s1 => cases e; exact ⟨g, sl, _, st, eS, k⟩
      | rt t s1 => cases e; exact ⟨g, sl, _, st, eS, k⟩
      | ex t s1 => cases e; exact ⟨g, sl, _, st, eS, k⟩
theorem ss_one (h1 : PS X st (sL X.K W S)) : PSs X [st] (sL X.K W S) := pss_one h1
theorem s_expr (he : PE X e (eL X.K W A)) (hs : swapsWith e none pos.line X.env = pure false := by rfl) : PS X (.Expr e pos) (sL X.K W (aDrop A)) :=
  PSm (ps_expr he hs) fun D σ H ⟨g, sl, r, st, e, k⟩ => run1S (R := RV X.K) st e (k.x σ) fun t s1 g1 H1 v U e1 n1 st1 r1 f1 => by
    cases e1
    exact k g1 H1 σ n1 st1
theorem s_ret (he : PE X e (eL X.K W A)) : PS X (.Return (some e) pos) (sL X.K W (aRet A)) :=
  PSm (ps_ret he) fun D σ H ⟨g, sl, r, st, e, k⟩ => run1S (R := RV X.K) st e (k.x σ) fun t s1 g1 H1 v U e1 n1 st1 r1 f1 => by
    obtain ⟨⟨t', s2⟩, e2, rfl⟩ := Option.map_eq_some_iff.mp e1
    obtain ⟨g2, U2, n2, st2, r2, f2⟩ := rtv_ok n1 f1 st1 r1 e2
    exact k g2 H1 σ v U2 n2 st2 r2 f2
theorem s_retN : PS X (.Return none pos) (sL X.K W aRetN) :=
  PSm ps_retN fun D σ H ⟨g, sl, r, st, e, k⟩ => by cases e; exact k g H σ .non [] (Nx.refl _ _) st ⟨rfl, .non⟩ (Fresh.nil _ _)
theorem s_if {a b : List Stmt} (hc : PT X c (tL X.K W C)) (ha : PSs X a (sL X.K W S)) (hb : PSs X b (sL X.K W T)) : PS X (.If c a b pos) (sL X.K W (aIfS C S T)) :=
  PSm (ps_if hc ha hb) fun D σ H ⟨g, sl, r, st, e, k⟩ => run1S (R := RB) st e (k.x σ) fun b s1 g1 H1 b' U e1 n1 st1 r1 f1 => by
    obtain ⟨rfl, rfl⟩ := r1
    cases b' with
    | true => exact ⟨g1, s1, r, st1, e1, k.mono n1⟩
    | false => exact ⟨g1, s1, r, st1, e1, k.mono n1⟩
theorem asg_lift {Ga : AG} {gt : TG} (gr : GRel X.K Ga gt) (D : Ends) (σ : L2.St) (H : Hp) (h : sL X.K W (aAsg A Ga) D σ H) : tAsg (eL X.K W A) gt D σ H := by
  obtain ⟨g, sl, r, st, e, k⟩ := h
  refine run1S (R := RV X.K) st e (k.x σ) fun t s1 g1 H1 v U e1 n1 st1 r1 f1 => ?_
  obtain ⟨s2, e2, rfl⟩ := Option.map_eq_some_iff.mp e1
  exact gr g H g1 H1 σ s1 s2 v t U D.nx n1 st1 r1 f1 e2 fun g2 H2 σ2 n2 st2 => k g2 H2 σ2 n2 st2
theorem s_set {i : Nat} {x : Str} {pos' : Pos} (hN : X.N.Nodup) (hi : X.N[i]? = some x) (hx : Loc X.env.scope x) (he : PE X e (eL X.K W A)) (hs : swapsWith e (some (.Name x pos')) pos.line X.env = pure false := by rfl) (hf : X.fn x = true ∨ X.env.scope.names.lookup x = some .local := by first | exact .inl rfl | exact .inr rfl | assumption) :
    PS X (.Assign [.Name x pos'] e pos) (sL X.K W (aAsg A (aName i))) := PSm (ps_set hN hi hx he hs hf) (asg_lift gr_name)
theorem s_setF {i : Nat} {x : Str} {pos' : Pos} (hN : X.N.Nodup) (hi : X.N[i]? = some x) (hx : Loc X.env.scope x) (he : PE X e (eL X.K W A)) (hs : swapsWith e (some (.Name x pos')) pos.line X.env = pure false := by rfl) (hf : X.fn x = true ∨ X.env.scope.names.lookup x = some .local := by first | exact .inl rfl | exact .inr rfl | assumption) :
    PS X (.Assign [.Name x pos'] e pos) (sL X.K W (aAsg A (aNameF i))) := PSm (ps_set hN hi hx he hs hf) (asg_lift gr_nameF)
theorem s_asg {tg : Expr} {Ga : AG} {gt : TG} (hg : PG X tg gt) (gr : GRel X.K Ga gt) (he : PE X e (eL X.K W A)) (hs : swapsWithSole [tg] e pos.line X.env = pure false := by rfl) (hw : swappedStores [tg] e X.env = pure none := by rfl)
    (h1 : (assignEach [tg] X.env).map (·.2) = [assign tg X.env] := by rfl) : PS X (.Assign [tg] e pos) (sL X.K W (aAsg A Ga)) := PSm (ps_asg he hg hs hw h1) (asg_lift gr)
/-- a, b = x, y -/
def aPar (i j : Nat) (R : AA) : AS := fun s => sb (R s) fun ts s1 => (fzs s1 ts).bind fun r => match r.1 with
  | [x, y] => some (.nx ((r.2.set i (some (.d x))).set j (some (.d y))))
  | _ => none
theorem s_par {R : AA} {i j : Nat} {x y : Str} {a b : Expr} {px py pt : Pos} {kt k2 pt2} (hc : X.calm = true) (hN : X.N.Nodup) (hi : X.N[i]? = some x) (hj : X.N[j]? = some y) (hij : i ≠ j)
    (hx : X.env.scope.names.lookup x = some .local) (hy : X.env.scope.names.lookup y = some .local) (ha : PA X [a, b] (aL X.K W R))
    (hw : swappedStores [.Tuple [.Name x px, .Name y py] kt pt] (.Tuple [a, b] k2 pt2) X.env = pure (some [x, y]))
    (hs : swapsWithSole [.Tuple [.Name x px, .Name y py] kt pt] (.Tuple [a, b] k2 pt2) pos.line X.env = pure false := by rfl) :
    PS X (.Assign [.Tuple [.Name x px, .Name y py] kt pt] (.Tuple [a, b] k2 pt2) pos) (sL X.K W (aPar i j R)) :=
  PSm (ps_par hc hN hi hj hij hx hy ha hw hs) fun D σ H ⟨g, sl, r, st, e, k⟩ => run1S (R := RL X.K) st e (k.x σ) fun ts s1 g1 H1 vs U e1 n1 st1 r1 f1 => by
    obtain ⟨⟨ds, s2⟩, e2, e3⟩ := Option.bind_eq_some_iff.mp e1
    obtain ⟨g2, n2, st2, q, _⟩ := fzs_ok n1 f1 st1 r1 e2
    dsimp only at e3
    split at e3
    · cases e3
      cases q with
      | cons q1 q2 => cases q2 with
        | cons q2 q3 =>
          cases q3
          exact ⟨_, _, rfl, k g2 H1 _ n2 ((st2.setD q1).setD q2)⟩
    · cases e3
/-- name op= e, of data -/
abbrev OIp := D → D → Option D
def CoIp (K : PySem.W.Frag) (r : TIp) (o : OIp) : Prop := ∀ F H x y dx dy z Q, RD K F x dx → RD K F y dy → o dx dy = some z → (∀ v, RD K F v z → Q v H) → r x y H Q
def aAug (i : Nat) (A : AE) (o : OIp) : AS := fun s => match s[i]? with
  | some (some (.d x)) => sb (A s) fun t s1 => match t with
    | .d y => (o x y).map fun z => .nx (s1.set i (some (.d z)))
    | _ => none
  | _ => none
theorem s_aug {i : Nat} {x : Str} {op : Operator} {ti : TIp} {o : OIp} {pos' : Pos} (hN : X.N.Nodup) (hi : X.N[i]? = some x) (hx : Loc X.env.scope x) (ho : PIp X op ti) (co : CoIp X.K ti o) (he : PE X e (eL X.K W A)) (hf : X.fn x = true ∨ X.env.scope.names.lookup x = some .local := by first | exact .inl rfl | exact .inr rfl | assumption) :
    PS X (.AugAssign (.Name x pos') op e pos) (sL X.K W (aAug i A o)) :=
  PSm (ps_aug hN hi hx he ho hf) fun D σ H ⟨g, sl, r, st, e, k⟩ => by
    unfold aAug at e
    split at e
    · rename_i dx e0
      obtain ⟨v, h1, h2⟩ := st.d i dx e0
      refine ⟨v, h1, run1S (R := RV X.K) st e (k.x σ) fun t s1 g1 H1 u U e1 n1 st1 r1 f1 => ?_⟩
      split at e1
      · obtain ⟨z, e2, rfl⟩ := Option.map_eq_some_iff.mp e1
        exact co g1.F H1 v u dx _ z _ (h2.mono n1.ex) r1.2 e2 fun w q => k g1 H1 _ n1 (st1.setD q)
      · cases e1
    · cases e
def ipAdd : OIp := fun x y => match x, y with
  | .int i, .int j => some (.int (i + j))
  | _, _ => none
def ipSub : OIp := fun x y => match x, y with
  | .int i, .int j => some (.int (i - j))
  | _, _ => none
theorem co_ipAdd {K : PySem.W.Frag} : CoIp K (ipI fun i j => i + j) ipAdd := by
  intro F H x y dx dy z Q rx ry h k
  unfold ipAdd at h
  split at h
  · cases h; cases rx; cases ry
    exact ⟨_, _, rfl, rfl, k _ (.int _)⟩
  · cases h
theorem co_ipSub {K : PySem.W.Frag} : CoIp K (ipI fun i j => i - j) ipSub := by
  intro F H x y dx dy z Q rx ry h k
  unfold ipSub at h
  split at h
  · cases h; cases rx; cases ry
    exact ⟨_, _, rfl, rfl, k _ (.int _)⟩
  · cases h
/-- slots are forgotten -/
def aKill (is : List Nat) : AS := fun s => some (.nx (is.foldl (fun s i => s.set i none) s))
theorem Sta.kill {K : PySem.W.Frag} {g : G} {H : Hp} {σ : L2.St} : ∀ (is : List Nat) {sl : SL}, Sta K g H σ sl → Sta K g H σ (is.foldl (fun s i => s.set i none) sl)
  | [], _, st => st
  | i :: is, _, st => Sta.kill is (st.forget (i := i))
theorem ss_kill (is : List Nat) {sts : List Stmt} (h : PSs X sts (sL X.K W S)) : PSs X sts (sL X.K W (aSeq (aKill is) S)) := PSsm h fun D σ H ⟨g, sl, r, st, e, k⟩ => ⟨g, _, r, st.kill is, e, k⟩
end
end Y

/-! Layer Y, part T: children of trees: taken, read, handed over. -/
namespace Y
open PySem PySem.Spec PyProof.Rows L2 Evl
section
variable {K : PySem.W.Frag}
/-- x[i] where the child is a tree: the whole tree in hand -/
def isP (sl : SL) (i : Nat) : Bool := match sl[i]? with
  | some (some (.p _)) => true
  | _ => false
theorem var_own {g : G} {H : Hp} {σ : L2.St} {sl : SL} {v : V} {i : Nat} {S : List Addr} {m : MV} (st : Sta K g H σ sl) (r : RTV K g H σ v (.var i) S) (h : wAt sl i = some m) : σ[i]? = some (some v) ∧ ∃ U, Rep K g.F H v m U ∧ U.Nodup ∧ ∀ a ∈ U, g.lab a = some i := by
  obtain ⟨u, U, h1, h2, h3, h4⟩ := st.own h
  rw [r.2] at h1
  cases h1
  exact ⟨r.2, U, h2, h3, h4⟩
def oSubL : O2 := fun sl x y => match x, y with
  | .var i, .d (.int q) => match wAt sl i with
    | some (.lst ms) => (ixN ms.length q).bind fun j => (ms[j]?).map fun _ => (.sub (isP sl i) i j (.lst ms), sl.set i none)
    | _ => none
  | _, _ => none
theorem co_subL : Co2 K (rIxA K) oSubL := by
  intro g0 H0 g H σ sl x y tx ty S T tv sl' Q n st rx fx ry fy ap h k
  unfold oSubL at h
  split at h
  · rename_i i q
    split at h
    · rename_i ms ew
      obtain ⟨j, e1, h⟩ := Option.bind_eq_some_iff.mp h
      obtain ⟨c, e2, h⟩ := Option.map_eq_some_iff.mp h
      cases h
      obtain ⟨_, ry⟩ := ry
      cases ry
      obtain ⟨hv, U, rp, nd, lb⟩ := var_own st rx ew
      obtain ⟨g1, n1, st1, r1, f1, eF, er, el, _⟩ := st.takeA n rp nd lb
      have rp0 := rp
      cases rp with
      | @lst a vs _ Z ha hr =>
        obtain ⟨u, V', k1, k3, k2⟩ := at_kid hr e1 e2
        refine .inr (.inl ⟨a, vs, q, u, rfl, rfl, SqL.of ha, k1, k g1 H u (a :: Z) n1 st1 ⟨_, ⟨hv, fun hp => ?_⟩, r1, ⟨a, rfl, .inl ⟨vs, ha, k3⟩⟩, c, e2⟩ f1⟩)
        unfold isP at hp
        split at hp
        · rename_i m' ep
          obtain ⟨u', U', ⟨p1, p2⟩, _⟩ := st.p i _ ep
          rw [hv] at p1; cases p1
          rw [n1.pi, ← n.pi]; exact p2
        · cases hp
    · cases h
  · cases h
/-! steps on a child, as on a slot -/
def ownB : TV → Bool
  | .d _ => true
  | .t _ => true
  | _ => false
theorem ownB_ok {t : TV} (h : ownB t = true) : OwnT t := by
  cases t <;> first | trivial | cases h
def closeT (N : Nat) (p : Bool) (i j : Nat) (m : MV) (r : Option (TV × SL)) : Option (TV × SL) := r.bind fun r => if ownB r.1 = true then (closeS N p i j m r.2).map fun s => (r.1, s) else none
theorem closeT_ok {N : Nat} {p : Bool} {i j : Nat} {m : MV} {r : Option (TV × SL)} {tv : TV} {s : SL} (h : closeT N p i j m r = some (tv, s)) : ∃ s', r = some (tv, s') ∧ OwnT tv ∧ closeS N p i j m s' = some s := by
  obtain ⟨⟨t, s'⟩, h1, h2⟩ := Option.bind_eq_some_iff.mp h
  split at h2
  · rename_i ho
    obtain ⟨s2, h3, h4⟩ := Option.map_eq_some_iff.mp h2
    cases h4
    exact ⟨s', h1, ownB_ok ho, h3⟩
  · cases h2
/-- what is left to do once a child is open -/
theorem sub_kg {g0 : G} {H0 H : Hp} {σ : L2.St} {sl s3 s4 : SL} {vc : V} {p : Bool} {i j : Nat} {m : MV} {gb : G} {Q : VK} {tv : TV} (o : OwnT tv) (hcl : closeS sl.length p i j m s3 = some s4) (k : Kg K (RV K σ) σ Q g0 H0 tv s4)
    (fin : ∀ g2 H2 s3 s4, Nx gb H g2 H2 → Sta K g2 H2 (σ ++ [some vc]) s3 → closeS sl.length p i j m s3 = some s4 → ∃ g3, Nx g0 H0 g3 H2 ∧ Sta K g3 H2 σ s4 ∧ (∀ u t X, OwnT t → RTV K g2 H2 (σ ++ [some vc]) u t X → Fresh gb H X → RTV K g3 H2 σ u t X ∧ Fresh g0 H0 X) ∧ Ex g2.F g3.F) : Kg K (RV K (σ ++ [some vc])) (σ ++ [some vc]) Q gb H tv s3 := fun g2 H2 v X n2 st2 r2 f2 => by
  obtain ⟨g3, n3, st3, cv, _⟩ := fin g2 H2 s3 s4 n2 st2 hcl
  obtain ⟨r3, f3⟩ := cv v tv X o r2 f2
  exact k g3 H2 v X n3 st3 r3 f3
def vL (o : O2) : O2 := fun sl x y => match x with
  | .sub p i j m => (kid m j).bind fun c => closeT sl.length p i j m (o (sl ++ [some (.w c)]) (.var sl.length) y)
  | x => o sl x y
def vR (o : O2) : O2 := fun sl x y => match y with
  | .sub p i j m => (kid m j).bind fun c => closeT sl.length p i j m (o (sl ++ [some (.w c)]) x (.var sl.length))
  | y => o sl x y
theorem RTV.open1 {g : G} {H : Hp} {σ : L2.St} {v vc : V} {t : TV} {S T Z : List Addr} (r : RTV K g H σ v t S) (hT : ∀ a ∈ T, a ∈ Z) (ap : ∀ a ∈ Z, a ∉ S) : RTV K (labG g T σ.length) H (σ ++ [some vc]) v t S := r.ext.lab fun a z => ap a (hT a z)
theorem co_vL {r : R2} {o : O2} (hc : Co2 K r o) : Co2 K r (vL o) := by
  intro g0 H0 g H σ sl x y tx ty S T tv sl' Q n st rx fx ry fy ap h k
  unfold vL at h
  split at h
  · rename_i p i j m
    obtain ⟨c, e1, h⟩ := Option.bind_eq_some_iff.mp h
    obtain ⟨s3, e2, ho, e3⟩ := closeT_ok h
    obtain ⟨g1, gb, T', n1, st1, fU, hT, rfl, _, fin⟩ := sub_open n fx fy ap st rx e1
    exact hc gb H _ H _ _ x y (.var sl.length) ty [] T tv s3 Q n1 st1 ⟨rfl, by rw [← st.len]; simp⟩ (Fresh.nil _ _) (ry.open1 hT ap) fU (fun _ h => nomatch h) e2 (sub_kg ho e3 k fin)
  · exact hc g0 H0 g H σ sl x y tx ty S T tv sl' Q n st rx fx ry fy ap h k
theorem co_vR {r : R2} {o : O2} (hc : Co2 K r o) : Co2 K r (vR o) := by
  intro g0 H0 g H σ sl x y tx ty S T tv sl' Q n st rx fx ry fy ap h k
  unfold vR at h
  split at h
  · rename_i p i j m
    obtain ⟨c, e1, h⟩ := Option.bind_eq_some_iff.mp h
    obtain ⟨s3, e2, ho, e3⟩ := closeT_ok h
    have ap' : ∀ a ∈ T, a ∉ S := fun a z z2 => ap a z2 z
    obtain ⟨g1, gb, T', n1, st1, fU, hT, rfl, _, fin⟩ := sub_open n fy fx ap' st ry e1
    exact hc gb H _ H _ _ x y tx (.var sl.length) S [] tv s3 Q n1 st1 (rx.open1 hT ap') fU ⟨rfl, by rw [← st.len]; simp⟩ (Fresh.nil _ _) (fun _ _ h => nomatch h) e2 (sub_kg ho e3 k fin)
  · exact hc g0 H0 g H σ sl x y tx ty S T tv sl' Q n st rx fx ry fy ap h k
/-! .. among arguments -/
structure Sb where
  p : Bool
  i : Nat
  j : Nat
  m : MV
def unsub (N : Nat) : List TV → Option (List TV × Sb)
  | [] => none
  | .sub p i j m :: ts => some (.var N :: ts, ⟨p, i, j, m⟩)
  | t :: ts => (unsub N ts).map fun r => (t :: r.1, r.2)
theorem unsub_ok {g : G} {H : Hp} {σ : L2.St} {N : Nat} {q : Sb} : ∀ {ts ts' : List TV} {vs : List V} {S : List Addr}, N = σ.length → RTVs K g H σ vs ts S → unsub N ts = some (ts', q) →
    ∃ vc Z U, RTV K g H σ vc (.sub q.p q.i q.j q.m) Z ∧ (∀ a ∈ Z, a ∈ S) ∧ (∀ a ∈ U, a ∈ S) ∧ (∀ a ∈ Z, a ∉ U) ∧ ∀ T : List Addr, (∀ a ∈ T, a ∈ Z) → RTVs K (labG g T σ.length) H (σ ++ [some vc]) vs ts' U
  | [], _, _, _, _, _, h => by cases h
  | t :: ts, ts', v :: ws, _, hN, .cons (S := S) (T := T) r rs ap, h => by
    have rsx : ∀ {vc : V} {X : List Addr} {vs : List V} {ts : List TV} {U : List Addr}, RTVs K g H σ vs ts U → (∀ a ∈ X, a ∉ U) → RTVs K (labG g X σ.length) H (σ ++ [some vc]) vs ts U := fun {vc X vs ts U} rs h => by
      induction rs with
      | nil => exact .nil
      | cons r _ ap ih => exact .cons (r.ext.lab fun a z z2 => h a z (List.mem_append_left _ z2)) (ih fun a z z2 => h a z (List.mem_append_right _ z2)) ap
    have go : (unsub N ts).map (fun r => (t :: r.1, r.2)) = some (ts', q) → ∃ vc Z U, RTV K g H σ vc (.sub q.p q.i q.j q.m) Z ∧ (∀ a ∈ Z, a ∈ S ++ T) ∧ (∀ a ∈ U, a ∈ S ++ T) ∧ (∀ a ∈ Z, a ∉ U) ∧ ∀ X : List Addr, (∀ a ∈ X, a ∈ Z) → RTVs K (labG g X σ.length) H (σ ++ [some vc]) (v :: ws) ts' U := fun h => by
      obtain ⟨⟨ts2, q2⟩, h1, h2⟩ := Option.map_eq_some_iff.mp h
      cases h2
      obtain ⟨vc, Z, U, a1, a2, a3, a4, a5⟩ := unsub_ok hN rs h1
      refine ⟨vc, Z, S ++ U, a1, fun a z => List.mem_append_right _ (a2 a z), fun a z => ?_, fun a z z2 => ?_, fun X hX => .cons (r.ext.lab fun a z z2 => ap a z2 (a2 a (hX a z))) (a5 X hX) fun a z z2 => ap a z (a3 a z2)⟩
      · exact (List.mem_append.mp z).elim (fun z => List.mem_append_left _ z) fun z => List.mem_append_right _ (a3 a z)
      · rcases List.mem_append.mp z2 with z2 | z2
        · exact ap a z2 (a2 a z)
        · exact a4 a z z2
    cases t with
    | sub p i j m =>
      cases h
      refine ⟨v, S, T, r, fun a z => List.mem_append_left _ z, fun a z => List.mem_append_right _ z, ap, fun X hX => ?_⟩
      have := RTVs.cons (K := K) (g := labG g X σ.length) (H := H) (σ := σ ++ [some v]) (v := v) (t := .var N) (S := []) ⟨rfl, by rw [hN]; simp⟩ (rsx (vc := v) rs fun a z => ap a (hX a z)) (fun _ h => nomatch h)
      exact this
    | d x => exact go h
    | t x => exact go h
    | x x => exact go h
    | c x => exact go h
    | var x => exact go h
def vA (o : O1) : O1 := fun sl ts => match unsub sl.length ts with
  | some (ts', q) => (kid q.m q.j).bind fun c => closeT sl.length q.p q.i q.j q.m (o (sl ++ [some (.w c)]) ts')
  | none => o sl ts
theorem co_vA {r : List V → Hp → VK → Prop} {o : O1} (hc : CoC K r o) : CoC K r (vA o) := by
  intro g0 H0 g H σ sl vs ts S tv sl' Q n st rs f h k
  unfold vA at h
  split at h
  · rename_i ts' q eq
    obtain ⟨c, e1, h⟩ := Option.bind_eq_some_iff.mp h
    obtain ⟨s3, e2, ho, e3⟩ := closeT_ok h
    obtain ⟨vc, Z, U, rz, zS, uS, ap, rv⟩ := unsub_ok st.len.symm rs eq
    obtain ⟨g1, gb, T', n1, st1, fU, hT, rfl, _, fin⟩ := sub_open n (fun a z => f a (zS a z)) (fun a z => f a (uS a z)) ap st rz e1
    exact hc gb H _ H _ _ vs ts' U tv s3 Q n1 st1 (rv T' hT) fU e2 (sub_kg ho e3 k fin)
  · exact hc g0 H0 g H σ sl vs ts S tv sl' Q n st rs f h k
end
end Y

/-! Layer Y, part I: while, for. -/
namespace Y
open PySem PySem.Spec PyProof.Rows L2 Evl
/-! ### while -/
def whN (C : AT) (S : AS) : Nat → SL → Option SR
  | 0, _ => none
  | n + 1, s => match C s with
    | some (.ok true s1) => match S s1 with
      | some (.nx s2) => whN C S n s2
      | some (.ct s2) => whN C S n s2
      | some (.bk s2) => some (.nx s2)
      | r => r
    | some (.ok false s1) => some (.nx s1)
    | some (.ex xa s1) => some (.ex xa s1)
    | none => none
theorem whN_mono {C : AT} {S : AS} : ∀ (n : Nat) {s : SL} {r : SR}, whN C S n s = some r → whN C S (n + 1) s = some r
  | 0, _, _, h => by cases h
  | n + 1, s, r, h => by
    unfold whN at h ⊢
    cases eC : C s with
    | none => rw [eC] at h; cases h
    | some q =>
      rw [eC] at h
      cases q with
      | ex xa s1 => exact h
      | ok b s1 =>
        cases b with
        | false => exact h
        | true =>
          dsimp only at h ⊢
          cases eS : S s1 with
          | none => rw [eS] at h; cases h
          | some q =>
            rw [eS] at h
            cases q with
            | nx s2 => exact whN_mono n h
            | ct s2 => exact whN_mono n h
            | bk s2 => exact h
            | rt t s2 => exact h
            | ex t s2 => exact h
theorem whN_le {C : AT} {S : AS} {n m : Nat} {s : SL} {r : SR} (h : whN C S n s = some r) (k : n ≤ m) : whN C S m s = some r := by
  induction m with
  | zero => rw [Nat.le_zero.mp k] at h; exact h
  | succ m ih =>
    by_cases e : n = m + 1
    · rw [← e]; exact h
    · exact whN_mono m (ih (by omega))
open Classical in
noncomputable def aWhile (C : AT) (S : AS) : AS := fun s => if h : ∃ n, (whN C S n s).isSome = true then whN C S (Classical.choose h) s else none
theorem aWhile_of {C : AT} {S : AS} {n : Nat} {s : SL} {r : SR} (h : whN C S n s = some r) : aWhile C S s = some r := by
  have ex : ∃ n, (whN C S n s).isSome = true := ⟨n, by rw [h]; rfl⟩
  unfold aWhile
  rw [dif_pos ex]
  have := Classical.choose_spec ex
  obtain ⟨r', hr'⟩ := Option.isSome_iff_exists.mp this
  rw [hr']
  have a := whN_le hr' (Nat.le_max_left (Classical.choose ex) n)
  have b := whN_le h (Nat.le_max_right (Classical.choose ex) n)
  rw [a] at b
  exact b
theorem aWhile_to {C : AT} {S : AS} {s : SL} {r : SR} (h : aWhile C S s = some r) : ∃ n, whN C S n s = some r := by
  unfold aWhile at h
  split at h
  · exact ⟨_, h⟩
  · cases h
section
variable {X : Cx} {W : WX} {pos : Pos} {S : AS} {C : AT} {c : Expr} {body : List Stmt}
theorem s_while (hp : PassesOwn (model X.prog X.w) X.A X.env X.xe) (hc : PT X c (tL X.K W C)) (hb : PSs X body (sL X.K W S)) : PS X (.While c body [] pos) (sL X.K W (aWhile C S)) :=
  PSm (ps_while hp hc hb) fun D σ H ⟨g, sl, r, st, e, k⟩ => by
    obtain ⟨n, e⟩ := aWhile_to e
    refine ⟨fun m σ1 H1 => ∃ g1 sl1, Nx g H g1 H1 ∧ Sta X.K g1 H1 σ1 sl1 ∧ whN C S m sl1 = some r, ⟨n, g, sl, Nx.refl _ _, st, e⟩, fun m σ1 H1 ⟨g1, sl1, n1, st1, e1⟩ => ?_⟩
    cases m with
    | zero => cases e1
    | succ m =>
    unfold whN at e1
    cases eC : C sl1 with
    | none => rw [eC] at e1; cases e1
    | some q =>
    rw [eC] at e1
    cases q with
    | ex xa s2 =>
      cases e1
      exact ⟨g1, sl1, _, st1, eC, fun g2 H2 cls d n2 st2 rx => k g2 H2 σ1 cls d (n1.trans n2) st2 rx⟩
    | ok b s2 =>
    cases b with
    | false =>
      cases e1
      refine ⟨g1, sl1, _, st1, eC, fun g2 H2 b U n2 st2 r2 f2 => ?_⟩
      obtain ⟨rfl, rfl⟩ := r2
      exact k g2 H2 σ1 (n1.trans n2) st2
    | true =>
      refine ⟨g1, sl1, _, st1, eC, fun g2 H2 b U n2 st2 r2 f2 => ?_⟩
      obtain ⟨rfl, rfl⟩ := r2
      refine ⟨fun σ' H' => ∃ m', m' < m + 1 ∧ ∃ g1 sl1, Nx g H g1 H' ∧ Sta X.K g1 H' σ' sl1 ∧ whN C S m' sl1 = some r, fun _ _ z => z, ?_⟩
      have n12 := n1.trans n2
      dsimp only at e1
      have k' := SK.mono n12 k
      cases eS : S s2 with
      | none => rw [eS] at e1; cases e1
      | some q =>
        rw [eS] at e1
        cases q with
        | nx s3 => exact ⟨g2, s2, _, st2, eS, fun g3 H3 σ3 n3 st3 => ⟨m, Nat.lt_succ_self m, g3, s3, n12.trans n3, st3, e1⟩⟩
        | ct s3 => exact ⟨g2, s2, _, st2, eS, fun g3 H3 σ3 n3 st3 => ⟨m, Nat.lt_succ_self m, g3, s3, n12.trans n3, st3, e1⟩⟩
        | bk s3 => cases e1; exact ⟨g2, s2, _, st2, eS, fun g3 H3 σ3 n3 st3 => k g3 H3 σ3 (n12.trans n3) st3⟩
        | rt t s3 => cases e1; exact ⟨g2, s2, _, st2, eS, k'⟩
        | ex t s3 => cases e1; exact ⟨g2, s2, _, st2, eS, k'⟩
end
/-! ### what is walked -/
/-- items; where they stand, if in an owned slot -/
abbrev AI := SL → Option (Res (List D × Option Nat))
def IRel (K : PySem.W.Frag) (g : G) (H : Hp) (S : List Addr) (ds : List D) (J : It) : Prop := ∀ (i : Nat) (g1 : G) (H1 : Hp), Ex g.F g1.F → Ex g1.F H1 → (∀ a ∈ S, H1 a = H a) →
  (i < ds.length → J.go i H1 ∧ ∀ x H2, J.yld i H1 x H2 → (H2 = H1 ∧ ∃ d, ds[i]? = some d ∧ RD K g1.F x d) ∨ (∃ T ws es, x = .ref T ∧ H1 T = none ∧ H2 = upd H1 T (.tup ws) ∧ ds[i]? = some (.tuple es) ∧ RDs K g1.F ws es) ∨
    (H2 = H1 ∧ ∃ T ws es, x = .ref T ∧ H1 T = some (.tup ws) ∧ ds[i]? = some (.tuple es) ∧ RDs K g1.F ws es)) ∧ (i = ds.length → J.stop i H1)
def LkS (K : PySem.W.Frag) (g : G) (H : Hp) (σ : L2.St) (sl : SL) (S : List Addr) : Option Nat → Prop
  | none => ∀ a ∈ S, Framed g H a
  | some k => ∃ v m, σ[k]? = some (some v) ∧ wAt sl k = some m ∧ Rep K g.F H v m S ∧ S.Nodup ∧ ∀ a ∈ S, g.lab a = some k
def IK (K : PySem.W.Frag) (W : WX) (g0 : G) (H0 : Hp) (σ : L2.St) (R : It → Hp → Prop) : Res (List D × Option Nat) → Prop
  | .ok p sl => ∀ g H J S, Nx g0 H0 g H → Sta K g H σ sl → LkS K g H σ sl S p.2 → IRel K g H S p.1 J → R J H
  | .ex xa sl => Kx K W g0 H0 σ xa sl
def iL (K : PySem.W.Frag) (W : WX) (A : AI) : TI := fun σ H R => ∃ g sl r, Sta K g H σ sl ∧ A sl = some r ∧ IK K W g H σ R r
/-- an outside tuple becomes data -/
theorem Sta.tupF {K : PySem.W.Frag} {g0 g : G} {H0 H : Hp} {σ : L2.St} {sl : SL} {p : Addr} {ws : List V} (n : Nx g0 H0 g H) (st : Sta K g H σ sl) (h : H p = some (.tup ws)) : ∃ g', Nx g0 H0 g' H ∧ Sta K g' H σ sl ∧ g'.F p = some (.tup ws) ∧ Ex g.F g'.F ∧ Nx g H g' H := by
  have nk : ¬ Keep (H p) := fun z => z.2 ws h
  have nl : g.lab p = none := by
    cases e : g.lab p with
    | none => rfl
    | some j => exact absurd (st.la p (by rw [e]; exact fun z => nomatch z)) nk
  by_cases hF : g.F p = none
  · have ex : Ex g.F (upd g.F p (.tup ws)) := Ex.new hF
    have ne : ∀ {a : Addr}, Keep (H a) → a ≠ p := fun k e => by subst e; exact nk k
    refine ⟨{ g with F := upd g.F p (.tup ws) }, ⟨fun a o e => ex a o (n.ex a o e), n.pi, n.ro, fun a f => ?_⟩, ⟨fun a u e => ?_, fun a z => ?_, st.la, fun a z => ?_, st.len, fun j y q => ?_, fun j y q => ?_, fun j y q => ?_, fun j y q => ?_, st.h, fun j y q => ?_⟩, upd_same, ex, ⟨ex, rfl, rfl, fun a f => ⟨rfl, (upd_ne (ne f.1)).trans f.2.1, f.2.2⟩⟩⟩
    · obtain ⟨h1, h2, h3⟩ := n.out a f
      exact ⟨h1, (upd_ne (ne (h1 ▸ f.1))).trans h2, h3⟩
    · by_cases e2 : a = p
      · subst e2
        have e3 : upd g.F a (.tup ws) a = some u := e
        rw [upd_same] at e3
        rw [← e3]; exact h
      · have e3 : upd g.F p (.tup ws) a = some u := e
        rw [upd_ne e2] at e3
        exact st.ex a u e3
    · exact (upd_ne (ne (st.la a z))).trans (st.lf a z)
    · obtain ⟨h1, h2, h3⟩ := st.ro a z
      exact ⟨h1, (upd_ne (ne h1)).trans h2, h3⟩
    · obtain ⟨v, h1, h2⟩ := st.d j y q
      exact ⟨v, h1, h2.mono ex⟩
    · obtain ⟨u, T, h1, h2, h3⟩ := st.w j y q
      exact ⟨u, T, h1, h2.mono ex fun _ _ => rfl, h3⟩
    · obtain ⟨u, T, h1, h2, h3⟩ := st.p j y q
      exact ⟨u, T, h1, h2.mono ex fun _ _ => rfl, h3⟩
    · obtain ⟨u, T, h1, h2, h3⟩ := st.k j y q
      exact ⟨u, T, h1, h2.mono ex fun _ _ => rfl, h3⟩
    · obtain ⟨a, vs, h1, h2, h3⟩ := st.x j y q
      exact ⟨a, vs, h1, ex_l ex h2, h3.mono ex⟩
  · refine ⟨g, n, st, ?_, fun _ _ z => z, Nx.refl _ _⟩
    cases e : g.F p with
    | none => exact absurd e hF
    | some o => rw [st.ex p o e] at h; exact h
/-- what is yielded, as data -/
theorem Sta.yld {K : PySem.W.Frag} {g0 g : G} {H0 H H2 : Hp} {σ : L2.St} {sl : SL} {x : V} {od : Option D} (n : Nx g0 H0 g H) (st : Sta K g H σ sl)
    (h : (H2 = H ∧ ∃ d, od = some d ∧ RD K g.F x d) ∨ (∃ T ws es, x = .ref T ∧ H T = none ∧ H2 = upd H T (.tup ws) ∧ od = some (.tuple es) ∧ RDs K g.F ws es) ∨ (H2 = H ∧ ∃ T ws es, x = .ref T ∧ H T = some (.tup ws) ∧ od = some (.tuple es) ∧ RDs K g.F ws es)) :
    ∃ g' d, Nx g0 H0 g' H2 ∧ Sta K g' H2 σ sl ∧ od = some d ∧ RD K g'.F x d ∧ Ex g.F g'.F ∧ Nx g H g' H2 := by
  rcases h with ⟨rfl, d, e, r⟩ | ⟨T, ws, es, rfl, hT, rfl, e, r⟩ | ⟨rfl, T, ws, es, rfl, hT, e, r⟩
  · exact ⟨g, d, n, st, e, r, fun _ _ z => z, Nx.refl _ _⟩
  · obtain ⟨n', st', ex⟩ := st.newF (o := .tup ws) n hT
    exact ⟨_, _, n', st', e, .tup upd_same (r.mono ex), ex, (st.newF (o := .tup ws) (Nx.refl g H) hT).1⟩
  · obtain ⟨g', n', st', h1, ex, nn⟩ := st.tupF n hT
    exact ⟨g', _, n', st', e, .tup h1 (r.mono ex), ex, nn⟩
/-! ### locking a slot while it is walked -/
def lockG (g : G) (S : List Addr) (k : Nat) (v : V) : G := { F := g.F, lab := fun a => if a ∈ S then none else g.lab a, π := fun j => if j = k then some v else g.π j, ro := fun j a => if j = k then a ∈ S else g.ro j a }
def unlockG (g g1 : G) (S : List Addr) (k : Nat) : G := { F := g1.F, lab := fun a => if a ∈ S then some k else g1.lab a, π := g.π, ro := g.ro }
section
variable {K : PySem.W.Frag} {g g0 : G} {H H0 : Hp} {σ : L2.St} {sl : SL} {S : List Addr} {k : Nat} {v : V} {m : MV}
theorem Sta.lock (st : Sta K g H σ sl) (hv : σ[k]? = some (some v)) (hw : wAt sl k = some m) (r : Rep K g.F H v m S) (nd : S.Nodup) (lb : ∀ a ∈ S, g.lab a = some k) : Sta K (lockG g S k v) H σ (sl.set k (some (.k m))) := by
  have lab : ∀ a, (lockG g S k v).lab a ≠ none → g.lab a ≠ none := fun a z => by
    have z' : (if a ∈ S then none else g.lab a) ≠ none := z
    split at z'
    · exact absurd rfl z'
    · exact z'
  have labn : ∀ a, g.lab a = none → (lockG g S k v).lab a = none := fun a z => by
    show (if a ∈ S then none else g.lab a) = none
    split
    · rfl
    · exact z
  have pi : ∀ j, j ≠ k → (lockG g S k v).π j = g.π j := fun j ne => if_neg ne
  refine ⟨st.ex, fun a z => st.lf a (lab a z), fun a z => st.la a (lab a z), fun a z => ?_, by rw [List.length_set, st.len], fun j y q => ?_, fun j y q => ?_, fun j y q => ?_, fun j y q => ?_, fun j q => ?_, fun j y q => ?_⟩
  · obtain ⟨j, z⟩ := z
    have z' : if j = k then a ∈ S else g.ro j a := z
    split at z'
    · exact ⟨r.keep a z', st.lf a (by rw [lb a z']; exact fun z => nomatch z), if_pos z'⟩
    · obtain ⟨h1, h2, h3⟩ := st.ro a ⟨j, z'⟩
      exact ⟨h1, h2, labn a h3⟩
  · rcases getset q with ⟨_, q⟩ | ⟨ne, q⟩
    · cases q
    · exact st.d j y q
  · rcases getset q with ⟨_, q⟩ | ⟨ne, q⟩
    · cases q
    · obtain ⟨u, U, h1, h2, h3, h4⟩ := st.w j y q
      refine ⟨u, U, h1, h2, h3, fun a z => ?_⟩
      show (if a ∈ S then none else g.lab a) = some j
      rw [if_neg fun z2 => ne (by have := lb a z2; rw [h4 a z] at this; exact (Option.some.inj this).symm)]
      exact h4 a z
  · rcases getset q with ⟨_, q⟩ | ⟨ne, q⟩
    · cases q
    · obtain ⟨u, U, ⟨h1, h1'⟩, h2, h3, h4⟩ := st.p j y q
      refine ⟨u, U, ⟨h1, by rw [pi j (Ne.symm ne)]; exact h1'⟩, h2, h3, fun a z => ?_⟩
      show (if a ∈ S then none else g.lab a) = some j
      rw [if_neg fun z2 => ne (by have := lb a z2; rw [h4 a z] at this; exact (Option.some.inj this).symm)]
      exact h4 a z
  · rcases getset q with ⟨e, q2⟩ | ⟨ne, q2⟩
    · subst e
      cases q2
      exact ⟨v, S, ⟨hv, if_pos rfl⟩, r, nd, fun a z => by show (if k = k then a ∈ S else g.ro k a); rw [if_pos rfl]; exact z⟩
    · have q := q2
      obtain ⟨u, U, ⟨h1, h1'⟩, h2, h3, h4⟩ := st.k j y q
      exact ⟨u, U, ⟨h1, by rw [pi j (Ne.symm ne)]; exact h1'⟩, h2, h3, fun a z => by show (if j = k then a ∈ S else g.ro j a); rw [if_neg (Ne.symm ne)]; exact h4 a z⟩
  · rcases getset q with ⟨_, q⟩ | ⟨ne, q⟩
    · cases q
    · obtain ⟨u, h1, h1'⟩ := st.h j q
      exact ⟨u, h1, by rw [pi j (Ne.symm ne)]; exact h1'⟩
  · rcases getset q with ⟨_, q⟩ | ⟨ne, q⟩
    · cases q
    · exact st.x j y q
theorem framed_lock (st : Sta K g H σ sl) (lb : ∀ a ∈ S, g.lab a = some k) {a : Addr} (f : Framed g H a) : Framed (lockG g S k v) H a ∧ a ∉ S := by
  have ns : a ∉ S := fun z => by have := f.2.2; rw [lb a z] at this; cases this
  exact ⟨⟨f.1, f.2.1, by show (if a ∈ S then none else g.lab a) = none; rw [if_neg ns]; exact f.2.2⟩, ns⟩
def unl (k : Nat) (p : Bool) (s : SL) : Option SL := match s[k]? with
  | some (some (.k m)) => some (s.set k (some (if p then .p m else .w m)))
  | _ => none
/-- behind the walk -/
theorem Sta.unlock {g1 : G} {H1 : Hp} {σ1 : L2.St} {sl1 sl2 : SL} {p : Bool} (n : Nx g0 H0 g H) (st : Sta K g H σ sl) (hv : σ[k]? = some (some v)) (r : Rep K g.F H v m S) (lb : ∀ a ∈ S, g.lab a = some k) (hp : p = true → g.π k = some v)
    (n1 : Nx (lockG g S k v) H g1 H1) (st1 : Sta K g1 H1 σ1 sl1) (hu : unl k p sl1 = some sl2) :
    Nx g0 H0 (unlockG g g1 S k) H1 ∧ Sta K (unlockG g g1 S k) H1 σ1 sl2 ∧ (∀ {u : V} {t : TV} {U : List Addr}, RTV K g1 H1 σ1 u t U → Fresh (lockG g S k v) H U → RTV K (unlockG g g1 S k) H1 σ1 u t U) ∧ ∀ {U : List Addr}, Fresh (lockG g S k v) H U → Fresh g0 H0 U := by
  have fS : ∀ a ∈ S, Framed (lockG g S k v) H a := fun a z => ⟨r.keep a z, st.lf a (by rw [lb a z]; exact fun z => nomatch z), if_pos z⟩
  have ls : ∀ a ∈ S, g1.lab a = none := fun a z => (n1.out a (fS a z)).2.2
  have lF : ∀ a ∈ S, g1.F a = none := fun a z => (n1.out a (fS a z)).2.1
  have ln : ∀ a, a ∉ S → (unlockG g g1 S k).lab a = g1.lab a := fun a z => if_neg z
  have li : ∀ a ∈ S, (unlockG g g1 S k).lab a = some k := fun a z => if_pos z
  have ro1 : ∀ j a, g1.ro j a = if j = k then a ∈ S else g.ro j a := fun j a => by rw [n1.ro]; rfl
  have pi1 : ∀ j, g1.π j = if j = k then some v else g.π j := fun j => by rw [n1.pi]; rfl
  have gf : ∀ a, g.RO a → Framed g H a := st.ro
  obtain ⟨m1, e1, e2⟩ : ∃ m1, sl1[k]? = some (some (.k m1)) ∧ sl2 = sl1.set k (some (if p then .p m1 else .w m1)) := by
    unfold unl at hu
    split at hu
    · rename_i m1 e; cases hu; exact ⟨m1, e, rfl⟩
    · cases hu
  subst e2
  obtain ⟨u, U, ⟨h1, h1'⟩, h2, h3, h4⟩ := st1.k k m1 e1
  have eu : u = v := by
    rw [pi1, if_pos rfl] at h1'
    exact (Option.some.inj h1').symm
  subst eu
  have US : ∀ a ∈ U, a ∈ S := fun a z => by
    have := h4 a z
    rw [ro1, if_pos rfl] at this
    exact this
  have frd : ∀ a, Framed g0 H0 a → Framed g H a := fun a f => n.fr f
  have rtv : ∀ {w : V} {t : TV} {Z : List Addr}, RTV K g1 H1 σ1 w t Z → Fresh (lockG g S k u) H Z → RTV K (unlockG g g1 S k) H1 σ1 w t Z := fun {w t Z} q fr => by
    cases t with
    | d x => exact q
    | var i => exact q
    | x ds => exact q
    | c ds => exact q
    | t m =>
      refine ⟨q.1, q.2.1, fun a z => ⟨(q.2.2 a z).1, ?_, fun h => fr a z (framed_lock st lb (gf a h)).1⟩⟩
      rw [ln a fun z2 => fr a z (fS a z2)]
      exact (q.2.2 a z).2.1
    | sub pp i j m =>
      obtain ⟨v0, ⟨e, e'⟩, q, kv, c, hc⟩ := q
      refine ⟨v0, ⟨e, fun hpp => ?_⟩, ⟨q.1, q.2.1, fun a z => ⟨(q.2.2 a z).1, ?_, fun h => fr a z (framed_lock st lb (gf a h)).1⟩⟩, kv, c, hc⟩
      · have := e' hpp
        rw [pi1] at this
        split at this
        · exfalso
          rename_i ei
          subst ei
          rw [h1] at e
          cases e
          obtain ⟨a, S', ea, eb⟩ := q.1.root hc
          subst ea
          have hu : a ∈ U := by
            cases h2 with
            | lst _ _ => exact List.mem_cons_self
            | dK _ _ _ => exact List.mem_cons_self
            | dT _ _ _ => exact List.mem_cons_self
            | d hd =>
              have fa := (q.2.2 a (by rw [eb]; exact List.mem_cons_self)).1
              cases hd with
              | lst h _ => rw [h] at fa; cases fa
              | tup h _ => rw [h] at fa; cases fa
          exact fr a (by rw [eb]; exact List.mem_cons_self) (fS a (US a hu))
        · exact this
      · rw [ln a fun z2 => fr a z (fS a z2)]
        exact (q.2.2 a z).2.1
  refine ⟨⟨fun a o h => n1.ex a o (n.ex a o h), n.pi, n.ro, fun a f => ?_⟩, ⟨st1.ex, fun a z => ?_, fun a z => ?_, fun a z => ?_, by rw [List.length_set, st1.len], fun j y q => ?_, fun j y q => ?_, fun j y q => ?_, fun j y q => ?_, fun j q => ?_, fun j y q => ?_⟩, rtv, fun {Z} fr a z f => fr a z (framed_lock st lb (frd a f)).1⟩
  · obtain ⟨f1, f2⟩ := framed_lock st lb (frd a f)
    obtain ⟨k1, k2, k3⟩ := n1.out a f1
    exact ⟨k1.trans (n.out a f).1, k2, by rw [ln a f2]; exact k3⟩
  · by_cases q : a ∈ S
    · exact lF a q
    · rw [ln a q] at z; exact st1.lf a z
  · by_cases q : a ∈ S
    · rw [(n1.out a (fS a q)).1]; exact r.keep a q
    · rw [ln a q] at z; exact st1.la a z
  · obtain ⟨f1, f2⟩ := framed_lock st lb (gf a z)
    have := n1.fr f1
    exact ⟨this.1, this.2.1, by rw [ln a f2]; exact this.2.2⟩
  · rcases getset q with ⟨_, q⟩ | ⟨ne, q⟩
    · cases p <;> cases q
    · exact st1.d j y q
  · rcases getset q with ⟨e, q2⟩ | ⟨ne, q⟩
    · subst e
      cases p
      · cases q2
        exact ⟨u, U, h1, h2, h3, fun a z => li a (US a z)⟩
      · cases q2
    · obtain ⟨w, Z, k1, k2, k3, k4⟩ := st1.w j y q
      exact ⟨w, Z, k1, k2, k3, fun a z => by rw [ln a fun z2 => by have := ls a z2; rw [k4 a z] at this; cases this]; exact k4 a z⟩
  · rcases getset q with ⟨e, q2⟩ | ⟨ne, q⟩
    · subst e
      cases p
      · cases q2
      · cases q2
        exact ⟨u, U, ⟨h1, hp rfl⟩, h2, h3, fun a z => li a (US a z)⟩
    · obtain ⟨w, Z, ⟨k1, k1'⟩, k2, k3, k4⟩ := st1.p j y q
      exact ⟨w, Z, ⟨k1, by rw [pi1, if_neg (Ne.symm ne)] at k1'; exact k1'⟩, k2, k3, fun a z => by rw [ln a fun z2 => by have := ls a z2; rw [k4 a z] at this; cases this]; exact k4 a z⟩
  · rcases getset q with ⟨e, q⟩ | ⟨ne, q⟩
    · cases p <;> cases q
    · obtain ⟨w, Z, ⟨k1, k1'⟩, k2, k3, k4⟩ := st1.k j y q
      exact ⟨w, Z, ⟨k1, by rw [pi1, if_neg (Ne.symm ne)] at k1'; exact k1'⟩, k2, k3, fun a z => by have := k4 a z; rw [ro1, if_neg (Ne.symm ne)] at this; exact this⟩
  · rcases getset q with ⟨e, q⟩ | ⟨ne, q⟩
    · cases p <;> cases q
    · obtain ⟨w, k1, k1'⟩ := st1.h j q
      exact ⟨w, k1, by rw [pi1, if_neg (Ne.symm ne)] at k1'; exact k1'⟩
  · rcases getset q with ⟨e, q⟩ | ⟨ne, q⟩
    · cases p <;> cases q
    · exact st1.x j y q
end
end Y

/-! Layer Y, part J: for; what is walked; comprehensions. -/
namespace Y
open PySem PySem.Spec PyProof.Rows L2 Evl
def forGo (Ga : AG) (S : AS) : List D → SL → Option SR
  | [], s => some (.nx s)
  | x :: xs, s => (Ga (.d x) s).bind fun s1 => match S s1 with
    | some (.nx s2) => forGo Ga S xs s2
    | some (.ct s2) => forGo Ga S xs s2
    | some (.bk s2) => some (.nx s2)
    | r => r
def unlR (k : Nat) (p : Bool) : Option SR → Option SR
  | some (.nx s) => (unl k p s).map .nx
  | some (.rt t s) => (unl k p s).map (.rt t)
  | some (.ex xa s) => (unl k p s).map (.ex xa)
  | _ => none
/-- a walk with the slot that is walked locked -/
def lockd (lk : Option Nat) (F : SL → Option SR) (s : SL) : Option SR := match lk with
  | none => F s
  | some k => match s[k]? with
    | some (some (.w m)) => unlR k false (F (s.set k (some (.k m))))
    | some (some (.p m)) => unlR k true (F (s.set k (some (.k m))))
    | _ => none
def aFor (A : AI) (Ga : AG) (S : AS) : AS := fun s => sb (A s) fun p s1 => lockd p.2 (forGo Ga S p.1) s1
section
variable {X : Cx} {W : WX} {S : AS} {Ga : AG} {gt : TG} {body : List Stmt}
/-- the walk, from any ghost -/
theorem for_run {K : PySem.W.Frag} {g : G} {H : Hp} {σ : L2.St} {sl : SL} {J : It} {Z : List Addr} {ds : List D} {r : SR} {D : Ends} {tb : TS} (hb : ∀ D σ H, sL K W S D σ H → tb D σ H) (gr : GRel K Ga gt) (st : Sta K g H σ sl) (fz : ∀ a ∈ Z, Framed g H a) (ir : IRel K g H Z ds J) (e : forGo Ga S ds sl = some r) (k : SK K W D g H r) :
    ∃ Wk : Nat → Nat → L2.St → Hp → Prop, (∃ m, Wk 0 m σ H) ∧ ∀ i m σ H, Wk i m σ H → (J.stop i H ∧ D.nx σ H) ∨ (J.go i H ∧ ∃ N : L2.St → Hp → Prop, (∀ σ' H', N σ' H' → ∃ m', m' < m ∧ Wk (i + 1) m' σ' H') ∧ ∀ x H', J.yld i H x H' → gt x σ H' fun σ2 H2 => tb { D with nx := N, ct := N, bk := D.nx } σ2 H2) := by
  refine ⟨fun i m σ1 H1 => m = ds.length - i ∧ i ≤ ds.length ∧ ∃ g1 sl1, Nx g H g1 H1 ∧ Sta K g1 H1 σ1 sl1 ∧ forGo Ga S (ds.drop i) sl1 = some r, ⟨ds.length, by simp, Nat.zero_le _, g, sl, Nx.refl _ _, st, e⟩, ?_⟩
  rintro i m σ1 H1 ⟨rfl, hi, g1, sl1, n1, st1, e1⟩
  obtain ⟨i1, i2⟩ := ir i g1 H1 n1.ex st1.ex fun a z => (n1.out a (fz a z)).1
  by_cases hlt : i < ds.length
  · obtain ⟨go, yl⟩ := i1 hlt
    refine .inr ⟨go, fun σ' H' => ∃ g1 sl1, Nx g H g1 H' ∧ Sta K g1 H' σ' sl1 ∧ forGo Ga S (ds.drop (i + 1)) sl1 = some r, fun σ' H' z => ⟨ds.length - (i + 1), by omega, rfl, hlt, z⟩, fun x H2 y => ?_⟩
    obtain ⟨g2, d, n2, st2, ed, rd, ex2, _⟩ := st1.yld n1 (yl x H2 y)
    rw [List.drop_eq_getElem_cons hlt] at e1
    have ed' : ds[i] = d := by rw [List.getElem?_eq_getElem hlt] at ed; exact Option.some.inj ed
    rw [ed'] at e1
    unfold forGo at e1
    obtain ⟨s2, e2, e3⟩ := Option.bind_eq_some_iff.mp e1
    refine gr g H g2 H2 σ1 sl1 s2 x (.d d) [] _ n2 st2 ⟨rfl, rd⟩ (Fresh.nil _ _) e2 fun g3 H3 σ3 n3 st3 => hb _ _ _ ?_
    have k3 := SK.mono n3 k
    cases eS : S s2 with
    | none => rw [eS] at e3; cases e3
    | some q =>
      rw [eS] at e3
      cases q with
      | nx s4 => exact ⟨g3, s2, _, st3, eS, fun g4 H4 σ4 n4 st4 => ⟨g4, s4, n3.trans n4, st4, e3⟩⟩
      | ct s4 => exact ⟨g3, s2, _, st3, eS, fun g4 H4 σ4 n4 st4 => ⟨g4, s4, n3.trans n4, st4, e3⟩⟩
      | bk s4 => cases e3; exact ⟨g3, s2, _, st3, eS, fun g4 H4 σ4 n4 st4 => k g4 H4 σ4 (n3.trans n4) st4⟩
      | rt t s4 => cases e3; exact ⟨g3, s2, _, st3, eS, k3⟩
      | ex t s4 => cases e3; exact ⟨g3, s2, _, st3, eS, k3⟩
  · have ei : i = ds.length := by omega
    subst ei
    rw [List.drop_length] at e1
    cases e1
    exact .inl ⟨i2 rfl, k g1 H1 σ1 n1 st1⟩
theorem s_for {pos : Pos} {iter tg : Expr} {A : AI} (hp : PassesOwn (model X.prog X.w) X.A X.env X.xe) (hc : X.calm = true) (hi : PI X tg iter (iL X.K W A)) (hg : PG X tg gt) (gr : GRel X.K Ga gt) (hb : PSs X body (sL X.K W S))
    (hs : ∀ x, foldedSetIterable iter X.env x = pure x := by intro _; rfl) : PS X (.For tg iter body [] pos) (sL X.K W (aFor A Ga S)) :=
  PSm (ps_for hp hc hi hg hb hs) fun D σ H ⟨g, sl, r, st, e, k⟩ => by
    unfold aFor sb at e
    split at e
    · rename_i p s1 eA
      refine ⟨g, sl, _, st, eA, fun g1 H1 J Z n1 st1 lk ir => ?_⟩
      unfold lockd at e
      cases p with
      | mk ds lkd =>
      cases lkd with
      | none =>
        exact for_run (W := W) (fun _ _ _ z => z) gr st1 lk ir e (k.mono n1)
      | some q =>
        obtain ⟨v, m, hv, hw, rp, nd, lb⟩ := lk
        have main : ∀ (pp : Bool) (m' : MV), m' = m → (pp = true → g1.π q = some v) → unlR q pp (forGo Ga S ds (s1.set q (some (.k m')))) = some r → (tFor (fun σ H R => R J H) gt (sL X.K W S)) D σ H1 := by
          intro pp m' em hp' e2
          subst em
          have stL := st1.lock hv hw rp nd lb
          have zf : ∀ a ∈ Z, Framed (lockG g1 Z q v) H1 a := fun a z => ⟨rp.keep a z, st1.lf a (by rw [lb a z]; exact fun z => nomatch z), if_pos z⟩
          obtain ⟨rr, er, e3⟩ : ∃ rr, forGo Ga S ds (s1.set q (some (.k m'))) = some rr ∧ unlR q pp (some rr) = some r := by
            cases eq : forGo Ga S ds (s1.set q (some (.k m'))) with
            | none => rw [eq] at e2; cases e2
            | some rr => exact ⟨rr, rfl, by rw [eq] at e2; exact e2⟩
          refine for_run (W := W) (D := D) (fun _ _ _ z => z) gr stL zf (show IRel X.K (lockG g1 Z q v) H1 Z ds J from ir) er ?_
          cases rr with
          | bk s2 => cases e3
          | ct s2 => cases e3
          | nx s2 =>
            obtain ⟨s3, e4, rfl⟩ := Option.map_eq_some_iff.mp (show (unl q pp s2).map .nx = some r from e3)
            intro g2 H2 σ2 n2 st2
            obtain ⟨nn, stt, _⟩ := Sta.unlock n1 st1 hv rp lb hp' n2 st2 e4
            exact k _ H2 σ2 nn stt
          | rt t s2 =>
            obtain ⟨s3, e4, rfl⟩ := Option.map_eq_some_iff.mp (show (unl q pp s2).map (.rt t) = some r from e3)
            intro g2 H2 σ2 u U n2 st2 r2 f2
            obtain ⟨nn, stt, rt, fr⟩ := Sta.unlock n1 st1 hv rp lb hp' n2 st2 e4
            exact k _ H2 σ2 u U nn stt (rt r2 f2) (fr f2)
          | ex xa s2 =>
            obtain ⟨s3, e4, rfl⟩ := Option.map_eq_some_iff.mp (show (unl q pp s2).map (.ex xa) = some r from e3)
            intro g2 H2 σ2 cls d n2 st2 rx
            obtain ⟨nn, stt, _⟩ := Sta.unlock n1 st1 hv rp lb hp' n2 st2 e4
            exact k _ H2 σ2 cls d nn stt rx
        dsimp only at e
        split at e
        · rename_i m' e0
          refine main false m' (by unfold wAt at hw; rw [e0] at hw; exact Option.some.inj hw) (fun z => nomatch z) e
        · rename_i m' e0
          refine main true m' (by unfold wAt at hw; rw [e0] at hw; exact Option.some.inj hw) (fun _ => ?_) e
          obtain ⟨u, U, ⟨h1, h2⟩, _⟩ := st1.p q m' e0
          rw [hv] at h1; cases h1
          exact h2
        · cases e
    · rename_i xa s1 eA
      cases e
      exact ⟨g, sl, _, st, eA, k.x σ xa s1 rfl⟩
    · cases e
end
/-! ### what is walked -/
/-- a list, a tuple, a text; an owned list -/
def aIt (A : AE) : AI := fun s => bd (A s) fun t s1 => match t with
  | .d (.list ds) => some (.ok (ds, none) s1)
  | .d (.tuple ds) => some (.ok (ds, none) s1)
  | .d (.str z) => some (.ok (z.cps.toList.map fun c => .str ⟨#[c]⟩, none) s1)
  | .x ds => some (.ok (ds, none) s1)
  | .c ds => some (.ok (ds, none) s1)
  | .t m => match frz m with
    | some (.list ds) => some (.ok (ds, none) s1)
    | _ => none
  | .var i => match s1[i]? with
    | some (some (.w (.lst ms))) => (lvs ms).map fun ds => .ok (ds, some i) s1
    | some (some (.p (.lst ms))) => (lvs ms).map fun ds => .ok (ds, some i) s1
    | some (some (.k (.lst ms))) => (lvs ms).map fun ds => .ok (ds, none) s1
    | _ => none
  | _ => none
theorem pi_or {X : Cx} {tg e : Expr} {t u : TI} (h1 : PI X tg e t) (h2 : PI X tg e u) : PI X tg e (fun σ H R => t σ H R ∨ u σ H R) := ⟨fun pins s σ H R I h => h.elim (h1.run pins s σ H R I) (h2.run pins s σ H R I)⟩
section
variable {K : PySem.W.Frag} {g : G} {H : Hp}
theorem ir_list {S : List Addr} {a : Addr} {vs : List V} {ds : List D} (hq : ∀ (g1 : G) (H1 : Hp), Ex g.F g1.F → Ex g1.F H1 → (∀ a ∈ S, H1 a = H a) → SqL K H1 a vs) (r : RDs K g.F vs ds) : IRel K g H S ds (Itl K a) := by
  intro i g1 H1 e1 e2 h
  have q := hq g1 H1 e1 e2 h
  refine ⟨fun hi => ?_, fun hi => ⟨vs, q, by rw [hi, r.length]; exact Nat.le_refl _⟩⟩
  obtain ⟨v, h1, h2⟩ := r.get (List.getElem?_eq_getElem hi)
  refine ⟨⟨vs, v, q, h1⟩, fun x H2 ⟨e3, e4⟩ => .inl ⟨e3, ds[i], List.getElem?_eq_getElem hi, ?_⟩⟩
  have := e4 vs q
  rw [h1] at this
  cases this
  exact h2.mono e1
theorem ir_tup {S : List Addr} {a : Addr} {vs : List V} {ds : List D} (hq : SqT K g.F a vs) (r : RDs K g.F vs ds) : IRel K g H S ds (Itt K a) := by
  intro i g1 H1 e1 e2 h
  have q := ex_t e2 (ex_t e1 hq)
  refine ⟨fun hi => ?_, fun hi => ⟨vs, q, by rw [hi, r.length]; exact Nat.le_refl _⟩⟩
  obtain ⟨v, h1, h2⟩ := r.get (List.getElem?_eq_getElem hi)
  refine ⟨⟨vs, v, q, h1⟩, fun x H2 ⟨e3, e4⟩ => .inl ⟨e3, ds[i], List.getElem?_eq_getElem hi, ?_⟩⟩
  have := e4 vs q
  rw [h1] at this
  cases this
  exact h2.mono e1
theorem ir_str {S : List Addr} {z : Str} : IRel K g H S (z.cps.toList.map fun c => PyData.str ⟨#[c]⟩) (Its z) := by
  intro i g1 H1 e1 e2 h
  have hl : (z.cps.toList.map fun c => PyData.str ⟨#[c]⟩).length = z.cps.size := by simp
  rw [hl]
  refine ⟨fun hi => ⟨hi, fun x H2 ⟨e3, c, e4, e5⟩ => .inl ⟨e3, .str ⟨#[c]⟩, ?_, ?_⟩⟩, fun hi => Nat.le_of_eq hi.symm⟩
  · rw [List.getElem?_map, Array.getElem?_toList, e4]; rfl
  · subst e5; exact .str _
theorem ir_range {S : List Addr} {lo : Int} {n : Nat} : IRel K g H S ((List.range n).map fun i => PyData.int (lo + (i : Nat))) (Itr lo n) := by
  intro i g1 H1 e1 e2 h
  have hl : ((List.range n).map fun i => PyData.int (lo + (i : Nat))).length = n := by simp
  rw [hl]
  refine ⟨fun hi => ⟨hi, fun x H2 ⟨e3, e4⟩ => .inl ⟨e3, .int (lo + (i : Nat)), ?_, ?_⟩⟩, fun hi => Nat.le_of_eq hi.symm⟩
  · rw [List.getElem?_map, List.getElem?_range hi]; rfl
  · subst e4; exact .int _
theorem ir_rangeC {S : List Addr} {lo c : Int} {n : Nat} : IRel K g H S ((List.range n).map fun i => PyData.int (lo + (i : Nat) * c)) (Itc lo c n) := by
  intro i g1 H1 e1 e2 h
  have hl : ((List.range n).map fun i => PyData.int (lo + (i : Nat) * c)).length = n := by simp
  rw [hl]
  refine ⟨fun hi => ⟨hi, fun x H2 ⟨e3, e4⟩ => .inl ⟨e3, .int (lo + (i : Nat) * c), ?_, ?_⟩⟩, fun hi => Nat.le_of_eq hi.symm⟩
  · rw [List.getElem?_map, List.getElem?_range hi]; rfl
  · subst e4; exact .int _
end
section
variable {X : Cx} {W : WX} {tg e : Expr} {A : AE} {R : AA}
theorem i_it (h : PE X e (eL X.K W A)) : PI X tg e (iL X.K W (aIt A)) := PIm (pi_or (pi_list h) (pi_or (pi_tup h) (pi_str h))) fun σ H Q ⟨g, sl, r, st, e, k⟩ => by
  unfold aIt bd at e
  cases eA : A sl with
  | none => rw [eA] at e; cases e
  | some q =>
  rw [eA] at e
  cases q with
  | ex xa s1 =>
    cases e
    exact .inl ⟨g, sl, _, st, eA, k⟩
  | ok t s1 =>
  dsimp only at e
  split at e
  · cases e
    refine .inl ⟨g, sl, _, st, eA, fun g1 H1 v S n1 st1 r1 f1 => ?_⟩
    obtain ⟨_, r1⟩ := r1
    cases r1 with
    | lst h1 h2 => exact ⟨_, rfl, ⟨_, SqL.of (st1.ex _ _ h1)⟩, k g1 H1 _ [] n1 st1 (fun _ h => nomatch h) (ir_list (fun g2 H2 e1 e2 _ => SqL.of (e2 _ _ (e1 _ _ h1))) h2)⟩
  · cases e
    refine .inr (.inl ⟨g, sl, _, st, eA, fun g1 H1 v S n1 st1 r1 f1 => ?_⟩)
    obtain ⟨_, r1⟩ := r1
    cases r1 with
    | tup h1 h2 => exact ⟨_, rfl, ⟨_, SqT.of (st1.ex _ _ h1)⟩, k g1 H1 _ [] n1 st1 (fun _ h => nomatch h) (ir_tup (SqT.of h1) h2)⟩
  · cases e
    refine .inr (.inr ⟨g, sl, _, st, eA, fun g1 H1 v S n1 st1 r1 f1 => ?_⟩)
    obtain ⟨_, r1⟩ := r1
    cases r1
    exact ⟨_, rfl, k g1 H1 _ [] n1 st1 (fun _ h => nomatch h) ir_str⟩
  · cases e
    refine .inl ⟨g, sl, _, st, eA, fun g1 H1 v S n1 st1 r1 f1 => ?_⟩
    obtain ⟨_, a, vs, rfl, h1, h2⟩ := r1
    exact ⟨_, rfl, ⟨_, ex_l st1.ex h1⟩, k g1 H1 _ [] n1 st1 (fun _ h => nomatch h) (ir_list (fun g2 H2 e1 e2 _ => ex_l e2 (ex_l e1 h1)) h2)⟩
  · cases e
    refine .inr (.inl ⟨g, sl, _, st, eA, fun g1 H1 v S n1 st1 r1 f1 => ?_⟩)
    obtain ⟨_, a, vs, rfl, h1, h2⟩ := r1
    exact ⟨_, rfl, ⟨_, ex_t st1.ex h1⟩, k g1 H1 _ [] n1 st1 (fun _ h => nomatch h) (ir_tup h1 h2)⟩
  · split at e
    · rename_i m ds em
      cases e
      refine .inl ⟨g, sl, _, st, eA, fun g1 H1 v S n1 st1 r1 f1 => ?_⟩
      obtain ⟨n2, st2, q⟩ := st1.frzT n1 f1 r1 em
      cases q with
      | lst h1 h2 => exact ⟨_, rfl, ⟨_, SqL.of (st2.ex _ _ h1)⟩, k _ H1 _ [] n2 st2 (fun _ h => nomatch h) (ir_list (fun g2 H2 e1 e2 _ => SqL.of (e2 _ _ (e1 _ _ h1))) h2)⟩
    · cases e
  · rename_i i
    split at e
    · rename_i ms e2
      obtain ⟨ds, e3, rfl⟩ := Option.map_eq_some_iff.mp e
      refine .inl ⟨g, sl, _, st, eA, fun g1 H1 v S n1 st1 r1 f1 => ?_⟩
      obtain ⟨u, U, h1, h2, h3, h4⟩ := st1.w i _ e2
      rw [r1.2] at h1; cases h1
      cases h2 with
      | @lst a vs _ U' ha hr =>
        have hr0 := hr
        rw [lvs_eq e3] at hr
        refine ⟨_, rfl, ⟨_, SqL.of ha⟩, k g1 H1 _ (a :: U') n1 st1 ⟨_, _, r1.2, by unfold wAt; rw [e2], .lst ha hr0, h3, h4⟩ (ir_list (fun g2 H2 e1 e2 hh => SqL.of ((hh a List.mem_cons_self).trans ha)) hr.leaves.2)⟩
    · rename_i ms e2
      obtain ⟨ds, e3, rfl⟩ := Option.map_eq_some_iff.mp e
      refine .inl ⟨g, sl, _, st, eA, fun g1 H1 v S n1 st1 r1 f1 => ?_⟩
      obtain ⟨u, U, ⟨h1, _⟩, h2, h3, h4⟩ := st1.p i _ e2
      rw [r1.2] at h1; cases h1
      cases h2 with
      | @lst a vs _ U' ha hr =>
        have hr0 := hr
        rw [lvs_eq e3] at hr
        refine ⟨_, rfl, ⟨_, SqL.of ha⟩, k g1 H1 _ (a :: U') n1 st1 ⟨_, _, r1.2, by unfold wAt; rw [e2], .lst ha hr0, h3, h4⟩ (ir_list (fun g2 H2 e1 e2 hh => SqL.of ((hh a List.mem_cons_self).trans ha)) hr.leaves.2)⟩
    · rename_i ms e2
      obtain ⟨ds, e3, rfl⟩ := Option.map_eq_some_iff.mp e
      refine .inl ⟨g, sl, _, st, eA, fun g1 H1 v S n1 st1 r1 f1 => ?_⟩
      obtain ⟨u, U, ⟨h1, _⟩, h2, h3, h4⟩ := st1.k i _ e2
      rw [r1.2] at h1; cases h1
      cases h2 with
      | @lst a vs _ U' ha hr =>
        rw [lvs_eq e3] at hr
        exact ⟨_, rfl, ⟨_, SqL.of ha⟩, k g1 H1 _ (a :: U') n1 st1 (fun b hb => st1.ro b ⟨_, h4 b hb⟩) (ir_list (fun g2 H2 e1 e2 hh => SqL.of ((hh a List.mem_cons_self).trans ha)) hr.leaves.2)⟩
    · cases e
  · cases e
/-! range -/
def rng (lo : Int) (n : Nat) : List D := (List.range n).map fun i => PyData.int (lo + (i : Nat))
def aRng1 (R : AA) : AI := fun s => bd (R s) fun ts s1 => match ts with
  | [.d (.int j)] => if -(2 ^ 62) ≤ j ∧ j < 2 ^ 62 then some (.ok (rng 0 j.toNat, none) s1) else none
  | _ => none
def aRng2 (R : AA) : AI := fun s => bd (R s) fun ts s1 => match ts with
  | [.d (.int i), .d (.int j)] => if -(2 ^ 62) ≤ i ∧ i < 2 ^ 62 ∧ -(2 ^ 62) ≤ j ∧ j < 2 ^ 62 then some (.ok (rng i (j - i).toNat, none) s1) else none
  | _ => none
theorem run1I {ω α : Type} {K : PySem.W.Frag} {R : L2.St → G → Hp → ω → α → List Addr → Prop} {g : G} {H : Hp} {σ : L2.St} {sl : SL} {A : SL → Option (Res α)} {f : α → SL → Option (Res (List D × Option Nat))} {r : Res (List D × Option Nat)} {Q : ω → Hp → Prop} {RR : It → Hp → Prop} (st : Sta K g H σ sl) (h : bd (A sl) f = some r) (k : IK K W g H σ RR r)
    (hk : ∀ a s1 g1 H1 v S, f a s1 = some r → Nx g H g1 H1 → Sta K g1 H1 σ s1 → R σ g1 H1 v a S → Fresh g H S → Q v H1) : lft K R W A σ H Q :=
  run1 st h (fun xa s e => by subst e; exact k) hk
theorem i_range1 {a : Expr} {p pos : Pos} (hg : Gl X "range") (hm : X.mg "range" = none) (ha : PA X [a] (aL X.K W R)) (hs : starEach [a] X.env = [(false, eval a X.env)] := by rfl) : PI X tg (.Call (.Name "range" p) [a] [] pos) (iL X.K W (aRng1 R)) :=
  PIm (pi_range1 hg hm ha hs) fun σ H Q ⟨g, sl, r, st, e, k⟩ => run1I (R := RL X.K) st e k fun ts s1 g1 H1 vs S e1 n1 st1 r1 f1 => by
    split at e1
    · split at e1
      · rename_i j hj
        cases e1
        obtain ⟨v, rfl, _, r⟩ := r1.one
        cases r
        exact ⟨j, rfl, hj.1, hj.2, k g1 H1 _ [] n1 st1 (fun _ h => nomatch h) (ir_range (lo := 0))⟩
      · cases e1
    · cases e1
theorem i_range2 {a b : Expr} {p pos : Pos} (hg : Gl X "range") (hm : X.mg "range" = none) (ha : PA X [a, b] (aL X.K W R)) (hs : starEach [a, b] X.env = [(false, eval a X.env), (false, eval b X.env)] := by rfl) (hs2 : starEach [b] X.env = [(false, eval b X.env)] := by rfl) : PI X tg (.Call (.Name "range" p) [a, b] [] pos) (iL X.K W (aRng2 R)) :=
  PIm (pi_range2 hg hm ha hs hs2) fun σ H Q ⟨g, sl, r, st, e, k⟩ => run1I (R := RL X.K) st e k fun ts s1 g1 H1 vs S e1 n1 st1 r1 f1 => by
    split at e1
    · split at e1
      · rename_i i j hj
        cases e1
        obtain ⟨v, w, A, B, rfl, rfl, ⟨_, q1⟩, ⟨_, q2⟩, _⟩ := r1.two
        cases q1; cases q2
        exact ⟨i, j, rfl, hj, k g1 H1 _ [] n1 st1 (fun _ h => nomatch h) ir_range⟩
      · cases e1
    · cases e1
end
end Y

/-! Layer Y, part K: defs and calls. -/
namespace Y
open PySem PySem.Spec PyProof.Rows L2 Evl
/-- what a def answers: a value, what became of the trees it was handed -/
inductive FR where
  | ok (t : TV) (outs : SL) | ex (xa : XA) (outs : SL)
abbrev Den := List SV → Option FR
def outP : List SV → SL → SL
  | [], _ => []
  | a :: as, s => (match a, s with
    | .p _, some (.p m) :: _ => some (.p m)
    | _, _ => none) :: outP as s.tail
def start0 (N : Nat) (args : List SV) : SL := args.map some ++ List.replicate (N - args.length) none
/-- a def's body run (np parameters, N slots); exc: may an exception leave it? -/
def run (np N : Nat) (exc : Bool) (B : AS) : Den := fun args => if args.length = np then match B (start0 N args) with
  | some (.nx s) => some (.ok (.d .none) (outP args s))
  | some (.rt (.d x) s) => some (.ok (.d x) (outP args s))
  | some (.rt (.t m) s) => some (.ok (.t m) (outP args s))
  | some (.ex xa s) => if exc = true then some (.ex xa (outP args s)) else none
  | _ => none else none
def FK (K : PySem.W.Frag) (g : G) (H : Hp) (vs : List V) (Q : VK) (E : XK) : FR → Prop
  | .ok t outs => ∀ g' H' v S, Nx g H g' H' → Sta K g' H' (vs.map some) outs → RTV K g' H' (vs.map some) v t S → Fresh g H S → Q v H'
  | .ex xa outs => ∀ g' H' cls d, Nx g H g' H' → Sta K g' H' (vs.map some) outs → RX K g' cls d H' xa → E cls d H'
def liftV (K : PySem.W.Frag) (den : Den) : Sp := fun vs H Q E => ∃ g args r, Sta K g H (vs.map some) (args.map some) ∧ den args = some r ∧ FK K g H vs Q E r
section
variable {K : PySem.W.Frag} {g g' g0 : G} {H H' H0 : Hp} {σ : L2.St} {sl : SL}
theorem Sta.ext (st : Sta K g H σ sl) (n : Nat) : Sta K g H (σ ++ List.replicate n none) (sl ++ List.replicate n none) := by
  have lt : ∀ {i : Nat} {y : SV}, (sl ++ List.replicate n none)[i]? = some (some y) → sl[i]? = some (some y) ∧ (σ ++ List.replicate n none)[i]? = σ[i]? := fun {i y} h => by
    by_cases hi : i < sl.length
    · rw [List.getElem?_append_left hi] at h
      exact ⟨h, List.getElem?_append_left (by rw [st.len]; exact hi)⟩
    · rw [List.getElem?_append_right (by omega), List.getElem?_replicate] at h
      split at h <;> cases h
  refine ⟨st.ex, st.lf, st.la, st.ro, by simp [st.len], fun i y q => ?_, fun i y q => ?_, fun i y q => ?_, fun i y q => ?_, fun i q => ?_, fun i y q => ?_⟩
  all_goals
    obtain ⟨h1, h2⟩ := lt q
    rw [h2]
  · exact st.d i y h1
  · exact st.w i y h1
  · exact st.p i y h1
  · exact st.k i y h1
  · exact st.h i h1
  · exact st.x i y h1
theorem outP_get : ∀ {args : List SV} {s : SL} {i : Nat} {y : SV}, (outP args s)[i]? = some (some y) → ∃ m m0, y = .p m ∧ s[i]? = some (some (.p m)) ∧ args[i]? = some (.p m0)
  | [], s, i, y, h => by unfold outP at h; simp at h
  | a :: as, s, 0, y, h => by
    unfold outP at h
    rw [List.getElem?_cons_zero] at h
    have h' := Option.some.inj h
    split at h'
    · rename_i m0 m t
      cases h'
      exact ⟨m, m0, rfl, rfl, rfl⟩
    · cases h'
  | a :: as, s, i + 1, y, h => by
    unfold outP at h
    rw [List.getElem?_cons_succ] at h
    obtain ⟨m, m0, h1, h2, h3⟩ := outP_get h
    refine ⟨m, m0, h1, ?_, by simpa using h3⟩
    cases s with
    | nil => simp at h2
    | cons o t => simpa using h2
theorem outP_len : ∀ {args : List SV} {s : SL}, (outP args s).length = args.length
  | [], s => rfl
  | a :: as, s => by
    unfold outP
    rw [List.length_cons, List.length_cons, outP_len]
/-- behind the body: what became of the parameters' trees -/
theorem Sta.outs {vs : List V} {args : List SV} {σ' : L2.St} {s' : SL} (st0 : Sta K g H (vs.map some) (args.map some)) (n : Nx g H g' H') (st : Sta K g' H' σ' s') : Sta K g' H' (vs.map some) (outP args s') := by
  refine ⟨st.ex, st.lf, st.la, st.ro, by rw [st0.len, List.length_map, outP_len], fun i y q => ?_, fun i y q => ?_, fun i y q => ?_, fun i y q => ?_, fun i q => ?_, fun i y q => ?_⟩
  all_goals
    obtain ⟨m, m0, e, h1, h2⟩ := outP_get q
  · cases e
  · cases e
  · cases e
    obtain ⟨v, S, ⟨k1, k2⟩, k3⟩ := st.p i y h1
    obtain ⟨u, U, ⟨j1, j2⟩, _⟩ := st0.p i m0 (by rw [List.getElem?_map, h2]; rfl)
    rw [n.pi, j2] at k2
    cases k2
    exact ⟨v, S, ⟨j1, by rw [n.pi]; exact j2⟩, k3⟩
  · cases e
  · cases e
  · cases e
end
section
variable {P : Program} {w : World} {K : PySem.W.Frag} {mg : Str → Option Value} {base : Heap} {x qual : Str} {params : Arguments} {body : List Stmt} {scope : Scope} {f : Addr} {fd : FuncData} {N ps : List Str} {k : Nat}
theorem start_eq {N : List Str} {vs : List V} : L2.start N vs = vs.map some ++ List.replicate (N.length - vs.length) none := rfl
theorem body_sk {g : G} {H : Hp} {vs : List V} {args : List SV} {Q : VK} {E : XK} {W : WX} {B : AS} {np n : Nat} {exc : Bool} {r : FR} (hW : exc = true → ∀ cls d σ H', E cls d H' → W cls d σ H') (hN : N.length = n) (st : Sta K g H (vs.map some) (args.map some)) (e : run np n exc B args = some r) (k : FK K g H vs Q E r) :
    sL K W B { nx := fun _ H' => Q .non H', rt := Q } (L2.start N vs) H ∧ args.length = np ∧ vs.length = np := by
  unfold run at e
  split at e
  · rename_i hl
    have hvs : vs.length = args.length := by have := st.len; simpa using this
    refine ⟨?_, hl, hvs.trans hl⟩
    have st0 : Sta K g H (L2.start N vs) (start0 n args) := by
      rw [start_eq, hN, hvs]
      exact st.ext _
    cases eB : B (start0 n args) with
    | none => rw [eB] at e; cases e
    | some q =>
      rw [eB] at e
      refine ⟨g, _, q, st0, eB, ?_⟩
      cases q with
      | nx s =>
        cases e
        exact fun g' H' σ' n' st' => k g' H' .non [] n' (st.outs n' st') ⟨rfl, .non⟩ (Fresh.nil _ _)
      | bk s => cases e
      | ct s => cases e
      | rt t s =>
        cases t with
        | d x => cases e; exact fun g' H' σ' v S n' st' r f => k g' H' v S n' (st.outs n' st') r f
        | t m => cases e; exact fun g' H' σ' v S n' st' r f => k g' H' v S n' (st.outs n' st') r f
        | var i => cases e
        | x ds => cases e
        | c ds => cases e
        | sub p i j m => cases e
      | ex xa s =>
        dsimp only at e
        split at e
        · rename_i he
          cases e
          exact fun g' H' σ' cls d n' st' rx => hW he cls d σ' H' (k g' H' cls d n' (st.outs n' st') rx)
        · cases e
  · cases e
/-- a def that lets no exception out -/
theorem ok0 (F : FunD K x qual params body scope [] [] f fd) (S : FnScope N ps scope) {B : AS} (n : Nat) (hN : N.length = n)
    (hbody : ∀ (cdv : Value) (A : Around) (outer : List Env) (s : Shared) (H : Hp) (E : XK), Room k (A.deeper (envOfC qual scope s.heap.objs.size f cdv)) → PSs (cxOf CX0 P w K mg base N qual scope f cdv A outer s H E).nox body (sL K (fun _ _ _ _ => False) B)) :
    FnOk P w K mg base CX0 (k + 1) f fd ps (liftV K (run ps.length n false B)) := by
  refine F.ok S (fun vs H Q E ⟨g, args, r, st, e, k⟩ => (body_sk (W := fun _ _ _ _ => False) (exc := false) (fun z => by cases z) hN st e k).2.2) fun cdv A outer s H vs Q E hr h => ⟨_, (hbody cdv A outer s H E hr).nox, ?_⟩
  obtain ⟨g, args, r, st, e, k⟩ := h
  exact (body_sk (exc := false) (fun z => by cases z) hN st e k).1
/-- a def that may raise -/
theorem okX (F : FunD K x qual params body scope [] [] f fd) (S : FnScope N ps scope) {B : AS} (n : Nat) (hN : N.length = n)
    (hbody : ∀ (cdv : Value) (A : Around) (outer : List Env) (s : Shared) (H : Hp) (E : XK), Room k (A.deeper (envOfC qual scope s.heap.objs.size f cdv)) → PSs (cxOf (L2.CX P w) P w K mg base N qual scope f cdv A outer s H E) body (sL K (fun cls d _ H => E cls d H) B)) :
    FnOk P w K mg base (L2.CX P w) (k + 1) f fd ps (liftV K (run ps.length n true B)) := by
  refine F.ok S (fun vs H Q E ⟨g, args, r, st, e, k⟩ => (body_sk (W := fun cls d _ H => E cls d H) (fun _ _ _ _ _ z => z) hN st e k).2.2) fun cdv A outer s H vs Q E hr h => ⟨_, hbody cdv A outer s H E hr, ?_⟩
  obtain ⟨g, args, r, st, e, k⟩ := h
  exact (body_sk (fun _ _ _ _ _ z => z) hN st e k).1
end
/-! ### calls -/
/-- how an argument is handed over: as data, its slot's tree to be changed, to be read -/
inductive Mo where
  | f | m (i : Nat) | r (i : Nat)
def ctAt (s : SL) (i : Nat) : Option MV := match s[i]? with
  | some (some (.w m)) => some m
  | some (some (.p m)) => some m
  | some (some (.k m)) => some m
  | _ => none
/-- first: what is data -/
def argF1 (mo : Mo) (t : TV) (s : SL) : Option (D × SL) := match mo, t with
  | .f, .x _ => some (.none, s)
  | .f, t => fz s t
  | _, _ => some (.none, s)
def argF : List Mo → List TV → SL → Option (List D × SL)
  | [], [], s => some ([], s)
  | mo :: ms, t :: ts, s => (argF1 mo t s).bind fun r => (argF ms ts r.2).map fun q => (r.1 :: q.1, q.2)
  | _, _, _ => none
/-- then: the trees -/
def argM1 (s : SL) (mo : Mo) (t : TV) (x : D) : Option SV := match mo, t with
  | .m i, .var j => if i = j then (wAt s i).map .p else none
  | .r i, .var j => if i = j then (ctAt s i).map .k else none
  | .r _, .d y => some (.d y)
  | .r _, .x ds => some (.x ds)
  | .f, .x ds => some (.x ds)
  | .f, _ => some (.d x)
  | _, _ => none
def argM (s : SL) : List Mo → List TV → List D → Option (List SV)
  | [], [], [] => some []
  | mo :: ms, t :: ts, x :: xs => (argM1 s mo t x).bind fun a => (argM s ms ts xs).map (a :: ·)
  | _, _, _ => none
/-- what became of the trees, put back -/
def argB1 (mo : Mo) (o : Option SV) (s : SL) : Option SL := match mo with
  | .m i => match o with
    | some (.p m) => some (putAt s i m)
    | _ => none
  | _ => some s
def argB : List Mo → SL → SL → Option SL
  | [], _, s => some s
  | mo :: ms, o :: os, s => (argB1 mo o s).bind fun s1 => argB ms os s1
  | _, [], _ => none
def muIs : List Mo → List Nat
  | [] => []
  | .m i :: ms => i :: muIs ms
  | _ :: ms => muIs ms
def roIs : List Mo → List Nat
  | [] => []
  | .r i :: ms => i :: roIs ms
  | _ :: ms => roIs ms
def okMo (ms : List Mo) : Bool := decide (muIs ms).Nodup && (roIs ms).all fun i => !(muIs ms).contains i
def callT (exc : Bool) (den : Den) (ms : List Mo) (ts : List TV) (s1 : SL) : Option (Res TV) := (argF ms ts s1).bind fun p => (argM p.2 ms ts p.1).bind fun args => (den args).bind fun r => match r with
  | .ok t outs => (argB ms outs p.2).map fun s3 => .ok t s3
  | .ex xa outs => if exc = true then (argB ms outs p.2).map fun s3 => .ex xa s3 else none
/-- the child that was handed over, put back -/
def backC (N : Nat) (q : Sb) : Res TV → Option (Res TV)
  | .ok t s => (closeS N q.p q.i q.j q.m s).map (.ok t)
  | .ex xa s => (closeS N q.p q.i q.j q.m s).map (.ex xa)
def aCallG (exc : Bool) (den : Den) (ms : List Mo) (R : AA) : AE := fun s => bd (R s) fun ts s1 => match unsub s1.length ts with
  | none => callT exc den ms ts s1
  | some (ts', q) => (kid q.m q.j).bind fun c => (callT exc den ms ts' (s1 ++ [some (.w c)])).bind (backC s1.length q)
section
variable {K : PySem.W.Frag} {g g0 : G} {H H0 : Hp} {σ : L2.St}
/-- the arguments behind the first pass -/
structure ArgQ (K : PySem.W.Frag) (F : Hp) (σ : L2.St) (mo : Mo) (t : TV) (v : V) (y : D) : Prop where
  x : ∀ ds, t = .x ds → ∃ a ws, v = V.ref a ∧ SqL K F a ws ∧ RDs K F ws ds
  vr : ∀ i, t = .var i → σ[i]? = some (some v)
  d : ∀ z, t = .d z → RD K F v z
  f : mo = .f → (∀ ds, t ≠ .x ds) → RD K F v y
inductive ArgR (K : PySem.W.Frag) (F : Hp) (σ : L2.St) : List Mo → List TV → List V → List D → Prop
  | nil : ArgR K F σ [] [] [] []
  | cons {mo ms t ts v vs y xs} : ArgQ K F σ mo t v y → ArgR K F σ ms ts vs xs → ArgR K F σ (mo :: ms) (t :: ts) (v :: vs) (y :: xs)
theorem argF_ok : ∀ {ms : List Mo} {ts : List TV} {vs : List V} {S : List Addr} {g : G} {sl sl' : SL} {xs : List D}, Nx g0 H0 g H → Fresh g0 H0 S → Sta K g H σ sl → RTVs K g H σ vs ts S → argF ms ts sl = some (xs, sl') →
    ∃ g', Nx g0 H0 g' H ∧ Sta K g' H σ sl' ∧ Ex g.F g'.F ∧ ArgR K g'.F σ ms ts vs xs
  | [], [], vs, _, g, sl, sl', xs, n, f, st, r, h => by cases r; cases h; exact ⟨g, n, st, fun _ _ z => z, .nil⟩
  | [], _ :: _, _, _, _, _, _, _, n, f, st, r, h => by cases h
  | mo :: ms, [], _, _, _, _, _, _, n, f, st, r, h => by cases h
  | mo :: ms, t :: ts, [], _, g, sl, sl', xs, n, f, st, r, h => by cases r
  | mo :: ms, t :: ts, v :: vs, _, g, sl, sl', xs, n, f, st, r, h => by
    cases r with
    | @cons _ _ _ _ S1 S2 q r ap =>
    obtain ⟨⟨y, s1⟩, e0, h⟩ := Option.bind_eq_some_iff.mp h
    obtain ⟨⟨ys, s2⟩, e1, e2⟩ := Option.map_eq_some_iff.mp h
    cases e2
    have fr := fun a z => f a (List.mem_append_right _ z)
    obtain ⟨g1, n1, st1, ex1, kp, hf⟩ : ∃ g1, Nx g0 H0 g1 H ∧ Sta K g1 H σ s1 ∧ Ex g.F g1.F ∧ (∀ u tu U, RTV K g H σ u tu U → (∀ a ∈ S1, a ∉ U) → RTV K g1 H σ u tu U) ∧ (mo = .f → (∀ ds, t ≠ .x ds) → RD K g1.F v y) := by
      have triv : s1 = sl → (mo = .f → ∃ ds, t = .x ds) → ∃ g1, Nx g0 H0 g1 H ∧ Sta K g1 H σ s1 ∧ Ex g.F g1.F ∧ (∀ u tu U, RTV K g H σ u tu U → (∀ a ∈ S1, a ∉ U) → RTV K g1 H σ u tu U) ∧ (mo = .f → (∀ ds, t ≠ .x ds) → RD K g1.F v y) := fun e hm => by
        subst e
        exact ⟨g, n, st, fun _ _ z => z, fun _ _ _ q _ => q, fun hm' hx => let ⟨ds, e⟩ := hm hm'; absurd e (hx ds)⟩
      have fzz : fz sl t = some (y, s1) → ∃ g1, Nx g0 H0 g1 H ∧ Sta K g1 H σ s1 ∧ Ex g.F g1.F ∧ (∀ u tu U, RTV K g H σ u tu U → (∀ a ∈ S1, a ∉ U) → RTV K g1 H σ u tu U) ∧ (mo = .f → (∀ ds, t ≠ .x ds) → RD K g1.F v y) := fun e => by
        obtain ⟨g1, n1, st1, q1, kp, ex1⟩ := fz_keep n (fun a z => f a (List.mem_append_left _ z)) st q e
        exact ⟨g1, n1, st1, ex1, kp, fun _ _ => q1⟩
      cases mo with
      | m i => cases e0; exact triv rfl fun z => nomatch z
      | r i => cases e0; exact triv rfl fun z => nomatch z
      | f =>
        cases t with
        | x ds => cases e0; exact triv rfl fun _ => ⟨ds, rfl⟩
        | d z => exact fzz e0
        | t z => exact fzz e0
        | var z => exact fzz e0
        | c z => exact fzz e0
        | sub p i j m => exact fzz e0
    obtain ⟨g2, n2, st2, ex2, rr⟩ := argF_ok n1 fr st1 (RTVs.keep kp r ap) e1
    refine ⟨g2, n2, st2, fun a o z => ex2 a o (ex1 a o z), .cons ⟨fun ds e => ?_, fun i e => ?_, fun z e => ?_, fun h1 h2 => (hf h1 h2).mono ex2⟩ rr⟩
    · subst e; obtain ⟨_, a, ws, k1, k2, k3⟩ := q; exact ⟨a, ws, k1, ex_l ex2 (ex_l ex1 k2), (k3.mono ex1).mono ex2⟩
    · subst e; exact q.2
    · subst e; exact (q.2.mono ex1).mono ex2
/-- one argument as it is handed over -/
inductive ArgE (K : PySem.W.Frag) (F : Hp) (σ : L2.St) (s : SL) (mo : Mo) (v : V) : SV → Prop
  | d {x} : (∀ i, mo ≠ .m i) → RD K F v x → ArgE K F σ s mo v (.d x)
  | x {ds a ws} : (∀ i, mo ≠ .m i) → v = .ref a → SqL K F a ws → RDs K F ws ds → ArgE K F σ s mo v (.x ds)
  | p {i m} : mo = .m i → σ[i]? = some (some v) → wAt s i = some m → ArgE K F σ s mo v (.p m)
  | k {i m} : mo = .r i → σ[i]? = some (some v) → ctAt s i = some m → ArgE K F σ s mo v (.k m)
inductive ArgL (K : PySem.W.Frag) (F : Hp) (σ : L2.St) (s : SL) : List Mo → List V → List SV → Prop
  | nil : ArgL K F σ s [] [] []
  | cons {mo ms v vs a as} : ArgE K F σ s mo v a → ArgL K F σ s ms vs as → ArgL K F σ s (mo :: ms) (v :: vs) (a :: as)
theorem ArgL.length {F : Hp} {s : SL} : ∀ {ms : List Mo} {vs : List V} {as : List SV}, ArgL K F σ s ms vs as → vs.length = as.length ∧ ms.length = as.length
  | _, _, _, .nil => ⟨rfl, rfl⟩
  | _, _, _, .cons _ r => ⟨by rw [List.length_cons, List.length_cons, r.length.1], by rw [List.length_cons, List.length_cons, r.length.2]⟩
theorem ArgL.get {F : Hp} {s : SL} : ∀ {ms : List Mo} {vs : List V} {as : List SV} {j : Nat} {a : SV}, ArgL K F σ s ms vs as → as[j]? = some a → ∃ mo v, ms[j]? = some mo ∧ vs[j]? = some v ∧ ArgE K F σ s mo v a
  | _, _, _, _, _, .nil, h => by simp at h
  | _, _, _, 0, _, .cons e _, h => by simp at h; subst h; exact ⟨_, _, rfl, rfl, e⟩
  | _, _, _, j + 1, _, .cons _ r, h => by
    obtain ⟨mo, v, h1, h2, h3⟩ := ArgL.get (j := j) r (by simpa using h)
    exact ⟨mo, v, by simpa using h1, by simpa using h2, h3⟩
theorem argM1_ok {F : Hp} {s : SL} {mo : Mo} {t : TV} {v : V} {y : D} {a : SV} (q : ArgQ K F σ mo t v y) (h : argM1 s mo t y = some a) : ArgE K F σ s mo v a := by
  unfold argM1 at h
  split at h
  · split at h
    · rename_i e; subst e
      obtain ⟨m, e1, rfl⟩ := Option.map_eq_some_iff.mp h
      exact .p rfl (q.vr _ rfl) e1
    · cases h
  · split at h
    · rename_i e; subst e
      obtain ⟨m, e1, rfl⟩ := Option.map_eq_some_iff.mp h
      exact .k rfl (q.vr _ rfl) e1
    · cases h
  · cases h; exact .d (fun _ z => nomatch z) (q.d _ rfl)
  · cases h; obtain ⟨a, ws, h1, h2, h3⟩ := q.x _ rfl; exact .x (fun _ z => nomatch z) h1 h2 h3
  · cases h; obtain ⟨a, ws, h1, h2, h3⟩ := q.x _ rfl; exact .x (fun _ z => nomatch z) h1 h2 h3
  · rename_i hx
    cases h; exact .d (fun _ z => nomatch z) (q.f rfl fun ds e => hx ds e)
  · cases h
theorem argM_ok {F : Hp} {s : SL} : ∀ {ms : List Mo} {ts : List TV} {vs : List V} {xs : List D} {as : List SV}, ArgR K F σ ms ts vs xs → argM s ms ts xs = some as → ArgL K F σ s ms vs as
  | _, _, _, _, as, .nil, h => by cases h; exact .nil
  | _, _, _, _, as, .cons q r, h => by
    unfold argM at h
    obtain ⟨a, e1, h⟩ := Option.bind_eq_some_iff.mp h
    obtain ⟨q', e2, rfl⟩ := Option.map_eq_some_iff.mp h
    exact .cons (argM1_ok q e1) (argM_ok r e2)
/-! the slots that are handed over to be changed -/
def ixOf : List Mo → Nat → Option Nat
  | [], _ => none
  | .m i' :: ms, i => if i' = i then some 0 else (ixOf ms i).map (· + 1)
  | _ :: ms, i => (ixOf ms i).map (· + 1)
theorem ixOf_none : ∀ {ms : List Mo} {i : Nat}, i ∉ muIs ms → ixOf ms i = none
  | [], _, _ => rfl
  | .m i' :: ms, i, h => by
    unfold ixOf
    have h' : i ∉ i' :: muIs ms := h
    rw [if_neg (fun e : i' = i => h' (e ▸ List.mem_cons_self)), ixOf_none fun z => h' (List.mem_cons_of_mem _ z)]; rfl
  | .f :: ms, i, h => by unfold ixOf; rw [ixOf_none (show i ∉ muIs ms from h)]; rfl
  | .r _ :: ms, i, h => by unfold ixOf; rw [ixOf_none (show i ∉ muIs ms from h)]; rfl
theorem ixOf_get : ∀ {ms : List Mo} {i j : Nat}, ixOf ms i = some j → ms[j]? = some (.m i)
  | [], _, _, h => by cases h
  | .m i' :: ms, i, j, h => by
    unfold ixOf at h
    split at h
    · rename_i e; cases h; subst e; rfl
    · obtain ⟨j', e1, rfl⟩ := Option.map_eq_some_iff.mp h
      rw [List.getElem?_cons_succ]; exact ixOf_get e1
  | .f :: ms, i, j, h => by
    unfold ixOf at h
    obtain ⟨j', e1, rfl⟩ := Option.map_eq_some_iff.mp h
    rw [List.getElem?_cons_succ]; exact ixOf_get e1
  | .r _ :: ms, i, j, h => by
    unfold ixOf at h
    obtain ⟨j', e1, rfl⟩ := Option.map_eq_some_iff.mp h
    rw [List.getElem?_cons_succ]; exact ixOf_get e1
theorem mem_muIs : ∀ {ms : List Mo} {i j : Nat}, ms[j]? = some (.m i) → i ∈ muIs ms
  | [], _, _, h => by simp at h
  | mo :: ms, i, 0, h => by simp at h; subst h; exact List.mem_cons_self
  | mo :: ms, i, j + 1, h => by
    have := mem_muIs (ms := ms) (by simpa using h)
    cases mo with
    | m i' => exact List.mem_cons_of_mem _ this
    | f => exact this
    | r _ => exact this
theorem mem_roIs : ∀ {ms : List Mo} {i j : Nat}, ms[j]? = some (.r i) → i ∈ roIs ms
  | [], _, _, h => by simp at h
  | mo :: ms, i, 0, h => by simp at h; subst h; exact List.mem_cons_self
  | mo :: ms, i, j + 1, h => by
    have := mem_roIs (ms := ms) (by simpa using h)
    cases mo with
    | r i' => exact List.mem_cons_of_mem _ this
    | f => exact this
    | m _ => exact this
theorem ixOf_of : ∀ {ms : List Mo} {i j : Nat}, (muIs ms).Nodup → ms[j]? = some (.m i) → ixOf ms i = some j
  | [], _, _, _, h => by simp at h
  | .m i' :: ms, i, 0, _, h => by simp at h; unfold ixOf; rw [if_pos h]
  | .m i' :: ms, i, j + 1, nd, h => by
    have h' : ms[j]? = some (.m i) := by simpa using h
    have nd' : i' ∉ muIs ms ∧ (muIs ms).Nodup := List.nodup_cons.mp nd
    unfold ixOf
    rw [if_neg (fun e : i' = i => nd'.1 (e ▸ mem_muIs h')), ixOf_of nd'.2 h']; rfl
  | .f :: ms, i, 0, _, h => by simp at h
  | .f :: ms, i, j + 1, nd, h => by unfold ixOf; rw [ixOf_of (show (muIs ms).Nodup from nd) (by simpa using h)]; rfl
  | .r _ :: ms, i, 0, _, h => by simp at h
  | .r _ :: ms, i, j + 1, nd, h => by unfold ixOf; rw [ixOf_of (show (muIs ms).Nodup from nd) (by simpa using h)]; rfl
theorem putAt_ne {s : SL} {i j : Nat} {m : MV} (h : i ≠ j) : (putAt s i m)[j]? = s[j]? := by
  unfold putAt; split <;> exact List.getElem?_set_ne h
theorem putAt_len {s : SL} {i : Nat} {m : MV} : (putAt s i m).length = s.length := by unfold putAt; split <;> exact List.length_set
theorem putAt_get {s : SL} {i : Nat} {m : MV} : (putAt s i m)[i]? = (s[i]?).map fun o => some (match o with
    | some (.p _) => SV.p m
    | _ => .w m) := by
  unfold putAt
  by_cases hi : i < s.length
  · split
    · rename_i e
      rw [List.getElem?_set_self hi, e]; rfl
    · rename_i ne
      rw [List.getElem?_set_self hi]
      cases e : s[i]? with
      | none => exact absurd (List.getElem?_eq_none_iff.mp e) (by omega)
      | some o =>
        cases o with
        | none => rfl
        | some y => cases y <;> first | rfl | exact absurd e (ne _)
  · have : s[i]? = none := List.getElem?_eq_none_iff.mpr (by omega)
    split
    · rw [List.getElem?_eq_none (by rw [List.length_set]; omega), this]; rfl
    · rw [List.getElem?_eq_none (by rw [List.length_set]; omega), this]; rfl
theorem argB_get : ∀ {ms : List Mo} {outs : SL} {s s3 : SL}, argB ms outs s = some s3 → (muIs ms).Nodup →
    s3.length = s.length ∧ ∀ i, (ixOf ms i = none → s3[i]? = s[i]?) ∧ ∀ j, ixOf ms i = some j → ∃ m, outs[j]? = some (some (.p m)) ∧ s3[i]? = (putAt s i m)[i]?
  | [], outs, s, s3, h, _ => by
    cases h
    exact ⟨rfl, fun i => ⟨fun _ => rfl, fun j z => by cases z⟩⟩
  | mo :: ms, [], _, _, h, _ => by cases h
  | mo :: ms, o :: os, s, s3, h, nd => by
    obtain ⟨s1, e1, hB⟩ := Option.bind_eq_some_iff.mp h
    have other : (∀ i, ixOf (mo :: ms) i = (ixOf ms i).map (· + 1)) → (muIs ms).Nodup → s1 = s → s3.length = s.length ∧ ∀ i, (ixOf (mo :: ms) i = none → s3[i]? = s[i]?) ∧ ∀ j, ixOf (mo :: ms) i = some j → ∃ m, (o :: os)[j]? = some (some (.p m)) ∧ s3[i]? = (putAt s i m)[i]? := fun hx nd' e => by
      subst e
      obtain ⟨h1, h2⟩ := argB_get (ms := ms) (outs := os) hB nd'
      refine ⟨h1, fun i => ⟨fun z => (h2 i).1 ?_, fun j z => ?_⟩⟩
      · rw [hx] at z
        cases e : ixOf ms i with
        | none => rfl
        | some j => rw [e] at z; cases z
      · rw [hx] at z
        obtain ⟨j', e1, rfl⟩ := Option.map_eq_some_iff.mp z
        obtain ⟨m', k1, k2⟩ := (h2 i).2 j' e1
        exact ⟨m', by simpa using k1, k2⟩
    cases mo with
    | f => exact other (fun _ => rfl) nd (by cases e1; rfl)
    | r i0 => exact other (fun _ => rfl) nd (by cases e1; rfl)
    | m i0 =>
      have nd' : i0 ∉ muIs ms ∧ (muIs ms).Nodup := List.nodup_cons.mp nd
      obtain ⟨m, eo, es⟩ : ∃ m, o = some (.p m) ∧ s1 = putAt s i0 m := by
        cases o with
        | none => cases e1
        | some y => cases y with
          | p m => cases e1; exact ⟨m, rfl, rfl⟩
          | _ => cases e1
      subst eo es
      obtain ⟨h1, h2⟩ := argB_get (ms := ms) (outs := os) hB nd'.2
      refine ⟨h1.trans putAt_len, fun i => ⟨fun z => ?_, fun j z => ?_⟩⟩
      · unfold ixOf at z
        split at z
        · cases z
        · rename_i ne
          rw [(h2 i).1 (by cases e : ixOf ms i with
            | none => rfl
            | some j => rw [e] at z; cases z), putAt_ne ne]
      · unfold ixOf at z
        split at z
        · rename_i e; subst e; cases z
          exact ⟨m, rfl, (h2 i0).1 (ixOf_none nd'.1)⟩
        · rename_i ne
          obtain ⟨j', e1, rfl⟩ := Option.map_eq_some_iff.mp z
          obtain ⟨m', k1, k2⟩ := (h2 i).2 j' e1
          refine ⟨m', by simpa using k1, ?_⟩
          rw [k2, putAt_get, putAt_get, putAt_ne ne]
/-- the callee's ghost -/
def calG (K : PySem.W.Frag) (g : G) (H : Hp) (σ : L2.St) (s : SL) (ms : List Mo) (vs : List V) : G :=
  { F := g.F, lab := fun a => (g.lab a).bind (ixOf ms), π := fun j => vs[j]?, ro := fun j a => ∃ i v m U, ms[j]? = some (.r i) ∧ σ[i]? = some (some v) ∧ ctAt s i = some m ∧ Rep K g.F H v m U ∧ U.Nodup ∧ (∀ b ∈ U, g.F b = none ∧ (g.lab b = some i ∨ g.lab b = none)) ∧ a ∈ U }
/-- the caller's ghost behind the call -/
def retG (g g' : G) (ms : List Mo) : G :=
  { F := g'.F, lab := fun a => match g'.lab a with
      | some j => (match ms[j]? with
        | some (.m i) => some i
        | _ => none)
      | none => match g.lab a with
        | some i => if ixOf ms i = none then some i else none
        | none => none
    π := g.π, ro := g.ro }
theorem ct_ok {s : SL} {i : Nat} {m : MV} (st : Sta K g H σ s) (h : ctAt s i = some m) : ∃ v U, σ[i]? = some (some v) ∧ Rep K g.F H v m U ∧ U.Nodup ∧ ∀ b ∈ U, g.F b = none ∧ (g.lab b = some i ∨ g.lab b = none) := by
  unfold ctAt at h
  split at h
  · rename_i e; cases h
    obtain ⟨v, U, h1, h2, h3, h4⟩ := st.w i _ e
    exact ⟨v, U, h1, h2, h3, fun b hb => ⟨st.lf b (by rw [h4 b hb]; exact fun z => nomatch z), .inl (h4 b hb)⟩⟩
  · rename_i e; cases h
    obtain ⟨v, U, ⟨h1, _⟩, h2, h3, h4⟩ := st.p i _ e
    exact ⟨v, U, h1, h2, h3, fun b hb => ⟨st.lf b (by rw [h4 b hb]; exact fun z => nomatch z), .inl (h4 b hb)⟩⟩
  · rename_i e; cases h
    obtain ⟨v, U, ⟨h1, _⟩, h2, h3, h4⟩ := st.k i _ e
    exact ⟨v, U, h1, h2, h3, fun b hb => ⟨(st.ro b ⟨_, h4 b hb⟩).2.1, .inr (st.ro b ⟨_, h4 b hb⟩).2.2⟩⟩
  · cases h
theorem cal_lab {s : SL} {ms : List Mo} {vs : List V} {a : Addr} (h : (calG K g H σ s ms vs).lab a ≠ none) : g.lab a ≠ none := fun z => h (by
  show (g.lab a).bind (ixOf ms) = none
  rw [z]; rfl)
theorem cal_sta {s : SL} {ms : List Mo} {vs : List V} {as : List SV} (st : Sta K g H σ s) (ok : okMo ms = true) (al : ArgL K g.F σ s ms vs as) : Sta K (calG K g H σ s ms vs) H (vs.map some) (as.map some) := by
  have nd : (muIs ms).Nodup := of_decide_eq_true (Bool.and_eq_true_iff.mp ok).1
  have dis : ∀ i ∈ roIs ms, i ∉ muIs ms := fun i hi => by
    have := List.all_eq_true.mp (Bool.and_eq_true_iff.mp ok).2 i hi
    simpa using this
  have get : ∀ {j : Nat} {a : SV}, (as.map some)[j]? = some (some a) → ∃ mo v, ms[j]? = some mo ∧ (vs.map some)[j]? = some (some v) ∧ vs[j]? = some v ∧ ArgE K g.F σ s mo v a := fun {j a} h => by
    rw [List.getElem?_map] at h
    obtain ⟨a', h1, h2⟩ := Option.map_eq_some_iff.mp h
    cases h2
    obtain ⟨mo, v, k1, k2, k3⟩ := al.get h1
    exact ⟨mo, v, k1, by rw [List.getElem?_map, k2]; rfl, k2, k3⟩
  refine ⟨st.ex, fun a h => st.lf a (cal_lab h), fun a h => st.la a (cal_lab h), fun a h => ?_, by simp [al.length.1], fun j y q => ?_, fun j y q => ?_, fun j y q => ?_, fun j y q => ?_, fun j q => ?_, fun j y q => ?_⟩
  · obtain ⟨j, i, v, m, U, h1, h2, h3, h4, h5, h6, h7⟩ := h
    refine ⟨h4.keep a h7, (h6 a h7).1, ?_⟩
    show (g.lab a).bind (ixOf ms) = none
    rcases (h6 a h7).2 with e | e
    · rw [e]; exact ixOf_none (dis i (mem_roIs h1))
    · rw [e]; rfl
  · obtain ⟨mo, v, h1, h2, h3, e⟩ := get q
    cases e with
    | d _ r => exact ⟨v, h2, r⟩
  · obtain ⟨mo, v, h1, h2, h3, e⟩ := get q
    cases e
  · obtain ⟨mo, v, h1, h2, h3, e⟩ := get q
    cases e with
    | @p i m e1 e2 e3 =>
      subst e1
      obtain ⟨u, U, k1, k2, k3, k4⟩ := st.own e3
      rw [e2] at k1; cases k1
      refine ⟨v, U, ⟨h2, h3⟩, k2, k3, fun a ha => ?_⟩
      show (g.lab a).bind (ixOf ms) = some j
      rw [k4 a ha]
      exact ixOf_of nd h1
  · obtain ⟨mo, v, h1, h2, h3, e⟩ := get q
    cases e with
    | @k i m e1 e2 e3 =>
      subst e1
      obtain ⟨u, U, k1, k2, k3, k4⟩ := ct_ok st e3
      rw [e2] at k1; cases k1
      exact ⟨v, U, ⟨h2, h3⟩, k2, k3, fun a ha => ⟨i, v, y, U, h1, e2, e3, k2, k3, k4, ha⟩⟩
  · obtain ⟨mo, v, h1, h2, h3, e⟩ := get q
    cases e
  · obtain ⟨mo, v, h1, h2, h3, e⟩ := get q
    cases e with
    | @x ds a ws _ e1 e2 e3 => subst e1; exact ⟨a, ws, h2, e2, e3⟩
/-- what is framed for the caller, and what the callee is not handed, is framed for the callee -/
theorem cal_framed {s : SL} {ms : List Mo} {vs : List V} {a : Addr} (k : Keep (H a)) (hF : g.F a = none) (hl : ∀ i, g.lab a = some i → ixOf ms i = none) : Framed (calG K g H σ s ms vs) H a := by
  refine ⟨k, hF, ?_⟩
  show (g.lab a).bind (ixOf ms) = none
  cases e : g.lab a with
  | none => rfl
  | some i => exact hl i e
theorem ret_sta {s s3 : SL} {ms : List Mo} {vs : List V} {as : List SV} {outs : SL} {g' : G} {H' : Hp} (n : Nx g0 H0 g H) (st : Sta K g H σ s) (ok : okMo ms = true) (al : ArgL K g.F σ s ms vs as)
    (n' : Nx (calG K g H σ s ms vs) H g' H') (st' : Sta K g' H' (vs.map some) outs) (hB : argB ms outs s = some s3) : Nx g0 H0 (retG g g' ms) H' ∧ Sta K (retG g g' ms) H' σ s3 ∧
      (∀ {u : V} {t : TV} {U : List Addr} {σ' : L2.St}, OwnT t → RTV K g' H' σ' u t U → Fresh (calG K g H σ s ms vs) H U → RTV K (retG g g' ms) H' σ u t U ∧ Fresh g0 H0 U) := by
  have nd : (muIs ms).Nodup := of_decide_eq_true (Bool.and_eq_true_iff.mp ok).1
  obtain ⟨hl3, hg3⟩ := argB_get hB nd
  have lg : ∀ a, Framed g H a → Framed (calG K g H σ s ms vs) H a := fun a f => cal_framed f.1 f.2.1 fun i e => by rw [f.2.2] at e; cases e
  have lu : ∀ a i, g.lab a = some i → ixOf ms i = none → Framed (calG K g H σ s ms vs) H a := fun a i e hx => cal_framed (st.la a (by rw [e]; exact fun z => nomatch z)) (st.lf a (by rw [e]; exact fun z => nomatch z)) fun i' e' => by rw [e] at e'; cases e'; exact hx
  have ro : ∀ a, g.RO a → Framed g H a := st.ro
  have rlab : ∀ a, Framed g H a → (retG g g' ms).lab a = none := fun a f => by
    obtain ⟨_, _, h3⟩ := n'.out a (lg a f)
    show (match g'.lab a with
      | some j => (match ms[j]? with
        | some (.m i) => some i
        | _ => none)
      | none => match g.lab a with
        | some i => if ixOf ms i = none then some i else none
        | none => none) = none
    rw [h3, f.2.2]
  have rlu : ∀ a i, g.lab a = some i → ixOf ms i = none → (retG g g' ms).lab a = some i := fun a i e hx => by
    obtain ⟨_, _, h3⟩ := n'.out a (lu a i e hx)
    show (match g'.lab a with
      | some j => (match ms[j]? with
        | some (.m i) => some i
        | _ => none)
      | none => match g.lab a with
        | some i => if ixOf ms i = none then some i else none
        | none => none) = some i
    rw [h3, e]
    exact if_pos hx
  have rlm : ∀ a i j, g'.lab a = some j → ixOf ms i = some j → (retG g g' ms).lab a = some i := fun a i j e hx => by
    show (match g'.lab a with
      | some j => (match ms[j]? with
        | some (.m i) => some i
        | _ => none)
      | none => match g.lab a with
        | some i => if ixOf ms i = none then some i else none
        | none => none) = some i
    rw [e]
    dsimp only
    rw [ixOf_get hx]
  have rcase : ∀ a, (retG g g' ms).lab a ≠ none → g'.lab a ≠ none ∨ ∃ i, g.lab a = some i ∧ ixOf ms i = none := fun a h => by
    cases e : g'.lab a with
    | some j => exact .inl fun z => nomatch z
    | none =>
      right
      have h' : (match g'.lab a with
        | some j => (match ms[j]? with
          | some (.m i) => some i
          | _ => none)
        | none => match g.lab a with
          | some i => if ixOf ms i = none then some i else none
          | none => none) ≠ none := h
      rw [e] at h'
      cases e2 : g.lab a with
      | none => rw [e2] at h'; exact absurd rfl h'
      | some i =>
        rw [e2] at h'
        dsimp only at h'
        by_cases hx : ixOf ms i = none
        · exact ⟨i, rfl, hx⟩
        · rw [if_neg hx] at h'; exact absurd rfl h'
  -- a slot that was not handed over to be changed
  have same : ∀ {i : Nat} {v : V} {m : MV} {U : List Addr}, ixOf ms i = none → Rep K g.F H v m U → (∀ a ∈ U, g.lab a = some i) → Rep K g'.F H' v m U ∧ ∀ a ∈ U, (retG g g' ms).lab a = some i := fun {i v m U} hx r hU =>
    ⟨r.mono n'.ex fun a z => (n'.out a (lu a i (hU a z) hx)).1, fun a z => rlu a i (hU a z) hx⟩
  -- one that was
  have put : ∀ {i j : Nat} {m : MV} {o : SV}, ixOf ms i = some j → outs[j]? = some (some (.p m)) → ∃ v S, σ[i]? = some (some v) ∧ (∀ y, s[i]? = some (some (.p y)) → g.π i = some v) ∧ Rep K g'.F H' v m S ∧ S.Nodup ∧ ∀ a ∈ S, (retG g g' ms).lab a = some i := fun {i j m o} hx ho => by
    obtain ⟨v, S, ⟨k1, k2⟩, k3, k4, k5⟩ := st'.p j m ho
    have hj := (List.getElem?_eq_some_iff.mp ho).1
    have hva : vs.length = as.length := al.length.1
    have hjl : j < as.length := by
      have := (List.getElem?_eq_some_iff.mp k1).1
      simp at this
      omega
    obtain ⟨mo, v', e1, e2, e3⟩ := al.get (List.getElem?_eq_getElem hjl)
    rw [ixOf_get hx] at e1
    cases e1
    rw [List.getElem?_map, e2] at k1
    cases k1
    have hs : σ[i]? = some (some v) := by
      generalize as[j] = a at e3
      cases e3 with
      | p q1 q2 q3 => cases q1; exact q2
      | k q1 q2 q3 => cases q1
      | d q _ => exact absurd rfl (q i)
      | x q => exact absurd rfl (q i)
    refine ⟨v, S, hs, fun y hy => ?_, k3, k4, fun a z => rlm a i j (k5 a z) hx⟩
    obtain ⟨u, U, ⟨q1, q2⟩, _⟩ := st.p i y hy
    rw [hs] at q1; cases q1
    exact q2
  have slot : ∀ (i : Nat), (ixOf ms i = none ∧ s3[i]? = s[i]?) ∨ ∃ j m o, ixOf ms i = some j ∧ outs[j]? = some (some (.p m)) ∧ ((∃ y, s[i]? = some (some (.p y)) ∧ s3[i]? = some (some (.p m))) ∨ ((∀ y, s[i]? ≠ some (some (.p y))) ∧ (s[i]? = none ∧ s3[i]? = none ∨ s[i]? = some o ∧ s3[i]? = some (some (.w m))))) := fun i => by
    cases hx : ixOf ms i with
    | none => exact .inl ⟨rfl, (hg3 i).1 hx⟩
    | some j =>
      obtain ⟨m, k1, k2⟩ := (hg3 i).2 j hx
      rw [putAt_get] at k2
      right
      cases e : s[i]? with
      | none =>
        rw [e] at k2
        exact ⟨j, m, none, rfl, k1, .inr ⟨(fun y z => nomatch z), .inl ⟨rfl, k2⟩⟩⟩
      | some o =>
        rw [e] at k2
        refine ⟨j, m, o, rfl, k1, ?_⟩
        cases o with
        | none => exact .inr ⟨(fun y z => nomatch z), .inr ⟨rfl, k2⟩⟩
        | some y =>
          cases y with
          | p y => exact .inl ⟨y, rfl, k2⟩
          | d y => exact .inr ⟨(fun y z => nomatch z), .inr ⟨rfl, k2⟩⟩
          | w y => exact .inr ⟨(fun y z => nomatch z), .inr ⟨rfl, k2⟩⟩
          | k y => exact .inr ⟨(fun y z => nomatch z), .inr ⟨rfl, k2⟩⟩
          | h => exact .inr ⟨(fun y z => nomatch z), .inr ⟨rfl, k2⟩⟩
          | x y => exact .inr ⟨(fun y z => nomatch z), .inr ⟨rfl, k2⟩⟩
  have nop : ∀ {i : Nat} {y : SV}, s3[i]? = some (some y) → (∀ m, y ≠ .p m) → (∀ m, y ≠ .w m) → s[i]? = some (some y) := fun {i y} e np nw => by
    rcases slot i with ⟨_, h⟩ | ⟨j, m, o, _, _, ⟨y', _, h⟩ | ⟨_, ⟨_, h⟩ | ⟨_, h⟩⟩⟩
    · rw [← h]; exact e
    · rw [h] at e; cases e; exact absurd rfl (np m)
    · rw [h] at e; cases e
    · rw [h] at e; cases e; exact absurd rfl (nw m)
  refine ⟨⟨fun a o h => n'.ex a o (n.ex a o h), n.pi, n.ro, fun a f => ?_⟩, ⟨st'.ex, fun a h => ?_, fun a h => ?_, fun a h => ?_, by rw [hl3]; exact st.len, fun i y q => ?_, fun i y q => ?_, fun i y q => ?_, fun i y q => ?_, fun i q => ?_, fun i y q => ?_⟩, fun {u t U σ'} hv r f => ?_⟩
  · have f' := n.fr f
    obtain ⟨h1, h2, h3⟩ := n'.out a (lg a f')
    exact ⟨h1.trans (n.out a f).1, h2, rlab a f'⟩
  · rcases rcase a h with h | ⟨i, e, hx⟩
    · exact st'.lf a h
    · exact (n'.out a (lu a i e hx)).2.1
  · rcases rcase a h with h | ⟨i, e, hx⟩
    · exact st'.la a h
    · rw [(n'.out a (lu a i e hx)).1]; exact st.la a (by rw [e]; exact fun z => nomatch z)
  · have f := ro a h
    obtain ⟨h1, h2, _⟩ := n'.out a (lg a f)
    exact ⟨by rw [h1]; exact f.1, h2, rlab a f⟩
  · have e := nop q (fun _ z => nomatch z) (fun _ z => nomatch z)
    obtain ⟨v, h1, h2⟩ := st.d i y e
    exact ⟨v, h1, h2.mono n'.ex⟩
  · rcases slot i with ⟨hx, h⟩ | ⟨j, m, o, hx, ho, ⟨y', _, h⟩ | ⟨np, ⟨_, h⟩ | ⟨_, h⟩⟩⟩
    · rw [h] at q
      obtain ⟨v, U, h1, h2, h3, h4⟩ := st.w i y q
      obtain ⟨r1, r2⟩ := same hx h2 h4
      exact ⟨v, U, h1, r1, h3, r2⟩
    · rw [h] at q; cases q
    · rw [h] at q; cases q
    · rw [h] at q; cases q
      obtain ⟨v, S, k1, _, k3, k4, k5⟩ := put (o := .h) hx ho
      exact ⟨v, S, k1, k3, k4, k5⟩
  · rcases slot i with ⟨hx, h⟩ | ⟨j, m, o, hx, ho, ⟨y', e, h⟩ | ⟨np, ⟨_, h⟩ | ⟨_, h⟩⟩⟩
    · rw [h] at q
      obtain ⟨v, U, h1, h2, h3, h4⟩ := st.p i y q
      obtain ⟨r1, r2⟩ := same hx h2 h4
      exact ⟨v, U, h1, r1, h3, r2⟩
    · rw [h] at q; cases q
      obtain ⟨v, S, k1, k2, k3, k4, k5⟩ := put (o := .h) hx ho
      exact ⟨v, S, ⟨k1, k2 y' e⟩, k3, k4, k5⟩
    · rw [h] at q; cases q
    · rw [h] at q; cases q
  · have e := nop q (fun _ z => nomatch z) (fun _ z => nomatch z)
    obtain ⟨v, U, h1, h2, h3, h4⟩ := st.k i y e
    exact ⟨v, U, h1, h2.mono n'.ex fun a z => (n'.out a (lg a (ro a ⟨_, h4 a z⟩))).1, h3, h4⟩
  · have e := nop q (fun _ z => nomatch z) (fun _ z => nomatch z)
    exact st.h i e
  · have e := nop q (fun _ z => nomatch z) (fun _ z => nomatch z)
    obtain ⟨a, ws, h1, h2, h3⟩ := st.x i y e
    exact ⟨a, ws, h1, ex_l n'.ex h2, h3.mono n'.ex⟩
  · refine ⟨?_, fun a z f2 => f a z (lg a (n.fr f2))⟩
    cases t with
    | d x => exact r
    | var i => exact hv.elim
    | x ds => exact hv.elim
    | c ds => exact hv.elim
    | sub p i j m => exact hv.elim
    | t m =>
      refine ⟨r.1, r.2.1, fun a z => ⟨(r.2.2 a z).1, ?_, fun q => f a z (lg a (ro a q))⟩⟩
      show (match g'.lab a with
        | some j => (match ms[j]? with
          | some (.m i) => some i
          | _ => none)
        | none => match g.lab a with
          | some i => if ixOf ms i = none then some i else none
          | none => none) = none
      rw [(r.2.2 a z).2.1]
      dsimp only
      cases e : g.lab a with
      | none => rfl
      | some i =>
        dsimp only
        by_cases hx : ixOf ms i = none
        · exact absurd (lu a i e hx) (f a z)
        · exact if_neg hx
end
def DenOk (den : Den) : Prop := ∀ as t outs, den as = some (.ok t outs) → OwnT t
theorem run_ok {np N : Nat} {exc : Bool} {B : AS} : DenOk (run np N exc B) := by
  intro as t outs h
  unfold run at h
  split at h
  · split at h
    · cases h; trivial
    · cases h; trivial
    · cases h; trivial
    · split at h <;> cases h
    · cases h
  · cases h
section
variable {X : Cx} {W : WX} {pos : Pos} {e : Expr} {es : List Expr} {R : AA} {den : Den} {ms : List Mo}
theorem pairedImp {α β : Type} {R S : α → β → Prop} (f : ∀ x y, R x y → S x y) : ∀ {xs : List α} {ys : List β}, Paired R xs ys → Paired S xs ys
  | _, _, .nil => .nil
  | _, _, .cons h t => .cons (f _ _ h) (pairedImp f t)
theorem RX.mono {K : PySem.W.Frag} {g g' : G} {H : Hp} {cls : Value} {d : Option Addr} {xa : XA} (ex : Ex g.F g'.F) (r : RX K g cls d H xa) : RX K g' cls d H xa := by
  obtain ⟨r1, r2⟩ := r
  refine ⟨r1, ?_⟩
  cases e : xa.2 with
  | none => rw [e] at r2; exact r2
  | some fs =>
    rw [e] at r2
    obtain ⟨a, kvs, h1, h2, h3⟩ := r2
    exact ⟨a, kvs, h1, h2, pairedImp (fun p q h => ⟨h.1, h.2.mono ex⟩) h3⟩
theorem callT_ok {X : Cx} {den : Den} {ms : List Mo} {exc : Bool} (hd : DenOk den) (ok : okMo ms = true) {E : XK} {g0 g1 : G} {H0 H1 : Hp} {σ : L2.St} {s1 : SL} {vs : List V} {ts : List TV} {S : List Addr} {res : Res TV} {Q : VK} (n1 : Nx g0 H0 g1 H1) (st1 : Sta X.K g1 H1 σ s1) (r1 : RTVs X.K g1 H1 σ vs ts S) (f1 : Fresh g0 H0 S) (e1 : callT exc den ms ts s1 = some res)
    (kQ : ∀ t s, res = .ok t s → OwnT t → Kg X.K (RV X.K σ) σ Q g0 H0 t s) (kE : exc = true → ∀ xa s, res = .ex xa s → ∀ g H cls d, Nx g0 H0 g H → Sta X.K g H σ s → RX X.K g cls d H xa → E cls d H) : liftV X.K den vs H1 Q E := by
  obtain ⟨⟨xs, s2⟩, e2, e3⟩ := Option.bind_eq_some_iff.mp e1
  obtain ⟨as, e4, e5⟩ := Option.bind_eq_some_iff.mp e3
  obtain ⟨r, e6, e7⟩ := Option.bind_eq_some_iff.mp e5
  obtain ⟨g2, n2, st2, ex2, ar⟩ := argF_ok n1 f1 st1 r1 e2
  have al := argM_ok ar e4
  refine ⟨calG X.K g2 H1 σ s2 ms vs, as, r, cal_sta st2 ok al, e6, ?_⟩
  cases r with
  | ok t outs =>
    obtain ⟨s3, e8, rfl⟩ := Option.map_eq_some_iff.mp e7
    intro g' H' v U n' st' r' f'
    obtain ⟨n3, st3, cv⟩ := ret_sta n2 st2 ok al n' st' e8
    have ho := hd as t outs e6
    obtain ⟨r3, f3⟩ := cv ho r' f'
    exact kQ t s3 rfl ho _ H' v U n3 st3 r3 f3
  | ex xa outs =>
    dsimp only at e7
    split at e7
    · rename_i he
      obtain ⟨s3, e8, rfl⟩ := Option.map_eq_some_iff.mp e7
      intro g' H' cls d n' st' rx
      obtain ⟨n3, st3, _⟩ := ret_sta n2 st2 ok al n' st' e8
      exact kE he xa s3 rfl _ H' cls d n3 st3 rx
    · cases e7
theorem call_core {exc : Bool} (hd : DenOk den) (ok : okMo ms = true) {E : L2.St → XK} (hE : exc = true → ∀ σ cls d H, W cls d σ H → E σ cls d H) (σ : L2.St) (H : Hp) (Q : VK) (h : eL X.K W (aCallG exc den ms R) σ H Q) : aL X.K W R σ H fun vs H1 => liftV X.K den vs H1 Q (E σ) := by
  obtain ⟨g, sl, res, st, e, k⟩ := h
  refine run1 (R := RL X.K) st e k.x fun ts s1 g1 H1 vs S e1 n1 st1 r1 f1 => ?_
  split at e1
  · refine callT_ok (E := E σ) hd ok n1 st1 r1 f1 e1 (fun t s e _ => by subst e; exact k) fun he xa s e g2 H2 cls d n2 st2 rx => ?_
    subst e
    exact hE he σ cls d H2 (k g2 H2 cls d n2 st2 rx)
  · rename_i ts' q eq
    obtain ⟨c, e2, e3⟩ := Option.bind_eq_some_iff.mp e1
    obtain ⟨res', e4, e5⟩ := Option.bind_eq_some_iff.mp e3
    obtain ⟨vc, Z, U, rz, zS, uS, ap, rv⟩ := unsub_ok st1.len.symm r1 eq
    obtain ⟨g2, gb, T', n2, st2, fU, hT, rfl, _, fin⟩ := sub_open n1 (fun a z => f1 a (zS a z)) (fun a z => f1 a (uS a z)) ap st1 rz e2
    refine callT_ok (E := E σ) hd ok n2 st2 (rv T' hT) fU e4 (fun t s e o => ?_) fun he xa s e g3 H3 cls d n3 st3 rx => ?_
    · subst e
      obtain ⟨s4, e6, rfl⟩ := Option.map_eq_some_iff.mp e5
      exact sub_kg o e6 k fin
    · subst e
      obtain ⟨s4, e6, rfl⟩ := Option.map_eq_some_iff.mp e5
      obtain ⟨g4, n4, st4, _, ex⟩ := fin g3 H3 s s4 n3 st3 e6
      exact hE he σ cls d H3 (k g4 H3 cls d n4 st4 (rx.mono ex))
theorem passX {X : Cx} : Passes (L2.CX X.prog X.w) X E0 := fun _ _ _ _ _ _ _ c => by
  obtain ⟨_, _, _, _, _, _, _, _, _, _, _, _, z⟩ := c
  exact z.elim
/-! ### defs by name -/
structure OkAt (P : Program) (w : World) (K : PySem.W.Frag) (mg : Str → Option Value) (base : Heap) (CX : CXT) (k : Nat) (x : Str) (ps : List Str) (den : Den) (f : Addr) (fd : FuncData) : Prop where
  gl : mg x = some (.ref f)
  kp : PySem.W.keepIn K (.ref f) = true
  bi : Binds K fd ps []
  ok : FnOk P w K mg base CX k f fd ps (liftV K den)
def Ok (P : Program) (w : World) (K : PySem.W.Frag) (mg : Str → Option Value) (base : Heap) (CX : CXT) (k : Nat) (x : Str) (ps : List Str) (den : Den) : Prop := ∃ f fd, OkAt P w K mg base CX k x ps den f fd
theorem e_call {CX : CXT} {k : Nat} {ps : List Str} {x : Str} {px : Pos} (h : Ok X.prog X.w X.K X.mg X.base CX k x ps den) (hd : DenOk den) (ok : okMo ms = true) (hx : Passes CX X E0) (hr : Room k X.A) (hg : Gl X x)
    (ha : PA X (e :: es) (aL X.K W R)) (hdb : (x == ("__debug__" : Str)) = false := by decide) (he : starEach (e :: es) X.env = (false, eval e X.env) :: starEach es X.env := by rfl) (hpl : (backTo pos (starEach es X.env)).any (·.1) = false := by rfl) : PE X (.Call (.Name x px) (e :: es) [] pos) (eL X.K W (aCallG false den ms R)) :=
  let ⟨_, _, o⟩ := h
  PEm (pe_call o.ok hr hg o.gl o.kp o.bi .nil hx ha hdb he hpl) fun σ H Q q => by
    have := call_core (E := fun _ => E0) hd ok (fun z => by cases z) σ H Q q
    show aL X.K W R σ H fun vs H1 => liftV X.K den (vs ++ []) H1 Q E0
    have e : (fun vs H1 => liftV X.K den (vs ++ []) H1 Q E0) = fun vs H1 => liftV X.K den vs H1 Q E0 := by
      funext vs H1; rw [List.append_nil]
    rw [e]
    exact this
theorem e_callX {k : Nat} {ps : List Str} {x : Str} {px : Pos} (h : Ok X.prog X.w X.K X.mg X.base (L2.CX X.prog X.w) k x ps den) (hd : DenOk den) (ok : okMo ms = true) (tk : Takes X W) (hr : Room k X.A) (hg : Gl X x)
    (ha : PA X (e :: es) (aL X.K W R)) (hdb : (x == ("__debug__" : Str)) = false := by decide) (he : starEach (e :: es) X.env = (false, eval e X.env) :: starEach es X.env := by rfl) (hpl : (backTo pos (starEach es X.env)).any (·.1) = false := by rfl) : PE X (.Call (.Name x px) (e :: es) [] pos) (eL X.K W (aCallG true den ms R)) :=
  let ⟨_, _, o⟩ := h
  PEm (pe_callS o.ok hr hg o.gl o.kp o.bi (fun σ => passAt tk σ) ha hdb he hpl) fun σ H Q q => call_core (E := fun σ => WE W σ) hd ok (fun _ _ _ _ _ z => z) σ H Q q
end
/-- a def as the head tells it -/
structure DefAt (K : PySem.W.Frag) (mg : Str → Option Value) (x : Str) (st : Stmt) : Prop where
  fn : ∃ fd, FunD K x x (defArgs st) (defBody st) (defScope st) [] [] (He.ga K x) fd
  gl : mg x = some (.ref (He.ga K x))
theorem DefAt.ok {P : Program} {w : World} {K : PySem.W.Frag} {mg : Str → Option Value} {base : Heap} {x : Str} {st : Stmt} (h : DefAt K mg x st) {CX : CXT} {k : Nat} {ps : List Str} {den : Den}
    (hb : ∀ fd, FunD K x x (defArgs st) (defBody st) (defScope st) [] [] (He.ga K x) fd → Binds K fd ps [])
    (ho : ∀ fd, FunD K x x (defArgs st) (defBody st) (defScope st) [] [] (He.ga K x) fd → FnOk P w K mg base CX k (He.ga K x) fd ps (liftV K den)) : Ok P w K mg base CX k x ps den := by
  obtain ⟨fd, F⟩ := h.fn
  exact ⟨_, fd, h.gl, F.kp, hb fd F, ho fd F⟩
/-- the law's entry -/
theorem lift_law {K : PySem.W.Frag} {H : Hp} {a : Addr} {ns : List Int} {den : Den} (hS : SqL K H a (ns.map V.int)) (h : ∃ outs, den [.x (ns.map PyData.int)] = some (.ok (.d (.bool true)) outs)) : liftV K den [.ref a] H (fun v _ => v = .bl true) fun _ _ _ => False := by
  obtain ⟨outs, h⟩ := h
  have ir : ∀ ns : List Int, RDs K H (ns.map V.int) (ns.map PyData.int) := fun ns => by
    induction ns with
    | nil => exact .nil
    | cons i r ih => exact .cons (.int i) ih
  refine ⟨⟨H, fun _ => none, fun _ => none, fun _ _ => False⟩, _, _, ⟨fun _ _ e => e, fun a h => absurd rfl h, fun a h => absurd rfl h, fun a ⟨j, h⟩ => h.elim, rfl, fun i y q => ?_, fun i y q => ?_, fun i y q => ?_, fun i y q => ?_, fun i q => ?_, fun i y q => ?_⟩, h, fun g' H' v S n st r f => ?_⟩
  · cases i with
    | zero => simp at q
    | succ i => simp at q
  · cases i with
    | zero => simp at q
    | succ i => simp at q
  · cases i with
    | zero => simp at q
    | succ i => simp at q
  · cases i with
    | zero => simp at q
    | succ i => simp at q
  · cases i with
    | zero => simp at q
    | succ i => simp at q
  · cases i with
    | zero => simp at q; subst q; exact ⟨a, _, rfl, hS, ir ns⟩
    | succ i => simp at q
  · obtain ⟨_, r⟩ := r
    cases r
    rfl
end Y

/-! Layer Y, part L: list comprehensions. -/
namespace Y
open PySem PySem.Spec PyProof.Rows L2 Evl
def wipeA (dl : SL) : List Nat → SL
  | [] => dl
  | v :: vs => (wipeA dl vs).set v none
/-- the comprehension's names get back what they were, if it was data -/
def restA (s0 s : SL) : List Nat → SL
  | [] => s
  | v :: vs => match s0[v]? with
    | some (some (.d x)) => (restA s0 s vs).set v (some (.d x))
    | _ => restA s0 s vs
def lcGo (Ga : AG) (C : AT) (E : AE) (vs : List Nat) : List D → SL → Option (List MV × SL)
  | [], s => some ([], s)
  | x :: xs, s => (Ga (.d x) s).bind fun s1 => match C s1 with
    | some (.ok true s2) => match E s2 with
      | some (.ok t s3) => (toM s3 t).bind fun r => (lcGo Ga C E vs xs (wipeA r.2 vs)).map fun q => (r.1 :: q.1, q.2)
      | _ => none
    | some (.ok false s2) => lcGo Ga C E vs xs (wipeA s2 vs)
    | _ => none
/-- a walk with the slot that is walked locked -/
def lockL {α : Type} (lk : Option Nat) (F : SL → Option (α × SL)) (s : SL) : Option (α × SL) := match lk with
  | none => F s
  | some k => match s[k]? with
    | some (some (.w m)) => (F (s.set k (some (.k m)))).bind fun r => (unl k false r.2).map fun s' => (r.1, s')
    | some (some (.p m)) => (F (s.set k (some (.k m)))).bind fun r => (unl k true r.2).map fun s' => (r.1, s')
    | _ => none
def aLc (A : AI) (Ga : AG) (C : AT) (E : AE) (vs : List Nat) : AE := fun s => bd (A s) fun p s1 => if p.1.length ≤ sizeLine then (lockL p.2 (fun s => lcGo Ga C E vs p.1 (wipeA s vs)) s1).map fun r => .ok (.t (.lst r.1)) (restA s1 r.2 vs) else none
section
variable {K : PySem.W.Frag} {g g0 : G} {H H0 : Hp} {σ : L2.St} {sl : SL}
theorem Sta.wipe (st : Sta K g H σ sl) : ∀ vs : List Nat, Sta K g H (L2.wipe σ vs) (wipeA sl vs)
  | [] => st
  | v :: vs => (Sta.wipe st vs).setN
theorem wipe_get : ∀ (vs : List Nat) (σ : L2.St) (i : Nat), (L2.wipe σ vs)[i]? = if i ∈ vs then (σ[i]?).map (fun _ => none) else σ[i]?
  | [], σ, i => by simp [L2.wipe]
  | v :: vs, σ, i => by
    unfold L2.wipe
    by_cases e : v = i
    · subst e
      rw [List.getElem?_set, if_pos rfl, wipe_length, if_pos List.mem_cons_self]
      by_cases hl : v < σ.length
      · rw [if_pos hl, List.getElem?_eq_getElem hl]; rfl
      · rw [if_neg hl, List.getElem?_eq_none (by omega)]; rfl
    · rw [List.getElem?_set_ne e, wipe_get vs σ i]
      have : (i ∈ v :: vs) ↔ i ∈ vs := by
        constructor
        · intro h; rcases List.mem_cons.mp h with z | z
          · exact absurd z.symm e
          · exact z
        · exact List.mem_cons_of_mem _
      by_cases hi : i ∈ vs
      · rw [if_pos hi, if_pos (this.mpr hi)]
      · rw [if_neg hi, if_neg fun z => hi (this.mp z)]
theorem wipe_set {vs : List Nat} {j : Nat} {y : Option V} (h : j ∈ vs) : L2.wipe (σ.set j y) vs = L2.wipe σ vs := by
  apply List.ext_getElem?
  intro i
  rw [wipe_get, wipe_get]
  by_cases hi : i ∈ vs
  · rw [if_pos hi, if_pos hi]
    by_cases e : j = i
    · subst e
      rw [List.getElem?_set, if_pos rfl]
      by_cases hl : j < σ.length
      · rw [if_pos hl, List.getElem?_eq_getElem hl]; rfl
      · rw [if_neg hl, List.getElem?_eq_none (by omega)]
    · rw [List.getElem?_set_ne e]
  · rw [if_neg hi, if_neg hi, List.getElem?_set_ne (fun z : j = i => hi (by rw [← z]; exact h))]
theorem wipe_wipe {vs : List Nat} : L2.wipe (L2.wipe σ vs) vs = L2.wipe σ vs := by
  apply List.ext_getElem?
  intro i
  rw [wipe_get, wipe_get]
  by_cases hi : i ∈ vs
  · rw [if_pos hi, if_pos hi]; cases σ[i]? <;> rfl
  · rw [if_neg hi, if_neg hi]
/-- from the wiped state: a slot that holds something is none of the wiped ones -/
theorem Sta.unwipe {vs : List Nat} (st : Sta K g H (L2.wipe σ vs) sl) : Sta K g H σ sl := by
  have back : ∀ {i : Nat} {v : V}, (L2.wipe σ vs)[i]? = some (some v) → σ[i]? = some (some v) := fun {i v} h => by
    rw [wipe_get] at h
    split at h
    · cases e : σ[i]? with
      | none => rw [e] at h; cases h
      | some o => rw [e] at h; cases h
    · exact h
  have hl : σ.length = sl.length := by have := st.len; rwa [wipe_length] at this
  refine ⟨st.ex, st.lf, st.la, st.ro, hl, fun i y q => ?_, fun i y q => ?_, fun i y q => ?_, fun i y q => ?_, fun i q => ?_, fun i y q => ?_⟩
  · obtain ⟨v, h1, h2⟩ := st.d i y q; exact ⟨v, back h1, h2⟩
  · obtain ⟨v, S, h1, h2⟩ := st.w i y q; exact ⟨v, S, back h1, h2⟩
  · obtain ⟨v, S, ⟨h1, h1'⟩, h2⟩ := st.p i y q; exact ⟨v, S, ⟨back h1, h1'⟩, h2⟩
  · obtain ⟨v, S, ⟨h1, h1'⟩, h2⟩ := st.k i y q; exact ⟨v, S, ⟨back h1, h1'⟩, h2⟩
  · obtain ⟨v, h1, h2⟩ := st.h i q; exact ⟨v, back h1, h2⟩
  · obtain ⟨a, ws, h1, h2⟩ := st.x i y q; exact ⟨a, ws, back h1, h2⟩
theorem Sta.rest {s0 : SL} (st : Sta K g H σ sl) (hd : ∀ (i : Nat) x, s0[i]? = some (some (.d x)) → ∃ v, σ[i]? = some (some v) ∧ RD K g.F v x) : ∀ vs : List Nat, Sta K g H σ (restA s0 sl vs)
  | [] => st
  | v :: vs => by
    unfold restA
    split
    · rename_i x e
      obtain ⟨u, h1, h2⟩ := hd v x e
      have := (Sta.rest st hd vs).setD (i := v) h2
      rwa [set_set h1] at this
    · exact Sta.rest st hd vs
/-- an address that no slot holds is written -/
theorem Sta.outW {p : Addr} {o : HO} (st : Sta K g H σ sl) (hF : g.F p = none) (hl : g.lab p = none) (hr : ¬ g.RO p) : Sta K g (upd H p o) σ sl := by
  have re : ∀ {v : V} {m : MV} {S : List Addr}, Rep K g.F H v m S → (∀ a ∈ S, a ≠ p) → Rep K g.F (upd H p o) v m S := fun r h => r.mono (fun _ _ z => z) fun a z => upd_ne (h a z)
  refine ⟨fun a u e => ?_, st.lf, fun a z => ?_, fun a z => ?_, st.len, st.d, fun i y q => ?_, fun i y q => ?_, fun i y q => ?_, st.h, st.x⟩
  · rw [upd_ne fun z => by subst z; rw [hF] at e; cases e]; exact st.ex a u e
  · rw [upd_ne fun e => by subst e; exact z hl]; exact st.la a z
  · obtain ⟨h1, h2, h3⟩ := st.ro a z
    exact ⟨by rw [upd_ne fun e => by subst e; exact hr z]; exact h1, h2, h3⟩
  · obtain ⟨v, S, h1, h2, h3, h4⟩ := st.w i y q
    exact ⟨v, S, h1, re h2 (fun a z e => by subst e; rw [h4 _ z] at hl; cases hl), h3, h4⟩
  · obtain ⟨v, S, h1, h2, h3, h4⟩ := st.p i y q
    exact ⟨v, S, h1, re h2 (fun a z e => by subst e; rw [h4 _ z] at hl; cases hl), h3, h4⟩
  · obtain ⟨v, S, h1, h2, h3, h4⟩ := st.k i y q
    exact ⟨v, S, h1, re h2 (fun a z e => by subst e; exact hr ⟨_, h4 _ z⟩), h3, h4⟩
end
/-- a target within a comprehension stores to the comprehension's own names alone -/
theorem PTsm {X : Cx} {e : List Expr} {t t' : TT} (h : PTs X e t) (k : ∀ σ H Q, t' σ H Q → t σ H Q) : PTs X e t' := ⟨fun pins s σ H Q I q => h.run pins s σ H Q I (k σ H Q q)⟩
def GW (gt : TG) (vs : List Nat) : Prop := ∀ v (τ σ : L2.St) H Q, L2.wipe τ vs = L2.wipe σ vs → gt v τ H Q → gt v τ H fun σ2 H2 => L2.wipe σ2 vs = L2.wipe σ vs ∧ Q σ2 H2
def GsW (gt : TGs) (vs : List Nat) : Prop := ∀ v (τ σ : L2.St) H Q, L2.wipe τ vs = L2.wipe σ vs → gt v τ H Q → gt v τ H fun σ2 H2 => L2.wipe σ2 vs = L2.wipe σ vs ∧ Q σ2 H2
theorem gw_name {i : Nat} {vs : List Nat} (h : i ∈ vs) : GW (gName i) vs := fun v τ σ H Q e q => ⟨(wipe_set h).trans e, q⟩
theorem gw_nil {vs : List Nat} : GsW gNil vs := fun v τ σ H Q e ⟨q1, q2⟩ => ⟨q1, e, q2⟩
def GMono (gt : TG) : Prop := ∀ v σ H (Q Q' : L2.St → Hp → Prop), (∀ s h, Q s h → Q' s h) → gt v σ H Q → gt v σ H Q'
def GsMono (gt : TGs) : Prop := ∀ v σ H (Q Q' : L2.St → Hp → Prop), (∀ s h, Q s h → Q' s h) → gt v σ H Q → gt v σ H Q'
theorem mono_name {i : Nat} : GMono (gName i) := fun v σ H Q Q' k q => k _ _ q
theorem gm_nil : GsMono gNil := fun v σ H Q Q' k ⟨a, b⟩ => ⟨a, k _ _ b⟩
theorem gm_cons {t : TG} {u : TGs} (h1 : GMono t) (h2 : GsMono u) : GsMono (gCons t u) := fun v σ H Q Q' k ⟨x, r, e, q⟩ => ⟨x, r, e, h1 _ _ _ _ _ (fun s h q => h2 _ _ _ _ _ k q) q⟩
theorem gm_tup {K : PySem.W.Frag} {n : Nat} {u : TGs} (h : GsMono u) : GMono (gTup K n u) := fun v σ H Q Q' k ⟨a, xs, e, h1, h2, q⟩ => ⟨a, xs, e, h1, h2, h _ _ _ _ _ k q⟩
theorem gw_cons {t : TG} {u : TGs} {vs : List Nat} (h1 : GW t vs) (m1 : GMono t) (h2 : GsW u vs) : GsW (gCons t u) vs := fun v τ σ H Q e ⟨x, r, ev, q⟩ => ⟨x, r, ev, m1 _ _ _ _ _ (fun s h ⟨q1, q2⟩ => h2 r s σ h Q q1 q2) (h1 x τ σ H _ e q)⟩
theorem gw_tup {K : PySem.W.Frag} {n : Nat} {u : TGs} {vs : List Nat} (h : GsW u vs) : GW (gTup K n u) vs := fun v τ σ H Q e ⟨a, xs, ev, h1, h2, q⟩ => ⟨a, xs, ev, h1, h2, h xs τ σ H Q e q⟩
section
variable {X : Cx} {W : WX} {Ga : AG} {gt : TG} {C : AT} {E : AE} {vs : List Nat}
/-- the walk, from any ghost: tt, te are the parts' readings -/
theorem lc_run {K : PySem.W.Frag} {g : G} {H : Hp} {σ : L2.St} {sl sl' : SL} {J : It} {Z : List Addr} {ds : List D} {ms : List MV} {Q : VK} (gr : GRel K Ga gt) (gw : GW gt vs) (gm : GMono gt) (hsz : ds.length ≤ sizeLine)
    (st : Sta K g H (L2.wipe σ vs) sl) (fz : ∀ a ∈ Z, Framed g H a) (ir : IRel K g H Z ds J) (e : lcGo Ga C E vs ds sl = some (ms, sl'))
    (k : ∀ g' H' v S, Nx g H g' H' → Sta K g' H' (L2.wipe σ vs) sl' → RTV K g' H' σ v (.t (.lst ms)) S → Fresh g H S → Q v H') :
    ∀ Dd, H Dd = none → ∃ Wk : Nat → Nat → Hp → Prop, (∃ m, Wk 0 m (upd H Dd (.lst []))) ∧ ∀ i m H, Wk i m H → (J.stop i H ∧ Q (.ref Dd) H) ∨ (J.go i H ∧ ∃ N : Hp → Prop, (∀ H', N H' → ∃ m', m' < m ∧ Wk (i + 1) m' H') ∧ ∀ x H', J.yld i H x H' →
      gt x (L2.wipe σ vs) H' fun σ2 H2 => L2.wipe σ2 vs = L2.wipe σ vs ∧ tL K W C σ2 H2 fun b H3 => if b = true then eL K W E σ2 H3 fun y H4 => ∃ acc, H4 Dd = some (.lst acc) ∧ acc.length < sizeLine ∧ N (upd H4 Dd (.lst (acc ++ [y]))) else N H3) := by
  intro Dd hD
  let I : Nat → Hp → Prop := fun i H2 => ∃ g2 s2 ws acc rst Sa, Nx g H g2 H2 ∧ Sta K g2 H2 (L2.wipe σ vs) s2 ∧ (g2.F Dd = none ∧ g2.lab Dd = none ∧ ¬ g2.RO Dd) ∧ H2 Dd = some (.lst ws) ∧ Reps K g2.F H2 ws acc Sa ∧ Sa.Nodup ∧ (∀ a ∈ Sa, g2.F a = none ∧ g2.lab a = none ∧ ¬ g2.RO a) ∧ Dd ∉ Sa ∧ Fresh g H Sa ∧
    lcGo Ga C E vs (ds.drop i) s2 = some (rst, sl') ∧ ms = acc ++ rst ∧ acc.length ≤ i
  refine ⟨fun i m H2 => m = ds.length - i ∧ i ≤ ds.length ∧ I i H2, ⟨ds.length, by simp, Nat.zero_le _, ?_⟩, ?_⟩
  · obtain ⟨n', st', h1, h2, h3, h4⟩ := st.newT (o := .lst []) (Nx.refl g H) hD
    exact ⟨g, sl, [], [], ms, [], n', st', ⟨h1, h2, h3⟩, upd_same, .nil, List.nodup_nil, (fun _ h => nomatch h), (fun h => nomatch h), Fresh.nil _ _, e, rfl, Nat.le_refl _⟩
  rintro i m H2 ⟨rfl, hi, g2, s2, ws, acc, rst, Sa, n2, st2, ⟨hF, hL, hR⟩, hv, rs, nd, un, hDS, fr, e2, em, hac⟩
  obtain ⟨i1, i2⟩ := ir i g2 H2 n2.ex st2.ex fun a z => (n2.out a (fz a z)).1
  have fD : Framed g2 H2 Dd := ⟨keep_lst hv, hF, hL⟩
  have fS : ∀ a ∈ Sa, Framed g2 H2 a := fun a z => ⟨rs.keep a z, (un a z).1, (un a z).2.1⟩
  by_cases hlt : i < ds.length
  · obtain ⟨go, yl⟩ := i1 hlt
    refine .inr ⟨go, I (i + 1), fun H' z => ⟨ds.length - (i + 1), by omega, rfl, hlt, z⟩, fun x H3 y => ?_⟩
    obtain ⟨g3, d, n3', st3, ed, rd, ex3, n3⟩ := st2.yld n2 (yl x H3 y)
    rw [List.drop_eq_getElem_cons hlt] at e2
    have ed' : ds[i] = d := by rw [List.getElem?_eq_getElem hlt] at ed; exact Option.some.inj ed
    rw [ed'] at e2
    unfold lcGo at e2
    obtain ⟨s3, e3, e4⟩ := Option.bind_eq_some_iff.mp e2
    refine gm x _ _ _ _ (fun s h (z : L2.wipe s vs = L2.wipe σ vs ∧ (L2.wipe s vs = L2.wipe σ vs → _)) => ⟨z.1, z.2 z.1⟩) (gw x _ σ H3 _ wipe_wipe ?_)
    refine gr g2 H2 g3 H3 (L2.wipe σ vs) s2 s3 x (.d d) [] _ n3 st3 ⟨rfl, rd⟩ (Fresh.nil _ _) e3 fun g4 H4 σ4 n4 st4 ew => ?_
    cases eC : C s3 with
    | none => rw [eC] at e4; cases e4
    | some q =>
    rw [eC] at e4
    cases q with
    | ex xa s4 => cases e4
    | ok b s4 =>
    refine ⟨g4, s3, _, st4, eC, fun g5 H5 b' U n5 st5 r5 f5 => ?_⟩
    obtain ⟨rfl, rfl⟩ := r5
    have n25 := n4.trans n5
    cases b' with
    | false =>
      rw [if_neg (by decide)]
      have e5 : lcGo Ga C E vs (ds.drop (i + 1)) (wipeA s4 vs) = some (rst, sl') := e4
      have w5 := st5.wipe vs
      rw [ew] at w5
      obtain ⟨k1, k2, k3⟩ := n25.out Dd fD
      refine ⟨g5, wipeA s4 vs, ws, acc, rst, Sa, n2.trans n25, w5, ⟨k2, k3, fun z => hR (by unfold G.RO at z ⊢; rw [n25.ro] at z; exact z)⟩, k1.trans hv, rs.mono n25.ex fun a z => (n25.out a (fS a z)).1, nd, fun a z => ⟨(n25.out a (fS a z)).2.1, (n25.out a (fS a z)).2.2, fun q => (un a z).2.2 (by unfold G.RO at q ⊢; rw [n25.ro] at q; exact q)⟩, hDS, fr, e5, em, Nat.le_succ_of_le hac⟩
    | true =>
      rw [if_pos rfl]
      dsimp only at e4
      cases eE : E s4 with
      | none => rw [eE] at e4; cases e4
      | some q =>
      rw [eE] at e4
      cases q with
      | ex xa s5 => cases e4
      | ok t s5 =>
      obtain ⟨⟨m, s6⟩, e5, e6⟩ := Option.bind_eq_some_iff.mp e4
      obtain ⟨⟨rst', s7⟩, e7, e8⟩ := Option.map_eq_some_iff.mp e6
      cases e8
      refine ⟨g5, s4, _, st5, eE, fun g6 H6 y Uy n6 st6 r6 f6 => ?_⟩
      have n26 := n25.trans n6
      obtain ⟨g7, T, n7, st7, r7, sub, kp, ex7⟩ := toM_ok n26 (f6.back n25) st6 r6 e5
      have f7 : Fresh g2 H2 T := fun a z => (f6.back n25) a (sub a z)
      obtain ⟨k1, k2, k3⟩ := n7.out Dd fD
      have kR : ¬ g7.RO Dd := fun z => hR (by unfold G.RO at z ⊢; rw [n7.ro] at z; exact z)
      have DT : Dd ∉ T := fun z => f7 Dd z fD
      refine ⟨ws, k1.trans hv, by rw [rs.length]; omega, ?_⟩
      have hn : ∀ a, a ≠ Dd → upd H6 Dd (.lst (ws ++ [y])) a = H6 a := fun a z => upd_ne z
      have w7 := (st7.outW (o := .lst (ws ++ [y])) k2 k3 kR).wipe vs
      rw [ew] at w7
      refine ⟨g7, wipeA s6 vs, ws ++ [y], acc ++ [m], rst', Sa ++ (T ++ []), ⟨fun a o h => n7.ex a o (n2.ex a o h), n7.pi.trans n2.pi, n7.ro.trans n2.ro, fun a f => ?_⟩, w7, ⟨k2, k3, kR⟩, upd_same, Reps.app (rs.mono n7.ex fun a z => (hn a fun e => hDS (e ▸ z)).trans (n7.out a (fS a z)).1) (.cons (r7.1.mono (fun _ _ z => z) fun a z => hn a fun e => DT (e ▸ z)) .nil), ?_, fun a z => ?_, ?_, fun a z => ?_, e7, by rw [em, List.append_assoc]; rfl, by rw [List.length_append]; exact Nat.succ_le_succ hac⟩
      · have f2 := n2.fr f
        obtain ⟨j1, j2, j3⟩ := n7.out a f2
        exact ⟨(hn a fun e => f.1.1 (e ▸ hD)).trans (j1.trans (n2.out a f).1), j2, j3⟩
      · rw [List.append_nil]
        exact List.nodup_append.mpr ⟨nd, r7.2.1, fun a z b z2 e => f7 b z2 (e ▸ fS a z)⟩
      · rw [List.append_nil] at z
        rcases List.mem_append.mp z with z | z
        · exact ⟨(n7.out a (fS a z)).2.1, (n7.out a (fS a z)).2.2, fun q => (un a z).2.2 (by unfold G.RO at q ⊢; rw [n7.ro] at q; exact q)⟩
        · exact r7.2.2 a z
      · rw [List.append_nil]
        exact fun z => (List.mem_append.mp z).elim hDS DT
      · rw [List.append_nil] at z
        rcases List.mem_append.mp z with z | z
        · exact fr a z
        · exact (f7.back n2) a z
  · have ei : i = ds.length := by omega
    subst ei
    rw [List.drop_length] at e2
    cases e2
    rw [List.append_nil] at em
    subst em
    refine .inl ⟨i2 rfl, k g2 H2 (.ref Dd) (Dd :: Sa) n2 st2 ⟨.lst hv rs, List.nodup_cons.mpr ⟨hDS, nd⟩, fun a z => ?_⟩ fun a z => ?_⟩
    · rcases List.mem_cons.mp z with e | e
      · subst e; exact ⟨hF, hL, hR⟩
      · exact un a e
    · rcases List.mem_cons.mp z with e | e
      · subst e; exact fun z => z.1.1 hD
      · exact fr a e
theorem lc_lift {A : AI} (gr : GRel X.K Ga gt) (gw : GW gt vs) (gm : GMono gt) (σ : L2.St) (H : Hp) (Q : VK) (h : eL X.K W (aLc A Ga C E vs) σ H Q) : tLc (iL X.K W A) gt (tL X.K W C) (eL X.K W E) vs σ H Q := by
  obtain ⟨g, sl, r, st, e, k⟩ := h
  unfold aLc bd at e
  cases eA : A sl with
  | none => rw [eA] at e; cases e
  | some q =>
  rw [eA] at e
  cases q with
  | ex xa s1 => cases e; exact ⟨g, sl, _, st, eA, k⟩
  | ok p s1 =>
  dsimp only at e
  split at e
  · rename_i hsz
    obtain ⟨⟨ms, s2⟩, e1, rfl⟩ := Option.map_eq_some_iff.mp e
    refine ⟨g, sl, _, st, eA, fun g1 H1 J Z n1 st1 lk ir => ?_⟩
    unfold lockL at e1
    obtain ⟨ds, lkd⟩ := p
    cases lkd with
    | none =>
      refine lc_run (W := W) gr gw gm hsz (st1.wipe vs) lk ir e1 fun g' H' v S n' st' r' f' => ?_
      exact k g' H' v S (n1.trans n') ((st'.unwipe).rest (fun i x hx => let ⟨v, h1, h2⟩ := st1.d i x hx; ⟨v, h1, h2.mono n'.ex⟩) vs) r' (f'.back n1)
    | some q =>
      obtain ⟨v, m, hv, hw, rp, nd, lb⟩ := lk
      have main : ∀ (pp : Bool) (m' : MV) (s3 : SL), m' = m → (pp = true → g1.π q = some v) → lcGo Ga C E vs ds (wipeA (s1.set q (some (.k m'))) vs) = some (ms, s3) → unl q pp s3 = some s2 → tLc (fun σ H R => R J H) gt (tL X.K W C) (eL X.K W E) vs σ H1 Q := by
        intro pp m' s3 em hp' e2 e3
        subst em
        have stL := st1.lock hv hw rp nd lb
        have zf : ∀ a ∈ Z, Framed (lockG g1 Z q v) H1 a := fun a z => ⟨rp.keep a z, st1.lf a (by rw [lb a z]; exact fun z => nomatch z), if_pos z⟩
        refine lc_run (Q := Q) (W := W) gr gw gm hsz (stL.wipe vs) zf (show IRel X.K (lockG g1 Z q v) H1 Z ds J from ir) e2 fun g' H' u S n' st' r' f' => ?_
        obtain ⟨nn, stt, rt, fr⟩ := Sta.unlock n1 st1 hv rp lb hp' n' st'.unwipe e3
        have r2 := rt (u := u) (t := .t (.lst ms)) (U := S) r' f'
        exact k _ H' u S nn (stt.rest (fun i x hx => let ⟨v, h1, h2⟩ := st1.d i x hx; ⟨v, h1, h2.mono n'.ex⟩) vs) r2 (fr f')
      dsimp only at e1
      split at e1
      · rename_i m' e0
        obtain ⟨⟨ms', s3⟩, e2, e3⟩ := Option.bind_eq_some_iff.mp e1
        obtain ⟨s4, e4, e5⟩ := Option.map_eq_some_iff.mp e3
        cases e5
        exact main false m' s3 (by unfold wAt at hw; rw [e0] at hw; exact Option.some.inj hw) (fun z => nomatch z) e2 e4
      · rename_i m' e0
        obtain ⟨⟨ms', s3⟩, e2, e3⟩ := Option.bind_eq_some_iff.mp e1
        obtain ⟨s4, e4, e5⟩ := Option.map_eq_some_iff.mp e3
        cases e5
        refine main true m' s3 (by unfold wAt at hw; rw [e0] at hw; exact Option.some.inj hw) (fun _ => ?_) e2 e4
        obtain ⟨u, U, ⟨h1, h2⟩, _⟩ := st1.p q m' e0
        rw [hv] at h1; cases h1
        exact h2
      · cases e1
  · cases e
def aYes : AT := fun s => some (.ok true s)
theorem ts_nil : PTs X [] (tL X.K W aYes) := PTsm pts_nil fun σ H Q ⟨g, sl, r, st, e, k⟩ => by cases e; exact k g H true [] (Nx.refl _ _) st ⟨rfl, rfl⟩ (Fresh.nil _ _)
theorem ts_one {c : Expr} {C : AT} (h : PT X c (tL X.K W C)) : PTs X [c] (tL X.K W C) := pts_one h
theorem e_lc {pos : Pos} {elt tg iter : Expr} {ifs : List Expr} {scope : Scope} {own : List (Str × Nat)} {A : AI} (hc : X.calm = true) (hN : X.N.Nodup) (hi : PI X tg iter (iL X.K W A)) (ok : BlkOk X.N X.env.scope scope own)
    (hg : ∀ (s : Shared) (H : Hp) (C : Addr) (cl : List (Str × Addr)) (fp : List Addr), PG (X.blk s H scope (compEnvC scope cl C X.env) fp) tg gt) (gr : GRel X.K Ga gt) (gw : GW gt (own.map (·.2))) (gm : GMono gt)
    (ht : ∀ (s : Shared) (H : Hp) (C' : Addr) (cl : List (Str × Addr)) (fp : List Addr), PTs (X.blk s H scope (compEnvC scope cl C' X.env) fp) ifs (tL X.K W C))
    (he : ∀ (s : Shared) (H : Hp) (C : Addr) (cl : List (Str × Addr)) (fp : List Addr), PE (X.blk s H scope (compEnvC scope cl C X.env) fp) elt (eL X.K W E)) (hs : ∀ x, foldedSetIterable iter X.env x = pure x := by intro _; rfl) :
    PE X (.ListComp elt [⟨tg, iter, ifs, 0⟩] scope pos) (eL X.K W (aLc A Ga C E (own.map (·.2)))) := PEm (pe_lc hc hN hi ok hg ht he hs) (lc_lift gr gw gm)
theorem s_setLcG {i : Nat} {y : Str} {py pos spos : Pos} {elt tg iter : Expr} {ifs : List Expr} {scope : Scope} {own : List (Str × Nat)} {A : AI} {Gn : AG} (gn : GRel X.K Gn (gName i)) (hc : X.calm = true) (hN : X.N.Nodup) (hy : X.N[i]? = some y) (hyl : X.env.scope.names.lookup y = some .local)
    (hsw : swapsWith (.ListComp elt [⟨tg, iter, ifs, 0⟩] scope pos) (some (.Name y py)) spos.line X.env = pure true) (hi : PI X tg iter (iL X.K W A)) (ok : BlkOk X.N X.env.scope scope own)
    (hg : ∀ (s : Shared) (H : Hp) (C : Addr) (cl : List (Str × Addr)) (fp : List Addr), PG (X.blk s H scope (compEnvC scope cl C X.env) fp) tg gt) (gr : GRel X.K Ga gt) (gw : GW gt (own.map (·.2))) (gm : GMono gt)
    (ht : ∀ (s : Shared) (H : Hp) (C' : Addr) (cl : List (Str × Addr)) (fp : List Addr), PTs (X.blk s H scope (compEnvC scope cl C' X.env) fp) ifs (tL X.K W C))
    (he : ∀ (s : Shared) (H : Hp) (C : Addr) (cl : List (Str × Addr)) (fp : List Addr), PE (X.blk s H scope (compEnvC scope cl C X.env) fp) elt (eL X.K W E)) (hs : ∀ x, foldedSetIterable iter X.env x = pure x := by intro _; rfl) :
    PS X (.Assign [.Name y py] (.ListComp elt [⟨tg, iter, ifs, 0⟩] scope pos) spos) (sL X.K W (aAsg (aLc A Ga C E (own.map (·.2))) Gn)) :=
  PSm (ps_setLc hc hN hy hyl hsw hi ok hg ht he hs) fun D σ H ⟨g, sl, r, st, e, k⟩ => by
    refine lc_lift gr gw gm σ H _ (run1S (R := RV X.K) st e (k.x σ) fun t s1 g1 H1 v U e1 n1 st1 r1 f1 => ?_)
    obtain ⟨s2, e2, rfl⟩ := Option.map_eq_some_iff.mp e1
    exact gn g H g1 H1 σ s1 s2 v t U D.nx n1 st1 r1 f1 e2 fun g2 H2 σ2 n2 st2 => k g2 H2 σ2 n2 st2
end
end Y

/-! Layer Y, part M: isinstance, constants, stores by place, dicts. -/
namespace Y
open PySem PySem.Spec PyProof.Rows L2 Evl
theorem hxmS {K : PySem.W.Frag} {W : WX} {g g1 : G} {H H1 : Hp} {σ : L2.St} {r : SR} (h : ∀ xa s, r = .ex xa s → Kx K W g H σ xa s) (n : Nx g H g1 H1) : ∀ xa s, r = .ex xa s → Kx K W g1 H1 σ xa s := fun xa s e => (h xa s e).mono n
/-! ### isinstance of a built-in type -/
def isiM (n : String) : MV → Option Bool
  | .d .none => kitB "NoneType" n
  | .d (.bool _) => kitB "bool" n
  | .d (.int _) => kitB "int" n
  | .d (.str _) => kitB "str" n
  | .d (.list _) => kitB "list" n
  | .d (.tuple _) => kitB "tuple" n
  | .lst _ => kitB "list" n
  | .dK _ => kitB "dict" n
  | .dT _ => kitB "dict" n
  | _ => none
def aIsi (n : String) (A : AE) : AE := fun s => bd (A s) fun x s1 => ((vw s1 x).bind (isiM n)).map fun b => .ok (.d (.bool b)) s1
theorem tupTy {K : PySem.W.Frag} {H : Hp} {a : Addr} {vs : List V} (h : SqT K H a vs) : TyX K H (.ref a) (.type "tuple") := by
  rcases h with (h | ⟨o, h⟩) | ⟨o, its, n, h1, h2, _⟩
  · exact .base (.tup h)
  · exact .fTuple h
  · exact .kTuple h1 h2
theorem tyx_ok {K : PySem.W.Frag} {g : G} {H : Hp} {σ : L2.St} {sl : SL} {v : V} {t : TV} {S : List Addr} {n : String} {m : MV} {b : Bool} (st : Sta K g H σ sl) (r : RTV K g H σ v t S) (h1 : vw sl t = some m) (h2 : isiM n m = some b) : ∃ t, TyX K H v (.type t) ∧ kitB t n = some b := by
  obtain ⟨T, q⟩ := vw_ok st r h1
  cases q with
  | d q =>
    cases q with
    | non => exact ⟨_, .base .non, h2⟩
    | bl z => exact ⟨_, .base (.bl _), h2⟩
    | int z => exact ⟨_, .base (.int _), h2⟩
    | str z => exact ⟨_, .base (.str _), h2⟩
    | lst e1 e2 => exact ⟨_, .base (.lst (st.ex _ _ e1)), h2⟩
    | tup e1 e2 => exact ⟨_, .base (.tup (st.ex _ _ e1)), h2⟩
  | lst e1 e2 => exact ⟨_, .base (.lst e1), h2⟩
  | dK e1 e2 e3 => exact ⟨_, .base (.dK e1), h2⟩
  | dT e1 e2 e3 => exact ⟨_, .base (.dT e1), h2⟩
theorem e_isi {X : Cx} {W : WX} {pos p cp : Pos} {e : Expr} {A : AE} {c : Str} {n : String} (hg : Gl X "isinstance") (hm : X.mg "isinstance" = none) (hv : bootBuiltins "isinstance" = some (.builtin "isinstance")) (he : PE X e (eL X.K W A)) (hgc : Gl X c) (hmc : X.mg c = none) (hvc : bootBuiltins c = some (.type n)) (hnc : c ≠ "__name__" := by decide) (hdc : (c == ("__debug__" : Str)) = false := by decide)
    (hs : starEach [e, .Name c cp] X.env = (false, eval e X.env) :: starEach [.Name c cp] X.env := by rfl) (hpl : (backTo pos (starEach [.Name c cp] X.env)).any (·.1) = false := by rfl) (hs2 : starEach [.Name c cp] X.env = [(false, eval (.Name c cp) X.env)] := by rfl) :
    PE X (.Call (.Name "isinstance" p) [e, .Name c cp] [] pos) (eL X.K W (aIsi n A)) :=
  PEm (pe_callB (t := tCons (eL X.K W A) (tCons (tC (.ty n)) tNil)) call_isi hg hm hv (pa_cons he (pa_cons (pe_bltn hgc hmc hvc rfl hnc hdc) pa_nil hs2) hs) (by decide) (by decide) hs hpl) fun σ H Q ⟨g, sl, res, st, e, k⟩ =>
    run1 (R := RV X.K) st e k.x fun tx s1 g1 H1 v S e1 n1 st1 r1 f1 => by
      obtain ⟨b, e2, rfl⟩ := Option.map_eq_some_iff.mp e1
      obtain ⟨m, e3, e4⟩ := Option.bind_eq_some_iff.mp e2
      obtain ⟨t, ht, hk⟩ := tyx_ok st1 r1 e3 e4
      exact ⟨v, .ty n, .type t, .type n, b, rfl, .ty n, ht, kit_ty hk, Kg.scal k n1 st1 (.bl _)⟩
/-! ### the module's own names -/
section
variable {X : Cx} {W : WX} {pos : Pos}
theorem e_gI {x : Str} {i : Int} (h : ∃ t, X.mg x = some (.int i t)) (hg : Gl X x) (hd : (x == ("__debug__" : Str)) = false := by decide) : PE X (.Name x pos) (eL X.K W (aC (.int i))) :=
  let ⟨t, e⟩ := h
  e_const (pe_glob hg e (v := .int i) ⟨t, rfl⟩ hd) fun _ => .int i
theorem e_gS {x z : Str} (h : ∃ t, X.mg x = some (.str z t)) (hg : Gl X x) (hd : (x == ("__debug__" : Str)) = false := by decide) : PE X (.Name x pos) (eL X.K W (aC (.str z))) :=
  let ⟨t, e⟩ := h
  e_const (pe_glob hg e (v := .str z) ⟨t, rfl⟩ hd) fun _ => .str z
def aXT (ds : List D) : AE := fun s => some (.ok (.c ds) s)
theorem e_gT {x : Str} {zs : List Str} (h : ∃ a, X.mg x = some (.ref a) ∧ ∀ H, SqT X.K H a (zs.map V.str)) (hg : Gl X x) (hd : (x == ("__debug__" : Str)) = false := by decide) : PE X (.Name x pos) (eL X.K W (aXT (zs.map PyData.str))) :=
  let ⟨a, e, hq⟩ := h
  PEm (pe_glob hg e (v := .ref a) rfl hd) fun σ H Q ⟨g, sl, _, st, e, k⟩ => by cases e; exact k g H _ [] (Nx.refl _ _) st ⟨rfl, a, _, rfl, hq _, strs_rd zs⟩ (Fresh.nil _ _)
end
/-! ### xs[i] = v of an owned list -/
theorem Reps.set {K : PySem.W.Frag} {F H : Hp} : ∀ {vs : List V} {ms : List MV} {S : List Addr} {j : Nat} {u : V} {m : MV} {T : List Addr}, Reps K F H vs ms S → j < ms.length → Rep K F H u m T → ∃ A B C, S = A ++ (C ++ B) ∧ Reps K F H (vs.set j u) (ms.set j m) (A ++ (T ++ B))
  | _, _, _, j, _, _, _, .nil, h, _ => absurd h (Nat.not_lt_zero _)
  | _, _, _, 0, u, m, T, .cons (S := S) (T := S') r t, _, q => ⟨[], S', S, rfl, Reps.cons (S := T) (T := S') q t⟩
  | _, _, _, j + 1, u, m, T, .cons (S := S) (T := S') r t, h, q => by
    obtain ⟨A, B, C, e, rr⟩ := Reps.set (j := j) t (by simpa using h) q
    refine ⟨S ++ A, B, C, by rw [e, List.append_assoc], ?_⟩
    rw [List.append_assoc]
    exact .cons r rr
def aSetL (A O I : AE) : AS := fun s => sb (A s) fun tv s1 => sb (O s1) fun to s2 => sb (I s2) fun ti s3 => match ti with
  | .d (.int n) => (toM s3 tv).bind fun r => (pl r.2 to).bind fun q => match q.m with
    | .lst ms => (ixN ms.length n).map fun j => .nx (q.w (.lst (ms.set j r.1)))
    | _ => none
  | _ => none
theorem s_setL {X : Cx} {W : WX} {pos p2 : Pos} {e o i : Expr} {A O I : AE} (he : PE X e (eL X.K W A)) (ho : PE X o (eL X.K W O)) (hi : PE X i (eL X.K W I))
    (ha : ∀ v, assign (.Subscript o i p2) X.env v = (do
      let ov ← holding [v] (eval o X.env)
      let iv ← holding [v, ov] (eval i X.env)
      standAt p2
      holding [v, ov, iv] (setItem ov iv v)
      release [v, ov, iv] []) := by intro _; rfl)
    (hs : swapsWithSole [.Subscript o i p2] e pos.line X.env = pure false := by rfl) (hw : swappedStores [.Subscript o i p2] e X.env = pure none := by rfl)
    (h1 : (assignEach [.Subscript o i p2] X.env).map (·.2) = [assign (.Subscript o i p2) X.env] := by rfl) : PS X (.Assign [.Subscript o i p2] e pos) (sL X.K W (aSetL A O I)) :=
  PSm (ps_asg he (pg_sub ho hi set_list ha) hs hw h1) fun D σ H ⟨g, sl, r, st, e, k⟩ => run1S (R := RV X.K) st e (k.x σ) fun tv s1 g1 H1 v S e1 n1 st1 r1 f1 =>
    run1S (R := RV X.K) st1 e1 (hxmS (k.x σ) n1) fun to s2 g2 H2 o T e2 n2 st2 r2 f2 => run1S (R := RV X.K) st2 e2 (hxmS (k.x σ) (n1.trans n2)) fun ti s3 g3 H3 i U e3 n3 st3 r3 f3 => by
      split at e3
      · rename_i m
        obtain ⟨⟨mv, s4⟩, e4, e5⟩ := Option.bind_eq_some_iff.mp e3
        obtain ⟨q, e6, e7⟩ := Option.bind_eq_some_iff.mp e5
        split at e7
        · rename_i ms em
          obtain ⟨j, e8, rfl⟩ := Option.map_eq_some_iff.mp e7
          obtain ⟨_, r3⟩ := r3
          cases r3
          have nn := n1.trans (n2.trans n3)
          have rr := r1.mono (n2.trans n3)
          obtain ⟨g4, V, n4, st4, q4, sub, kp, ex⟩ := toM_ok nn f1 st3 rr e4
          have ap : ∀ a ∈ S, a ∉ T := r1.apart f2
          have hv : RTV X.K g4 H3 σ o to T := kp _ _ _ (r2.mono n3) ap
          have fV : Fresh g H V := fun a z => f1 a (sub a z)
          obtain ⟨g5, Z, n5, st5, eF, rp, nd, zt, fin⟩ := pl_root n4 (f2.back n1) st4 hv e6 fV (fun a z z2 => ap a (sub a z2) z) q4.2.2 (fun a z => q4.1.keep a z)
          rw [em] at rp
          cases rp with
          | @lst a vs _ U ha hr =>
            have h4 := (List.nodup_cons.mp nd).2
            have h3 : ∀ b ∈ U, b ∉ V := fun b z => zt b (List.mem_cons_of_mem _ z)
            have hj : j < ms.length := (ixN_seq e8).2.1
            obtain ⟨B1, B2, B3, eU, rs⟩ := Reps.set (u := v) (m := mv) hr hj q4.1
            subst eU
            have n12 := List.nodup_append.mp h4
            have n23 := List.nodup_append.mp n12.2.1
            obtain ⟨n6, st6⟩ := fin a _ (.lst (vs.set j v)) (.lst (ms.set j mv)) _ rfl (keep_lst rfl) (List.nodup_append.mpr ⟨n12.1, List.nodup_append.mpr ⟨q4.2.1, n23.2.1, fun x hx y hy e => h3 y (List.mem_append_right _ (List.mem_append_right _ hy)) (e ▸ hx)⟩, fun x hx y hy e => by
              subst e
              rcases List.mem_append.mp hy with hy | hy
              · exact h3 x (List.mem_append_left _ hx) hy
              · exact n12.2.2 x hx x (List.mem_append_right _ hy) rfl⟩) (fun b hb => by
              rcases List.mem_append.mp hb with hb | hb
              · exact .inl (List.mem_append_left _ hb)
              · rcases List.mem_append.mp hb with hb | hb
                · exact .inr hb
                · exact .inl (List.mem_append_right _ (List.mem_append_right _ hb))) fun H' h1 h2 => .lst h1 (rs.mono (fun _ _ z => z) h2)
            exact ⟨a, vs, m, j, rfl, rfl, ha, by rw [hr.length]; exact e8, k _ _ _ n6 st6⟩
        · cases e7
      · cases e3
/-! ### dicts: keys -/
def keyA : D → Option Key
  | .int i => some (.inl i)
  | .str x => some (.inr x)
  | _ => none
def keysA : List D → Option (List Key)
  | [] => some []
  | d :: r => (keyA d).bind fun k => (keysA r).map (k :: ·)
def keyT : D → Option (List Key)
  | .tuple ds => keysA ds
  | _ => none
def kD : Key → D
  | .inl i => .int i
  | .inr x => .str x
theorem keyA_kD (k : Key) : keyA (kD k) = some k := by cases k <;> rfl
theorem keysA_kD : ∀ ks : List Key, keysA (ks.map kD) = some ks
  | [] => rfl
  | k :: r => by
    show (keyA (kD k)).bind (fun k => (keysA (r.map kD)).map (k :: ·)) = _
    rw [keyA_kD, keysA_kD r]
    rfl
theorem keyA_eq {d : D} {k : Key} (h : keyA d = some k) : d = kD k := by
  cases d <;> first | (cases h; rfl) | cases h
theorem keysA_eq : ∀ {ds : List D} {ks : List Key}, keysA ds = some ks → ds = ks.map kD
  | [], _, h => by cases h; rfl
  | d :: r, ks, h => by
    have h' : (keyA d).bind (fun k => (keysA r).map (k :: ·)) = some ks := h
    cases e : keyA d with
    | none => rw [e] at h'; cases h'
    | some k =>
      rw [e] at h'
      have h2 : (keysA r).map (k :: ·) = some ks := h'
      cases e2 : keysA r with
      | none => rw [e2] at h2; cases h2
      | some ks2 =>
        rw [e2] at h2
        cases h2
        rw [List.map_cons, ← keyA_eq e, ← keysA_eq e2]
theorem keyT_eq {d : D} {ks : List Key} (h : keyT d = some ks) : d = .tuple (ks.map kD) := by
  cases d with
  | tuple ds => rw [keysA_eq (show keysA ds = some ks from h)]
  | _ => cases h
section
variable {K : PySem.W.Frag}
theorem rd_kD {F : Hp} {v : V} {k : Key} (r : RD K F v (kD k)) : v = kV k := by
  cases k with
  | inl i => cases r; rfl
  | inr x => cases r; rfl
theorem rds_kD {F : Hp} : ∀ {ks : List Key} {vs : List V}, RDs K F vs (ks.map kD) → vs = ks.map kV
  | [], _, .nil => rfl
  | k :: r, _, .cons h t => by rw [rd_kD h, rds_kD t, List.map_cons]
theorem kD_rd (F : Hp) (k : Key) : RD K F (kV k) (kD k) := by
  cases k with
  | inl i => exact .int i
  | inr x => exact .str x
theorem kDs_rd (F : Hp) : ∀ ks : List Key, RDs K F (ks.map kV) (ks.map kD)
  | [] => .nil
  | k :: r => .cons (kD_rd F k) (kDs_rd F r)
end
end Y

/-! Layer Y, part N: dicts. -/
namespace Y
open PySem PySem.Spec PyProof.Rows L2 Evl
section
variable {κ : Type} [DecidableEq κ]
def valM (kvs : List (κ × MV)) (k : κ) : Option MV := (kvs.find? fun kv => decide (kv.1 = k)).map (·.2)
def putM (kvs : List (κ × MV)) (k : κ) (m : MV) : List (κ × MV) :=
  if (kvs.any fun kv => decide (kv.1 = k)) = true then kvs.map (fun kv => if kv.1 = k then (kv.1, m) else kv) else kvs ++ [(k, m)]
variable {K : PySem.W.Frag} {F H : Hp}
theorem val_rel (k : κ) : ∀ {kws : List (κ × V)} {kvs : List (κ × MV)} {S : List Addr}, kws.map (·.1) = kvs.map (·.1) → Reps K F H (kws.map (·.2)) (kvs.map (·.2)) S → (valV kws k = none ∧ valM kvs k = none) ∨ ∃ v m T, valV kws k = some v ∧ valM kvs k = some m ∧ Rep K F H v m T
  | [], [], _, _, _ => .inl ⟨rfl, rfl⟩
  | [], _ :: _, _, h, _ => by cases h
  | _ :: _, [], _, h, _ => by cases h
  | p :: r, q :: t, _, h, rs => by
    rw [List.map_cons, List.map_cons] at h
    injection h with h1 h2
    rw [List.map_cons, List.map_cons] at rs
    cases rs with
    | @cons _ _ _ _ S1 S2 r1 r2 =>
      unfold valV valM
      rw [List.find?_cons, List.find?_cons]
      by_cases e : p.1 = k
      · rw [decide_eq_true e, decide_eq_true (h1 ▸ e)]
        exact .inr ⟨p.2, q.2, S1, rfl, rfl, r1⟩
      · rw [decide_eq_false e, decide_eq_false (h1 ▸ e)]
        exact val_rel k h2 r2
theorem any_rel (k : κ) : ∀ {kws : List (κ × V)} {kvs : List (κ × MV)}, kws.map (·.1) = kvs.map (·.1) → (kws.any fun kv => decide (kv.1 = k)) = kvs.any fun kv => decide (kv.1 = k)
  | [], [], _ => rfl
  | [], _ :: _, h => by cases h
  | _ :: _, [], h => by cases h
  | p :: r, q :: t, h => by
    rw [List.map_cons, List.map_cons] at h
    injection h with h1 h2
    rw [List.any_cons, List.any_cons, any_rel k h2, h1]
theorem map_none {α : Type} (k : κ) (m : α) : ∀ {kvs : List (κ × α)}, k ∉ kvs.map (·.1) → (kvs.map fun kv => if kv.1 = k then (kv.1, m) else kv) = kvs
  | [], _ => rfl
  | q :: t, h => by
    rw [List.map_cons] at h
    rw [List.map_cons, if_neg (fun e : q.1 = k => h (e ▸ List.mem_cons_self)), map_none k m fun z => h (List.mem_cons_of_mem _ z)]
theorem keys_map {α : Type} (k : κ) (m : α) : ∀ kvs : List (κ × α), (kvs.map fun kv => if kv.1 = k then (kv.1, m) else kv).map (·.1) = kvs.map (·.1)
  | [] => rfl
  | q :: t => by
    rw [List.map_cons, List.map_cons, List.map_cons, keys_map k m t]
    split <;> rfl
theorem map_rel (k : κ) {u : V} {m : MV} {T : List Addr} (rm : Rep K F H u m T) (ndT : T.Nodup) : ∀ {kws : List (κ × V)} {kvs : List (κ × MV)} {S : List Addr}, kws.map (·.1) = kvs.map (·.1) → (kvs.map (·.1)).Nodup → Reps K F H (kws.map (·.2)) (kvs.map (·.2)) S → S.Nodup → (∀ b ∈ S, b ∉ T) → k ∈ kvs.map (·.1) →
    ∃ U, Reps K F H ((kws.map fun kv => if kv.1 = k then (kv.1, u) else kv).map (·.2)) ((kvs.map fun kv => if kv.1 = k then (kv.1, m) else kv).map (·.2)) U ∧ U.Nodup ∧ ∀ b ∈ U, b ∈ S ∨ b ∈ T
  | [], [], _, _, _, _, _, _, h => nomatch h
  | [], _ :: _, _, h, _, _, _, _, _ => by cases h
  | _ :: _, [], _, h, _, _, _, _, _ => by cases h
  | p :: r, q :: t, _, h, nk, rs, ndS, dj, hk => by
    rw [List.map_cons, List.map_cons] at h
    injection h with h1 h2
    rw [List.map_cons] at nk
    have nk' := List.nodup_cons.mp nk
    rw [List.map_cons, List.map_cons] at rs
    cases rs with
    | @cons _ _ _ _ S1 S2 r1 r2 =>
      have n12 := List.nodup_append.mp ndS
      rw [List.map_cons, List.map_cons, List.map_cons, List.map_cons]
      by_cases e : q.1 = k
      · rw [if_pos (h1.trans e), if_pos e, map_none k m (e ▸ nk'.1), map_none k u (by rw [h2]; exact e ▸ nk'.1)]
        exact ⟨T ++ S2, .cons rm r2, List.nodup_append.mpr ⟨ndT, n12.2.1, fun a ha b hb z => dj b (List.mem_append_right _ hb) (z ▸ ha)⟩, fun b hb => (List.mem_append.mp hb).elim .inr fun z => .inl (List.mem_append_right _ z)⟩
      · rw [if_neg (fun z => e (h1 ▸ z)), if_neg e]
        have hk' : k ∈ t.map (·.1) := by
          rw [List.map_cons] at hk
          exact (List.mem_cons.mp hk).elim (fun z => absurd z.symm e) id
        obtain ⟨U, u1, u2, u3⟩ := map_rel k rm ndT h2 nk'.2 r2 n12.2.1 (fun b hb => dj b (List.mem_append_right _ hb)) hk'
        refine ⟨S1 ++ U, .cons r1 u1, List.nodup_append.mpr ⟨n12.1, u2, fun a ha b hb z => ?_⟩, fun b hb => ?_⟩
        · subst z
          rcases u3 a hb with z | z
          · exact n12.2.2 a ha a z rfl
          · exact dj a (List.mem_append_left _ ha) z
        · rcases List.mem_append.mp hb with z | z
          · exact .inl (List.mem_append_left _ z)
          · exact (u3 b z).imp (List.mem_append_right _) id
theorem any_mem {α : Type} {k : κ} {kvs : List (κ × α)} : (kvs.any fun kv => decide (kv.1 = k)) = true ↔ k ∈ kvs.map (·.1) := by
  rw [List.any_eq_true]
  constructor
  · rintro ⟨x, hx, e⟩
    exact (of_decide_eq_true e) ▸ List.mem_map_of_mem hx
  · intro h
    obtain ⟨x, hx, e⟩ := List.mem_map.mp h
    exact ⟨x, hx, decide_eq_true e⟩
theorem put_rel (k : κ) {u : V} {m : MV} {S T : List Addr} (rm : Rep K F H u m T) (ndT : T.Nodup) {kws : List (κ × V)} {kvs : List (κ × MV)} (h : kws.map (·.1) = kvs.map (·.1)) (nk : (kvs.map (·.1)).Nodup) (rs : Reps K F H (kws.map (·.2)) (kvs.map (·.2)) S) (ndS : S.Nodup) (dj : ∀ b ∈ S, b ∉ T) :
    (putK kws k u).map (·.1) = (putM kvs k m).map (·.1) ∧ ((putM kvs k m).map (·.1)).Nodup ∧ ∃ U, Reps K F H ((putK kws k u).map (·.2)) ((putM kvs k m).map (·.2)) U ∧ U.Nodup ∧ ∀ b ∈ U, b ∈ S ∨ b ∈ T := by
  unfold putK putM
  rw [any_rel k h]
  by_cases e : (kvs.any fun kv => decide (kv.1 = k)) = true
  · rw [if_pos e, if_pos e]
    refine ⟨?_, by rw [keys_map]; exact nk, map_rel k rm ndT h nk rs ndS dj (any_mem.mp e)⟩
    rw [keys_map, keys_map]; exact h
  · rw [if_neg e, if_neg e]
    refine ⟨by rw [List.map_append, List.map_append, h]; rfl, ?_, S ++ (T ++ []), ?_, ?_, fun b hb => ?_⟩
    · rw [List.map_append]
      refine List.nodup_append.mpr ⟨nk, by simp, fun a ha b hb z => e (any_mem.mpr ?_)⟩
      have : b = k := by simpa using hb
      rw [← this, ← z]; exact ha
    · rw [List.map_append, List.map_append]
      exact Reps.app rs (.cons rm .nil)
    · rw [List.append_nil]
      exact List.nodup_append.mpr ⟨ndS, ndT, fun a ha b hb z => dj a ha (z ▸ hb)⟩
    · rw [List.append_nil] at hb
      exact List.mem_append.mp hb
end
/-- what a dict has at a key; both kinds of dicts -/
def dGet (m : MV) (d : D) : Option (Option MV) := match m with
  | .dK kvs => (keyA d).map (valM kvs)
  | .dT kvs => (keyT d).map (valM kvs)
  | _ => none
theorem rd_kT {K : PySem.W.Frag} {F : Hp} {v : V} {ks : List Key} (r : RD K F v (.tuple (ks.map kD))) : ∃ b, v = .ref b ∧ F b = some (.tup (ks.map kV)) := by
  cases r with
  | tup h q =>
    rw [rds_kD q] at h
    exact ⟨_, rfl, h⟩
theorem dGet_ok {K : PySem.W.Frag} {F H : Hp} {v y : V} {m : MV} {d : D} {S : List Addr} {o : Option MV} (ex : Ex F H) (r : Rep K F H v m S) (ry : RD K F y d) (h : dGet m d = some o) : ∃ a, v = .ref a ∧ ((DGet H a y none ∧ o = none) ∨ ∃ u m' T, DGet H a y (some u) ∧ o = some m' ∧ Rep K F H u m' T) := by
  cases r with
  | d r => cases h
  | lst _ _ => cases h
  | @dK a kws kvs S ha hk rs =>
    obtain ⟨k, ek, eo⟩ := Option.map_eq_some_iff.mp (show (keyA d).map (valM kvs) = some o from h)
    rw [keyA_eq ek] at ry
    rw [rd_kD ry]
    refine ⟨a, rfl, ?_⟩
    rcases val_rel k hk.1 rs with ⟨h1, h2⟩ | ⟨u, m', T, h1, h2, h3⟩
    · exact .inl ⟨.inl ⟨kws, k, .inl ha, rfl, h1.symm⟩, eo.symm.trans h2⟩
    · exact .inr ⟨u, m', T, .inl ⟨kws, k, .inl ha, rfl, h1.symm⟩, eo.symm.trans h2, h3⟩
  | @dT a kws kvs S ha hk rs =>
    obtain ⟨k, ek, eo⟩ := Option.map_eq_some_iff.mp (show (keyT d).map (valM kvs) = some o from h)
    rw [keyT_eq ek] at ry
    obtain ⟨b, eb, hb⟩ := rd_kT ry
    subst eb
    refine ⟨a, rfl, ?_⟩
    rcases val_rel k hk.1 rs with ⟨h1, h2⟩ | ⟨u, m', T, h1, h2, h3⟩
    · exact .inl ⟨.inr ⟨kws, k, b, .inl ha, rfl, ex _ _ hb, h1.symm⟩, eo.symm.trans h2⟩
    · exact .inr ⟨u, m', T, .inr ⟨kws, k, b, .inl ha, rfl, ex _ _ hb, h1.symm⟩, eo.symm.trans h2, h3⟩
/-- d[k], where the value is data -/
def oDGet : O2 := fun s x y => match y with
  | .d d => (vw s x).bind fun m => match dGet m d with
    | some (some (.d z)) => some (.d z, s)
    | _ => none
  | _ => none
def oDIn (neg : Bool) : O2 := fun s y x => match y with
  | .d d => (vw s x).bind fun m => (dGet m d).map fun o => (.d (.bool (if neg then !o.isSome else o.isSome)), s)
  | _ => none
def rDGet : R2 := fun x y H Q => ∃ a v, x = .ref a ∧ DGet H a y (some v) ∧ Q v H
def rDIn : R2 := fun y x H Q => ∃ a o, x = .ref a ∧ DGet H a y o ∧ Q (.bl o.isSome) H
def rDNot : R2 := fun y x H Q => ∃ a o, x = .ref a ∧ DGet H a y o ∧ Q (.bl (!o.isSome)) H
section
variable {K : PySem.W.Frag}
theorem co_dget : Co2 K rDGet oDGet := by
  intro g0 H0 g H σ sl x y tx ty S T tv sl' Q n st rx fx ry fy ap h k
  unfold oDGet at h
  split at h
  · obtain ⟨m, e1, h⟩ := Option.bind_eq_some_iff.mp h
    split at h
    · rename_i z e2
      cases h
      obtain ⟨U, q⟩ := vw_ok st rx e1
      obtain ⟨a, rfl, ⟨_, h2⟩ | ⟨u, m', V, h1, h2, h3⟩⟩ := dGet_ok st.ex q ry.2 e2
      · cases h2
      · cases h2
        cases h3 with
        | d h3 => exact ⟨a, u, rfl, h1, k.scal n st h3⟩
    · cases h
  · cases h
theorem co_din : Co2 K rDIn (oDIn false) := by
  intro g0 H0 g H σ sl y x ty tx S T tv sl' Q n st ry fy rx fx ap h k
  unfold oDIn at h
  split at h
  · obtain ⟨m, e1, h⟩ := Option.bind_eq_some_iff.mp h
    obtain ⟨o, e2, e3⟩ := Option.map_eq_some_iff.mp h
    cases e3
    obtain ⟨U, q⟩ := vw_ok st rx e1
    obtain ⟨a, rfl, ⟨h1, h2⟩ | ⟨u, m', V, h1, h2, h3⟩⟩ := dGet_ok st.ex q ry.2 e2
    · subst h2; exact ⟨a, none, rfl, h1, k.scal n st (.bl _)⟩
    · subst h2; exact ⟨a, some u, rfl, h1, k.scal n st (.bl _)⟩
  · cases h
theorem co_dnot : Co2 K rDNot (oDIn true) := by
  intro g0 H0 g H σ sl y x ty tx S T tv sl' Q n st ry fy rx fx ap h k
  unfold oDIn at h
  split at h
  · obtain ⟨m, e1, h⟩ := Option.bind_eq_some_iff.mp h
    obtain ⟨o, e2, e3⟩ := Option.map_eq_some_iff.mp h
    cases e3
    obtain ⟨U, q⟩ := vw_ok st rx e1
    obtain ⟨a, rfl, ⟨h1, h2⟩ | ⟨u, m', V, h1, h2, h3⟩⟩ := dGet_ok st.ex q ry.2 e2
    · subst h2; exact ⟨a, none, rfl, h1, k.scal n st (.bl _)⟩
    · subst h2; exact ⟨a, some u, rfl, h1, k.scal n st (.bl _)⟩
  · cases h
end
section
variable {X : Cx} {W : WX} {pos : Pos} {a b : Expr} {A B : AE}
theorem e_dget (hu : X.A.units + 1 < cLine) (ha : PE X a (eL X.K W A)) (hb : PE X b (eL X.K W B)) (hs : NoSl b) : PE X (.Subscript a b pos) (eL X.K W (aOp oDGet A B)) := PEm (pe_dget hu ha hb hs) (op_lift co_dget)
theorem e_din (hu : X.A.units + 1 < cLine) (ha : PE X a (eL X.K W A)) (hb : PE X b (eL X.K W B)) (hm : behindInMarks .In b = false) : PE X (.Compare a [.In] [b] pos) (eL X.K W (aOp (oDIn false) A B)) := e_pc (pc_din hu ha hb) (op_lift co_din) hm
theorem e_dnotin (hu : X.A.units + 1 < cLine) (ha : PE X a (eL X.K W A)) (hb : PE X b (eL X.K W B)) (hm : behindInMarks .NotIn b = false) : PE X (.Compare a [.NotIn] [b] pos) (eL X.K W (aOp (oDIn true) A B)) := e_pc (pc_dnotin hu ha hb) (op_lift co_dnot) hm
theorem t_din (hu : X.A.units + 1 < cLine) (ha : PE X a (eL X.K W A)) (hb : PE X b (eL X.K W B)) (hm : behindInMarks .In b = false) : PT X (.Compare a [.In] [b] pos) (tL X.K W (aB (aOp (oDIn false) A B))) := t_pc (pc_din hu ha hb) (op_lift co_din) hm
theorem t_dnotin (hu : X.A.units + 1 < cLine) (ha : PE X a (eL X.K W A)) (hb : PE X b (eL X.K W B)) (hm : behindInMarks .NotIn b = false) : PT X (.Compare a [.NotIn] [b] pos) (tL X.K W (aB (aOp (oDIn true) A B))) := t_pc (pc_dnotin hu ha hb) (op_lift co_dnot) hm
/-! {} -/
def aDNew (t : Bool) : AE := fun s => some (.ok (.t (if t then .dT [] else .dK [])) s)
theorem e_dnewK : PE X (.Dict [] [] pos) (eL X.K W (aDNew false)) := PEm pe_dnewK fun σ H Q ⟨g, sl, res, st, e, k⟩ => by
  cases e
  intro p hp
  obtain ⟨n', st', h1, h2, h3, h4⟩ := st.newT (o := .dK []) (Nx.refl g H) hp
  exact k _ _ _ [p] n' st' ⟨.dK upd_same ⟨rfl, List.nodup_nil⟩ .nil, by simp, fun a z => by rw [List.mem_singleton.mp z]; exact ⟨h1, h2, h3⟩⟩ fun a z => by rw [List.mem_singleton.mp z]; exact h4
theorem e_dnewT : PE X (.Dict [] [] pos) (eL X.K W (aDNew true)) := PEm pe_dnewT fun σ H Q ⟨g, sl, res, st, e, k⟩ => by
  cases e
  intro p hp
  obtain ⟨n', st', h1, h2, h3, h4⟩ := st.newT (o := .dT []) (Nx.refl g H) hp
  exact k _ _ _ [p] n' st' ⟨.dT upd_same ⟨rfl, List.nodup_nil⟩ .nil, by simp, fun a z => by rw [List.mem_singleton.mp z]; exact ⟨h1, h2, h3⟩⟩ fun a z => by rw [List.mem_singleton.mp z]; exact h4
end
/-! d[k] = v -/
def dPut (m : MV) (d : D) (v : MV) : Option MV := match m with
  | .dK kvs => if kvs.length < sizeLine then (keyA d).map fun k => .dK (putM kvs k v) else none
  | .dT kvs => if kvs.length < sizeLine then (keyT d).map fun k => .dT (putM kvs k v) else none
  | _ => none
theorem dput_ok {K : PySem.W.Frag} {g0 g : G} {H0 H : Hp} {σ : L2.St} {sl : SL} {v u y : V} {x : TV} {S T : List Addr} {q : Pl} {mv m' : MV} {d : D} (n : Nx g0 H0 g H) (f : Fresh g0 H0 S) (st : Sta K g H σ sl) (rx : RTV K g H σ v x S) (ew : pl sl x = some q) (fT : Fresh g0 H0 T) (ap : ∀ a ∈ S, a ∉ T) (ru : RTV K g H σ u (.t mv) T) (ry : RD K g.F y d) (h : dPut q.m d mv = some m') :
    ∃ a H' g', v = .ref a ∧ DPut H a y u H' ∧ Nx g0 H0 g' H' ∧ Sta K g' H' σ (q.w m') := by
  obtain ⟨g1, Z, n1, st1, eF, rp, nd, dj, fin⟩ := pl_root n f st rx ew fT ap ru.2.2 (fun a z => ru.1.keep a z)
  cases em : q.m with
  | d z => rw [em] at h; cases h
  | lst z => rw [em] at h; cases h
  | dK kvs =>
    rw [em] at h rp
    cases rp with
    | @dK a kws kvs U ha hk rs =>
    have h' : (if kvs.length < sizeLine then (keyA d).map fun k => MV.dK (putM kvs k mv) else none) = some m' := h
    split at h'
    · rename_i hl
      obtain ⟨k, ek, rfl⟩ := Option.map_eq_some_iff.mp h'
      rw [keyA_eq ek] at ry
      rw [rd_kD ry]
      obtain ⟨h1, h2, U', h3, h4, h5⟩ := put_rel k ru.1 ru.2.1 hk.1 hk.2 rs (List.nodup_cons.mp nd).2 (fun b z => dj b (List.mem_cons_of_mem _ z))
      have hl' : kws.length < sizeLine := by
        have := congrArg List.length hk.1
        rw [List.length_map, List.length_map] at this
        rw [this]; exact hl
      obtain ⟨n2, st2⟩ := fin a U (.dK (putK kws k u)) (.dK (putM kvs k mv)) U' rfl (keep_dK rfl) h4 h5 fun H' e1 e2 => .dK e1 ⟨h1, h2⟩ (h3.mono (fun _ _ z => z) e2)
      exact ⟨a, _, _, rfl, .inl ⟨kws, k, ha, rfl, hl', rfl⟩, n2, st2⟩
    · cases h'
  | dT kvs =>
    rw [em] at h rp
    cases rp with
    | @dT a kws kvs U ha hk rs =>
    have h' : (if kvs.length < sizeLine then (keyT d).map fun k => MV.dT (putM kvs k mv) else none) = some m' := h
    split at h'
    · rename_i hl
      obtain ⟨k, ek, rfl⟩ := Option.map_eq_some_iff.mp h'
      rw [keyT_eq ek] at ry
      obtain ⟨b, eb, hb⟩ := rd_kT ry
      subst eb
      obtain ⟨h1, h2, U', h3, h4, h5⟩ := put_rel k ru.1 ru.2.1 hk.1 hk.2 rs (List.nodup_cons.mp nd).2 (fun b z => dj b (List.mem_cons_of_mem _ z))
      have hl' : kws.length < sizeLine := by
        have := congrArg List.length hk.1
        rw [List.length_map, List.length_map] at this
        rw [this]; exact hl
      obtain ⟨n2, st2⟩ := fin a U (.dT (putK kws k u)) (.dT (putM kvs k mv)) U' rfl (keep_dT rfl) h4 h5 fun H' e1 e2 => .dT e1 ⟨h1, h2⟩ (h3.mono (fun _ _ z => z) e2)
      exact ⟨a, _, _, rfl, .inr ⟨kws, k, b, ha, rfl, st.ex _ _ hb, hl', rfl⟩, n2, st2⟩
    · cases h'
def aDPut (A O I : AE) : AS := fun s => sb (A s) fun tv s1 => sb (O s1) fun to s2 => sb (I s2) fun ti s3 => match ti with
  | .d d => (toM s3 tv).bind fun r => (pl r.2 to).bind fun q => (dPut q.m d r.1).map fun m' => .nx (q.w m')
  | _ => none
theorem s_dput {X : Cx} {W : WX} {pos p2 : Pos} {o i value : Expr} {A O I : AE} (hu : X.A.units + 1 < cLine) (ho : PE X o (eL X.K W O)) (hi : PE X i (eL X.K W I)) (hv : PE X value (eL X.K W A)) (hs : swapsWith value (some (.Subscript o i p2)) pos.line X.env = pure false) :
    PS X (.Assign [.Subscript o i p2] value pos) (sL X.K W (aDPut A O I)) :=
  PSm (ps_dput hu ho hi hv hs) fun D σ H ⟨g, sl, r, st, e, k⟩ => run1S (R := RV X.K) st e (k.x σ) fun tv s1 g1 H1 v S e1 n1 st1 r1 f1 =>
    run1S (R := RV X.K) st1 e1 (hxmS (k.x σ) n1) fun to s2 g2 H2 o T e2 n2 st2 r2 f2 => run1S (R := RV X.K) st2 e2 (hxmS (k.x σ) (n1.trans n2)) fun ti s3 g3 H3 y U e3 n3 st3 r3 f3 => by
      split at e3
      · rename_i d
        obtain ⟨⟨mv, s4⟩, e4, e5⟩ := Option.bind_eq_some_iff.mp e3
        obtain ⟨q, ew, e6⟩ := Option.bind_eq_some_iff.mp e5
        obtain ⟨m', e7, rfl⟩ := Option.map_eq_some_iff.mp e6
        have nn := n1.trans (n2.trans n3)
        obtain ⟨g4, V, n4, st4, q4, sub, kp, ex⟩ := toM_ok nn f1 st3 (r1.mono (n2.trans n3)) e4
        have ap : ∀ a ∈ S, a ∉ T := r1.apart f2
        obtain ⟨a, H', g5, rfl, hp, n5, st5⟩ := dput_ok n4 (f2.back n1) st4 (kp _ _ _ (r2.mono n3) ap) ew (fun a z => f1 a (sub a z)) (fun a z z2 => ap a (sub a z2) z) q4 (r3.2.mono ex) e7
        exact ⟨a, H', rfl, hp, k _ _ _ n5 st5⟩
      · cases e3
/-! len(d) -/
def rLenB (K : PySem.W.Frag) : List V → Hp → VK → Prop := fun xs H Q => (∃ x n, xs = [x] ∧ LenV K x H n ∧ Q (.int n) H) ∨ (∃ a kvs, xs = [V.ref a] ∧ H a = some (.dK kvs) ∧ Q (.int kvs.length) H) ∨ rLenT xs H Q
theorem call_or {X : Cx} {v : Value} {r q : List V → Hp → VK → Prop} (h1 : CallR X v r) (h2 : CallR X v q) : CallR X v fun xs H Q => r xs H Q ∨ q xs H Q := fun pins s σ H xs us Q I rr h => h.elim (h1 pins s σ H xs us Q I rr) (h2 pins s σ H xs us Q I rr)
theorem call_lenB {X : Cx} : CallR X (.builtin "len") (rLenB X.K) := call_or call_len (call_or call_lenD call_len_dT)
def oLenA : O1 := fun sl ts => match ts with
  | [x] => match vw sl x with
    | some (.dK kvs) => some (.d (.int (kvs.length : Nat)), sl)
    | some (.dT kvs) => some (.d (.int (kvs.length : Nat)), sl)
    | _ => (lenA sl x).map fun n => (.d (.int (n : Nat)), sl)
  | _ => none
theorem co_lenA {K : PySem.W.Frag} : CoC K (rLenB K) oLenA := by
  intro g0 H0 g H σ sl vs ts S tv sl' Q n st rs f h k
  unfold oLenA at h
  split at h
  · rename_i x
    obtain ⟨v, rfl, r⟩ := rs.one
    split at h
    · rename_i kvs e
      cases h
      obtain ⟨T, q⟩ := vw_ok st r e
      cases q with
      | @dK a kws _ U ha hk rs' =>
        refine .inr (.inl ⟨a, kws, rfl, ha, ?_⟩)
        have := congrArg List.length hk.1
        rw [List.length_map, List.length_map] at this
        rw [this]
        exact k.scal n st (.int _)
    · rename_i kvs e
      cases h
      obtain ⟨T, q⟩ := vw_ok st r e
      cases q with
      | @dT a kws _ U ha hk rs' =>
        refine .inr (.inr ⟨a, kws, rfl, ha, ?_⟩)
        have := congrArg List.length hk.1
        rw [List.length_map, List.length_map] at this
        rw [this]
        exact k.scal n st (.int _)
    · exact .inl (co_len g0 H0 g H σ sl [v] [x] S tv sl' Q n st rs f h k)
  · cases h
end Y

/-! Layer Y, part O: enumerate over a tuple (at the model's level), zip, enumerate. -/
namespace PySem
open Sem (wp)
open AutoSeq1 (wpAny_loadPart')
theorem meets_enumerate_newT (l : Addr) (items : Array Value) (n : Nat) (dct : Option Addr) (sl : Array (Option Value)) :
    Meets (Builtin.«enumerate.__new__» ⟨[.type "enumerate", .ref l], []⟩) (fun _ R s => s.heap.get? l = some { cls := .type "tuple", dict := dct, data := .seq items n, slots := sl } ∧
      R (.ok (.ret (.ref (s.heap.push { cls := .type "tuple_iterator", data := .fields #[.ref l, .int 0 0] }).objs.size)))
        { s with heap := (s.heap.push { cls := .type "tuple_iterator", data := .fields #[.ref l, .int 0 0] }).push { cls := .type "enumerate", data := .fields #[.none, .bool false, .ref s.heap.objs.size, rawInt 0, .none, .none] } }) :=
  .of_wp fun prog w A R s h => by
    obtain ⟨hp, g, d, tk, os⟩ := s; obtain ⟨hl, h⟩ := h
    have hsub := sub_enumerate
    have hL : Heap.IsTuple (Shared.heap ⟨hp, g, d, tk, os⟩) l items := ⟨_, hl, rfl, n, rfl⟩
    wp_walk using wpAny_loadPart' hl
    refine wpAny_stack_any fun st => wpAny_pure ?_
    split
    · rename_i c _ _ _ _ _
      cases (c == Value.type "enumerate")
      · wp_walk using wpAny_loadPart' hl, wpAny_pyIter_tuple hL
        exact ⟨_, rfl, h⟩
      · wp_walk using wpAny_loadPart' hl, wpAny_pyIter_tuple hL
        exact ⟨_, rfl, h⟩
    · wp_walk using wpAny_loadPart' hl, wpAny_pyIter_tuple hL
      exact ⟨_, rfl, h⟩
section
variable {prog : Program} {w : World} {A : Around} {E : Value → Shared → Prop} {s : Shared}
theorem call_enumerate_tuple {l : Addr} {items : Array Value} {Q : Value → Shared → Prop} (hL : s.heap.IsTuple l items)
    (h : ∀ h', IsEnum h' (s.heap.objs.size + 1) s.heap.objs.size 0 .none → h'.IsTupleIter s.heap.objs.size l 0 → h'.objs.size = s.heap.objs.size + 2 →
      (∀ b o, s.heap.get? b = some o → h'.get? b = some o) → Q (.ref (s.heap.objs.size + 1)) { s with heap := h' }) :
    wpAny (model prog w) A (call (.type "enumerate") [.ref l]) Q E s := by
  obtain ⟨⟨c, dct, dt, sl⟩, hl, hc, n, hd⟩ := hL
  replace hc : c = .type "tuple" := hc
  replace hd : dt = .seq items n := hd
  subst hc hd
  refine callType_new F.called_enumerate (by decide) (F.typeCall_enumerate_1 _) (F.newCall_enumerate_1 _) (fun obj => F.args_object_init_2 obj _) F.entry_enumerate_new
    (meets_enumerate_newT l items n dct sl) ⟨hl, ?_⟩
  have hz : (s.heap.push { cls := .type "tuple_iterator", data := .fields #[.ref l, .int 0 0] }).objs.size = s.heap.objs.size + 1 := Heap.size_push ..
  show _ ∧ _
  rw [hz]
  have he : IsEnum ((s.heap.push { cls := .type "tuple_iterator", data := .fields #[.ref l, .int 0 0] }).push
      { cls := .type "enumerate", data := .fields #[.none, .bool false, .ref s.heap.objs.size, rawInt 0, .none, .none] }) (s.heap.objs.size + 1) s.heap.objs.size 0 .none := by
    have := Heap.get?_push_size (s.heap.push { cls := .type "tuple_iterator", data := .fields #[.ref l, .int 0 0] })
      (o := { cls := .type "enumerate", data := .fields #[.none, .bool false, .ref s.heap.objs.size, rawInt 0, .none, .none] }) rfl
    rw [hz] at this; exact this
  refine ⟨⟨_, he, rfl⟩, h _ he ⟨_, Heap.get?_push_of_some _ (Heap.get?_push_size _ rfl), rfl, rfl⟩ (by rw [Heap.size_push, hz]) fun b o x => Heap.get?_push_of_some _ (Heap.get?_push_of_some _ x)⟩
end
end PySem
namespace Y
open PySem PySem.Spec PyProof.Rows L2 Evl
def IteT (K : PySem.W.Frag) (a : Addr) : It :=
  ⟨fun i H => ∃ (xs : List V) (x : V), SqT K H a xs ∧ xs[i]? = some x, fun i H v H' => ∃ T x, v = .ref T ∧ H T = none ∧ H' = upd H T (.tup [.int (i : Nat), x]) ∧ ∀ xs, SqT K H a xs → xs[i]? = some x, fun i H => ∃ xs : List V, SqT K H a xs ∧ xs.length = i⟩
theorem turn_enumT {P : Program} {w : World} {K : PySem.W.Frag} {elts : List Expr} {kk : Nat} {tpos : Pos} (a e it : Addr) (hae : a ≠ e) (hai : a ≠ it) :
    Turn P w K (.Tuple elts kk tpos) (IteT K a) [e, it] e (fun i h => (∃ old, IsEnum h e it ((i : Nat) : Int) old) ∧ h.IsTupleIter it a i ∧ e ≠ it) where
  mem := by simp
  obj := fun i h st b hb => by
    obtain ⟨⟨old, he⟩, ⟨o, ho, hc, hd⟩, _⟩ := st
    have e' : b = e ∨ b = it := by simpa using hb
    rcases e' with z | z
    · rw [z]; exact ⟨_, he, fun v q => nomatch q⟩
    · rw [z]; exact ⟨o, ho, fun v q => by rw [hd] at q; cases q⟩
  keep := fun i h h' st k => let ⟨⟨old, he⟩, hi, hne⟩ := st; ⟨⟨old, k e (by simp) _ he⟩, hi.at fun o q => k it (by simp) o q, hne⟩
  item := by
    intro X hP hw hK hc i pins s σ H E I hf st hg
    subst hP hw hK
    obtain ⟨⟨old, he⟩, hit, hne⟩ := st
    obtain ⟨xs, x, hq, hx⟩ := hg
    obtain ⟨its, rv, p, hz⟩ := I.tuple hq
    obtain ⟨u, hu, ru⟩ := rv.get hx
    have hel : e < s.heap.objs.size := Heap.lt_size he
    have hil : it < s.heap.objs.size := by obtain ⟨_, q, _⟩ := hit; exact Heap.lt_size q
    have pt : s.heap.IsTuple a its.toArray := p
    have hil2 : i < its.toArray.size := by
      have := (List.getElem?_eq_some_iff.mp hu).1
      simpa using this
    have dd := Draws.tuple (prog := X.prog) (w := X.w) (A := X.A.in1) (I.ok.hd hc) it a hai its.toArray
    refine wpAny_pyNext_enum_itemD dd he ⟨hit, pt⟩ hil2 hne (by simp [Ne.symm hae, hne]) fun x' h' tk hP ho hst' hT hsz hk => ?_
    have ex : x' = u := by
      have : its.toArray[i]? = some u := by simpa using hu
      rw [this] at hP
      exact (Option.some.inj hP).symm
    subst ex
    refine ⟨_, rfl, wpAny_letOwnedTupleGo_enum (s := { s with heap := h', toks := tk + 1 }) ho fun h'' he' sb => ?_⟩
    have hT2 : h''.get? s.heap.objs.size = some { cls := .type "tuple", data := .seq #[.int i tk, x'] } := (sb.2 _ (Nat.ne_of_gt hel)).trans hT
    have new : ObjOk X.prog X.w (upd H s.heap.objs.size (.tup [.int (i : Nat), x])) h'' s.heap.objs.size (.tup [.int (i : Nat), x]) :=
      ⟨by show 2 ≤ sizeLine; decide, [.int i tk, x'], .cons ⟨_, rfl⟩ (.cons ru .nil), ⟨_, hT2, rfl, _, rfl⟩⟩
    have I1 : Inv X pins σ (upd H s.heap.objs.size (.tup [.int (i : Nat), x])) { s with heap := h'', toks := tk + 1 } :=
      I.turnedNew (ch := [e, it]) (fun b ob hb q => (sb.2 b (fun z => hb (by simp [z]))).trans (hk b ob (fun z => hb (by simp [z])) (fun z => hb (by simp [z])) q)) hf (Nat.le_refl _) new
    refine ⟨.ref s.heap.objs.size, _, I1, rfl, ⟨_, x, rfl, I.hok.fresh (Nat.le_refl _), rfl, fun ys hy => by rw [I.tuple_inj hy hq]; exact hx⟩, ⟨⟨x', ?_⟩, hst'.1.at fun o q => (sb.2 it (Ne.symm hne)).trans q, hne⟩, fun b hb => ?_⟩
    · have e1 : ((i + 1 : Nat) : Int) = (i : Int) + 1 := by omega
      rw [e1]; exact he'
    · have hb' : b < s.heap.objs.size := by
        have e' : b = e ∨ b = it := by simpa using hb
        rcases e' with z | z
        · rw [z]; exact hel
        · rw [z]; exact hil
      rw [upd_ne (Nat.ne_of_lt hb')]
      exact (hf b hb).1
  done := by
    intro X hP hw hK hc i pins s σ H E I hf st hg
    subst hP hw hK
    obtain ⟨⟨old, he⟩, hit, hne⟩ := st
    obtain ⟨xs, hq, hx⟩ := hg
    obtain ⟨its, rv, p, hz⟩ := I.tuple hq
    obtain ⟨f0, f1, f2, f3, f4, f5⟩ := hf it (by simp)
    have hl := rv.length
    have pt : s.heap.IsTuple a its.toArray := p
    have hs : i = its.toArray.size := by simp; omega
    have dd := Draws.tuple (prog := X.prog) (w := X.w) (A := X.A.in1) (I.ok.hd hc) it a hai its.toArray
    exact wpAny_pyNext_enum_endD dd he ⟨hs ▸ hit, pt⟩ fun h' eb => ⟨rfl, I.turned (t' := s.toks) (fun b o hb q => eb b o hb q) f0 f1 f3 f4 f5⟩
  self := fun A i s Q E st h => let ⟨⟨_, he⟩, _⟩ := st; wpAny_pyIter_enum he h
def iEnumT (K : PySem.W.Frag) (ta : TA) : TI := fun σ H R => ta σ H fun vs H1 => ∃ a xs, vs = [.ref a] ∧ SqT K H1 a xs ∧ R (IteT K a) H1
theorem pi_enumT {X : Cx} {e : Expr} {ta : TA} {p pos tpos : Pos} {elts : List Expr} {kk : Nat} (hg : Gl X "enumerate") (hm : X.mg "enumerate" = none) (ha : PA X [e] ta) (hs : starEach [e] X.env = [(false, eval e X.env)] := by rfl) :
    PI X (.Tuple elts kk tpos) (.Call (.Name "enumerate" p) [e] [] pos) (iEnumT X.K ta) := by
  refine ⟨fun pins s σ H R I h => ?_⟩
  refine Call_ (ld_blt I hg hm boot_enumerate (PyProof.Rows.callWith_type1 (thn (ha.run pos pins s σ H _ I h) fun us s1 ⟨vs, H1, I1, r1, q1⟩ => ?_) hs rfl))
  obtain ⟨a, xs, ex, hq, q⟩ := q1
  subst ex
  cases r1 with
  | cons r rr =>
    cases rr
    cases r
    obtain ⟨its, rv, p', hz⟩ := I1.tuple hq
    have pt : s1.heap.IsTuple a its.toArray := p'
    have hlt : a < s1.heap.objs.size := by obtain ⟨_, q, _⟩ := pt; exact Heap.lt_size q
    refine call_enumerate_tuple pt fun h' he hit hsz hk => wpAny_pyIter_enum he ?_
    have I2 : Inv X pins σ H1 { s1 with heap := h' } := I1.kept (t' := s1.toks) hk
    refine ⟨s1.heap.objs.size + 1, [s1.heap.objs.size + 1, s1.heap.objs.size], _, _, H1, rfl, I2, turn_enumT a (s1.heap.objs.size + 1) s1.heap.objs.size (Nat.ne_of_lt (Nat.lt_succ_of_lt hlt)) (Nat.ne_of_lt hlt), ⟨⟨.none, he⟩, hit, Nat.succ_ne_self _⟩, fun b hb => ?_, q⟩
    have e' : b = s1.heap.objs.size + 1 ∨ b = s1.heap.objs.size := by simpa using hb
    have hle : s1.heap.objs.size ≤ b := by
      rcases e' with z | z
      · rw [z]; exact Nat.le_add_right _ _
      · rw [z]; exact Nat.le_refl _
    exact I1.fpOk hle (I1.hok.fresh hle)
/-! ### enumerate, zip -/
def enumD (ds : List D) : List D := ds.zipIdx.map fun p => .tuple [.int (p.2 : Nat), p.1]
theorem enumD_get {ds : List D} {i : Nat} {d : D} (h : ds[i]? = some d) : (enumD ds)[i]? = some (.tuple [.int (i : Nat), d]) := by
  unfold enumD
  rw [List.getElem?_map, List.getElem?_zipIdx, h]
  simp
theorem enumD_len (ds : List D) : (enumD ds).length = ds.length := by unfold enumD; simp
section
variable {K : PySem.W.Frag} {g : G} {H : Hp}
theorem ir_enum {S : List Addr} {a : Addr} {vs : List V} {ds : List D} (hq : ∀ (g1 : G) (H1 : Hp), Ex g.F g1.F → Ex g1.F H1 → (∀ a ∈ S, H1 a = H a) → SqL K H1 a vs) (r : RDs K g.F vs ds) : IRel K g H S (enumD ds) (Ite K a) := by
  intro i g1 H1 e1 e2 h
  have q := hq g1 H1 e1 e2 h
  rw [enumD_len]
  refine ⟨fun hi => ?_, fun hi => ⟨vs, q, by rw [hi, r.length]; exact Nat.le_refl _⟩⟩
  obtain ⟨v, h1, h2⟩ := r.get (List.getElem?_eq_getElem hi)
  refine ⟨⟨vs, v, q, h1⟩, fun x H2 ⟨T, y, e3, e4, e5, e6⟩ => .inr (.inl ⟨T, _, [.int (i : Nat), ds[i]], e3, e4, e5, enumD_get (List.getElem?_eq_getElem hi), ?_⟩)⟩
  have := e6 vs q
  rw [h1] at this
  cases this
  exact .cons (.int _) (.cons (h2.mono e1) .nil)
theorem ir_enumT {S : List Addr} {a : Addr} {vs : List V} {ds : List D} (hq : SqT K g.F a vs) (r : RDs K g.F vs ds) : IRel K g H S (enumD ds) (IteT K a) := by
  intro i g1 H1 e1 e2 h
  have q := ex_t e2 (ex_t e1 hq)
  rw [enumD_len]
  refine ⟨fun hi => ?_, fun hi => ⟨vs, q, by rw [hi, r.length]⟩⟩
  obtain ⟨v, h1, h2⟩ := r.get (List.getElem?_eq_getElem hi)
  refine ⟨⟨vs, v, q, h1⟩, fun x H2 ⟨T, y, e3, e4, e5, e6⟩ => .inr (.inl ⟨T, _, [.int (i : Nat), ds[i]], e3, e4, e5, enumD_get (List.getElem?_eq_getElem hi), ?_⟩)⟩
  have := e6 vs q
  rw [h1] at this
  cases this
  exact .cons (.int _) (.cons (h2.mono e1) .nil)
end
def aEnum (R : AA) : AI := fun s => bd (R s) fun ts s1 => match ts with
  | [.d (.list ds)] => some (.ok (enumD ds, none) s1)
  | [.d (.tuple ds)] => some (.ok (enumD ds, none) s1)
  | [.x ds] => some (.ok (enumD ds, none) s1)
  | [.c ds] => some (.ok (enumD ds, none) s1)
  | [.t m] => match frz m with
    | some (.list ds) => some (.ok (enumD ds, none) s1)
    | _ => none
  | [.var i] => match s1[i]? with
    | some (some (.w (.lst ms))) => (lvs ms).map fun ds => .ok (enumD ds, some i) s1
    | some (some (.p (.lst ms))) => (lvs ms).map fun ds => .ok (enumD ds, some i) s1
    | some (some (.k (.lst ms))) => (lvs ms).map fun ds => .ok (enumD ds, none) s1
    | _ => none
  | _ => none
section
variable {X : Cx} {W : WX} {tg e : Expr} {A : AE} {R : AA}
theorem i_enum {p pos tpos : Pos} {elts : List Expr} {kk : Nat} (hg : Gl X "enumerate") (hm : X.mg "enumerate" = none) (ha : PA X [e] (aL X.K W R)) (hs : starEach [e] X.env = [(false, eval e X.env)] := by rfl) :
    PI X (.Tuple elts kk tpos) (.Call (.Name "enumerate" p) [e] [] pos) (iL X.K W (aEnum R)) := PIm (pi_or (pi_enum hg hm ha hs) (pi_enumT hg hm ha hs)) fun σ H Q ⟨g, sl, r, st, e, k⟩ => by
  unfold aEnum bd at e
  cases eA : R sl with
  | none => rw [eA] at e; cases e
  | some q =>
  rw [eA] at e
  cases q with
  | ex xa s1 =>
    cases e
    exact .inl ⟨g, sl, _, st, eA, k⟩
  | ok ts s1 =>
  dsimp only at e
  split at e
  · cases e
    refine .inl ⟨g, sl, _, st, eA, fun g1 H1 vs S n1 st1 r1 f1 => ?_⟩
    obtain ⟨v, rfl, _, r1⟩ := r1.one
    cases r1 with
    | lst h1 h2 => exact ⟨_, _, rfl, SqL.of (st1.ex _ _ h1), k g1 H1 _ [] n1 st1 (fun _ h => nomatch h) (ir_enum (fun g2 H2 e1 e2 _ => SqL.of (e2 _ _ (e1 _ _ h1))) h2)⟩
  · cases e
    refine .inr ⟨g, sl, _, st, eA, fun g1 H1 vs S n1 st1 r1 f1 => ?_⟩
    obtain ⟨v, rfl, _, r1⟩ := r1.one
    cases r1 with
    | tup h1 h2 => exact ⟨_, _, rfl, SqT.of (st1.ex _ _ h1), k g1 H1 _ [] n1 st1 (fun _ h => nomatch h) (ir_enumT (SqT.of h1) h2)⟩
  · cases e
    refine .inl ⟨g, sl, _, st, eA, fun g1 H1 vs S n1 st1 r1 f1 => ?_⟩
    obtain ⟨v, rfl, _, a, ws, rfl, h1, h2⟩ := r1.one
    exact ⟨_, _, rfl, ex_l st1.ex h1, k g1 H1 _ [] n1 st1 (fun _ h => nomatch h) (ir_enum (fun g2 H2 e1 e2 _ => ex_l e2 (ex_l e1 h1)) h2)⟩
  · cases e
    refine .inr ⟨g, sl, _, st, eA, fun g1 H1 vs S n1 st1 r1 f1 => ?_⟩
    obtain ⟨v, rfl, _, a, ws, rfl, h1, h2⟩ := r1.one
    exact ⟨_, _, rfl, ex_t st1.ex h1, k g1 H1 _ [] n1 st1 (fun _ h => nomatch h) (ir_enumT h1 h2)⟩
  · split at e
    · rename_i m ds em
      cases e
      refine .inl ⟨g, sl, _, st, eA, fun g1 H1 vs S n1 st1 r1 f1 => ?_⟩
      obtain ⟨v, rfl, rq⟩ := r1.one
      obtain ⟨n2, st2, q⟩ := st1.frzT n1 f1 rq em
      cases q with
      | lst h1 h2 => exact ⟨_, _, rfl, SqL.of (st2.ex _ _ h1), k _ H1 _ [] n2 st2 (fun _ h => nomatch h) (ir_enum (fun g2 H2 e1 e2 _ => SqL.of (e2 _ _ (e1 _ _ h1))) h2)⟩
    · cases e
  · rename_i i
    split at e
    · rename_i ms e2
      obtain ⟨ds, e3, rfl⟩ := Option.map_eq_some_iff.mp e
      refine .inl ⟨g, sl, _, st, eA, fun g1 H1 vs S n1 st1 r1 f1 => ?_⟩
      obtain ⟨v, rfl, rq⟩ := r1.one
      obtain ⟨u, U, h1, h2, h3, h4⟩ := st1.w i _ e2
      rw [rq.2] at h1; cases h1
      cases h2 with
      | @lst a vs _ U' ha hr =>
        have hr0 := hr
        rw [lvs_eq e3] at hr
        refine ⟨_, _, rfl, SqL.of ha, k g1 H1 _ (a :: U') n1 st1 ⟨_, _, rq.2, by unfold wAt; rw [e2], .lst ha hr0, h3, h4⟩ (ir_enum (fun g2 H2 e1 e2 hh => SqL.of ((hh a List.mem_cons_self).trans ha)) hr.leaves.2)⟩
    · rename_i ms e2
      obtain ⟨ds, e3, rfl⟩ := Option.map_eq_some_iff.mp e
      refine .inl ⟨g, sl, _, st, eA, fun g1 H1 vs S n1 st1 r1 f1 => ?_⟩
      obtain ⟨v, rfl, rq⟩ := r1.one
      obtain ⟨u, U, ⟨h1, _⟩, h2, h3, h4⟩ := st1.p i _ e2
      rw [rq.2] at h1; cases h1
      cases h2 with
      | @lst a vs _ U' ha hr =>
        have hr0 := hr
        rw [lvs_eq e3] at hr
        refine ⟨_, _, rfl, SqL.of ha, k g1 H1 _ (a :: U') n1 st1 ⟨_, _, rq.2, by unfold wAt; rw [e2], .lst ha hr0, h3, h4⟩ (ir_enum (fun g2 H2 e1 e2 hh => SqL.of ((hh a List.mem_cons_self).trans ha)) hr.leaves.2)⟩
    · rename_i ms e2
      obtain ⟨ds, e3, rfl⟩ := Option.map_eq_some_iff.mp e
      refine .inl ⟨g, sl, _, st, eA, fun g1 H1 vs S n1 st1 r1 f1 => ?_⟩
      obtain ⟨v, rfl, rq⟩ := r1.one
      obtain ⟨u, U, ⟨h1, _⟩, h2, h3, h4⟩ := st1.k i _ e2
      rw [rq.2] at h1; cases h1
      cases h2 with
      | @lst a vs _ U' ha hr =>
        rw [lvs_eq e3] at hr
        exact ⟨_, _, rfl, SqL.of ha, k g1 H1 _ (a :: U') n1 st1 (fun b hb => st1.ro b ⟨_, h4 b hb⟩) (ir_enum (fun g2 H2 e1 e2 hh => SqL.of ((hh a List.mem_cons_self).trans ha)) hr.leaves.2)⟩
    · cases e
  · cases e
end
/-! ### one expression by two rules; in, places by what stands there -/
theorem pe_or2 {X : Cx} {e : Expr} {t u : TE} (h1 : PE X e t) (h2 : PE X e u) : PE X e (fun σ H Q => t σ H Q ∨ u σ H Q) := ⟨fun pins s σ H Q I h => h.elim (h1.run pins s σ H Q I) (h2.run pins s σ H Q I)⟩
theorem pt_or2 {X : Cx} {e : Expr} {t u : TT} (h1 : PT X e t) (h2 : PT X e u) : PT X e (fun σ H Q => t σ H Q ∨ u σ H Q) := ⟨fun pins s σ H Q I h => h.elim (h1.run pins s σ H Q I) (h2.run pins s σ H Q I)⟩
theorem ps_or2 {X : Cx} {e : Stmt} {t u : TS} (h1 : PS X e t) (h2 : PS X e u) : PS X e (fun D σ H => t D σ H ∨ u D σ H) := ⟨fun pins s σ H D I h => h.elim (h1.run pins s σ H D I) (h2.run pins s σ H D I)⟩
/-- .. or a child that is one -/
def isDct (s : SL) (t : TV) : Bool := match vw s t with
  | some (.dK _) => true
  | some (.dT _) => true
  | _ => false
def inDct (s : SL) (t : TV) : Bool := match t with
  | .sub _ _ j m => match kid m j with
    | some (.dK _) => true
    | some (.dT _) => true
    | _ => false
  | t => isDct s t
/-- by what the second value is -/
def oIn2 (neg : Bool) : O2 := fun s x y => if inDct s y = true then vR (oDIn neg) s x y else vR (oIn neg) s x y
/-- by what the first value is -/
def oIxS : O2 := fun s x y => match oIx s x y with
  | some r => some r
  | none => oSubL s x y
def oIx1 : O2 := fun s x y => if isDct s x = true then oDGet s x y else oIxS s x y
def oIx2 : O2 := vL oIx1
theorem op_split {s : SL} {A B : AE} {o p q : O2} {r : Res TV} (h : aOp o A B s = some r) (ho : ∀ s x y, o s x y = p s x y ∨ o s x y = q s x y) : aOp p A B s = some r ∨ aOp q A B s = some r := by
  unfold aOp bd at h ⊢
  cases eA : A s with
  | none => rw [eA] at h; cases h
  | some a =>
    rw [eA] at h
    cases a with
    | ex xa s1 => exact .inl h
    | ok x s1 =>
      dsimp only at h ⊢
      cases eB : B s1 with
      | none => rw [eB] at h; cases h
      | some b =>
        rw [eB] at h
        cases b with
        | ex xa s2 => exact .inl h
        | ok y s2 =>
          dsimp only at h ⊢
          rcases ho s2 x y with e | e
          · left; rw [← e]; exact h
          · right; rw [← e]; exact h
section
variable {X : Cx} {W : WX} {pos : Pos} {a b : Expr} {A B : AE}
theorem split_eL {o p q : O2} (ho : ∀ s x y, o s x y = p s x y ∨ o s x y = q s x y) (σ : L2.St) (H : Hp) (Q : VK) (h : eL X.K W (aOp o A B) σ H Q) : eL X.K W (aOp p A B) σ H Q ∨ eL X.K W (aOp q A B) σ H Q := by
  obtain ⟨g, sl, r, st, e, k⟩ := h
  exact (op_split e ho).imp (fun e => ⟨g, sl, r, st, e, k⟩) fun e => ⟨g, sl, r, st, e, k⟩
theorem split_tL {o p q : O2} (ho : ∀ s x y, o s x y = p s x y ∨ o s x y = q s x y) (σ : L2.St) (H : Hp) (Q : Bool → Hp → Prop) (h : tL X.K W (aB (aOp o A B)) σ H Q) : tL X.K W (aB (aOp p A B)) σ H Q ∨ tL X.K W (aB (aOp q A B)) σ H Q := by
  obtain ⟨g, sl, r, st, e, k⟩ := h
  have : aB (aOp p A B) sl = some r ∨ aB (aOp q A B) sl = some r := by
    unfold aB at e ⊢
    cases eo : aOp o A B sl with
    | none => rw [eo] at e; cases e
    | some r' =>
      rcases op_split eo ho with h | h
      · left; rw [h, ← eo]; exact e
      · right; rw [h, ← eo]; exact e
  exact this.imp (fun e => ⟨g, sl, r, st, e, k⟩) fun e => ⟨g, sl, r, st, e, k⟩
theorem in_split (neg : Bool) : ∀ s x y, oIn2 neg s x y = vR (oDIn neg) s x y ∨ oIn2 neg s x y = vR (oIn neg) s x y := fun s x y => by
  unfold oIn2
  split
  · exact .inl rfl
  · exact .inr rfl
theorem co_ixS {K : PySem.W.Frag} : Co2 K (rIxA K) oIxS := by
  intro g0 H0 g H σ sl x y tx ty S T tv sl' Q n st rx fx ry fy ap h k
  unfold oIxS at h
  split at h
  · rename_i r e
    cases h
    exact co_Ix g0 H0 g H σ sl x y tx ty S T tv sl' Q n st rx fx ry fy ap e k
  · exact co_subL g0 H0 g H σ sl x y tx ty S T tv sl' Q n st rx fx ry fy ap h k
theorem ix_split : ∀ s x y, oIx2 s x y = vL oDGet s x y ∨ oIx2 s x y = vL oIxS s x y := fun s x y => by
  have one : ∀ s x y, oIx1 s x y = oDGet s x y ∨ oIx1 s x y = oIxS s x y := fun s x y => by
    unfold oIx1
    split
    · exact .inl rfl
    · exact .inr rfl
  unfold oIx2 vL
  split
  · rename_i p i j m
    cases e : kid m j with
    | none => exact .inl rfl
    | some c =>
      rcases one (s ++ [some (.w c)]) (.var s.length) y with h | h
      · left; show closeT _ _ _ _ _ _ = closeT _ _ _ _ _ _; rw [h]
      · right; show closeT _ _ _ _ _ _ = closeT _ _ _ _ _ _; rw [h]
  · exact one _ _ _
theorem e_dinV (hu : X.A.units + 1 < cLine) (ha : PE X a (eL X.K W A)) (hb : PE X b (eL X.K W B)) (hm : behindInMarks .In b = false) : PE X (.Compare a [.In] [b] pos) (eL X.K W (aOp (vR (oDIn false)) A B)) := e_pc (pc_din hu ha hb) (op_lift (co_vR co_din)) hm
theorem e_dnotinV (hu : X.A.units + 1 < cLine) (ha : PE X a (eL X.K W A)) (hb : PE X b (eL X.K W B)) (hm : behindInMarks .NotIn b = false) : PE X (.Compare a [.NotIn] [b] pos) (eL X.K W (aOp (vR (oDIn true)) A B)) := e_pc (pc_dnotin hu ha hb) (op_lift (co_vR co_dnot)) hm
theorem t_dinV (hu : X.A.units + 1 < cLine) (ha : PE X a (eL X.K W A)) (hb : PE X b (eL X.K W B)) (hm : behindInMarks .In b = false) : PT X (.Compare a [.In] [b] pos) (tL X.K W (aB (aOp (vR (oDIn false)) A B))) := t_pc (pc_din hu ha hb) (op_lift (co_vR co_din)) hm
theorem t_dnotinV (hu : X.A.units + 1 < cLine) (ha : PE X a (eL X.K W A)) (hb : PE X b (eL X.K W B)) (hm : behindInMarks .NotIn b = false) : PT X (.Compare a [.NotIn] [b] pos) (tL X.K W (aB (aOp (vR (oDIn true)) A B))) := t_pc (pc_dnotin hu ha hb) (op_lift (co_vR co_dnot)) hm
theorem e_in (hu : X.A.units + 65 < cLine) (ha : PE X a (eL X.K W A)) (hb : PE X b (eL X.K W B)) (hm : behindInMarks .In b = false := by rfl) : PE X (.Compare a [.In] [b] pos) (eL X.K W (aOp (oIn2 false) A B)) :=
  PEm (pe_or2 (e_dinV (by omega) ha hb hm) (e_cmp (op_In hu) (co_vR co_In) ha hb hm)) (split_eL (in_split false))
theorem e_notin (hu : X.A.units + 65 < cLine) (ha : PE X a (eL X.K W A)) (hb : PE X b (eL X.K W B)) (hm : behindInMarks .NotIn b = false := by rfl) : PE X (.Compare a [.NotIn] [b] pos) (eL X.K W (aOp (oIn2 true) A B)) :=
  PEm (pe_or2 (e_dnotinV (by omega) ha hb hm) (e_cmp (op_NotIn hu) (co_vR co_NotIn) ha hb hm)) (split_eL (in_split true))
theorem t_in (hu : X.A.units + 65 < cLine) (ha : PE X a (eL X.K W A)) (hb : PE X b (eL X.K W B)) (hm : behindInMarks .In b = false := by rfl) : PT X (.Compare a [.In] [b] pos) (tL X.K W (aB (aOp (oIn2 false) A B))) :=
  PTm (pt_or2 (t_dinV (by omega) ha hb hm) (t_cmp (op_In hu) (co_vR co_In) ha hb hm)) (split_tL (in_split false))
theorem t_notin (hu : X.A.units + 65 < cLine) (ha : PE X a (eL X.K W A)) (hb : PE X b (eL X.K W B)) (hm : behindInMarks .NotIn b = false := by rfl) : PT X (.Compare a [.NotIn] [b] pos) (tL X.K W (aB (aOp (oIn2 true) A B))) :=
  PTm (pt_or2 (t_dnotinV (by omega) ha hb hm) (t_cmp (op_NotIn hu) (co_vR co_NotIn) ha hb hm)) (split_tL (in_split true))
theorem e_sub (hu : X.A.units + 65 < cLine) (ha : PE X a (eL X.K W A)) (hb : PE X b (eL X.K W B)) (hs : NoSl b) (hs2 : PlainIx b) : PE X (.Subscript a b pos) (eL X.K W (aOp oIx2 A B)) :=
  PEm (pe_or2 (PEm (pe_dget (by omega) ha hb hs) (op_lift (co_vL co_dget))) (e_ix ix_A (co_vL co_ixS) ha hb hs2)) (split_eL ix_split)
end
/-- a store by place or by key -/
def aPut (A O I : AE) : AS := fun s => match aSetL A O I s with
  | some r => some r
  | none => aDPut A O I s
theorem s_put {X : Cx} {W : WX} {pos p2 : Pos} {e o i : Expr} {A O I : AE} (hu : X.A.units + 65 < cLine) (he : PE X e (eL X.K W A)) (ho : PE X o (eL X.K W O)) (hi : PE X i (eL X.K W I))
    (ha : ∀ v, assign (.Subscript o i p2) X.env v = (do
      let ov ← holding [v] (eval o X.env)
      let iv ← holding [v, ov] (eval i X.env)
      standAt p2
      holding [v, ov, iv] (setItem ov iv v)
      release [v, ov, iv] []) := by intro _; rfl)
    (hs0 : swapsWith e (some (.Subscript o i p2)) pos.line X.env = pure false := by rfl)
    (hs : swapsWithSole [.Subscript o i p2] e pos.line X.env = pure false := by rfl) (hw : swappedStores [.Subscript o i p2] e X.env = pure none := by rfl)
    (h1 : (assignEach [.Subscript o i p2] X.env).map (·.2) = [assign (.Subscript o i p2) X.env] := by rfl) : PS X (.Assign [.Subscript o i p2] e pos) (sL X.K W (aPut A O I)) :=
  PSm (ps_or2 (s_setL he ho hi ha hs hw h1) (s_dput (by omega) ho hi he hs0)) fun D σ H ⟨g, sl, r, st, e, k⟩ => by
    unfold aPut at e
    split at e
    · rename_i r' er
      cases e
      exact .inl ⟨g, sl, _, st, er, k⟩
    · exact .inr ⟨g, sl, _, st, e, k⟩
end Y

/-! Layer Y, part P: what the printed texts use besides. -/
namespace Y
open PySem PySem.Spec PyProof.Rows L2 Evl
theorem _root_.L2.Room.units1 {k : Nat} {A : Around} (r : L2.Room k A) : A.units + 65 < cLine := by have := r.un; omega
/-- a value frozen -/
def aFz (A : AE) : AE := fun s => bd (A s) fun t s1 => (fz s1 t).map fun r => .ok (.d r.1) r.2
section
variable {X : Cx} {W : WX} {e : Expr} {A : AE} {S : AS} {pos : Pos}
theorem e_fz (h : PE X e (eL X.K W A)) : PE X e (eL X.K W (aFz A)) := PEm h fun σ H Q ⟨g, sl, res, st, e, k⟩ => run1 (R := RV X.K) st e k.x fun tx s1 g1 H1 v U e1 n1 st1 r1 f1 => by
  obtain ⟨⟨x, s2⟩, h1, rfl⟩ := Option.map_eq_some_iff.mp e1
  obtain ⟨g2, n2, st2, q⟩ := fz_ok n1 f1 st1 r1 h1
  exact k g2 H1 v [] n2 st2 ⟨rfl, q⟩ (Fresh.nil _ _)
theorem ss_killE (is : List Nat) {sts : List Stmt} (h : PSs X sts (sL X.K W S)) : PSs X sts (sL X.K W (aSeq S (aKill is))) := PSsm h fun D σ H ⟨g, sl, r, st, e, k⟩ => by
  unfold aSeq at e
  cases eS : S sl with
  | none => rw [eS] at e; cases e
  | some q =>
    rw [eS] at e
    cases q with
    | nx s1 =>
      cases e
      exact ⟨g, sl, _, st, eS, fun g1 H1 σ1 n1 st1 => k g1 H1 σ1 n1 (st1.kill is)⟩
    | bk s1 => cases e; exact ⟨g, sl, _, st, eS, k⟩
    | ct s1 => cases e; exact ⟨g, sl, _, st, eS, k⟩
    | rt t s1 => cases e; exact ⟨g, sl, _, st, eS, k⟩
    | ex t s1 => cases e; exact ⟨g, sl, _, st, eS, k⟩
end
end Y

/-! Layer Y, part Q: sorted. -/
namespace Y
open PySem PySem.Spec PyProof.Rows L2 Evl
/-! ### sorted -/
theorem reads_alive {h : Heap} {v : Value} {d : D} {as : List Addr} (r : Reads h v d as) : ∀ a ∈ as, ∃ o, h.get? a = some o := by
  refine Reads.rec (h := h) (motive_1 := fun v d as _ => ∀ a ∈ as, ∃ o, h.get? a = some o) (motive_2 := fun vs ds as _ => ∀ a ∈ as, ∃ o, h.get? a = some o) ?_ ?_ ?_ ?_ ?_ ?_ ?_ ?_ ?_ r
  · intro a h; cases h
  · intro _ a h; cases h
  · intro _ _ a h; cases h
  · intro _ _ a h; cases h
  · intro a o vs n xs as h1 h2 h3 h4 ih b hb
    rcases List.mem_cons.mp hb with e | e
    · subst e; exact ⟨o, h1⟩
    · exact ih b e
  · intro a o vs n xs as h1 h2 h3 h4 ih b hb
    exact ih b hb
  · intro a o es n kvs as bs h1 h2 h3 h4 h5 i1 i2 b hb
    rcases List.mem_append.mp hb with e | e
    · rcases List.mem_cons.mp e with e | e
      · subst e; exact ⟨o, h1⟩
      · exact i1 b e
    · exact i2 b e
  · intro a h; cases h
  · intro v vs d ds as bs h1 h2 i1 i2 b hb
    rcases List.mem_append.mp hb with e | e
    · exact i1 b e
    · exact i2 b e
section
open PySem.W
variable {X : Cx}
theorem vals_each : ∀ {us : List Value} {bs : List (V × D)}, Vals (bs.map (·.1)) us → EachIs (fun u (b : V × D) => RelV b.1 u) us bs
  | [], [], _ => .nil
  | u :: us, b :: bs, .cons r t => .cons r (vals_each t)
theorem each_vals : ∀ {us : List Value} {bs : List (V × D)}, EachIs (fun u (b : V × D) => RelV b.1 u) us bs → Vals (bs.map (·.1)) us
  | [], [], _ => .nil
  | u :: us, b :: bs, .cons r t => .cons r (each_vals t)
theorem each_mem {α β : Type} {R S : α → β → Prop} : ∀ {us : List α} {bs : List β}, EachIs R us bs → (∀ u b, b ∈ bs → R u b → S u b) → EachIs S us bs
  | _, _, .nil, _ => .nil
  | _, _, .cons r t, k => .cons (k _ _ (List.mem_cons_self ..) r) (each_mem t fun u b hb => k u b (List.mem_cons_of_mem _ hb))
def rSortedD (K : PySem.W.Frag) : List V → Hp → VK → Prop := fun vs H Q => ∃ (a : Addr) (bs : List (V × D)), vs = [.ref a] ∧ SqL K H a (bs.map (·.1)) ∧ (∀ b ∈ bs, Dp K H b.1 b.2) ∧ AllAlike (bs.map (·.2)) ∧ Sortable (bs.map (·.2)) ∧ (∀ b ∈ bs, b.2.depth ≤ 60) ∧
  ∀ p, H p = none → Q (.ref p) (upd H p (.lst ((bs.mergeSort (dataLe false (fun b => b.2))).map (·.1))))
theorem cr_sortedD (hu : X.A.units + 65 < cLine) : CallR X (.builtin "sorted") (rSortedD X.K) := by
  intro pins s σ H vs us Q I r h
  obtain ⟨a, bs, rfl, hs, hd, hal, hk, hdp, q⟩ := h
  obtain ⟨its, rv, hl, hz⟩ := I.list hs
  rw [Vals.ref1 r]
  have e := vals_each rv
  have hlen : its.length = bs.length := e.length
  have er : EachIs (fun u (b : V × D) => ∃ as, Reads s.heap u b.2 as) its bs := each_mem e fun u b hb hr => Dp.reads I b.2 b.1 u (hd b hb) hr
  rw [List.length_map] at hz
  refine sorted_data (R := fun u (b : V × D) => RelV b.1 u) hl.isList e er hal hk hz (fun b hb => by have := hdp b hb; omega) fun out h1 h2 => ?_
  obtain ⟨ep, he'⟩ := PyProof.Rows.sortedAll_at s.heap its out.toArray
  have hz2 : ((bs.mergeSort (dataLe false (fun b => b.2))).map (·.1)).length ≤ sizeLine := by rw [List.length_map, List.length_mergeSort]; exact hz
  exact ⟨.ref _, upd H (s.heap.objs.size + 1) (.lst ((bs.mergeSort (dataLe false (fun b => b.2))).map (·.1))), I.laid (t' := s.toks) (fun _ _ => PyProof.Rows.sortedAll_old) (Nat.le_succ _) ⟨hz2, out, ep, each_vals h2, he'⟩, rfl, q _ (I.hok.fresh (Nat.le_succ _))⟩
end
def kT (ks : List Key) : D := .tuple (ks.map kD)
theorem kD_depth (k : Key) : (kD k).depth = 0 := by cases k <;> rfl
theorem kT_depth (ks : List Key) : (kT ks).depth ≤ 60 := by
  have : PyData.depthAll (ks.map kD) ≤ 0 := by
    induction ks with
    | nil => exact Nat.le_refl _
    | cons k r ih =>
      rw [List.map_cons, PyData.depthAll, kD_depth]
      exact Nat.max_le.mpr ⟨Nat.le_refl _, ih⟩
  unfold kT
  rw [PyData.depth]
  omega
theorem dp_kT {K : PySem.W.Frag} {H : Hp} {ks : List Key} {b : Addr} (h : H b = some (.tup (ks.map kV))) : Dp K H (.ref b) (kT ks) :=
  .tup (SqT.of h) (RDs.dp (K := K) (kDs_rd (K := K) H ks))
def IsKeysL (H : Hp) (ks : List (List Key)) (bs : List Addr) : Prop := Paired (fun k b => H b = some (.tup (k.map kV))) ks bs
section
open PySem.W
variable {X : Cx}
def rSortedDT : List V → Hp → VK → Prop := fun xs H Q => ∃ (d : Addr) (kvs : List (List Key × V)), xs = [V.ref d] ∧ Rd H d (.dT kvs) ∧ AllAlike (kvs.map fun p => kT p.1) ∧ Sortable (kvs.map fun p => kT p.1) ∧
  ∀ p bs, H p = none → IsKeysL H ((kvs.map (·.1)).mergeSort (dataLe false kT)) bs → Q (.ref p) (upd H p (.lst (bs.map V.ref)))
theorem each_refs : ∀ {bs : List (List Key × Addr)} {out : List Value}, EachIs (fun u (b : List Key × Addr) => u = Value.ref b.2) out bs → out = bs.map fun b => Value.ref b.2
  | _, _, .nil => rfl
  | _, _, .cons e t => by rw [List.map_cons, e, each_refs t]
theorem refs_each : ∀ bs : List (List Key × Addr), EachIs (fun u (b : List Key × Addr) => u = Value.ref b.2) (bs.map fun b => Value.ref b.2) bs
  | [] => .nil
  | _ :: r => .cons rfl (refs_each r)
theorem keysL_of {H : Hp} : ∀ {bs : List (List Key × Addr)}, (∀ b ∈ bs, H b.2 = some (.tup (b.1.map kV))) → IsKeysL H (bs.map (·.1)) (bs.map (·.2))
  | [], _ => .nil
  | b :: r, h => .cons (h b (List.mem_cons_self ..)) (keysL_of fun x hx => h x (List.mem_cons_of_mem _ hx))
theorem kt_keys {H : Hp} {kvs : List (List Key × V)} {xs : List (List Key × Addr × Value)} (r : KT H kvs xs) : kvs.map (·.1) = xs.map (·.1) ∧ ∀ x ∈ xs, H x.2.1 = some (.tup (x.1.map kV)) := by
  induction r with
  | nil => exact ⟨rfl, fun x h => absurd h List.not_mem_nil⟩
  | cons h t ih =>
    refine ⟨by rw [List.map_cons, List.map_cons, ih.1, h.1], fun x hx => ?_⟩
    rcases List.mem_cons.mp hx with e | e
    · subst e
      rw [← h.1]
      exact h.2.1
    · exact ih.2 x e
theorem cr_sortedDT (hc : X.calm = true) (hu : X.A.units + 65 < cLine) : CallR X (.builtin "sorted") rSortedDT := by
  intro pins s σ H xs us Q I r h
  obtain ⟨d, kvs, rfl, hd, hal, hk, q⟩ := h
  obtain ⟨u, rfl, rx⟩ := r.one
  cases rx
  obtain ⟨z, hs, ks, pr, o, es, ep, ho, hx, hdt, he, hn⟩ := (show ObjOk X.prog X.w H s.heap d (.dT kvs) from hd.ok I.hok)
  have l1 : es.size = ks.length := size_of_entries he
  have l2 : kvs.length = ks.length := Paired.length pr
  obtain ⟨kk, kh⟩ := kt_keys pr
  refine Calls.call_function_entry PyProof.Rows.kind_sorted PyProof.Rows.plain_sorted PyProof.Rows.entry_sorted (PyProof.Rows.args_sorted1 _) ?_
  unfold Builtin.«sorted»
  refine wpAny_bind (m := checkCount "sorted" 1 1 _) (wpAny_pure ?_)
  refine wpAny_bind (PySem.W.kdu_collect (A := X.A.in1) (kdl_raw hs hx hdt) (I.ok.hd hc) ho (by omega) fun h' tk acc hkp it => ?_)
  have hl : acc.toList.length = ks.length := by rw [Array.length_toList, it.1]; exact l1
  have ea : acc.toList = ks.map fun x => Value.ref x.2.1 := by
    apply List.ext_getElem?
    intro j
    rw [List.getElem?_map]
    cases hj : acc.toList[j]? with
    | none =>
      have h1 := List.getElem?_eq_none_iff.mp hj
      rw [List.getElem?_eq_none (by omega)]
      all_goals rfl
    | some v =>
      obtain ⟨en, hen, hv⟩ := it.2 j v (by rw [← Array.getElem?_toList]; exact hj)
      have qe := entry_at he j
      rw [hen] at qe
      cases hb : ks[j]? with
      | none =>
        rw [hb] at qe
        exact nomatch (show some en = none from qe)
      | some b =>
        rw [hb] at qe
        have e2 : en = entryOfKey (tupleKind (mixKind X.prog X.w)) b := Option.some.inj qe
        rw [hv, e2]
        all_goals rfl
  let bs : List (List Key × Addr) := ks.map fun x => (x.1, x.2.1)
  have eb : acc.toList = bs.map fun b => Value.ref b.2 := by rw [ea]; show _ = (ks.map fun x => (x.1, x.2.1)).map _; rw [List.map_map]; rfl
  have e1 : kvs.map (·.1) = bs.map (·.1) := by rw [kk]; show _ = (ks.map fun x => (x.1, x.2.1)).map _; rw [List.map_map]; rfl
  have hb : ∀ b ∈ bs, H b.2 = some (.tup (b.1.map kV)) := fun b hb => by
    obtain ⟨x, hx, rfl⟩ := List.mem_map.mp hb
    exact kh x hx
  have I1 : Inv X pins σ H { s with heap := h', toks := tk } := I.kept hkp
  refine wpAny_bind (wpAny_newList ?_ (by rw [hl]; omega))
  have hoL : (h'.push (seqObj "list" acc.toList.toArray 0)).get? h'.objs.size = some (seqObj "list" acc.toList.toArray 0) := Heap.get?_push_size _ rfl
  show wpAny _ _ _ _ _ { s with heap := h'.push (seqObj "list" acc.toList.toArray 0), toks := tk }
  have er : EachIs (fun u (b : List Key × Addr) => ∃ as, Reads (h'.push (seqObj "list" acc.toList.toArray 0)) u (kT b.1) as ∧ h'.objs.size ∉ as) acc.toList bs := by
    rw [eb]
    refine each_mem (refs_each bs) fun u b hbm eu => ?_
    subst eu
    obtain ⟨as, ra⟩ := Dp.reads I1 (kT b.1) (.ref b.2) (.ref b.2) (dp_kT (hb b hbm)) rfl
    refine ⟨as, PyProof.Rows.Reads.keeps (fun _ _ e => Heap.get?_push_of_some _ e) ra, fun hm => ?_⟩
    obtain ⟨o', ho'⟩ := reads_alive ra _ hm
    exact absurd (Heap.lt_size ho') (Nat.lt_irrefl _)
  have hlb : bs.length = ks.length := List.length_map _
  have ha2 : (kvs.map fun p => kT p.1) = bs.map fun b => kT b.1 := by
    have := congrArg (List.map kT) e1
    rw [List.map_map, List.map_map] at this
    exact this
  refine wpAny_bind (wpAny_holding (list_sort_data (R := fun u (b : List Key × Addr) => u = Value.ref b.2) (enc := fun b => kT b.1) (s := { s with heap := h'.push (seqObj "list" acc.toList.toArray 0), toks := tk }) hoL (eb ▸ refs_each bs) er (ha2 ▸ hal) (ha2 ▸ hk) (by omega)
    (fun b _ => by have := kT_depth b.1; show X.A.units + 1 + 1 + (kT b.1).depth < cLine; omega) fun out g1 g2 => ?_))
  have eo := each_refs g2
  obtain ⟨e', he'⟩ := PyProof.Rows.sortedHeap_at (vs := acc.toList) (out := out.toArray) hoL
  let sb := bs.mergeSort (dataLe false fun b => kT b.1)
  have hsb : ∀ b ∈ sb, H b.2 = some (.tup (b.1.map kV)) := fun b hm => hb b (List.mem_mergeSort.mp hm)
  have hso : sb.map (·.1) = (kvs.map (·.1)).mergeSort (dataLe false kT) := by
    rw [e1]
    exact List.map_mergeSort (fun _ _ _ _ => rfl)
  have hlen : ((sb.map (·.2)).map V.ref).length ≤ sizeLine := by
    rw [List.length_map, List.length_map]
    show (bs.mergeSort _).length ≤ _
    rw [List.length_mergeSort]
    omega
  have hv : Vals ((sb.map (·.2)).map V.ref) out := by
    rw [eo]
    have := vals_refs (sb.map (·.2))
    rw [show (sb.map (·.2)).map Value.ref = sb.map fun b => Value.ref b.2 by rw [List.map_map]; rfl] at this
    exact this
  refine wpAny_pure ⟨_, rfl, .ref h'.objs.size, upd H h'.objs.size (.lst ((sb.map (·.2)).map V.ref)), I1.laid (t' := tk) (fun b u e => ?_) (Nat.le_refl _)
    (show ObjOk X.prog X.w _ _ _ (.lst ((sb.map (·.2)).map V.ref)) from ⟨hlen, out, e', hv, he'⟩), rfl, q _ _ (I1.hok.fresh (Nat.le_refl _)) (hso ▸ keysL_of hsb)⟩
  have hb' : b < h'.objs.size := Heap.lt_size e
  rw [PyProof.Rows.sortedHeap_old (Nat.ne_of_lt hb') (by rw [size_push']; exact Nat.lt_succ_of_lt hb')]
  exact Heap.get?_push_of_some _ e
end

/-! ### at the layer -/
open PySem.W
def SrtOk (ds : List D) : Prop := AllAlike ds ∧ Sortable ds ∧ ∀ d ∈ ds, d.depth ≤ 60
noncomputable def srt (ds : List D) : List D := ds.mergeSort (dataLe false fun d => d)
open Classical in
noncomputable def srtL (ds : List D) (sl : SL) : Option (TV × SL) := if SrtOk ds then some (.t (.lst ((srt ds).map MV.d)), sl) else none
def intKs : List Key → Option (List Int)
  | [] => some []
  | .inl i :: r => (intKs r).map (i :: ·)
  | _ :: _ => none
def srtI (ns : List Int) : List Int := ns.mergeSort fun a b => decide (a ≤ b)
noncomputable def oSorted1 : O1 := fun sl ts => match ts with
  | [x] => match vw sl x with
    | some (.dT kvs) => srtL (kvs.map fun p => kT p.1) sl
    | some (.dK kvs) => (intKs (kvs.map (·.1))).bind fun ns => if ns.length < 64 then some (.t (.lst ((srtI ns).map fun i => MV.d (.int i))), sl) else none
    | _ => ((seqL sl x).bind lvs).bind fun ds => srtL ds sl
  | _ => none
noncomputable def oSorted : O1 := vA oSorted1
section
variable {K : PySem.W.Frag}
theorem RDs.len2 {F : Hp} : ∀ {vs : List V} {ds : List D}, RDs K F vs ds → ∀ b ∈ vs.zip ds, RD K F b.1 b.2
  | _, _, .nil, b, h => by cases h
  | _, _, .cons r t, b, h => by
    rw [List.zip_cons_cons] at h
    rcases List.mem_cons.mp h with e | e
    · subst e; exact r
    · exact RDs.len2 t b e
theorem rds_of {F : Hp} : ∀ {bs : List (V × D)}, (∀ b ∈ bs, RD K F b.1 b.2) → RDs K F (bs.map (·.1)) (bs.map (·.2))
  | [], _ => .nil
  | b :: r, h => .cons (h b (List.mem_cons_self ..)) (rds_of fun x hx => h x (List.mem_cons_of_mem _ hx))
theorem sort_snd (bs : List (V × D)) : (bs.mergeSort (dataLe false (fun b => b.2))).map (·.2) = (bs.map (·.2)).mergeSort (dataLe false (fun d => d)) :=
  List.map_mergeSort (fun _ _ _ _ => rfl)
/-- keys of tuples, taken in as data -/
theorem Sta.takeF {H : Hp} {σ : L2.St} {sl : SL} {g0 : G} {H0 : Hp} : ∀ {ks : List (List Key)} {bs : List Addr} {g : G}, Nx g0 H0 g H → Sta K g H σ sl → IsKeysL H ks bs → ∃ g', Nx g0 H0 g' H ∧ Sta K g' H σ sl ∧ RDs K g'.F (bs.map V.ref) (ks.map kT) ∧ Ex g.F g'.F
  | [], _, g, n, st, .nil => ⟨g, n, st, .nil, fun _ _ z => z⟩
  | k :: ks, b :: bs, g, n, st, .cons h t => by
    obtain ⟨g1, n1, st1, hb, ex1, _⟩ := st.tupF n h
    obtain ⟨g2, n2, st2, rs, ex2⟩ := Sta.takeF n1 st1 t
    exact ⟨g2, n2, st2, .cons (.tup (ex2 _ _ hb) (kDs_rd _ k)) rs, fun a o z => ex2 a o (ex1 a o z)⟩
def rSortI : List V → Hp → VK → Prop := fun xs H Q => ∃ (a : Addr) (kvs : List (Key × V)) (ks : List Int), xs = [.ref a] ∧ Rd H a (.dK kvs) ∧ kvs.map (·.1) = ks.map Sum.inl ∧ ks.length < 64 ∧
    ∀ (ys : List Int) (p : Addr), ys.Perm ks → ys.Pairwise (· ≤ ·) → H p = none → Q (.ref p) (upd H p (.lst (ys.map V.int)))
def rSortA (K : PySem.W.Frag) : List V → Hp → VK → Prop := fun xs H Q => rSortedD K xs H Q ∨ rSortedDT xs H Q ∨ rSortI xs H Q
theorem call_sortedA {X : Cx} (hu : X.A.units + 65 < cLine) (hc : X.calm = true := by rfl) : CallR X (.builtin "sorted") (rSortA X.K) := call_or (cr_sortedD hu) (call_or (cr_sortedDT hc hu) (call_sortedDI hc))
theorem srtL_ok {ds : List D} {sl s : SL} {tv : TV} (h : srtL ds sl = some (tv, s)) : SrtOk ds ∧ tv = .t (.lst ((srt ds).map MV.d)) ∧ s = sl := by
  unfold srtL at h
  split at h
  · rename_i h1; cases h; exact ⟨h1, rfl, rfl⟩
  · cases h
theorem intKs_eq : ∀ {ks : List Key} {ns : List Int}, intKs ks = some ns → ks = ns.map Sum.inl
  | [], _, h => by cases h; rfl
  | .inl i :: r, _, h => by
    obtain ⟨ms, h1, rfl⟩ := Option.map_eq_some_iff.mp (show (intKs r).map (i :: ·) = some _ from h)
    rw [List.map_cons, intKs_eq h1]
  | .inr _ :: _, _, h => by cases h
theorem srtI_uniq {ys ns : List Int} (h1 : ys.Perm ns) (h2 : ys.Pairwise (· ≤ ·)) : ys = srtI ns := by
  refine List.Perm.eq_of_pairwise (le := (· ≤ ·)) (fun a b _ _ h1 h2 => Int.le_antisymm h1 h2) h2 ?_ (h1.trans (List.mergeSort_perm _ _).symm)
  have := List.pairwise_mergeSort (le := fun a b : Int => decide (a ≤ b)) (fun a b c h1 h2 => decide_eq_true (Int.le_trans (of_decide_eq_true h1) (of_decide_eq_true h2))) (fun a b => by
    rcases Int.le_total a b with h | h
    · rw [decide_eq_true h]; rfl
    · rw [decide_eq_true h, Bool.or_true]) ns
  exact this.imp fun h => of_decide_eq_true h
theorem ints_rds (F : Hp) : ∀ ns : List Int, RDs K F (ns.map V.int) (ns.map PyData.int)
  | [] => .nil
  | i :: r => .cons (.int i) (ints_rds F r)
theorem co_sorted1 : CoC K (rSortA K) oSorted1 := by
  intro g0 H0 g H σ sl vs ts S tv sl' Q n st rs f h k
  unfold oSorted1 at h
  split at h
  · rename_i x
    obtain ⟨v, rfl, r⟩ := rs.one
    split at h
    · rename_i kvs e
      obtain ⟨ok, rfl, rfl⟩ := srtL_ok h
      obtain ⟨T, q⟩ := vw_ok st r e
      cases q with
      | @dT a kws _ U ha hk rs' =>
        have et : (kws.map fun p => kT p.1) = kvs.map fun p => kT p.1 := by
          have := congrArg (List.map kT) hk.1
          rw [List.map_map, List.map_map] at this
          exact this
        refine .inr (.inl ⟨a, kws, rfl, .inl ha, et ▸ ok.1, et ▸ ok.2.1, fun q bs hq hks => ?_⟩)
        obtain ⟨g1, n1, st1, rd, ex⟩ := Sta.takeF n st hks
        have es : ((kws.map (·.1)).mergeSort (dataLe false kT)).map kT = srt (kvs.map fun p => kT p.1) := by
          unfold srt
          rw [← et, show (kws.map fun p => kT p.1) = (kws.map (·.1)).map kT by rw [List.map_map]; rfl]
          exact List.map_mergeSort (fun _ _ _ _ => rfl)
        rw [es] at rd
        exact k.newL n1 st1 rd hq
    · rename_i kvs e
      obtain ⟨ns, e1, h⟩ := Option.bind_eq_some_iff.mp h
      split at h
      · rename_i hl
        cases h
        obtain ⟨T, q⟩ := vw_ok st r e
        cases q with
        | @dK a kws _ U ha hk rs' =>
          refine .inr (.inr ⟨a, kws, ns, rfl, .inl ha, hk.1.trans (intKs_eq e1), hl, fun ys p h1 h2 hp => ?_⟩)
          rw [srtI_uniq h1 h2]
          have k' : Kg K (RV K σ) σ Q g0 H0 (.t (.lst (((srtI ns).map PyData.int).map MV.d))) sl := by rw [List.map_map]; exact k
          exact k'.newL n st (ints_rds _ _) hp
      · cases h
    · obtain ⟨ds, e1, h⟩ := Option.bind_eq_some_iff.mp h
      obtain ⟨ms, e2, e3⟩ := Option.bind_eq_some_iff.mp e1
      obtain ⟨ok, rfl, rfl⟩ := srtL_ok h
      obtain ⟨a, ws, T, rfl, h1, h2⟩ := seqL_ok st r e2
      rw [lvs_eq e3] at h2
      have rd := h2.leaves.2
      have hl := rd.length
      have m1 : (ws.zip ds).map (·.1) = ws := List.map_fst_zip (by omega)
      have m2 : (ws.zip ds).map (·.2) = ds := List.map_snd_zip (by omega)
      refine .inl ⟨a, ws.zip ds, rfl, by rw [m1]; exact h1, fun b hb => dp_mono st.ex (RD.dp (rd.len2 b hb)), by rw [m2]; exact ok.1, by rw [m2]; exact ok.2.1, fun b hb => ok.2.2 b.2 (by rw [← m2]; exact List.mem_map_of_mem hb), fun q hq => ?_⟩
      have rr : RDs K g.F (((ws.zip ds).mergeSort (dataLe false (fun b => b.2))).map (·.1)) (srt ds) := by
        have := rds_of (K := K) (F := g.F) (bs := (ws.zip ds).mergeSort (dataLe false (fun b => b.2))) fun b hb => rd.len2 b (List.mem_mergeSort.mp hb)
        rw [sort_snd, m2] at this
        exact this
      exact k.newL n st rr hq
  · cases h
theorem co_sorted : CoC K (rSortA K) oSorted := co_vA co_sorted1
end
/-! bounds of // and ** as tests -/
def cDiv (i j : Int) : Bool := decide (0 < j) && decide (j < 1073741824)
theorem cDiv_ok : ∀ i j, cDiv i j = true → CDiv i j := fun i j h => by
  unfold cDiv at h
  rw [Bool.and_eq_true] at h
  exact ⟨of_decide_eq_true h.1, of_decide_eq_true h.2⟩
def cDivW (i j : Int) : Bool := decide (0 < j) && decide (j.natAbs.log2 < 9000)
theorem cDivW_ok : ∀ i j, cDivW i j = true → CDivW i j := fun i j h => by
  unfold cDivW at h
  rw [Bool.and_eq_true] at h
  exact ⟨of_decide_eq_true h.1, of_decide_eq_true h.2⟩
def cPow (i j : Int) : Bool := decide (0 ≤ j) && decide (j ≤ 1000000) && decide (i.natAbs < 2 ^ 64)
theorem cPow_ok : ∀ i j, cPow i j = true → CPow i j := fun i j h => by
  unfold cPow at h
  rw [Bool.and_eq_true, Bool.and_eq_true] at h
  exact ⟨of_decide_eq_true h.1.1, of_decide_eq_true h.1.2, of_decide_eq_true h.2⟩
end Y

/-! Layer Y, part R: <, min, max of data; dict.get. -/
namespace Y
open PySem PySem.Spec PyProof.Rows L2 Evl PySem.W
def rLtD (K : PySem.W.Frag) : R2 := fun x y H Q => ∃ d e, Dp K H x d ∧ Dp K H y e ∧ alike d e = true ∧ d ≠ .none ∧ d.depth ≤ 60 ∧ Q (.bl (dataLt d e)) H
theorem op_ltD {X : Cx} (hu : X.A.units + 65 < cLine) : OpR X (compareOp .Lt) (rLtD X.K) := by
  intro pins s σ H x y v u Q I rx ry h
  obtain ⟨d, e, hd, he, ha, hn, hz, q⟩ := h
  obtain ⟨as, r1⟩ := Dp.reads I d x v hd rx
  obtain ⟨bs, r2⟩ := Dp.reads I e y u he ry
  exact lt_data r1 r2 ha hn (by have := Nat.min_le_left d.depth e.depth; omega) ⟨.bl _, H, I, rfl, q⟩
def rLtA (K : PySem.W.Frag) : R2 := fun x y H Q => rLtS x y H Q ∨ rLtD K x y H Q
theorem op_LtA {X : Cx} (hu : X.A.units + 65 < cLine) : OpR X (compareOp .Lt) (rLtA X.K) := op_or op_Lt (op_ltD hu)
def nonB : D → Bool
  | .none => true
  | _ => false
def oLtA : O2 := fun s x y => match x, y with
  | .d (.int i), .d (.int j) => some (.d (.bool (decide (i < j))), s)
  | .d (.str i), .d (.str j) => some (.d (.bool (decide (i.cps.toList < j.cps.toList))), s)
  | x, y => (asD s x).bind fun d => (asD s y).bind fun e => if alike d e = true ∧ nonB d = false ∧ d.depth ≤ 60 then some (.d (.bool (dataLt d e)), s) else none
section
variable {K : PySem.W.Frag}
theorem co_LtA : Co2 K (rLtA K) oLtA := by
  intro g0 H0 g H σ sl x y tx ty S T tv sl' Q n st rx fx ry fy ap h k
  unfold oLtA at h
  split at h
  · rename_i i j
    exact .inl (co_Lt g0 H0 g H σ sl x y _ _ S T tv sl' Q n st rx fx ry fy ap (show oLtS sl (.d (.int i)) (.d (.int j)) = _ from h) k)
  · rename_i i j
    exact .inl (co_Lt g0 H0 g H σ sl x y _ _ S T tv sl' Q n st rx fx ry fy ap (show oLtS sl (.d (.str i)) (.d (.str j)) = _ from h) k)
  · obtain ⟨d, e1, h⟩ := Option.bind_eq_some_iff.mp h
    obtain ⟨e, e2, h⟩ := Option.bind_eq_some_iff.mp h
    split at h
    · rename_i hs
      cases h
      exact .inr ⟨d, e, asD_ok st rx e1, asD_ok st ry e2, hs.1, (fun z => by subst z; exact absurd hs.2.1 (by decide)), hs.2.2, k.scal n st (.bl _)⟩
    · cases h
end
/-! min, max of a list -/
section
variable {prog : Program} {w : World} {A : Around} {E : Value → Shared → Prop} {s : Shared}
theorem min_list_at {l : Addr} {vs : Array Value} {x : PyData} {xs : List PyData} {as : List Addr} {Q : Value → Shared → Prop} (hh : A.handled = none) (hl : s.heap.IsList l vs) (hr : ReadsAll s.heap vs.toList (x :: xs) as) (ha : AlikeAll (x :: xs)) (hu : A.units + 1 + PyData.depthAll (x :: xs) < cLine)
    (h : ∀ (i : Nat) v h' tk, vs[i]? = some v → (x :: xs).getD i .none = minD x xs → (∀ b o, s.heap.get? b = some o → h'.get? b = some o) → Q v { s with heap := h', toks := tk }) :
    wpAny (model prog w) A (call (.builtin "min") [.ref l]) Q E s := by
  have hn : vs.size = xs.length + 1 := readsAll_len hr
  refine call_min_walkH (iter_listW (A := A.in1) hh hl fun s₂ e W st hfp hw hk => ?_)
  refine ⟨_, _, _, _, _, _, _, s.heap, _, rfl, W, st, hfp, by omega, hw, hk, cmpIn_lt (A := A.in1) hr ha (by show A.units + 1 + _ < _; exact hu), fun v s' hP m => ?_⟩
  obtain ⟨h', tk, rfl, hk'⟩ := moved_old e rfl m
  have e1 : vs.size - 1 = xs.length := by omega
  have e2 := (argBest_fold dataLt PyData.none x xs xs.length (Nat.le_refl _)).2
  rw [List.take_length] at e2
  rw [e1] at hP
  exact h _ v h' tk hP (by unfold minD; rw [← e2]) hk'
theorem max_list_at {l : Addr} {vs : Array Value} {x : PyData} {xs : List PyData} {as : List Addr} {Q : Value → Shared → Prop} (hh : A.handled = none) (hl : s.heap.IsList l vs) (hr : ReadsAll s.heap vs.toList (x :: xs) as) (ha : AlikeAll (x :: xs)) (hu : A.units + 1 + PyData.depthAll (x :: xs) < cLine)
    (h : ∀ (i : Nat) v h' tk, vs[i]? = some v → (x :: xs).getD i .none = maxD x xs → (∀ b o, s.heap.get? b = some o → h'.get? b = some o) → Q v { s with heap := h', toks := tk }) :
    wpAny (model prog w) A (call (.builtin "max") [.ref l]) Q E s := by
  have hn : vs.size = xs.length + 1 := readsAll_len hr
  refine call_max_walkH (iter_listW (A := A.in1) hh hl fun s₂ e W st hfp hw hk => ?_)
  refine ⟨_, _, _, _, _, _, _, s.heap, _, rfl, W, st, hfp, by omega, hw, hk, cmpIn_gt (A := A.in1) hr ha (by show A.units + 1 + _ < _; exact hu), fun v s' hP m => ?_⟩
  obtain ⟨h', tk, rfl, hk'⟩ := moved_old e rfl m
  have e1 : vs.size - 1 = xs.length := by omega
  have e2 := (argBest_fold (fun y a => dataLt a y) PyData.none x xs xs.length (Nat.le_refl _)).2
  rw [List.take_length] at e2
  rw [e1] at hP
  exact h _ v h' tk hP (by unfold maxD; rw [← e2]) hk'
end
def rMinD (K : PySem.W.Frag) (f : D → List D → D) : List V → Hp → VK → Prop := fun xs H Q => ∃ (a : Addr) (vs : List V) (d : D) (ds : List D), xs = [.ref a] ∧ SqL K H a vs ∧ DpAll K H vs (d :: ds) ∧ AlikeAll (d :: ds) ∧ PyData.depthAll (d :: ds) ≤ 60 ∧
  ∀ (i : Nat) v, vs[i]? = some v → (d :: ds)[i]? = some (f d ds) → Q v H
section
variable {X : Cx}
theorem vals_at : ∀ {vs : List V} {us : List Value} {i : Nat} {u : Value}, Vals vs us → us[i]? = some u → ∃ v, vs[i]? = some v ∧ RelV v u
  | _, _, _, _, .nil, h => by simp at h
  | _, _, 0, _, .cons r t, h => by simp at h; subst h; exact ⟨_, rfl, r⟩
  | _, _, i + 1, _, .cons r t, h => by
    obtain ⟨v, h1, h2⟩ := vals_at (i := i) t (by simpa using h)
    exact ⟨v, by simpa using h1, h2⟩
theorem getD_at {d : D} {ds : List D} {i : Nat} {y : D} (hi : i < (d :: ds).length) (h : (d :: ds).getD i .none = y) : (d :: ds)[i]? = some y := by
  rw [List.getD_eq_getElem?_getD, List.getElem?_eq_getElem hi] at h
  rw [List.getElem?_eq_getElem hi]
  exact congrArg some h
theorem cr_minD (hc : X.calm = true) (hu : X.A.units + 65 < cLine) : CallR X (.builtin "min") (rMinD X.K minD) := by
  intro pins s σ H xs us Q I r h
  obtain ⟨a, vs, d, ds, rfl, hs, hd, ha, hz, q⟩ := h
  obtain ⟨its, rv, hl, _⟩ := I.list hs
  rw [Vals.ref1 r]
  obtain ⟨as, ra⟩ := Dp.readsAll I (d :: ds) vs its hd rv
  refine min_list_at (I.ok.hd hc) hl.isList ra ha (by omega) fun i v h' tk hv he hk => ?_
  have hlen := readsAll_len ra
  have hi : i < (d :: ds).length := by
    have := (Array.getElem?_eq_some_iff.mp hv).1
    rw [List.size_toArray] at this
    have h2 : its.length = (d :: ds).length := hlen
    omega
  obtain ⟨x, hx, rx⟩ := vals_at rv (show its[i]? = some v by simpa using hv)
  exact ⟨x, H, I.kept hk, rx, q i x hx (getD_at hi he)⟩
theorem cr_maxD (hc : X.calm = true) (hu : X.A.units + 65 < cLine) : CallR X (.builtin "max") (rMinD X.K maxD) := by
  intro pins s σ H xs us Q I r h
  obtain ⟨a, vs, d, ds, rfl, hs, hd, ha, hz, q⟩ := h
  obtain ⟨its, rv, hl, _⟩ := I.list hs
  rw [Vals.ref1 r]
  obtain ⟨as, ra⟩ := Dp.readsAll I (d :: ds) vs its hd rv
  refine max_list_at (I.ok.hd hc) hl.isList ra ha (by omega) fun i v h' tk hv he hk => ?_
  have hlen := readsAll_len ra
  have hi : i < (d :: ds).length := by
    have := (Array.getElem?_eq_some_iff.mp hv).1
    rw [List.size_toArray] at this
    have h2 : its.length = (d :: ds).length := hlen
    omega
  obtain ⟨x, hx, rx⟩ := vals_at rv (show its[i]? = some v by simpa using hv)
  exact ⟨x, H, I.kept hk, rx, q i x hx (getD_at hi he)⟩
end
open Classical in
noncomputable def oMinD (f : D → List D → D) : O1 := fun sl ts => match ts with
  | [x] => match (seqL sl x).bind lvs with
    | some (d :: ds) => if AlikeAll (d :: ds) ∧ PyData.depthAll (d :: ds) ≤ 60 then some (.d (f d ds), sl) else none
    | _ => none
  | _ => none
section
variable {K : PySem.W.Frag}
theorem co_minD {f : D → List D → D} : CoC K (rMinD K f) (oMinD f) := by
  intro g0 H0 g H σ sl vs ts S tv sl' Q n st rs fr h k
  unfold oMinD at h
  split at h
  · rename_i x
    obtain ⟨v, rfl, r⟩ := rs.one
    split at h
    · rename_i d ds e
      split at h
      · rename_i hs
        cases h
        obtain ⟨ms, e2, e3⟩ := Option.bind_eq_some_iff.mp e
        obtain ⟨a, ws, T, rfl, h1, h2⟩ := seqL_ok st r e2
        rw [lvs_eq e3] at h2
        have rd := h2.leaves.2
        refine ⟨a, ws, d, ds, rfl, h1, dpa_mono st.ex (RDs.dp rd), hs.1, hs.2, fun i v hv he => ?_⟩
        obtain ⟨u, hu, ru⟩ := rd.get he
        rw [hv] at hu; cases hu
        exact k.scal n st ru
      · cases h
    · cases h
  · cases h
theorem co_or {r q : List V → Hp → VK → Prop} {o p : O1} (h1 : CoC K r o) (h2 : CoC K q p) : CoC K (fun xs H Q => r xs H Q ∨ q xs H Q) (fun sl ts => match o sl ts with
    | some x => some x
    | none => p sl ts) := by
  intro g0 H0 g H σ sl vs ts S tv sl' Q n st rs fr h k
  dsimp only at h
  split at h
  · rename_i x e
    cases h
    exact .inl (h1 g0 H0 g H σ sl vs ts S tv sl' Q n st rs fr e k)
  · exact .inr (h2 g0 H0 g H σ sl vs ts S tv sl' Q n st rs fr h k)
end
noncomputable def oMin : O1 := fun sl ts => match oMin2 sl ts with
  | some x => some x
  | none => oMinD minD sl ts
noncomputable def oMax : O1 := fun sl ts => match oMax2 sl ts with
  | some x => some x
  | none => oMinD maxD sl ts
theorem call_minA {X : Cx} (hu : X.A.units + 65 < cLine) (hc : X.calm = true := by rfl) : CallR X (.builtin "min") (fun xs H Q => (∃ i j, xs = [.int i, .int j] ∧ Q (.int (if j < i then j else i)) H) ∨ rMinD X.K minD xs H Q) := call_or (call_min2 (X := X) hc) (cr_minD hc hu)
theorem call_maxA {X : Cx} (hu : X.A.units + 65 < cLine) (hc : X.calm = true := by rfl) : CallR X (.builtin "max") (fun xs H Q => (∃ i j, xs = [.int i, .int j] ∧ Q (.int (if j > i then j else i)) H) ∨ rMinD X.K maxD xs H Q) := call_or (call_max2 (X := X) hc) (cr_maxD hc hu)
theorem co_minA {K : PySem.W.Frag} : CoC K (fun xs H Q => (∃ i j, xs = [.int i, .int j] ∧ Q (.int (if j < i then j else i)) H) ∨ rMinD K minD xs H Q) oMin := co_or co_min2 co_minD
theorem co_maxA {K : PySem.W.Frag} : CoC K (fun xs H Q => (∃ i j, xs = [.int i, .int j] ∧ Q (.int (if j > i then j else i)) H) ∨ rMinD K maxD xs H Q) oMax := co_or co_max2 co_minD
/-! d.get(k), d.get(k, x) where what is found is data -/
def getR (m : MV) (d z : D) : Option D := match dGet m d with
  | some (some (.d x)) => some x
  | some none => some z
  | _ => none
def aGet2 (O A B : AE) : AE := fun s => bd (O s) fun x s1 => if isDct s1 x = true then bd (A s1) fun y s2 => bd (B s2) fun z s3 => match y, z with
  | .d d, .d e => ((vw s3 x).bind fun m => getR m d e).map fun r => .ok (.d r) s3
  | _, _ => none else none
def aGet1 (O A : AE) : AE := fun s => bd (O s) fun x s1 => if isDct s1 x = true then bd (A s1) fun y s2 => match y with
  | .d d => ((vw s2 x).bind fun m => getR m d .none).map fun r => .ok (.d r) s2
  | _ => none else none
theorem isDct_ok {K : PySem.W.Frag} {g : G} {H : Hp} {σ : L2.St} {sl : SL} {v : V} {t : TV} {S : List Addr} (st : Sta K g H σ sl) (r : RTV K g H σ v t S) (h : isDct sl t = true) : ∃ a, v = .ref a ∧ IsD H a := by
  unfold isDct at h
  split at h
  · rename_i e
    obtain ⟨T, q⟩ := vw_ok st r e
    cases q with
    | dK h1 _ _ => exact ⟨_, rfl, .inl ⟨_, .inl h1⟩⟩
  · rename_i e
    obtain ⟨T, q⟩ := vw_ok st r e
    cases q with
    | dT h1 _ _ => exact ⟨_, rfl, .inr ⟨_, .inl h1⟩⟩
  · cases h
section
variable {X : Cx} {W : WX} {o e f : Expr} {apos cpos : Pos} {O A B : AE}
theorem e_get2 (hu : X.A.units + 65 < cLine) (ho : PE X o (eL X.K W O)) (he : PE X e (eL X.K W A)) (hf : PE X f (eL X.K W B)) (m : M2 X o "get" apos e f cpos := by exact ⟨by rfl, by rfl, by rfl, by rfl⟩) : PE X (.Call (.Attribute o "get" apos) [e, f] [] cpos) (eL X.K W (aGet2 O A B)) :=
  PEm (pe_dget2 (by omega) ho he hf m) fun σ H Q ⟨g, sl, res, st, e, k⟩ => run1 (R := RV X.K) st e k.x fun tx s1 g1 H1 x S e1 n1 st1 r1 f1 => by
    split at e1
    · rename_i hd
      obtain ⟨a, rfl, hi⟩ := isDct_ok st1 r1 hd
      refine ⟨a, rfl, hi, run1 (R := RV X.K) st1 e1 (hxm k.x n1) fun ty s2 g2 H2 y T e2 n2 st2 r2 f2 => run1 (R := RV X.K) st2 e2 (hxm k.x (n1.trans n2)) fun tz s3 g3 H3 z U e3 n3 st3 r3 f3 => ?_⟩
      split at e3
      · rename_i d e'
        obtain ⟨r, e4, rfl⟩ := Option.map_eq_some_iff.mp e3
        obtain ⟨mv, e5, e6⟩ := Option.bind_eq_some_iff.mp e4
        obtain ⟨V', q⟩ := vw_ok st3 (r1.mono (n2.trans n3)) e5
        unfold getR at e6
        split at e6
        · rename_i x' e7
          cases e6
          obtain ⟨a', ea, ⟨_, h2⟩ | ⟨u, m', W', h1, h2, h3⟩⟩ := dGet_ok st3.ex q (r2.mono n3).2 e7
          · cases h2
          · cases ea; cases h2
            cases h3 with
            | d h3 => exact ⟨some u, h1, k.scal (n1.trans (n2.trans n3)) st3 h3⟩
        · rename_i e7
          cases e6
          obtain ⟨a', ea, ⟨h1, h2⟩ | ⟨u, m', W', h1, h2, h3⟩⟩ := dGet_ok st3.ex q (r2.mono n3).2 e7
          · cases ea
            exact ⟨none, h1, k.scal (n1.trans (n2.trans n3)) st3 r3.2⟩
          · cases h2
        · cases e6
      · cases e3
    · cases e1
theorem e_get1 (hu : X.A.units + 65 < cLine) (ho : PE X o (eL X.K W O)) (he : PE X e (eL X.K W A)) (m : M1 X o "get" apos e cpos := by exact ⟨by rfl, by rfl, by rfl, by rfl⟩) : PE X (.Call (.Attribute o "get" apos) [e] [] cpos) (eL X.K W (aGet1 O A)) :=
  PEm (pe_dget1 (by omega) ho he m) fun σ H Q ⟨g, sl, res, st, e, k⟩ => run1 (R := RV X.K) st e k.x fun tx s1 g1 H1 x S e1 n1 st1 r1 f1 => by
    split at e1
    · rename_i hd
      obtain ⟨a, rfl, hi⟩ := isDct_ok st1 r1 hd
      refine ⟨a, rfl, hi, run1 (R := RV X.K) st1 e1 (hxm k.x n1) fun ty s3 g3 H3 y T e3 n3 st3 r2 f2 => ?_⟩
      split at e3
      · rename_i d
        obtain ⟨r, e4, rfl⟩ := Option.map_eq_some_iff.mp e3
        obtain ⟨mv, e5, e6⟩ := Option.bind_eq_some_iff.mp e4
        obtain ⟨V', q⟩ := vw_ok st3 (r1.mono n3) e5
        unfold getR at e6
        split at e6
        · rename_i x' e7
          cases e6
          obtain ⟨a', ea, ⟨_, h2⟩ | ⟨u, m', W', h1, h2, h3⟩⟩ := dGet_ok st3.ex q r2.2 e7
          · cases h2
          · cases ea; cases h2
            cases h3 with
            | d h3 => exact ⟨some u, h1, k.scal (n1.trans n3) st3 h3⟩
        · rename_i e7
          cases e6
          obtain ⟨a', ea, ⟨h1, h2⟩ | ⟨u, m', W', h1, h2, h3⟩⟩ := dGet_ok st3.ex q r2.2 e7
          · cases ea
            exact ⟨none, h1, k.scal (n1.trans n3) st3 .non⟩
          · cases h2
        · cases e6
      · cases e3
    · cases e1
end
/-! int of a number, a truth value, a text -/
def oIntA : O1 := fun sl ts => match oInt sl ts with
  | some x => some x
  | none => oIntS sl ts
theorem call_intA {X : Cx} : CallR X (.type "int") (fun xs H Q => ((∃ i, xs = [.int i] ∧ Q (.int i) H) ∨ ∃ k, xs = [.bl k] ∧ Q (.int (if k then 1 else 0)) H) ∨ ∃ a n, xs = [.str a] ∧ PySem.intText? a = some n ∧ a.length ≤ 640 ∧ Q (.int n) H) := call_or call_int1 call_int_str
theorem co_intA {K : PySem.W.Frag} : CoC K (fun xs H Q => ((∃ i, xs = [.int i] ∧ Q (.int i) H) ∨ ∃ k, xs = [.bl k] ∧ Q (.int (if k then 1 else 0)) H) ∨ ∃ a n, xs = [.str a] ∧ PySem.intText? a = some n ∧ a.length ≤ 640 ∧ Q (.int n) H) oIntA := co_or co_int co_intS
end Y

set_option autoImplicit false
/-! Layer Y, part S: reading bodies by rewriting. -/
namespace Y
open PySem PySem.Spec PyProof.Rows L2 Evl PySem.W
section
variable {s s1 : SL} {A B O I : AE} {S T : AS} {C D' : AT} {R : AA} {L U : AO} {x y : TV} {o : O2} {p1 : O1} {om : OM}
theorem bd_okN {α β : Type} {a : α} {s : SL} {f : α → SL → Option (Res β)} : bd (some (.ok a s)) f = f a s := Eq.trans rfl rfl
theorem sb_okN {α : Type} {a : α} {s : SL} {f : α → SL → Option SR} : sb (some (.ok a s)) f = f a s := Eq.trans rfl rfl
def seqK (r : Option SR) (B : AS) : Option SR := match r with
  | some (.nx s1) => B s1
  | r => r
theorem aSeq_ap : aSeq S T s = seqK (S s) T := Eq.trans rfl rfl
theorem seqK_nx : seqK (some (.nx s)) T = T s := Eq.trans rfl rfl
theorem seqK_rt : seqK (some (.rt x s)) T = some (.rt x s) := Eq.trans rfl rfl
theorem seqK_bk : seqK (some (.bk s)) T = some (.bk s) := Eq.trans rfl rfl
theorem seqK_ct : seqK (some (.ct s)) T = some (.ct s) := Eq.trans rfl rfl
theorem seqK_none : seqK none T = none := Eq.trans rfl rfl
theorem aNext_ap : aNext s = some (.nx s) := Eq.trans rfl rfl
theorem aBrk_ap : aBrk s = some (.bk s) := Eq.trans rfl rfl
theorem aCont_ap : aCont s = some (.ct s) := Eq.trans rfl rfl
theorem aNever_ap : aNever s = none := Eq.trans rfl rfl
def nxR : Option SL → Option SR
  | some s => some (.nx s)
  | none => none
theorem nxR_some : nxR (some s) = some (.nx s) := Eq.trans rfl rfl
theorem nxR_none : nxR none = none := Eq.trans rfl rfl
theorem map_nx (r : Option SL) : r.map SR.nx = nxR r := by cases r <;> rfl
def asgK (Ga : AG) (t : TV) (s : SL) : Option SR := nxR (Ga t s)
theorem aAsg_ap {Ga : AG} : aAsg A Ga s = sb (A s) (asgK Ga) := by
  unfold aAsg asgK
  cases A s with
  | none => rfl
  | some r => cases r <;> first | rfl | exact map_nx _
theorem asgK_ap {Ga : AG} : asgK Ga x s = nxR (Ga x s) := Eq.trans rfl rfl
def dropK (t : TV) (s : SL) : Option SR := some (.nx s)
theorem aDrop_ap : aDrop A s = sb (A s) dropK := Eq.trans rfl rfl
theorem dropK_ap : dropK x s = some (.nx s) := Eq.trans rfl rfl
def ifK (S T : AS) (b : Bool) (s : SL) : Option SR := if b = true then S s else T s
theorem aIfS_ap : aIfS C S T s = sb (C s) (ifK S T) := Eq.trans rfl rfl
theorem ifK_t : ifK S T true s = S s := Eq.trans rfl rfl
theorem ifK_f : ifK S T false s = T s := Eq.trans rfl rfl
def rtR : Option (TV × SL) → Option SR
  | some (t, s) => some (.rt t s)
  | none => none
theorem rtR_some : rtR (some (x, s)) = some (.rt x s) := Eq.trans rfl rfl
def retK (t : TV) (s : SL) : Option SR := rtR (rtv s t)
theorem aRet_ap : aRet A s = sb (A s) retK := by
  unfold aRet retK
  have e : ∀ r : Option (TV × SL), (r.map fun r => SR.rt r.1 r.2) = rtR r := fun r => by cases r <;> rfl
  cases A s with
  | none => rfl
  | some r => cases r <;> first | rfl | exact e _
theorem retK_ap : retK x s = rtR (rtv s x) := Eq.trans rfl rfl
theorem aRetN_ap : aRetN s = some (.rt (.d .none) s) := Eq.trans rfl rfl
theorem aKill_ap {is : List Nat} : aKill is s = some (.nx (is.foldl (fun s i => s.set i none) s)) := Eq.trans rfl rfl
/-! values -/
def mapR : Option (TV × SL) → Option (Res TV)
  | some (t, s) => some (.ok t s)
  | none => none
theorem mapR_some : mapR (some (x, s)) = some (.ok x s) := Eq.trans rfl rfl
theorem mapR_none : mapR none = none := Eq.trans rfl rfl
theorem map_res (r : Option (TV × SL)) : (r.map fun r => Res.ok r.1 r.2) = mapR r := by cases r <;> rfl
theorem bd_fun {α β : Type} {f g : α → SL → Option (Res β)} (h : ∀ a s, f a s = g a s) (r : Option (Res α)) : bd r f = bd r g := by
  cases r with
  | none => rfl
  | some r => cases r <;> first | rfl | exact h _ _
theorem aC_ap {d : PyData} : aC d s = some (.ok (.d d) s) := Eq.trans rfl rfl
theorem aXT_ap {ds : List PyData} : aXT ds s = some (.ok (.c ds) s) := Eq.trans rfl rfl
def varK (i : Nat) (s : SL) : Option (Option SV) → Option (Res TV)
  | some (some (.d x)) => some (.ok (.d x) s)
  | some (some (.x ds)) => some (.ok (.x ds) s)
  | some (some (.w _)) => some (.ok (.var i) s)
  | some (some (.p _)) => some (.ok (.var i) s)
  | some (some (.k _)) => some (.ok (.var i) s)
  | _ => none
theorem aVar_ap {i : Nat} : aVar i s = varK i s s[i]? := by
  unfold aVar varK
  split <;> first | rfl | (rename_i h1; split <;> first | rfl | (rename_i h; simp_all))
theorem varK_d {i : Nat} {d : PyData} : varK i s (some (some (.d d))) = some (.ok (.d d) s) := Eq.trans rfl rfl
theorem varK_x {i : Nat} {ds : List PyData} : varK i s (some (some (.x ds))) = some (.ok (.x ds) s) := Eq.trans rfl rfl
theorem varK_w {i : Nat} {m : MV} : varK i s (some (some (.w m))) = some (.ok (.var i) s) := Eq.trans rfl rfl
theorem varK_p {i : Nat} {m : MV} : varK i s (some (some (.p m))) = some (.ok (.var i) s) := Eq.trans rfl rfl
theorem varK_k {i : Nat} {m : MV} : varK i s (some (some (.k m))) = some (.ok (.var i) s) := Eq.trans rfl rfl
def opK2 (o : O2) (x y : TV) (s : SL) : Option (Res TV) := mapR (o s x y)
def opK (o : O2) (B : AE) (x : TV) (s : SL) : Option (Res TV) := bd (B s) (opK2 o x)
theorem aOp_ap : aOp o A B s = bd (A s) (opK o B) := bd_fun (fun x s => bd_fun (fun y s => map_res _) _) _
theorem opK_ap : opK o B x s = bd (B s) (opK2 o x) := Eq.trans rfl rfl
theorem opK2_ap : opK2 o x y s = mapR (o s x y) := Eq.trans rfl rfl
def fzK (t : TV) (s : SL) : Option (Res TV) := (fz s t).map fun r => .ok (.d r.1) r.2
theorem aFz_ap : aFz A s = bd (A s) fzK := Eq.trans rfl rfl
theorem aUn_ap {f : Int → Int} : aUn f A s = bd (A s) (fun x s1 => match x with
  | .d (.int i) => some (.ok (.d (.int (f i))) s1)
  | _ => none) := rfl
/-! tests -/
def bK (t : TV) (s : SL) : Option (Res Bool) := match t with
  | .d (.bool b) => some (.ok b s)
  | _ => none
theorem aB_ap : aB A s = bd (A s) bK := Eq.trans rfl rfl
theorem bK_ap {b : Bool} : bK (.d (.bool b)) s = some (.ok b s) := Eq.trans rfl rfl
def andK (T : AT) (b : Bool) (s : SL) : Option (Res Bool) := if b = true then T s else some (.ok false s)
theorem aAnd_ap : aAnd C D' s = bd (C s) (andK D') := Eq.trans rfl rfl
theorem andK_t : andK D' true s = D' s := Eq.trans rfl rfl
theorem andK_f : andK D' false s = some (.ok false s) := Eq.trans rfl rfl
def orK (T : AT) (b : Bool) (s : SL) : Option (Res Bool) := if b = true then some (.ok true s) else T s
theorem aOr_ap : aOr C D' s = bd (C s) (orK D') := Eq.trans rfl rfl
theorem orK_t : orK D' true s = some (.ok true s) := Eq.trans rfl rfl
theorem orK_f : orK D' false s = D' s := Eq.trans rfl rfl
def notK (b : Bool) (s : SL) : Option (Res Bool) := some (.ok (!b) s)
theorem aNot_ap : aNot C s = bd (C s) notK := Eq.trans rfl rfl
theorem notK_ap {b : Bool} : notK b s = some (.ok (!b) s) := Eq.trans rfl rfl
def truK (t : TV) (s : SL) : Option (Res Bool) := (truA s t).map fun b => .ok b s
theorem aTru_ap : aTru A s = bd (A s) truK := Eq.trans rfl rfl
theorem truK_ap : truK x s = (truA s x).map fun b => .ok b s := Eq.trans rfl rfl
theorem aYes_ap : aYes s = some (.ok true s) := Eq.trans rfl rfl
def andVK (B : AE) (x : TV) (s : SL) : Option (Res TV) := match x with
  | .d (.bool b) => if b = true then B s else some (.ok (.d (.bool false)) s)
  | _ => none
theorem aAndV_ap : aAndV A B s = bd (A s) (andVK B) := Eq.trans rfl rfl
theorem andVK_t : andVK B (.d (.bool true)) s = B s := Eq.trans rfl rfl
theorem andVK_f : andVK B (.d (.bool false)) s = some (.ok (.d (.bool false)) s) := Eq.trans rfl rfl
def orVK (B : AE) (x : TV) (s : SL) : Option (Res TV) := match x with
  | .d (.bool b) => if b = true then some (.ok (.d (.bool true)) s) else B s
  | _ => none
theorem aOrV_ap : aOrV A B s = bd (A s) (orVK B) := Eq.trans rfl rfl
theorem orVK_t : orVK B (.d (.bool true)) s = some (.ok (.d (.bool true)) s) := Eq.trans rfl rfl
theorem orVK_f : orVK B (.d (.bool false)) s = B s := Eq.trans rfl rfl
def notVK (x : TV) (s : SL) : Option (Res TV) := match x with
  | .d (.bool b) => some (.ok (.d (.bool (!b))) s)
  | _ => none
theorem aNotV_ap : aNotV A s = bd (A s) notVK := Eq.trans rfl rfl
theorem notVK_ap {b : Bool} : notVK (.d (.bool b)) s = some (.ok (.d (.bool (!b))) s) := Eq.trans rfl rfl
def ifEK (A B : AE) (b : Bool) (s : SL) : Option (Res TV) := if b = true then A s else B s
theorem aIf_ap : aIf C A B s = bd (C s) (ifEK A B) := Eq.trans rfl rfl
theorem ifEK_t : ifEK A B true s = A s := Eq.trans rfl rfl
theorem ifEK_f : ifEK A B false s = B s := Eq.trans rfl rfl
/-! arguments -/
theorem aNil_ap : aNil s = some (.ok [] s) := Eq.trans rfl rfl
def consK2 (x : TV) (xs : List TV) (s : SL) : Option (Res (List TV)) := some (.ok (x :: xs) s)
def consK (R : AA) (x : TV) (s : SL) : Option (Res (List TV)) := bd (R s) (consK2 x)
theorem aCons_ap : aCons A R s = bd (A s) (consK R) := Eq.trans rfl rfl
theorem consK_ap : consK R x s = bd (R s) (consK2 x) := Eq.trans rfl rfl
theorem consK2_ap {xs : List TV} : consK2 x xs s = some (.ok (x :: xs) s) := Eq.trans rfl rfl
def cbK (o : O1) (xs : List TV) (s : SL) : Option (Res TV) := mapR (o s xs)
theorem aCB_ap : aCB p1 R s = bd (R s) (cbK p1) := bd_fun (fun x s => map_res _) _
theorem cbK_ap {xs : List TV} : cbK p1 xs s = mapR (p1 s xs) := Eq.trans rfl rfl
theorem aNoPart_ap : aNoPart s = some (.ok none s) := Eq.trans rfl rfl
def partK (x : TV) (s : SL) : Option (Res (Option Int)) := match x with
  | .d (.int i) => some (.ok (some i) s)
  | _ => none
theorem aPart_ap : aPart A s = bd (A s) partK := Eq.trans rfl rfl
theorem partK_ap {i : Int} : partK (.d (.int i)) s = some (.ok (some i) s) := Eq.trans rfl rfl
def slK3 (x : TV) (lo hi : Option Int) (s : SL) : Option (Res TV) := mapR (oSl s x lo hi)
def slK2 (U : AO) (x : TV) (lo : Option Int) (s : SL) : Option (Res TV) := bd (U s) (slK3 x lo)
def slK (L U : AO) (x : TV) (s : SL) : Option (Res TV) := bd (L s) (slK2 U x)
theorem aSl_ap : aSl A L U s = bd (A s) (slK L U) := bd_fun (fun x s => bd_fun (fun lo s => bd_fun (fun hi s => map_res _) _) _) _
theorem slK_ap : slK L U x s = bd (L s) (slK2 U x) := Eq.trans rfl rfl
theorem slK2_ap {lo : Option Int} : slK2 U x lo s = bd (U s) (slK3 x lo) := Eq.trans rfl rfl
theorem slK3_ap {lo hi : Option Int} : slK3 x lo hi s = mapR (oSl s x lo hi) := Eq.trans rfl rfl
/-! methods, stores -/
def bmK2 (o : OM) (x : TV) (xs : List TV) (s : SL) : Option (Res TV) := mapR (o s x xs)
def bmK (T : String) (o : OM) (R : AA) (x : TV) (s : SL) : Option (Res TV) := if tyA T s x = true then bd (R s) (bmK2 o x) else none
theorem aBM_ap {T : String} : aBM T om A R s = bd (A s) (bmK T om R) := bd_fun (fun x s => by
  show (if tyA T s x = true then bd (R s) _ else none) = if tyA T s x = true then bd (R s) (bmK2 om x) else none
  rw [bd_fun (fun xs s => map_res (om s x xs)) (R s)]
  rfl) _
theorem bmK_ap {T : String} : bmK T om R x s = if tyA T s x = true then bd (R s) (bmK2 om x) else none := Eq.trans rfl rfl
theorem bmK2_ap {xs : List TV} : bmK2 om x xs s = mapR (om s x xs) := Eq.trans rfl rfl
def bmK0 (T : String) (o : OM) (x : TV) (s : SL) : Option (Res TV) := if tyA T s x = true then mapR (o s x []) else none
theorem aBM0_ap {T : String} : aBM0 T om A s = bd (A s) (bmK0 T om) := bd_fun (fun x s => by
  show (if tyA T s x = true then (om s x []).map (fun r => Res.ok r.1 r.2) else none) = if tyA T s x = true then mapR (om s x []) else none
  rw [map_res]) _
theorem bmK0_ap {T : String} : bmK0 T om x s = if tyA T s x = true then mapR (om s x []) else none := Eq.trans rfl rfl
def setF (tv to ti : TV) (s : SL) : Option SR := match ti with
  | .d (.int n) => (toM s tv).bind fun r => (pl r.2 to).bind fun q => match q.m with
    | .lst ms => (ixN ms.length n).map fun j => .nx (q.w (.lst (ms.set j r.1)))
    | _ => none
  | _ => none
def dputF (tv to ti : TV) (s : SL) : Option SR := match ti with
  | .d d => (toM s tv).bind fun r => (pl r.2 to).bind fun q => (dPut q.m d r.1).map fun m' => .nx (q.w m')
  | _ => none
def putF (tv to ti : TV) (s : SL) : Option SR := match setF tv to ti s with
  | some r => some r
  | none => dputF tv to ti s
def putK2 (tv to ti : TV) (s : SL) : Option SR := putF tv to ti s
def putK1 (I : AE) (tv to : TV) (s : SL) : Option SR := sb (I s) (putK2 tv to)
def putK (O I : AE) (tv : TV) (s : SL) : Option SR := sb (O s) (putK1 I tv)
theorem aPut_ap : aPut A O I s = sb (A s) (putK O I) := by
  unfold aPut aSetL aDPut
  cases A s with
  | none => rfl
  | some r =>
    cases r with
    | ex xa s1 => rfl
    | ok tv s1 =>
      show _ = putK O I tv s1
      unfold putK
      dsimp only [sb]
      cases O s1 with
      | none => rfl
      | some r =>
        cases r with
        | ex xa s2 => rfl
        | ok to s2 =>
          unfold putK1
          dsimp only [sb]
          cases I s2 with
          | none => rfl
          | some r =>
            cases r with
            | ex xa s3 => rfl
            | ok ti s3 => rfl
theorem putK_ap {tv : TV} : putK O I tv s = sb (O s) (putK1 I tv) := Eq.trans rfl rfl
theorem putK1_ap {tv to : TV} : putK1 I tv to s = sb (I s) (putK2 tv to) := Eq.trans rfl rfl
theorem putK2_ap {tv to ti : TV} : putK2 tv to ti s = putF tv to ti s := Eq.trans rfl rfl
/-! loops, calls -/
def forK (Ga : AG) (S : AS) (p : List PyData × Option Nat) (s : SL) : Option SR := lockd p.2 (forGo Ga S p.1) s
theorem aFor_ap {J : AI} {Ga : AG} : aFor J Ga S s = sb (J s) (forK Ga S) := Eq.trans rfl rfl
theorem forK_n {Ga : AG} {ds : List PyData} : forK Ga S (ds, none) s = forGo Ga S ds s := Eq.trans rfl rfl
theorem forK_s {Ga : AG} {ds : List PyData} {i : Nat} : forK Ga S (ds, some i) s = lockd (some i) (forGo Ga S ds) s := Eq.trans rfl rfl
noncomputable def rngK1 (ts : List TV) (s : SL) : Option (Res (List PyData × Option Nat)) := match ts with
  | [.d (.int j)] => @ite _ (-(2 ^ 62) ≤ j ∧ j < 2 ^ 62) (Classical.propDecidable _) (some (.ok (rng 0 j.toNat, none) s)) none
  | _ => none
theorem aRng1_ap : aRng1 R s = bd (R s) rngK1 := bd_fun (fun ts s => by
  unfold rngK1
  split
  · rename_i j
    by_cases h : -(2 ^ 62) ≤ j ∧ j < 2 ^ 62
    · first | (rw [if_pos h]; done) | (rw [if_pos h, if_pos h]; done) | (rw [if_pos h]; dsimp only; rw [if_pos h])
    · first | (rw [if_neg h]; done) | (rw [if_neg h, if_neg h]; done) | (rw [if_neg h]; dsimp only; rw [if_neg h])
  · rename_i hne
    first
    | rfl
    | (split
       · rename_i e; exact absurd rfl (hne _)
       · rfl)) (R s)
theorem rngK1_ap {j : Int} (h : -(2 ^ 62) ≤ j ∧ j < 2 ^ 62) : rngK1 [.d (.int j)] s = some (.ok (rng 0 j.toNat, none) s) := if_pos h
noncomputable def rngK2 (ts : List TV) (s : SL) : Option (Res (List PyData × Option Nat)) := match ts with
  | [.d (.int i), .d (.int j)] => @ite _ (-(2 ^ 62) ≤ i ∧ i < 2 ^ 62 ∧ -(2 ^ 62) ≤ j ∧ j < 2 ^ 62) (Classical.propDecidable _) (some (.ok (rng i (j - i).toNat, none) s)) none
  | _ => none
theorem aRng2_ap : aRng2 R s = bd (R s) rngK2 := bd_fun (fun ts s => by
  unfold rngK2
  split
  · rename_i i j
    by_cases h : -(2 ^ 62) ≤ i ∧ i < 2 ^ 62 ∧ -(2 ^ 62) ≤ j ∧ j < 2 ^ 62
    · first | (rw [if_pos h]; done) | (rw [if_pos h, if_pos h]; done) | (rw [if_pos h]; dsimp only; rw [if_pos h])
    · first | (rw [if_neg h]; done) | (rw [if_neg h, if_neg h]; done) | (rw [if_neg h]; dsimp only; rw [if_neg h])
  · rename_i hne
    first
    | rfl
    | (split
       · rename_i e; exact absurd rfl (hne _ _)
       · rfl)) (R s)
theorem rngK2_ap {i j : Int} (h : -(2 ^ 62) ≤ i ∧ i < 2 ^ 62 ∧ -(2 ^ 62) ≤ j ∧ j < 2 ^ 62) : rngK2 [.d (.int i), .d (.int j)] s = some (.ok (rng i (j - i).toNat, none) s) := if_pos h
def itK (t : TV) (s : SL) : Option (Res (List PyData × Option Nat)) := aIt (fun _ => some (.ok t s)) s
theorem aIt_ap : aIt A s = bd (A s) itK := by
  unfold aIt
  cases A s with
  | none => rfl
  | some r => cases r <;> rfl
theorem itK_l {ds : List PyData} : itK (.d (.list ds)) s = some (.ok (ds, none) s) := Eq.trans rfl rfl
theorem itK_t {ds : List PyData} : itK (.d (.tuple ds)) s = some (.ok (ds, none) s) := Eq.trans rfl rfl
theorem itK_s {z : Str} : itK (.d (.str z)) s = some (.ok (z.cps.toList.map fun c => .str ⟨#[c]⟩, none) s) := Eq.trans rfl rfl
theorem itK_x {ds : List PyData} : itK (.x ds) s = some (.ok (ds, none) s) := Eq.trans rfl rfl
theorem itK_c {ds : List PyData} : itK (.c ds) s = some (.ok (ds, none) s) := Eq.trans rfl rfl
theorem itK_f {ds : List PyData} : itK (.t (.lst (ds.map MV.d))) s = some (.ok (ds, none) s) := by
  show (match frz (.lst (ds.map MV.d)) with
    | some (.list ds) => some (Res.ok (ds, none) s)
    | _ => none) = _
  rw [frz_lst]
def callK (exc : Bool) (den : Den) (ms : List Mo) (ts : List TV) (s1 : SL) : Option (Res TV) := match unsub s1.length ts with
  | none => callT exc den ms ts s1
  | some (ts', q) => (kid q.m q.j).bind fun c => (callT exc den ms ts' (s1 ++ [some (.w c)])).bind (backC s1.length q)
theorem aCallG_ap {exc : Bool} {den : Den} {ms : List Mo} : aCallG exc den ms R s = bd (R s) (callK exc den ms) := Eq.trans rfl rfl
end
/-! calls: the parts -/
theorem callT_ok0 {exc : Bool} {den : Den} {ms : List Mo} {ts : List TV} {s1 s2 s3 : SL} {xs : List PyData} {as : List SV} {t : TV} {outs : SL} (h1 : argF ms ts s1 = some (xs, s2)) (h2 : argM s2 ms ts xs = some as) (h3 : den as = some (.ok t outs)) (h4 : argB ms outs s2 = some s3) : callT exc den ms ts s1 = some (.ok t s3) := by
  unfold callT
  rw [h1]
  dsimp only [Option.bind]
  rw [h2]
  dsimp only [Option.bind]
  rw [h3]
  dsimp only
  rw [h4]
  rfl
theorem callK_ok {exc : Bool} {den : Den} {ms : List Mo} {ts : List TV} {s1 s2 s3 : SL} {xs : List PyData} {as : List SV} {t : TV} {outs : SL} (h0 : unsub s1.length ts = none) (h1 : argF ms ts s1 = some (xs, s2)) (h2 : argM s2 ms ts xs = some as) (h3 : den as = some (.ok t outs)) (h4 : argB ms outs s2 = some s3) : callK exc den ms ts s1 = some (.ok t s3) := by
  unfold callK
  rw [h0]
  exact callT_ok0 h1 h2 h3 h4
end Y

/-! Layer Y, part U: operators on concrete values. -/
namespace Y
open PySem PySem.Spec PyProof.Rows L2 Evl PySem.W
section
variable {s : SL} {i j n : Nat} {q : Int} {ms : List MV} {m : MV} {d e : PyData}
/-! places -/
def lf : Option MV → Option PyData
  | some (.d d) => some d
  | _ => none
theorem lf_d : lf (some (.d d)) = some d := Eq.trans rfl rfl
theorem lfAt_nat (n : Nat) : lfAt ms (n : Int) = lf ms[n]? := by
  unfold lfAt
  by_cases h : n < ms.length
  · rw [ixN_nat h]
    show (match ms[n]? with
      | some (.d d) => some d
      | _ => none) = lf ms[n]?
    unfold lf
    rfl
  · have e : ixN ms.length (n : Int) = none := by
      unfold ixN
      rw [if_pos (Int.natCast_nonneg n), if_neg (by omega)]
    rw [e, List.getElem?_eq_none (by omega)]
    rfl
theorem lfAt_lit (n : Nat) : lfAt ms (@OfNat.ofNat Int n instOfNat) = lf ms[n]? := lfAt_nat n
def stL (ms : List MV) (n : Int) (m : MV) : Option (List MV) := (ixN ms.length n).map fun j => ms.set j m
theorem stL_nat (n : Nat) (h : n < ms.length) : stL ms (n : Int) m = some (ms.set n m) := by
  unfold stL
  rw [ixN_nat h]
  rfl
theorem stL_lit (n : Nat) (h : n < ms.length) : stL ms (@OfNat.ofNat Int n instOfNat) m = some (ms.set n m) := stL_nat n h
def ixL (s : SL) (p : Bool) (i : Nat) (ms : List MV) (n : Int) : Option PyData → Option (TV × SL)
  | some d => some (.d d, s)
  | none => (ixN ms.length n).bind fun j => (ms[j]?).map fun _ => (.sub p i j (.lst ms), s.set i none)
theorem ixL_some {p : Bool} : ixL s p i ms q (some d) = some (.d d, s) := Eq.trans rfl rfl
def ixV (s : SL) (i : Nat) (n : Int) : Option (Option SV) → Option (TV × SL)
  | some (some (.w (.lst ms))) => ixL s false i ms n (lfAt ms n)
  | some (some (.p (.lst ms))) => ixL s true i ms n (lfAt ms n)
  | some (some (.k (.lst ms))) => (lfAt ms n).map fun d => (.d d, s)
  | _ => oIx2 s (.var i) (.d (.int n))
theorem oIx2_var : oIx2 s (.var i) (.d (.int q)) = ixV s i q s[i]? := by
  cases es : s[i]? with
  | none => rfl
  | some o =>
    cases o with
    | none => rfl
    | some v =>
      cases v with
      | d _ => rfl
      | h => rfl
      | x _ => rfl
      | w m =>
        cases m with
        | d _ => rfl
        | dK _ => rfl
        | dT _ => rfl
        | lst ms =>
          have ev : vw s (.var i) = some (.lst ms) := by unfold vw; dsimp only; rw [es]
          show oIx1 s (.var i) (.d (.int q)) = ixL s false i ms q (lfAt ms q)
          have e1 : isDct s (.var i) = false := by unfold isDct; rw [ev]
          have e2 : oIx s (.var i) (.d (.int q)) = (lfAt ms q).map fun d => (.d d, s) := by
            show (match seqTd s (.var i) with
              | some ds => (atI ds q).map fun d => (TV.d d, s)
              | none => ((seqL s (.var i)).bind fun ms => lfAt ms q).map fun d => (.d d, s)) = _
            have e3 : seqTd s (.var i) = none := by unfold seqTd; rw [ev]
            have e4 : seqL s (.var i) = some ms := by unfold seqL; dsimp only; rw [ev]
            rw [e3, e4]
            rfl
          unfold oIx1
          rw [e1]
          show oIxS s (.var i) (.d (.int q)) = _
          unfold oIxS
          rw [e2]
          cases el : lfAt ms q with
          | some d => rfl
          | none =>
            show oSubL s (.var i) (.d (.int q)) = _
            unfold oSubL
            have ew : wAt s i = some (.lst ms) := by unfold wAt; rw [es]
            have ep : isP s i = false := by unfold isP; rw [es]
            dsimp only
            rw [ew, ep]
            rfl
      | p m =>
        cases m with
        | d _ => rfl
        | dK _ => rfl
        | dT _ => rfl
        | lst ms =>
          have ev : vw s (.var i) = some (.lst ms) := by unfold vw; dsimp only; rw [es]
          show oIx1 s (.var i) (.d (.int q)) = ixL s true i ms q (lfAt ms q)
          have e1 : isDct s (.var i) = false := by unfold isDct; rw [ev]
          have e2 : oIx s (.var i) (.d (.int q)) = (lfAt ms q).map fun d => (.d d, s) := by
            show (match seqTd s (.var i) with
              | some ds => (atI ds q).map fun d => (TV.d d, s)
              | none => ((seqL s (.var i)).bind fun ms => lfAt ms q).map fun d => (.d d, s)) = _
            have e3 : seqTd s (.var i) = none := by unfold seqTd; rw [ev]
            have e4 : seqL s (.var i) = some ms := by unfold seqL; dsimp only; rw [ev]
            rw [e3, e4]
            rfl
          unfold oIx1
          rw [e1]
          show oIxS s (.var i) (.d (.int q)) = _
          unfold oIxS
          rw [e2]
          cases el : lfAt ms q with
          | some d => rfl
          | none =>
            show oSubL s (.var i) (.d (.int q)) = _
            unfold oSubL
            have ew : wAt s i = some (.lst ms) := by unfold wAt; rw [es]
            have ep : isP s i = true := by unfold isP; rw [es]
            dsimp only
            rw [ew, ep]
            rfl
      | k m =>
        cases m with
        | d _ => rfl
        | dK _ => rfl
        | dT _ => rfl
        | lst ms =>
          have ev : vw s (.var i) = some (.lst ms) := by unfold vw; dsimp only; rw [es]
          show oIx1 s (.var i) (.d (.int q)) = (lfAt ms q).map fun d => (.d d, s)
          have e1 : isDct s (.var i) = false := by unfold isDct; rw [ev]
          have e2 : oIx s (.var i) (.d (.int q)) = (lfAt ms q).map fun d => (.d d, s) := by
            show (match seqTd s (.var i) with
              | some ds => (atI ds q).map fun d => (TV.d d, s)
              | none => ((seqL s (.var i)).bind fun ms => lfAt ms q).map fun d => (.d d, s)) = _
            have e3 : seqTd s (.var i) = none := by unfold seqTd; rw [ev]
            have e4 : seqL s (.var i) = some ms := by unfold seqL; dsimp only; rw [ev]
            rw [e3, e4]
            rfl
          unfold oIx1
          rw [e1]
          show oIxS s (.var i) (.d (.int q)) = _
          unfold oIxS
          rw [e2]
          cases el : lfAt ms q with
          | some d => rfl
          | none =>
            show oSubL s (.var i) (.d (.int q)) = _
            unfold oSubL
            have ew : wAt s i = none := by unfold wAt; rw [es]
            dsimp only
            rw [ew]
            rfl
theorem ixV_w : ixV s i q (some (some (.w (.lst ms)))) = ixL s false i ms q (lfAt ms q) := Eq.trans rfl rfl
theorem ixV_p : ixV s i q (some (some (.p (.lst ms)))) = ixL s true i ms q (lfAt ms q) := Eq.trans rfl rfl
theorem ixV_k : ixV s i q (some (some (.k (.lst ms)))) = (lfAt ms q).map fun d => (.d d, s) := Eq.trans rfl rfl
/-- of a list that is data -/
theorem oIx2_l {ds : List PyData} : oIx2 s (.d (.list ds)) (.d (.int q)) = (atI ds q).map fun d => (.d d, s) := by
  have e2 : oIx s (.d (.list ds)) (.d (.int q)) = (atI ds q).map fun d => (.d d, s) := by
    show ((some (ds.map MV.d)).bind fun ms => lfAt ms q).map (fun d => (TV.d d, s)) = _
    show (lfAt (ds.map MV.d) q).map (fun d => (TV.d d, s)) = _
    rw [lfAt_map]
  show oIxS s (.d (.list ds)) (.d (.int q)) = _
  unfold oIxS
  rw [e2]
  cases atI ds q <;> rfl
theorem oIx2_t {ds : List PyData} : oIx2 s (.d (.tuple ds)) (.d (.int q)) = (atI ds q).map fun d => (.d d, s) := by
  show oIxS s (.d (.tuple ds)) (.d (.int q)) = _
  unfold oIxS
  show (match (atI ds q).map (fun d => (TV.d d, s)) with
    | some r => some r
    | none => oSubL s (.d (.tuple ds)) (.d (.int q))) = _
  cases atI ds q <;> rfl
theorem oIx2_s {z : Str} (h : z.length ≤ sizeLine) : oIx2 s (.d (.str z)) (.d (.int q)) = (atI z.cps.toList q).map fun c => (.d (.str ⟨#[c]⟩), s) := by
  show oIxS s (.d (.str z)) (.d (.int q)) = _
  unfold oIxS
  have e : oIx s (.d (.str z)) (.d (.int q)) = (atI z.cps.toList q).map fun c => (.d (.str ⟨#[c]⟩), s) := if_pos h
  rw [e]
  cases atI z.cps.toList q <;> rfl
theorem atI_nat {α : Type} {xs : List α} (n : Nat) : atI xs (n : Int) = xs[n]? := by
  unfold atI
  by_cases h : n < xs.length
  · rw [ixN_nat h]; rfl
  · have e : ixN xs.length (n : Int) = none := by
      unfold ixN
      rw [if_pos (Int.natCast_nonneg n), if_neg (by omega)]
    rw [e, List.getElem?_eq_none (by omega)]
    rfl
theorem atI_lit {α : Type} {xs : List α} (n : Nat) : atI xs (@OfNat.ofNat Int n instOfNat) = xs[n]? := atI_nat n
def putV (s : SL) (i : Nat) (n : Int) (d : PyData) : Option (Option SV) → Option SR
  | some (some (.w (.lst ms))) => nxR ((stL ms n (.d d)).map fun ms' => s.set i (some (.w (.lst ms'))))
  | some (some (.p (.lst ms))) => nxR ((stL ms n (.d d)).map fun ms' => s.set i (some (.p (.lst ms'))))
  | _ => putF (.d d) (.var i) (.d (.int n)) s
theorem putF_var : putF (.d d) (.var i) (.d (.int q)) s = putV s i q d s[i]? := by
  cases es : s[i]? with
  | none => rfl
  | some o =>
    cases o with
    | none => rfl
    | some v =>
      cases v with
      | d _ => rfl
      | h => rfl
      | x _ => rfl
      | k _ => rfl
      | w m =>
        cases m with
        | d _ => rfl
        | dK _ => rfl
        | dT _ => rfl
        | lst ms =>
          have ew : wAt s i = some (.lst ms) := by unfold wAt; rw [es]
          have ep : ∀ m, putAt s i m = s.set i (some (.w m)) := fun m => by unfold putAt; rw [es]
          have e1 : setF (.d d) (.var i) (.d (.int q)) s = (ixN ms.length q).map fun j => .nx (s.set i (some (.w (.lst (ms.set j (.d d)))))) := by
            show ((wAt s i).map fun m => Pl.mk s i m fun x => x).bind (fun q' => match q'.m with
              | .lst ms => (ixN ms.length q).map fun j => SR.nx (q'.w (.lst (ms.set j (.d d))))
              | _ => none) = _
            rw [ew]
            show (ixN ms.length q).map (fun j => SR.nx (putAt s i (.lst (ms.set j (.d d))))) = _
            congr 1
            funext j
            rw [ep]
          have e2 : dputF (.d d) (.var i) (.d (.int q)) s = none := by
            show ((wAt s i).map fun m => Pl.mk s i m fun x => x).bind (fun q' => (dPut q'.m (.int q) (.d d)).map fun m' => SR.nx (q'.w m')) = none
            rw [ew]
            rfl
          unfold putF
          rw [e1, e2]
          show _ = nxR (((ixN ms.length q).map fun j => ms.set j (.d d)).map fun ms' => s.set i (some (.w (.lst ms'))))
          cases ixN ms.length q <;> rfl
      | p m =>
        cases m with
        | d _ => rfl
        | dK _ => rfl
        | dT _ => rfl
        | lst ms =>
          have ew : wAt s i = some (.lst ms) := by unfold wAt; rw [es]
          have ep : ∀ m, putAt s i m = s.set i (some (.p m)) := fun m => by unfold putAt; rw [es]
          have e1 : setF (.d d) (.var i) (.d (.int q)) s = (ixN ms.length q).map fun j => .nx (s.set i (some (.p (.lst (ms.set j (.d d)))))) := by
            show ((wAt s i).map fun m => Pl.mk s i m fun x => x).bind (fun q' => match q'.m with
              | .lst ms => (ixN ms.length q).map fun j => SR.nx (q'.w (.lst (ms.set j (.d d))))
              | _ => none) = _
            rw [ew]
            show (ixN ms.length q).map (fun j => SR.nx (putAt s i (.lst (ms.set j (.d d))))) = _
            congr 1
            funext j
            rw [ep]
          have e2 : dputF (.d d) (.var i) (.d (.int q)) s = none := by
            show ((wAt s i).map fun m => Pl.mk s i m fun x => x).bind (fun q' => (dPut q'.m (.int q) (.d d)).map fun m' => SR.nx (q'.w m')) = none
            rw [ew]
            rfl
          unfold putF
          rw [e1, e2]
          show _ = nxR (((ixN ms.length q).map fun j => ms.set j (.d d)).map fun ms' => s.set i (some (.p (.lst ms'))))
          cases ixN ms.length q <;> rfl
theorem putV_w : putV s i q d (some (some (.w (.lst ms)))) = nxR ((stL ms q (.d d)).map fun ms' => s.set i (some (.w (.lst ms')))) := Eq.trans rfl rfl
theorem putV_p : putV s i q d (some (some (.p (.lst ms)))) = nxR ((stL ms q (.d d)).map fun ms' => s.set i (some (.p (.lst ms')))) := Eq.trans rfl rfl
/-! ==, <, len -/
theorem oEq_int {a b : Int} : oEq false s (.d (.int a)) (.d (.int b)) = some (.d (.bool (decide (a = b))), s) := by
  show (if SeqAt.shaped (.int a) = true ∧ SeqAt.shaped (.int b) = true then some (TV.d (.bool (a == b)), s) else none) = _
  rw [if_pos ⟨by first | rfl | decide, by first | rfl | decide⟩]
  rfl
theorem oNe_int {a b : Int} : oEq true s (.d (.int a)) (.d (.int b)) = some (.d (.bool (!decide (a = b))), s) := by
  show (if SeqAt.shaped (.int a) = true ∧ SeqAt.shaped (.int b) = true then some (TV.d (.bool (!(a == b))), s) else none) = _
  rw [if_pos ⟨by first | rfl | decide, by first | rfl | decide⟩]
  rfl
theorem oLtA_int {a b : Int} : oLtA s (.d (.int a)) (.d (.int b)) = some (.d (.bool (decide (a < b))), s) := Eq.trans rfl rfl
theorem oIntA_int {a : Int} : oIntA s [.d (.int a)] = some (.d (.int a), s) := Eq.trans rfl rfl
theorem oIntA_bool {a : Bool} : oIntA s [.d (.bool a)] = some (.d (.int (if a then 1 else 0)), s) := Eq.trans rfl rfl
theorem oLenV_l {ds : List PyData} : vA oLenA s [.d (.list ds)] = some (.d (.int (ds.length : Nat)), s) := by
  show (some (.d (.int ((ds.map MV.d).length : Nat)), s) : Option (TV × SL)) = _
  rw [List.length_map]
theorem oLenV_t {ds : List PyData} : vA oLenA s [.d (.tuple ds)] = some (.d (.int (ds.length : Nat)), s) := Eq.trans rfl rfl
theorem oI_ok {C : Int → Int → Bool} {f : Int → Int → Int} {a b : Int} (h : C a b = true) : oI C f s (.d (.int a)) (.d (.int b)) = some (.d (.int (f a b)), s) := if_pos h
theorem oI0_ap {f : Int → Int → Int} {a b : Int} : oI0 f s (.d (.int a)) (.d (.int b)) = some (.d (.int (f a b)), s) := Eq.trans rfl rfl
theorem oB0_ap {f : Int → Int → Bool} {a b : Int} : oB0 f s (.d (.int a)) (.d (.int b)) = some (.d (.bool (f a b)), s) := Eq.trans rfl rfl
theorem oAdd_int {a b : Int} : oAdd s (.d (.int a)) (.d (.int b)) = some (.d (.int (a + b)), s) := Eq.trans rfl rfl
theorem oAdd_str {a b : Str} (h : a.length + b.length ≤ sizeLine) : oAdd s (.d (.str a)) (.d (.str b)) = some (.d (.str (a ++ b)), s) := if_pos h
theorem oMul_int {a b : Int} (h : CMulB a b = true) : oMul s (.d (.int a)) (.d (.int b)) = some (.d (.int (a * b)), s) := if_pos h
theorem lfAt_0 {a0 : MV} {l : List MV} : lfAt (a0 :: l) 0 = lf (some a0) := lfAt_nat 0
theorem stL_0 {a0 : MV} {l : List MV} : stL (a0 :: l) 0 m = some (m :: l) := stL_nat 0 (by simp)
theorem atI_0 {α : Type} {a0 : α} {l : List α} : atI (a0 :: l) 0 = some a0 := Y.atI_nat 0
theorem lfAt_1 {a0 a1 : MV} {l : List MV} : lfAt (a0 :: a1 :: l) 1 = lf (some a1) := lfAt_nat 1
theorem stL_1 {a0 a1 : MV} {l : List MV} : stL (a0 :: a1 :: l) 1 m = some (a0 :: m :: l) := stL_nat 1 (by simp)
theorem atI_1 {α : Type} {a0 a1 : α} {l : List α} : atI (a0 :: a1 :: l) 1 = some a1 := Y.atI_nat 1
theorem lfAt_2 {a0 a1 a2 : MV} {l : List MV} : lfAt (a0 :: a1 :: a2 :: l) 2 = lf (some a2) := lfAt_nat 2
theorem stL_2 {a0 a1 a2 : MV} {l : List MV} : stL (a0 :: a1 :: a2 :: l) 2 m = some (a0 :: a1 :: m :: l) := stL_nat 2 (by simp)
theorem atI_2 {α : Type} {a0 a1 a2 : α} {l : List α} : atI (a0 :: a1 :: a2 :: l) 2 = some a2 := Y.atI_nat 2
theorem lfAt_3 {a0 a1 a2 a3 : MV} {l : List MV} : lfAt (a0 :: a1 :: a2 :: a3 :: l) 3 = lf (some a3) := lfAt_nat 3
theorem stL_3 {a0 a1 a2 a3 : MV} {l : List MV} : stL (a0 :: a1 :: a2 :: a3 :: l) 3 m = some (a0 :: a1 :: a2 :: m :: l) := stL_nat 3 (by simp)
theorem atI_3 {α : Type} {a0 a1 a2 a3 : α} {l : List α} : atI (a0 :: a1 :: a2 :: a3 :: l) 3 = some a3 := Y.atI_nat 3
theorem lfAt_4 {a0 a1 a2 a3 a4 : MV} {l : List MV} : lfAt (a0 :: a1 :: a2 :: a3 :: a4 :: l) 4 = lf (some a4) := lfAt_nat 4
theorem stL_4 {a0 a1 a2 a3 a4 : MV} {l : List MV} : stL (a0 :: a1 :: a2 :: a3 :: a4 :: l) 4 m = some (a0 :: a1 :: a2 :: a3 :: m :: l) := stL_nat 4 (by simp)
theorem atI_4 {α : Type} {a0 a1 a2 a3 a4 : α} {l : List α} : atI (a0 :: a1 :: a2 :: a3 :: a4 :: l) 4 = some a4 := Y.atI_nat 4
theorem lfAt_5 {a0 a1 a2 a3 a4 a5 : MV} {l : List MV} : lfAt (a0 :: a1 :: a2 :: a3 :: a4 :: a5 :: l) 5 = lf (some a5) := lfAt_nat 5
theorem stL_5 {a0 a1 a2 a3 a4 a5 : MV} {l : List MV} : stL (a0 :: a1 :: a2 :: a3 :: a4 :: a5 :: l) 5 m = some (a0 :: a1 :: a2 :: a3 :: a4 :: m :: l) := stL_nat 5 (by simp)
theorem atI_5 {α : Type} {a0 a1 a2 a3 a4 a5 : α} {l : List α} : atI (a0 :: a1 :: a2 :: a3 :: a4 :: a5 :: l) 5 = some a5 := Y.atI_nat 5
theorem lfAt_6 {a0 a1 a2 a3 a4 a5 a6 : MV} {l : List MV} : lfAt (a0 :: a1 :: a2 :: a3 :: a4 :: a5 :: a6 :: l) 6 = lf (some a6) := lfAt_nat 6
theorem stL_6 {a0 a1 a2 a3 a4 a5 a6 : MV} {l : List MV} : stL (a0 :: a1 :: a2 :: a3 :: a4 :: a5 :: a6 :: l) 6 m = some (a0 :: a1 :: a2 :: a3 :: a4 :: a5 :: m :: l) := stL_nat 6 (by simp)
theorem atI_6 {α : Type} {a0 a1 a2 a3 a4 a5 a6 : α} {l : List α} : atI (a0 :: a1 :: a2 :: a3 :: a4 :: a5 :: a6 :: l) 6 = some a6 := Y.atI_nat 6
theorem lfAt_7 {a0 a1 a2 a3 a4 a5 a6 a7 : MV} {l : List MV} : lfAt (a0 :: a1 :: a2 :: a3 :: a4 :: a5 :: a6 :: a7 :: l) 7 = lf (some a7) := lfAt_nat 7
theorem stL_7 {a0 a1 a2 a3 a4 a5 a6 a7 : MV} {l : List MV} : stL (a0 :: a1 :: a2 :: a3 :: a4 :: a5 :: a6 :: a7 :: l) 7 m = some (a0 :: a1 :: a2 :: a3 :: a4 :: a5 :: a6 :: m :: l) := stL_nat 7 (by simp)
theorem atI_7 {α : Type} {a0 a1 a2 a3 a4 a5 a6 a7 : α} {l : List α} : atI (a0 :: a1 :: a2 :: a3 :: a4 :: a5 :: a6 :: a7 :: l) 7 = some a7 := Y.atI_nat 7
theorem oMod_ok {a b : Int} (h : 0 < b) : oI (fun _ j => decide (0 < j)) (fun i j => i % j) s (.d (.int a)) (.d (.int b)) = some (.d (.int (a % b)), s) := if_pos (decide_eq_true h)
theorem oDiv_ok {a b : Int} (h : 0 < b) (h2 : b < 1073741824) : oI cDiv (fun i j => i / j) s (.d (.int a)) (.d (.int b)) = some (.d (.int (a / b)), s) := if_pos (by unfold cDiv; rw [decide_eq_true h, decide_eq_true h2]; rfl)
theorem oDivW_ok {a b : Int} (h : 0 < b) (h2 : b ≤ 10 ^ 18) : oI cDivW (fun i j => i / j) s (.d (.int a)) (.d (.int b)) = some (.d (.int (a / b)), s) := if_pos (by
  unfold cDivW
  have : b.natAbs.log2 < 9000 := by
    have h3 : b.natAbs < 2 ^ 60 := by omega
    have h4 : b.natAbs ≠ 0 := by omega
    have := (Nat.log2_lt h4).mpr h3
    omega
  rw [decide_eq_true h, decide_eq_true this]
  rfl)
theorem oMul_r {a b : Int} (h1 : -(2 ^ 64) < b) (h2 : b < 2 ^ 64) : oMul s (.d (.int a)) (.d (.int b)) = some (.d (.int (a * b)), s) := oMul_int (by unfold CMulB; rw [decide_eq_true h1, decide_eq_true h2, Bool.and_self, Bool.or_true])
end
end Y

/-! Layer Y, part V: texts by their signs; in. -/
namespace Y
open PySem PySem.Spec PyProof.Rows L2 Evl PySem.W TL
abbrev mk (l : List Nat) : Str := ⟨l.toArray⟩
section
variable {s : SL} {i : Nat} {l m : List Nat} {x y : Str} {ds : List PyData} {ms : List MV} {d : PyData}
theorem mk_tl (x : Str) : mk (tl x) = x := ext_tl rfl
theorem oAdd_mk (h : l.length + m.length ≤ 16777216) : oAdd s (.d (.str (mk l))) (.d (.str (mk m))) = some (.d (.str (mk (l ++ m))), s) := by
  have e : mk l ++ mk m = mk (l ++ m) := ext_tl (by rw [tl_append])
  rw [← e]
  exact oAdd_str (by rw [len_tl, len_tl]; exact h)
theorem oMul_mk {n : Int} (h1 : 2 ≤ n) (h2 : n ≤ 1000) (h3 : 1 ≤ l.length) (h4 : l.length ≤ 1000) : oMul s (.d (.str (mk l))) (.d (.int n)) = some (.d (.str (mk (List.replicate n.toNat l).flatten)), s) := by
  have e : mk (List.replicate n.toNat l).flatten = repS (mk l) n.toNat := ext_tl (repS_toList (mk l) n.toNat).symm
  rw [e]
  exact if_pos ⟨h1, h2, by rw [len_tl]; exact h3, by rw [len_tl]; exact h4⟩
theorem cut_hi (x : Str) (k : Nat) : tl (cutS x none (some (k : Int))) = (tl x).take k := by
  unfold cutS
  rw [HT.sIx_nat, HT.sIx_none]
  show ((tl x).drop 0).take (min k x.length - 0) = _
  rw [List.drop_zero, Nat.sub_zero, len_tl, List.take_eq_take_iff]
  omega
theorem cut_lo (x : Str) (k : Nat) : tl (cutS x (some (k : Int)) none) = (tl x).drop k := by
  unfold cutS
  rw [HT.sIx_nat, HT.sIx_none]
  show ((tl x).drop (min k x.length)).take (x.length - min k x.length) = _
  rw [len_tl]
  by_cases h : k ≤ (tl x).length
  · rw [Nat.min_eq_left h, List.take_of_length_le (by rw [List.length_drop]; omega)]
  · rw [Nat.min_eq_right (by omega), Nat.sub_self, List.take_zero, List.drop_eq_nil_of_le (by omega)]
theorem oSl_hi {n : Int} (h : l.length ≤ 16777216) (hn : 0 ≤ n) : oSl s (.d (.str (mk l))) none (some n) = some (.d (.str (mk (l.take n.toNat))), s) := by
  obtain ⟨k, rfl⟩ := Int.eq_ofNat_of_zero_le hn
  have e : mk (l.take (k : Int).toNat) = cutS (mk l) none (some (k : Int)) := ext_tl (by rw [cut_hi]; rfl)
  rw [e]
  exact if_pos (by rw [len_tl]; exact h)
theorem oSl_lo {n : Int} (h : l.length ≤ 16777216) (hn : 0 ≤ n) : oSl s (.d (.str (mk l))) (some n) none = some (.d (.str (mk (l.drop n.toNat))), s) := by
  obtain ⟨k, rfl⟩ := Int.eq_ofNat_of_zero_le hn
  have e : mk (l.drop (k : Int).toNat) = cutS (mk l) (some (k : Int)) none := ext_tl (by rw [cut_lo]; rfl)
  rw [e]
  exact if_pos (by rw [len_tl]; exact h)
theorem oIx2_mk {n : Int} {c : Nat} (h : x.length ≤ sizeLine) (hn : 0 ≤ n) (hc : (tl x)[n.toNat]? = some c) : oIx2 s (.d (.str x)) (.d (.int n)) = some (.d (.str (mk [c])), s) := by
  obtain ⟨k, rfl⟩ := Int.eq_ofNat_of_zero_le hn
  rw [oIx2_s h, Y.atI_nat, show x.cps.toList[k]? = some c from hc]
  rfl
/-! in -/
theorem oIn2_d {neg : Bool} (h1 : SeqAt.shaped d = true) (h2 : SeqAt.shaped (.list ds) = true) : oIn2 neg s (.d d) (.d (.list ds)) = some (.d (.bool (inD neg d ds)), s) := by
  show oIn neg s (.d d) (.d (.list ds)) = _
  show (some d).bind (fun d => match (some (PyData.list ds)) with
    | some (.list ds) => if SeqAt.shaped d = true ∧ SeqAt.shaped (.list ds) = true then some (TV.d (.bool (inD neg d ds)), s) else none
    | _ => none) = _
  exact if_pos ⟨h1, h2⟩
theorem oIn2_t {neg : Bool} (h1 : SeqAt.shaped d = true) (h2 : SeqAt.shaped (.list ds) = true) : oIn2 neg s (.d d) (.t (.lst (ds.map MV.d))) = some (.d (.bool (inD neg d ds)), s) := by
  show oIn neg s (.d d) (.t (.lst (ds.map MV.d))) = _
  show (some d).bind (fun d => match (frz (.lst (ds.map MV.d))) with
    | some (.list ds) => if SeqAt.shaped d = true ∧ SeqAt.shaped (.list ds) = true then some (TV.d (.bool (inD neg d ds)), s) else none
    | _ => none) = _
  rw [frz_lst]
  exact if_pos ⟨h1, h2⟩
def inV (s : SL) (neg : Bool) (d : PyData) (i : Nat) : Option (Option SV) → Option (TV × SL)
  | some (some (.w (.lst ms))) => (frz (.lst ms)).bind fun e => match e with
    | .list ds => if SeqAt.shaped d = true ∧ SeqAt.shaped (.list ds) = true then some (.d (.bool (inD neg d ds)), s) else none
    | _ => none
  | some (some (.p (.lst ms))) => (frz (.lst ms)).bind fun e => match e with
    | .list ds => if SeqAt.shaped d = true ∧ SeqAt.shaped (.list ds) = true then some (.d (.bool (inD neg d ds)), s) else none
    | _ => none
  | some (some (.k (.lst ms))) => (frz (.lst ms)).bind fun e => match e with
    | .list ds => if SeqAt.shaped d = true ∧ SeqAt.shaped (.list ds) = true then some (.d (.bool (inD neg d ds)), s) else none
    | _ => none
  | _ => oIn2 neg s (.d d) (.var i)
theorem oIn2_var {neg : Bool} : oIn2 neg s (.d d) (.var i) = inV s neg d i s[i]? := by
  have main : ∀ ms, vw s (.var i) = some (.lst ms) → oIn2 neg s (.d d) (.var i) = (frz (.lst ms)).bind fun e => match e with
    | .list ds => if SeqAt.shaped d = true ∧ SeqAt.shaped (.list ds) = true then some (.d (.bool (inD neg d ds)), s) else none
    | _ => none := fun ms ev => by
    have e1 : inDct s (.var i) = false := by show isDct s (.var i) = false; unfold isDct; rw [ev]
    have e2 : seqT s (.var i) = none := by show seqTd s (.var i) = none; unfold seqTd; rw [ev]
    have e3 : asD s (.var i) = frz (.lst ms) := by show (vw s (.var i)).bind frz = _; rw [ev]; rfl
    unfold oIn2
    rw [e1]
    show oIn neg s (.d d) (.var i) = _
    show (match seqT s (.var i) with
      | some ds => _
      | none => (asD s (.d d)).bind fun d => match asD s (.var i) with
        | some (.list ds) => if SeqAt.shaped d = true ∧ SeqAt.shaped (.list ds) = true then some (TV.d (.bool (inD neg d ds)), s) else none
        | _ => none) = _
    rw [e2, e3]
    show (match frz (.lst ms) with
        | some (.list ds) => if SeqAt.shaped d = true ∧ SeqAt.shaped (.list ds) = true then some (TV.d (.bool (inD neg d ds)), s) else none
        | _ => none) = _
    cases frz (.lst ms) with
    | none => rfl
    | some e => cases e <;> rfl
  cases es : s[i]? with
  | none => rfl
  | some o =>
    cases o with
    | none => rfl
    | some v =>
      cases v with
      | d _ => rfl
      | h => rfl
      | x _ => rfl
      | w m => cases m with
        | lst ms => exact main ms (by unfold vw; dsimp only; rw [es])
        | _ => rfl
      | p m => cases m with
        | lst ms => exact main ms (by unfold vw; dsimp only; rw [es])
        | _ => rfl
      | k m => cases m with
        | lst ms => exact main ms (by unfold vw; dsimp only; rw [es])
        | _ => rfl
theorem inV_w {neg : Bool} (h1 : SeqAt.shaped d = true) (h2 : SeqAt.shaped (.list ds) = true) : inV s neg d i (some (some (.w (.lst (ds.map MV.d))))) = some (.d (.bool (inD neg d ds)), s) := by
  unfold inV
  dsimp only
  rw [frz_lst]
  exact if_pos ⟨h1, h2⟩
theorem inV_p {neg : Bool} (h1 : SeqAt.shaped d = true) (h2 : SeqAt.shaped (.list ds) = true) : inV s neg d i (some (some (.p (.lst (ds.map MV.d))))) = some (.d (.bool (inD neg d ds)), s) := by
  unfold inV
  dsimp only
  rw [frz_lst]
  exact if_pos ⟨h1, h2⟩
/-! shapes -/
theorem strOk_of (h : ∀ c ∈ l, c < 200) : PyData.strOk (mk l) = true := by
  unfold PySem.PyData.strOk
  rw [Array.all_eq_true']
  intro c hc
  have := h c (by simpa using hc)
  exact decide_eq_true (by omega)
theorem lay_all (h : ∀ d ∈ ds, d.canLay0 = true) : PyData.canLayAll0 ds = true := by
  induction ds with
  | nil => rfl
  | cons a r ih => rw [PyData.canLayAll0, h a (List.mem_cons_self ..), ih fun d hd => h d (List.mem_cons_of_mem _ hd)]; rfl
theorem depth_all {n : Nat} (h : ∀ d ∈ ds, d.depth ≤ n) : PyData.depthAll ds ≤ n := by
  induction ds with
  | nil => exact Nat.zero_le _
  | cons a r ih =>
    rw [PyData.depthAll]
    exact Nat.max_le.mpr ⟨h a (List.mem_cons_self ..), ih fun d hd => h d (List.mem_cons_of_mem _ hd)⟩
theorem shaped_list (h1 : ∀ d ∈ ds, d.canLay0 = true) (h2 : ∀ d ∈ ds, d.depth ≤ 60) : SeqAt.shaped (.list ds) = true := by
  unfold SeqAt.shaped
  have := depth_all h2
  rw [PyData.canLay0, lay_all h1, PyData.depth]
  simp only [Bool.true_and, decide_eq_true_eq]
  omega
theorem shaped_str (h : ∀ c ∈ l, c < 200) : SeqAt.shaped (.str (mk l)) = true := by
  unfold SeqAt.shaped
  rw [PyData.canLay0, strOk_of h]
  rfl
abbrev strD (l : List Nat) : PyData := .str (mk l)
abbrev strsL (ls : List (List Nat)) : List PyData := ls.map strD
theorem shaped_strs {ls : List (List Nat)} (h : ∀ l ∈ ls, ∀ c ∈ l, c < 200) : SeqAt.shaped (.list (strsL ls)) = true := by
  refine shaped_list (fun d hd => ?_) fun d hd => ?_
  · obtain ⟨l, hl, rfl⟩ := List.mem_map.mp hd
    exact strOk_of (h l hl)
  · obtain ⟨l, hl, rfl⟩ := List.mem_map.mp hd
    exact Nat.zero_le _
theorem str_beq (x y : Str) : (x == y) = (tl x == tl y) := by
  rw [Bool.eq_iff_iff, beq_iff_eq, beq_iff_eq]
  exact ⟨fun h => h ▸ rfl, ext_tl⟩
theorem inD_strs {ls : List (List Nat)} : inD false (strD l) (strsL ls) = ls.contains l := by
  show (ls.map strD).any (fun z => PyData.eqv z (strD l)) = _
  rw [List.any_map]
  induction ls with
  | nil => rfl
  | cons a r ih =>
    rw [List.any_cons, List.contains_cons, ih]
    congr 1
    show (mk a == mk l) = (l == a)
    rw [str_beq, Bool.eq_iff_iff, beq_iff_eq, beq_iff_eq]
    exact ⟨Eq.symm, Eq.symm⟩
theorem inD_strsN {ls : List (List Nat)} : inD true (strD l) (strsL ls) = !ls.contains l := by
  rw [← inD_strs (l := l) (ls := ls)]
  rfl
/-! append -/
def apV (s : SL) (i : Nat) (m : MV) : Option (Option SV) → Option (TV × SL)
  | some (some (.w (.lst ms))) => if ms.length < sizeLine then some (.d .none, s.set i (some (.w (.lst (ms ++ [m]))))) else none
  | some (some (.p (.lst ms))) => if ms.length < sizeLine then some (.d .none, s.set i (some (.p (.lst (ms ++ [m]))))) else none
  | _ => none
theorem apV_all {t : TV} {m : MV} (ht : toM s t = some (m, s)) : mAppend s (.var i) [t] = apV s i m s[i]? := by
  show ((toM s t).bind fun r => (pl r.2 (.var i)).bind fun q => match q.m with
    | .lst ms => if ms.length < sizeLine then some (TV.d .none, q.w (.lst (ms ++ [r.1]))) else none
    | _ => none) = _
  rw [ht]
  show (((wAt s i).map fun m => Pl.mk s i m fun x => x).bind fun q => match q.m with
    | .lst ms => if ms.length < sizeLine then some (TV.d .none, q.w (.lst (ms ++ [m]))) else none
    | _ => none) = _
  cases es : s[i]? with
  | none => unfold wAt; rw [es]; rfl
  | some o =>
    cases o with
    | none => unfold wAt; rw [es]; rfl
    | some v =>
      cases v with
      | d _ => unfold wAt; rw [es]; rfl
      | h => unfold wAt; rw [es]; rfl
      | x _ => unfold wAt; rw [es]; rfl
      | k _ => unfold wAt; rw [es]; rfl
      | w m' =>
        have ew : wAt s i = some m' := by unfold wAt; rw [es]
        rw [ew]
        cases m' with
        | lst ms =>
          show (if ms.length < sizeLine then some (TV.d .none, putAt s i (.lst (ms ++ [m]))) else none) = if ms.length < sizeLine then some (TV.d .none, s.set i (some (.w (.lst (ms ++ [m]))))) else none
          unfold putAt
          rw [es]
        | _ => rfl
      | p m' =>
        have ew : wAt s i = some m' := by unfold wAt; rw [es]
        rw [ew]
        cases m' with
        | lst ms =>
          show (if ms.length < sizeLine then some (TV.d .none, putAt s i (.lst (ms ++ [m]))) else none) = if ms.length < sizeLine then some (TV.d .none, s.set i (some (.p (.lst (ms ++ [m]))))) else none
          unfold putAt
          rw [es]
        | _ => rfl
theorem mAppend_d : mAppend s (.var i) [.d d] = apV s i (.d d) s[i]? := apV_all rfl
theorem mAppend_t {m : MV} : mAppend s (.var i) [.t m] = apV s i m s[i]? := apV_all rfl
theorem apV_w {m : MV} : apV s i m (some (some (.w (.lst ms)))) = if ms.length < sizeLine then some (.d .none, s.set i (some (.w (.lst (ms ++ [m]))))) else none := Eq.trans rfl rfl
theorem apV_p {m : MV} : apV s i m (some (some (.p (.lst ms)))) = if ms.length < sizeLine then some (.d .none, s.set i (some (.p (.lst (ms ++ [m]))))) else none := Eq.trans rfl rfl
theorem oLst_nil : oLst s [] = some (.t (.lst []), s) := if_pos (Nat.zero_le _)
end
end Y

/-! Layer Y, part X: rules for loops. -/
namespace Y
open PySem PySem.Spec PyProof.Rows L2 Evl PySem.W TL
theorem forGo_inv {Ga : AG} {S : AS} (P : Nat → SL → Prop) {ds : List PyData} (step : ∀ (i : Nat) (d : PyData) (s : SL), ds[i]? = some d → P i s → ∃ s1 s2, Ga (.d d) s = some s1 ∧ (S s1 = some (.nx s2) ∨ S s1 = some (.ct s2)) ∧ P (i + 1) s2) : ∀ {s : SL}, P 0 s → ∃ s', forGo Ga S ds s = some (.nx s') ∧ P ds.length s' := by
  have main : ∀ (k i : Nat) (s : SL), ds.length - i = k → i ≤ ds.length → P i s → ∃ s', forGo Ga S (ds.drop i) s = some (.nx s') ∧ P ds.length s' := by
    intro k
    induction k with
    | zero =>
      intro i s hk hi h
      have : i = ds.length := by omega
      subst this
      rw [List.drop_length]
      exact ⟨s, rfl, h⟩
    | succ k ih =>
      intro i s hk hi h
      have hlt : i < ds.length := by omega
      obtain ⟨s1, s2, e1, e2, h2⟩ := step i ds[i] s (List.getElem?_eq_getElem hlt) h
      obtain ⟨s', e3, h3⟩ := ih (i + 1) s2 (by omega) hlt h2
      refine ⟨s', ?_, h3⟩
      rw [List.drop_eq_getElem_cons hlt]
      unfold forGo
      rw [e1]
      show (match S s1 with
        | some (.nx s2) => forGo Ga S (ds.drop (i + 1)) s2
        | some (.ct s2) => forGo Ga S (ds.drop (i + 1)) s2
        | some (.bk s2) => some (.nx s2)
        | r => r) = _
      rcases e2 with e2 | e2 <;> (rw [e2]; exact e3)
  intro s h
  have := main ds.length 0 s (by omega) (Nat.zero_le _) h
  rw [List.drop_zero] at this
  exact this
theorem rng_len (lo : Int) (n : Nat) : (rng lo n).length = n := by unfold rng; simp
theorem rng_get {lo : Int} {n i : Nat} {d : PyData} (h : (rng lo n)[i]? = some d) : d = .int (lo + (i : Nat)) ∧ i < n := by
  unfold rng at h
  rw [List.getElem?_map] at h
  obtain ⟨j, h1, rfl⟩ := Option.map_eq_some_iff.mp h
  obtain ⟨h2, h3⟩ := List.getElem?_eq_some_iff.mp h1
  rw [List.length_range] at h2
  rw [List.getElem_range] at h3
  subst h3
  exact ⟨rfl, h2⟩
theorem rng_get0 {n i : Nat} {d : PyData} (h : (rng 0 n)[i]? = some d) : d = .int (i : Nat) ∧ i < n := by
  obtain ⟨h1, h2⟩ := rng_get h
  rw [Int.zero_add] at h1
  exact ⟨h1, h2⟩
/-! comprehensions that change nothing -/
def lcR (s : SL) (vs : List Nat) : Option (List MV × SL) → Option (Res TV)
  | some (ms, s') => some (.ok (.t (.lst ms)) (restA s s' vs))
  | none => none
def lcK (Ga : AG) (C : AT) (E : AE) (vs : List Nat) (p : List PyData × Option Nat) (s1 : SL) : Option (Res TV) := if p.1.length ≤ sizeLine then lcR s1 vs (lockL p.2 (fun s => lcGo Ga C E vs p.1 (wipeA s vs)) s1) else none
theorem aLc_ap {J : AI} {Ga : AG} {C : AT} {E : AE} {vs : List Nat} {s : SL} : aLc J Ga C E vs s = bd (J s) (lcK Ga C E vs) := by
  unfold aLc
  refine bd_fun (fun p s => ?_) _
  show (if p.1.length ≤ sizeLine then (lockL p.2 (fun s => lcGo Ga C E vs p.1 (wipeA s vs)) s).map _ else none) = lcK Ga C E vs p s
  unfold lcK
  cases lockL p.2 (fun s => lcGo Ga C E vs p.1 (wipeA s vs)) s <;> rfl
theorem lcK_n {Ga : AG} {C : AT} {E : AE} {vs : List Nat} {ds : List PyData} {s : SL} (h : ds.length ≤ sizeLine) : lcK Ga C E vs (ds, none) s = lcR s vs (lcGo Ga C E vs ds (wipeA s vs)) := if_pos h
theorem lcGo_map {Ga : AG} {C : AT} {E : AE} {vs : List Nat} {p : PyData → Bool} {f : PyData → MV} (W : SL) : ∀ {ds : List PyData}, (∀ x ∈ ds, ∃ s1 s2, Ga (.d x) W = some s1 ∧ C s1 = some (.ok (p x) s2) ∧ (p x = true → ∃ t s3 s4, E s2 = some (.ok t s3) ∧ toM s3 t = some (f x, s4) ∧ wipeA s4 vs = W) ∧ (p x = false → wipeA s2 vs = W)) → lcGo Ga C E vs ds W = some ((ds.filter p).map f, W)
  | [], _ => rfl
  | x :: xs, h => by
    obtain ⟨s1, s2, e1, e2, h1, h2⟩ := h x (List.mem_cons_self ..)
    have ih := lcGo_map W (ds := xs) fun y hy => h y (List.mem_cons_of_mem _ hy)
    unfold lcGo
    rw [e1]
    show (match C s1 with
      | some (.ok true s2) => match E s2 with
        | some (.ok t s3) => (toM s3 t).bind fun r => (lcGo Ga C E vs xs (wipeA r.2 vs)).map fun q : List MV × SL => (r.1 :: q.1, q.2)
        | _ => none
      | some (.ok false s2) => lcGo Ga C E vs xs (wipeA s2 vs)
      | _ => none) = _
    rw [e2]
    cases hp : p x with
    | true =>
      obtain ⟨t, s3, s4, e3, e4, e5⟩ := h1 hp
      dsimp only
      rw [e3]
      dsimp only
      rw [e4, List.filter_cons, hp]
      show (lcGo Ga C E vs xs (wipeA s4 vs)).map (fun q : List MV × SL => (f x :: q.1, q.2)) = _
      rw [e5, ih]
      rfl
    | false =>
      dsimp only
      rw [h2 hp, ih, List.filter_cons, hp]
      rfl
theorem lcK_map {Ga : AG} {C : AT} {E : AE} {vs : List Nat} {ds : List PyData} {s : SL} (p : PyData → Bool) (f : PyData → MV) (hl : ds.length ≤ 16777216) (hr : restA s (wipeA s vs) vs = s) (h : ∀ x ∈ ds, ∃ s1 s2, Ga (.d x) (wipeA s vs) = some s1 ∧ C s1 = some (.ok (p x) s2) ∧ (p x = true → ∃ t s3 s4, E s2 = some (.ok t s3) ∧ toM s3 t = some (f x, s4) ∧ wipeA s4 vs = wipeA s vs) ∧ (p x = false → wipeA s2 vs = wipeA s vs)) :
    lcK Ga C E vs (ds, none) s = some (.ok (.t (.lst ((ds.filter p).map f))) s) := by
  rw [lcK_n (by rw [sizeLine_eq]; exact hl), lcGo_map (wipeA s vs) h]
  show some (Res.ok (TV.t (.lst ((ds.filter p).map f))) (restA s (wipeA s vs) vs)) = _
  rw [hr]
/-! while -/
theorem aWhile_inv {C : AT} {S : AS} (P : Nat → SL → Prop) (Q : SL → Prop) (step : ∀ n s, P n s → (∃ s', C s = some (.ok false s') ∧ Q s') ∨ ∃ s1 s2, C s = some (.ok true s1) ∧ (S s1 = some (.nx s2) ∨ S s1 = some (.ct s2)) ∧ ∃ m, m < n ∧ P m s2) {n : Nat} {s : SL} (h : P n s) : ∃ s', aWhile C S s = some (.nx s') ∧ Q s' := by
  have main : ∀ (n k : Nat) (s : SL), k < n → P k s → ∃ m s', whN C S m s = some (.nx s') ∧ Q s' := by
    intro n
    induction n with
    | zero => intro k s hk; exact absurd hk (Nat.not_lt_zero _)
    | succ n ih =>
      intro k s hk h
      rcases step k s h with ⟨s', e, q⟩ | ⟨s1, s2, e1, e2, m, hm, hp⟩
      · refine ⟨1, s', ?_, q⟩
        unfold whN
        rw [e]
      · obtain ⟨j, s', e3, q⟩ := ih m s2 (by omega) hp
        refine ⟨j + 1, s', ?_, q⟩
        unfold whN
        rw [e1]
        dsimp only
        rcases e2 with e2 | e2 <;> (rw [e2]; exact e3)
  obtain ⟨m, s', e, q⟩ := main (n + 1) n s (Nat.lt_succ_self n) h
  exact ⟨s', aWhile_of e, q⟩
end Y

namespace Lw
open PySem PySem.Spec PyProof.Rows L2 Y
noncomputable section
def top (i : Nat) : Stmt := PySem.Challenge.pw_pactguild_k85_whole_orders_that_come_to.main.body.getD i (.Pass ⟨0, 0, 0, 0⟩)
/-! ### _law_state(script): slots 0 script -/
abbrev s__law_state : Stmt := top 6
abbrev N__law_state : List Str := ["script"]
theorem sc__law_state : FnScope N__law_state ["script"] (defScope s__law_state) := ⟨rfl, rfl, rfl, by decide +kernel, rfl, by decide +kernel, by decide +kernel⟩
def b__law_state : AS := aRet (aCB oLst (aCons (aFz (aCB oList (aCons (aVar 0) (aNil)))) (aCons (aC (.int 0)) (aCons (aC (.int 0)) (aCons (aC (.int 0)) (aCons (aC (.bool false)) (aCons (aC (.int 500)) (aNil))))))))
def den__law_state : Den := run 1 1 false b__law_state
theorem dok__law_state : DenOk den__law_state := run_ok
/-! ### _law_draw(state, limit): slots 0 state, 1 limit, 2 cell, 3 digit, 4 mixed -/
abbrev s__law_draw : Stmt := top 7
abbrev N__law_draw : List Str := ["state", "limit", "cell", "digit", "mixed"]
theorem sc__law_draw : FnScope N__law_draw ["state", "limit"] (defScope s__law_draw) := ⟨rfl, rfl, rfl, by decide +kernel, rfl, by decide +kernel, by decide +kernel⟩
def i__law_draw_0 : AS := aIfS (aB (aOp oIx2 (aVar 0) (aC (.int 4)))) (aSeq (aAsg (aOp (oI (fun _ j => decide (0 < j)) fun i j => i % j) (aCB oIntA (aCons (aOp oIx2 (aVar 0) (aC (.int 2))) (aNil))) (aVar 1)) (aNameF 3)) (aSeq (aPut (aOp (oI cDivW fun i j => i / j) (aOp oIx2 (aVar 0) (aC (.int 2))) (aVar 1)) (aVar 0) (aC (.int 2))) (aSeq (aIfS (aB (aOp (oEq false) (aOp oIx2 (aVar 0) (aC (.int 2))) (aC (.int 0)))) (aPut (aC (.int 0)) (aVar 0) (aC (.int 3))) (aNext)) (aRet (aVar 3))))) (aNext)
def i__law_draw_1 : AS := aIfS (aB (aOp (oEq false) (aOp oIx2 (aVar 0) (aC (.int 3))) (aC (.int 0)))) (aSeq (aIfS (aB (aOp (oB0 fun i j => decide (j ≤ i)) (aOp oIx2 (aVar 0) (aC (.int 1))) (aCB (vA oLenA) (aCons (aOp oIx2 (aVar 0) (aC (.int 0))) (aNil))))) (aRet (aC (.int 0))) (aNext)) (aSeq (aAsg (aOp oIx2 (aOp oIx2 (aVar 0) (aC (.int 0))) (aOp oIx2 (aVar 0) (aC (.int 1)))) (aNameF 2)) (aSeq (aIfS (aB (aOp oLtA (aVar 2) (aC (.int 0)))) (aAsg (aOp (oI0 fun i j => i - j) (aUn rNeg (aC (.int 1))) (aVar 2)) (aNameF 2)) (aNext)) (aSeq (aPut (aOp oAdd (aOp oIx2 (aVar 0) (aC (.int 1))) (aC (.int 1))) (aVar 0) (aC (.int 1))) (aSeq (aPut (aVar 2) (aVar 0) (aC (.int 2))) (aSeq (aPut (aOp (oB0 fun i j => decide (j ≤ i)) (aVar 2) (aOp (oI cPow fun i j => i ^ j.toNat) (aC (.int 10)) (aC (.int 18)))) (aVar 0) (aC (.int 4))) (aSeq (aPut (aC (.int 6)) (aVar 0) (aC (.int 3))) (aIfS (aB (aOp oIx2 (aVar 0) (aC (.int 4)))) (aPut (aC (.int 60)) (aVar 0) (aC (.int 3))) (aNext))))))))) (aNext)
def b__law_draw : AS := aSeq (i__law_draw_1) (aSeq (aKill [2]) (aSeq (aPut (aOp (oI0 fun i j => i - j) (aOp oIx2 (aVar 0) (aC (.int 3))) (aC (.int 1))) (aVar 0) (aC (.int 3))) (aSeq (i__law_draw_0) (aSeq (aKill [3]) (aSeq (aAsg (aOp (oI (fun _ j => decide (0 < j)) fun i j => i % j) (aCB oIntA (aCons (aOp oAdd (aOp oAdd (aOp oMul (aOp oIx2 (aVar 0) (aC (.int 2))) (aC (.int 48271))) (aOp oMul (aOp oIx2 (aVar 0) (aC (.int 3))) (aC (.int 69621)))) (aC (.int 7))) (aNil))) (aC (.int 2147483647))) (aNameF 4)) (aSeq (aAsg (aOp (oI (fun _ j => decide (0 < j)) fun i j => i % j) (aCB oIntA (aCons (aOp oAdd (aOp oAdd (aOp oMul (aVar 4) (aVar 4)) (aOp oMul (aOp oIx2 (aVar 0) (aC (.int 2))) (aC (.int 31)))) (aOp oIx2 (aVar 0) (aC (.int 3)))) (aNil))) (aC (.int 1000003))) (aNameF 4)) (aRet (aOp (oI (fun _ j => decide (0 < j)) fun i j => i % j) (aCB oIntA (aCons (aVar 4) (aNil))) (aVar 1)))))))))
def den__law_draw : Den := run 2 5 false b__law_draw
theorem dok__law_draw : DenOk den__law_draw := run_ok
/-! ### _law_name(state): slots 0 state, 1 first, 2 other, 3 number, 4 name, 5 tail -/
abbrev s__law_name : Stmt := top 8
abbrev N__law_name : List Str := ["state", "first", "other", "number", "name", "tail"]
theorem sc__law_name : FnScope N__law_name ["state"] (defScope s__law_name) := ⟨rfl, rfl, rfl, by decide +kernel, rfl, by decide +kernel, by decide +kernel⟩
def b__law_name : AS := aSeq (aAsg (aC (.str "abcdefghijklmnopqrstuvwxyz")) (aNameF 1)) (aSeq (aAsg (aOp oAdd (aVar 1) (aC (.str "0123456789"))) (aNameF 2)) (aSeq (aAsg (aCallG false (den__law_draw) [.m 0, .f] (aCons (aVar 0) (aCons (aC (.int 134784)) (aNil)))) (aNameF 3)) (aSeq (aAsg (aOp oIx2 (aVar 1) (aOp (oI (fun _ j => decide (0 < j)) fun i j => i % j) (aCB oIntA (aCons (aOp (oI cDiv fun i j => i / j) (aVar 3) (aC (.int 4))) (aNil))) (aC (.int 26)))) (aNameF 4)) (aSeq (aAsg (aOp oAdd (aOp oAdd (aOp oIx2 (aVar 2) (aOp (oI (fun _ j => decide (0 < j)) fun i j => i % j) (aCB oIntA (aCons (aOp (oI cDiv fun i j => i / j) (aVar 3) (aC (.int 104))) (aNil))) (aC (.int 36)))) (aOp oIx2 (aVar 2) (aOp (oI (fun _ j => decide (0 < j)) fun i j => i % j) (aCB oIntA (aCons (aOp (oI cDiv fun i j => i / j) (aVar 3) (aC (.int 3744))) (aNil))) (aC (.int 36))))) (aOp oIx2 (aVar 2) (aOp (oI (fun _ j => decide (0 < j)) fun i j => i % j) (aCB oIntA (aCons (aVar 3) (aNil))) (aC (.int 35))))) (aNameF 5)) (aSeq (aIfS (aB (aOp (oEq false) (aCallG false (den__law_draw) [.m 0, .f] (aCons (aVar 0) (aCons (aC (.int 9)) (aNil)))) (aC (.int 8)))) (aAsg (aSl (aOp oAdd (aVar 4) (aOp oMul (aVar 5) (aC (.int 4)))) (aNoPart) (aPart (aOp oAdd (aC (.int 4)) (aCallG false (den__law_draw) [.m 0, .f] (aCons (aVar 0) (aCons (aC (.int 9)) (aNil))))))) (aNameF 4)) (aAsg (aOp oAdd (aVar 4) (aSl (aVar 5) (aNoPart) (aPart (aOp (oI (fun _ j => decide (0 < j)) fun i j => i % j) (aCB oIntA (aCons (aVar 3) (aNil))) (aC (.int 4)))))) (aNameF 4))) (aSeq (aIfS (aB (aOp (oIn2 false) (aVar 4) (aCB oLst (aCons (aC (.str "pact")) (aCons (aC (.str "end")) (aCons (aC (.str "choice")) (aCons (aC (.str "both")) (aCons (aC (.str "loop")) (aCons (aC (.str "use")) (aNil)))))))))) (aRet (aOp oAdd (aVar 4) (aC (.str "1")))) (aNext)) (aRet (aVar 4))))))))
def den__law_name : Den := run 1 6 false b__law_name
theorem dok__law_name : DenOk den__law_name := run_ok
/-! ### _law_names(state, count, taken): slots 0 state, 1 count, 2 taken, 3 names, 4 k, 5 name, 6 j -/
abbrev s__law_names : Stmt := top 9
abbrev N__law_names : List Str := ["state", "count", "taken", "names", "k", "name", "j"]
theorem sc__law_names : FnScope N__law_names ["state", "count", "taken"] (defScope s__law_names) := ⟨rfl, rfl, rfl, by decide +kernel, rfl, by decide +kernel, by decide +kernel⟩
def f__law_names_0 : AS := aSeq (aIfS (aOr (aB (aOp (oIn2 false) (aVar 5) (aVar 3))) (aB (aOp (oIn2 false) (aVar 5) (aVar 2)))) (aAsg (aOp oAdd (aOp oAdd (aSl (aVar 5) (aNoPart) (aPart (aC (.int 9)))) (aC (.str "q"))) (aCB oStr (aCons (aVar 6) (aNil)))) (aNameF 5)) (aNext)) (aKill [6])
def f__law_names_1 : AS := aSeq (aSeq (aAsg (aCallG false (den__law_name) [.m 0] (aCons (aVar 0) (aNil))) (aNameF 5)) (aSeq (aKill [6]) (aSeq (aFor (aRng1 (aCons (aC (.int 20)) (aNil))) (aNameF 6) (f__law_names_0)) (aSeq (aKill [6]) (aDrop (aBM "list" mAppend (aVar 3) (aCons (aVar 5) (aNil)))))))) (aKill [4, 5, 6])
def b__law_names : AS := aSeq (aAsg (aCB oLst (aNil)) (aName 3)) (aSeq (aKill [4, 5, 6]) (aSeq (aFor (aRng1 (aCons (aVar 1) (aNil))) (aNameF 4) (f__law_names_1)) (aSeq (aKill [4, 5, 6]) (aRet (aVar 3)))))
def den__law_names : Den := run 3 7 false b__law_names
theorem dok__law_names : DenOk den__law_names := run_ok
/-! ### _law_run(state, parties, labels, most): slots 0 state, 1 parties, 2 labels, 3 most, 4 run, 5 k, 6 sender, 7 taker -/
abbrev s__law_run : Stmt := top 11
abbrev N__law_run : List Str := ["state", "parties", "labels", "most", "run", "k", "sender", "taker"]
theorem sc__law_run : FnScope N__law_run ["state", "parties", "labels", "most"] (defScope s__law_run) := ⟨rfl, rfl, rfl, by decide +kernel, rfl, by decide +kernel, by decide +kernel⟩
def f__law_run_0 : AS := aSeq (aSeq (aAsg (aCallG false (den__law_draw) [.m 0, .f] (aCons (aVar 0) (aCons (aCB (vA oLenA) (aCons (aVar 1) (aNil))) (aNil)))) (aNameF 6)) (aSeq (aAsg (aOp (oI (fun _ j => decide (0 < j)) fun i j => i % j) (aCB oIntA (aCons (aOp oAdd (aOp oAdd (aVar 6) (aC (.int 1))) (aCallG false (den__law_draw) [.m 0, .f] (aCons (aVar 0) (aCons (aOp (oI0 fun i j => i - j) (aCB (vA oLenA) (aCons (aVar 1) (aNil))) (aC (.int 1))) (aNil))))) (aNil))) (aCB (vA oLenA) (aCons (aVar 1) (aNil)))) (aNameF 7)) (aDrop (aBM "list" mAppend (aVar 4) (aCons (aCB oTup (aCons (aOp oIx2 (aVar 1) (aVar 6)) (aCons (aOp oIx2 (aVar 1) (aVar 7)) (aCons (aOp oIx2 (aVar 2) (aCallG false (den__law_draw) [.m 0, .f] (aCons (aVar 0) (aCons (aCB (vA oLenA) (aCons (aVar 2) (aNil))) (aNil))))) (aNil))))) (aNil)))))) (aKill [5, 6, 7])
def b__law_run : AS := aSeq (aAsg (aCB oLst (aNil)) (aName 4)) (aSeq (aKill [5, 6, 7]) (aSeq (aFor (aRng1 (aCons (aCallG false (den__law_draw) [.m 0, .f] (aCons (aVar 0) (aCons (aOp oAdd (aVar 3) (aC (.int 1))) (aNil)))) (aNil))) (aNameF 5) (f__law_run_0)) (aSeq (aKill [5, 6, 7]) (aRet (aVar 4)))))
def den__law_run : Den := run 4 8 false b__law_run
theorem dok__law_run : DenOk den__law_run := run_ok
/-! ### _law_apart(one, two): slots 0 one, 1 two, 2 party -/
abbrev s__law_apart : Stmt := top 12
abbrev N__law_apart : List Str := ["one", "two", "party"]
theorem sc__law_apart : FnScope N__law_apart ["one", "two"] (defScope s__law_apart) := ⟨rfl, rfl, rfl, by decide +kernel, rfl, by decide +kernel, by decide +kernel⟩
def b__law_apart : AS := aRet (aOp (oEq false) (aCB (vA oLenA) (aCons (aLc (aIt (aSl (aVar 0) (aNoPart) (aPart (aC (.int 2))))) (aNameF 2) (aB (aOp (oIn2 false) (aVar 2) (aSl (aVar 1) (aNoPart) (aPart (aC (.int 2)))))) (aVar 2) [2]) (aNil))) (aC (.int 0)))
def den__law_apart : Den := run 2 3 false b__law_apart
theorem dok__law_apart : DenOk den__law_apart := run_ok
/-! ### _law_layers(run): slots 0 run, 1 heights, 2 k, 3 below, 4 layers, 5 height, 6 j -/
abbrev s__law_layers : Stmt := top 14
abbrev N__law_layers : List Str := ["run", "heights", "k", "below", "layers", "height", "j"]
theorem sc__law_layers : FnScope N__law_layers ["run"] (defScope s__law_layers) := ⟨rfl, rfl, rfl, by decide +kernel, rfl, by decide +kernel, by decide +kernel⟩
def f__law_layers_0 : AS := aSeq (aDrop (aBM "list" mAppend (aVar 4) (aCons (aCB oSorted (aCons (aLc (aRng1 (aCons (aCB (vA oLenA) (aCons (aVar 0) (aNil))) (aNil))) (aNameF 2) (aB (aOp (oEq false) (aOp oIx2 (aVar 1) (aVar 2)) (aVar 5))) (aOp oIx2 (aVar 0) (aVar 2)) [2]) (aNil))) (aNil)))) (aKill [5])
def f__law_layers_1 : AS := aSeq (aSeq (aAsg (aLc (aRng1 (aCons (aVar 2) (aNil))) (aNameF 6) (aNot (aB (aCallG false (den__law_apart) [.f, .f] (aCons (aOp oIx2 (aVar 0) (aVar 6)) (aCons (aOp oIx2 (aVar 0) (aVar 2)) (aNil)))))) (aOp oIx2 (aVar 1) (aVar 6)) [6]) (aNameF 3)) (aDrop (aBM "list" mAppend (aVar 1) (aCons (aOp oAdd (aC (.int 1)) (aCB oMax (aCons (aOp oAdd (aVar 3) (aCB oLst (aCons (aC (.int 0)) (aNil)))) (aNil)))) (aNil))))) (aKill [3])
def b__law_layers : AS := aSeq (aAsg (aCB oLst (aNil)) (aName 1)) (aSeq (aKill [3]) (aSeq (aFor (aRng1 (aCons (aCB (vA oLenA) (aCons (aVar 0) (aNil))) (aNil))) (aNameF 2) (f__law_layers_1)) (aSeq (aKill [3]) (aSeq (aAsg (aCB oLst (aNil)) (aName 4)) (aSeq (aKill [5]) (aSeq (aFor (aRng2 (aCons (aC (.int 1)) (aCons (aOp oAdd (aCB oMax (aCons (aOp oAdd (aVar 1) (aCB oLst (aCons (aC (.int 0)) (aNil)))) (aNil))) (aC (.int 1))) (aNil)))) (aNameF 5) (f__law_layers_0)) (aSeq (aKill [5]) (aRet (aVar 4)))))))))
def den__law_layers : Den := run 1 7 false b__law_layers
theorem dok__law_layers : DenOk den__law_layers := run_ok
/-! ### layers_of(run): slots 0 run, 1 layers, 2 heights, 3 action, 4 height, 5 layer -/
abbrev s_layers_of : Stmt := top 2
abbrev N_layers_of : List Str := ["run", "layers", "heights", "action", "height", "layer"]
theorem sc_layers_of : FnScope N_layers_of ["run"] (defScope s_layers_of) := ⟨rfl, rfl, rfl, by decide +kernel, rfl, by decide +kernel, by decide +kernel⟩
def f_layers_of_0 : AS := aSeq (aSeq (aAsg (aCB oMax (aCons (aGet2 (aVar 2) (aOp oIx2 (aVar 3) (aC (.int 0))) (aC (.int 0))) (aCons (aGet2 (aVar 2) (aOp oIx2 (aVar 3) (aC (.int 1))) (aC (.int 0))) (aNil)))) (aNameF 4)) (aSeq (aIfS (aB (aOp (oEq false) (aVar 4) (aCB (vA oLenA) (aCons (aVar 1) (aNil))))) (aDrop (aBM "list" mAppend (aVar 1) (aCons (aCB oLst (aNil)) (aNil)))) (aNext)) (aSeq (aDrop (aBM "list" mAppend (aOp oIx2 (aVar 1) (aVar 4)) (aCons (aVar 3) (aNil)))) (aSeq (aPut (aOp oAdd (aVar 4) (aC (.int 1))) (aVar 2) (aOp oIx2 (aVar 3) (aC (.int 0)))) (aPut (aOp oAdd (aVar 4) (aC (.int 1))) (aVar 2) (aOp oIx2 (aVar 3) (aC (.int 1)))))))) (aKill [3, 4])
def b_layers_of : AS := aSeq (aAsg (aCB oLst (aNil)) (aName 1)) (aSeq (aAsg (aDNew false) (aName 2)) (aSeq (aKill [3, 4]) (aSeq (aFor (aIt (aVar 0)) (aNameF 3) (f_layers_of_0)) (aSeq (aKill [3, 4]) (aRet (aLc (aIt (aFz (aVar 1))) (aNameF 5) (aYes) (aCB oSorted (aCons (aVar 5) (aNil))) [5]))))))
def den_layers_of : Den := run 1 6 false b_layers_of
theorem dok_layers_of : DenOk den_layers_of := run_ok
/-! ### _law_class(run): slots 0 run, 1 found, 2 at, 3 one, 4 k, 5 other -/
abbrev s__law_class : Stmt := top 13
abbrev N__law_class : List Str := ["run", "found", "at", "one", "k", "other"]
theorem sc__law_class : FnScope N__law_class ["run"] (defScope s__law_class) := ⟨rfl, rfl, rfl, by decide +kernel, rfl, by decide +kernel, by decide +kernel⟩
def f__law_class_0 : AS := aSeq (aIfS (aB (aCallG false (den__law_apart) [.f, .f] (aCons (aOp oIx2 (aVar 3) (aVar 4)) (aCons (aOp oIx2 (aVar 3) (aOp oAdd (aVar 4) (aC (.int 1)))) (aNil))))) (aSeq (aAsg (aOp oAdd (aOp oAdd (aSl (aVar 3) (aNoPart) (aPart (aVar 4))) (aCB oLst (aCons (aOp oIx2 (aVar 3) (aOp oAdd (aVar 4) (aC (.int 1)))) (aCons (aOp oIx2 (aVar 3) (aVar 4)) (aNil))))) (aSl (aVar 3) (aPart (aOp oAdd (aVar 4) (aC (.int 2)))) (aNoPart))) (aNameF 5)) (aIfS (aB (aOp (oIn2 true) (aVar 5) (aVar 1))) (aDrop (aBM "list" mAppend (aVar 1) (aCons (aVar 5) (aNil)))) (aNext))) (aNext)) (aKill [4, 5])
def f__law_class_1 : AS := aSeq (aSeq (aAsg (aOp oIx2 (aVar 1) (aVar 2)) (aNameF 3)) (aSeq (aKill [4, 5]) (aSeq (aFor (aRng1 (aCons (aOp (oI0 fun i j => i - j) (aCB (vA oLenA) (aCons (aVar 3) (aNil))) (aC (.int 1))) (aNil))) (aNameF 4) (f__law_class_0)) (aSeq (aKill [4, 5]) (aAsg (aOp oAdd (aVar 2) (aC (.int 1))) (aNameF 2)))))) (aKill [3, 4, 5])
def b__law_class : AS := aSeq (aAsg (aCB oLst (aCons (aVar 0) (aNil))) (aName 1)) (aSeq (aAsg (aC (.int 0)) (aNameF 2)) (aSeq (aKill [3, 4, 5]) (aSeq (aWhile (aAnd (aB (aOp oLtA (aVar 2) (aCB (vA oLenA) (aCons (aVar 1) (aNil))))) (aB (aOp oLtA (aCB (vA oLenA) (aCons (aVar 1) (aNil))) (aC (.int 200))))) (f__law_class_1)) (aSeq (aKill [2, 3, 4, 5]) (aRet (aVar 1))))))
def den__law_class : Den := run 1 6 false b__law_class
theorem dok__law_class : DenOk den__law_class := run_ok
/-! ### _law_other(state, run, parties, labels): slots 0 state, 1 run, 2 parties, 3 labels, 4 k, 5 kind -/
abbrev s__law_other : Stmt := top 16
abbrev N__law_other : List Str := ["state", "run", "parties", "labels", "k", "kind"]
theorem sc__law_other : FnScope N__law_other ["state", "run", "parties", "labels"] (defScope s__law_other) := ⟨rfl, rfl, rfl, by decide +kernel, rfl, by decide +kernel, by decide +kernel⟩
def b__law_other : AS := aSeq (aIfS (aB (aOp oLtA (aCB (vA oLenA) (aCons (aVar 1) (aNil))) (aC (.int 2)))) (aRet (aOp oAdd (aVar 1) (aCallG false (den__law_run) [.m 0, .f, .f, .f] (aCons (aVar 0) (aCons (aVar 2) (aCons (aVar 3) (aCons (aC (.int 1)) (aNil)))))))) (aNext)) (aSeq (aAsg (aCallG false (den__law_draw) [.m 0, .f] (aCons (aVar 0) (aCons (aOp (oI0 fun i j => i - j) (aCB (vA oLenA) (aCons (aVar 1) (aNil))) (aC (.int 1))) (aNil)))) (aNameF 4)) (aSeq (aAsg (aCallG false (den__law_draw) [.m 0, .f] (aCons (aVar 0) (aCons (aC (.int 4)) (aNil)))) (aNameF 5)) (aSeq (aIfS (aB (aOp (oEq false) (aVar 5) (aC (.int 0)))) (aRet (aOp oAdd (aSl (aVar 1) (aNoPart) (aPart (aVar 4))) (aSl (aVar 1) (aPart (aOp oAdd (aVar 4) (aC (.int 1)))) (aNoPart)))) (aNext)) (aSeq (aIfS (aB (aOp (oEq false) (aVar 5) (aC (.int 1)))) (aRet (aOp oAdd (aOp oAdd (aSl (aVar 1) (aNoPart) (aPart (aVar 4))) (aCB oLst (aCons (aCB oTup (aCons (aOp oIx2 (aOp oIx2 (aVar 1) (aVar 4)) (aC (.int 1))) (aCons (aOp oIx2 (aOp oIx2 (aVar 1) (aVar 4)) (aC (.int 0))) (aCons (aOp oIx2 (aOp oIx2 (aVar 1) (aVar 4)) (aC (.int 2))) (aNil))))) (aNil)))) (aSl (aVar 1) (aPart (aOp oAdd (aVar 4) (aC (.int 1)))) (aNoPart)))) (aNext)) (aRet (aOp oAdd (aOp oAdd (aSl (aVar 1) (aNoPart) (aPart (aVar 4))) (aCB oLst (aCons (aOp oIx2 (aVar 1) (aOp oAdd (aVar 4) (aC (.int 1)))) (aCons (aOp oIx2 (aVar 1) (aVar 4)) (aNil))))) (aSl (aVar 1) (aPart (aOp oAdd (aVar 4) (aC (.int 2)))) (aNoPart))))))))
def den__law_other : Den := run 4 6 false b__law_other
theorem dok__law_other : DenOk den__law_other := run_ok
/-! ### _law_truth(told, due): slots 0 told, 1 due -/
abbrev s__law_truth : Stmt := top 10
abbrev N__law_truth : List Str := ["told", "due"]
theorem sc__law_truth : FnScope N__law_truth ["told", "due"] (defScope s__law_truth) := ⟨rfl, rfl, rfl, by decide +kernel, rfl, by decide +kernel, by decide +kernel⟩
def b__law_truth : AS := aSeq (aIfS (aB (aVar 1)) (aRet (aOp (oIsB false) (aVar 0) (aC (.bool true)))) (aNext)) (aRet (aOp (oIsB false) (aVar 0) (aC (.bool false))))
def den__law_truth : Den := run 2 2 false b__law_truth
theorem dok__law_truth : DenOk den__law_truth := run_ok
/-! ### come_to_the_same(one, other): slots 0 one, 1 other -/
abbrev s_come_to_the_same : Stmt := top 4
abbrev N_come_to_the_same : List Str := ["one", "other"]
theorem sc_come_to_the_same : FnScope N_come_to_the_same ["one", "other"] (defScope s_come_to_the_same) := ⟨rfl, rfl, rfl, by decide +kernel, rfl, by decide +kernel, by decide +kernel⟩
def b_come_to_the_same : AS := aRet (aOp (oEq false) (aCallG false (den_layers_of) [.f] (aCons (aVar 0) (aNil))) (aCallG false (den_layers_of) [.f] (aCons (aVar 1) (aNil))))
def den_come_to_the_same : Den := run 2 2 false b_come_to_the_same
theorem dok_come_to_the_same : DenOk den_come_to_the_same := run_ok
/-! ### are_apart(one, other): slots 0 one, 1 other -/
abbrev s_are_apart : Stmt := top 1
abbrev N_are_apart : List Str := ["one", "other"]
theorem sc_are_apart : FnScope N_are_apart ["one", "other"] (defScope s_are_apart) := ⟨rfl, rfl, rfl, by decide +kernel, rfl, by decide +kernel, by decide +kernel⟩
def b_are_apart : AS := aRet (aAndV (aOp (oIn2 true) (aOp oIx2 (aVar 0) (aC (.int 0))) (aSl (aVar 1) (aNoPart) (aPart (aC (.int 2))))) (aOp (oIn2 true) (aOp oIx2 (aVar 0) (aC (.int 1))) (aSl (aVar 1) (aNoPart) (aPart (aC (.int 2))))))
def den_are_apart : Den := run 2 2 false b_are_apart
theorem dok_are_apart : DenOk den_are_apart := run_ok
/-! ### least_order(run): slots 0 run, 1 left, 2 found, 3 best, 4 place, 5 action, 6 other -/
abbrev s_least_order : Stmt := top 3
abbrev N_least_order : List Str := ["run", "left", "found", "best", "place", "action", "other"]
theorem sc_least_order : FnScope N_least_order ["run"] (defScope s_least_order) := ⟨rfl, rfl, rfl, by decide +kernel, rfl, by decide +kernel, by decide +kernel⟩
def f_least_order_0 : AS := aSeq (aIfS (aB (aOp (oEq false) (aLc (aIt (aSl (aVar 1) (aNoPart) (aPart (aVar 4)))) (aNameF 6) (aNot (aB (aCallG false (den_are_apart) [.f, .f] (aCons (aVar 6) (aCons (aVar 5) (aNil)))))) (aVar 6) [6]) (aCB oLst (aNil)))) (aIfS (aOr (aB (aOp (oIsN false) (aVar 3) (aC .none))) (aB (aOp oLtA (aVar 5) (aOp oIx2 (aVar 1) (aVar 3))))) (aAsg (aVar 4) (aNameF 3)) (aNext)) (aNext)) (aKill [4, 5])
def f_least_order_1 : AS := aSeq (aSeq (aAsg (aC .none) (aNameF 3)) (aSeq (aKill [4, 5]) (aSeq (aFor (aEnum (aCons (aVar 1) (aNil))) (aGTup 2 (aGCons (aNameF 4) (aGCons (aNameF 5) (aGNil)))) (f_least_order_0)) (aSeq (aKill [4, 5]) (aDrop (aBM "list" mAppend (aVar 2) (aCons (aBM "list" mPopAt (aVar 1) (aCons (aVar 3) (aNil))) (aNil)))))))) (aKill [3, 4, 5])
def b_least_order : AS := aSeq (aAsg (aCB oList (aCons (aVar 0) (aNil))) (aName 1)) (aSeq (aAsg (aCB oLst (aNil)) (aName 2)) (aSeq (aKill [3, 4, 5]) (aSeq (aWhile (aTru (aVar 1)) (f_least_order_1)) (aSeq (aKill [3, 4, 5]) (aRet (aVar 2))))))
def den_least_order : Den := run 1 7 false b_least_order
theorem dok_least_order : DenOk den_least_order := run_ok
/-! ### _law_least(run): slots 0 run, 1 left, 2 found, 3 turn, 4 free, 5 k, 6 action, 7 j -/
abbrev s__law_least : Stmt := top 15
abbrev N__law_least : List Str := ["run", "left", "found", "turn", "free", "k", "action", "j"]
theorem sc__law_least : FnScope N__law_least ["run"] (defScope s__law_least) := ⟨rfl, rfl, rfl, by decide +kernel, rfl, by decide +kernel, by decide +kernel⟩
def f__law_least_0 : AS := aSeq (aIfS (aB (aOp (oEq false) (aCB (vA oLenA) (aCons (aLc (aRng1 (aCons (aVar 5) (aNil))) (aNameF 7) (aNot (aB (aCallG false (den__law_apart) [.f, .f] (aCons (aOp oIx2 (aVar 1) (aVar 7)) (aCons (aOp oIx2 (aVar 1) (aVar 5)) (aNil)))))) (aVar 7) [7]) (aNil))) (aC (.int 0)))) (aDrop (aBM "list" mAppend (aVar 4) (aCons (aCB oTup (aCons (aOp oIx2 (aVar 1) (aVar 5)) (aCons (aVar 5) (aNil)))) (aNil)))) (aNext)) (aKill [5])
def f__law_least_1 : AS := aSeq (aSeq (aAsg (aCB oLst (aNil)) (aName 4)) (aSeq (aKill [5]) (aSeq (aFor (aRng1 (aCons (aCB (vA oLenA) (aCons (aVar 1) (aNil))) (aNil))) (aNameF 5) (f__law_least_0)) (aSeq (aKill [5]) (aSeq (aAsg (aCB oMin (aCons (aVar 4) (aNil))) (aGTup 2 (aGCons (aNameF 6) (aGCons (aNameF 5) (aGNil))))) (aSeq (aDrop (aBM "list" mAppend (aVar 2) (aCons (aVar 6) (aNil)))) (aAsg (aOp oAdd (aSl (aVar 1) (aNoPart) (aPart (aVar 5))) (aSl (aVar 1) (aPart (aOp oAdd (aVar 5) (aC (.int 1)))) (aNoPart))) (aNameF 1)))))))) (aKill [3, 4, 5, 6])
def b__law_least : AS := aSeq (aAsg (aCB oList (aCons (aVar 0) (aNil))) (aNameF 1)) (aSeq (aAsg (aCB oLst (aNil)) (aName 2)) (aSeq (aKill [3, 4, 5, 6]) (aSeq (aFor (aRng1 (aCons (aCB (vA oLenA) (aCons (aVar 0) (aNil))) (aNil))) (aNameF 3) (f__law_least_1)) (aSeq (aKill [1, 3, 4, 5, 6]) (aRet (aVar 2))))))
def den__law_least : Den := run 1 8 false b__law_least
theorem dok__law_least : DenOk den__law_least := run_ok
/-! ### law(script): slots 0 script, 1 state, 2 parties, 3 labels, 4 most, 5 run, 6 kept, 7 layers, 8 told, 9 row, 10 layer, 11 same, 12 k, 13 other, 14 pair -/
abbrev s_law : Stmt := top 17
abbrev N_law : List Str := ["script", "state", "parties", "labels", "most", "run", "kept", "layers", "told", "row", "layer", "same", "k", "other", "pair"]
theorem sc_law : FnScope N_law ["script"] (defScope s_law) := ⟨rfl, rfl, rfl, by decide +kernel, rfl, by decide +kernel, by decide +kernel⟩
def f_law_0 : AS := aSeq (aSeq (aAsg (aOp oAdd (aCallG false (den__law_run) [.m 1, .f, .f, .f] (aCons (aVar 1) (aCons (aVar 2) (aCons (aVar 3) (aCons (aC (.int 9)) (aNil)))))) (aCB oLst (aCons (aCB oTup (aCons (aOp oIx2 (aVar 2) (aC (.int 0))) (aCons (aOp oIx2 (aVar 2) (aC (.int 1))) (aCons (aOp oIx2 (aVar 3) (aC (.int 0))) (aNil))))) (aCons (aCB oTup (aCons (aOp oIx2 (aVar 2) (aC (.int 2))) (aCons (aOp oIx2 (aVar 2) (aC (.int 0))) (aCons (aOp oIx2 (aVar 3) (aC (.int 0))) (aNil))))) (aNil))))) (aNameF 14)) (aIfS (aNot (aB (aCallG false (den__law_truth) [.f, .f] (aCons (aCallG false (den_are_apart) [.f, .f] (aCons (aOp oIx2 (aVar 14) (aC (.int 0))) (aCons (aOp oIx2 (aVar 14) (aC (.int 1))) (aNil)))) (aCons (aCallG false (den__law_apart) [.f, .f] (aCons (aOp oIx2 (aVar 14) (aC (.int 0))) (aCons (aOp oIx2 (aVar 14) (aC (.int 1))) (aNil)))) (aNil)))))) (aRet (aC (.bool false))) (aNext))) (aKill [12, 14])
def f_law_1 : AS := aSeq (aSeq (aAsg (aCallG false (den__law_other) [.m 1, .f, .f, .f] (aCons (aVar 1) (aCons (aVar 5) (aCons (aVar 2) (aCons (aVar 3) (aNil)))))) (aNameF 13)) (aSeq (aIfS (aNot (aB (aCallG false (den__law_truth) [.f, .f] (aCons (aCallG false (den_come_to_the_same) [.f, .f] (aCons (aVar 5) (aCons (aVar 13) (aNil)))) (aCons (aOp (oEq false) (aCallG false (den__law_layers) [.f] (aCons (aVar 13) (aNil))) (aVar 7)) (aNil)))))) (aRet (aC (.bool false))) (aNext)) (aIfS (aAnd (aB (aOp oLtA (aVar 4) (aC (.int 9)))) (aAnd (aB (aOp oLtA (aCB (vA oLenA) (aCons (aVar 11) (aNil))) (aC (.int 200)))) (aB (aOp (oEq true) (aOp (oIn2 false) (aVar 13) (aVar 11)) (aOp (oEq false) (aCallG false (den__law_layers) [.f] (aCons (aVar 13) (aNil))) (aVar 7)))))) (aRet (aC (.bool false))) (aNext)))) (aKill [12, 13])
def f_law_2 : AS := aSeq (aAsg (aOp oAdd (aVar 9) (aVar 10)) (aNameF 9)) (aKill [10])
def f_law_3 : AS := aSeq (aSeq (aAsg (aCallG false (den__law_run) [.m 1, .f, .f, .f] (aCons (aVar 1) (aCons (aVar 2) (aCons (aVar 3) (aCons (aVar 4) (aNil)))))) (aNameF 5)) (aSeq (aAsg (aCB oList (aCons (aVar 5) (aNil))) (aNameF 6)) (aSeq (aAsg (aCallG false (den__law_layers) [.f] (aCons (aVar 5) (aNil))) (aNameF 7)) (aSeq (aAsg (aCallG false (den_layers_of) [.f] (aCons (aVar 5) (aNil))) (aNameF 8)) (aSeq (aIfS (aOr (aNot (aB (aIsi "list" (aVar 8)))) (aOr (aB (aOp (oEq true) (aVar 8) (aVar 7))) (aOr (aB (aOp (oEq true) (aCallG false (den_least_order) [.f] (aCons (aVar 5) (aNil))) (aCallG false (den__law_least) [.f] (aCons (aVar 5) (aNil))))) (aB (aOp (oEq true) (aVar 5) (aVar 6)))))) (aRet (aC (.bool false))) (aNext)) (aSeq (aAsg (aCB oLst (aNil)) (aNameF 9)) (aSeq (aKill [10]) (aSeq (aFor (aIt (aVar 7)) (aNameF 10) (f_law_2)) (aSeq (aKill [10]) (aSeq (aIfS (aOr (aB (aOp (oIsB true) (aCallG false (den_come_to_the_same) [.f, .f] (aCons (aVar 9) (aCons (aVar 5) (aNil)))) (aC (.bool true)))) (aB (aOp (oEq true) (aCallG false (den_least_order) [.f] (aCons (aVar 9) (aNil))) (aCallG false (den__law_least) [.f] (aCons (aVar 5) (aNil)))))) (aRet (aC (.bool false))) (aNext)) (aSeq (aAsg (aCB oLst (aCons (aVar 5) (aNil))) (aNameF 11)) (aSeq (aIfS (aB (aOp oLtA (aVar 4) (aC (.int 9)))) (aAsg (aCallG false (den__law_class) [.f] (aCons (aVar 5) (aNil))) (aNameF 11)) (aNext)) (aSeq (aIfS (aAnd (aB (aOp (oB0 fun i j => decide (j < i)) (aCB (vA oLenA) (aCons (aVar 11) (aNil))) (aC (.int 1)))) (aAnd (aB (aOp oLtA (aCB (vA oLenA) (aCons (aVar 11) (aNil))) (aC (.int 200)))) (aB (aOp (oEq true) (aCallG false (den_least_order) [.f] (aCons (aVar 5) (aNil))) (aCB oMin (aCons (aVar 11) (aNil))))))) (aRet (aC (.bool false))) (aNext)) (aSeq (aKill [12, 13]) (aSeq (aFor (aRng1 (aCons (aC (.int 4)) (aNil))) (aNameF 12) (f_law_1)) (aKill [12, 13])))))))))))))))) (aKill [4, 5, 6, 7, 8, 9, 10, 11, 12, 13])
def b_law : AS := aSeq (aAsg (aCallG false (den__law_state) [.f] (aCons (aVar 0) (aNil))) (aName 1)) (aSeq (aAsg (aCallG false (den__law_names) [.m 1, .f, .f] (aCons (aVar 1) (aCons (aOp oAdd (aC (.int 3)) (aCallG false (den__law_draw) [.m 1, .f] (aCons (aVar 1) (aCons (aC (.int 4)) (aNil))))) (aCons (aCB oLst (aNil)) (aNil))))) (aNameF 2)) (aSeq (aAsg (aCallG false (den__law_names) [.m 1, .f, .f] (aCons (aVar 1) (aCons (aOp oAdd (aC (.int 1)) (aCallG false (den__law_draw) [.m 1, .f] (aCons (aVar 1) (aCons (aC (.int 2)) (aNil))))) (aCons (aCB oLst (aNil)) (aNil))))) (aNameF 3)) (aSeq (aKill [4, 5, 6, 7, 8, 9, 10, 11, 12, 13]) (aSeq (aFor (aIt (aCB oLst (aCons (aC (.int 6)) (aCons (aC (.int 8)) (aCons (aC (.int 8)) (aCons (aC (.int 40)) (aNil))))))) (aNameF 4) (f_law_3)) (aSeq (aKill [4, 5, 6, 7, 8, 9, 10, 11, 12, 13]) (aSeq (aKill [12, 14]) (aSeq (aFor (aRng1 (aCons (aC (.int 4)) (aNil))) (aNameF 12) (f_law_0)) (aSeq (aKill [12, 14]) (aRet (aAndV (aOp (oIsB false) (aCallG false (den_come_to_the_same) [.f, .f] (aCons (aCB oLst (aNil)) (aCons (aCB oLst (aNil)) (aNil)))) (aC (.bool true))) (aAndV (aOp (oEq false) (aCallG false (den_layers_of) [.f] (aCons (aCB oLst (aNil)) (aNil))) (aCB oLst (aNil))) (aOp (oEq false) (aCallG false (den_least_order) [.f] (aCons (aCB oLst (aNil)) (aNil))) (aCB oLst (aNil))))))))))))))
def den_law : Den := run 1 15 false b_law
theorem dok_law : DenOk den_law := run_ok
theorem dv__law_state {P : Program} {w : World} {K : PySem.W.Frag} {mg : Str → Option Value} {base : Heap} (z_list : mg "list" = none) {f : Addr} {cdv : Value} {A : Around} {outer : List Env} {s : Shared} {H : Hp} {E : XK} (hr : Room 0 (A.deeper (envOfC "_law_state" (defScope s__law_state) s.heap.objs.size f cdv))) : PSs (cxOf CX0 P w K mg base N__law_state "_law_state" (defScope s__law_state) f cdv A outer s H E).nox (defBody s__law_state) (sL K (fun _ _ _ _ => False) b__law_state) := by
  exact (ss_one (s_ret (e_lst (a_cons (e_fz (e_callTy call_list_of co_list (by rfl) z_list (by decide +kernel) (a_cons (ev 0) a_nil))) (a_cons e_int (a_cons e_int (a_cons e_int (a_cons e_bl (a_cons e_int a_nil)))))))))
theorem dv__law_draw {P : Program} {w : World} {K : PySem.W.Frag} {mg : Str → Option Value} {base : Heap} (z_int : mg "int" = none) (z_len : mg "len" = none) {f : Addr} {cdv : Value} {A : Around} {outer : List Env} {s : Shared} {H : Hp} {E : XK} (hr : Room 0 (A.deeper (envOfC "_law_draw" (defScope s__law_draw) s.heap.objs.size f cdv))) : PSs (cxOf CX0 P w K mg base N__law_draw "_law_draw" (defScope s__law_draw) f cdv A outer s H E).nox (defBody s__law_draw) (sL K (fun _ _ _ _ => False) b__law_draw) := by
  exact (ss_cons (s_if (t_cmp (op_eqD hr.units) co_Eq (e_sub hr.units1 (ev 0) e_int (fun _ _ => rfl) (fun _ _ => rfl)) e_int (nomark _)) (ss_cons (s_if (t_cmp op_ge co_B0 (e_sub hr.units1 (ev 0) e_int (fun _ _ => rfl) (fun _ _ => rfl)) (e_callB call_lenB (co_vA co_lenA) (by rfl) z_len PySem.boot_len (a_cons (e_sub hr.units1 (ev 0) e_int (fun _ _ => rfl) (fun _ _ => rfl)) a_nil)) (nomark _)) (ss_one (s_ret e_int)) ss_nil)
    (ss_cons (s_setF (i := 2) sc__law_draw.nd rfl (Or.inl rfl) (e_sub hr.units1 (e_sub hr.units1 (ev 0) e_int (fun _ _ => rfl) (fun _ _ => rfl)) (e_sub hr.units1 (ev 0) e_int (fun _ _ => rfl) (fun _ _ => rfl)) (fun _ _ => rfl) (fun _ _ => rfl)))
    (ss_cons (s_if (t_cmp (op_LtA hr.units1) co_LtA (ev 2) e_int (nomark _)) (ss_one (s_setF (i := 2) sc__law_draw.nd rfl (Or.inl rfl) (e_op op_sub co_I0 (e_neg e_int) (ev 2)))) ss_nil)
    (ss_cons (s_put hr.units1 (e_op op_Add co_Add (e_sub hr.units1 (ev 0) e_int (fun _ _ => rfl) (fun _ _ => rfl)) e_int) (ev 0) e_int)
    (ss_cons (s_put hr.units1 (ev 2) (ev 0) e_int)
    (ss_cons (s_put hr.units1 (e_cmp op_ge co_B0 (ev 2) (e_op op_pow (co_I cPow_ok) e_int e_int) (nomark _)) (ev 0) e_int)
    (ss_cons (s_put hr.units1 e_int (ev 0) e_int)
    (ss_one (s_if (t_val (e_sub hr.units1 (ev 0) e_int (fun _ _ => rfl) (fun _ _ => rfl))) (ss_one (s_put hr.units1 e_int (ev 0) e_int)) ss_nil))))))))) ss_nil)
    (ss_kill [2] (ss_cons (s_put hr.units1 (e_op op_sub co_I0 (e_sub hr.units1 (ev 0) e_int (fun _ _ => rfl) (fun _ _ => rfl)) e_int) (ev 0) e_int)
    (ss_cons (s_if (t_val (e_sub hr.units1 (ev 0) e_int (fun _ _ => rfl) (fun _ _ => rfl))) (ss_cons (s_setF (i := 3) sc__law_draw.nd rfl (Or.inl rfl) (e_op op_mod (co_I hMod) (e_callTy call_intA co_intA (by rfl) z_int (by decide +kernel) (a_cons (e_sub hr.units1 (ev 0) e_int (fun _ _ => rfl) (fun _ _ => rfl)) a_nil)) (ev 1)))
    (ss_cons (s_put hr.units1 (e_op op_fdivW (co_I cDivW_ok) (e_sub hr.units1 (ev 0) e_int (fun _ _ => rfl) (fun _ _ => rfl)) (ev 1)) (ev 0) e_int)
    (ss_cons (s_if (t_cmp (op_eqD hr.units) co_Eq (e_sub hr.units1 (ev 0) e_int (fun _ _ => rfl) (fun _ _ => rfl)) e_int (nomark _)) (ss_one (s_put hr.units1 e_int (ev 0) e_int)) ss_nil)
    (ss_one (s_ret (ev 3)))))) ss_nil)
    (ss_kill [3] (ss_cons (s_setF (i := 4) sc__law_draw.nd rfl (Or.inl rfl) (e_op op_mod (co_I hMod) (e_callTy call_intA co_intA (by rfl) z_int (by decide +kernel) (a_cons (e_op op_Add co_Add (e_op op_Add co_Add (e_op op_Mul co_Mul (e_sub hr.units1 (ev 0) e_int (fun _ _ => rfl) (fun _ _ => rfl)) e_int) (e_op op_Mul co_Mul (e_sub hr.units1 (ev 0) e_int (fun _ _ => rfl) (fun _ _ => rfl)) e_int)) e_int) a_nil)) e_int))
    (ss_cons (s_setF (i := 4) sc__law_draw.nd rfl (Or.inl rfl) (e_op op_mod (co_I hMod) (e_callTy call_intA co_intA (by rfl) z_int (by decide +kernel) (a_cons (e_op op_Add co_Add (e_op op_Add co_Add (e_op op_Mul co_Mul (ev 4) (ev 4)) (e_op op_Mul co_Mul (e_sub hr.units1 (ev 0) e_int (fun _ _ => rfl) (fun _ _ => rfl)) e_int)) (e_sub hr.units1 (ev 0) e_int (fun _ _ => rfl) (fun _ _ => rfl))) a_nil)) e_int))
    (ss_one (s_ret (e_op op_mod (co_I hMod) (e_callTy call_intA co_intA (by rfl) z_int (by decide +kernel) (a_cons (ev 4) a_nil)) (ev 1)))))))))))
theorem dv__law_name {P : Program} {w : World} {K : PySem.W.Frag} {mg : Str → Option Value} {base : Heap} (z_int : mg "int" = none) (h__law_draw : Ok P w K mg base CX0 1 "_law_draw" ["state", "limit"] (den__law_draw)) {f : Addr} {cdv : Value} {A : Around} {outer : List Env} {s : Shared} {H : Hp} {E : XK} (hr : Room 1 (A.deeper (envOfC "_law_name" (defScope s__law_name) s.heap.objs.size f cdv))) : PSs (cxOf CX0 P w K mg base N__law_name "_law_name" (defScope s__law_name) f cdv A outer s H E).nox (defBody s__law_name) (sL K (fun _ _ _ _ => False) b__law_name) := by
  exact (ss_cons (s_setF (i := 1) sc__law_name.nd rfl (Or.inl rfl) e_str)
    (ss_cons (s_setF (i := 2) sc__law_name.nd rfl (Or.inl rfl) (e_op op_Add co_Add (ev 1) e_str))
    (ss_cons (s_setF (i := 3) sc__law_name.nd rfl (Or.inl rfl) (e_call (ms := [.m 0, .f]) h__law_draw dok__law_draw rfl pass0 (hr.mono (by decide)) (by rfl) (a_cons (ev 0) (a_cons e_int a_nil))))
    (ss_cons (s_setF (i := 4) sc__law_name.nd rfl (Or.inl rfl) (e_sub hr.units1 (ev 1) (e_op op_mod (co_I hMod) (e_callTy call_intA co_intA (by rfl) z_int (by decide +kernel) (a_cons (e_op op_fdiv (co_I cDiv_ok) (ev 3) e_int) a_nil)) e_int) (fun _ _ => rfl) (fun _ _ => rfl)))
    (ss_cons (s_setF (i := 5) sc__law_name.nd rfl (Or.inl rfl) (e_op op_Add co_Add (e_op op_Add co_Add (e_sub hr.units1 (ev 2) (e_op op_mod (co_I hMod) (e_callTy call_intA co_intA (by rfl) z_int (by decide +kernel) (a_cons (e_op op_fdiv (co_I cDiv_ok) (ev 3) e_int) a_nil)) e_int) (fun _ _ => rfl) (fun _ _ => rfl)) (e_sub hr.units1 (ev 2) (e_op op_mod (co_I hMod) (e_callTy call_intA co_intA (by rfl) z_int (by decide +kernel) (a_cons (e_op op_fdiv (co_I cDiv_ok) (ev 3) e_int) a_nil)) e_int) (fun _ _ => rfl) (fun _ _ => rfl))) (e_sub hr.units1 (ev 2) (e_op op_mod (co_I hMod) (e_callTy call_intA co_intA (by rfl) z_int (by decide +kernel) (a_cons (ev 3) a_nil)) e_int) (fun _ _ => rfl) (fun _ _ => rfl))))
    (ss_cons (s_if (t_cmp (op_eqD hr.units) co_Eq (e_call (ms := [.m 0, .f]) h__law_draw dok__law_draw rfl pass0 (hr.mono (by decide)) (by rfl) (a_cons (ev 0) (a_cons e_int a_nil))) e_int (nomark _)) (ss_one (s_setF (i := 4) sc__law_name.nd rfl (Or.inl rfl) (e_slice (e_op op_Add co_Add (ev 4) (e_op op_Mul co_Mul (ev 5) e_int)) o_none (o_some (e_op op_Add co_Add e_int (e_call (ms := [.m 0, .f]) h__law_draw dok__law_draw rfl pass0 (hr.mono (by decide)) (by rfl) (a_cons (ev 0) (a_cons e_int a_nil)))))))) (ss_one (s_setF (i := 4) sc__law_name.nd rfl (Or.inl rfl) (e_op op_Add co_Add (ev 4) (e_slice (ev 5) o_none (o_some (e_op op_mod (co_I hMod) (e_callTy call_intA co_intA (by rfl) z_int (by decide +kernel) (a_cons (ev 3) a_nil)) e_int)))))))
    (ss_cons (s_if (t_in hr.units1 (ev 4) (e_lst (a_cons e_str (a_cons e_str (a_cons e_str (a_cons e_str (a_cons e_str (a_cons e_str a_nil)))))))) (ss_one (s_ret (e_op op_Add co_Add (ev 4) e_str))) ss_nil)
    (ss_one (s_ret (ev 4))))))))))
theorem dv__law_names {P : Program} {w : World} {K : PySem.W.Frag} {mg : Str → Option Value} {base : Heap} (z_range : mg "range" = none) (z_str : mg "str" = none) (h__law_name : Ok P w K mg base CX0 2 "_law_name" ["state"] (den__law_name)) {f : Addr} {cdv : Value} {A : Around} {outer : List Env} {s : Shared} {H : Hp} {E : XK} (hr : Room 2 (A.deeper (envOfC "_law_names" (defScope s__law_names) s.heap.objs.size f cdv))) : PSs (cxOf CX0 P w K mg base N__law_names "_law_names" (defScope s__law_names) f cdv A outer s H E).nox (defBody s__law_names) (sL K (fun _ _ _ _ => False) b__law_names) := by
  exact (ss_cons (s_set (i := 3) sc__law_names.nd rfl (Or.inl rfl) (e_lst a_nil))
    (ss_kill [4, 5, 6] (ss_cons (s_for (gt := gName 4) PassesOwn.never rfl (i_range1 (by rfl) z_range (a_cons (ev 1) a_nil)) (pg_name (i := 4) sc__law_names.nd rfl (Or.inl rfl)) gr_nameF (ss_killE [4, 5, 6] (ss_cons (s_setF (i := 5) sc__law_names.nd rfl (Or.inl rfl) (e_call (ms := [.m 0]) h__law_name dok__law_name rfl pass0 (hr.mono (by decide)) (by rfl) (a_cons (ev 0) a_nil)))
    (ss_kill [6] (ss_cons (s_for (gt := gName 6) PassesOwn.never rfl (i_range1 (by rfl) z_range (a_cons e_int a_nil)) (pg_name (i := 6) sc__law_names.nd rfl (Or.inl rfl)) gr_nameF (ss_killE [6] (ss_one (s_if (t_w (w_or (t_in hr.units1 (ev 5) (ev 3)) (w_or1 (t_in hr.units1 (ev 5) (ev 2))))) (ss_one (s_setF (i := 5) sc__law_names.nd rfl (Or.inl rfl) (e_op op_Add co_Add (e_op op_Add co_Add (e_slice (ev 5) o_none (o_some e_int)) e_str) (e_callTy call_str_int co_str (by rfl) z_str (by decide +kernel) (a_cons (ev 6) a_nil))))) ss_nil))))
    (ss_kill [6] (ss_one (s_expr (e_bm PySem.F.plainAttrs_list PySem.F.slot_list_append PySem.F.type_list_append mt_append co_append (ev 3) (a_cons (ev 5) a_nil))))))))))
    (ss_kill [4, 5, 6] (ss_one (s_ret (ev 3)))))))
theorem dv__law_run {P : Program} {w : World} {K : PySem.W.Frag} {mg : Str → Option Value} {base : Heap} (z_range : mg "range" = none) (z_len : mg "len" = none) (z_int : mg "int" = none) (h__law_draw : Ok P w K mg base CX0 1 "_law_draw" ["state", "limit"] (den__law_draw)) {f : Addr} {cdv : Value} {A : Around} {outer : List Env} {s : Shared} {H : Hp} {E : XK} (hr : Room 1 (A.deeper (envOfC "_law_run" (defScope s__law_run) s.heap.objs.size f cdv))) : PSs (cxOf CX0 P w K mg base N__law_run "_law_run" (defScope s__law_run) f cdv A outer s H E).nox (defBody s__law_run) (sL K (fun _ _ _ _ => False) b__law_run) := by
  exact (ss_cons (s_set (i := 4) sc__law_run.nd rfl (Or.inl rfl) (e_lst a_nil))
    (ss_kill [5, 6, 7] (ss_cons (s_for (gt := gName 5) PassesOwn.never rfl (i_range1 (by rfl) z_range (a_cons (e_call (ms := [.m 0, .f]) h__law_draw dok__law_draw rfl pass0 (hr.mono (by decide)) (by rfl) (a_cons (ev 0) (a_cons (e_op op_Add co_Add (ev 3) e_int) a_nil))) a_nil)) (pg_name (i := 5) sc__law_run.nd rfl (Or.inl rfl)) gr_nameF (ss_killE [5, 6, 7] (ss_cons (s_setF (i := 6) sc__law_run.nd rfl (Or.inl rfl) (e_call (ms := [.m 0, .f]) h__law_draw dok__law_draw rfl pass0 (hr.mono (by decide)) (by rfl) (a_cons (ev 0) (a_cons (e_callB call_lenB (co_vA co_lenA) (by rfl) z_len PySem.boot_len (a_cons (ev 1) a_nil)) a_nil))))
    (ss_cons (s_setF (i := 7) sc__law_run.nd rfl (Or.inl rfl) (e_op op_mod (co_I hMod) (e_callTy call_intA co_intA (by rfl) z_int (by decide +kernel) (a_cons (e_op op_Add co_Add (e_op op_Add co_Add (ev 6) e_int) (e_call (ms := [.m 0, .f]) h__law_draw dok__law_draw rfl pass0 (hr.mono (by decide)) (by rfl) (a_cons (ev 0) (a_cons (e_op op_sub co_I0 (e_callB call_lenB (co_vA co_lenA) (by rfl) z_len PySem.boot_len (a_cons (ev 1) a_nil)) e_int) a_nil)))) a_nil)) (e_callB call_lenB (co_vA co_lenA) (by rfl) z_len PySem.boot_len (a_cons (ev 1) a_nil))))
    (ss_one (s_expr (e_bm PySem.F.plainAttrs_list PySem.F.slot_list_append PySem.F.type_list_append mt_append co_append (ev 4) (a_cons (e_tup (a_cons (e_sub hr.units1 (ev 1) (ev 6) (fun _ _ => rfl) (fun _ _ => rfl)) (a_cons (e_sub hr.units1 (ev 1) (ev 7) (fun _ _ => rfl) (fun _ _ => rfl)) (a_cons (e_sub hr.units1 (ev 2) (e_call (ms := [.m 0, .f]) h__law_draw dok__law_draw rfl pass0 (hr.mono (by decide)) (by rfl) (a_cons (ev 0) (a_cons (e_callB call_lenB (co_vA co_lenA) (by rfl) z_len PySem.boot_len (a_cons (ev 2) a_nil)) a_nil))) (fun _ _ => rfl) (fun _ _ => rfl)) a_nil)))) a_nil))))))))
    (ss_kill [5, 6, 7] (ss_one (s_ret (ev 4)))))))
theorem dv__law_apart {P : Program} {w : World} {K : PySem.W.Frag} {mg : Str → Option Value} {base : Heap} (z_len : mg "len" = none) {f : Addr} {cdv : Value} {A : Around} {outer : List Env} {s : Shared} {H : Hp} {E : XK} (hr : Room 0 (A.deeper (envOfC "_law_apart" (defScope s__law_apart) s.heap.objs.size f cdv))) : PSs (cxOf CX0 P w K mg base N__law_apart "_law_apart" (defScope s__law_apart) f cdv A outer s H E).nox (defBody s__law_apart) (sL K (fun _ _ _ _ => False) b__law_apart) := by
  exact (ss_one (s_ret (e_cmp (op_eqD hr.units) co_Eq (e_callB call_lenB (co_vA co_lenA) (by rfl) z_len PySem.boot_len (a_cons (e_lc (own := [("party", 2)]) (gt := gName 2) rfl sc__law_apart.nd (i_it (e_slice (ev 0) o_none (o_some e_int))) (blkOk_by (own := [("party", 2)]) (N := N__law_apart) (sc := defScope s__law_apart) (by decide +kernel)) (fun _ _ _ _ _ => (pg_name (i := 2) sc__law_apart.nd rfl (Or.inl rfl))) gr_nameF (gw_name (by decide)) mono_name (fun _ _ _ _ _ => (ts_one (t_in hr.units1 (ev 2) (e_slice (ev 1) o_none (o_some e_int))))) (fun _ _ _ _ _ => (ev 2))) a_nil)) e_int (nomark _))))
theorem dv__law_layers {P : Program} {w : World} {K : PySem.W.Frag} {mg : Str → Option Value} {base : Heap} (z_max : mg "max" = none) (z_range : mg "range" = none) (z_len : mg "len" = none) (z_sorted : mg "sorted" = none) (h__law_apart : Ok P w K mg base CX0 1 "_law_apart" ["one", "two"] (den__law_apart)) {f : Addr} {cdv : Value} {A : Around} {outer : List Env} {s : Shared} {H : Hp} {E : XK} (hr : Room 1 (A.deeper (envOfC "_law_layers" (defScope s__law_layers) s.heap.objs.size f cdv))) : PSs (cxOf CX0 P w K mg base N__law_layers "_law_layers" (defScope s__law_layers) f cdv A outer s H E).nox (defBody s__law_layers) (sL K (fun _ _ _ _ => False) b__law_layers) := by
  exact (ss_cons (s_set (i := 1) sc__law_layers.nd rfl (Or.inr rfl) (e_lst a_nil))
    (ss_kill [3] (ss_cons (s_for (gt := gName 2) PassesOwn.never rfl (i_range1 (by rfl) z_range (a_cons (e_callB call_lenB (co_vA co_lenA) (by rfl) z_len PySem.boot_len (a_cons (ev 0) a_nil)) a_nil)) (pg_name (i := 2) sc__law_layers.nd rfl (Or.inr rfl)) gr_nameF (ss_killE [3] (ss_cons (s_setLcG (i := 3) (own := [("j", 6)]) (gt := gName 6) gr_nameF rfl sc__law_layers.nd rfl rfl (sw_true rfl rfl rfl (by decide +kernel)) (i_range1 (by rfl) z_range (a_cons (ev 2) a_nil)) (blkOk_by (own := [("j", 6)]) (N := N__law_layers) (sc := defScope s__law_layers) (by decide +kernel)) (fun _ _ _ _ _ => (pg_name (i := 6) sc__law_layers.nd rfl (Or.inl rfl))) gr_nameF (gw_name (by decide)) mono_name (fun _ _ _ _ _ => (ts_one (t_not (t_val (e_call (ms := [.f, .f]) h__law_apart dok__law_apart rfl pass0 (hr.mono (by decide)) (by rfl) (a_cons (e_sub hr.units1 (ev 0) (ev 6) (fun _ _ => rfl) (fun _ _ => rfl)) (a_cons (e_sub hr.units1 (ev 0) (ev 2) (fun _ _ => rfl) (fun _ _ => rfl)) a_nil))))))) (fun _ _ _ _ _ => (e_sub hr.units1 (ev 1) (ev 6) (fun _ _ => rfl) (fun _ _ => rfl))))
    (ss_one (s_expr (e_bm PySem.F.plainAttrs_list PySem.F.slot_list_append PySem.F.type_list_append mt_append co_append (ev 1) (a_cons (e_op op_Add co_Add e_int (e_callB (call_maxA hr.units1) co_maxA (by rfl) z_max (by decide +kernel) (a_cons (e_op op_Add co_Add (ev 3) (e_lst (a_cons e_int a_nil))) a_nil))) a_nil)))))))
    (ss_kill [3] (ss_cons (s_set (i := 4) sc__law_layers.nd rfl (Or.inl rfl) (e_lst a_nil))
    (ss_kill [5] (ss_cons (s_for (gt := gName 5) PassesOwn.never rfl (i_range2 (by rfl) z_range (a_cons e_int (a_cons (e_op op_Add co_Add (e_callB (call_maxA hr.units1) co_maxA (by rfl) z_max (by decide +kernel) (a_cons (e_op op_Add co_Add (ev 1) (e_lst (a_cons e_int a_nil))) a_nil)) e_int) a_nil))) (pg_name (i := 5) sc__law_layers.nd rfl (Or.inr rfl)) gr_nameF (ss_killE [5] (ss_one (s_expr (e_bm PySem.F.plainAttrs_list PySem.F.slot_list_append PySem.F.type_list_append mt_append co_append (ev 4) (a_cons (e_callB (call_sortedA hr.units1) co_sorted (by rfl) z_sorted (by decide +kernel) (a_cons (e_lc (own := [("k", 2)]) (gt := gName 2) rfl sc__law_layers.nd (i_range1 (by rfl) z_range (a_cons (e_callB call_lenB (co_vA co_lenA) (by rfl) z_len PySem.boot_len (a_cons (ev 0) a_nil)) a_nil)) (blkOk_by (own := [("k", 2)]) (N := N__law_layers) (sc := defScope s__law_layers) (by decide +kernel)) (fun _ _ _ _ _ => (pg_name (i := 2) sc__law_layers.nd rfl (Or.inl rfl))) gr_nameF (gw_name (by decide)) mono_name (fun _ _ _ _ _ => (ts_one (t_cmp (op_eqD hr.units) co_Eq (e_sub hr.units1 (ev 1) (ev 2) (fun _ _ => rfl) (fun _ _ => rfl)) (ev 5) (nomark _)))) (fun _ _ _ _ _ => (e_sub hr.units1 (ev 0) (ev 2) (fun _ _ => rfl) (fun _ _ => rfl)))) a_nil)) a_nil))))))
    (ss_kill [5] (ss_one (s_ret (ev 4)))))))))))
theorem dv_layers_of {P : Program} {w : World} {K : PySem.W.Frag} {mg : Str → Option Value} {base : Heap} (z_sorted : mg "sorted" = none) (z_len : mg "len" = none) (z_max : mg "max" = none) {f : Addr} {cdv : Value} {A : Around} {outer : List Env} {s : Shared} {H : Hp} {E : XK} (hr : Room 0 (A.deeper (envOfC "layers_of" (defScope s_layers_of) s.heap.objs.size f cdv))) : PSs (cxOf CX0 P w K mg base N_layers_of "layers_of" (defScope s_layers_of) f cdv A outer s H E).nox (defBody s_layers_of) (sL K (fun _ _ _ _ => False) b_layers_of) := by
  exact (ss_cons (s_set (i := 1) sc_layers_of.nd rfl (Or.inl rfl) (e_lst a_nil))
    (ss_cons (s_set (i := 2) sc_layers_of.nd rfl (Or.inl rfl) e_dnewK)
    (ss_kill [3, 4] (ss_cons (s_for (gt := gName 3) PassesOwn.never rfl (i_it (ev 0)) (pg_name (i := 3) sc_layers_of.nd rfl (Or.inl rfl)) gr_nameF (ss_killE [3, 4] (ss_cons (s_setF (i := 4) sc_layers_of.nd rfl (Or.inl rfl) (e_callB (call_maxA hr.units1) co_maxA (by rfl) z_max (by decide +kernel) (a_cons (e_get2 hr.units1 (ev 2) (e_sub hr.units1 (ev 3) e_int (fun _ _ => rfl) (fun _ _ => rfl)) e_int) (a_cons (e_get2 hr.units1 (ev 2) (e_sub hr.units1 (ev 3) e_int (fun _ _ => rfl) (fun _ _ => rfl)) e_int) a_nil))))
    (ss_cons (s_if (t_cmp (op_eqD hr.units) co_Eq (ev 4) (e_callB call_lenB (co_vA co_lenA) (by rfl) z_len PySem.boot_len (a_cons (ev 1) a_nil)) (nomark _)) (ss_one (s_expr (e_bm PySem.F.plainAttrs_list PySem.F.slot_list_append PySem.F.type_list_append mt_append co_append (ev 1) (a_cons (e_lst a_nil) a_nil)))) ss_nil)
    (ss_cons (s_expr (e_bm PySem.F.plainAttrs_list PySem.F.slot_list_append PySem.F.type_list_append mt_append co_append (e_sub hr.units1 (ev 1) (ev 4) (fun _ _ => rfl) (fun _ _ => rfl)) (a_cons (ev 3) a_nil)))
    (ss_cons (s_put hr.units1 (e_op op_Add co_Add (ev 4) e_int) (ev 2) (e_sub hr.units1 (ev 3) e_int (fun _ _ => rfl) (fun _ _ => rfl)))
    (ss_one (s_put hr.units1 (e_op op_Add co_Add (ev 4) e_int) (ev 2) (e_sub hr.units1 (ev 3) e_int (fun _ _ => rfl) (fun _ _ => rfl))))))))))
    (ss_kill [3, 4] (ss_one (s_ret (e_lc (own := [("layer", 5)]) (gt := gName 5) rfl sc_layers_of.nd (i_it (e_fz (ev 1))) (blkOk_by (own := [("layer", 5)]) (N := N_layers_of) (sc := defScope s_layers_of) (by decide +kernel)) (fun _ _ _ _ _ => (pg_name (i := 5) sc_layers_of.nd rfl (Or.inl rfl))) gr_nameF (gw_name (by decide)) mono_name (fun _ _ _ _ _ => ts_nil) (fun _ _ _ _ _ => (e_callB (call_sortedA hr.units1) co_sorted (by rfl) z_sorted (by decide +kernel) (a_cons (ev 5) a_nil)))))))))))
theorem dv__law_class {P : Program} {w : World} {K : PySem.W.Frag} {mg : Str → Option Value} {base : Heap} (z_len : mg "len" = none) (z_range : mg "range" = none) (h__law_apart : Ok P w K mg base CX0 1 "_law_apart" ["one", "two"] (den__law_apart)) {f : Addr} {cdv : Value} {A : Around} {outer : List Env} {s : Shared} {H : Hp} {E : XK} (hr : Room 1 (A.deeper (envOfC "_law_class" (defScope s__law_class) s.heap.objs.size f cdv))) : PSs (cxOf CX0 P w K mg base N__law_class "_law_class" (defScope s__law_class) f cdv A outer s H E).nox (defBody s__law_class) (sL K (fun _ _ _ _ => False) b__law_class) := by
  exact (ss_cons (s_set (i := 1) sc__law_class.nd rfl (Or.inl rfl) (e_lst (a_cons (ev 0) a_nil)))
    (ss_cons (s_setF (i := 2) sc__law_class.nd rfl (Or.inl rfl) e_int)
    (ss_kill [3, 4, 5] (ss_cons (s_while PassesOwn.never (t_w (w_and (t_cmp (op_LtA hr.units1) co_LtA (ev 2) (e_callB call_lenB (co_vA co_lenA) (by rfl) z_len PySem.boot_len (a_cons (ev 1) a_nil)) (nomark _)) (w_and1 (t_cmp (op_LtA hr.units1) co_LtA (e_callB call_lenB (co_vA co_lenA) (by rfl) z_len PySem.boot_len (a_cons (ev 1) a_nil)) e_int (nomark _))))) (ss_killE [3, 4, 5] (ss_cons (s_setF (i := 3) sc__law_class.nd rfl (Or.inl rfl) (e_sub hr.units1 (ev 1) (ev 2) (fun _ _ => rfl) (fun _ _ => rfl)))
    (ss_kill [4, 5] (ss_cons (s_for (gt := gName 4) PassesOwn.never rfl (i_range1 (by rfl) z_range (a_cons (e_op op_sub co_I0 (e_callB call_lenB (co_vA co_lenA) (by rfl) z_len PySem.boot_len (a_cons (ev 3) a_nil)) e_int) a_nil)) (pg_name (i := 4) sc__law_class.nd rfl (Or.inl rfl)) gr_nameF (ss_killE [4, 5] (ss_one (s_if (t_val (e_call (ms := [.f, .f]) h__law_apart dok__law_apart rfl pass0 (hr.mono (by decide)) (by rfl) (a_cons (e_sub hr.units1 (ev 3) (ev 4) (fun _ _ => rfl) (fun _ _ => rfl)) (a_cons (e_sub hr.units1 (ev 3) (e_op op_Add co_Add (ev 4) e_int) (fun _ _ => rfl) (fun _ _ => rfl)) a_nil)))) (ss_cons (s_setF (i := 5) sc__law_class.nd rfl (Or.inl rfl) (e_op op_Add co_Add (e_op op_Add co_Add (e_slice (ev 3) o_none (o_some (ev 4))) (e_lst (a_cons (e_sub hr.units1 (ev 3) (e_op op_Add co_Add (ev 4) e_int) (fun _ _ => rfl) (fun _ _ => rfl)) (a_cons (e_sub hr.units1 (ev 3) (ev 4) (fun _ _ => rfl) (fun _ _ => rfl)) a_nil)))) (e_slice (ev 3) (o_some (e_op op_Add co_Add (ev 4) e_int)) o_none)))
    (ss_one (s_if (t_notin hr.units1 (ev 5) (ev 1)) (ss_one (s_expr (e_bm PySem.F.plainAttrs_list PySem.F.slot_list_append PySem.F.type_list_append mt_append co_append (ev 1) (a_cons (ev 5) a_nil)))) ss_nil))) ss_nil))))
    (ss_kill [4, 5] (ss_one (s_setF (i := 2) sc__law_class.nd rfl (Or.inl rfl) (e_op op_Add co_Add (ev 2) e_int)))))))))
    (ss_kill [2, 3, 4, 5] (ss_one (s_ret (ev 1))))))))
theorem dv__law_other {P : Program} {w : World} {K : PySem.W.Frag} {mg : Str → Option Value} {base : Heap} (z_len : mg "len" = none) (h__law_draw : Ok P w K mg base CX0 1 "_law_draw" ["state", "limit"] (den__law_draw)) (h__law_run : Ok P w K mg base CX0 2 "_law_run" ["state", "parties", "labels", "most"] (den__law_run)) {f : Addr} {cdv : Value} {A : Around} {outer : List Env} {s : Shared} {H : Hp} {E : XK} (hr : Room 2 (A.deeper (envOfC "_law_other" (defScope s__law_other) s.heap.objs.size f cdv))) : PSs (cxOf CX0 P w K mg base N__law_other "_law_other" (defScope s__law_other) f cdv A outer s H E).nox (defBody s__law_other) (sL K (fun _ _ _ _ => False) b__law_other) := by
  exact (ss_cons (s_if (t_cmp (op_LtA hr.units1) co_LtA (e_callB call_lenB (co_vA co_lenA) (by rfl) z_len PySem.boot_len (a_cons (ev 1) a_nil)) e_int (nomark _)) (ss_one (s_ret (e_op op_Add co_Add (ev 1) (e_call (ms := [.m 0, .f, .f, .f]) h__law_run dok__law_run rfl pass0 (hr.mono (by decide)) (by rfl) (a_cons (ev 0) (a_cons (ev 2) (a_cons (ev 3) (a_cons e_int a_nil)))))))) ss_nil)
    (ss_cons (s_setF (i := 4) sc__law_other.nd rfl (Or.inl rfl) (e_call (ms := [.m 0, .f]) h__law_draw dok__law_draw rfl pass0 (hr.mono (by decide)) (by rfl) (a_cons (ev 0) (a_cons (e_op op_sub co_I0 (e_callB call_lenB (co_vA co_lenA) (by rfl) z_len PySem.boot_len (a_cons (ev 1) a_nil)) e_int) a_nil))))
    (ss_cons (s_setF (i := 5) sc__law_other.nd rfl (Or.inl rfl) (e_call (ms := [.m 0, .f]) h__law_draw dok__law_draw rfl pass0 (hr.mono (by decide)) (by rfl) (a_cons (ev 0) (a_cons e_int a_nil))))
    (ss_cons (s_if (t_cmp (op_eqD hr.units) co_Eq (ev 5) e_int (nomark _)) (ss_one (s_ret (e_op op_Add co_Add (e_slice (ev 1) o_none (o_some (ev 4))) (e_slice (ev 1) (o_some (e_op op_Add co_Add (ev 4) e_int)) o_none)))) ss_nil)
    (ss_cons (s_if (t_cmp (op_eqD hr.units) co_Eq (ev 5) e_int (nomark _)) (ss_one (s_ret (e_op op_Add co_Add (e_op op_Add co_Add (e_slice (ev 1) o_none (o_some (ev 4))) (e_lst (a_cons (e_tup (a_cons (e_sub hr.units1 (e_sub hr.units1 (ev 1) (ev 4) (fun _ _ => rfl) (fun _ _ => rfl)) e_int (fun _ _ => rfl) (fun _ _ => rfl)) (a_cons (e_sub hr.units1 (e_sub hr.units1 (ev 1) (ev 4) (fun _ _ => rfl) (fun _ _ => rfl)) e_int (fun _ _ => rfl) (fun _ _ => rfl)) (a_cons (e_sub hr.units1 (e_sub hr.units1 (ev 1) (ev 4) (fun _ _ => rfl) (fun _ _ => rfl)) e_int (fun _ _ => rfl) (fun _ _ => rfl)) a_nil)))) a_nil))) (e_slice (ev 1) (o_some (e_op op_Add co_Add (ev 4) e_int)) o_none)))) ss_nil)
    (ss_one (s_ret (e_op op_Add co_Add (e_op op_Add co_Add (e_slice (ev 1) o_none (o_some (ev 4))) (e_lst (a_cons (e_sub hr.units1 (ev 1) (e_op op_Add co_Add (ev 4) e_int) (fun _ _ => rfl) (fun _ _ => rfl)) (a_cons (e_sub hr.units1 (ev 1) (ev 4) (fun _ _ => rfl) (fun _ _ => rfl)) a_nil)))) (e_slice (ev 1) (o_some (e_op op_Add co_Add (ev 4) e_int)) o_none)))))))))
theorem dv__law_truth {P : Program} {w : World} {K : PySem.W.Frag} {mg : Str → Option Value} {base : Heap}  {f : Addr} {cdv : Value} {A : Around} {outer : List Env} {s : Shared} {H : Hp} {E : XK} (hr : Room 0 (A.deeper (envOfC "_law_truth" (defScope s__law_truth) s.heap.objs.size f cdv))) : PSs (cxOf CX0 P w K mg base N__law_truth "_law_truth" (defScope s__law_truth) f cdv A outer s H E).nox (defBody s__law_truth) (sL K (fun _ _ _ _ => False) b__law_truth) := by
  exact (ss_cons (s_if (t_val (ev 1)) (ss_one (s_ret (e_cmp op_isBl co_isB (ev 0) e_bl (nomark _)))) ss_nil)
    (ss_one (s_ret (e_cmp op_isBl co_isB (ev 0) e_bl (nomark _)))))
theorem dv_come_to_the_same {P : Program} {w : World} {K : PySem.W.Frag} {mg : Str → Option Value} {base : Heap} (h_layers_of : Ok P w K mg base CX0 1 "layers_of" ["run"] (den_layers_of)) {f : Addr} {cdv : Value} {A : Around} {outer : List Env} {s : Shared} {H : Hp} {E : XK} (hr : Room 1 (A.deeper (envOfC "come_to_the_same" (defScope s_come_to_the_same) s.heap.objs.size f cdv))) : PSs (cxOf CX0 P w K mg base N_come_to_the_same "come_to_the_same" (defScope s_come_to_the_same) f cdv A outer s H E).nox (defBody s_come_to_the_same) (sL K (fun _ _ _ _ => False) b_come_to_the_same) := by
  exact (ss_one (s_ret (e_cmp (op_eqD hr.units) co_Eq (e_call (ms := [.f]) h_layers_of dok_layers_of rfl pass0 (hr.mono (by decide)) (by rfl) (a_cons (ev 0) a_nil)) (e_call (ms := [.f]) h_layers_of dok_layers_of rfl pass0 (hr.mono (by decide)) (by rfl) (a_cons (ev 1) a_nil)) (nomark _))))
theorem dv_are_apart {P : Program} {w : World} {K : PySem.W.Frag} {mg : Str → Option Value} {base : Heap}  {f : Addr} {cdv : Value} {A : Around} {outer : List Env} {s : Shared} {H : Hp} {E : XK} (hr : Room 0 (A.deeper (envOfC "are_apart" (defScope s_are_apart) s.heap.objs.size f cdv))) : PSs (cxOf CX0 P w K mg base N_are_apart "are_apart" (defScope s_are_apart) f cdv A outer s H E).nox (defBody s_are_apart) (sL K (fun _ _ _ _ => False) b_are_apart) := by
  exact (ss_one (s_ret (e_and (e_notin hr.units1 (e_sub hr.units1 (ev 0) e_int (fun _ _ => rfl) (fun _ _ => rfl)) (e_slice (ev 1) o_none (o_some e_int))) (e_one (e_notin hr.units1 (e_sub hr.units1 (ev 0) e_int (fun _ _ => rfl) (fun _ _ => rfl)) (e_slice (ev 1) o_none (o_some e_int)))))))
theorem dv_least_order {P : Program} {w : World} {K : PySem.W.Frag} {mg : Str → Option Value} {base : Heap} (z_enumerate : mg "enumerate" = none) (z_list : mg "list" = none) (h_are_apart : Ok P w K mg base CX0 1 "are_apart" ["one", "other"] (den_are_apart)) {f : Addr} {cdv : Value} {A : Around} {outer : List Env} {s : Shared} {H : Hp} {E : XK} (hr : Room 1 (A.deeper (envOfC "least_order" (defScope s_least_order) s.heap.objs.size f cdv))) : PSs (cxOf CX0 P w K mg base N_least_order "least_order" (defScope s_least_order) f cdv A outer s H E).nox (defBody s_least_order) (sL K (fun _ _ _ _ => False) b_least_order) := by
  exact (ss_cons (s_set (i := 1) sc_least_order.nd rfl (Or.inl rfl) (e_callTy call_list_of co_list (by rfl) z_list (by decide +kernel) (a_cons (ev 0) a_nil)))
    (ss_cons (s_set (i := 2) sc_least_order.nd rfl (Or.inl rfl) (e_lst a_nil))
    (ss_kill [3, 4, 5] (ss_cons (s_while PassesOwn.never (t_tru (ev 1)) (ss_killE [3, 4, 5] (ss_cons (s_setF (i := 3) sc_least_order.nd rfl (Or.inl rfl) e_non)
    (ss_kill [4, 5] (ss_cons (s_for (gt := gTup _ 2 (gCons (gName 4) (gCons (gName 5) (gNil)))) PassesOwn.never rfl (i_enum (by rfl) z_enumerate (a_cons (ev 1) a_nil)) (pg_tup rfl (pgs_cons (pg_name (i := 4) sc_least_order.nd rfl (Or.inl rfl)) (pgs_cons (pg_name (i := 5) sc_least_order.nd rfl (Or.inr rfl)) pgs_nil))) (gr_tup (gr_cons gr_nameF (gr_cons gr_nameF gr_nil))) (ss_killE [4, 5] (ss_one (s_if (t_cmp (op_eqD hr.units) co_Eq (e_lc (own := [("other", 6)]) (gt := gName 6) rfl sc_least_order.nd (i_it (e_slice (ev 1) o_none (o_some (ev 4)))) (blkOk_by (own := [("other", 6)]) (N := N_least_order) (sc := defScope s_least_order) (by decide +kernel)) (fun _ _ _ _ _ => (pg_name (i := 6) sc_least_order.nd rfl (Or.inl rfl))) gr_nameF (gw_name (by decide)) mono_name (fun _ _ _ _ _ => (ts_one (t_not (t_val (e_call (ms := [.f, .f]) h_are_apart dok_are_apart rfl pass0 (hr.mono (by decide)) (by rfl) (a_cons (ev 6) (a_cons (ev 5) a_nil))))))) (fun _ _ _ _ _ => (ev 6))) (e_lst a_nil) (nomark _)) (ss_one (s_if (t_w (w_or (t_cmp op_isN co_isN (ev 3) e_non (nomark _)) (w_or1 (t_cmp (op_LtA hr.units1) co_LtA (ev 5) (e_sub hr.units1 (ev 1) (ev 3) (fun _ _ => rfl) (fun _ _ => rfl)) (nomark _))))) (ss_one (s_setF (i := 3) sc_least_order.nd rfl (Or.inl rfl) (ev 4))) ss_nil)) ss_nil))))
    (ss_kill [4, 5] (ss_one (s_expr (e_bm PySem.F.plainAttrs_list PySem.F.slot_list_append PySem.F.type_list_append mt_append co_append (ev 2) (a_cons (e_bm PySem.F.plainAttrs_list PySem.F.slot_list_pop PySem.F.type_list_pop mt_popAt co_popAt (ev 1) (a_cons (ev 3) a_nil)) a_nil))))))))))
    (ss_kill [3, 4, 5] (ss_one (s_ret (ev 2))))))))
theorem dv__law_least {P : Program} {w : World} {K : PySem.W.Frag} {mg : Str → Option Value} {base : Heap} (z_len : mg "len" = none) (z_range : mg "range" = none) (z_min : mg "min" = none) (z_list : mg "list" = none) (h__law_apart : Ok P w K mg base CX0 1 "_law_apart" ["one", "two"] (den__law_apart)) {f : Addr} {cdv : Value} {A : Around} {outer : List Env} {s : Shared} {H : Hp} {E : XK} (hr : Room 1 (A.deeper (envOfC "_law_least" (defScope s__law_least) s.heap.objs.size f cdv))) : PSs (cxOf CX0 P w K mg base N__law_least "_law_least" (defScope s__law_least) f cdv A outer s H E).nox (defBody s__law_least) (sL K (fun _ _ _ _ => False) b__law_least) := by
  exact (ss_cons (s_setF (i := 1) sc__law_least.nd rfl (Or.inr rfl) (e_callTy call_list_of co_list (by rfl) z_list (by decide +kernel) (a_cons (ev 0) a_nil)))
    (ss_cons (s_set (i := 2) sc__law_least.nd rfl (Or.inl rfl) (e_lst a_nil))
    (ss_kill [3, 4, 5, 6] (ss_cons (s_for (gt := gName 3) PassesOwn.never rfl (i_range1 (by rfl) z_range (a_cons (e_callB call_lenB (co_vA co_lenA) (by rfl) z_len PySem.boot_len (a_cons (ev 0) a_nil)) a_nil)) (pg_name (i := 3) sc__law_least.nd rfl (Or.inl rfl)) gr_nameF (ss_killE [3, 4, 5, 6] (ss_cons (s_set (i := 4) sc__law_least.nd rfl (Or.inl rfl) (e_lst a_nil))
    (ss_kill [5] (ss_cons (s_for (gt := gName 5) PassesOwn.never rfl (i_range1 (by rfl) z_range (a_cons (e_callB call_lenB (co_vA co_lenA) (by rfl) z_len PySem.boot_len (a_cons (ev 1) a_nil)) a_nil)) (pg_name (i := 5) sc__law_least.nd rfl (Or.inr rfl)) gr_nameF (ss_killE [5] (ss_one (s_if (t_cmp (op_eqD hr.units) co_Eq (e_callB call_lenB (co_vA co_lenA) (by rfl) z_len PySem.boot_len (a_cons (e_lc (own := [("j", 7)]) (gt := gName 7) rfl sc__law_least.nd (i_range1 (by rfl) z_range (a_cons (ev 5) a_nil)) (blkOk_by (own := [("j", 7)]) (N := N__law_least) (sc := defScope s__law_least) (by decide +kernel)) (fun _ _ _ _ _ => (pg_name (i := 7) sc__law_least.nd rfl (Or.inl rfl))) gr_nameF (gw_name (by decide)) mono_name (fun _ _ _ _ _ => (ts_one (t_not (t_val (e_call (ms := [.f, .f]) h__law_apart dok__law_apart rfl pass0 (hr.mono (by decide)) (by rfl) (a_cons (e_sub hr.units1 (ev 1) (ev 7) (fun _ _ => rfl) (fun _ _ => rfl)) (a_cons (e_sub hr.units1 (ev 1) (ev 5) (fun _ _ => rfl) (fun _ _ => rfl)) a_nil))))))) (fun _ _ _ _ _ => (ev 7))) a_nil)) e_int (nomark _)) (ss_one (s_expr (e_bm PySem.F.plainAttrs_list PySem.F.slot_list_append PySem.F.type_list_append mt_append co_append (ev 4) (a_cons (e_tup (a_cons (e_sub hr.units1 (ev 1) (ev 5) (fun _ _ => rfl) (fun _ _ => rfl)) (a_cons (ev 5) a_nil))) a_nil)))) ss_nil))))
    (ss_kill [5] (ss_cons (s_asg (gt := gTup _ 2 (gCons (gName 6) (gCons (gName 5) (gNil)))) (pg_tup rfl (pgs_cons (pg_name (i := 6) sc__law_least.nd rfl (Or.inl rfl)) (pgs_cons (pg_name (i := 5) sc__law_least.nd rfl (Or.inr rfl)) pgs_nil))) (gr_tup (gr_cons gr_nameF (gr_cons gr_nameF gr_nil))) (e_callB (call_minA hr.units1) co_minA (by rfl) z_min (by decide +kernel) (a_cons (ev 4) a_nil)))
    (ss_cons (s_expr (e_bm PySem.F.plainAttrs_list PySem.F.slot_list_append PySem.F.type_list_append mt_append co_append (ev 2) (a_cons (ev 6) a_nil)))
    (ss_one (s_setF (i := 1) sc__law_least.nd rfl (Or.inr rfl) (e_op op_Add co_Add (e_slice (ev 1) o_none (o_some (ev 5))) (e_slice (ev 1) (o_some (e_op op_Add co_Add (ev 5) e_int)) o_none))))))))))))
    (ss_kill [1, 3, 4, 5, 6] (ss_one (s_ret (ev 2))))))))
theorem dv_law {P : Program} {w : World} {K : PySem.W.Frag} {mg : Str → Option Value} {base : Heap} (z_range : mg "range" = none) (z_len : mg "len" = none) (z_min : mg "min" = none) (z_isinstance : mg "isinstance" = none) (z_list : mg "list" = none) (h_come_to_the_same : Ok P w K mg base CX0 2 "come_to_the_same" ["one", "other"] (den_come_to_the_same)) (h_layers_of : Ok P w K mg base CX0 1 "layers_of" ["run"] (den_layers_of)) (h_least_order : Ok P w K mg base CX0 2 "least_order" ["run"] (den_least_order)) (h_are_apart : Ok P w K mg base CX0 1 "are_apart" ["one", "other"] (den_are_apart)) (h__law_apart : Ok P w K mg base CX0 1 "_law_apart" ["one", "two"] (den__law_apart)) (h__law_truth : Ok P w K mg base CX0 1 "_law_truth" ["told", "due"] (den__law_truth)) (h__law_run : Ok P w K mg base CX0 2 "_law_run" ["state", "parties", "labels", "most"] (den__law_run)) (h__law_layers : Ok P w K mg base CX0 2 "_law_layers" ["run"] (den__law_layers)) (h__law_other : Ok P w K mg base CX0 3 "_law_other" ["state", "run", "parties", "labels"] (den__law_other)) (h__law_class : Ok P w K mg base CX0 2 "_law_class" ["run"] (den__law_class)) (h__law_least : Ok P w K mg base CX0 2 "_law_least" ["run"] (den__law_least)) (h__law_draw : Ok P w K mg base CX0 1 "_law_draw" ["state", "limit"] (den__law_draw)) (h__law_names : Ok P w K mg base CX0 3 "_law_names" ["state", "count", "taken"] (den__law_names)) (h__law_state : Ok P w K mg base CX0 1 "_law_state" ["script"] (den__law_state)) {f : Addr} {cdv : Value} {A : Around} {outer : List Env} {s : Shared} {H : Hp} {E : XK} (hr : Room 3 (A.deeper (envOfC "law" (defScope s_law) s.heap.objs.size f cdv))) : PSs (cxOf CX0 P w K mg base N_law "law" (defScope s_law) f cdv A outer s H E).nox (defBody s_law) (sL K (fun _ _ _ _ => False) b_law) := by
  exact (ss_cons (s_set (i := 1) sc_law.nd rfl (Or.inl rfl) (e_call (ms := [.f]) h__law_state dok__law_state rfl pass0 (hr.mono (by decide)) (by rfl) (a_cons (ev 0) a_nil)))
    (ss_cons (s_setF (i := 2) sc_law.nd rfl (Or.inl rfl) (e_call (ms := [.m 1, .f, .f]) h__law_names dok__law_names rfl pass0 (hr.mono (by decide)) (by rfl) (a_cons (ev 1) (a_cons (e_op op_Add co_Add e_int (e_call (ms := [.m 1, .f]) h__law_draw dok__law_draw rfl pass0 (hr.mono (by decide)) (by rfl) (a_cons (ev 1) (a_cons e_int a_nil)))) (a_cons (e_lst a_nil) a_nil)))))
    (ss_cons (s_setF (i := 3) sc_law.nd rfl (Or.inl rfl) (e_call (ms := [.m 1, .f, .f]) h__law_names dok__law_names rfl pass0 (hr.mono (by decide)) (by rfl) (a_cons (ev 1) (a_cons (e_op op_Add co_Add e_int (e_call (ms := [.m 1, .f]) h__law_draw dok__law_draw rfl pass0 (hr.mono (by decide)) (by rfl) (a_cons (ev 1) (a_cons e_int a_nil)))) (a_cons (e_lst a_nil) a_nil)))))
    (ss_kill [4, 5, 6, 7, 8, 9, 10, 11, 12, 13] (ss_cons (s_for (gt := gName 4) PassesOwn.never rfl (i_it (e_lst (a_cons e_int (a_cons e_int (a_cons e_int (a_cons e_int a_nil)))))) (pg_name (i := 4) sc_law.nd rfl (Or.inl rfl)) gr_nameF (ss_killE [4, 5, 6, 7, 8, 9, 10, 11, 12, 13] (ss_cons (s_setF (i := 5) sc_law.nd rfl (Or.inl rfl) (e_call (ms := [.m 1, .f, .f, .f]) h__law_run dok__law_run rfl pass0 (hr.mono (by decide)) (by rfl) (a_cons (ev 1) (a_cons (ev 2) (a_cons (ev 3) (a_cons (ev 4) a_nil))))))
    (ss_cons (s_setF (i := 6) sc_law.nd rfl (Or.inl rfl) (e_callTy call_list_of co_list (by rfl) z_list (by decide +kernel) (a_cons (ev 5) a_nil)))
    (ss_cons (s_setF (i := 7) sc_law.nd rfl (Or.inl rfl) (e_call (ms := [.f]) h__law_layers dok__law_layers rfl pass0 (hr.mono (by decide)) (by rfl) (a_cons (ev 5) a_nil)))
    (ss_cons (s_setF (i := 8) sc_law.nd rfl (Or.inl rfl) (e_call (ms := [.f]) h_layers_of dok_layers_of rfl pass0 (hr.mono (by decide)) (by rfl) (a_cons (ev 5) a_nil)))
    (ss_cons (s_if (t_w (w_or (t_not (t_val (e_isi (by rfl) z_isinstance boot_isinstance (ev 8) (by rfl) z_list (by decide +kernel)))) (w_or (t_cmp (op_neD hr.units) co_Ne (ev 8) (ev 7) (nomark _)) (w_or (t_cmp (op_neD hr.units) co_Ne (e_call (ms := [.f]) h_least_order dok_least_order rfl pass0 (hr.mono (by decide)) (by rfl) (a_cons (ev 5) a_nil)) (e_call (ms := [.f]) h__law_least dok__law_least rfl pass0 (hr.mono (by decide)) (by rfl) (a_cons (ev 5) a_nil)) (nomark _)) (w_or1 (t_cmp (op_neD hr.units) co_Ne (ev 5) (ev 6) (nomark _))))))) (ss_one (s_ret e_bl)) ss_nil)
    (ss_cons (s_setF (i := 9) sc_law.nd rfl (Or.inl rfl) (e_lst a_nil))
    (ss_kill [10] (ss_cons (s_for (gt := gName 10) PassesOwn.never rfl (i_it (ev 7)) (pg_name (i := 10) sc_law.nd rfl (Or.inl rfl)) gr_nameF (ss_killE [10] (ss_one (s_setF (i := 9) sc_law.nd rfl (Or.inl rfl) (e_op op_Add co_Add (ev 9) (ev 10))))))
    (ss_kill [10] (ss_cons (s_if (t_w (w_or (t_cmp op_notBl co_notB (e_call (ms := [.f, .f]) h_come_to_the_same dok_come_to_the_same rfl pass0 (hr.mono (by decide)) (by rfl) (a_cons (ev 9) (a_cons (ev 5) a_nil))) e_bl (nomark _)) (w_or1 (t_cmp (op_neD hr.units) co_Ne (e_call (ms := [.f]) h_least_order dok_least_order rfl pass0 (hr.mono (by decide)) (by rfl) (a_cons (ev 9) a_nil)) (e_call (ms := [.f]) h__law_least dok__law_least rfl pass0 (hr.mono (by decide)) (by rfl) (a_cons (ev 5) a_nil)) (nomark _))))) (ss_one (s_ret e_bl)) ss_nil)
    (ss_cons (s_setF (i := 11) sc_law.nd rfl (Or.inl rfl) (e_lst (a_cons (ev 5) a_nil)))
    (ss_cons (s_if (t_cmp (op_LtA hr.units1) co_LtA (ev 4) e_int (nomark _)) (ss_one (s_setF (i := 11) sc_law.nd rfl (Or.inl rfl) (e_call (ms := [.f]) h__law_class dok__law_class rfl pass0 (hr.mono (by decide)) (by rfl) (a_cons (ev 5) a_nil)))) ss_nil)
    (ss_cons (s_if (t_w (w_and (t_cmp op_gt co_B0 (e_callB call_lenB (co_vA co_lenA) (by rfl) z_len PySem.boot_len (a_cons (ev 11) a_nil)) e_int (nomark _)) (w_and (t_cmp (op_LtA hr.units1) co_LtA (e_callB call_lenB (co_vA co_lenA) (by rfl) z_len PySem.boot_len (a_cons (ev 11) a_nil)) e_int (nomark _)) (w_and1 (t_cmp (op_neD hr.units) co_Ne (e_call (ms := [.f]) h_least_order dok_least_order rfl pass0 (hr.mono (by decide)) (by rfl) (a_cons (ev 5) a_nil)) (e_callB (call_minA hr.units1) co_minA (by rfl) z_min (by decide +kernel) (a_cons (ev 11) a_nil)) (nomark _)))))) (ss_one (s_ret e_bl)) ss_nil)
    (ss_kill [12, 13] (ss_killE [12, 13] (ss_one (s_for (gt := gName 12) PassesOwn.never rfl (i_range1 (by rfl) z_range (a_cons e_int a_nil)) (pg_name (i := 12) sc_law.nd rfl (Or.inl rfl)) gr_nameF (ss_killE [12, 13] (ss_cons (s_setF (i := 13) sc_law.nd rfl (Or.inl rfl) (e_call (ms := [.m 1, .f, .f, .f]) h__law_other dok__law_other rfl pass0 (hr.mono (by decide)) (by rfl) (a_cons (ev 1) (a_cons (ev 5) (a_cons (ev 2) (a_cons (ev 3) a_nil))))))
    (ss_cons (s_if (t_not (t_val (e_call (ms := [.f, .f]) h__law_truth dok__law_truth rfl pass0 (hr.mono (by decide)) (by rfl) (a_cons (e_call (ms := [.f, .f]) h_come_to_the_same dok_come_to_the_same rfl pass0 (hr.mono (by decide)) (by rfl) (a_cons (ev 5) (a_cons (ev 13) a_nil))) (a_cons (e_cmp (op_eqD hr.units) co_Eq (e_call (ms := [.f]) h__law_layers dok__law_layers rfl pass0 (hr.mono (by decide)) (by rfl) (a_cons (ev 13) a_nil)) (ev 7) (nomark _)) a_nil))))) (ss_one (s_ret e_bl)) ss_nil)
    (ss_one (s_if (t_w (w_and (t_cmp (op_LtA hr.units1) co_LtA (ev 4) e_int (nomark _)) (w_and (t_cmp (op_LtA hr.units1) co_LtA (e_callB call_lenB (co_vA co_lenA) (by rfl) z_len PySem.boot_len (a_cons (ev 11) a_nil)) e_int (nomark _)) (w_and1 (t_cmp (op_neD hr.units) co_Ne (e_in hr.units1 (ev 13) (ev 11)) (e_cmp (op_eqD hr.units) co_Eq (e_call (ms := [.f]) h__law_layers dok__law_layers rfl pass0 (hr.mono (by decide)) (by rfl) (a_cons (ev 13) a_nil)) (ev 7) (nomark _)) (nomark _)))))) (ss_one (s_ret e_bl)) ss_nil))))))))))))))))))))))))
    (ss_kill [4, 5, 6, 7, 8, 9, 10, 11, 12, 13] (ss_kill [12, 14] (ss_cons (s_for (gt := gName 12) PassesOwn.never rfl (i_range1 (by rfl) z_range (a_cons e_int a_nil)) (pg_name (i := 12) sc_law.nd rfl (Or.inl rfl)) gr_nameF (ss_killE [12, 14] (ss_cons (s_setF (i := 14) sc_law.nd rfl (Or.inl rfl) (e_op op_Add co_Add (e_call (ms := [.m 1, .f, .f, .f]) h__law_run dok__law_run rfl pass0 (hr.mono (by decide)) (by rfl) (a_cons (ev 1) (a_cons (ev 2) (a_cons (ev 3) (a_cons e_int a_nil))))) (e_lst (a_cons (e_tup (a_cons (e_sub hr.units1 (ev 2) e_int (fun _ _ => rfl) (fun _ _ => rfl)) (a_cons (e_sub hr.units1 (ev 2) e_int (fun _ _ => rfl) (fun _ _ => rfl)) (a_cons (e_sub hr.units1 (ev 3) e_int (fun _ _ => rfl) (fun _ _ => rfl)) a_nil)))) (a_cons (e_tup (a_cons (e_sub hr.units1 (ev 2) e_int (fun _ _ => rfl) (fun _ _ => rfl)) (a_cons (e_sub hr.units1 (ev 2) e_int (fun _ _ => rfl) (fun _ _ => rfl)) (a_cons (e_sub hr.units1 (ev 3) e_int (fun _ _ => rfl) (fun _ _ => rfl)) a_nil)))) a_nil)))))
    (ss_one (s_if (t_not (t_val (e_call (ms := [.f, .f]) h__law_truth dok__law_truth rfl pass0 (hr.mono (by decide)) (by rfl) (a_cons (e_call (ms := [.f, .f]) h_are_apart dok_are_apart rfl pass0 (hr.mono (by decide)) (by rfl) (a_cons (e_sub hr.units1 (ev 14) e_int (fun _ _ => rfl) (fun _ _ => rfl)) (a_cons (e_sub hr.units1 (ev 14) e_int (fun _ _ => rfl) (fun _ _ => rfl)) a_nil))) (a_cons (e_call (ms := [.f, .f]) h__law_apart dok__law_apart rfl pass0 (hr.mono (by decide)) (by rfl) (a_cons (e_sub hr.units1 (ev 14) e_int (fun _ _ => rfl) (fun _ _ => rfl)) (a_cons (e_sub hr.units1 (ev 14) e_int (fun _ _ => rfl) (fun _ _ => rfl)) a_nil))) a_nil))))) (ss_one (s_ret e_bl)) ss_nil)))))
    (ss_kill [12, 14] (ss_one (s_ret (e_and (e_cmp op_isBl co_isB (e_call (ms := [.f, .f]) h_come_to_the_same dok_come_to_the_same rfl pass0 (hr.mono (by decide)) (by rfl) (a_cons (e_lst a_nil) (a_cons (e_lst a_nil) a_nil))) e_bl (nomark _)) (e_and (e_cmp (op_eqD hr.units) co_Eq (e_call (ms := [.f]) h_layers_of dok_layers_of rfl pass0 (hr.mono (by decide)) (by rfl) (a_cons (e_lst a_nil) a_nil)) (e_lst a_nil) (nomark _)) (e_one (e_cmp (op_eqD hr.units) co_Eq (e_call (ms := [.f]) h_least_order dok_least_order rfl pass0 (hr.mono (by decide)) (by rfl) (a_cons (e_lst a_nil) a_nil)) (e_lst a_nil) (nomark _))))))))))))))))
end
end Lw

namespace Lw
open PySem PySem.Spec PyProof.Rows L2 Y PySem.W TL
/-! ### the law's state -/
def stM (cells : List Int) (pos cell left : Int) (big : Bool) : MV := .lst [.d (.list (cells.map PyData.int)), .d (.int pos), .d (.int cell), .d (.int left), .d (.bool big), .d (.int 500)]
def IsSt (m : MV) : Prop := ∃ cells pos cell left big, m = stM cells pos cell left big ∧ 0 ≤ pos ∧ 0 ≤ cell ∧ 0 ≤ left ∧ cells.length ≤ 1000
theorem rd__law_state (ns : List Int) (h : ns.length ≤ 63) : ∃ m, IsSt m ∧ den__law_state [.x (ns.map PyData.int)] = some (.ok (.t m) [none]) := by
  refine ⟨stM ns 0 0 0 false, ⟨ns, 0, 0, 0, false, rfl, by decide, by decide, by decide, by omega⟩, ?_⟩
  unfold den__law_state Y.run start0 b__law_state
  simp only [aSeq_ap, seqK_nx, seqK_rt, seqK_bk, seqK_ct, seqK_none, aNext_ap, aBrk_ap, aCont_ap, aAsg_ap, asgK_ap, nxR_some, aDrop_ap, dropK_ap, aIfS_ap, ifK_t, ifK_f, aRet_ap, retK_ap, rtR_some, aRetN_ap, aKill_ap, List.foldl_cons, List.foldl_nil, sb_okN, bd_okN, mapR_some, aC_ap, aXT_ap, aVar_ap, varK_d, varK_x, varK_w, varK_p, varK_k, aOp_ap, opK_ap, opK2_ap, aFz_ap, aUn_ap, aB_ap, bK_ap, aAnd_ap, andK_t, andK_f, aOr_ap, orK_t, orK_f, aNot_ap, notK_ap, aTru_ap, truK_ap, aYes_ap, aAndV_ap, andVK_t, andVK_f, aOrV_ap, orVK_t, orVK_f, aNotV_ap, notVK_ap, aIf_ap, ifEK_t, ifEK_f, aNil_ap, aCons_ap, consK_ap, consK2_ap, aCB_ap, cbK_ap, aNoPart_ap, aPart_ap, partK_ap, aSl_ap, slK_ap, slK2_ap, slK3_ap, aBM_ap, bmK_ap, bmK2_ap, aBM0_ap, bmK0_ap, aPut_ap, putK_ap, putK1_ap, putK2_ap, aFor_ap, forK_n, aRng1_ap, aRng2_ap, aIt_ap, itK_l, itK_t, itK_s, itK_x, itK_c, itK_f, aCallG_ap, List.getElem?_cons_zero, List.getElem?_cons_succ, List.set_cons_zero, List.set_cons_succ, List.length_cons, List.length_nil, Nat.zero_add, Nat.reduceAdd, Option.map_some, Option.map_none, Option.bind_some, Option.bind_none, List.map_cons, List.map_nil, aName, aNameF, fz, rtv, wAt, toM, vw, frz_lst, frz_d, lvs_map, oIx2_var, ixV_w, ixV_p, ixV_k, ixL_some, lfAt_nat, lf_d, oIx2_l, oIx2_t, Y.atI_nat, putF_var, putV_w, putV_p, oEq_int, oNe_int, oLtA_int, oIntA_int, oIntA_bool, oLenV_l, oLenV_t, oI0_ap, oB0_ap, oAdd_int, rNeg, lfAt_0, stL_0, Y.atI_0, lfAt_1, stL_1, Y.atI_1, lfAt_2, stL_2, Y.atI_2, lfAt_3, stL_3, Y.atI_3, lfAt_4, stL_4, Y.atI_4, lfAt_5, stL_5, Y.atI_5, lfAt_6, stL_6, Y.atI_6, lfAt_7, stL_7, Y.atI_7, Nat.reduceLeDiff, Int.reduceLT, Int.reduceLE, List.cons_append, List.nil_append, decide_true, decide_false, if_true, if_false, sizeLine_eq, aLc_ap, List.append_nil, Nat.sub_self, List.replicate_zero, oList, itemsD, seqT, seqTd, seqL, fzK, oLst, mvs]
  rfl

theorem pow18 : cPow 10 18 = true := by decide
theorem draw_skip {cells : List Int} {pos cell left : Int} {big : Bool} {lim : Int} (h : left ≠ 0) : i__law_draw_1 [some (.p (stM cells pos cell left big)), some (.d (.int lim)), none, none, none] = some (.nx [some (.p (stM cells pos cell left big)), some (.d (.int lim)), none, none, none]) := by
  unfold i__law_draw_1 stM
  simp only [aSeq_ap, seqK_nx, seqK_rt, seqK_bk, seqK_ct, seqK_none, aNext_ap, aBrk_ap, aCont_ap, aAsg_ap, asgK_ap, nxR_some, aDrop_ap, dropK_ap, aIfS_ap, ifK_t, ifK_f, aRet_ap, retK_ap, rtR_some, aRetN_ap, aKill_ap, List.foldl_cons, List.foldl_nil, sb_okN, bd_okN, mapR_some, aC_ap, aXT_ap, aVar_ap, varK_d, varK_x, varK_w, varK_p, varK_k, aOp_ap, opK_ap, opK2_ap, aFz_ap, aUn_ap, aB_ap, bK_ap, aAnd_ap, andK_t, andK_f, aOr_ap, orK_t, orK_f, aNot_ap, notK_ap, aTru_ap, truK_ap, aYes_ap, aAndV_ap, andVK_t, andVK_f, aOrV_ap, orVK_t, orVK_f, aNotV_ap, notVK_ap, aIf_ap, ifEK_t, ifEK_f, aNil_ap, aCons_ap, consK_ap, consK2_ap, aCB_ap, cbK_ap, aNoPart_ap, aPart_ap, partK_ap, aSl_ap, slK_ap, slK2_ap, slK3_ap, aBM_ap, bmK_ap, bmK2_ap, aBM0_ap, bmK0_ap, aPut_ap, putK_ap, putK1_ap, putK2_ap, aFor_ap, forK_n, aRng1_ap, aRng2_ap, aIt_ap, itK_l, itK_t, itK_s, itK_x, itK_c, itK_f, aCallG_ap, List.getElem?_cons_zero, List.getElem?_cons_succ, List.set_cons_zero, List.set_cons_succ, List.length_cons, List.length_nil, Nat.zero_add, Nat.reduceAdd, Option.map_some, Option.map_none, Option.bind_some, Option.bind_none, List.map_cons, List.map_nil, aName, aNameF, fz, rtv, wAt, toM, vw, frz_lst, frz_d, lvs_map, oIx2_var, ixV_w, ixV_p, ixV_k, ixL_some, lfAt_nat, lf_d, oIx2_l, oIx2_t, Y.atI_nat, putF_var, putV_w, putV_p, oEq_int, oNe_int, oLtA_int, oIntA_int, oIntA_bool, oLenV_l, oLenV_t, oI0_ap, oB0_ap, oAdd_int, rNeg, lfAt_0, stL_0, Y.atI_0, lfAt_1, stL_1, Y.atI_1, lfAt_2, stL_2, Y.atI_2, lfAt_3, stL_3, Y.atI_3, lfAt_4, stL_4, Y.atI_4, lfAt_5, stL_5, Y.atI_5, lfAt_6, stL_6, Y.atI_6, lfAt_7, stL_7, Y.atI_7, Nat.reduceLeDiff, Int.reduceLT, Int.reduceLE, List.cons_append, List.nil_append, decide_true, decide_false, if_true, if_false, sizeLine_eq, aLc_ap, decide_eq_false h]
theorem draw_refill {cells : List Int} {pos cell : Int} {big : Bool} {lim : Int} (hp : 0 ≤ pos) (hc : cells.length ≤ 1000) (hcell : 0 ≤ cell) :
    i__law_draw_1 [some (.p (stM cells pos cell 0 big)), some (.d (.int lim)), none, none, none] = some (.rt (.d (.int 0)) [some (.p (stM cells pos cell 0 big)), some (.d (.int lim)), none, none, none]) ∨
    ∃ cell' left' big', 0 ≤ cell' ∧ 0 < left' ∧ i__law_draw_1 [some (.p (stM cells pos cell 0 big)), some (.d (.int lim)), none, none, none] = some (.nx [some (.p (stM cells (pos + 1) cell' left' big')), some (.d (.int lim)), some (.d (.int cell')), none, none]) := by
  obtain ⟨n, rfl⟩ := Int.eq_ofNat_of_zero_le hp
  unfold i__law_draw_1 stM
  by_cases hl : (cells.length : Int) ≤ (n : Int)
  · left
    simp only [aSeq_ap, seqK_nx, seqK_rt, seqK_bk, seqK_ct, seqK_none, aNext_ap, aBrk_ap, aCont_ap, aAsg_ap, asgK_ap, nxR_some, aDrop_ap, dropK_ap, aIfS_ap, ifK_t, ifK_f, aRet_ap, retK_ap, rtR_some, aRetN_ap, aKill_ap, List.foldl_cons, List.foldl_nil, sb_okN, bd_okN, mapR_some, aC_ap, aXT_ap, aVar_ap, varK_d, varK_x, varK_w, varK_p, varK_k, aOp_ap, opK_ap, opK2_ap, aFz_ap, aUn_ap, aB_ap, bK_ap, aAnd_ap, andK_t, andK_f, aOr_ap, orK_t, orK_f, aNot_ap, notK_ap, aTru_ap, truK_ap, aYes_ap, aAndV_ap, andVK_t, andVK_f, aOrV_ap, orVK_t, orVK_f, aNotV_ap, notVK_ap, aIf_ap, ifEK_t, ifEK_f, aNil_ap, aCons_ap, consK_ap, consK2_ap, aCB_ap, cbK_ap, aNoPart_ap, aPart_ap, partK_ap, aSl_ap, slK_ap, slK2_ap, slK3_ap, aBM_ap, bmK_ap, bmK2_ap, aBM0_ap, bmK0_ap, aPut_ap, putK_ap, putK1_ap, putK2_ap, aFor_ap, forK_n, aRng1_ap, aRng2_ap, aIt_ap, itK_l, itK_t, itK_s, itK_x, itK_c, itK_f, aCallG_ap, List.getElem?_cons_zero, List.getElem?_cons_succ, List.set_cons_zero, List.set_cons_succ, List.length_cons, List.length_nil, Nat.zero_add, Nat.reduceAdd, Option.map_some, Option.map_none, Option.bind_some, Option.bind_none, List.map_cons, List.map_nil, aName, aNameF, fz, rtv, wAt, toM, vw, frz_lst, frz_d, lvs_map, oIx2_var, ixV_w, ixV_p, ixV_k, ixL_some, lfAt_nat, lf_d, oIx2_l, oIx2_t, Y.atI_nat, putF_var, putV_w, putV_p, oEq_int, oNe_int, oLtA_int, oIntA_int, oIntA_bool, oLenV_l, oLenV_t, oI0_ap, oB0_ap, oAdd_int, rNeg, lfAt_0, stL_0, Y.atI_0, lfAt_1, stL_1, Y.atI_1, lfAt_2, stL_2, Y.atI_2, lfAt_3, stL_3, Y.atI_3, lfAt_4, stL_4, Y.atI_4, lfAt_5, stL_5, Y.atI_5, lfAt_6, stL_6, Y.atI_6, lfAt_7, stL_7, Y.atI_7, Nat.reduceLeDiff, Int.reduceLT, Int.reduceLE, List.cons_append, List.nil_append, decide_true, decide_false, if_true, if_false, sizeLine_eq, aLc_ap, List.length_map, decide_eq_true hl, decide_true]
  · right
    have hn : n < cells.length := by omega
    by_cases hneg : cells[n] < 0
    · by_cases hb : (10 : Int) ^ (18 : Int).toNat ≤ -1 - cells[n]
      · refine ⟨-1 - cells[n], 60, true, by omega, by decide, ?_⟩
        simp only [aSeq_ap, seqK_nx, seqK_rt, seqK_bk, seqK_ct, seqK_none, aNext_ap, aBrk_ap, aCont_ap, aAsg_ap, asgK_ap, nxR_some, aDrop_ap, dropK_ap, aIfS_ap, ifK_t, ifK_f, aRet_ap, retK_ap, rtR_some, aRetN_ap, aKill_ap, List.foldl_cons, List.foldl_nil, sb_okN, bd_okN, mapR_some, aC_ap, aXT_ap, aVar_ap, varK_d, varK_x, varK_w, varK_p, varK_k, aOp_ap, opK_ap, opK2_ap, aFz_ap, aUn_ap, aB_ap, bK_ap, aAnd_ap, andK_t, andK_f, aOr_ap, orK_t, orK_f, aNot_ap, notK_ap, aTru_ap, truK_ap, aYes_ap, aAndV_ap, andVK_t, andVK_f, aOrV_ap, orVK_t, orVK_f, aNotV_ap, notVK_ap, aIf_ap, ifEK_t, ifEK_f, aNil_ap, aCons_ap, consK_ap, consK2_ap, aCB_ap, cbK_ap, aNoPart_ap, aPart_ap, partK_ap, aSl_ap, slK_ap, slK2_ap, slK3_ap, aBM_ap, bmK_ap, bmK2_ap, aBM0_ap, bmK0_ap, aPut_ap, putK_ap, putK1_ap, putK2_ap, aFor_ap, forK_n, aRng1_ap, aRng2_ap, aIt_ap, itK_l, itK_t, itK_s, itK_x, itK_c, itK_f, aCallG_ap, List.getElem?_cons_zero, List.getElem?_cons_succ, List.set_cons_zero, List.set_cons_succ, List.length_cons, List.length_nil, Nat.zero_add, Nat.reduceAdd, Option.map_some, Option.map_none, Option.bind_some, Option.bind_none, List.map_cons, List.map_nil, aName, aNameF, fz, rtv, wAt, toM, vw, frz_lst, frz_d, lvs_map, oIx2_var, ixV_w, ixV_p, ixV_k, ixL_some, lfAt_nat, lf_d, oIx2_l, oIx2_t, Y.atI_nat, putF_var, putV_w, putV_p, oEq_int, oNe_int, oLtA_int, oIntA_int, oIntA_bool, oLenV_l, oLenV_t, oI0_ap, oB0_ap, oAdd_int, rNeg, lfAt_0, stL_0, Y.atI_0, lfAt_1, stL_1, Y.atI_1, lfAt_2, stL_2, Y.atI_2, lfAt_3, stL_3, Y.atI_3, lfAt_4, stL_4, Y.atI_4, lfAt_5, stL_5, Y.atI_5, lfAt_6, stL_6, Y.atI_6, lfAt_7, stL_7, Y.atI_7, Nat.reduceLeDiff, Int.reduceLT, Int.reduceLE, List.cons_append, List.nil_append, decide_true, decide_false, if_true, if_false, sizeLine_eq, aLc_ap, List.length_map, decide_eq_false hl, decide_true, List.getElem?_map, List.getElem?_eq_getElem hn, decide_eq_true hneg, oI_ok pow18, decide_eq_true hb]
      · refine ⟨-1 - cells[n], 6, false, by omega, by decide, ?_⟩
        simp only [aSeq_ap, seqK_nx, seqK_rt, seqK_bk, seqK_ct, seqK_none, aNext_ap, aBrk_ap, aCont_ap, aAsg_ap, asgK_ap, nxR_some, aDrop_ap, dropK_ap, aIfS_ap, ifK_t, ifK_f, aRet_ap, retK_ap, rtR_some, aRetN_ap, aKill_ap, List.foldl_cons, List.foldl_nil, sb_okN, bd_okN, mapR_some, aC_ap, aXT_ap, aVar_ap, varK_d, varK_x, varK_w, varK_p, varK_k, aOp_ap, opK_ap, opK2_ap, aFz_ap, aUn_ap, aB_ap, bK_ap, aAnd_ap, andK_t, andK_f, aOr_ap, orK_t, orK_f, aNot_ap, notK_ap, aTru_ap, truK_ap, aYes_ap, aAndV_ap, andVK_t, andVK_f, aOrV_ap, orVK_t, orVK_f, aNotV_ap, notVK_ap, aIf_ap, ifEK_t, ifEK_f, aNil_ap, aCons_ap, consK_ap, consK2_ap, aCB_ap, cbK_ap, aNoPart_ap, aPart_ap, partK_ap, aSl_ap, slK_ap, slK2_ap, slK3_ap, aBM_ap, bmK_ap, bmK2_ap, aBM0_ap, bmK0_ap, aPut_ap, putK_ap, putK1_ap, putK2_ap, aFor_ap, forK_n, aRng1_ap, aRng2_ap, aIt_ap, itK_l, itK_t, itK_s, itK_x, itK_c, itK_f, aCallG_ap, List.getElem?_cons_zero, List.getElem?_cons_succ, List.set_cons_zero, List.set_cons_succ, List.length_cons, List.length_nil, Nat.zero_add, Nat.reduceAdd, Option.map_some, Option.map_none, Option.bind_some, Option.bind_none, List.map_cons, List.map_nil, aName, aNameF, fz, rtv, wAt, toM, vw, frz_lst, frz_d, lvs_map, oIx2_var, ixV_w, ixV_p, ixV_k, ixL_some, lfAt_nat, lf_d, oIx2_l, oIx2_t, Y.atI_nat, putF_var, putV_w, putV_p, oEq_int, oNe_int, oLtA_int, oIntA_int, oIntA_bool, oLenV_l, oLenV_t, oI0_ap, oB0_ap, oAdd_int, rNeg, lfAt_0, stL_0, Y.atI_0, lfAt_1, stL_1, Y.atI_1, lfAt_2, stL_2, Y.atI_2, lfAt_3, stL_3, Y.atI_3, lfAt_4, stL_4, Y.atI_4, lfAt_5, stL_5, Y.atI_5, lfAt_6, stL_6, Y.atI_6, lfAt_7, stL_7, Y.atI_7, Nat.reduceLeDiff, Int.reduceLT, Int.reduceLE, List.cons_append, List.nil_append, decide_true, decide_false, if_true, if_false, sizeLine_eq, aLc_ap, List.length_map, decide_eq_false hl, decide_true, List.getElem?_map, List.getElem?_eq_getElem hn, decide_eq_true hneg, oI_ok pow18, decide_eq_false hb]
    · by_cases hb : (10 : Int) ^ (18 : Int).toNat ≤ cells[n]
      · refine ⟨cells[n], 60, true, by omega, by decide, ?_⟩
        simp only [aSeq_ap, seqK_nx, seqK_rt, seqK_bk, seqK_ct, seqK_none, aNext_ap, aBrk_ap, aCont_ap, aAsg_ap, asgK_ap, nxR_some, aDrop_ap, dropK_ap, aIfS_ap, ifK_t, ifK_f, aRet_ap, retK_ap, rtR_some, aRetN_ap, aKill_ap, List.foldl_cons, List.foldl_nil, sb_okN, bd_okN, mapR_some, aC_ap, aXT_ap, aVar_ap, varK_d, varK_x, varK_w, varK_p, varK_k, aOp_ap, opK_ap, opK2_ap, aFz_ap, aUn_ap, aB_ap, bK_ap, aAnd_ap, andK_t, andK_f, aOr_ap, orK_t, orK_f, aNot_ap, notK_ap, aTru_ap, truK_ap, aYes_ap, aAndV_ap, andVK_t, andVK_f, aOrV_ap, orVK_t, orVK_f, aNotV_ap, notVK_ap, aIf_ap, ifEK_t, ifEK_f, aNil_ap, aCons_ap, consK_ap, consK2_ap, aCB_ap, cbK_ap, aNoPart_ap, aPart_ap, partK_ap, aSl_ap, slK_ap, slK2_ap, slK3_ap, aBM_ap, bmK_ap, bmK2_ap, aBM0_ap, bmK0_ap, aPut_ap, putK_ap, putK1_ap, putK2_ap, aFor_ap, forK_n, aRng1_ap, aRng2_ap, aIt_ap, itK_l, itK_t, itK_s, itK_x, itK_c, itK_f, aCallG_ap, List.getElem?_cons_zero, List.getElem?_cons_succ, List.set_cons_zero, List.set_cons_succ, List.length_cons, List.length_nil, Nat.zero_add, Nat.reduceAdd, Option.map_some, Option.map_none, Option.bind_some, Option.bind_none, List.map_cons, List.map_nil, aName, aNameF, fz, rtv, wAt, toM, vw, frz_lst, frz_d, lvs_map, oIx2_var, ixV_w, ixV_p, ixV_k, ixL_some, lfAt_nat, lf_d, oIx2_l, oIx2_t, Y.atI_nat, putF_var, putV_w, putV_p, oEq_int, oNe_int, oLtA_int, oIntA_int, oIntA_bool, oLenV_l, oLenV_t, oI0_ap, oB0_ap, oAdd_int, rNeg, lfAt_0, stL_0, Y.atI_0, lfAt_1, stL_1, Y.atI_1, lfAt_2, stL_2, Y.atI_2, lfAt_3, stL_3, Y.atI_3, lfAt_4, stL_4, Y.atI_4, lfAt_5, stL_5, Y.atI_5, lfAt_6, stL_6, Y.atI_6, lfAt_7, stL_7, Y.atI_7, Nat.reduceLeDiff, Int.reduceLT, Int.reduceLE, List.cons_append, List.nil_append, decide_true, decide_false, if_true, if_false, sizeLine_eq, aLc_ap, List.length_map, decide_eq_false hl, decide_true, List.getElem?_map, List.getElem?_eq_getElem hn, decide_eq_false hneg, oI_ok pow18, decide_eq_true hb]
      · refine ⟨cells[n], 6, false, by omega, by decide, ?_⟩
        simp only [aSeq_ap, seqK_nx, seqK_rt, seqK_bk, seqK_ct, seqK_none, aNext_ap, aBrk_ap, aCont_ap, aAsg_ap, asgK_ap, nxR_some, aDrop_ap, dropK_ap, aIfS_ap, ifK_t, ifK_f, aRet_ap, retK_ap, rtR_some, aRetN_ap, aKill_ap, List.foldl_cons, List.foldl_nil, sb_okN, bd_okN, mapR_some, aC_ap, aXT_ap, aVar_ap, varK_d, varK_x, varK_w, varK_p, varK_k, aOp_ap, opK_ap, opK2_ap, aFz_ap, aUn_ap, aB_ap, bK_ap, aAnd_ap, andK_t, andK_f, aOr_ap, orK_t, orK_f, aNot_ap, notK_ap, aTru_ap, truK_ap, aYes_ap, aAndV_ap, andVK_t, andVK_f, aOrV_ap, orVK_t, orVK_f, aNotV_ap, notVK_ap, aIf_ap, ifEK_t, ifEK_f, aNil_ap, aCons_ap, consK_ap, consK2_ap, aCB_ap, cbK_ap, aNoPart_ap, aPart_ap, partK_ap, aSl_ap, slK_ap, slK2_ap, slK3_ap, aBM_ap, bmK_ap, bmK2_ap, aBM0_ap, bmK0_ap, aPut_ap, putK_ap, putK1_ap, putK2_ap, aFor_ap, forK_n, aRng1_ap, aRng2_ap, aIt_ap, itK_l, itK_t, itK_s, itK_x, itK_c, itK_f, aCallG_ap, List.getElem?_cons_zero, List.getElem?_cons_succ, List.set_cons_zero, List.set_cons_succ, List.length_cons, List.length_nil, Nat.zero_add, Nat.reduceAdd, Option.map_some, Option.map_none, Option.bind_some, Option.bind_none, List.map_cons, List.map_nil, aName, aNameF, fz, rtv, wAt, toM, vw, frz_lst, frz_d, lvs_map, oIx2_var, ixV_w, ixV_p, ixV_k, ixL_some, lfAt_nat, lf_d, oIx2_l, oIx2_t, Y.atI_nat, putF_var, putV_w, putV_p, oEq_int, oNe_int, oLtA_int, oIntA_int, oIntA_bool, oLenV_l, oLenV_t, oI0_ap, oB0_ap, oAdd_int, rNeg, lfAt_0, stL_0, Y.atI_0, lfAt_1, stL_1, Y.atI_1, lfAt_2, stL_2, Y.atI_2, lfAt_3, stL_3, Y.atI_3, lfAt_4, stL_4, Y.atI_4, lfAt_5, stL_5, Y.atI_5, lfAt_6, stL_6, Y.atI_6, lfAt_7, stL_7, Y.atI_7, Nat.reduceLeDiff, Int.reduceLT, Int.reduceLE, List.cons_append, List.nil_append, decide_true, decide_false, if_true, if_false, sizeLine_eq, aLc_ap, List.length_map, decide_eq_false hl, decide_true, List.getElem?_map, List.getElem?_eq_getElem hn, decide_eq_false hneg, oI_ok pow18, decide_eq_false hb]

theorem mulC {i : Int} (h1 : 0 ≤ i) (h2 : i < 2147483647) : CMulB i i = true := by
  unfold CMulB
  rw [decide_eq_true (show -(2 ^ 64) < i by omega), decide_eq_true (show i < 2 ^ 64 by omega)]
  rfl
theorem rd__law_draw {m : MV} {lim : Int} (hm : IsSt m) (h1 : 0 < lim) (h2 : lim ≤ 10 ^ 18) : ∃ r m', 0 ≤ r ∧ r < lim ∧ IsSt m' ∧ den__law_draw [.p m, .d (.int lim)] = some (.ok (.d (.int r)) [some (.p m'), none]) := by
  obtain ⟨cells, pos, cell, left, big, rfl, hp, hcell, hl, hc⟩ := hm
  -- the rest, from any state with something left
  have rest : ∀ (pos cell left : Int) (big : Bool) (o : Option SV), 0 ≤ pos → 0 ≤ cell → 0 < left → i__law_draw_1 [some (.p (stM cells pos cell left big)), some (.d (.int lim)), none, none, none] = i__law_draw_1 [some (.p (stM cells pos cell left big)), some (.d (.int lim)), none, none, none] →
      ∀ s0, i__law_draw_1 s0 = some (.nx [some (.p (stM cells pos cell left big)), some (.d (.int lim)), o, none, none]) → ∃ r m', 0 ≤ r ∧ r < lim ∧ IsSt m' ∧ ∃ s', b__law_draw s0 = some (.rt (.d (.int r)) (some (.p m') :: s')) := by
    intro pos cell left big o hp hcell hl _ s0 e
    unfold b__law_draw
    have hmod : ∀ i : Int, 0 ≤ i % lim ∧ i % lim < lim := fun i => ⟨Int.emod_nonneg _ (by omega), Int.emod_lt_of_pos _ h1⟩
    cases big with
    | true =>
      by_cases hz : cell / lim = 0
      · refine ⟨cell % lim, stM cells pos 0 0 true, (hmod _).1, (hmod _).2, ⟨cells, pos, 0, 0, true, rfl, hp, by omega, by omega, hc⟩, ?_⟩
        simp only [aSeq_ap, seqK_nx, seqK_rt, seqK_bk, seqK_ct, seqK_none, aNext_ap, aBrk_ap, aCont_ap, aAsg_ap, asgK_ap, nxR_some, aDrop_ap, dropK_ap, aIfS_ap, ifK_t, ifK_f, aRet_ap, retK_ap, rtR_some, aRetN_ap, aKill_ap, List.foldl_cons, List.foldl_nil, sb_okN, bd_okN, mapR_some, aC_ap, aXT_ap, aVar_ap, varK_d, varK_x, varK_w, varK_p, varK_k, aOp_ap, opK_ap, opK2_ap, aFz_ap, aUn_ap, aB_ap, bK_ap, aAnd_ap, andK_t, andK_f, aOr_ap, orK_t, orK_f, aNot_ap, notK_ap, aTru_ap, truK_ap, aYes_ap, aAndV_ap, andVK_t, andVK_f, aOrV_ap, orVK_t, orVK_f, aNotV_ap, notVK_ap, aIf_ap, ifEK_t, ifEK_f, aNil_ap, aCons_ap, consK_ap, consK2_ap, aCB_ap, cbK_ap, aNoPart_ap, aPart_ap, partK_ap, aSl_ap, slK_ap, slK2_ap, slK3_ap, aBM_ap, bmK_ap, bmK2_ap, aBM0_ap, bmK0_ap, aPut_ap, putK_ap, putK1_ap, putK2_ap, aFor_ap, forK_n, aRng1_ap, aRng2_ap, aIt_ap, itK_l, itK_t, itK_s, itK_x, itK_c, itK_f, aCallG_ap, List.getElem?_cons_zero, List.getElem?_cons_succ, List.set_cons_zero, List.set_cons_succ, List.length_cons, List.length_nil, Nat.zero_add, Nat.reduceAdd, Option.map_some, Option.map_none, Option.bind_some, Option.bind_none, List.map_cons, List.map_nil, aName, aNameF, fz, rtv, wAt, toM, vw, frz_lst, frz_d, lvs_map, oIx2_var, ixV_w, ixV_p, ixV_k, ixL_some, lfAt_nat, lf_d, oIx2_l, oIx2_t, Y.atI_nat, putF_var, putV_w, putV_p, oEq_int, oNe_int, oLtA_int, oIntA_int, oIntA_bool, oLenV_l, oLenV_t, oI0_ap, oB0_ap, oAdd_int, rNeg, lfAt_0, stL_0, Y.atI_0, lfAt_1, stL_1, Y.atI_1, lfAt_2, stL_2, Y.atI_2, lfAt_3, stL_3, Y.atI_3, lfAt_4, stL_4, Y.atI_4, lfAt_5, stL_5, Y.atI_5, lfAt_6, stL_6, Y.atI_6, lfAt_7, stL_7, Y.atI_7, Nat.reduceLeDiff, Int.reduceLT, Int.reduceLE, List.cons_append, List.nil_append, decide_true, decide_false, if_true, if_false, sizeLine_eq, aLc_ap, e, stM, i__law_draw_0, oMod_ok h1, oDivW_ok h1 h2, hz, decide_true]
        exact ⟨_, rfl⟩
      · refine ⟨cell % lim, stM cells pos (cell / lim) (left - 1) true, (hmod _).1, (hmod _).2, ⟨cells, pos, cell / lim, left - 1, true, rfl, hp, Int.ediv_nonneg hcell (by omega), by omega, hc⟩, ?_⟩
        simp only [aSeq_ap, seqK_nx, seqK_rt, seqK_bk, seqK_ct, seqK_none, aNext_ap, aBrk_ap, aCont_ap, aAsg_ap, asgK_ap, nxR_some, aDrop_ap, dropK_ap, aIfS_ap, ifK_t, ifK_f, aRet_ap, retK_ap, rtR_some, aRetN_ap, aKill_ap, List.foldl_cons, List.foldl_nil, sb_okN, bd_okN, mapR_some, aC_ap, aXT_ap, aVar_ap, varK_d, varK_x, varK_w, varK_p, varK_k, aOp_ap, opK_ap, opK2_ap, aFz_ap, aUn_ap, aB_ap, bK_ap, aAnd_ap, andK_t, andK_f, aOr_ap, orK_t, orK_f, aNot_ap, notK_ap, aTru_ap, truK_ap, aYes_ap, aAndV_ap, andVK_t, andVK_f, aOrV_ap, orVK_t, orVK_f, aNotV_ap, notVK_ap, aIf_ap, ifEK_t, ifEK_f, aNil_ap, aCons_ap, consK_ap, consK2_ap, aCB_ap, cbK_ap, aNoPart_ap, aPart_ap, partK_ap, aSl_ap, slK_ap, slK2_ap, slK3_ap, aBM_ap, bmK_ap, bmK2_ap, aBM0_ap, bmK0_ap, aPut_ap, putK_ap, putK1_ap, putK2_ap, aFor_ap, forK_n, aRng1_ap, aRng2_ap, aIt_ap, itK_l, itK_t, itK_s, itK_x, itK_c, itK_f, aCallG_ap, List.getElem?_cons_zero, List.getElem?_cons_succ, List.set_cons_zero, List.set_cons_succ, List.length_cons, List.length_nil, Nat.zero_add, Nat.reduceAdd, Option.map_some, Option.map_none, Option.bind_some, Option.bind_none, List.map_cons, List.map_nil, aName, aNameF, fz, rtv, wAt, toM, vw, frz_lst, frz_d, lvs_map, oIx2_var, ixV_w, ixV_p, ixV_k, ixL_some, lfAt_nat, lf_d, oIx2_l, oIx2_t, Y.atI_nat, putF_var, putV_w, putV_p, oEq_int, oNe_int, oLtA_int, oIntA_int, oIntA_bool, oLenV_l, oLenV_t, oI0_ap, oB0_ap, oAdd_int, rNeg, lfAt_0, stL_0, Y.atI_0, lfAt_1, stL_1, Y.atI_1, lfAt_2, stL_2, Y.atI_2, lfAt_3, stL_3, Y.atI_3, lfAt_4, stL_4, Y.atI_4, lfAt_5, stL_5, Y.atI_5, lfAt_6, stL_6, Y.atI_6, lfAt_7, stL_7, Y.atI_7, Nat.reduceLeDiff, Int.reduceLT, Int.reduceLE, List.cons_append, List.nil_append, decide_true, decide_false, if_true, if_false, sizeLine_eq, aLc_ap, e, stM, i__law_draw_0, oMod_ok h1, oDivW_ok h1 h2, decide_eq_false hz]
        exact ⟨_, rfl⟩
    | false =>
      have hm1 : ∀ i : Int, 0 ≤ i % 2147483647 ∧ i % 2147483647 < 2147483647 := fun i => ⟨Int.emod_nonneg _ (by omega), Int.emod_lt_of_pos _ (by omega)⟩
      refine ⟨(((cell * 48271 + (left - 1) * 69621 + 7) % 2147483647) * ((cell * 48271 + (left - 1) * 69621 + 7) % 2147483647) + cell * 31 + (left - 1)) % 1000003 % lim, stM cells pos cell (left - 1) false, (hmod _).1, (hmod _).2, ⟨cells, pos, cell, left - 1, false, rfl, hp, hcell, by omega, hc⟩, ?_⟩
      simp only [aSeq_ap, seqK_nx, seqK_rt, seqK_bk, seqK_ct, seqK_none, aNext_ap, aBrk_ap, aCont_ap, aAsg_ap, asgK_ap, nxR_some, aDrop_ap, dropK_ap, aIfS_ap, ifK_t, ifK_f, aRet_ap, retK_ap, rtR_some, aRetN_ap, aKill_ap, List.foldl_cons, List.foldl_nil, sb_okN, bd_okN, mapR_some, aC_ap, aXT_ap, aVar_ap, varK_d, varK_x, varK_w, varK_p, varK_k, aOp_ap, opK_ap, opK2_ap, aFz_ap, aUn_ap, aB_ap, bK_ap, aAnd_ap, andK_t, andK_f, aOr_ap, orK_t, orK_f, aNot_ap, notK_ap, aTru_ap, truK_ap, aYes_ap, aAndV_ap, andVK_t, andVK_f, aOrV_ap, orVK_t, orVK_f, aNotV_ap, notVK_ap, aIf_ap, ifEK_t, ifEK_f, aNil_ap, aCons_ap, consK_ap, consK2_ap, aCB_ap, cbK_ap, aNoPart_ap, aPart_ap, partK_ap, aSl_ap, slK_ap, slK2_ap, slK3_ap, aBM_ap, bmK_ap, bmK2_ap, aBM0_ap, bmK0_ap, aPut_ap, putK_ap, putK1_ap, putK2_ap, aFor_ap, forK_n, aRng1_ap, aRng2_ap, aIt_ap, itK_l, itK_t, itK_s, itK_x, itK_c, itK_f, aCallG_ap, List.getElem?_cons_zero, List.getElem?_cons_succ, List.set_cons_zero, List.set_cons_succ, List.length_cons, List.length_nil, Nat.zero_add, Nat.reduceAdd, Option.map_some, Option.map_none, Option.bind_some, Option.bind_none, List.map_cons, List.map_nil, aName, aNameF, fz, rtv, wAt, toM, vw, frz_lst, frz_d, lvs_map, oIx2_var, ixV_w, ixV_p, ixV_k, ixL_some, lfAt_nat, lf_d, oIx2_l, oIx2_t, Y.atI_nat, putF_var, putV_w, putV_p, oEq_int, oNe_int, oLtA_int, oIntA_int, oIntA_bool, oLenV_l, oLenV_t, oI0_ap, oB0_ap, oAdd_int, rNeg, lfAt_0, stL_0, Y.atI_0, lfAt_1, stL_1, Y.atI_1, lfAt_2, stL_2, Y.atI_2, lfAt_3, stL_3, Y.atI_3, lfAt_4, stL_4, Y.atI_4, lfAt_5, stL_5, Y.atI_5, lfAt_6, stL_6, Y.atI_6, lfAt_7, stL_7, Y.atI_7, Nat.reduceLeDiff, Int.reduceLT, Int.reduceLE, List.cons_append, List.nil_append, decide_true, decide_false, if_true, if_false, sizeLine_eq, aLc_ap, e, stM, i__law_draw_0, oMod_ok h1, oMul_int (mulC (hm1 _).1 (hm1 _).2), oMul_r, oMod_ok, Int.reduceLT, Int.reduceNeg, Int.reducePow]
      exact ⟨_, rfl⟩
  have fin : ∀ {r : Int} {m' : MV} {s' : SL}, b__law_draw (start0 5 [.p (stM cells pos cell left big), .d (.int lim)]) = some (.rt (.d (.int r)) (some (.p m') :: s')) → den__law_draw [.p (stM cells pos cell left big), .d (.int lim)] = some (.ok (.d (.int r)) [some (.p m'), none]) := fun e => by
    unfold den__law_draw Y.run
    rw [e]
    rfl
  by_cases hz : left = 0
  · subst hz
    rcases draw_refill (cells := cells) (pos := pos) (cell := cell) (big := big) (lim := lim) hp hc hcell with e | ⟨cell', left', big', h3, h4, e⟩
    · refine ⟨0, stM cells pos cell 0 big, by omega, h1, ⟨cells, pos, cell, 0, big, rfl, hp, hcell, by omega, hc⟩, fin (s' := [some (.d (.int lim)), none, none, none]) ?_⟩
      show b__law_draw [some (.p (stM cells pos cell 0 big)), some (.d (.int lim)), none, none, none] = _
      unfold b__law_draw
      simp only [aSeq_ap, seqK_nx, seqK_rt, seqK_bk, seqK_ct, seqK_none, aNext_ap, aBrk_ap, aCont_ap, aAsg_ap, asgK_ap, nxR_some, aDrop_ap, dropK_ap, aIfS_ap, ifK_t, ifK_f, aRet_ap, retK_ap, rtR_some, aRetN_ap, aKill_ap, List.foldl_cons, List.foldl_nil, sb_okN, bd_okN, mapR_some, aC_ap, aXT_ap, aVar_ap, varK_d, varK_x, varK_w, varK_p, varK_k, aOp_ap, opK_ap, opK2_ap, aFz_ap, aUn_ap, aB_ap, bK_ap, aAnd_ap, andK_t, andK_f, aOr_ap, orK_t, orK_f, aNot_ap, notK_ap, aTru_ap, truK_ap, aYes_ap, aAndV_ap, andVK_t, andVK_f, aOrV_ap, orVK_t, orVK_f, aNotV_ap, notVK_ap, aIf_ap, ifEK_t, ifEK_f, aNil_ap, aCons_ap, consK_ap, consK2_ap, aCB_ap, cbK_ap, aNoPart_ap, aPart_ap, partK_ap, aSl_ap, slK_ap, slK2_ap, slK3_ap, aBM_ap, bmK_ap, bmK2_ap, aBM0_ap, bmK0_ap, aPut_ap, putK_ap, putK1_ap, putK2_ap, aFor_ap, forK_n, aRng1_ap, aRng2_ap, aIt_ap, itK_l, itK_t, itK_s, itK_x, itK_c, itK_f, aCallG_ap, List.getElem?_cons_zero, List.getElem?_cons_succ, List.set_cons_zero, List.set_cons_succ, List.length_cons, List.length_nil, Nat.zero_add, Nat.reduceAdd, Option.map_some, Option.map_none, Option.bind_some, Option.bind_none, List.map_cons, List.map_nil, aName, aNameF, fz, rtv, wAt, toM, vw, frz_lst, frz_d, lvs_map, oIx2_var, ixV_w, ixV_p, ixV_k, ixL_some, lfAt_nat, lf_d, oIx2_l, oIx2_t, Y.atI_nat, putF_var, putV_w, putV_p, oEq_int, oNe_int, oLtA_int, oIntA_int, oIntA_bool, oLenV_l, oLenV_t, oI0_ap, oB0_ap, oAdd_int, rNeg, lfAt_0, stL_0, Y.atI_0, lfAt_1, stL_1, Y.atI_1, lfAt_2, stL_2, Y.atI_2, lfAt_3, stL_3, Y.atI_3, lfAt_4, stL_4, Y.atI_4, lfAt_5, stL_5, Y.atI_5, lfAt_6, stL_6, Y.atI_6, lfAt_7, stL_7, Y.atI_7, Nat.reduceLeDiff, Int.reduceLT, Int.reduceLE, List.cons_append, List.nil_append, decide_true, decide_false, if_true, if_false, sizeLine_eq, aLc_ap, e]
    · obtain ⟨r, m', q1, q2, q3, s', q4⟩ := rest (pos + 1) cell' left' big' _ (by omega) h3 h4 rfl _ e
      exact ⟨r, m', q1, q2, q3, fin q4⟩
  · obtain ⟨r, m', q1, q2, q3, s', q4⟩ := rest pos cell left big _ hp hcell (by omega) rfl _ (draw_skip hz)
    exact ⟨r, m', q1, q2, q3, fin q4⟩

end Lw

namespace Lw
open PySem PySem.Spec PyProof.Rows L2 Y PySem.W TL
theorem draw_callP {m m' : MV} {r lim : Int} {l : SL} (h : den__law_draw [.p m, .d (.int lim)] = some (.ok (.d (.int r)) [some (.p m'), none])) : callK false den__law_draw [.m 0, .f] [.var 0, .d (.int lim)] (some (.p m) :: l) = some (.ok (.d (.int r)) (some (.p m') :: l)) := by
  simp only [callK, unsub, Option.map_none, callT, argF, argF1, fz, Option.bind_some, Option.map_some, argM, argM1, wAt, List.getElem?_cons_zero, if_true, h, argB, argB1, Y.putAt, List.set_cons_zero]
theorem draw_callW {m m' : MV} {r lim : Int} {l : SL} (h : den__law_draw [.p m, .d (.int lim)] = some (.ok (.d (.int r)) [some (.p m'), none])) : callK false den__law_draw [.m 0, .f] [.var 0, .d (.int lim)] (some (.w m) :: l) = some (.ok (.d (.int r)) (some (.w m') :: l)) := by
  simp only [callK, unsub, Option.map_none, callT, argF, argF1, fz, Option.bind_some, Option.map_some, argM, argM1, wAt, List.getElem?_cons_zero, if_true, h, argB, argB1, Y.putAt, List.set_cons_zero]

/-! ### names -/
def sgN (c : Nat) : Bool := (decide (48 ≤ c) && decide (c ≤ 57)) || (decide (97 ≤ c) && decide (c ≤ 122))
def wordsL : List (List Nat) := [[112, 97, 99, 116], [101, 110, 100], [99, 104, 111, 105, 99, 101], [98, 111, 116, 104], [108, 111, 111, 112], [117, 115, 101]]
structure NameL (l : List Nat) : Prop where
  len : l.length ≤ 12
  hd : ∃ c r, l = c :: r ∧ 97 ≤ c ∧ c ≤ 122
  sg : ∀ c ∈ l, sgN c = true
  nw : l ∉ wordsL
theorem sgN_low {c : Nat} (h : sgN c = true) : c < 200 := by
  unfold sgN at h
  simp only [Bool.or_eq_true, Bool.and_eq_true, decide_eq_true_eq] at h
  omega
theorem NameL.low {l : List Nat} (h : NameL l) : ∀ c ∈ l, c < 200 := fun c hc => sgN_low (h.sg c hc)
def nameB (l : List Nat) : Bool := decide (l.length ≤ 12) && ((match l with
  | [] => false
  | c :: _ => decide (97 ≤ c) && decide (c ≤ 122)) && (l.all sgN && !wordsL.contains l))
theorem NameL.of {l : List Nat} (h : nameB l = true) : NameL l := by
  unfold nameB at h
  simp only [Bool.and_eq_true, decide_eq_true_eq, List.all_eq_true, Bool.not_eq_true'] at h
  obtain ⟨h1, h2, h3, h4⟩ := h
  refine ⟨h1, ?_, h3, fun m => ?_⟩
  · cases l with
    | nil => cases h2
    | cons c r =>
      simp only [Bool.and_eq_true, decide_eq_true_eq] at h2
      exact ⟨c, r, rfl, h2⟩
  · rw [List.contains_iff_mem.mpr m] at h4
    cases h4
structure Name0 (l : List Nat) : Prop where
  len : l.length ≤ 12
  hd : ∃ c r, l = c :: r ∧ 97 ≤ c ∧ c ≤ 122
  sg : ∀ c ∈ l, sgN c = true
theorem Name0.low {l : List Nat} (h : Name0 l) : ∀ c ∈ l, c < 200 := fun c hc => sgN_low (h.sg c hc)
theorem words1 : ∀ w ∈ wordsL, nameB (w ++ [49]) = true := by decide +kernel
def lowB (c : Nat) : Bool := decide (97 ≤ c) && decide (c ≤ 122)
theorem lowB_sgN {c : Nat} (h : lowB c = true) : sgN c = true := by
  unfold sgN
  unfold lowB at h
  rw [h, Bool.or_true]
theorem ix_const {z : Str} {P : Nat → Bool} (h : (tl z).all P = true) {r : Int} (h1 : r.toNat < (tl z).length) : ∃ n, (tl z)[r.toNat]? = some n ∧ P n = true :=
  ⟨(tl z)[r.toNat], List.getElem?_eq_getElem h1, List.all_eq_true.mp h _ (List.getElem_mem h1)⟩
theorem abc_add {s : SL} : oAdd s (.d (.str "abcdefghijklmnopqrstuvwxyz")) (.d (.str "0123456789")) = some (.d (.str "abcdefghijklmnopqrstuvwxyz0123456789"), s) := by
  have e : ("abcdefghijklmnopqrstuvwxyz" : Str) ++ "0123456789" = "abcdefghijklmnopqrstuvwxyz0123456789" := ext_tl (by decide +kernel)
  rw [← e]
  exact oAdd_str (by decide +kernel)
theorem words_in {s : SL} {l : List Nat} (h : ∀ c ∈ l, c < 200) : oIn2 false s (.d (.str (mk l))) (.t (.lst [.d (.str "pact"), .d (.str "end"), .d (.str "choice"), .d (.str "both"), .d (.str "loop"), .d (.str "use")])) = some (.d (.bool (wordsL.contains l)), s) := by
  have e : ([.d (.str "pact"), .d (.str "end"), .d (.str "choice"), .d (.str "both"), .d (.str "loop"), .d (.str "use")] : List MV) = (strsL wordsL).map MV.d := by
    have : ([("pact" : Str), "end", "choice", "both", "loop", "use"] : List Str) = wordsL.map mk := by decide +kernel
    have := congrArg (List.map fun x => MV.d (.str x)) this
    rw [List.map_map] at this
    rw [show (strsL wordsL).map MV.d = wordsL.map (fun l => MV.d (.str (mk l))) by rw [List.map_map]; rfl]
    exact this
  rw [e, oIn2_t (shaped_str h) (shaped_strs (by decide)), inD_strs]

end Lw

namespace Lw
open PySem PySem.Spec PyProof.Rows L2 Y PySem.W TL
abbrev alph : Str := "abcdefghijklmnopqrstuvwxyz0123456789"
theorem one_str : ("1" : Str) = mk [49] := ext_tl (by decide +kernel)
theorem rd__law_name {m : MV} (hm : IsSt m) : ∃ l m', NameL l ∧ IsSt m' ∧ den__law_name [.p m] = some (.ok (.d (strD l)) [some (.p m')]) := by
  obtain ⟨r, m1, r0, r1, i1, e1⟩ := rd__law_draw hm (lim := 134784) (by decide) (by decide)
  obtain ⟨r2, m2, r20, r21, i2, e2⟩ := rd__law_draw i1 (lim := 9) (by decide) (by decide)
  have hl1 : (tl ("abcdefghijklmnopqrstuvwxyz" : Str)).length = 26 := by decide +kernel
  have ol : (tl alph).length = 36 := by decide +kernel
  have oa : (tl alph).all sgN = true := by decide +kernel
  have z1 : ("abcdefghijklmnopqrstuvwxyz" : Str).length ≤ sizeLine := by decide +kernel
  have z2 : alph.length ≤ sizeLine := by decide +kernel
  obtain ⟨n0, g0, p0⟩ := ix_const (z := "abcdefghijklmnopqrstuvwxyz") (P := lowB) (by decide +kernel) (r := r / 4 % 26) (by rw [hl1]; omega)
  obtain ⟨n1, g1, p1⟩ := ix_const oa (r := r / 104 % 36) (by rw [ol]; omega)
  obtain ⟨n2, g2, p2⟩ := ix_const oa (r := r / 3744 % 36) (by rw [ol]; omega)
  obtain ⟨n3, g3, p3⟩ := ix_const oa (r := r % 35) (by rw [ol]; omega)
  have al : ∀ c ∈ [n1, n2, n3], sgN c = true := by
    intro c hc
    simp only [List.mem_cons, List.not_mem_nil, or_false] at hc
    rcases hc with rfl | rfl | rfl <;> assumption
  have mkName : ∀ m : List Nat, m.length ≤ 11 → (∀ c ∈ m, sgN c = true) → Name0 (n0 :: m) := by
    intro m hm ha
    have p0' := p0
    unfold lowB at p0'
    simp only [Bool.and_eq_true, decide_eq_true_eq] at p0'
    refine ⟨by rw [List.length_cons]; omega, ⟨n0, m, rfl, p0'⟩, fun c hc => ?_⟩
    rcases List.mem_cons.mp hc with g | g
    · rw [g]; exact lowB_sgN p0
    · exact ha c g
  have fin : ∀ {l : List Nat} {m' : MV} {s' : SL}, b__law_name (start0 6 [.p m]) = some (.rt (.d (strD l)) (some (.p m') :: s')) → den__law_name [.p m] = some (.ok (.d (strD l)) [some (.p m')]) := fun e => by
    unfold den__law_name Y.run
    rw [e]
    rfl
  -- the last step
  have last : ∀ (l : List Nat) (m' : MV), Name0 l → IsSt m' → (wordsL.contains l = true → ∃ s', b__law_name (start0 6 [.p m]) = some (.rt (.d (strD (l ++ [49]))) (some (.p m') :: s'))) → (wordsL.contains l = false → ∃ s', b__law_name (start0 6 [.p m]) = some (.rt (.d (strD l)) (some (.p m') :: s'))) →
      ∃ l m', NameL l ∧ IsSt m' ∧ den__law_name [.p m] = some (.ok (.d (strD l)) [some (.p m')]) := by
    intro l m' nm im h1 h2
    cases hw : wordsL.contains l with
    | true =>
      obtain ⟨s', e⟩ := h1 hw
      exact ⟨_, m', NameL.of (words1 l (List.contains_iff_mem.mp hw)), im, fin e⟩
    | false =>
      obtain ⟨s', e⟩ := h2 hw
      exact ⟨_, m', ⟨nm.len, nm.hd, nm.sg, fun m => by rw [List.contains_iff_mem.mpr m] at hw; cases hw⟩, im, fin e⟩
  have cm : ∀ (l : List Nat), Name0 l → l.length + [49].length ≤ 16777216 := fun l nm => by have := nm.len; show l.length + 1 ≤ 16777216; omega
  by_cases hb : r2 = 8
  · obtain ⟨r3, m3, r30, r31, i3, e3⟩ := rd__law_draw i2 (lim := 9) (by decide) (by decide)
    have nm : Name0 (n0 :: ([n1, n2, n3, n1, n2, n3, n1, n2, n3, n1, n2, n3].take (3 + r3.toNat))) := by
      refine mkName _ (by rw [List.length_take]; omega) fun c hc => ?_
      have := List.mem_of_mem_take hc
      refine al c ?_
      simp only [List.mem_cons, List.not_mem_nil, or_false] at this ⊢
      omega
    have et : [n0, n1, n2, n3, n1, n2, n3, n1, n2, n3, n1, n2, n3].take (4 + r3).toNat = n0 :: ([n1, n2, n3, n1, n2, n3, n1, n2, n3, n1, n2, n3].take (3 + r3.toNat)) := by
      rw [show (4 + r3).toNat = 3 + r3.toNat + 1 by omega]
      rfl
    have e4 : (List.replicate (4 : Int).toNat [n1, n2, n3]).flatten = [n1, n2, n3, n1, n2, n3, n1, n2, n3, n1, n2, n3] := rfl
    refine last _ m3 nm i3 (fun hw => ?_) fun hw => ?_
    · show ∃ s', b__law_name [some (.p m), none, none, none, none, none] = _
      unfold b__law_name
      simp only [aSeq_ap, seqK_nx, seqK_rt, seqK_bk, seqK_ct, seqK_none, aNext_ap, aBrk_ap, aCont_ap, aAsg_ap, asgK_ap, nxR_some, aDrop_ap, dropK_ap, aIfS_ap, ifK_t, ifK_f, aRet_ap, retK_ap, rtR_some, aRetN_ap, aKill_ap, List.foldl_cons, List.foldl_nil, sb_okN, bd_okN, mapR_some, aC_ap, aXT_ap, aVar_ap, varK_d, varK_x, varK_w, varK_p, varK_k, aOp_ap, opK_ap, opK2_ap, aFz_ap, aUn_ap, aB_ap, bK_ap, aAnd_ap, andK_t, andK_f, aOr_ap, orK_t, orK_f, aNot_ap, notK_ap, aTru_ap, truK_ap, aYes_ap, aAndV_ap, andVK_t, andVK_f, aOrV_ap, orVK_t, orVK_f, aNotV_ap, notVK_ap, aIf_ap, ifEK_t, ifEK_f, aNil_ap, aCons_ap, consK_ap, consK2_ap, aCB_ap, cbK_ap, aNoPart_ap, aPart_ap, partK_ap, aSl_ap, slK_ap, slK2_ap, slK3_ap, aBM_ap, bmK_ap, bmK2_ap, aBM0_ap, bmK0_ap, aPut_ap, putK_ap, putK1_ap, putK2_ap, aFor_ap, forK_n, aRng1_ap, aRng2_ap, aIt_ap, itK_l, itK_t, itK_s, itK_x, itK_c, itK_f, aCallG_ap, List.getElem?_cons_zero, List.getElem?_cons_succ, List.set_cons_zero, List.set_cons_succ, List.length_cons, List.length_nil, Nat.zero_add, Nat.reduceAdd, Option.map_some, Option.map_none, Option.bind_some, Option.bind_none, List.map_cons, List.map_nil, aName, aNameF, fz, rtv, wAt, toM, vw, frz_lst, frz_d, lvs_map, oIx2_var, ixV_w, ixV_p, ixV_k, ixL_some, lfAt_nat, lf_d, oIx2_l, oIx2_t, Y.atI_nat, putF_var, putV_w, putV_p, oEq_int, oNe_int, oLtA_int, oIntA_int, oIntA_bool, oLenV_l, oLenV_t, oI0_ap, oB0_ap, oAdd_int, rNeg, lfAt_0, stL_0, Y.atI_0, lfAt_1, stL_1, Y.atI_1, lfAt_2, stL_2, Y.atI_2, lfAt_3, stL_3, Y.atI_3, lfAt_4, stL_4, Y.atI_4, lfAt_5, stL_5, Y.atI_5, lfAt_6, stL_6, Y.atI_6, lfAt_7, stL_7, Y.atI_7, Nat.reduceLeDiff, Int.reduceLT, Int.reduceLE, List.cons_append, List.nil_append, decide_true, decide_false, if_true, if_false, sizeLine_eq, aLc_ap, abc_add, draw_callP e1, draw_callP e2, draw_callP e3, oMod_ok, oDiv_ok, oIx2_mk z1 (by omega : (0 : Int) ≤ r / 4 % 26) g0, oIx2_mk z2 (by omega : (0 : Int) ≤ r / 104 % 36) g1, oIx2_mk z2 (by omega : (0 : Int) ≤ r / 3744 % 36) g2, oIx2_mk z2 (by omega : (0 : Int) ≤ r % 35) g3, oAdd_mk, hb, oMul_mk, e4, oSl_hi, show (0 : Int) ≤ 4 + r3 by omega, et, oLst, mvs, words_in nm.low, hw, decide_true, one_str, oAdd_mk (cm _ nm)]
      exact ⟨_, rfl⟩
    · show ∃ s', b__law_name [some (.p m), none, none, none, none, none] = _
      unfold b__law_name
      simp only [aSeq_ap, seqK_nx, seqK_rt, seqK_bk, seqK_ct, seqK_none, aNext_ap, aBrk_ap, aCont_ap, aAsg_ap, asgK_ap, nxR_some, aDrop_ap, dropK_ap, aIfS_ap, ifK_t, ifK_f, aRet_ap, retK_ap, rtR_some, aRetN_ap, aKill_ap, List.foldl_cons, List.foldl_nil, sb_okN, bd_okN, mapR_some, aC_ap, aXT_ap, aVar_ap, varK_d, varK_x, varK_w, varK_p, varK_k, aOp_ap, opK_ap, opK2_ap, aFz_ap, aUn_ap, aB_ap, bK_ap, aAnd_ap, andK_t, andK_f, aOr_ap, orK_t, orK_f, aNot_ap, notK_ap, aTru_ap, truK_ap, aYes_ap, aAndV_ap, andVK_t, andVK_f, aOrV_ap, orVK_t, orVK_f, aNotV_ap, notVK_ap, aIf_ap, ifEK_t, ifEK_f, aNil_ap, aCons_ap, consK_ap, consK2_ap, aCB_ap, cbK_ap, aNoPart_ap, aPart_ap, partK_ap, aSl_ap, slK_ap, slK2_ap, slK3_ap, aBM_ap, bmK_ap, bmK2_ap, aBM0_ap, bmK0_ap, aPut_ap, putK_ap, putK1_ap, putK2_ap, aFor_ap, forK_n, aRng1_ap, aRng2_ap, aIt_ap, itK_l, itK_t, itK_s, itK_x, itK_c, itK_f, aCallG_ap, List.getElem?_cons_zero, List.getElem?_cons_succ, List.set_cons_zero, List.set_cons_succ, List.length_cons, List.length_nil, Nat.zero_add, Nat.reduceAdd, Option.map_some, Option.map_none, Option.bind_some, Option.bind_none, List.map_cons, List.map_nil, aName, aNameF, fz, rtv, wAt, toM, vw, frz_lst, frz_d, lvs_map, oIx2_var, ixV_w, ixV_p, ixV_k, ixL_some, lfAt_nat, lf_d, oIx2_l, oIx2_t, Y.atI_nat, putF_var, putV_w, putV_p, oEq_int, oNe_int, oLtA_int, oIntA_int, oIntA_bool, oLenV_l, oLenV_t, oI0_ap, oB0_ap, oAdd_int, rNeg, lfAt_0, stL_0, Y.atI_0, lfAt_1, stL_1, Y.atI_1, lfAt_2, stL_2, Y.atI_2, lfAt_3, stL_3, Y.atI_3, lfAt_4, stL_4, Y.atI_4, lfAt_5, stL_5, Y.atI_5, lfAt_6, stL_6, Y.atI_6, lfAt_7, stL_7, Y.atI_7, Nat.reduceLeDiff, Int.reduceLT, Int.reduceLE, List.cons_append, List.nil_append, decide_true, decide_false, if_true, if_false, sizeLine_eq, aLc_ap, abc_add, draw_callP e1, draw_callP e2, draw_callP e3, oMod_ok, oDiv_ok, oIx2_mk z1 (by omega : (0 : Int) ≤ r / 4 % 26) g0, oIx2_mk z2 (by omega : (0 : Int) ≤ r / 104 % 36) g1, oIx2_mk z2 (by omega : (0 : Int) ≤ r / 3744 % 36) g2, oIx2_mk z2 (by omega : (0 : Int) ≤ r % 35) g3, oAdd_mk, hb, oMul_mk, e4, oSl_hi, show (0 : Int) ≤ 4 + r3 by omega, et, oLst, mvs, words_in nm.low, hw, decide_true]
      exact ⟨_, rfl⟩
  · have nm : Name0 (n0 :: [n1, n2, n3].take (r % 4).toNat) := by
      refine mkName _ (by rw [List.length_take]; show min _ 3 ≤ 11; omega) fun c hc => al c (List.mem_of_mem_take hc)
    have c1 : [n0].length + (List.take (r % 4).toNat [n1, n2, n3]).length ≤ 16777216 := by rw [List.length_take]; show 1 + min _ 3 ≤ 16777216; omega
    refine last _ m2 nm i2 (fun hw => ?_) fun hw => ?_
    · show ∃ s', b__law_name [some (.p m), none, none, none, none, none] = _
      unfold b__law_name
      simp only [aSeq_ap, seqK_nx, seqK_rt, seqK_bk, seqK_ct, seqK_none, aNext_ap, aBrk_ap, aCont_ap, aAsg_ap, asgK_ap, nxR_some, aDrop_ap, dropK_ap, aIfS_ap, ifK_t, ifK_f, aRet_ap, retK_ap, rtR_some, aRetN_ap, aKill_ap, List.foldl_cons, List.foldl_nil, sb_okN, bd_okN, mapR_some, aC_ap, aXT_ap, aVar_ap, varK_d, varK_x, varK_w, varK_p, varK_k, aOp_ap, opK_ap, opK2_ap, aFz_ap, aUn_ap, aB_ap, bK_ap, aAnd_ap, andK_t, andK_f, aOr_ap, orK_t, orK_f, aNot_ap, notK_ap, aTru_ap, truK_ap, aYes_ap, aAndV_ap, andVK_t, andVK_f, aOrV_ap, orVK_t, orVK_f, aNotV_ap, notVK_ap, aIf_ap, ifEK_t, ifEK_f, aNil_ap, aCons_ap, consK_ap, consK2_ap, aCB_ap, cbK_ap, aNoPart_ap, aPart_ap, partK_ap, aSl_ap, slK_ap, slK2_ap, slK3_ap, aBM_ap, bmK_ap, bmK2_ap, aBM0_ap, bmK0_ap, aPut_ap, putK_ap, putK1_ap, putK2_ap, aFor_ap, forK_n, aRng1_ap, aRng2_ap, aIt_ap, itK_l, itK_t, itK_s, itK_x, itK_c, itK_f, aCallG_ap, List.getElem?_cons_zero, List.getElem?_cons_succ, List.set_cons_zero, List.set_cons_succ, List.length_cons, List.length_nil, Nat.zero_add, Nat.reduceAdd, Option.map_some, Option.map_none, Option.bind_some, Option.bind_none, List.map_cons, List.map_nil, aName, aNameF, fz, rtv, wAt, toM, vw, frz_lst, frz_d, lvs_map, oIx2_var, ixV_w, ixV_p, ixV_k, ixL_some, lfAt_nat, lf_d, oIx2_l, oIx2_t, Y.atI_nat, putF_var, putV_w, putV_p, oEq_int, oNe_int, oLtA_int, oIntA_int, oIntA_bool, oLenV_l, oLenV_t, oI0_ap, oB0_ap, oAdd_int, rNeg, lfAt_0, stL_0, Y.atI_0, lfAt_1, stL_1, Y.atI_1, lfAt_2, stL_2, Y.atI_2, lfAt_3, stL_3, Y.atI_3, lfAt_4, stL_4, Y.atI_4, lfAt_5, stL_5, Y.atI_5, lfAt_6, stL_6, Y.atI_6, lfAt_7, stL_7, Y.atI_7, Nat.reduceLeDiff, Int.reduceLT, Int.reduceLE, List.cons_append, List.nil_append, decide_true, decide_false, if_true, if_false, sizeLine_eq, aLc_ap, abc_add, draw_callP e1, draw_callP e2, oMod_ok, oDiv_ok, oIx2_mk z1 (by omega : (0 : Int) ≤ r / 4 % 26) g0, oIx2_mk z2 (by omega : (0 : Int) ≤ r / 104 % 36) g1, oIx2_mk z2 (by omega : (0 : Int) ≤ r / 3744 % 36) g2, oIx2_mk z2 (by omega : (0 : Int) ≤ r % 35) g3, oAdd_mk, decide_eq_false hb, oSl_hi, show (0 : Int) ≤ r % 4 by omega, oAdd_mk c1, oLst, mvs, words_in nm.low, hw, decide_true, one_str, oAdd_mk (cm _ nm)]
      exact ⟨_, rfl⟩
    · show ∃ s', b__law_name [some (.p m), none, none, none, none, none] = _
      unfold b__law_name
      simp only [aSeq_ap, seqK_nx, seqK_rt, seqK_bk, seqK_ct, seqK_none, aNext_ap, aBrk_ap, aCont_ap, aAsg_ap, asgK_ap, nxR_some, aDrop_ap, dropK_ap, aIfS_ap, ifK_t, ifK_f, aRet_ap, retK_ap, rtR_some, aRetN_ap, aKill_ap, List.foldl_cons, List.foldl_nil, sb_okN, bd_okN, mapR_some, aC_ap, aXT_ap, aVar_ap, varK_d, varK_x, varK_w, varK_p, varK_k, aOp_ap, opK_ap, opK2_ap, aFz_ap, aUn_ap, aB_ap, bK_ap, aAnd_ap, andK_t, andK_f, aOr_ap, orK_t, orK_f, aNot_ap, notK_ap, aTru_ap, truK_ap, aYes_ap, aAndV_ap, andVK_t, andVK_f, aOrV_ap, orVK_t, orVK_f, aNotV_ap, notVK_ap, aIf_ap, ifEK_t, ifEK_f, aNil_ap, aCons_ap, consK_ap, consK2_ap, aCB_ap, cbK_ap, aNoPart_ap, aPart_ap, partK_ap, aSl_ap, slK_ap, slK2_ap, slK3_ap, aBM_ap, bmK_ap, bmK2_ap, aBM0_ap, bmK0_ap, aPut_ap, putK_ap, putK1_ap, putK2_ap, aFor_ap, forK_n, aRng1_ap, aRng2_ap, aIt_ap, itK_l, itK_t, itK_s, itK_x, itK_c, itK_f, aCallG_ap, List.getElem?_cons_zero, List.getElem?_cons_succ, List.set_cons_zero, List.set_cons_succ, List.length_cons, List.length_nil, Nat.zero_add, Nat.reduceAdd, Option.map_some, Option.map_none, Option.bind_some, Option.bind_none, List.map_cons, List.map_nil, aName, aNameF, fz, rtv, wAt, toM, vw, frz_lst, frz_d, lvs_map, oIx2_var, ixV_w, ixV_p, ixV_k, ixL_some, lfAt_nat, lf_d, oIx2_l, oIx2_t, Y.atI_nat, putF_var, putV_w, putV_p, oEq_int, oNe_int, oLtA_int, oIntA_int, oIntA_bool, oLenV_l, oLenV_t, oI0_ap, oB0_ap, oAdd_int, rNeg, lfAt_0, stL_0, Y.atI_0, lfAt_1, stL_1, Y.atI_1, lfAt_2, stL_2, Y.atI_2, lfAt_3, stL_3, Y.atI_3, lfAt_4, stL_4, Y.atI_4, lfAt_5, stL_5, Y.atI_5, lfAt_6, stL_6, Y.atI_6, lfAt_7, stL_7, Y.atI_7, Nat.reduceLeDiff, Int.reduceLT, Int.reduceLE, List.cons_append, List.nil_append, decide_true, decide_false, if_true, if_false, sizeLine_eq, aLc_ap, abc_add, draw_callP e1, draw_callP e2, oMod_ok, oDiv_ok, oIx2_mk z1 (by omega : (0 : Int) ≤ r / 4 % 26) g0, oIx2_mk z2 (by omega : (0 : Int) ≤ r / 104 % 36) g1, oIx2_mk z2 (by omega : (0 : Int) ≤ r / 3744 % 36) g2, oIx2_mk z2 (by omega : (0 : Int) ≤ r % 35) g3, oAdd_mk, decide_eq_false hb, oSl_hi, show (0 : Int) ≤ r % 4 by omega, oAdd_mk c1, oLst, mvs, words_in nm.low, hw, decide_true]
      exact ⟨_, rfl⟩

end Lw

namespace Lw
open PySem PySem.Spec PyProof.Rows L2 Y PySem.W TL
theorem nodup_len {α : Type} [DecidableEq α] : ∀ {L B : List α}, L.Nodup → (∀ x ∈ L, x ∈ B) → L.length ≤ B.length
  | [], _, _, _ => Nat.zero_le _
  | x :: r, B, h, s => by
    have hx := s x (List.mem_cons_self ..)
    obtain ⟨h1, h2⟩ := List.nodup_cons.mp h
    have := nodup_len (L := r) (B := B.erase x) h2 fun y hy => by
      have ne : y ≠ x := fun z => h1 (z ▸ hy)
      exact (List.mem_erase_of_ne ne).mpr (s y (List.mem_cons_of_mem _ hy))
    rw [List.length_erase_of_mem hx] at this
    have pos : 0 < B.length := List.length_pos_of_mem hx
    rw [List.length_cons]
    omega
/-- what is put behind a name that is taken -/
def sfx (i : Nat) : List Nat := 113 :: numL i
def Ends (i : Nat) (l : List Nat) : Prop := ∃ a, l = a ++ sfx i
theorem sfx_shape : ∀ i < 20, (∃ d, sfx i = [113, d] ∧ 48 ≤ d ∧ d ≤ 57) ∨ ∃ d e, sfx i = [113, d, e] ∧ (48 ≤ d ∧ d ≤ 57) := by
  intro i hi
  by_cases h : i < 10
  · exact .inl ⟨48 + i, by unfold sfx; rw [numL_lt h], by omega, by omega⟩
  · exact .inr ⟨48 + i / 10, 48 + i % 10, by unfold sfx; rw [numL_step (by omega), numL_lt (by omega)]; rfl, by omega, by omega⟩
theorem sfx_inj (i : Nat) (_ : i < 20) (j : Nat) (_ : j < 20) (h : sfx i = sfx j) : i = j := by
  unfold sfx at h
  injection h with _ h
  exact numL_inj h
theorem sfx_two : ∀ i < 20, (sfx i).length = 2 ∨ (sfx i).length = 3 := by
  intro i hi
  rcases sfx_shape i hi with ⟨d, e, _⟩ | ⟨d, d2, e, _⟩
  · exact .inl (by rw [e]; rfl)
  · exact .inr (by rw [e]; rfl)
theorem ends_inj {i j : Nat} (hi : i < 20) (hj : j < 20) {l : List Nat} (h1 : Ends i l) (h2 : Ends j l) : i = j := by
  obtain ⟨a, e1⟩ := h1
  obtain ⟨b, e2⟩ := h2
  rw [e1] at e2
  rcases sfx_shape i hi with ⟨d, ed, h3, h4⟩ | ⟨d, e, ed, h3⟩ <;> rcases sfx_shape j hj with ⟨d', ed', h3', h4'⟩ | ⟨d', e', ed', h3'⟩
  · have := List.append_inj' e2 (by rw [ed, ed']; rfl)
    exact sfx_inj i hi j hj this.2
  · rw [ed, ed', show b ++ [113, d', e'] = (b ++ [113]) ++ [d', e'] by simp] at e2
    have := (List.append_inj' e2 rfl).2
    injection this with h _
    omega
  · rw [ed, ed', show a ++ [113, d, e] = (a ++ [113]) ++ [d, e] by simp] at e2
    have := (List.append_inj' e2 rfl).2
    injection this with h _
    omega
  · have := List.append_inj' e2 (by rw [ed, ed']; rfl)
    exact sfx_inj i hi j hj this.2
/-- behind j tries -/
def TryP (bad : List (List Nat)) (j : Nat) (nm : List Nat) : Prop := ∃ L : List (List Nat), L.Nodup ∧ (∀ x ∈ L, x ∈ bad ∧ ∃ i, i + 1 < j ∧ Ends i x) ∧ (nm ∉ bad ∨ j = 0 ∨ (L.length + 1 = j ∧ Ends (j - 1) nm))
theorem try_keep {bad : List (List Nat)} {j : Nat} {nm : List Nat} (h : TryP bad j nm) (hn : nm ∉ bad) : TryP bad (j + 1) nm := by
  obtain ⟨L, h1, h2, _⟩ := h
  exact ⟨L, h1, fun x hx => ⟨(h2 x hx).1, let ⟨i, hi, e⟩ := (h2 x hx).2; ⟨i, by omega, e⟩⟩, .inl hn⟩
theorem try_next {bad : List (List Nat)} {j : Nat} {nm : List Nat} (hj : j < 20) (h : TryP bad j nm) (hn : nm ∈ bad) (nm' : List Nat) (he : Ends j nm') : TryP bad (j + 1) nm' := by
  obtain ⟨L, h1, h2, h3⟩ := h
  rcases h3 with h3 | h3 | ⟨h3, h4⟩
  · exact absurd hn h3
  · subst h3
    refine ⟨[], List.nodup_nil, fun x hx => absurd hx List.not_mem_nil, .inr (.inr ⟨rfl, he⟩)⟩
  · refine ⟨nm :: L, List.nodup_cons.mpr ⟨fun m => ?_, h1⟩, fun x hx => ?_, .inr (.inr ⟨by rw [List.length_cons]; omega, he⟩)⟩
    · obtain ⟨_, i, hi, e⟩ := h2 nm m
      have := ends_inj (by omega) (by omega) e h4
      omega
    · rcases List.mem_cons.mp hx with e | e
      · subst e; exact ⟨hn, j - 1, by omega, h4⟩
      · exact ⟨(h2 x e).1, let ⟨i, hi, e'⟩ := (h2 x e).2; ⟨i, by omega, e'⟩⟩
theorem try_end {bad : List (List Nat)} {nm : List Nat} (h : TryP bad 20 nm) (hb : bad.length ≤ 18) : nm ∉ bad := by
  obtain ⟨L, h1, h2, h3⟩ := h
  rcases h3 with h3 | h3 | ⟨h3, _⟩
  · exact h3
  · omega
  · have := nodup_len h1 fun x hx => (h2 x hx).1
    omega
theorem tried_name {nm : List Nat} {j : Nat} (h : NameL nm) (hj : j < 20) : NameL (nm.take 9 ++ sfx j) := by
  obtain ⟨c, r, e, h1, h2⟩ := h.hd
  refine ⟨?_, ⟨c, r.take 8 ++ sfx j, by rw [e]; rfl, h1, h2⟩, fun x hx => ?_, fun m => ?_⟩
  · rw [List.length_append, List.length_take]
    rcases sfx_two j hj with g | g <;> omega
  · rcases List.mem_append.mp hx with g | g
    · exact h.sg x (List.mem_of_mem_take g)
    · rcases List.mem_cons.mp g with g | g
      · rw [g]; rfl
      · have := numL_digits j x g
        unfold sgN
        simp only [Bool.or_eq_true, Bool.and_eq_true, decide_eq_true_eq]
        exact .inl this
  · have q : ∀ w ∈ wordsL, 113 ∉ w := by decide
    exact q _ m (List.mem_append_right _ (List.mem_cons_self ..))

theorem not_mem_of {l : List Nat} {ls : List (List Nat)} (h : ls.contains l = false) : l ∉ ls := fun m => by
  rw [List.contains_iff_mem.mpr m] at h; cases h
theorem q_mk : ("q" : Str) = mk [113] := ext_tl (by decide +kernel)
theorem oStr_nat {s : SL} {n : Nat} (h : n ≤ 999999999) : oStr s [.d (.int (n : Nat))] = some (.d (.str (mk (numL n))), s) := by
  have e : (toString ((n : Nat) : Int) : Str) = mk (numL n) := ext_tl (by have := tl_num n; exact this)
  show (if ((n : Nat) : Int).natAbs.log2 < 1920 then some (TV.d (.str (toString ((n : Nat) : Int))), s) else none) = _
  rw [if_pos (Nat.lt_of_lt_of_le (PySem.Flt.log2_lt_of (k := 64) (by decide) (by omega)) (by decide)), e]
theorem name_callP {m m' : MV} {d : PyData} {l : SL} (h : den__law_name [.p m] = some (.ok (.d d) [some (.p m')])) : callK false den__law_name [.m 0] [.var 0] (some (.p m) :: l) = some (.ok (.d d) (some (.p m') :: l)) := by
  simp only [callK, unsub, Option.map_none, callT, argF, argF1, fz, Option.bind_some, Option.map_some, argM, argM1, wAt, List.getElem?_cons_zero, if_true, h, argB, argB1, Y.putAt, List.set_cons_zero]
theorem names_step {m : MV} {c : PyData} {tk ns : List (List Nat)} {nm : List Nat} {o : Option SV} {i : Nat} (hi : i < 20) (h1 : NameL nm) (h2 : ∀ l ∈ ns, ∀ c ∈ l, c < 200) (h3 : ∀ l ∈ tk, ∀ c ∈ l, c < 200) :
    f__law_names_0 [some (.p m), some (.d c), some (.d (.list (strsL tk))), some (.w (.lst ((strsL ns).map MV.d))), o, some (.d (strD nm)), some (.d (.int (i : Nat)))] =
      some (.nx [some (.p m), some (.d c), some (.d (.list (strsL tk))), some (.w (.lst ((strsL ns).map MV.d))), o, some (.d (strD (if nm ∈ ns ++ tk then nm.take 9 ++ sfx i else nm))), none]) := by
  have hs := shaped_str h1.low
  have hn := shaped_strs h2
  have ht := shaped_strs h3
  have ln : nm.length ≤ 16777216 := by have := h1.len; omega
  have c1 : (nm.take 9).length + [113].length ≤ 16777216 := by rw [List.length_take]; show min 9 _ + 1 ≤ _; omega
  have c2 : (nm.take 9 ++ [113]).length + (numL i).length ≤ 16777216 := by
    have := sfx_two i hi
    have h4 : (sfx i).length = (numL i).length + 1 := rfl
    rw [List.length_append, List.length_take]
    show min 9 _ + 1 + _ ≤ _
    omega
  have e9 : nm.take (9 : Int).toNat = nm.take 9 := rfl
  have ea : (nm.take 9 ++ [113]) ++ numL i = nm.take 9 ++ sfx i := by rw [List.append_assoc]; rfl
  unfold f__law_names_0
  by_cases g1 : nm ∈ ns
  · have hc : ns.contains nm = true := List.contains_iff_mem.mpr g1
    rw [if_pos (List.mem_append_left _ g1)]
    simp only [aSeq_ap, seqK_nx, seqK_rt, seqK_bk, seqK_ct, seqK_none, aNext_ap, aBrk_ap, aCont_ap, aAsg_ap, asgK_ap, nxR_some, aDrop_ap, dropK_ap, aIfS_ap, ifK_t, ifK_f, aRet_ap, retK_ap, rtR_some, aRetN_ap, aKill_ap, List.foldl_cons, List.foldl_nil, sb_okN, bd_okN, mapR_some, aC_ap, aXT_ap, aVar_ap, varK_d, varK_x, varK_w, varK_p, varK_k, aOp_ap, opK_ap, opK2_ap, aFz_ap, aUn_ap, aB_ap, bK_ap, aAnd_ap, andK_t, andK_f, aOr_ap, orK_t, orK_f, aNot_ap, notK_ap, aTru_ap, truK_ap, aYes_ap, aAndV_ap, andVK_t, andVK_f, aOrV_ap, orVK_t, orVK_f, aNotV_ap, notVK_ap, aIf_ap, ifEK_t, ifEK_f, aNil_ap, aCons_ap, consK_ap, consK2_ap, aCB_ap, cbK_ap, aNoPart_ap, aPart_ap, partK_ap, aSl_ap, slK_ap, slK2_ap, slK3_ap, aBM_ap, bmK_ap, bmK2_ap, aBM0_ap, bmK0_ap, aPut_ap, putK_ap, putK1_ap, putK2_ap, aFor_ap, forK_n, aRng1_ap, aRng2_ap, aIt_ap, itK_l, itK_t, itK_s, itK_x, itK_c, itK_f, aCallG_ap, List.getElem?_cons_zero, List.getElem?_cons_succ, List.set_cons_zero, List.set_cons_succ, List.length_cons, List.length_nil, Nat.zero_add, Nat.reduceAdd, Option.map_some, Option.map_none, Option.bind_some, Option.bind_none, List.map_cons, List.map_nil, aName, aNameF, fz, rtv, wAt, toM, vw, frz_lst, frz_d, lvs_map, oIx2_var, ixV_w, ixV_p, ixV_k, ixL_some, lfAt_nat, lf_d, oIx2_l, oIx2_t, Y.atI_nat, putF_var, putV_w, putV_p, oEq_int, oNe_int, oLtA_int, oIntA_int, oIntA_bool, oLenV_l, oLenV_t, oI0_ap, oB0_ap, oAdd_int, rNeg, lfAt_0, stL_0, Y.atI_0, lfAt_1, stL_1, Y.atI_1, lfAt_2, stL_2, Y.atI_2, lfAt_3, stL_3, Y.atI_3, lfAt_4, stL_4, Y.atI_4, lfAt_5, stL_5, Y.atI_5, lfAt_6, stL_6, Y.atI_6, lfAt_7, stL_7, Y.atI_7, Nat.reduceLeDiff, Int.reduceLT, Int.reduceLE, List.cons_append, List.nil_append, decide_true, decide_false, if_true, if_false, sizeLine_eq, aLc_ap, oIn2_var, inV_w hs hn, inD_strs, hc, oSl_hi ln, e9, q_mk, oAdd_mk c1, oStr_nat (show i ≤ 999999999 by omega), oAdd_mk c2, ea]
  · have hc : ns.contains nm = false := by cases h : ns.contains nm with
      | false => rfl
      | true => exact absurd (List.contains_iff_mem.mp h) g1
    by_cases g2 : nm ∈ tk
    · have hc2 : tk.contains nm = true := List.contains_iff_mem.mpr g2
      rw [if_pos (List.mem_append_right _ g2)]
      simp only [aSeq_ap, seqK_nx, seqK_rt, seqK_bk, seqK_ct, seqK_none, aNext_ap, aBrk_ap, aCont_ap, aAsg_ap, asgK_ap, nxR_some, aDrop_ap, dropK_ap, aIfS_ap, ifK_t, ifK_f, aRet_ap, retK_ap, rtR_some, aRetN_ap, aKill_ap, List.foldl_cons, List.foldl_nil, sb_okN, bd_okN, mapR_some, aC_ap, aXT_ap, aVar_ap, varK_d, varK_x, varK_w, varK_p, varK_k, aOp_ap, opK_ap, opK2_ap, aFz_ap, aUn_ap, aB_ap, bK_ap, aAnd_ap, andK_t, andK_f, aOr_ap, orK_t, orK_f, aNot_ap, notK_ap, aTru_ap, truK_ap, aYes_ap, aAndV_ap, andVK_t, andVK_f, aOrV_ap, orVK_t, orVK_f, aNotV_ap, notVK_ap, aIf_ap, ifEK_t, ifEK_f, aNil_ap, aCons_ap, consK_ap, consK2_ap, aCB_ap, cbK_ap, aNoPart_ap, aPart_ap, partK_ap, aSl_ap, slK_ap, slK2_ap, slK3_ap, aBM_ap, bmK_ap, bmK2_ap, aBM0_ap, bmK0_ap, aPut_ap, putK_ap, putK1_ap, putK2_ap, aFor_ap, forK_n, aRng1_ap, aRng2_ap, aIt_ap, itK_l, itK_t, itK_s, itK_x, itK_c, itK_f, aCallG_ap, List.getElem?_cons_zero, List.getElem?_cons_succ, List.set_cons_zero, List.set_cons_succ, List.length_cons, List.length_nil, Nat.zero_add, Nat.reduceAdd, Option.map_some, Option.map_none, Option.bind_some, Option.bind_none, List.map_cons, List.map_nil, aName, aNameF, fz, rtv, wAt, toM, vw, frz_lst, frz_d, lvs_map, oIx2_var, ixV_w, ixV_p, ixV_k, ixL_some, lfAt_nat, lf_d, oIx2_l, oIx2_t, Y.atI_nat, putF_var, putV_w, putV_p, oEq_int, oNe_int, oLtA_int, oIntA_int, oIntA_bool, oLenV_l, oLenV_t, oI0_ap, oB0_ap, oAdd_int, rNeg, lfAt_0, stL_0, Y.atI_0, lfAt_1, stL_1, Y.atI_1, lfAt_2, stL_2, Y.atI_2, lfAt_3, stL_3, Y.atI_3, lfAt_4, stL_4, Y.atI_4, lfAt_5, stL_5, Y.atI_5, lfAt_6, stL_6, Y.atI_6, lfAt_7, stL_7, Y.atI_7, Nat.reduceLeDiff, Int.reduceLT, Int.reduceLE, List.cons_append, List.nil_append, decide_true, decide_false, if_true, if_false, sizeLine_eq, aLc_ap, oIn2_var, inV_w hs hn, inD_strs, hc, oIn2_d hs ht, hc2, oSl_hi ln, e9, q_mk, oAdd_mk c1, oStr_nat (show i ≤ 999999999 by omega), oAdd_mk c2, ea]
    · have hc2 : tk.contains nm = false := by cases h : tk.contains nm with
        | false => rfl
        | true => exact absurd (List.contains_iff_mem.mp h) g2
      rw [if_neg fun z => (List.mem_append.mp z).elim g1 g2]
      simp only [aSeq_ap, seqK_nx, seqK_rt, seqK_bk, seqK_ct, seqK_none, aNext_ap, aBrk_ap, aCont_ap, aAsg_ap, asgK_ap, nxR_some, aDrop_ap, dropK_ap, aIfS_ap, ifK_t, ifK_f, aRet_ap, retK_ap, rtR_some, aRetN_ap, aKill_ap, List.foldl_cons, List.foldl_nil, sb_okN, bd_okN, mapR_some, aC_ap, aXT_ap, aVar_ap, varK_d, varK_x, varK_w, varK_p, varK_k, aOp_ap, opK_ap, opK2_ap, aFz_ap, aUn_ap, aB_ap, bK_ap, aAnd_ap, andK_t, andK_f, aOr_ap, orK_t, orK_f, aNot_ap, notK_ap, aTru_ap, truK_ap, aYes_ap, aAndV_ap, andVK_t, andVK_f, aOrV_ap, orVK_t, orVK_f, aNotV_ap, notVK_ap, aIf_ap, ifEK_t, ifEK_f, aNil_ap, aCons_ap, consK_ap, consK2_ap, aCB_ap, cbK_ap, aNoPart_ap, aPart_ap, partK_ap, aSl_ap, slK_ap, slK2_ap, slK3_ap, aBM_ap, bmK_ap, bmK2_ap, aBM0_ap, bmK0_ap, aPut_ap, putK_ap, putK1_ap, putK2_ap, aFor_ap, forK_n, aRng1_ap, aRng2_ap, aIt_ap, itK_l, itK_t, itK_s, itK_x, itK_c, itK_f, aCallG_ap, List.getElem?_cons_zero, List.getElem?_cons_succ, List.set_cons_zero, List.set_cons_succ, List.length_cons, List.length_nil, Nat.zero_add, Nat.reduceAdd, Option.map_some, Option.map_none, Option.bind_some, Option.bind_none, List.map_cons, List.map_nil, aName, aNameF, fz, rtv, wAt, toM, vw, frz_lst, frz_d, lvs_map, oIx2_var, ixV_w, ixV_p, ixV_k, ixL_some, lfAt_nat, lf_d, oIx2_l, oIx2_t, Y.atI_nat, putF_var, putV_w, putV_p, oEq_int, oNe_int, oLtA_int, oIntA_int, oIntA_bool, oLenV_l, oLenV_t, oI0_ap, oB0_ap, oAdd_int, rNeg, lfAt_0, stL_0, Y.atI_0, lfAt_1, stL_1, Y.atI_1, lfAt_2, stL_2, Y.atI_2, lfAt_3, stL_3, Y.atI_3, lfAt_4, stL_4, Y.atI_4, lfAt_5, stL_5, Y.atI_5, lfAt_6, stL_6, Y.atI_6, lfAt_7, stL_7, Y.atI_7, Nat.reduceLeDiff, Int.reduceLT, Int.reduceLE, List.cons_append, List.nil_append, decide_true, decide_false, if_true, if_false, sizeLine_eq, aLc_ap, oIn2_var, inV_w hs hn, inD_strs, hc, oIn2_d hs ht, hc2]

theorem names_body {m m' : MV} {n : Int} {tk : PyData} {ns : List MV} {ds : List PyData} (hr : ∀ s, rngK1 [.d (.int n)] s = some (.ok (ds, none) s))
  (e' : forGo (aNameF 4) f__law_names_1 ds [some (SV.p m), some (.d (.int n)), some (.d tk), some (.w (.lst [])), none, none, none] = some (.nx [some (SV.p m'), some (.d (.int n)), some (.d tk), some (.w (.lst ns)), none, none, none])) :
  b__law_names [some (SV.p m), some (.d (.int n)), some (.d tk), none, none, none, none] = some (.rt (.t (.lst ns)) [some (.p m'), some (.d (.int n)), some (.d tk), none, none, none, none]) := by
    unfold b__law_names
    simp only [aSeq_ap, seqK_nx, seqK_rt, seqK_bk, seqK_ct, seqK_none, aNext_ap, aBrk_ap, aCont_ap, aAsg_ap, asgK_ap, nxR_some, aDrop_ap, dropK_ap, aIfS_ap, ifK_t, ifK_f, aRet_ap, retK_ap, rtR_some, aRetN_ap, aKill_ap, List.foldl_cons, List.foldl_nil, sb_okN, bd_okN, mapR_some, aC_ap, aXT_ap, aVar_ap, varK_d, varK_x, varK_w, varK_p, varK_k, aOp_ap, opK_ap, opK2_ap, aFz_ap, aUn_ap, aB_ap, bK_ap, aAnd_ap, andK_t, andK_f, aOr_ap, orK_t, orK_f, aNot_ap, notK_ap, aTru_ap, truK_ap, aYes_ap, aAndV_ap, andVK_t, andVK_f, aOrV_ap, orVK_t, orVK_f, aNotV_ap, notVK_ap, aIf_ap, ifEK_t, ifEK_f, aNil_ap, aCons_ap, consK_ap, consK2_ap, aCB_ap, cbK_ap, aNoPart_ap, aPart_ap, partK_ap, aSl_ap, slK_ap, slK2_ap, slK3_ap, aBM_ap, bmK_ap, bmK2_ap, aBM0_ap, bmK0_ap, aPut_ap, putK_ap, putK1_ap, putK2_ap, aFor_ap, forK_n, aRng1_ap, aRng2_ap, aIt_ap, itK_l, itK_t, itK_s, itK_x, itK_c, itK_f, aCallG_ap, List.getElem?_cons_zero, List.getElem?_cons_succ, List.set_cons_zero, List.set_cons_succ, List.length_cons, List.length_nil, Nat.zero_add, Nat.reduceAdd, Option.map_some, Option.map_none, Option.bind_some, Option.bind_none, List.map_cons, List.map_nil, aName, aNameF, fz, rtv, wAt, toM, vw, frz_lst, frz_d, lvs_map, oIx2_var, ixV_w, ixV_p, ixV_k, ixL_some, lfAt_nat, lf_d, oIx2_l, oIx2_t, Y.atI_nat, putF_var, putV_w, putV_p, oEq_int, oNe_int, oLtA_int, oIntA_int, oIntA_bool, oLenV_l, oLenV_t, oI0_ap, oB0_ap, oAdd_int, rNeg, lfAt_0, stL_0, Y.atI_0, lfAt_1, stL_1, Y.atI_1, lfAt_2, stL_2, Y.atI_2, lfAt_3, stL_3, Y.atI_3, lfAt_4, stL_4, Y.atI_4, lfAt_5, stL_5, Y.atI_5, lfAt_6, stL_6, Y.atI_6, lfAt_7, stL_7, Y.atI_7, Nat.reduceLeDiff, Int.reduceLT, Int.reduceLE, List.cons_append, List.nil_append, decide_true, decide_false, if_true, if_false, sizeLine_eq, aLc_ap, oLst_nil, hr, e']
def NsP (c : PyData) (tk : List (List Nat)) (i : Nat) (s : SL) : Prop := ∃ (ns : List (List Nat)) (m : MV), ns.length = i ∧ (∀ l ∈ ns, NameL l) ∧ ns.Nodup ∧ (∀ l ∈ ns, l ∉ tk) ∧ IsSt m ∧ s = [some (.p m), some (.d c), some (.d (.list (strsL tk))), some (.w (.lst ((strsL ns).map MV.d))), none, none, none]
def TyP (c : PyData) (tk ns : List (List Nat)) (m : MV) (o : Option SV) (j : Nat) (s : SL) : Prop := ∃ nm, NameL nm ∧ TryP (ns ++ tk) j nm ∧ s = [some (.p m), some (.d c), some (.d (.list (strsL tk))), some (.w (.lst ((strsL ns).map MV.d))), o, some (.d (strD nm)), none]
theorem rd__law_names {m : MV} {n : Nat} {tk : List (List Nat)} (hm : IsSt m) (htk : ∀ l ∈ tk, ∀ c ∈ l, c < 200) (hn : n + tk.length ≤ 18) : ∃ ns m', ns.length = n ∧ (∀ l ∈ ns, NameL l) ∧ ns.Nodup ∧ (∀ l ∈ ns, l ∉ tk) ∧ IsSt m' ∧
    den__law_names [.p m, .d (.int (n : Nat)), .d (.list (strsL tk))] = some (.ok (.t (.lst ((strsL ns).map MV.d))) [some (.p m'), none, none]) := by
  obtain ⟨s', e, ns, m', l1, l2, l3, l4, im, rfl⟩ := forGo_inv (Ga := aNameF 4) (S := f__law_names_1) (NsP (.int (n : Nat)) tk) (ds := rng 0 ((n : Nat) : Int).toNat) (fun i d s hd hp => by
    obtain ⟨rfl, hi⟩ := rng_get0 hd
    obtain ⟨ns, m, l1, l2, l3, l4, im, rfl⟩ := hp
    have hi' : i < n := hi
    obtain ⟨nm, m1, hnm, im1, e1⟩ := rd__law_name im
    obtain ⟨s1, e2, nm', hnm', ht, rfl⟩ := forGo_inv (Ga := aNameF 6) (S := f__law_names_0) (TyP (.int (n : Nat)) tk ns m1 (some (.d (.int (i : Nat))))) (ds := rng 0 20) (fun j d s hd hp => by
      obtain ⟨rfl, hj⟩ := rng_get0 hd
      obtain ⟨nm, h1, h2, rfl⟩ := hp
      refine ⟨_, _, rfl, .inl (names_step (m := m1) (c := .int (n : Nat)) (o := some (.d (.int (i : Nat)))) hj h1 (fun l hl => (l2 l hl).low) htk), ?_⟩
      · by_cases g : nm ∈ ns ++ tk
        · rw [if_pos g]
          exact ⟨_, tried_name h1 hj, try_next hj h2 g _ ⟨_, rfl⟩, rfl⟩
        · rw [if_neg g]
          exact ⟨_, h1, try_keep h2 g, rfl⟩) (s := [some (.p m1), some (.d (.int (n : Nat))), some (.d (.list (strsL tk))), some (.w (.lst ((strsL ns).map MV.d))), some (.d (.int (i : Nat))), some (.d (strD nm)), none]) ⟨nm, hnm, ⟨[], List.nodup_nil, fun x hx => absurd hx List.not_mem_nil, .inr (.inl rfl)⟩, rfl⟩
    rw [rng_len] at ht
    have bad : nm' ∉ ns ++ tk := try_end ht (by rw [List.length_append]; omega)
    refine ⟨_, [some (.p m1), some (.d (.int (n : Nat))), some (.d (.list (strsL tk))), some (.w (.lst ((strsL (ns ++ [nm'])).map MV.d))), none, none, none], rfl, .inl ?_, ⟨ns ++ [nm'], m1, by rw [List.length_append, l1]; rfl, fun l hl => ?_, ?_, fun l hl => ?_, im1, rfl⟩⟩
    · have hr : rngK1 [.d (.int 20)] [some (SV.p m1), some (.d (.int (n : Nat))), some (.d (.list (strsL tk))), some (.w (.lst ((strsL ns).map MV.d))), some (.d (.int (i : Nat))), some (.d (strD nm)), none] = some (.ok (rng 0 20, none) [some (SV.p m1), some (.d (.int (n : Nat))), some (.d (.list (strsL tk))), some (.w (.lst ((strsL ns).map MV.d))), some (.d (.int (i : Nat))), some (.d (strD nm)), none]) := rngK1_ap (by omega)
      have hl : ((strsL ns).map MV.d).length < 16777216 := by rw [List.length_map, List.length_map]; omega
      unfold f__law_names_1
      simp only [aSeq_ap, seqK_nx, seqK_rt, seqK_bk, seqK_ct, seqK_none, aNext_ap, aBrk_ap, aCont_ap, aAsg_ap, asgK_ap, nxR_some, aDrop_ap, dropK_ap, aIfS_ap, ifK_t, ifK_f, aRet_ap, retK_ap, rtR_some, aRetN_ap, aKill_ap, List.foldl_cons, List.foldl_nil, sb_okN, bd_okN, mapR_some, aC_ap, aXT_ap, aVar_ap, varK_d, varK_x, varK_w, varK_p, varK_k, aOp_ap, opK_ap, opK2_ap, aFz_ap, aUn_ap, aB_ap, bK_ap, aAnd_ap, andK_t, andK_f, aOr_ap, orK_t, orK_f, aNot_ap, notK_ap, aTru_ap, truK_ap, aYes_ap, aAndV_ap, andVK_t, andVK_f, aOrV_ap, orVK_t, orVK_f, aNotV_ap, notVK_ap, aIf_ap, ifEK_t, ifEK_f, aNil_ap, aCons_ap, consK_ap, consK2_ap, aCB_ap, cbK_ap, aNoPart_ap, aPart_ap, partK_ap, aSl_ap, slK_ap, slK2_ap, slK3_ap, aBM_ap, bmK_ap, bmK2_ap, aBM0_ap, bmK0_ap, aPut_ap, putK_ap, putK1_ap, putK2_ap, aFor_ap, forK_n, aRng1_ap, aRng2_ap, aIt_ap, itK_l, itK_t, itK_s, itK_x, itK_c, itK_f, aCallG_ap, List.getElem?_cons_zero, List.getElem?_cons_succ, List.set_cons_zero, List.set_cons_succ, List.length_cons, List.length_nil, Nat.zero_add, Nat.reduceAdd, Option.map_some, Option.map_none, Option.bind_some, Option.bind_none, List.map_cons, List.map_nil, aName, aNameF, fz, rtv, wAt, toM, vw, frz_lst, frz_d, lvs_map, oIx2_var, ixV_w, ixV_p, ixV_k, ixL_some, lfAt_nat, lf_d, oIx2_l, oIx2_t, Y.atI_nat, putF_var, putV_w, putV_p, oEq_int, oNe_int, oLtA_int, oIntA_int, oIntA_bool, oLenV_l, oLenV_t, oI0_ap, oB0_ap, oAdd_int, rNeg, lfAt_0, stL_0, Y.atI_0, lfAt_1, stL_1, Y.atI_1, lfAt_2, stL_2, Y.atI_2, lfAt_3, stL_3, Y.atI_3, lfAt_4, stL_4, Y.atI_4, lfAt_5, stL_5, Y.atI_5, lfAt_6, stL_6, Y.atI_6, lfAt_7, stL_7, Y.atI_7, Nat.reduceLeDiff, Int.reduceLT, Int.reduceLE, List.cons_append, List.nil_append, decide_true, decide_false, if_true, if_false, sizeLine_eq, aLc_ap, name_callP e1, hr, e2, tyA, beq_self_eq_true, mAppend_d, apV_w, if_pos hl, List.map_append]
    · rcases List.mem_append.mp hl with h | h
      · exact l2 l h
      · rw [List.mem_singleton.mp h]; exact hnm'
    · exact List.nodup_append.mpr ⟨l3, by simp, fun a ha b hb z => bad (List.mem_append_left _ (by rw [List.mem_singleton.mp hb] at z; exact z ▸ ha))⟩
    · rcases List.mem_append.mp hl with h | h
      · exact l4 l h
      · rw [List.mem_singleton.mp h]; exact fun z => bad (List.mem_append_right _ z)) (s := [some (.p m), some (.d (.int (n : Nat))), some (.d (.list (strsL tk))), some (.w (.lst ((strsL []).map MV.d))), none, none, none]) ⟨[], m, rfl, (fun _ h => nomatch h), List.nodup_nil, (fun _ h => nomatch h), hm, rfl⟩
  rw [rng_len] at l1
  refine ⟨ns, m', l1, l2, l3, l4, im, ?_⟩
  have hb := names_body (m := m) (m' := m') (n := (n : Nat)) (tk := .list (strsL tk)) (fun s => rngK1_ap (s := s) (j := ((n : Nat) : Int)) (by omega)) e
  have hs : start0 7 [.p m, .d (.int (n : Nat)), .d (.list (strsL tk))] = [some (SV.p m), some (.d (.int (n : Nat))), some (.d (.list (strsL tk))), none, none, none, none] := rfl
  unfold den__law_names Y.run
  rw [hs, hb]
  rfl

end Lw

namespace Lw
open PySem PySem.Spec PyProof.Rows L2 Y PySem.W TL
/-! ### actions and runs -/
abbrev Act := Str × Str × Str
abbrev actD (a : Act) : PyData := .tuple [.str a.1, .str a.2.1, .str a.2.2]
abbrev runL (r : List Act) : List PyData := r.map actD
abbrev runD (r : List Act) : PyData := .list (runL r)
def apartB (a b : Act) : Bool := !(b.1 == a.1 || b.2.1 == a.1) && !(b.1 == a.2.1 || b.2.1 == a.2.1)
theorem cut2 {a b c : PyData} : cutD [a, b, c] none (some 2) = [a, b] := rfl
theorem oSl_t2 {s : SL} {a b c : PyData} : oSl s (.d (.tuple [a, b, c])) none (some 2) = some (.d (.tuple [a, b]), s) := rfl
theorem in_two {s : SL} {neg : Bool} {x y z : Str} : oIn2 neg s (.d (.str x)) (.d (.tuple [.str y, .str z])) = some (.d (.bool (if neg then !(y == x || z == x) else (y == x || z == x))), s) := by
  have e : inF (.str x) [.str y, .str z] = (y == x || z == x) := by
    show (PyData.eqv (.str y) (.str x) || (PyData.eqv (.str z) (.str x) || false)) = _
    rw [Bool.or_false]
    rfl
  rw [← e]
  rfl
theorem rd_are_apart (a b : Act) : den_are_apart [.d (actD a), .d (actD b)] = some (.ok (.d (.bool (apartB a b))) [none, none]) := by
  have h : b_are_apart [some (.d (actD a)), some (.d (actD b))] = some (.rt (.d (.bool (apartB a b))) [some (.d (actD a)), some (.d (actD b))]) := by
    unfold b_are_apart apartB
    simp only [aSeq_ap, seqK_nx, seqK_rt, seqK_bk, seqK_ct, seqK_none, aNext_ap, aBrk_ap, aCont_ap, aAsg_ap, asgK_ap, nxR_some, aDrop_ap, dropK_ap, aIfS_ap, ifK_t, ifK_f, aRet_ap, retK_ap, rtR_some, aRetN_ap, aKill_ap, List.foldl_cons, List.foldl_nil, sb_okN, bd_okN, mapR_some, aC_ap, aXT_ap, aVar_ap, varK_d, varK_x, varK_w, varK_p, varK_k, aOp_ap, opK_ap, opK2_ap, aFz_ap, aUn_ap, aB_ap, bK_ap, aAnd_ap, andK_t, andK_f, aOr_ap, orK_t, orK_f, aNot_ap, notK_ap, aTru_ap, truK_ap, aYes_ap, aAndV_ap, andVK_t, andVK_f, aOrV_ap, orVK_t, orVK_f, aNotV_ap, notVK_ap, aIf_ap, ifEK_t, ifEK_f, aNil_ap, aCons_ap, consK_ap, consK2_ap, aCB_ap, cbK_ap, aNoPart_ap, aPart_ap, partK_ap, aSl_ap, slK_ap, slK2_ap, slK3_ap, aBM_ap, bmK_ap, bmK2_ap, aBM0_ap, bmK0_ap, aPut_ap, putK_ap, putK1_ap, putK2_ap, aFor_ap, forK_n, aRng1_ap, aRng2_ap, aIt_ap, itK_l, itK_t, itK_s, itK_x, itK_c, itK_f, aCallG_ap, List.getElem?_cons_zero, List.getElem?_cons_succ, List.set_cons_zero, List.set_cons_succ, List.length_cons, List.length_nil, Nat.zero_add, Nat.reduceAdd, Option.map_some, Option.map_none, Option.bind_some, Option.bind_none, List.map_cons, List.map_nil, aName, aNameF, fz, rtv, wAt, toM, vw, frz_lst, frz_d, lvs_map, oIx2_var, ixV_w, ixV_p, ixV_k, ixL_some, lfAt_nat, lf_d, oIx2_l, oIx2_t, Y.atI_nat, putF_var, putV_w, putV_p, oEq_int, oNe_int, oLtA_int, oIntA_int, oIntA_bool, oLenV_l, oLenV_t, oI0_ap, oB0_ap, oAdd_int, rNeg, lfAt_0, stL_0, Y.atI_0, lfAt_1, stL_1, Y.atI_1, lfAt_2, stL_2, Y.atI_2, lfAt_3, stL_3, Y.atI_3, lfAt_4, stL_4, Y.atI_4, lfAt_5, stL_5, Y.atI_5, lfAt_6, stL_6, Y.atI_6, lfAt_7, stL_7, Y.atI_7, Nat.reduceLeDiff, Int.reduceLT, Int.reduceLE, List.cons_append, List.nil_append, decide_true, decide_false, if_true, if_false, sizeLine_eq, aLc_ap, oSl_t2, in_two]
    cases (b.1 == a.1 || b.2.1 == a.1) <;> simp only [aSeq_ap, seqK_nx, seqK_rt, seqK_bk, seqK_ct, seqK_none, aNext_ap, aBrk_ap, aCont_ap, aAsg_ap, asgK_ap, nxR_some, aDrop_ap, dropK_ap, aIfS_ap, ifK_t, ifK_f, aRet_ap, retK_ap, rtR_some, aRetN_ap, aKill_ap, List.foldl_cons, List.foldl_nil, sb_okN, bd_okN, mapR_some, aC_ap, aXT_ap, aVar_ap, varK_d, varK_x, varK_w, varK_p, varK_k, aOp_ap, opK_ap, opK2_ap, aFz_ap, aUn_ap, aB_ap, bK_ap, aAnd_ap, andK_t, andK_f, aOr_ap, orK_t, orK_f, aNot_ap, notK_ap, aTru_ap, truK_ap, aYes_ap, aAndV_ap, andVK_t, andVK_f, aOrV_ap, orVK_t, orVK_f, aNotV_ap, notVK_ap, aIf_ap, ifEK_t, ifEK_f, aNil_ap, aCons_ap, consK_ap, consK2_ap, aCB_ap, cbK_ap, aNoPart_ap, aPart_ap, partK_ap, aSl_ap, slK_ap, slK2_ap, slK3_ap, aBM_ap, bmK_ap, bmK2_ap, aBM0_ap, bmK0_ap, aPut_ap, putK_ap, putK1_ap, putK2_ap, aFor_ap, forK_n, aRng1_ap, aRng2_ap, aIt_ap, itK_l, itK_t, itK_s, itK_x, itK_c, itK_f, aCallG_ap, List.getElem?_cons_zero, List.getElem?_cons_succ, List.set_cons_zero, List.set_cons_succ, List.length_cons, List.length_nil, Nat.zero_add, Nat.reduceAdd, Option.map_some, Option.map_none, Option.bind_some, Option.bind_none, List.map_cons, List.map_nil, aName, aNameF, fz, rtv, wAt, toM, vw, frz_lst, frz_d, lvs_map, oIx2_var, ixV_w, ixV_p, ixV_k, ixL_some, lfAt_nat, lf_d, oIx2_l, oIx2_t, Y.atI_nat, putF_var, putV_w, putV_p, oEq_int, oNe_int, oLtA_int, oIntA_int, oIntA_bool, oLenV_l, oLenV_t, oI0_ap, oB0_ap, oAdd_int, rNeg, lfAt_0, stL_0, Y.atI_0, lfAt_1, stL_1, Y.atI_1, lfAt_2, stL_2, Y.atI_2, lfAt_3, stL_3, Y.atI_3, lfAt_4, stL_4, Y.atI_4, lfAt_5, stL_5, Y.atI_5, lfAt_6, stL_6, Y.atI_6, lfAt_7, stL_7, Y.atI_7, Nat.reduceLeDiff, Int.reduceLT, Int.reduceLE, List.cons_append, List.nil_append, decide_true, decide_false, if_true, if_false, sizeLine_eq, aLc_ap, oSl_t2, in_two, Bool.not_true, Bool.not_false, Bool.true_and, Bool.false_and]
  have hs : start0 2 [.d (actD a), .d (actD b)] = [some (.d (actD a)), some (.d (actD b))] := rfl
  unfold den_are_apart Y.run
  rw [hs, h]
  rfl
theorem rd__law_truth (t : Bool) (due : Bool) : den__law_truth [.d (.bool t), .d (.bool due)] = some (.ok (.d (.bool (t == due))) [none, none]) := by
  cases t <;> cases due <;> rfl

end Lw

namespace Lw
open PySem PySem.Spec PyProof.Rows L2 Y PySem.W TL
def strP (q : Str → Bool) : PyData → Bool
  | .str x => q x
  | _ => false
theorem oLenV_tl {s : SL} {ds : List PyData} : vA oLenA s [.t (.lst (ds.map MV.d))] = some (.d (.int (ds.length : Nat)), s) := by
  show (some (.d (.int ((ds.map MV.d).length : Nat)), s) : Option (TV × SL)) = _
  rw [List.length_map]
theorem rd__law_apart (a b : Act) : den__law_apart [.d (actD a), .d (actD b)] = some (.ok (.d (.bool (apartB a b))) [none, none]) := by
  have h : b__law_apart [some (.d (actD a)), some (.d (actD b)), none] = some (.rt (.d (.bool (apartB a b))) [some (.d (actD a)), some (.d (actD b)), none]) := by
    unfold b__law_apart
    simp only [aSeq_ap, seqK_nx, seqK_rt, seqK_bk, seqK_ct, seqK_none, aNext_ap, aBrk_ap, aCont_ap, aAsg_ap, asgK_ap, nxR_some, aDrop_ap, dropK_ap, aIfS_ap, ifK_t, ifK_f, aRet_ap, retK_ap, rtR_some, aRetN_ap, aKill_ap, List.foldl_cons, List.foldl_nil, sb_okN, bd_okN, mapR_some, aC_ap, aXT_ap, aVar_ap, varK_d, varK_x, varK_w, varK_p, varK_k, aOp_ap, opK_ap, opK2_ap, aFz_ap, aUn_ap, aB_ap, bK_ap, aAnd_ap, andK_t, andK_f, aOr_ap, orK_t, orK_f, aNot_ap, notK_ap, aTru_ap, truK_ap, aYes_ap, aAndV_ap, andVK_t, andVK_f, aOrV_ap, orVK_t, orVK_f, aNotV_ap, notVK_ap, aIf_ap, ifEK_t, ifEK_f, aNil_ap, aCons_ap, consK_ap, consK2_ap, aCB_ap, cbK_ap, aNoPart_ap, aPart_ap, partK_ap, aSl_ap, slK_ap, slK2_ap, slK3_ap, aBM_ap, bmK_ap, bmK2_ap, aBM0_ap, bmK0_ap, aPut_ap, putK_ap, putK1_ap, putK2_ap, aFor_ap, forK_n, aRng1_ap, aRng2_ap, aIt_ap, itK_l, itK_t, itK_s, itK_x, itK_c, itK_f, aCallG_ap, List.getElem?_cons_zero, List.getElem?_cons_succ, List.set_cons_zero, List.set_cons_succ, List.length_cons, List.length_nil, Nat.zero_add, Nat.reduceAdd, Option.map_some, Option.map_none, Option.bind_some, Option.bind_none, List.map_cons, List.map_nil, aName, aNameF, fz, rtv, wAt, toM, vw, frz_lst, frz_d, lvs_map, oIx2_var, ixV_w, ixV_p, ixV_k, ixL_some, lfAt_nat, lf_d, oIx2_l, oIx2_t, Y.atI_nat, putF_var, putV_w, putV_p, oEq_int, oNe_int, oLtA_int, oIntA_int, oIntA_bool, oLenV_l, oLenV_t, oI0_ap, oB0_ap, oAdd_int, rNeg, lfAt_0, stL_0, Y.atI_0, lfAt_1, stL_1, Y.atI_1, lfAt_2, stL_2, Y.atI_2, lfAt_3, stL_3, Y.atI_3, lfAt_4, stL_4, Y.atI_4, lfAt_5, stL_5, Y.atI_5, lfAt_6, stL_6, Y.atI_6, lfAt_7, stL_7, Y.atI_7, Nat.reduceLeDiff, Int.reduceLT, Int.reduceLE, List.cons_append, List.nil_append, decide_true, decide_false, if_true, if_false, sizeLine_eq, aLc_ap, oSl_t2]
    rw [lcK_map (strP fun x => b.1 == x || b.2.1 == x) MV.d]
    · simp only [aSeq_ap, seqK_nx, seqK_rt, seqK_bk, seqK_ct, seqK_none, aNext_ap, aBrk_ap, aCont_ap, aAsg_ap, asgK_ap, nxR_some, aDrop_ap, dropK_ap, aIfS_ap, ifK_t, ifK_f, aRet_ap, retK_ap, rtR_some, aRetN_ap, aKill_ap, List.foldl_cons, List.foldl_nil, sb_okN, bd_okN, mapR_some, aC_ap, aXT_ap, aVar_ap, varK_d, varK_x, varK_w, varK_p, varK_k, aOp_ap, opK_ap, opK2_ap, aFz_ap, aUn_ap, aB_ap, bK_ap, aAnd_ap, andK_t, andK_f, aOr_ap, orK_t, orK_f, aNot_ap, notK_ap, aTru_ap, truK_ap, aYes_ap, aAndV_ap, andVK_t, andVK_f, aOrV_ap, orVK_t, orVK_f, aNotV_ap, notVK_ap, aIf_ap, ifEK_t, ifEK_f, aNil_ap, aCons_ap, consK_ap, consK2_ap, aCB_ap, cbK_ap, aNoPart_ap, aPart_ap, partK_ap, aSl_ap, slK_ap, slK2_ap, slK3_ap, aBM_ap, bmK_ap, bmK2_ap, aBM0_ap, bmK0_ap, aPut_ap, putK_ap, putK1_ap, putK2_ap, aFor_ap, forK_n, aRng1_ap, aRng2_ap, aIt_ap, itK_l, itK_t, itK_s, itK_x, itK_c, itK_f, aCallG_ap, List.getElem?_cons_zero, List.getElem?_cons_succ, List.set_cons_zero, List.set_cons_succ, List.length_cons, List.length_nil, Nat.zero_add, Nat.reduceAdd, Option.map_some, Option.map_none, Option.bind_some, Option.bind_none, List.map_cons, List.map_nil, aName, aNameF, fz, rtv, wAt, toM, vw, frz_lst, frz_d, lvs_map, oIx2_var, ixV_w, ixV_p, ixV_k, ixL_some, lfAt_nat, lf_d, oIx2_l, oIx2_t, Y.atI_nat, putF_var, putV_w, putV_p, oEq_int, oNe_int, oLtA_int, oIntA_int, oIntA_bool, oLenV_l, oLenV_t, oI0_ap, oB0_ap, oAdd_int, rNeg, lfAt_0, stL_0, Y.atI_0, lfAt_1, stL_1, Y.atI_1, lfAt_2, stL_2, Y.atI_2, lfAt_3, stL_3, Y.atI_3, lfAt_4, stL_4, Y.atI_4, lfAt_5, stL_5, Y.atI_5, lfAt_6, stL_6, Y.atI_6, lfAt_7, stL_7, Y.atI_7, Nat.reduceLeDiff, Int.reduceLT, Int.reduceLE, List.cons_append, List.nil_append, decide_true, decide_false, if_true, if_false, sizeLine_eq, aLc_ap, oLenV_tl]
      unfold apartB
      cases h1 : (b.1 == a.1 || b.2.1 == a.1) <;> cases h2 : (b.1 == a.2.1 || b.2.1 == a.2.1) <;> simp [strP, h1, h2, retK, rtR, rtv]
    · show 2 ≤ 16777216; omega
    · rfl
    · intro x hx
      obtain ⟨y, rfl⟩ : ∃ y, x = .str y := by
        rcases List.mem_cons.mp hx with h | h
        · exact ⟨_, h⟩
        · exact ⟨_, List.mem_singleton.mp h⟩
      refine ⟨_, [some (.d (actD a)), some (.d (actD b)), some (.d (.str y))], rfl, ?_, fun _ => ⟨.d (.str y), [some (.d (actD a)), some (.d (actD b)), some (.d (.str y))], [some (.d (actD a)), some (.d (actD b)), some (.d (.str y))], rfl, rfl, rfl⟩, fun _ => rfl⟩
      show aB _ [some (.d (actD a)), some (.d (actD b)), some (.d (.str y))] = _
      simp only [aSeq_ap, seqK_nx, seqK_rt, seqK_bk, seqK_ct, seqK_none, aNext_ap, aBrk_ap, aCont_ap, aAsg_ap, asgK_ap, nxR_some, aDrop_ap, dropK_ap, aIfS_ap, ifK_t, ifK_f, aRet_ap, retK_ap, rtR_some, aRetN_ap, aKill_ap, List.foldl_cons, List.foldl_nil, sb_okN, bd_okN, mapR_some, aC_ap, aXT_ap, aVar_ap, varK_d, varK_x, varK_w, varK_p, varK_k, aOp_ap, opK_ap, opK2_ap, aFz_ap, aUn_ap, aB_ap, bK_ap, aAnd_ap, andK_t, andK_f, aOr_ap, orK_t, orK_f, aNot_ap, notK_ap, aTru_ap, truK_ap, aYes_ap, aAndV_ap, andVK_t, andVK_f, aOrV_ap, orVK_t, orVK_f, aNotV_ap, notVK_ap, aIf_ap, ifEK_t, ifEK_f, aNil_ap, aCons_ap, consK_ap, consK2_ap, aCB_ap, cbK_ap, aNoPart_ap, aPart_ap, partK_ap, aSl_ap, slK_ap, slK2_ap, slK3_ap, aBM_ap, bmK_ap, bmK2_ap, aBM0_ap, bmK0_ap, aPut_ap, putK_ap, putK1_ap, putK2_ap, aFor_ap, forK_n, aRng1_ap, aRng2_ap, aIt_ap, itK_l, itK_t, itK_s, itK_x, itK_c, itK_f, aCallG_ap, List.getElem?_cons_zero, List.getElem?_cons_succ, List.set_cons_zero, List.set_cons_succ, List.length_cons, List.length_nil, Nat.zero_add, Nat.reduceAdd, Option.map_some, Option.map_none, Option.bind_some, Option.bind_none, List.map_cons, List.map_nil, aName, aNameF, fz, rtv, wAt, toM, vw, frz_lst, frz_d, lvs_map, oIx2_var, ixV_w, ixV_p, ixV_k, ixL_some, lfAt_nat, lf_d, oIx2_l, oIx2_t, Y.atI_nat, putF_var, putV_w, putV_p, oEq_int, oNe_int, oLtA_int, oIntA_int, oIntA_bool, oLenV_l, oLenV_t, oI0_ap, oB0_ap, oAdd_int, rNeg, lfAt_0, stL_0, Y.atI_0, lfAt_1, stL_1, Y.atI_1, lfAt_2, stL_2, Y.atI_2, lfAt_3, stL_3, Y.atI_3, lfAt_4, stL_4, Y.atI_4, lfAt_5, stL_5, Y.atI_5, lfAt_6, stL_6, Y.atI_6, lfAt_7, stL_7, Y.atI_7, Nat.reduceLeDiff, Int.reduceLT, Int.reduceLE, List.cons_append, List.nil_append, decide_true, decide_false, if_true, if_false, sizeLine_eq, aLc_ap, oSl_t2, in_two]
      rfl
  have hs : start0 3 [.d (actD a), .d (actD b)] = [some (.d (actD a)), some (.d (actD b)), none] := rfl
  unfold den__law_apart Y.run
  rw [hs, h]
  rfl

end Lw

namespace Lw
open PySem PySem.Spec PyProof.Rows L2 Y PySem.W TL
theorem oTup_3 {s : SL} {x y z : PyData} : oTup s [.d x, .d y, .d z] = some (.d (.tuple [x, y, z]), s) := if_pos (show 3 ≤ sizeLine by rw [sizeLine_eq]; omega)
theorem oTup_2 {s : SL} {x y : PyData} : oTup s [.d x, .d y] = some (.d (.tuple [x, y]), s) := if_pos (show 2 ≤ sizeLine by rw [sizeLine_eq]; omega)
theorem strs_at {ps : List Str} {n : Nat} (h : n < ps.length) : (ps.map PyData.str)[n]? = some (.str ps[n]) := by rw [List.getElem?_map, List.getElem?_eq_getElem h]; rfl
theorem run_step {m : MV} {ps lb : List Str} {o k : PyData} {r : List Act} (hm : IsSt m) (h1 : 2 ≤ ps.length) (h2 : ps.length ≤ 100) (h3 : 1 ≤ lb.length) (h4 : lb.length ≤ 100) (hr : r.length < 10000) : ∃ a m', IsSt m' ∧ a.1 ∈ ps ∧ a.2.1 ∈ ps ∧ a.2.2 ∈ lb ∧
    f__law_run_0 [some (.p m), some (.d (.list (ps.map PyData.str))), some (.d (.list (lb.map PyData.str))), some (.d o), some (.w (.lst ((runL r).map MV.d))), some (.d k), none, none] =
      some (.nx [some (.p m'), some (.d (.list (ps.map PyData.str))), some (.d (.list (lb.map PyData.str))), some (.d o), some (.w (.lst ((runL (r ++ [a])).map MV.d))), none, none, none]) := by
  obtain ⟨q1, m1, a0, a1, i1, e1⟩ := rd__law_draw hm (lim := (ps.length : Nat)) (by omega) (by omega)
  obtain ⟨q2, m2, b0, b1, i2, e2⟩ := rd__law_draw i1 (lim := (ps.length : Nat) - 1) (by omega) (by omega)
  obtain ⟨q3, m3, c0, c1, i3, e3⟩ := rd__law_draw i2 (lim := (lb.length : Nat)) (by omega) (by omega)
  obtain ⟨n1, rfl⟩ := Int.eq_ofNat_of_zero_le a0
  obtain ⟨n3, rfl⟩ := Int.eq_ofNat_of_zero_le c0
  have hp : (0 : Int) < (ps.length : Nat) := by omega
  obtain ⟨n2, en2⟩ := Int.eq_ofNat_of_zero_le (Int.emod_nonneg ((n1 : Int) + 1 + q2) (show ((ps.length : Nat) : Int) ≠ 0 by omega))
  have ln2 : n2 < ps.length := by have := Int.emod_lt_of_pos ((n1 : Int) + 1 + q2) hp; omega
  have ln1 : n1 < ps.length := by omega
  have ln3 : n3 < lb.length := by omega
  refine ⟨(ps[n1], ps[n2], lb[n3]), m3, i3, List.getElem_mem _, List.getElem_mem _, List.getElem_mem _, ?_⟩
  have hl : r.length < 16777216 := by omega
  unfold f__law_run_0
  simp only [aSeq_ap, seqK_nx, seqK_rt, seqK_bk, seqK_ct, seqK_none, aNext_ap, aBrk_ap, aCont_ap, aAsg_ap, asgK_ap, nxR_some, aDrop_ap, dropK_ap, aIfS_ap, ifK_t, ifK_f, aRet_ap, retK_ap, rtR_some, aRetN_ap, aKill_ap, List.foldl_cons, List.foldl_nil, sb_okN, bd_okN, mapR_some, aC_ap, aXT_ap, aVar_ap, varK_d, varK_x, varK_w, varK_p, varK_k, aOp_ap, opK_ap, opK2_ap, aFz_ap, aUn_ap, aB_ap, bK_ap, aAnd_ap, andK_t, andK_f, aOr_ap, orK_t, orK_f, aNot_ap, notK_ap, aTru_ap, truK_ap, aYes_ap, aAndV_ap, andVK_t, andVK_f, aOrV_ap, orVK_t, orVK_f, aNotV_ap, notVK_ap, aIf_ap, ifEK_t, ifEK_f, aNil_ap, aCons_ap, consK_ap, consK2_ap, aCB_ap, cbK_ap, aNoPart_ap, aPart_ap, partK_ap, aSl_ap, slK_ap, slK2_ap, slK3_ap, aBM_ap, bmK_ap, bmK2_ap, aBM0_ap, bmK0_ap, aPut_ap, putK_ap, putK1_ap, putK2_ap, aFor_ap, forK_n, aRng1_ap, aRng2_ap, aIt_ap, itK_l, itK_t, itK_s, itK_x, itK_c, itK_f, aCallG_ap, List.getElem?_cons_zero, List.getElem?_cons_succ, List.set_cons_zero, List.set_cons_succ, List.length_cons, List.length_nil, Nat.zero_add, Nat.reduceAdd, Option.map_some, Option.map_none, Option.bind_some, Option.bind_none, List.map_cons, List.map_nil, aName, aNameF, fz, rtv, wAt, toM, vw, frz_lst, frz_d, lvs_map, oIx2_var, ixV_w, ixV_p, ixV_k, ixL_some, lfAt_nat, lf_d, oIx2_l, oIx2_t, Y.atI_nat, putF_var, putV_w, putV_p, oEq_int, oNe_int, oLtA_int, oIntA_int, oIntA_bool, oLenV_l, oLenV_t, oI0_ap, oB0_ap, oAdd_int, rNeg, lfAt_0, stL_0, Y.atI_0, lfAt_1, stL_1, Y.atI_1, lfAt_2, stL_2, Y.atI_2, lfAt_3, stL_3, Y.atI_3, lfAt_4, stL_4, Y.atI_4, lfAt_5, stL_5, Y.atI_5, lfAt_6, stL_6, Y.atI_6, lfAt_7, stL_7, Y.atI_7, Nat.reduceLeDiff, Int.reduceLT, Int.reduceLE, List.cons_append, List.nil_append, decide_true, decide_false, if_true, if_false, sizeLine_eq, aLc_ap, List.length_map, draw_callP e1, draw_callP e2, oMod_ok hp, en2, strs_at ln1, strs_at ln2, draw_callP e3, strs_at ln3, oTup_3, tyA, beq_self_eq_true, mAppend_d, apV_w, if_pos hl, List.map_append]
theorem run_body {m m1 m' : MV} {n q : Int} {p1 p2 : PyData} {ns : List MV} {ds : List PyData} (h1 : den__law_draw [.p m, .d (.int (n + 1))] = some (.ok (.d (.int q)) [some (.p m1), none])) (hr : ∀ s, rngK1 [.d (.int q)] s = some (.ok (ds, none) s))
  (e' : forGo (aNameF 5) f__law_run_0 ds [some (SV.p m1), some (.d p1), some (.d p2), some (.d (.int n)), some (.w (.lst [])), none, none, none] = some (.nx [some (SV.p m'), some (.d p1), some (.d p2), some (.d (.int n)), some (.w (.lst ns)), none, none, none])) :
  b__law_run [some (SV.p m), some (.d p1), some (.d p2), some (.d (.int n)), none, none, none, none] = some (.rt (.t (.lst ns)) [some (.p m'), some (.d p1), some (.d p2), some (.d (.int n)), none, none, none, none]) := by
    unfold b__law_run
    simp only [aSeq_ap, seqK_nx, seqK_rt, seqK_bk, seqK_ct, seqK_none, aNext_ap, aBrk_ap, aCont_ap, aAsg_ap, asgK_ap, nxR_some, aDrop_ap, dropK_ap, aIfS_ap, ifK_t, ifK_f, aRet_ap, retK_ap, rtR_some, aRetN_ap, aKill_ap, List.foldl_cons, List.foldl_nil, sb_okN, bd_okN, mapR_some, aC_ap, aXT_ap, aVar_ap, varK_d, varK_x, varK_w, varK_p, varK_k, aOp_ap, opK_ap, opK2_ap, aFz_ap, aUn_ap, aB_ap, bK_ap, aAnd_ap, andK_t, andK_f, aOr_ap, orK_t, orK_f, aNot_ap, notK_ap, aTru_ap, truK_ap, aYes_ap, aAndV_ap, andVK_t, andVK_f, aOrV_ap, orVK_t, orVK_f, aNotV_ap, notVK_ap, aIf_ap, ifEK_t, ifEK_f, aNil_ap, aCons_ap, consK_ap, consK2_ap, aCB_ap, cbK_ap, aNoPart_ap, aPart_ap, partK_ap, aSl_ap, slK_ap, slK2_ap, slK3_ap, aBM_ap, bmK_ap, bmK2_ap, aBM0_ap, bmK0_ap, aPut_ap, putK_ap, putK1_ap, putK2_ap, aFor_ap, forK_n, aRng1_ap, aRng2_ap, aIt_ap, itK_l, itK_t, itK_s, itK_x, itK_c, itK_f, aCallG_ap, List.getElem?_cons_zero, List.getElem?_cons_succ, List.set_cons_zero, List.set_cons_succ, List.length_cons, List.length_nil, Nat.zero_add, Nat.reduceAdd, Option.map_some, Option.map_none, Option.bind_some, Option.bind_none, List.map_cons, List.map_nil, aName, aNameF, fz, rtv, wAt, toM, vw, frz_lst, frz_d, lvs_map, oIx2_var, ixV_w, ixV_p, ixV_k, ixL_some, lfAt_nat, lf_d, oIx2_l, oIx2_t, Y.atI_nat, putF_var, putV_w, putV_p, oEq_int, oNe_int, oLtA_int, oIntA_int, oIntA_bool, oLenV_l, oLenV_t, oI0_ap, oB0_ap, oAdd_int, rNeg, lfAt_0, stL_0, Y.atI_0, lfAt_1, stL_1, Y.atI_1, lfAt_2, stL_2, Y.atI_2, lfAt_3, stL_3, Y.atI_3, lfAt_4, stL_4, Y.atI_4, lfAt_5, stL_5, Y.atI_5, lfAt_6, stL_6, Y.atI_6, lfAt_7, stL_7, Y.atI_7, Nat.reduceLeDiff, Int.reduceLT, Int.reduceLE, List.cons_append, List.nil_append, decide_true, decide_false, if_true, if_false, sizeLine_eq, aLc_ap, oLst_nil, draw_callP h1, hr, e']
def ActIn (ps lb : List Str) (a : Act) : Prop := a.1 ∈ ps ∧ a.2.1 ∈ ps ∧ a.2.2 ∈ lb
theorem rd__law_run {m : MV} {ps lb : List Str} {n : Nat} (hm : IsSt m) (h1 : 2 ≤ ps.length) (h2 : ps.length ≤ 100) (h3 : 1 ≤ lb.length) (h4 : lb.length ≤ 100) (hn : n ≤ 1000) : ∃ r m', IsSt m' ∧ r.length ≤ n ∧ (∀ a ∈ r, ActIn ps lb a) ∧
    den__law_run [.p m, .d (.list (ps.map PyData.str)), .d (.list (lb.map PyData.str)), .d (.int (n : Nat))] = some (.ok (.t (.lst ((runL r).map MV.d))) [some (.p m'), none, none, none]) := by
  obtain ⟨q, m1, a0, a1, i1, e1⟩ := rd__law_draw hm (lim := (n : Nat) + 1) (by omega) (by omega)
  obtain ⟨k, rfl⟩ := Int.eq_ofNat_of_zero_le a0
  obtain ⟨s', e, r, m', l1, l2, im, rfl⟩ := forGo_inv (Ga := aNameF 5) (S := f__law_run_0) (ds := rng 0 ((k : Nat) : Int).toNat) (fun i s => ∃ (r : List Act) (m' : MV), r.length = i ∧ (∀ a ∈ r, ActIn ps lb a) ∧ IsSt m' ∧ s = [some (SV.p m'), some (.d (.list (ps.map PyData.str))), some (.d (.list (lb.map PyData.str))), some (.d (.int (n : Nat))), some (.w (.lst ((runL r).map MV.d))), none, none, none]) (fun i d s hd hp => by
    obtain ⟨rfl, hi⟩ := rng_get0 hd
    obtain ⟨r, m', l1, l2, im, rfl⟩ := hp
    have hi' : i < k := hi
    obtain ⟨a, m2, i2, g1, g2, g3, e2⟩ := run_step (o := .int (n : Nat)) (k := .int (i : Nat)) (r := r) im h1 h2 h3 h4 (by omega)
    exact ⟨_, _, rfl, .inl e2, r ++ [a], m2, by rw [List.length_append, l1]; rfl, fun b hb => (List.mem_append.mp hb).elim (l2 b) (fun h => by rw [List.mem_singleton.mp h]; exact ⟨g1, g2, g3⟩), i2, rfl⟩) (s := [some (SV.p m1), some (.d (.list (ps.map PyData.str))), some (.d (.list (lb.map PyData.str))), some (.d (.int (n : Nat))), some (.w (.lst ((runL []).map MV.d))), none, none, none]) ⟨[], m1, rfl, (fun _ h => nomatch h), i1, rfl⟩
  rw [rng_len] at l1
  have l1' : r.length = k := l1
  refine ⟨r, m', im, by omega, l2, ?_⟩
  have hb := run_body (m := m) e1 (fun s => rngK1_ap (s := s) (j := ((k : Nat) : Int)) (by omega)) e
  have hs : start0 8 [.p m, .d (.list (ps.map PyData.str)), .d (.list (lb.map PyData.str)), .d (.int (n : Nat))] = [some (SV.p m), some (.d (.list (ps.map PyData.str))), some (.d (.list (lb.map PyData.str))), some (.d (.int (n : Nat))), none, none, none, none] := rfl
  unfold den__law_run Y.run
  rw [hs, hb]
  rfl

end Lw

namespace Lw
open PySem PySem.Spec PyProof.Rows L2 Y PySem.W TL
/-! ### comprehensions over places -/
theorem mem_zipIdx0 {α : Type} {l : List α} {x : α} {i : Nat} (h : (x, i) ∈ l.zipIdx) : l[i]? = some x := by
  have := List.mem_zipIdx h
  simp at this
  obtain ⟨h1, h2⟩ := this
  rw [List.getElem?_eq_getElem h1, h2]
theorem rng_fm {α : Type} (l : List α) (p : α → Bool) (f : α → MV) (P : PyData → Bool) (F : PyData → MV) (h : ∀ i x, l[i]? = some x → P (.int (i : Nat)) = p x ∧ (p x = true → F (.int (i : Nat)) = f x)) : ((rng 0 l.length).filter P).map F = (l.filter p).map f := by
  have e1 : rng 0 l.length = l.zipIdx.map fun e => PyData.int (e.2 : Nat) := by
    unfold rng
    rw [show (l.zipIdx.map fun e => PyData.int (e.2 : Nat)) = (l.zipIdx.map (·.2)).map fun i => PyData.int (i : Nat) by rw [List.map_map]; rfl, List.zipIdx_map_snd, List.range_eq_range']
    exact List.map_congr_left fun i _ => by rw [Int.zero_add]
  have e2 : l.filter p = (l.zipIdx.filter fun e => p e.1).map (·.1) := by
    conv => lhs; rw [← List.zipIdx_map_fst 0 l]
    rw [List.filter_map]
    rfl
  rw [e1, List.filter_map, List.map_map, e2, List.map_map]
  have e3 : l.zipIdx.filter (P ∘ fun e => PyData.int (e.2 : Nat)) = l.zipIdx.filter fun e => p e.1 := List.filter_congr fun e he => (h e.2 e.1 (mem_zipIdx0 he)).1
  rw [e3]
  refine List.map_congr_left fun e he => ?_
  have he' := List.mem_filter.mp he
  exact (h e.2 e.1 (mem_zipIdx0 he'.1)).2 he'.2
/-! max of places -/
theorem alike_ints : ∀ ns : List Int, AlikeAll (ns.map PyData.int) := fun ns => ⟨fun x hx y hy => by
  obtain ⟨i, _, rfl⟩ := List.mem_map.mp hx
  obtain ⟨j, _, rfl⟩ := List.mem_map.mp hy
  rfl, fun x hx z => by
  obtain ⟨i, _, rfl⟩ := List.mem_map.mp hx
  cases z⟩
theorem depth_ints (ns : List Int) : PyData.depthAll (ns.map PyData.int) ≤ 60 := Nat.le_trans (depth_all (n := 0) fun d hd => by
  obtain ⟨i, _, rfl⟩ := List.mem_map.mp hd
  exact Nat.le_refl _) (Nat.zero_le _)
theorem oMax_ints {s : SL} {x : Int} {xs : List Int} : oMax s [.t (.lst (((x :: xs).map PyData.int).map MV.d))] = some (.d (.int (xs.foldl max x)), s) := by
  have e1 : oMax2 s [.t (.lst (((x :: xs).map PyData.int).map MV.d))] = none := rfl
  have e2 : (seqL s (.t (.lst (((x :: xs).map PyData.int).map MV.d)))).bind lvs = some ((x :: xs).map PyData.int) := lvs_map _
  unfold oMax
  rw [e1]
  dsimp only
  unfold oMinD
  dsimp only
  rw [e2]
  open Classical in
  show (ite (AlikeAll ((x :: xs).map PyData.int) ∧ PyData.depthAll ((x :: xs).map PyData.int) ≤ 60) (some (TV.d (maxD (.int x) (xs.map PyData.int)), s)) none) = _
  rw [if_pos ⟨alike_ints _, depth_ints _⟩, maxD_ints]
def maxN (l : List Nat) : Nat := l.foldl max 0
theorem foldl_max (l : List Nat) : ∀ (x : Nat), ((l.map fun n : Nat => (n : Int)) ++ [0]).foldl max (x : Int) = ((l.foldl max x : Nat) : Int) := by
  induction l with
  | nil => intro x; show max (x : Int) 0 = x; omega
  | cons a r ih =>
    intro x
    show ((r.map fun n : Nat => (n : Int)) ++ [0]).foldl max (max (x : Int) (a : Int)) = _
    rw [show max (x : Int) (a : Int) = ((max x a : Nat) : Int) by omega, ih]
    rfl
theorem oMax_nats {s : SL} (l : List Nat) : oMax s [.t (.lst ((((l.map fun n : Nat => (n : Int)) ++ [0]).map PyData.int).map MV.d))] = some (.d (.int (maxN l : Nat)), s) := by
  cases l with
  | nil => exact oMax_ints (x := 0) (xs := [])
  | cons a r =>
    have := oMax_ints (s := s) (x := (a : Int)) (xs := (r.map fun n : Nat => (n : Int)) ++ [0])
    rw [foldl_max] at this
    show oMax s [.t (.lst ((((a : Int) :: ((r.map fun n : Nat => (n : Int)) ++ [0])).map PyData.int).map MV.d))] = _
    rw [this]
    show some (TV.d (.int ((r.foldl max a : Nat) : Int)), s) = some (TV.d (.int (((a :: r).foldl max 0 : Nat) : Int)), s)
    rw [List.foldl_cons, Nat.zero_max]

end Lw

namespace Lw
open PySem PySem.Spec PyProof.Rows L2 Y PySem.W TL
theorem rng_fmD {α : Type} (l : List α) (p : α → Bool) (g : α → PyData) (P : PyData → Bool) (F : PyData → MV) (h : ∀ i x, l[i]? = some x → P (.int (i : Nat)) = p x ∧ (p x = true → F (.int (i : Nat)) = .d (g x))) : ((rng 0 l.length).filter P).map F = ((l.filter p).map g).map MV.d := by
  rw [rng_fm l p (fun x => MV.d (g x)) P F h, List.map_map]
  rfl
theorem oAdd_dt {s : SL} {xs ys : List PyData} (h : xs.length + ys.length ≤ 16777216) : oAdd s (.d (.list xs)) (.t (.lst (ys.map MV.d))) = some (.t (.lst ((xs ++ ys).map MV.d)), s) := by
  show (lsD s (.d (.list xs))).bind (fun p => (lsD p.2 (.t (.lst (ys.map MV.d)))).bind fun q => if p.1.length + q.1.length ≤ sizeLine then some (TV.t (.lst ((p.1 ++ q.1).map MV.d)), q.2) else none) = _
  have e1 : lsD s (.d (.list xs)) = some (xs, s) := by unfold lsD; rw [show (seqM s (.d (.list xs))).bind lvs = some xs from lvs_map xs]
  have e2 : lsD s (.t (.lst (ys.map MV.d))) = some (ys, s) := by unfold lsD; rw [show (seqM s (.t (.lst (ys.map MV.d)))).bind lvs = some ys from lvs_map ys]
  rw [e1]
  show (lsD s (.t (.lst (ys.map MV.d)))).bind _ = _
  rw [e2]
  exact if_pos (by rw [sizeLine_eq]; exact h)
abbrev natL (l : List Nat) : List PyData := l.map fun n : Nat => PyData.int (n : Nat)
theorem oMax_natL {s : SL} (l : List Nat) : oMax s [.t (.lst ((natL l ++ [PyData.int 0]).map MV.d))] = some (.d (.int (maxN l : Nat)), s) := by
  have := oMax_nats (s := s) l
  rw [List.map_append, List.map_map] at this
  exact this
theorem apart_call {a b : PyData} {s : SL} {c : Bool} (h : den__law_apart [.d a, .d b] = some (.ok (.d (.bool c)) [none, none])) : callK false den__law_apart [.f, .f] [.d a, .d b] s = some (.ok (.d (.bool c)) s) := by
  simp only [callK, unsub, Option.map_none, callT, argF, argF1, fz, Option.bind_some, Option.map_some, argM, argM1, h, argB, argB1]
def lawH (pr : List (Act × Nat)) (a : Act) : Nat := 1 + maxN ((pr.filter fun e => !apartB e.1 a).map (·.2))
abbrev hsL (pr : List (Act × Nat)) : List PyData := natL (pr.map (·.2))
theorem runL_at {r : List Act} {i : Nat} {a : Act} (h : r[i]? = some a) : (runL r)[i]? = some (actD a) := by rw [List.getElem?_map, h]; rfl
theorem hsL_at {pr : List (Act × Nat)} {i : Nat} {e : Act × Nat} (h : pr[i]? = some e) : (hsL pr)[i]? = some (.int (e.2 : Nat)) := by rw [List.getElem?_map, List.getElem?_map, h]; rfl
theorem ixL_hs {s : SL} {p : Bool} {j : Nat} {pr : List (Act × Nat)} {i : Nat} {e : Act × Nat} (h : pr[i]? = some e) : lfAt ((hsL pr).map MV.d) (i : Nat) = some (.int (e.2 : Nat)) := by
  rw [lfAt_map, Y.atI_nat, hsL_at h]
theorem hsM_at {pr : List (Act × Nat)} {i : Nat} {e : Act × Nat} (h : pr[i]? = some e) : ((hsL pr).map MV.d)[i]? = some (.d (.int (e.2 : Nat))) := by rw [List.getElem?_map, hsL_at h]; rfl
theorem oAdd_d1 {s : SL} {xs : List PyData} {y : PyData} (h : xs.length ≤ 16777215) : oAdd s (.d (.list xs)) (.t (.lst [.d y])) = some (.t (.lst (xs.map MV.d ++ [.d y])), s) := by
  have := oAdd_dt (s := s) (xs := xs) (ys := [y]) (show xs.length + 1 ≤ 16777216 by omega)
  rw [List.map_append] at this
  exact this
theorem oMax_natM {s : SL} (l : List Nat) : oMax s [.t (.lst ((natL l).map MV.d ++ [.d (.int 0)]))] = some (.d (.int (maxN l : Nat)), s) := by
  have := oMax_natL (s := s) l
  rw [List.map_append] at this
  exact this
theorem oLst_1 {s : SL} {x : PyData} : oLst s [.d x] = some (.t (.lst [.d x]), s) := if_pos (show 1 ≤ sizeLine by rw [sizeLine_eq]; omega)
theorem hsL_snoc {pr : List (Act × Nat)} {e : Act × Nat} : hsL (pr ++ [e]) = hsL pr ++ [.int (e.2 : Nat)] := by simp
theorem heights_step {r : List Act} {pr : List (Act × Nat)} {a : Act} (hk : r[pr.length]? = some a) (hp : pr.map (·.1) = r.take pr.length) (hl : r.length ≤ 1000) (hr : ∀ s, rngK1 [.d (.int (pr.length : Nat))] s = some (.ok (rng 0 pr.length, none) s)) :
    f__law_layers_1 [some (.d (runD r)), some (.w (.lst ((hsL pr).map MV.d))), some (.d (.int (pr.length : Nat))), none, none, none, none] =
      some (.nx [some (.d (runD r)), some (.w (.lst ((hsL (pr ++ [(a, lawH pr a)])).map MV.d))), some (.d (.int (pr.length : Nat))), none, none, none, none]) := by
  have hlen : pr.length ≤ 1000 := by
    have := (List.getElem?_eq_some_iff.mp hk).1
    omega
  have ri : ∀ (i : Nat) (e : Act × Nat), pr[i]? = some e → r[i]? = some e.1 := fun i e h => by
    have h2 : (r.take pr.length)[i]? = some e.1 := by rw [← hp, List.getElem?_map, h]; rfl
    rw [List.getElem?_take] at h2
    split at h2
    · exact h2
    · cases h2
  unfold f__law_layers_1
  simp only [aSeq_ap, seqK_nx, seqK_rt, seqK_bk, seqK_ct, seqK_none, aNext_ap, aBrk_ap, aCont_ap, aAsg_ap, asgK_ap, nxR_some, aDrop_ap, dropK_ap, aIfS_ap, ifK_t, ifK_f, aRet_ap, retK_ap, rtR_some, aRetN_ap, aKill_ap, List.foldl_cons, List.foldl_nil, sb_okN, bd_okN, mapR_some, aC_ap, aXT_ap, aVar_ap, varK_d, varK_x, varK_w, varK_p, varK_k, aOp_ap, opK_ap, opK2_ap, aFz_ap, aUn_ap, aB_ap, bK_ap, aAnd_ap, andK_t, andK_f, aOr_ap, orK_t, orK_f, aNot_ap, notK_ap, aTru_ap, truK_ap, aYes_ap, aAndV_ap, andVK_t, andVK_f, aOrV_ap, orVK_t, orVK_f, aNotV_ap, notVK_ap, aIf_ap, ifEK_t, ifEK_f, aNil_ap, aCons_ap, consK_ap, consK2_ap, aCB_ap, cbK_ap, aNoPart_ap, aPart_ap, partK_ap, aSl_ap, slK_ap, slK2_ap, slK3_ap, aBM_ap, bmK_ap, bmK2_ap, aBM0_ap, bmK0_ap, aPut_ap, putK_ap, putK1_ap, putK2_ap, aFor_ap, forK_n, aRng1_ap, aRng2_ap, aIt_ap, itK_l, itK_t, itK_s, itK_x, itK_c, itK_f, aCallG_ap, List.getElem?_cons_zero, List.getElem?_cons_succ, List.set_cons_zero, List.set_cons_succ, List.length_cons, List.length_nil, Nat.zero_add, Nat.reduceAdd, Option.map_some, Option.map_none, Option.bind_some, Option.bind_none, List.map_cons, List.map_nil, aName, aNameF, fz, rtv, wAt, toM, vw, frz_lst, frz_d, lvs_map, oIx2_var, ixV_w, ixV_p, ixV_k, ixL_some, lfAt_nat, lf_d, oIx2_l, oIx2_t, Y.atI_nat, putF_var, putV_w, putV_p, oEq_int, oNe_int, oLtA_int, oIntA_int, oIntA_bool, oLenV_l, oLenV_t, oI0_ap, oB0_ap, oAdd_int, rNeg, lfAt_0, stL_0, Y.atI_0, lfAt_1, stL_1, Y.atI_1, lfAt_2, stL_2, Y.atI_2, lfAt_3, stL_3, Y.atI_3, lfAt_4, stL_4, Y.atI_4, lfAt_5, stL_5, Y.atI_5, lfAt_6, stL_6, Y.atI_6, lfAt_7, stL_7, Y.atI_7, Nat.reduceLeDiff, Int.reduceLT, Int.reduceLE, List.cons_append, List.nil_append, decide_true, decide_false, if_true, if_false, sizeLine_eq, aLc_ap, hr]
  rw [lcK_map (fun x => match x with
    | .int j => (match pr[j.toNat]? with
      | some e => !apartB e.1 a
      | none => false)
    | _ => false) (fun x => match x with
    | .int j => (match pr[j.toNat]? with
      | some e => .d (.int (e.2 : Nat))
      | none => .d .none)
    | _ => .d .none)]
  · rw [rng_fmD pr (fun e => !apartB e.1 a) (fun e => .int (e.2 : Nat)) _ _ fun i e h => by
      show (match pr[i]? with
        | some e => !apartB e.1 a
        | none => false) = _ ∧ _
      rw [h]
      refine ⟨rfl, fun _ => ?_⟩
      show (match pr[i]? with
        | some e => MV.d (.int (e.2 : Nat))
        | none => .d .none) = _
      rw [h]]
    have hm : ((pr.filter fun e => !apartB e.1 a).map fun e => PyData.int (e.2 : Nat)) = natL ((pr.filter fun e => !apartB e.1 a).map (·.2)) := by show _ = List.map _ (List.map _ _); rw [List.map_map]; rfl
    rw [hm]
    have l1 : (natL ((pr.filter fun e => !apartB e.1 a).map (·.2))).length ≤ 16777215 := by
      have := List.length_filter_le (fun e : Act × Nat => !apartB e.1 a) pr
      simp only [List.length_map]
      omega
    have hc : (1 : Int) + ((maxN ((pr.filter fun e => !apartB e.1 a).map (·.2)) : Nat) : Int) = ((lawH pr a : Nat) : Int) := by unfold lawH; omega
    have hl2 : pr.length < 16777216 := by omega
    simp only [aSeq_ap, seqK_nx, seqK_rt, seqK_bk, seqK_ct, seqK_none, aNext_ap, aBrk_ap, aCont_ap, aAsg_ap, asgK_ap, nxR_some, aDrop_ap, dropK_ap, aIfS_ap, ifK_t, ifK_f, aRet_ap, retK_ap, rtR_some, aRetN_ap, aKill_ap, List.foldl_cons, List.foldl_nil, sb_okN, bd_okN, mapR_some, aC_ap, aXT_ap, aVar_ap, varK_d, varK_x, varK_w, varK_p, varK_k, aOp_ap, opK_ap, opK2_ap, aFz_ap, aUn_ap, aB_ap, bK_ap, aAnd_ap, andK_t, andK_f, aOr_ap, orK_t, orK_f, aNot_ap, notK_ap, aTru_ap, truK_ap, aYes_ap, aAndV_ap, andVK_t, andVK_f, aOrV_ap, orVK_t, orVK_f, aNotV_ap, notVK_ap, aIf_ap, ifEK_t, ifEK_f, aNil_ap, aCons_ap, consK_ap, consK2_ap, aCB_ap, cbK_ap, aNoPart_ap, aPart_ap, partK_ap, aSl_ap, slK_ap, slK2_ap, slK3_ap, aBM_ap, bmK_ap, bmK2_ap, aBM0_ap, bmK0_ap, aPut_ap, putK_ap, putK1_ap, putK2_ap, aFor_ap, forK_n, aRng1_ap, aRng2_ap, aIt_ap, itK_l, itK_t, itK_s, itK_x, itK_c, itK_f, aCallG_ap, List.getElem?_cons_zero, List.getElem?_cons_succ, List.set_cons_zero, List.set_cons_succ, List.length_cons, List.length_nil, Nat.zero_add, Nat.reduceAdd, Option.map_some, Option.map_none, Option.bind_some, Option.bind_none, List.map_cons, List.map_nil, aName, aNameF, fz, rtv, wAt, toM, vw, frz_lst, frz_d, lvs_map, oIx2_var, ixV_w, ixV_p, ixV_k, ixL_some, lfAt_nat, lf_d, oIx2_l, oIx2_t, Y.atI_nat, putF_var, putV_w, putV_p, oEq_int, oNe_int, oLtA_int, oIntA_int, oIntA_bool, oLenV_l, oLenV_t, oI0_ap, oB0_ap, oAdd_int, rNeg, lfAt_0, stL_0, Y.atI_0, lfAt_1, stL_1, Y.atI_1, lfAt_2, stL_2, Y.atI_2, lfAt_3, stL_3, Y.atI_3, lfAt_4, stL_4, Y.atI_4, lfAt_5, stL_5, Y.atI_5, lfAt_6, stL_6, Y.atI_6, lfAt_7, stL_7, Y.atI_7, Nat.reduceLeDiff, Int.reduceLT, Int.reduceLE, List.cons_append, List.nil_append, decide_true, decide_false, if_true, if_false, sizeLine_eq, aLc_ap, oLst_1, oAdd_d1 l1, oMax_natM, hc, tyA, beq_self_eq_true, mAppend_d, apV_w, List.length_map, if_pos hl2, hsL_snoc, List.map_append]
  · rw [rng_len]; omega
  · rfl
  · intro x hx
    obtain ⟨i, hi, rfl⟩ : ∃ i, i < pr.length ∧ x = .int (i : Nat) := by
      obtain ⟨i, h⟩ := List.getElem?_of_mem hx
      obtain ⟨e, h2⟩ := rng_get0 h
      exact ⟨i, h2, e⟩
    have he := List.getElem?_eq_getElem hi
    refine ⟨_, [some (.d (runD r)), some (.w (.lst ((hsL pr).map MV.d))), some (.d (.int (pr.length : Nat))), none, none, none, some (.d (.int (i : Nat)))], rfl, ?_, fun _ => ⟨.d (.int ((pr[i]).2 : Nat)), [some (.d (runD r)), some (.w (.lst ((hsL pr).map MV.d))), some (.d (.int (pr.length : Nat))), none, none, none, some (.d (.int (i : Nat)))], [some (.d (runD r)), some (.w (.lst ((hsL pr).map MV.d))), some (.d (.int (pr.length : Nat))), none, none, none, some (.d (.int (i : Nat)))], ?_, ?_, rfl⟩, fun _ => rfl⟩
    · show aNot _ [some (.d (runD r)), some (.w (.lst ((hsL pr).map MV.d))), some (.d (.int (pr.length : Nat))), none, none, none, some (.d (.int (i : Nat)))] = some (.ok (match pr[i]? with
        | some e => !apartB e.1 a
        | none => false) _)
      rw [he]
      simp only [aSeq_ap, seqK_nx, seqK_rt, seqK_bk, seqK_ct, seqK_none, aNext_ap, aBrk_ap, aCont_ap, aAsg_ap, asgK_ap, nxR_some, aDrop_ap, dropK_ap, aIfS_ap, ifK_t, ifK_f, aRet_ap, retK_ap, rtR_some, aRetN_ap, aKill_ap, List.foldl_cons, List.foldl_nil, sb_okN, bd_okN, mapR_some, aC_ap, aXT_ap, aVar_ap, varK_d, varK_x, varK_w, varK_p, varK_k, aOp_ap, opK_ap, opK2_ap, aFz_ap, aUn_ap, aB_ap, bK_ap, aAnd_ap, andK_t, andK_f, aOr_ap, orK_t, orK_f, aNot_ap, notK_ap, aTru_ap, truK_ap, aYes_ap, aAndV_ap, andVK_t, andVK_f, aOrV_ap, orVK_t, orVK_f, aNotV_ap, notVK_ap, aIf_ap, ifEK_t, ifEK_f, aNil_ap, aCons_ap, consK_ap, consK2_ap, aCB_ap, cbK_ap, aNoPart_ap, aPart_ap, partK_ap, aSl_ap, slK_ap, slK2_ap, slK3_ap, aBM_ap, bmK_ap, bmK2_ap, aBM0_ap, bmK0_ap, aPut_ap, putK_ap, putK1_ap, putK2_ap, aFor_ap, forK_n, aRng1_ap, aRng2_ap, aIt_ap, itK_l, itK_t, itK_s, itK_x, itK_c, itK_f, aCallG_ap, List.getElem?_cons_zero, List.getElem?_cons_succ, List.set_cons_zero, List.set_cons_succ, List.length_cons, List.length_nil, Nat.zero_add, Nat.reduceAdd, Option.map_some, Option.map_none, Option.bind_some, Option.bind_none, List.map_cons, List.map_nil, aName, aNameF, fz, rtv, wAt, toM, vw, frz_lst, frz_d, lvs_map, oIx2_var, ixV_w, ixV_p, ixV_k, ixL_some, lfAt_nat, lf_d, oIx2_l, oIx2_t, Y.atI_nat, putF_var, putV_w, putV_p, oEq_int, oNe_int, oLtA_int, oIntA_int, oIntA_bool, oLenV_l, oLenV_t, oI0_ap, oB0_ap, oAdd_int, rNeg, lfAt_0, stL_0, Y.atI_0, lfAt_1, stL_1, Y.atI_1, lfAt_2, stL_2, Y.atI_2, lfAt_3, stL_3, Y.atI_3, lfAt_4, stL_4, Y.atI_4, lfAt_5, stL_5, Y.atI_5, lfAt_6, stL_6, Y.atI_6, lfAt_7, stL_7, Y.atI_7, Nat.reduceLeDiff, Int.reduceLT, Int.reduceLE, List.cons_append, List.nil_append, decide_true, decide_false, if_true, if_false, sizeLine_eq, aLc_ap, runL_at (ri i _ he), runL_at hk, apart_call (rd__law_apart _ _)]
    · show aOp oIx2 (aVar 1) (aVar 6) [some (.d (runD r)), some (.w (.lst ((hsL pr).map MV.d))), some (.d (.int (pr.length : Nat))), none, none, none, some (.d (.int (i : Nat)))] = _
      simp only [aSeq_ap, seqK_nx, seqK_rt, seqK_bk, seqK_ct, seqK_none, aNext_ap, aBrk_ap, aCont_ap, aAsg_ap, asgK_ap, nxR_some, aDrop_ap, dropK_ap, aIfS_ap, ifK_t, ifK_f, aRet_ap, retK_ap, rtR_some, aRetN_ap, aKill_ap, List.foldl_cons, List.foldl_nil, sb_okN, bd_okN, mapR_some, aC_ap, aXT_ap, aVar_ap, varK_d, varK_x, varK_w, varK_p, varK_k, aOp_ap, opK_ap, opK2_ap, aFz_ap, aUn_ap, aB_ap, bK_ap, aAnd_ap, andK_t, andK_f, aOr_ap, orK_t, orK_f, aNot_ap, notK_ap, aTru_ap, truK_ap, aYes_ap, aAndV_ap, andVK_t, andVK_f, aOrV_ap, orVK_t, orVK_f, aNotV_ap, notVK_ap, aIf_ap, ifEK_t, ifEK_f, aNil_ap, aCons_ap, consK_ap, consK2_ap, aCB_ap, cbK_ap, aNoPart_ap, aPart_ap, partK_ap, aSl_ap, slK_ap, slK2_ap, slK3_ap, aBM_ap, bmK_ap, bmK2_ap, aBM0_ap, bmK0_ap, aPut_ap, putK_ap, putK1_ap, putK2_ap, aFor_ap, forK_n, aRng1_ap, aRng2_ap, aIt_ap, itK_l, itK_t, itK_s, itK_x, itK_c, itK_f, aCallG_ap, List.getElem?_cons_zero, List.getElem?_cons_succ, List.set_cons_zero, List.set_cons_succ, List.length_cons, List.length_nil, Nat.zero_add, Nat.reduceAdd, Option.map_some, Option.map_none, Option.bind_some, Option.bind_none, List.map_cons, List.map_nil, aName, aNameF, fz, rtv, wAt, toM, vw, frz_lst, frz_d, lvs_map, oIx2_var, ixV_w, ixV_p, ixV_k, ixL_some, lfAt_nat, lf_d, oIx2_l, oIx2_t, Y.atI_nat, putF_var, putV_w, putV_p, oEq_int, oNe_int, oLtA_int, oIntA_int, oIntA_bool, oLenV_l, oLenV_t, oI0_ap, oB0_ap, oAdd_int, rNeg, lfAt_0, stL_0, Y.atI_0, lfAt_1, stL_1, Y.atI_1, lfAt_2, stL_2, Y.atI_2, lfAt_3, stL_3, Y.atI_3, lfAt_4, stL_4, Y.atI_4, lfAt_5, stL_5, Y.atI_5, lfAt_6, stL_6, Y.atI_6, lfAt_7, stL_7, Y.atI_7, Nat.reduceLeDiff, Int.reduceLT, Int.reduceLE, List.cons_append, List.nil_append, decide_true, decide_false, if_true, if_false, sizeLine_eq, aLc_ap, hsM_at he]
    · show some (MV.d (.int ((pr[i]).2 : Nat)), _) = some ((match pr[i]? with
        | some e => MV.d (.int (e.2 : Nat))
        | none => .d .none), _)
      rw [he]

end Lw

namespace Lw
open PySem PySem.Spec PyProof.Rows L2 Y PySem.W TL
def pairs (r : List Act) : List (Act × Nat) := r.foldl (fun pr a => pr ++ [(a, lawH pr a)]) []
theorem pairs_snoc (r : List Act) (a : Act) : pairs (r ++ [a]) = pairs r ++ [(a, lawH (pairs r) a)] := by
  unfold pairs
  rw [List.foldl_append]
  rfl
theorem snoc_ind {α : Type} {P : List α → Prop} (h0 : P []) (h1 : ∀ r a, P r → P (r ++ [a])) : ∀ l : List α, P l := fun l => by
  have : ∀ n (l : List α), l.length = n → P l := by
    intro n
    induction n with
    | zero => intro l h; rw [List.eq_nil_of_length_eq_zero h]; exact h0
    | succ n ih =>
      intro l h
      have hne : l ≠ [] := fun z => by rw [z] at h; cases h
      rw [← List.dropLast_concat_getLast hne]
      exact h1 _ _ (ih _ (by rw [List.length_dropLast]; omega))
  exact this _ l rfl
theorem pairs_fst (r : List Act) : (pairs r).map (·.1) = r := snoc_ind (P := fun r => (pairs r).map (·.1) = r) rfl (fun r a ih => by rw [pairs_snoc, List.map_append, ih]; rfl) r
theorem pairs_len (r : List Act) : (pairs r).length = r.length := by
  have := congrArg List.length (pairs_fst r)
  rwa [List.length_map] at this
theorem heights_loop {r : List Act} (hl : r.length ≤ 1000) : ∃ o : Option SV, (o = none ∨ ∃ x, o = some (.d x)) ∧ forGo (aNameF 2) f__law_layers_1 (rng 0 r.length) [some (.d (runD r)), some (.w (.lst [])), none, none, none, none, none] = some (.nx [some (.d (runD r)), some (.w (.lst ((hsL (pairs r)).map MV.d))), o, none, none, none, none]) := by
  obtain ⟨s', e, o, ho, rfl⟩ := forGo_inv (Ga := aNameF 2) (S := f__law_layers_1) (ds := rng 0 r.length) (fun i s => ∃ o : Option SV, (o = none ∨ ∃ x, o = some (.d x)) ∧ s = [some (.d (runD r)), some (.w (.lst ((hsL (pairs (r.take i))).map MV.d))), o, none, none, none, none]) (fun i d s hd hp => by
    obtain ⟨rfl, hi⟩ := rng_get0 hd
    obtain ⟨o, _, rfl⟩ := hp
    have hk : r[(pairs (r.take i)).length]? = some r[i] := by rw [pairs_len, List.length_take, Nat.min_eq_left (by omega), List.getElem?_eq_getElem hi]
    have hlen : (pairs (r.take i)).length = i := by rw [pairs_len, List.length_take]; omega
    have hs := heights_step (pr := pairs (r.take i)) hk (by rw [pairs_fst, hlen]) hl (fun s => rngK1_ap (by omega))
    rw [hlen] at hs
    refine ⟨_, _, rfl, .inl hs, some (.d (.int (i : Nat))), .inr ⟨_, rfl⟩, ?_⟩
    rw [show r.take (i + 1) = r.take i ++ [r[i]] by rw [List.take_add_one, List.getElem?_eq_getElem hi]; rfl, pairs_snoc]) (s := [some (.d (runD r)), some (.w (.lst ((hsL (pairs (r.take 0))).map MV.d))), none, none, none, none, none]) ⟨none, .inl rfl, rfl⟩
  rw [rng_len, List.take_length] at e
  exact ⟨o, ho, e⟩

end Lw

namespace Lw
open PySem PySem.Spec PyProof.Rows L2 Y PySem.W TL
def actLe (a b : Act) : Bool := dataLe false (fun d => d) (actD a) (actD b)
def sortA (l : List Act) : List Act := l.mergeSort actLe
theorem srt_runL (l : List Act) : srt (runL l) = runL (sortA l) := by
  have h : (l.mergeSort actLe).map actD = (l.map actD).mergeSort (dataLe false fun d => d) := List.map_mergeSort (fun _ _ _ _ => rfl)
  exact h.symm
theorem srtOk_acts (l : List Act) : SrtOk (runL l) := by
  refine ⟨fun d hd d' hd' => ?_, .inl fun d hd => ?_, fun d hd => ?_⟩
  · obtain ⟨a, _, rfl⟩ := List.mem_map.mp hd
    obtain ⟨b, _, rfl⟩ := List.mem_map.mp hd'
    rfl
  · obtain ⟨a, _, rfl⟩ := List.mem_map.mp hd
    exact ⟨_, _, rfl⟩
  · obtain ⟨a, _, rfl⟩ := List.mem_map.mp hd
    have : (actD a).depth = 1 := rfl
    omega
theorem oSorted_acts {s : SL} (l : List Act) : oSorted s [.t (.lst ((runL l).map MV.d))] = some (.t (.lst ((runL (sortA l)).map MV.d)), s) := by
  show ((seqL s (.t (.lst ((runL l).map MV.d)))).bind lvs).bind (fun ds => srtL ds s) = _
  rw [show (seqL s (.t (.lst ((runL l).map MV.d)))).bind lvs = some (runL l) from lvs_map _]
  show srtL (runL l) s = _
  unfold srtL
  rw [if_pos (srtOk_acts l), srt_runL]
theorem oSorted_actsD {s : SL} (l : List Act) : oSorted s [.d (runD l)] = some (.t (.lst ((runL (sortA l)).map MV.d)), s) := by
  show ((seqL s (.d (runD l))).bind lvs).bind (fun ds => srtL ds s) = _
  rw [show (seqL s (.d (runD l))).bind lvs = some (runL l) from lvs_map _]
  show srtL (runL l) s = _
  unfold srtL
  rw [if_pos (srtOk_acts l), srt_runL]
abbrev layM (L : List (List Act)) : List MV := L.map fun l => MV.lst ((runL l).map MV.d)
def layAt (pr : List (Act × Nat)) (h : Nat) : List Act := sortA ((pr.filter fun e => decide (e.2 = h)).map (·.1))
theorem layer_step {r : List Act} {o2 : Option SV} {L : List (List Act)} {h : Nat} (ho : o2 = none ∨ ∃ x, o2 = some (.d x)) (hl : r.length ≤ 1000) (hL : L.length ≤ 100000) (hr : ∀ s, rngK1 [.d (.int (r.length : Nat))] s = some (.ok (rng 0 r.length, none) s)) :
    f__law_layers_0 [some (.d (runD r)), some (.w (.lst ((hsL (pairs r)).map MV.d))), o2, none, some (.w (.lst (layM L))), some (.d (.int (h : Nat))), none] =
      some (.nx [some (.d (runD r)), some (.w (.lst ((hsL (pairs r)).map MV.d))), o2, none, some (.w (.lst (layM (L ++ [layAt (pairs r) h])))), none, none]) := by
  have hl2 : L.length < 16777216 := by omega
  have ri : ∀ (i : Nat) (e : Act × Nat), (pairs r)[i]? = some e → r[i]? = some e.1 := fun i e h => by
    have h2 : ((pairs r).map (·.1))[i]? = some e.1 := by rw [List.getElem?_map, h]; rfl
    rwa [pairs_fst] at h2
  unfold f__law_layers_0
  simp only [aSeq_ap, seqK_nx, seqK_rt, seqK_bk, seqK_ct, seqK_none, aNext_ap, aBrk_ap, aCont_ap, aAsg_ap, asgK_ap, nxR_some, aDrop_ap, dropK_ap, aIfS_ap, ifK_t, ifK_f, aRet_ap, retK_ap, rtR_some, aRetN_ap, aKill_ap, List.foldl_cons, List.foldl_nil, sb_okN, bd_okN, mapR_some, aC_ap, aXT_ap, aVar_ap, varK_d, varK_x, varK_w, varK_p, varK_k, aOp_ap, opK_ap, opK2_ap, aFz_ap, aUn_ap, aB_ap, bK_ap, aAnd_ap, andK_t, andK_f, aOr_ap, orK_t, orK_f, aNot_ap, notK_ap, aTru_ap, truK_ap, aYes_ap, aAndV_ap, andVK_t, andVK_f, aOrV_ap, orVK_t, orVK_f, aNotV_ap, notVK_ap, aIf_ap, ifEK_t, ifEK_f, aNil_ap, aCons_ap, consK_ap, consK2_ap, aCB_ap, cbK_ap, aNoPart_ap, aPart_ap, partK_ap, aSl_ap, slK_ap, slK2_ap, slK3_ap, aBM_ap, bmK_ap, bmK2_ap, aBM0_ap, bmK0_ap, aPut_ap, putK_ap, putK1_ap, putK2_ap, aFor_ap, forK_n, aRng1_ap, aRng2_ap, aIt_ap, itK_l, itK_t, itK_s, itK_x, itK_c, itK_f, aCallG_ap, List.getElem?_cons_zero, List.getElem?_cons_succ, List.set_cons_zero, List.set_cons_succ, List.length_cons, List.length_nil, Nat.zero_add, Nat.reduceAdd, Option.map_some, Option.map_none, Option.bind_some, Option.bind_none, List.map_cons, List.map_nil, aName, aNameF, fz, rtv, wAt, toM, vw, frz_lst, frz_d, lvs_map, oIx2_var, ixV_w, ixV_p, ixV_k, ixL_some, lfAt_nat, lf_d, oIx2_l, oIx2_t, Y.atI_nat, putF_var, putV_w, putV_p, oEq_int, oNe_int, oLtA_int, oIntA_int, oIntA_bool, oLenV_l, oLenV_t, oI0_ap, oB0_ap, oAdd_int, rNeg, lfAt_0, stL_0, Y.atI_0, lfAt_1, stL_1, Y.atI_1, lfAt_2, stL_2, Y.atI_2, lfAt_3, stL_3, Y.atI_3, lfAt_4, stL_4, Y.atI_4, lfAt_5, stL_5, Y.atI_5, lfAt_6, stL_6, Y.atI_6, lfAt_7, stL_7, Y.atI_7, Nat.reduceLeDiff, Int.reduceLT, Int.reduceLE, List.cons_append, List.nil_append, decide_true, decide_false, if_true, if_false, sizeLine_eq, aLc_ap, List.length_map, hr]
  rw [lcK_map (fun x => match x with
    | .int j => (match (pairs r)[j.toNat]? with
      | some e => decide (e.2 = h)
      | none => false)
    | _ => false) (fun x => match x with
    | .int j => (match (pairs r)[j.toNat]? with
      | some e => .d (actD e.1)
      | none => .d .none)
    | _ => .d .none)]
  · rw [← pairs_len r, rng_fmD (pairs r) (fun e => decide (e.2 = h)) (fun e => actD e.1) _ _ fun i e h' => by
      show (match (pairs r)[i]? with
        | some e => decide (e.2 = h)
        | none => false) = _ ∧ _
      rw [h']
      refine ⟨rfl, fun _ => ?_⟩
      show (match (pairs r)[i]? with
        | some e => MV.d (actD e.1)
        | none => .d .none) = _
      rw [h']]
    have hm : (((pairs r).filter fun e => decide (e.2 = h)).map fun e => actD e.1) = runL (((pairs r).filter fun e => decide (e.2 = h)).map (·.1)) := by show _ = List.map _ (List.map _ _); rw [List.map_map]; rfl
    rw [hm]
    simp only [aSeq_ap, seqK_nx, seqK_rt, seqK_bk, seqK_ct, seqK_none, aNext_ap, aBrk_ap, aCont_ap, aAsg_ap, asgK_ap, nxR_some, aDrop_ap, dropK_ap, aIfS_ap, ifK_t, ifK_f, aRet_ap, retK_ap, rtR_some, aRetN_ap, aKill_ap, List.foldl_cons, List.foldl_nil, sb_okN, bd_okN, mapR_some, aC_ap, aXT_ap, aVar_ap, varK_d, varK_x, varK_w, varK_p, varK_k, aOp_ap, opK_ap, opK2_ap, aFz_ap, aUn_ap, aB_ap, bK_ap, aAnd_ap, andK_t, andK_f, aOr_ap, orK_t, orK_f, aNot_ap, notK_ap, aTru_ap, truK_ap, aYes_ap, aAndV_ap, andVK_t, andVK_f, aOrV_ap, orVK_t, orVK_f, aNotV_ap, notVK_ap, aIf_ap, ifEK_t, ifEK_f, aNil_ap, aCons_ap, consK_ap, consK2_ap, aCB_ap, cbK_ap, aNoPart_ap, aPart_ap, partK_ap, aSl_ap, slK_ap, slK2_ap, slK3_ap, aBM_ap, bmK_ap, bmK2_ap, aBM0_ap, bmK0_ap, aPut_ap, putK_ap, putK1_ap, putK2_ap, aFor_ap, forK_n, aRng1_ap, aRng2_ap, aIt_ap, itK_l, itK_t, itK_s, itK_x, itK_c, itK_f, aCallG_ap, List.getElem?_cons_zero, List.getElem?_cons_succ, List.set_cons_zero, List.set_cons_succ, List.length_cons, List.length_nil, Nat.zero_add, Nat.reduceAdd, Option.map_some, Option.map_none, Option.bind_some, Option.bind_none, List.map_cons, List.map_nil, aName, aNameF, fz, rtv, wAt, toM, vw, frz_lst, frz_d, lvs_map, oIx2_var, ixV_w, ixV_p, ixV_k, ixL_some, lfAt_nat, lf_d, oIx2_l, oIx2_t, Y.atI_nat, putF_var, putV_w, putV_p, oEq_int, oNe_int, oLtA_int, oIntA_int, oIntA_bool, oLenV_l, oLenV_t, oI0_ap, oB0_ap, oAdd_int, rNeg, lfAt_0, stL_0, Y.atI_0, lfAt_1, stL_1, Y.atI_1, lfAt_2, stL_2, Y.atI_2, lfAt_3, stL_3, Y.atI_3, lfAt_4, stL_4, Y.atI_4, lfAt_5, stL_5, Y.atI_5, lfAt_6, stL_6, Y.atI_6, lfAt_7, stL_7, Y.atI_7, Nat.reduceLeDiff, Int.reduceLT, Int.reduceLE, List.cons_append, List.nil_append, decide_true, decide_false, if_true, if_false, sizeLine_eq, aLc_ap, oSorted_acts, tyA, beq_self_eq_true, mAppend_t, apV_w, List.length_map, if_pos hl2, List.map_append]
    rfl
  · rw [rng_len]; omega
  · rcases ho with rfl | ⟨x, rfl⟩ <;> rfl
  · intro x hx
    obtain ⟨i, hi, rfl⟩ : ∃ i, i < r.length ∧ x = .int (i : Nat) := by
      obtain ⟨i, h⟩ := List.getElem?_of_mem hx
      obtain ⟨e, h2⟩ := rng_get0 h
      exact ⟨i, h2, e⟩
    have hi' : i < (pairs r).length := by rw [pairs_len]; exact hi
    have he := List.getElem?_eq_getElem hi'
    refine ⟨_, [some (.d (runD r)), some (.w (.lst ((hsL (pairs r)).map MV.d))), some (.d (.int (i : Nat))), none, some (.w (.lst (layM L))), some (.d (.int (h : Nat))), none], rfl, ?_, fun _ => ⟨.d (actD ((pairs r)[i]).1), [some (.d (runD r)), some (.w (.lst ((hsL (pairs r)).map MV.d))), some (.d (.int (i : Nat))), none, some (.w (.lst (layM L))), some (.d (.int (h : Nat))), none], [some (.d (runD r)), some (.w (.lst ((hsL (pairs r)).map MV.d))), some (.d (.int (i : Nat))), none, some (.w (.lst (layM L))), some (.d (.int (h : Nat))), none], ?_, ?_, rfl⟩, fun _ => rfl⟩
    · show aB _ [some (.d (runD r)), some (.w (.lst ((hsL (pairs r)).map MV.d))), some (.d (.int (i : Nat))), none, some (.w (.lst (layM L))), some (.d (.int (h : Nat))), none] = some (.ok (match (pairs r)[i]? with
        | some e => decide (e.2 = h)
        | none => false) _)
      rw [he]
      have hd : decide (((((pairs r)[i]).2 : Nat) : Int) = ((h : Nat) : Int)) = decide (((pairs r)[i]).2 = h) := by
        rw [decide_eq_decide]; omega
      simp only [aSeq_ap, seqK_nx, seqK_rt, seqK_bk, seqK_ct, seqK_none, aNext_ap, aBrk_ap, aCont_ap, aAsg_ap, asgK_ap, nxR_some, aDrop_ap, dropK_ap, aIfS_ap, ifK_t, ifK_f, aRet_ap, retK_ap, rtR_some, aRetN_ap, aKill_ap, List.foldl_cons, List.foldl_nil, sb_okN, bd_okN, mapR_some, aC_ap, aXT_ap, aVar_ap, varK_d, varK_x, varK_w, varK_p, varK_k, aOp_ap, opK_ap, opK2_ap, aFz_ap, aUn_ap, aB_ap, bK_ap, aAnd_ap, andK_t, andK_f, aOr_ap, orK_t, orK_f, aNot_ap, notK_ap, aTru_ap, truK_ap, aYes_ap, aAndV_ap, andVK_t, andVK_f, aOrV_ap, orVK_t, orVK_f, aNotV_ap, notVK_ap, aIf_ap, ifEK_t, ifEK_f, aNil_ap, aCons_ap, consK_ap, consK2_ap, aCB_ap, cbK_ap, aNoPart_ap, aPart_ap, partK_ap, aSl_ap, slK_ap, slK2_ap, slK3_ap, aBM_ap, bmK_ap, bmK2_ap, aBM0_ap, bmK0_ap, aPut_ap, putK_ap, putK1_ap, putK2_ap, aFor_ap, forK_n, aRng1_ap, aRng2_ap, aIt_ap, itK_l, itK_t, itK_s, itK_x, itK_c, itK_f, aCallG_ap, List.getElem?_cons_zero, List.getElem?_cons_succ, List.set_cons_zero, List.set_cons_succ, List.length_cons, List.length_nil, Nat.zero_add, Nat.reduceAdd, Option.map_some, Option.map_none, Option.bind_some, Option.bind_none, List.map_cons, List.map_nil, aName, aNameF, fz, rtv, wAt, toM, vw, frz_lst, frz_d, lvs_map, oIx2_var, ixV_w, ixV_p, ixV_k, ixL_some, lfAt_nat, lf_d, oIx2_l, oIx2_t, Y.atI_nat, putF_var, putV_w, putV_p, oEq_int, oNe_int, oLtA_int, oIntA_int, oIntA_bool, oLenV_l, oLenV_t, oI0_ap, oB0_ap, oAdd_int, rNeg, lfAt_0, stL_0, Y.atI_0, lfAt_1, stL_1, Y.atI_1, lfAt_2, stL_2, Y.atI_2, lfAt_3, stL_3, Y.atI_3, lfAt_4, stL_4, Y.atI_4, lfAt_5, stL_5, Y.atI_5, lfAt_6, stL_6, Y.atI_6, lfAt_7, stL_7, Y.atI_7, Nat.reduceLeDiff, Int.reduceLT, Int.reduceLE, List.cons_append, List.nil_append, decide_true, decide_false, if_true, if_false, sizeLine_eq, aLc_ap, hsM_at he, hd]
    · show aOp oIx2 (aVar 0) (aVar 2) [some (.d (runD r)), some (.w (.lst ((hsL (pairs r)).map MV.d))), some (.d (.int (i : Nat))), none, some (.w (.lst (layM L))), some (.d (.int (h : Nat))), none] = _
      simp only [aSeq_ap, seqK_nx, seqK_rt, seqK_bk, seqK_ct, seqK_none, aNext_ap, aBrk_ap, aCont_ap, aAsg_ap, asgK_ap, nxR_some, aDrop_ap, dropK_ap, aIfS_ap, ifK_t, ifK_f, aRet_ap, retK_ap, rtR_some, aRetN_ap, aKill_ap, List.foldl_cons, List.foldl_nil, sb_okN, bd_okN, mapR_some, aC_ap, aXT_ap, aVar_ap, varK_d, varK_x, varK_w, varK_p, varK_k, aOp_ap, opK_ap, opK2_ap, aFz_ap, aUn_ap, aB_ap, bK_ap, aAnd_ap, andK_t, andK_f, aOr_ap, orK_t, orK_f, aNot_ap, notK_ap, aTru_ap, truK_ap, aYes_ap, aAndV_ap, andVK_t, andVK_f, aOrV_ap, orVK_t, orVK_f, aNotV_ap, notVK_ap, aIf_ap, ifEK_t, ifEK_f, aNil_ap, aCons_ap, consK_ap, consK2_ap, aCB_ap, cbK_ap, aNoPart_ap, aPart_ap, partK_ap, aSl_ap, slK_ap, slK2_ap, slK3_ap, aBM_ap, bmK_ap, bmK2_ap, aBM0_ap, bmK0_ap, aPut_ap, putK_ap, putK1_ap, putK2_ap, aFor_ap, forK_n, aRng1_ap, aRng2_ap, aIt_ap, itK_l, itK_t, itK_s, itK_x, itK_c, itK_f, aCallG_ap, List.getElem?_cons_zero, List.getElem?_cons_succ, List.set_cons_zero, List.set_cons_succ, List.length_cons, List.length_nil, Nat.zero_add, Nat.reduceAdd, Option.map_some, Option.map_none, Option.bind_some, Option.bind_none, List.map_cons, List.map_nil, aName, aNameF, fz, rtv, wAt, toM, vw, frz_lst, frz_d, lvs_map, oIx2_var, ixV_w, ixV_p, ixV_k, ixL_some, lfAt_nat, lf_d, oIx2_l, oIx2_t, Y.atI_nat, putF_var, putV_w, putV_p, oEq_int, oNe_int, oLtA_int, oIntA_int, oIntA_bool, oLenV_l, oLenV_t, oI0_ap, oB0_ap, oAdd_int, rNeg, lfAt_0, stL_0, Y.atI_0, lfAt_1, stL_1, Y.atI_1, lfAt_2, stL_2, Y.atI_2, lfAt_3, stL_3, Y.atI_3, lfAt_4, stL_4, Y.atI_4, lfAt_5, stL_5, Y.atI_5, lfAt_6, stL_6, Y.atI_6, lfAt_7, stL_7, Y.atI_7, Nat.reduceLeDiff, Int.reduceLT, Int.reduceLE, List.cons_append, List.nil_append, decide_true, decide_false, if_true, if_false, sizeLine_eq, aLc_ap, runL_at (ri i _ he)]
    · show some (MV.d (actD ((pairs r)[i]).1), _) = some ((match (pairs r)[i]? with
        | some e => MV.d (actD e.1)
        | none => .d .none), _)
      rw [he]

end Lw

namespace Lw
open PySem PySem.Spec PyProof.Rows L2 Y PySem.W TL
def lawLayers (r : List Act) : List (List Act) := (List.range (maxN ((pairs r).map (·.2)))).map fun i => layAt (pairs r) (i + 1)
theorem oAdd_var {s : SL} {i : Nat} {xs : List PyData} {y : PyData} (h : s[i]? = some (some (.w (.lst (xs.map MV.d))))) (hl : xs.length ≤ 16777215) : oAdd s (.var i) (.t (.lst [.d y])) = some (.t (.lst (xs.map MV.d ++ [.d y])), s) := by
  have ev : vw s (.var i) = some (.lst (xs.map MV.d)) := by unfold vw; dsimp only; rw [h]
  have e0 : seqTd s (.var i) = none := by unfold seqTd; rw [ev]
  have e1 : lsD s (.var i) = some (xs, s) := by
    unfold lsD
    rw [show seqM s (.var i) = some (xs.map MV.d) by unfold seqM; rw [ev]]
    show (match lvs (xs.map MV.d) with
      | some ds => some (ds, s)
      | none => _) = _
    rw [lvs_map]
  show (match seqTd s (.var i), seqTd s (.t (.lst [.d y])) with
    | some xs, some ys => if xs.length + ys.length ≤ sizeLine then some (TV.d (.tuple (xs ++ ys)), s) else none
    | _, _ => (lsD s (.var i)).bind fun p => (lsD p.2 (.t (.lst [.d y]))).bind fun q => if p.1.length + q.1.length ≤ sizeLine then some (TV.t (.lst ((p.1 ++ q.1).map MV.d)), q.2) else none) = _
  rw [e0]
  show (lsD s (.var i)).bind (fun p => (lsD p.2 (.t (.lst [.d y]))).bind fun q => if p.1.length + q.1.length ≤ sizeLine then some (TV.t (.lst ((p.1 ++ q.1).map MV.d)), q.2) else none) = _
  rw [e1]
  show (if xs.length + 1 ≤ sizeLine then some (TV.t (.lst ((xs ++ [y]).map MV.d)), s) else none) = _
  rw [if_pos (by rw [sizeLine_eq]; omega), List.map_append]
  rfl
theorem layers_loop {r : List Act} {o2 : Option SV} {n : Nat} (ho : o2 = none ∨ ∃ x, o2 = some (.d x)) (hl : r.length ≤ 1000) (hn : n ≤ 100000) (hr : ∀ s, rngK1 [.d (.int (r.length : Nat))] s = some (.ok (rng 0 r.length, none) s)) :
    forGo (aNameF 5) f__law_layers_0 (rng 1 n) [some (.d (runD r)), some (.w (.lst ((hsL (pairs r)).map MV.d))), o2, none, some (.w (.lst [])), none, none] =
      some (.nx [some (.d (runD r)), some (.w (.lst ((hsL (pairs r)).map MV.d))), o2, none, some (.w (.lst (layM ((List.range n).map fun i => layAt (pairs r) (i + 1))))), none, none]) := by
  obtain ⟨s', e, hs⟩ := forGo_inv (Ga := aNameF 5) (S := f__law_layers_0) (ds := rng 1 n) (fun i s => s = [some (.d (runD r)), some (.w (.lst ((hsL (pairs r)).map MV.d))), o2, none, some (.w (.lst (layM ((List.range i).map fun i => layAt (pairs r) (i + 1))))), none, none]) (fun i d s hd hp => by
    obtain ⟨rfl, hi⟩ := rng_get hd
    subst hp
    have e := layer_step (r := r) (o2 := o2) (L := (List.range i).map fun i => layAt (pairs r) (i + 1)) (h := i + 1) ho hl (by simp; omega) hr
    rw [show (1 : Int) + ((i : Nat) : Int) = ((i + 1 : Nat) : Int) by omega]
    refine ⟨_, _, rfl, .inl e, ?_⟩
    rw [List.range_succ, List.map_append]
    rfl) (s := [some (.d (runD r)), some (.w (.lst ((hsL (pairs r)).map MV.d))), o2, none, some (.w (.lst [])), none, none]) rfl
  rw [rng_len] at hs
  rw [← hs]
  exact e

end Lw

namespace Lw
open PySem PySem.Spec PyProof.Rows L2 Y PySem.W TL
theorem layers_body {r : List Act} {o2 : Option SV} {L : List MV} {ds1 ds2 : List PyData} (hr1 : ∀ s, rngK1 [.d (.int (r.length : Nat))] s = some (.ok (ds1, none) s)) (hl : (hsL (pairs r)).length ≤ 16777215) (hr2 : ∀ s, rngK2 [.d (.int 1), .d (.int ((maxN ((pairs r).map (·.2)) : Nat) + 1))] s = some (.ok (ds2, none) s))
  (e1 : forGo (aNameF 2) f__law_layers_1 ds1 [some (.d (runD r)), some (.w (.lst [])), none, none, none, none, none] = some (.nx [some (.d (runD r)), some (.w (.lst ((hsL (pairs r)).map MV.d))), o2, none, none, none, none]))
  (e2 : forGo (aNameF 5) f__law_layers_0 ds2 [some (.d (runD r)), some (.w (.lst ((hsL (pairs r)).map MV.d))), o2, none, some (.w (.lst [])), none, none] = some (.nx [some (.d (runD r)), some (.w (.lst ((hsL (pairs r)).map MV.d))), o2, none, some (.w (.lst L)), none, none])) :
  b__law_layers [some (.d (runD r)), none, none, none, none, none, none] = some (.rt (.t (.lst L)) [some (.d (runD r)), some (.w (.lst ((hsL (pairs r)).map MV.d))), o2, none, none, none, none]) := by
  unfold b__law_layers
  simp only [aSeq_ap, seqK_nx, seqK_rt, seqK_bk, seqK_ct, seqK_none, aNext_ap, aBrk_ap, aCont_ap, aAsg_ap, asgK_ap, nxR_some, aDrop_ap, dropK_ap, aIfS_ap, ifK_t, ifK_f, aRet_ap, retK_ap, rtR_some, aRetN_ap, aKill_ap, List.foldl_cons, List.foldl_nil, sb_okN, bd_okN, mapR_some, aC_ap, aXT_ap, aVar_ap, varK_d, varK_x, varK_w, varK_p, varK_k, aOp_ap, opK_ap, opK2_ap, aFz_ap, aUn_ap, aB_ap, bK_ap, aAnd_ap, andK_t, andK_f, aOr_ap, orK_t, orK_f, aNot_ap, notK_ap, aTru_ap, truK_ap, aYes_ap, aAndV_ap, andVK_t, andVK_f, aOrV_ap, orVK_t, orVK_f, aNotV_ap, notVK_ap, aIf_ap, ifEK_t, ifEK_f, aNil_ap, aCons_ap, consK_ap, consK2_ap, aCB_ap, cbK_ap, aNoPart_ap, aPart_ap, partK_ap, aSl_ap, slK_ap, slK2_ap, slK3_ap, aBM_ap, bmK_ap, bmK2_ap, aBM0_ap, bmK0_ap, aPut_ap, putK_ap, putK1_ap, putK2_ap, aFor_ap, forK_n, aRng1_ap, aRng2_ap, aIt_ap, itK_l, itK_t, itK_s, itK_x, itK_c, itK_f, aCallG_ap, List.getElem?_cons_zero, List.getElem?_cons_succ, List.set_cons_zero, List.set_cons_succ, List.length_cons, List.length_nil, Nat.zero_add, Nat.reduceAdd, Option.map_some, Option.map_none, Option.bind_some, Option.bind_none, List.map_cons, List.map_nil, aName, aNameF, fz, rtv, wAt, toM, vw, frz_lst, frz_d, lvs_map, oIx2_var, ixV_w, ixV_p, ixV_k, ixL_some, lfAt_nat, lf_d, oIx2_l, oIx2_t, Y.atI_nat, putF_var, putV_w, putV_p, oEq_int, oNe_int, oLtA_int, oIntA_int, oIntA_bool, oLenV_l, oLenV_t, oI0_ap, oB0_ap, oAdd_int, rNeg, lfAt_0, stL_0, Y.atI_0, lfAt_1, stL_1, Y.atI_1, lfAt_2, stL_2, Y.atI_2, lfAt_3, stL_3, Y.atI_3, lfAt_4, stL_4, Y.atI_4, lfAt_5, stL_5, Y.atI_5, lfAt_6, stL_6, Y.atI_6, lfAt_7, stL_7, Y.atI_7, Nat.reduceLeDiff, Int.reduceLT, Int.reduceLE, List.cons_append, List.nil_append, decide_true, decide_false, if_true, if_false, sizeLine_eq, aLc_ap, oLst_nil, List.length_map, hr1, e1, oLst_1, oAdd_var (s := [some (.d (runD r)), some (.w (.lst ((hsL (pairs r)).map MV.d))), o2, none, some (.w (.lst [])), none, none]) (i := 1) rfl hl, oMax_natM, hr2, e2]
theorem maxN_le {l : List Nat} {b : Nat} (h : ∀ x ∈ l, x ≤ b) : maxN l ≤ b := by
  have : ∀ (l : List Nat) (x : Nat), x ≤ b → (∀ y ∈ l, y ≤ b) → l.foldl max x ≤ b := by
    intro l
    induction l with
    | nil => intro x hx _; exact hx
    | cons a r ih => intro x hx h; exact ih _ (Nat.max_le.mpr ⟨hx, h a (List.mem_cons_self ..)⟩) fun y hy => h y (List.mem_cons_of_mem _ hy)
  exact this l 0 (Nat.zero_le _) h
theorem pairs_le (r : List Act) : ∀ e ∈ pairs r, e.2 ≤ r.length := snoc_ind (P := fun r => ∀ e ∈ pairs r, e.2 ≤ r.length) (fun _ h => nomatch h) (fun r a ih e he => by
  rw [pairs_snoc] at he
  rw [List.length_append]
  rcases List.mem_append.mp he with h | h
  · exact Nat.le_trans (ih e h) (Nat.le_add_right _ _)
  · rw [List.mem_singleton.mp h]
    show lawH (pairs r) a ≤ r.length + 1
    unfold lawH
    have : maxN (((pairs r).filter fun e => !apartB e.1 a).map (·.2)) ≤ r.length := maxN_le fun x hx => by
      obtain ⟨e, h1, rfl⟩ := List.mem_map.mp hx
      exact ih e (List.mem_filter.mp h1).1
    omega) r
theorem rd__law_layers {r : List Act} (hl : r.length ≤ 1000) : den__law_layers [.d (runD r)] = some (.ok (.t (.lst (layM (lawLayers r)))) [none]) := by
  obtain ⟨o, ho, e1⟩ := heights_loop hl
  have hm : maxN ((pairs r).map (·.2)) ≤ 1000 := maxN_le fun x hx => by
    obtain ⟨e, h1, rfl⟩ := List.mem_map.mp hx
    exact Nat.le_trans (pairs_le r e h1) hl
  have e2 := layers_loop (n := maxN ((pairs r).map (·.2))) ho hl (by omega) (fun s => rngK1_ap (by omega))
  have hb := layers_body (fun s => rngK1_ap (by omega)) (by rw [List.length_map, List.length_map, pairs_len]; omega) (fun s => by
    have := rngK2_ap (s := s) (i := 1) (j := (maxN ((pairs r).map (·.2)) : Nat) + 1) (by omega)
    rw [show ((((maxN ((pairs r).map (·.2)) : Nat) : Int) + 1) - 1).toNat = maxN ((pairs r).map (·.2)) by omega] at this
    exact this) e1 e2
  have hs : start0 7 [.d (runD r)] = [some (.d (runD r)), none, none, none, none, none, none] := rfl
  unfold den__law_layers Y.run
  rw [hs, hb]
  rfl

end Lw

namespace Lw
open PySem PySem.Spec PyProof.Rows L2 Y PySem.W TL
/-! ### layers_of: the dict of heights -/
abbrev KV := List (Str × Nat)
def getH (kv : KV) (p : Str) : Nat := ((kv.find? fun e => decide (e.1 = p)).map (·.2)).getD 0
def putH (kv : KV) (p : Str) (n : Nat) : KV := if (kv.any fun e => decide (e.1 = p)) = true then kv.map (fun e => if e.1 = p then (e.1, n) else e) else kv ++ [(p, n)]
abbrev kvM (kv : KV) : List (Key × MV) := kv.map fun e => (.inr e.1, .d (.int (e.2 : Nat)))
theorem valM_kv (kv : KV) (p : Str) : valM (kvM kv) (.inr p) = (kv.find? fun e => decide (e.1 = p)).map fun e => MV.d (.int (e.2 : Nat)) := by
  unfold valM
  induction kv with
  | nil => rfl
  | cons e r ih =>
    show (List.find? _ ((Sum.inr e.1, MV.d (.int (e.2 : Nat))) :: kvM r)).map _ = _
    rw [List.find?_cons, List.find?_cons]
    by_cases h : e.1 = p
    · rw [decide_eq_true h, decide_eq_true (show (Sum.inr e.1 : Key) = .inr p by rw [h])]
      rfl
    · rw [decide_eq_false h, decide_eq_false (show ¬ (Sum.inr e.1 : Key) = .inr p from fun z => h (Sum.inr.inj z))]
      exact ih
theorem getR_kv (kv : KV) (p : Str) : getR (.dK (kvM kv)) (.str p) (.int 0) = some (.int (getH kv p : Nat)) := by
  unfold getR
  rw [show dGet (.dK (kvM kv)) (.str p) = some (valM (kvM kv) (.inr p)) from rfl, valM_kv]
  unfold getH
  cases kv.find? fun e => decide (e.1 = p) <;> rfl
theorem putM_kv (kv : KV) (p : Str) (n : Nat) : putM (kvM kv) (.inr p) (.d (.int (n : Nat))) = kvM (putH kv p n) := by
  unfold putM putH
  have ha : ((kvM kv).any fun e => decide (e.1 = .inr p)) = kv.any fun e => decide (e.1 = p) := by
    rw [List.any_map]
    congr 1
    funext e
    show decide ((Sum.inr e.1 : Key) = .inr p) = decide (e.1 = p)
    rw [decide_eq_decide]
    exact ⟨fun z => Sum.inr.inj z, fun z => by rw [z]⟩
  rw [ha]
  by_cases h : (kv.any fun e => decide (e.1 = p)) = true
  · rw [if_pos h, if_pos h, List.map_map]
    show _ = List.map _ (List.map _ _)
    rw [List.map_map]
    refine List.map_congr_left fun e _ => ?_
    show (if (Sum.inr e.1 : Key) = .inr p then ((Sum.inr e.1 : Key), MV.d (.int (n : Nat))) else (Sum.inr e.1, MV.d (.int (e.2 : Nat)))) = (fun e : Str × Nat => ((Sum.inr e.1 : Key), MV.d (.int (e.2 : Nat)))) (if e.1 = p then (e.1, n) else e)
    by_cases q : e.1 = p
    · rw [if_pos q, if_pos (by rw [q])]
    · rw [if_neg q, if_neg fun z => q (Sum.inr.inj z)]
  · rw [if_neg h, if_neg h]
    exact (List.map_append (f := fun e : Str × Nat => ((Sum.inr e.1 : Key), MV.d (.int (e.2 : Nat)))) (l₁ := kv) (l₂ := [(p, n)])).symm

end Lw

namespace Lw
open PySem PySem.Spec PyProof.Rows L2 Y PySem.W TL
def g2K3 (x y : TV) (z : TV) (s : SL) : Option (Res TV) := match y, z with
  | .d d, .d e => ((vw s x).bind fun m => getR m d e).map fun r => .ok (.d r) s
  | _, _ => none
def g2K2 (B : AE) (x y : TV) (s : SL) : Option (Res TV) := bd (B s) (g2K3 x y)
def g2K (A B : AE) (x : TV) (s : SL) : Option (Res TV) := if isDct s x = true then bd (A s) (g2K2 B x) else none
theorem aGet2_ap {O A B : AE} {s : SL} : aGet2 O A B s = bd (O s) (g2K A B) := Eq.trans rfl rfl
theorem g2K_ap {A B : AE} {x : TV} {s : SL} : g2K A B x s = if isDct s x = true then bd (A s) (g2K2 B x) else none := Eq.trans rfl rfl
theorem g2K2_ap {B : AE} {x y : TV} {s : SL} : g2K2 B x y s = bd (B s) (g2K3 x y) := Eq.trans rfl rfl
theorem g2K3_ap {x : TV} {d e : PyData} {s : SL} : g2K3 x (.d d) (.d e) s = ((vw s x).bind fun m => getR m d e).map fun r => .ok (.d r) s := Eq.trans rfl rfl
theorem isDct_w {s : SL} {i : Nat} {kvs : List (Key × MV)} (h : s[i]? = some (some (.w (.dK kvs)))) : isDct s (.var i) = true := by
  unfold isDct vw
  dsimp only
  rw [h]
theorem vw_w {s : SL} {i : Nat} {m : MV} (h : s[i]? = some (some (.w m))) : vw s (.var i) = some m := by
  unfold vw
  dsimp only
  rw [h]
theorem oMax_2 {s : SL} {a b : Nat} : oMax s [.d (.int (a : Nat)), .d (.int (b : Nat))] = some (.d (.int (max a b : Nat)), s) := by
  show some (TV.d (.int (if (b : Int) > (a : Int) then (b : Int) else (a : Int))), s) = _
  congr 3
  by_cases h : (b : Int) > (a : Int)
  · rw [if_pos h]; congr 1; omega
  · rw [if_neg h]; congr 1; omega
theorem oLenV_w {s : SL} {i : Nat} {ms : List MV} (h : s[i]? = some (some (.w (.lst ms)))) : vA oLenA s [.var i] = some (.d (.int (ms.length : Nat)), s) := by
  have ev := vw_w h
  show oLenA s [.var i] = _
  show (match vw s (.var i) with
    | some (.dK kvs) => some (TV.d (.int (kvs.length : Nat)), s)
    | some (.dT kvs) => some (TV.d (.int (kvs.length : Nat)), s)
    | _ => (lenA s (.var i)).map fun n => (TV.d (.int (n : Nat)), s)) = _
  rw [ev]
  show (lenA s (.var i)).map _ = _
  have e1 : seqT s (.var i) = none := by show seqTd s (.var i) = none; unfold seqTd; rw [ev]
  have e2 : seqL s (.var i) = some ms := by unfold seqL; dsimp only; rw [ev]
  unfold lenA
  dsimp only
  rw [e1, e2]
  rfl
theorem dput_w {s : SL} {i : Nat} {kv : KV} {p : Str} {n : Nat} (h : s[i]? = some (some (.w (.dK (kvM kv))))) (hl : kv.length < 16777216) : putF (.d (.int (n : Nat))) (.var i) (.d (.str p)) s = some (.nx (s.set i (some (.w (.dK (kvM (putH kv p n))))))) := by
  have ew : wAt s i = some (.dK (kvM kv)) := by unfold wAt; rw [h]
  have ep : ∀ m, Y.putAt s i m = s.set i (some (.w m)) := fun m => by unfold Y.putAt; rw [h]
  show dputF (.d (.int (n : Nat))) (.var i) (.d (.str p)) s = _
  show ((wAt s i).map fun m => Pl.mk s i m fun x => x).bind (fun q => (dPut q.m (.str p) (.d (.int (n : Nat)))).map fun m' => SR.nx (q.w m')) = _
  rw [ew]
  show (if (kvM kv).length < sizeLine then some (MV.dK (putM (kvM kv) (.inr p) (.d (.int (n : Nat))))) else none).map (fun m' => SR.nx (Y.putAt s i m')) = _
  rw [if_pos (by rw [sizeLine_eq, List.length_map]; exact hl), putM_kv, Option.map_some, ep]

end Lw

namespace Lw
open PySem PySem.Spec PyProof.Rows L2 Y PySem.W TL
theorem layM_at {L : List (List Act)} {h : Nat} (hh : h < L.length) : (layM L)[h]? = some (.lst ((runL L[h]).map MV.d)) := by rw [List.getElem?_map, List.getElem?_eq_getElem hh]; rfl
theorem sub_lay {s : SL} {L : List (List Act)} {h : Nat} (e : s[1]? = some (some (.w (.lst (layM L))))) (hh : h < L.length) : oIx2 s (.var 1) (.d (.int (h : Nat))) = some (.sub false 1 h (.lst (layM L)), s.set 1 none) := by
  rw [oIx2_var, e, ixV_w, lfAt_nat, layM_at hh]
  show (ixN (layM L).length (h : Nat)).bind (fun j => ((layM L)[j]?).map fun _ => (TV.sub false 1 j (.lst (layM L)), s.set 1 none)) = _
  rw [Evl.ixN_nat (by rw [List.length_map]; exact hh)]
  show ((layM L)[h]?).map _ = _
  rw [layM_at hh]
  rfl
theorem app_lay {s : SL} {L : List (List Act)} {h : Nat} {a : Act} (hs : 1 < s.length) (hh : h < L.length) (hl : L[h].length < 16777216) : mAppend s (.sub false 1 h (.lst (layM L))) [.d (actD a)] = some (.d .none, s.set 1 (some (.w (.lst (layM (L.set h (L[h] ++ [a]))))))) := by
  have ek : kid (.lst (layM L)) h = some (.lst ((runL L[h]).map MV.d)) := layM_at hh
  show ((kid (.lst (layM L)) h).map fun c => Pl.mk (bk s false 1 (.lst (layM L))) 1 c (setKid (.lst (layM L)) h)).bind (fun q => match q.m with
    | .lst ms => if ms.length < sizeLine then some (TV.d .none, q.w (.lst (ms ++ [.d (actD a)]))) else none
    | _ => none) = _
  rw [ek]
  show (if ((runL L[h]).map MV.d).length < sizeLine then some (TV.d .none, Y.putAt (bk s false 1 (.lst (layM L))) 1 (setKid (.lst (layM L)) h (.lst ((runL L[h]).map MV.d ++ [.d (actD a)])))) else none) = _
  rw [if_pos (by rw [sizeLine_eq, List.length_map, List.length_map]; exact hl)]
  have e2 : setKid (.lst (layM L)) h (.lst ((runL L[h]).map MV.d ++ [.d (actD a)])) = .lst (layM (L.set h (L[h] ++ [a]))) := by
    show MV.lst ((layM L).set h _) = _
    rw [show layM (L.set h (L[h] ++ [a])) = (layM L).set h (.lst ((runL (L[h] ++ [a])).map MV.d)) from List.map_set]
    rw [show (runL (L[h] ++ [a])).map MV.d = (runL L[h]).map MV.d ++ [.d (actD a)] by simp]
  rw [e2]
  have e3 : (bk s false 1 (.lst (layM L)))[1]? = some (some (.w (.lst (layM L)))) := List.getElem?_set_self hs
  unfold Y.putAt
  rw [e3]
  show some (TV.d .none, (s.set 1 (some (.w (.lst (layM L))))).set 1 _) = _
  rw [List.set_set]

end Lw

namespace Lw
open PySem PySem.Spec PyProof.Rows L2 Y PySem.W TL
def hAt (kv : KV) (a : Act) : Nat := max (getH kv a.1) (getH kv a.2.1)
def nextL (L : List (List Act)) (h : Nat) (a : Act) : List (List Act) := if h = L.length then L ++ [[a]] else L.set h ((L[h]?).getD [] ++ [a])
def nextK (kv : KV) (a : Act) : KV := putH (putH kv a.1 (hAt kv a + 1)) a.2.1 (hAt kv a + 1)
theorem putH_len (kv : KV) (p : Str) (n : Nat) : (putH kv p n).length ≤ kv.length + 1 := by
  unfold putH
  split
  · rw [List.length_map]; omega
  · rw [List.length_append]; exact Nat.le_refl _
theorem sub_layL {s : SL} {L : List (List Act)} {h : Nat} (hh : h < L.length) : ixL s false 1 (layM L) (h : Nat) (lf (layM L)[h]?) = some (.sub false 1 h (.lst (layM L)), s.set 1 none) := by
  rw [layM_at hh]
  show (ixN (layM L).length (h : Nat)).bind (fun j => ((layM L)[j]?).map fun _ => (TV.sub false 1 j (.lst (layM L)), s.set 1 none)) = _
  rw [Evl.ixN_nat (by rw [List.length_map]; exact hh)]
  show ((layM L)[h]?).map _ = _
  rw [layM_at hh]
  rfl
theorem lof_step {r : PyData} {L : List (List Act)} {kv : KV} {a : Act} (hh : hAt kv a ≤ L.length) (hL : L.length < 16000000) (hk : kv.length < 16000000) (hl : ∀ l ∈ L, l.length < 16000000) :
    f_layers_of_0 [some (.d r), some (.w (.lst (layM L))), some (.w (.dK (kvM kv))), some (.d (actD a)), none, none] =
      some (.nx [some (.d r), some (.w (.lst (layM (nextL L (hAt kv a) a)))), some (.w (.dK (kvM (nextK kv a)))), none, none, none]) := by
  have hk1 := putH_len kv a.1 (hAt kv a + 1)
  have hm : max (getH kv a.1) (getH kv a.2.1) = hAt kv a := rfl
  have c1 : (((hAt kv a : Nat) : Int) + 1) = ((hAt kv a + 1 : Nat) : Int) := by omega
  have k2 : (putH kv a.1 (hAt kv a + 1)).length < 16777216 := by omega
  have k1 : kv.length < 16777216 := by omega
  unfold f_layers_of_0
  by_cases he : hAt kv a = L.length
  · have hd : decide (((hAt kv a : Nat) : Int) = ((L.length : Nat) : Int)) = true := decide_eq_true (by omega)
    have hl2 : L.length < 16777216 := by omega
    have hlt : hAt kv a < (L ++ [[]]).length := by rw [List.length_append]; show _ < _ + 1; omega
    have hg : (L ++ [([] : List Act)])[hAt kv a]'hlt = [] := by
      simp only [he]
      rw [List.getElem_append_right (Nat.le_refl _)]
      simp
    have hs : (L ++ [([] : List Act)]).set (hAt kv a) ((L ++ [([] : List Act)])[hAt kv a]'hlt ++ [a]) = nextL L (hAt kv a) a := by
      unfold nextL
      rw [if_pos he, hg, he, List.set_append_right _ _ (Nat.le_refl _), Nat.sub_self]
      rfl
    have hz : ((L ++ [([] : List Act)])[hAt kv a]'hlt).length < 16777216 := by rw [hg]; exact (by omega : 0 < 16777216)
    have hm2 : layM L ++ [MV.lst []] = layM (L ++ [[]]) := by simp
    simp only [aSeq_ap, seqK_nx, seqK_rt, seqK_bk, seqK_ct, seqK_none, aNext_ap, aBrk_ap, aCont_ap, aAsg_ap, asgK_ap, nxR_some, aDrop_ap, dropK_ap, aIfS_ap, ifK_t, ifK_f, aRet_ap, retK_ap, rtR_some, aRetN_ap, aKill_ap, List.foldl_cons, List.foldl_nil, sb_okN, bd_okN, mapR_some, aC_ap, aXT_ap, aVar_ap, varK_d, varK_x, varK_w, varK_p, varK_k, aOp_ap, opK_ap, opK2_ap, aFz_ap, aUn_ap, aB_ap, bK_ap, aAnd_ap, andK_t, andK_f, aOr_ap, orK_t, orK_f, aNot_ap, notK_ap, aTru_ap, truK_ap, aYes_ap, aAndV_ap, andVK_t, andVK_f, aOrV_ap, orVK_t, orVK_f, aNotV_ap, notVK_ap, aIf_ap, ifEK_t, ifEK_f, aNil_ap, aCons_ap, consK_ap, consK2_ap, aCB_ap, cbK_ap, aNoPart_ap, aPart_ap, partK_ap, aSl_ap, slK_ap, slK2_ap, slK3_ap, aBM_ap, bmK_ap, bmK2_ap, aBM0_ap, bmK0_ap, aPut_ap, putK_ap, putK1_ap, putK2_ap, aFor_ap, forK_n, aRng1_ap, aRng2_ap, aIt_ap, itK_l, itK_t, itK_s, itK_x, itK_c, itK_f, aCallG_ap, List.getElem?_cons_zero, List.getElem?_cons_succ, List.set_cons_zero, List.set_cons_succ, List.length_cons, List.length_nil, Nat.zero_add, Nat.reduceAdd, Option.map_some, Option.map_none, Option.bind_some, Option.bind_none, List.map_cons, List.map_nil, aName, aNameF, fz, rtv, wAt, toM, vw, frz_lst, frz_d, lvs_map, oIx2_var, ixV_w, ixV_p, ixV_k, ixL_some, lfAt_nat, lf_d, oIx2_l, oIx2_t, Y.atI_nat, putF_var, putV_w, putV_p, oEq_int, oNe_int, oLtA_int, oIntA_int, oIntA_bool, oLenV_l, oLenV_t, oI0_ap, oB0_ap, oAdd_int, rNeg, lfAt_0, stL_0, Y.atI_0, lfAt_1, stL_1, Y.atI_1, lfAt_2, stL_2, Y.atI_2, lfAt_3, stL_3, Y.atI_3, lfAt_4, stL_4, Y.atI_4, lfAt_5, stL_5, Y.atI_5, lfAt_6, stL_6, Y.atI_6, lfAt_7, stL_7, Y.atI_7, Nat.reduceLeDiff, Int.reduceLT, Int.reduceLE, List.cons_append, List.nil_append, decide_true, decide_false, if_true, if_false, sizeLine_eq, aLc_ap, aGet2_ap, g2K_ap, g2K2_ap, g2K3_ap, isDct, vw, getR_kv, oMax_2, hm]
    rw [oLenV_w (ms := layM L) rfl]
    simp only [aSeq_ap, seqK_nx, seqK_rt, seqK_bk, seqK_ct, seqK_none, aNext_ap, aBrk_ap, aCont_ap, aAsg_ap, asgK_ap, nxR_some, aDrop_ap, dropK_ap, aIfS_ap, ifK_t, ifK_f, aRet_ap, retK_ap, rtR_some, aRetN_ap, aKill_ap, List.foldl_cons, List.foldl_nil, sb_okN, bd_okN, mapR_some, aC_ap, aXT_ap, aVar_ap, varK_d, varK_x, varK_w, varK_p, varK_k, aOp_ap, opK_ap, opK2_ap, aFz_ap, aUn_ap, aB_ap, bK_ap, aAnd_ap, andK_t, andK_f, aOr_ap, orK_t, orK_f, aNot_ap, notK_ap, aTru_ap, truK_ap, aYes_ap, aAndV_ap, andVK_t, andVK_f, aOrV_ap, orVK_t, orVK_f, aNotV_ap, notVK_ap, aIf_ap, ifEK_t, ifEK_f, aNil_ap, aCons_ap, consK_ap, consK2_ap, aCB_ap, cbK_ap, aNoPart_ap, aPart_ap, partK_ap, aSl_ap, slK_ap, slK2_ap, slK3_ap, aBM_ap, bmK_ap, bmK2_ap, aBM0_ap, bmK0_ap, aPut_ap, putK_ap, putK1_ap, putK2_ap, aFor_ap, forK_n, aRng1_ap, aRng2_ap, aIt_ap, itK_l, itK_t, itK_s, itK_x, itK_c, itK_f, aCallG_ap, List.getElem?_cons_zero, List.getElem?_cons_succ, List.set_cons_zero, List.set_cons_succ, List.length_cons, List.length_nil, Nat.zero_add, Nat.reduceAdd, Option.map_some, Option.map_none, Option.bind_some, Option.bind_none, List.map_cons, List.map_nil, aName, aNameF, fz, rtv, wAt, toM, vw, frz_lst, frz_d, lvs_map, oIx2_var, ixV_w, ixV_p, ixV_k, ixL_some, lfAt_nat, lf_d, oIx2_l, oIx2_t, Y.atI_nat, putF_var, putV_w, putV_p, oEq_int, oNe_int, oLtA_int, oIntA_int, oIntA_bool, oLenV_l, oLenV_t, oI0_ap, oB0_ap, oAdd_int, rNeg, lfAt_0, stL_0, Y.atI_0, lfAt_1, stL_1, Y.atI_1, lfAt_2, stL_2, Y.atI_2, lfAt_3, stL_3, Y.atI_3, lfAt_4, stL_4, Y.atI_4, lfAt_5, stL_5, Y.atI_5, lfAt_6, stL_6, Y.atI_6, lfAt_7, stL_7, Y.atI_7, Nat.reduceLeDiff, Int.reduceLT, Int.reduceLE, List.cons_append, List.nil_append, decide_true, decide_false, if_true, if_false, sizeLine_eq, aLc_ap, List.length_map, oEq_int, hd, oLst_nil, tyA, vw, beq_self_eq_true, mAppend_t, apV_w, if_pos hl2, hm2]
    rw [sub_layL (L := L ++ [[]]) hlt]
    simp only [aSeq_ap, seqK_nx, seqK_rt, seqK_bk, seqK_ct, seqK_none, aNext_ap, aBrk_ap, aCont_ap, aAsg_ap, asgK_ap, nxR_some, aDrop_ap, dropK_ap, aIfS_ap, ifK_t, ifK_f, aRet_ap, retK_ap, rtR_some, aRetN_ap, aKill_ap, List.foldl_cons, List.foldl_nil, sb_okN, bd_okN, mapR_some, aC_ap, aXT_ap, aVar_ap, varK_d, varK_x, varK_w, varK_p, varK_k, aOp_ap, opK_ap, opK2_ap, aFz_ap, aUn_ap, aB_ap, bK_ap, aAnd_ap, andK_t, andK_f, aOr_ap, orK_t, orK_f, aNot_ap, notK_ap, aTru_ap, truK_ap, aYes_ap, aAndV_ap, andVK_t, andVK_f, aOrV_ap, orVK_t, orVK_f, aNotV_ap, notVK_ap, aIf_ap, ifEK_t, ifEK_f, aNil_ap, aCons_ap, consK_ap, consK2_ap, aCB_ap, cbK_ap, aNoPart_ap, aPart_ap, partK_ap, aSl_ap, slK_ap, slK2_ap, slK3_ap, aBM_ap, bmK_ap, bmK2_ap, aBM0_ap, bmK0_ap, aPut_ap, putK_ap, putK1_ap, putK2_ap, aFor_ap, forK_n, aRng1_ap, aRng2_ap, aIt_ap, itK_l, itK_t, itK_s, itK_x, itK_c, itK_f, aCallG_ap, List.getElem?_cons_zero, List.getElem?_cons_succ, List.set_cons_zero, List.set_cons_succ, List.length_cons, List.length_nil, Nat.zero_add, Nat.reduceAdd, Option.map_some, Option.map_none, Option.bind_some, Option.bind_none, List.map_cons, List.map_nil, aName, aNameF, fz, rtv, wAt, toM, vw, frz_lst, frz_d, lvs_map, oIx2_var, ixV_w, ixV_p, ixV_k, ixL_some, lfAt_nat, lf_d, oIx2_l, oIx2_t, Y.atI_nat, putF_var, putV_w, putV_p, oEq_int, oNe_int, oLtA_int, oIntA_int, oIntA_bool, oLenV_l, oLenV_t, oI0_ap, oB0_ap, oAdd_int, rNeg, lfAt_0, stL_0, Y.atI_0, lfAt_1, stL_1, Y.atI_1, lfAt_2, stL_2, Y.atI_2, lfAt_3, stL_3, Y.atI_3, lfAt_4, stL_4, Y.atI_4, lfAt_5, stL_5, Y.atI_5, lfAt_6, stL_6, Y.atI_6, lfAt_7, stL_7, Y.atI_7, Nat.reduceLeDiff, Int.reduceLT, Int.reduceLE, List.cons_append, List.nil_append, decide_true, decide_false, if_true, if_false, sizeLine_eq, aLc_ap, tyA, kid, layM_at hlt, beq_self_eq_true]
    rw [app_lay (by simp) hlt hz, hs]
    simp only [aSeq_ap, seqK_nx, seqK_rt, seqK_bk, seqK_ct, seqK_none, aNext_ap, aBrk_ap, aCont_ap, aAsg_ap, asgK_ap, nxR_some, aDrop_ap, dropK_ap, aIfS_ap, ifK_t, ifK_f, aRet_ap, retK_ap, rtR_some, aRetN_ap, aKill_ap, List.foldl_cons, List.foldl_nil, sb_okN, bd_okN, mapR_some, aC_ap, aXT_ap, aVar_ap, varK_d, varK_x, varK_w, varK_p, varK_k, aOp_ap, opK_ap, opK2_ap, aFz_ap, aUn_ap, aB_ap, bK_ap, aAnd_ap, andK_t, andK_f, aOr_ap, orK_t, orK_f, aNot_ap, notK_ap, aTru_ap, truK_ap, aYes_ap, aAndV_ap, andVK_t, andVK_f, aOrV_ap, orVK_t, orVK_f, aNotV_ap, notVK_ap, aIf_ap, ifEK_t, ifEK_f, aNil_ap, aCons_ap, consK_ap, consK2_ap, aCB_ap, cbK_ap, aNoPart_ap, aPart_ap, partK_ap, aSl_ap, slK_ap, slK2_ap, slK3_ap, aBM_ap, bmK_ap, bmK2_ap, aBM0_ap, bmK0_ap, aPut_ap, putK_ap, putK1_ap, putK2_ap, aFor_ap, forK_n, aRng1_ap, aRng2_ap, aIt_ap, itK_l, itK_t, itK_s, itK_x, itK_c, itK_f, aCallG_ap, List.getElem?_cons_zero, List.getElem?_cons_succ, List.set_cons_zero, List.set_cons_succ, List.length_cons, List.length_nil, Nat.zero_add, Nat.reduceAdd, Option.map_some, Option.map_none, Option.bind_some, Option.bind_none, List.map_cons, List.map_nil, aName, aNameF, fz, rtv, wAt, toM, vw, frz_lst, frz_d, lvs_map, oIx2_var, ixV_w, ixV_p, ixV_k, ixL_some, lfAt_nat, lf_d, oIx2_l, oIx2_t, Y.atI_nat, putF_var, putV_w, putV_p, oEq_int, oNe_int, oLtA_int, oIntA_int, oIntA_bool, oLenV_l, oLenV_t, oI0_ap, oB0_ap, oAdd_int, rNeg, lfAt_0, stL_0, Y.atI_0, lfAt_1, stL_1, Y.atI_1, lfAt_2, stL_2, Y.atI_2, lfAt_3, stL_3, Y.atI_3, lfAt_4, stL_4, Y.atI_4, lfAt_5, stL_5, Y.atI_5, lfAt_6, stL_6, Y.atI_6, lfAt_7, stL_7, Y.atI_7, Nat.reduceLeDiff, Int.reduceLT, Int.reduceLE, List.cons_append, List.nil_append, decide_true, decide_false, if_true, if_false, sizeLine_eq, aLc_ap, c1]
    rw [dput_w (kv := kv) rfl k1]
    simp only [aSeq_ap, seqK_nx, seqK_rt, seqK_bk, seqK_ct, seqK_none, aNext_ap, aBrk_ap, aCont_ap, aAsg_ap, asgK_ap, nxR_some, aDrop_ap, dropK_ap, aIfS_ap, ifK_t, ifK_f, aRet_ap, retK_ap, rtR_some, aRetN_ap, aKill_ap, List.foldl_cons, List.foldl_nil, sb_okN, bd_okN, mapR_some, aC_ap, aXT_ap, aVar_ap, varK_d, varK_x, varK_w, varK_p, varK_k, aOp_ap, opK_ap, opK2_ap, aFz_ap, aUn_ap, aB_ap, bK_ap, aAnd_ap, andK_t, andK_f, aOr_ap, orK_t, orK_f, aNot_ap, notK_ap, aTru_ap, truK_ap, aYes_ap, aAndV_ap, andVK_t, andVK_f, aOrV_ap, orVK_t, orVK_f, aNotV_ap, notVK_ap, aIf_ap, ifEK_t, ifEK_f, aNil_ap, aCons_ap, consK_ap, consK2_ap, aCB_ap, cbK_ap, aNoPart_ap, aPart_ap, partK_ap, aSl_ap, slK_ap, slK2_ap, slK3_ap, aBM_ap, bmK_ap, bmK2_ap, aBM0_ap, bmK0_ap, aPut_ap, putK_ap, putK1_ap, putK2_ap, aFor_ap, forK_n, aRng1_ap, aRng2_ap, aIt_ap, itK_l, itK_t, itK_s, itK_x, itK_c, itK_f, aCallG_ap, List.getElem?_cons_zero, List.getElem?_cons_succ, List.set_cons_zero, List.set_cons_succ, List.length_cons, List.length_nil, Nat.zero_add, Nat.reduceAdd, Option.map_some, Option.map_none, Option.bind_some, Option.bind_none, List.map_cons, List.map_nil, aName, aNameF, fz, rtv, wAt, toM, vw, frz_lst, frz_d, lvs_map, oIx2_var, ixV_w, ixV_p, ixV_k, ixL_some, lfAt_nat, lf_d, oIx2_l, oIx2_t, Y.atI_nat, putF_var, putV_w, putV_p, oEq_int, oNe_int, oLtA_int, oIntA_int, oIntA_bool, oLenV_l, oLenV_t, oI0_ap, oB0_ap, oAdd_int, rNeg, lfAt_0, stL_0, Y.atI_0, lfAt_1, stL_1, Y.atI_1, lfAt_2, stL_2, Y.atI_2, lfAt_3, stL_3, Y.atI_3, lfAt_4, stL_4, Y.atI_4, lfAt_5, stL_5, Y.atI_5, lfAt_6, stL_6, Y.atI_6, lfAt_7, stL_7, Y.atI_7, Nat.reduceLeDiff, Int.reduceLT, Int.reduceLE, List.cons_append, List.nil_append, decide_true, decide_false, if_true, if_false, sizeLine_eq, aLc_ap, c1]
    rw [dput_w (kv := putH kv a.1 (hAt kv a + 1)) rfl k2]
    simp only [aSeq_ap, seqK_nx, seqK_rt, seqK_bk, seqK_ct, seqK_none, aNext_ap, aBrk_ap, aCont_ap, aAsg_ap, asgK_ap, nxR_some, aDrop_ap, dropK_ap, aIfS_ap, ifK_t, ifK_f, aRet_ap, retK_ap, rtR_some, aRetN_ap, aKill_ap, List.foldl_cons, List.foldl_nil, sb_okN, bd_okN, mapR_some, aC_ap, aXT_ap, aVar_ap, varK_d, varK_x, varK_w, varK_p, varK_k, aOp_ap, opK_ap, opK2_ap, aFz_ap, aUn_ap, aB_ap, bK_ap, aAnd_ap, andK_t, andK_f, aOr_ap, orK_t, orK_f, aNot_ap, notK_ap, aTru_ap, truK_ap, aYes_ap, aAndV_ap, andVK_t, andVK_f, aOrV_ap, orVK_t, orVK_f, aNotV_ap, notVK_ap, aIf_ap, ifEK_t, ifEK_f, aNil_ap, aCons_ap, consK_ap, consK2_ap, aCB_ap, cbK_ap, aNoPart_ap, aPart_ap, partK_ap, aSl_ap, slK_ap, slK2_ap, slK3_ap, aBM_ap, bmK_ap, bmK2_ap, aBM0_ap, bmK0_ap, aPut_ap, putK_ap, putK1_ap, putK2_ap, aFor_ap, forK_n, aRng1_ap, aRng2_ap, aIt_ap, itK_l, itK_t, itK_s, itK_x, itK_c, itK_f, aCallG_ap, List.getElem?_cons_zero, List.getElem?_cons_succ, List.set_cons_zero, List.set_cons_succ, List.length_cons, List.length_nil, Nat.zero_add, Nat.reduceAdd, Option.map_some, Option.map_none, Option.bind_some, Option.bind_none, List.map_cons, List.map_nil, aName, aNameF, fz, rtv, wAt, toM, vw, frz_lst, frz_d, lvs_map, oIx2_var, ixV_w, ixV_p, ixV_k, ixL_some, lfAt_nat, lf_d, oIx2_l, oIx2_t, Y.atI_nat, putF_var, putV_w, putV_p, oEq_int, oNe_int, oLtA_int, oIntA_int, oIntA_bool, oLenV_l, oLenV_t, oI0_ap, oB0_ap, oAdd_int, rNeg, lfAt_0, stL_0, Y.atI_0, lfAt_1, stL_1, Y.atI_1, lfAt_2, stL_2, Y.atI_2, lfAt_3, stL_3, Y.atI_3, lfAt_4, stL_4, Y.atI_4, lfAt_5, stL_5, Y.atI_5, lfAt_6, stL_6, Y.atI_6, lfAt_7, stL_7, Y.atI_7, Nat.reduceLeDiff, Int.reduceLT, Int.reduceLE, List.cons_append, List.nil_append, decide_true, decide_false, if_true, if_false, sizeLine_eq, aLc_ap, c1]
    rfl
  · have hd : decide (((hAt kv a : Nat) : Int) = ((L.length : Nat) : Int)) = false := decide_eq_false (by omega)
    have hlt : hAt kv a < L.length := by omega
    have hs : L.set (hAt kv a) (L[hAt kv a] ++ [a]) = nextL L (hAt kv a) a := by
      unfold nextL
      rw [if_neg he, List.getElem?_eq_getElem hlt]
      rfl
    have hz : L[hAt kv a].length < 16777216 := by
      have := hl _ (List.getElem_mem hlt)
      omega
    simp only [aSeq_ap, seqK_nx, seqK_rt, seqK_bk, seqK_ct, seqK_none, aNext_ap, aBrk_ap, aCont_ap, aAsg_ap, asgK_ap, nxR_some, aDrop_ap, dropK_ap, aIfS_ap, ifK_t, ifK_f, aRet_ap, retK_ap, rtR_some, aRetN_ap, aKill_ap, List.foldl_cons, List.foldl_nil, sb_okN, bd_okN, mapR_some, aC_ap, aXT_ap, aVar_ap, varK_d, varK_x, varK_w, varK_p, varK_k, aOp_ap, opK_ap, opK2_ap, aFz_ap, aUn_ap, aB_ap, bK_ap, aAnd_ap, andK_t, andK_f, aOr_ap, orK_t, orK_f, aNot_ap, notK_ap, aTru_ap, truK_ap, aYes_ap, aAndV_ap, andVK_t, andVK_f, aOrV_ap, orVK_t, orVK_f, aNotV_ap, notVK_ap, aIf_ap, ifEK_t, ifEK_f, aNil_ap, aCons_ap, consK_ap, consK2_ap, aCB_ap, cbK_ap, aNoPart_ap, aPart_ap, partK_ap, aSl_ap, slK_ap, slK2_ap, slK3_ap, aBM_ap, bmK_ap, bmK2_ap, aBM0_ap, bmK0_ap, aPut_ap, putK_ap, putK1_ap, putK2_ap, aFor_ap, forK_n, aRng1_ap, aRng2_ap, aIt_ap, itK_l, itK_t, itK_s, itK_x, itK_c, itK_f, aCallG_ap, List.getElem?_cons_zero, List.getElem?_cons_succ, List.set_cons_zero, List.set_cons_succ, List.length_cons, List.length_nil, Nat.zero_add, Nat.reduceAdd, Option.map_some, Option.map_none, Option.bind_some, Option.bind_none, List.map_cons, List.map_nil, aName, aNameF, fz, rtv, wAt, toM, vw, frz_lst, frz_d, lvs_map, oIx2_var, ixV_w, ixV_p, ixV_k, ixL_some, lfAt_nat, lf_d, oIx2_l, oIx2_t, Y.atI_nat, putF_var, putV_w, putV_p, oEq_int, oNe_int, oLtA_int, oIntA_int, oIntA_bool, oLenV_l, oLenV_t, oI0_ap, oB0_ap, oAdd_int, rNeg, lfAt_0, stL_0, Y.atI_0, lfAt_1, stL_1, Y.atI_1, lfAt_2, stL_2, Y.atI_2, lfAt_3, stL_3, Y.atI_3, lfAt_4, stL_4, Y.atI_4, lfAt_5, stL_5, Y.atI_5, lfAt_6, stL_6, Y.atI_6, lfAt_7, stL_7, Y.atI_7, Nat.reduceLeDiff, Int.reduceLT, Int.reduceLE, List.cons_append, List.nil_append, decide_true, decide_false, if_true, if_false, sizeLine_eq, aLc_ap, aGet2_ap, g2K_ap, g2K2_ap, g2K3_ap, isDct, vw, getR_kv, oMax_2, hm]
    rw [oLenV_w (ms := layM L) rfl]
    simp only [aSeq_ap, seqK_nx, seqK_rt, seqK_bk, seqK_ct, seqK_none, aNext_ap, aBrk_ap, aCont_ap, aAsg_ap, asgK_ap, nxR_some, aDrop_ap, dropK_ap, aIfS_ap, ifK_t, ifK_f, aRet_ap, retK_ap, rtR_some, aRetN_ap, aKill_ap, List.foldl_cons, List.foldl_nil, sb_okN, bd_okN, mapR_some, aC_ap, aXT_ap, aVar_ap, varK_d, varK_x, varK_w, varK_p, varK_k, aOp_ap, opK_ap, opK2_ap, aFz_ap, aUn_ap, aB_ap, bK_ap, aAnd_ap, andK_t, andK_f, aOr_ap, orK_t, orK_f, aNot_ap, notK_ap, aTru_ap, truK_ap, aYes_ap, aAndV_ap, andVK_t, andVK_f, aOrV_ap, orVK_t, orVK_f, aNotV_ap, notVK_ap, aIf_ap, ifEK_t, ifEK_f, aNil_ap, aCons_ap, consK_ap, consK2_ap, aCB_ap, cbK_ap, aNoPart_ap, aPart_ap, partK_ap, aSl_ap, slK_ap, slK2_ap, slK3_ap, aBM_ap, bmK_ap, bmK2_ap, aBM0_ap, bmK0_ap, aPut_ap, putK_ap, putK1_ap, putK2_ap, aFor_ap, forK_n, aRng1_ap, aRng2_ap, aIt_ap, itK_l, itK_t, itK_s, itK_x, itK_c, itK_f, aCallG_ap, List.getElem?_cons_zero, List.getElem?_cons_succ, List.set_cons_zero, List.set_cons_succ, List.length_cons, List.length_nil, Nat.zero_add, Nat.reduceAdd, Option.map_some, Option.map_none, Option.bind_some, Option.bind_none, List.map_cons, List.map_nil, aName, aNameF, fz, rtv, wAt, toM, vw, frz_lst, frz_d, lvs_map, oIx2_var, ixV_w, ixV_p, ixV_k, ixL_some, lfAt_nat, lf_d, oIx2_l, oIx2_t, Y.atI_nat, putF_var, putV_w, putV_p, oEq_int, oNe_int, oLtA_int, oIntA_int, oIntA_bool, oLenV_l, oLenV_t, oI0_ap, oB0_ap, oAdd_int, rNeg, lfAt_0, stL_0, Y.atI_0, lfAt_1, stL_1, Y.atI_1, lfAt_2, stL_2, Y.atI_2, lfAt_3, stL_3, Y.atI_3, lfAt_4, stL_4, Y.atI_4, lfAt_5, stL_5, Y.atI_5, lfAt_6, stL_6, Y.atI_6, lfAt_7, stL_7, Y.atI_7, Nat.reduceLeDiff, Int.reduceLT, Int.reduceLE, List.cons_append, List.nil_append, decide_true, decide_false, if_true, if_false, sizeLine_eq, aLc_ap, List.length_map, oEq_int, hd]
    rw [sub_layL hlt]
    simp only [aSeq_ap, seqK_nx, seqK_rt, seqK_bk, seqK_ct, seqK_none, aNext_ap, aBrk_ap, aCont_ap, aAsg_ap, asgK_ap, nxR_some, aDrop_ap, dropK_ap, aIfS_ap, ifK_t, ifK_f, aRet_ap, retK_ap, rtR_some, aRetN_ap, aKill_ap, List.foldl_cons, List.foldl_nil, sb_okN, bd_okN, mapR_some, aC_ap, aXT_ap, aVar_ap, varK_d, varK_x, varK_w, varK_p, varK_k, aOp_ap, opK_ap, opK2_ap, aFz_ap, aUn_ap, aB_ap, bK_ap, aAnd_ap, andK_t, andK_f, aOr_ap, orK_t, orK_f, aNot_ap, notK_ap, aTru_ap, truK_ap, aYes_ap, aAndV_ap, andVK_t, andVK_f, aOrV_ap, orVK_t, orVK_f, aNotV_ap, notVK_ap, aIf_ap, ifEK_t, ifEK_f, aNil_ap, aCons_ap, consK_ap, consK2_ap, aCB_ap, cbK_ap, aNoPart_ap, aPart_ap, partK_ap, aSl_ap, slK_ap, slK2_ap, slK3_ap, aBM_ap, bmK_ap, bmK2_ap, aBM0_ap, bmK0_ap, aPut_ap, putK_ap, putK1_ap, putK2_ap, aFor_ap, forK_n, aRng1_ap, aRng2_ap, aIt_ap, itK_l, itK_t, itK_s, itK_x, itK_c, itK_f, aCallG_ap, List.getElem?_cons_zero, List.getElem?_cons_succ, List.set_cons_zero, List.set_cons_succ, List.length_cons, List.length_nil, Nat.zero_add, Nat.reduceAdd, Option.map_some, Option.map_none, Option.bind_some, Option.bind_none, List.map_cons, List.map_nil, aName, aNameF, fz, rtv, wAt, toM, vw, frz_lst, frz_d, lvs_map, oIx2_var, ixV_w, ixV_p, ixV_k, ixL_some, lfAt_nat, lf_d, oIx2_l, oIx2_t, Y.atI_nat, putF_var, putV_w, putV_p, oEq_int, oNe_int, oLtA_int, oIntA_int, oIntA_bool, oLenV_l, oLenV_t, oI0_ap, oB0_ap, oAdd_int, rNeg, lfAt_0, stL_0, Y.atI_0, lfAt_1, stL_1, Y.atI_1, lfAt_2, stL_2, Y.atI_2, lfAt_3, stL_3, Y.atI_3, lfAt_4, stL_4, Y.atI_4, lfAt_5, stL_5, Y.atI_5, lfAt_6, stL_6, Y.atI_6, lfAt_7, stL_7, Y.atI_7, Nat.reduceLeDiff, Int.reduceLT, Int.reduceLE, List.cons_append, List.nil_append, decide_true, decide_false, if_true, if_false, sizeLine_eq, aLc_ap, tyA, kid, layM_at hlt, beq_self_eq_true]
    rw [app_lay (by simp) hlt hz, hs]
    simp only [aSeq_ap, seqK_nx, seqK_rt, seqK_bk, seqK_ct, seqK_none, aNext_ap, aBrk_ap, aCont_ap, aAsg_ap, asgK_ap, nxR_some, aDrop_ap, dropK_ap, aIfS_ap, ifK_t, ifK_f, aRet_ap, retK_ap, rtR_some, aRetN_ap, aKill_ap, List.foldl_cons, List.foldl_nil, sb_okN, bd_okN, mapR_some, aC_ap, aXT_ap, aVar_ap, varK_d, varK_x, varK_w, varK_p, varK_k, aOp_ap, opK_ap, opK2_ap, aFz_ap, aUn_ap, aB_ap, bK_ap, aAnd_ap, andK_t, andK_f, aOr_ap, orK_t, orK_f, aNot_ap, notK_ap, aTru_ap, truK_ap, aYes_ap, aAndV_ap, andVK_t, andVK_f, aOrV_ap, orVK_t, orVK_f, aNotV_ap, notVK_ap, aIf_ap, ifEK_t, ifEK_f, aNil_ap, aCons_ap, consK_ap, consK2_ap, aCB_ap, cbK_ap, aNoPart_ap, aPart_ap, partK_ap, aSl_ap, slK_ap, slK2_ap, slK3_ap, aBM_ap, bmK_ap, bmK2_ap, aBM0_ap, bmK0_ap, aPut_ap, putK_ap, putK1_ap, putK2_ap, aFor_ap, forK_n, aRng1_ap, aRng2_ap, aIt_ap, itK_l, itK_t, itK_s, itK_x, itK_c, itK_f, aCallG_ap, List.getElem?_cons_zero, List.getElem?_cons_succ, List.set_cons_zero, List.set_cons_succ, List.length_cons, List.length_nil, Nat.zero_add, Nat.reduceAdd, Option.map_some, Option.map_none, Option.bind_some, Option.bind_none, List.map_cons, List.map_nil, aName, aNameF, fz, rtv, wAt, toM, vw, frz_lst, frz_d, lvs_map, oIx2_var, ixV_w, ixV_p, ixV_k, ixL_some, lfAt_nat, lf_d, oIx2_l, oIx2_t, Y.atI_nat, putF_var, putV_w, putV_p, oEq_int, oNe_int, oLtA_int, oIntA_int, oIntA_bool, oLenV_l, oLenV_t, oI0_ap, oB0_ap, oAdd_int, rNeg, lfAt_0, stL_0, Y.atI_0, lfAt_1, stL_1, Y.atI_1, lfAt_2, stL_2, Y.atI_2, lfAt_3, stL_3, Y.atI_3, lfAt_4, stL_4, Y.atI_4, lfAt_5, stL_5, Y.atI_5, lfAt_6, stL_6, Y.atI_6, lfAt_7, stL_7, Y.atI_7, Nat.reduceLeDiff, Int.reduceLT, Int.reduceLE, List.cons_append, List.nil_append, decide_true, decide_false, if_true, if_false, sizeLine_eq, aLc_ap, c1]
    rw [dput_w (kv := kv) rfl k1]
    simp only [aSeq_ap, seqK_nx, seqK_rt, seqK_bk, seqK_ct, seqK_none, aNext_ap, aBrk_ap, aCont_ap, aAsg_ap, asgK_ap, nxR_some, aDrop_ap, dropK_ap, aIfS_ap, ifK_t, ifK_f, aRet_ap, retK_ap, rtR_some, aRetN_ap, aKill_ap, List.foldl_cons, List.foldl_nil, sb_okN, bd_okN, mapR_some, aC_ap, aXT_ap, aVar_ap, varK_d, varK_x, varK_w, varK_p, varK_k, aOp_ap, opK_ap, opK2_ap, aFz_ap, aUn_ap, aB_ap, bK_ap, aAnd_ap, andK_t, andK_f, aOr_ap, orK_t, orK_f, aNot_ap, notK_ap, aTru_ap, truK_ap, aYes_ap, aAndV_ap, andVK_t, andVK_f, aOrV_ap, orVK_t, orVK_f, aNotV_ap, notVK_ap, aIf_ap, ifEK_t, ifEK_f, aNil_ap, aCons_ap, consK_ap, consK2_ap, aCB_ap, cbK_ap, aNoPart_ap, aPart_ap, partK_ap, aSl_ap, slK_ap, slK2_ap, slK3_ap, aBM_ap, bmK_ap, bmK2_ap, aBM0_ap, bmK0_ap, aPut_ap, putK_ap, putK1_ap, putK2_ap, aFor_ap, forK_n, aRng1_ap, aRng2_ap, aIt_ap, itK_l, itK_t, itK_s, itK_x, itK_c, itK_f, aCallG_ap, List.getElem?_cons_zero, List.getElem?_cons_succ, List.set_cons_zero, List.set_cons_succ, List.length_cons, List.length_nil, Nat.zero_add, Nat.reduceAdd, Option.map_some, Option.map_none, Option.bind_some, Option.bind_none, List.map_cons, List.map_nil, aName, aNameF, fz, rtv, wAt, toM, vw, frz_lst, frz_d, lvs_map, oIx2_var, ixV_w, ixV_p, ixV_k, ixL_some, lfAt_nat, lf_d, oIx2_l, oIx2_t, Y.atI_nat, putF_var, putV_w, putV_p, oEq_int, oNe_int, oLtA_int, oIntA_int, oIntA_bool, oLenV_l, oLenV_t, oI0_ap, oB0_ap, oAdd_int, rNeg, lfAt_0, stL_0, Y.atI_0, lfAt_1, stL_1, Y.atI_1, lfAt_2, stL_2, Y.atI_2, lfAt_3, stL_3, Y.atI_3, lfAt_4, stL_4, Y.atI_4, lfAt_5, stL_5, Y.atI_5, lfAt_6, stL_6, Y.atI_6, lfAt_7, stL_7, Y.atI_7, Nat.reduceLeDiff, Int.reduceLT, Int.reduceLE, List.cons_append, List.nil_append, decide_true, decide_false, if_true, if_false, sizeLine_eq, aLc_ap, c1]
    rw [dput_w (kv := putH kv a.1 (hAt kv a + 1)) rfl k2]
    simp only [aSeq_ap, seqK_nx, seqK_rt, seqK_bk, seqK_ct, seqK_none, aNext_ap, aBrk_ap, aCont_ap, aAsg_ap, asgK_ap, nxR_some, aDrop_ap, dropK_ap, aIfS_ap, ifK_t, ifK_f, aRet_ap, retK_ap, rtR_some, aRetN_ap, aKill_ap, List.foldl_cons, List.foldl_nil, sb_okN, bd_okN, mapR_some, aC_ap, aXT_ap, aVar_ap, varK_d, varK_x, varK_w, varK_p, varK_k, aOp_ap, opK_ap, opK2_ap, aFz_ap, aUn_ap, aB_ap, bK_ap, aAnd_ap, andK_t, andK_f, aOr_ap, orK_t, orK_f, aNot_ap, notK_ap, aTru_ap, truK_ap, aYes_ap, aAndV_ap, andVK_t, andVK_f, aOrV_ap, orVK_t, orVK_f, aNotV_ap, notVK_ap, aIf_ap, ifEK_t, ifEK_f, aNil_ap, aCons_ap, consK_ap, consK2_ap, aCB_ap, cbK_ap, aNoPart_ap, aPart_ap, partK_ap, aSl_ap, slK_ap, slK2_ap, slK3_ap, aBM_ap, bmK_ap, bmK2_ap, aBM0_ap, bmK0_ap, aPut_ap, putK_ap, putK1_ap, putK2_ap, aFor_ap, forK_n, aRng1_ap, aRng2_ap, aIt_ap, itK_l, itK_t, itK_s, itK_x, itK_c, itK_f, aCallG_ap, List.getElem?_cons_zero, List.getElem?_cons_succ, List.set_cons_zero, List.set_cons_succ, List.length_cons, List.length_nil, Nat.zero_add, Nat.reduceAdd, Option.map_some, Option.map_none, Option.bind_some, Option.bind_none, List.map_cons, List.map_nil, aName, aNameF, fz, rtv, wAt, toM, vw, frz_lst, frz_d, lvs_map, oIx2_var, ixV_w, ixV_p, ixV_k, ixL_some, lfAt_nat, lf_d, oIx2_l, oIx2_t, Y.atI_nat, putF_var, putV_w, putV_p, oEq_int, oNe_int, oLtA_int, oIntA_int, oIntA_bool, oLenV_l, oLenV_t, oI0_ap, oB0_ap, oAdd_int, rNeg, lfAt_0, stL_0, Y.atI_0, lfAt_1, stL_1, Y.atI_1, lfAt_2, stL_2, Y.atI_2, lfAt_3, stL_3, Y.atI_3, lfAt_4, stL_4, Y.atI_4, lfAt_5, stL_5, Y.atI_5, lfAt_6, stL_6, Y.atI_6, lfAt_7, stL_7, Y.atI_7, Nat.reduceLeDiff, Int.reduceLT, Int.reduceLE, List.cons_append, List.nil_append, decide_true, decide_false, if_true, if_false, sizeLine_eq, aLc_ap, c1]
    rfl

end Lw

namespace Lw
open PySem PySem.Spec PyProof.Rows L2 Y PySem.W TL
/-! ### lists up to swaps of neighbours that are apart -/
section
variable {α : Type} {ap : α → α → Bool}
inductive Tq (ap : α → α → Bool) : List α → List α → Prop
  | nil : Tq ap [] []
  | cons (a : α) {x y : List α} : Tq ap x y → Tq ap (a :: x) (a :: y)
  | swap {a b : α} (x : List α) : ap a b = true → Tq ap (a :: b :: x) (b :: a :: x)
  | trans {x y z : List α} : Tq ap x y → Tq ap y z → Tq ap x z
theorem Tq.refl : ∀ x : List α, Tq ap x x
  | [] => .nil
  | a :: x => .cons a (Tq.refl x)
theorem Tq.symm (hs : ∀ a b, ap a b = ap b a) {x y : List α} (h : Tq ap x y) : Tq ap y x := by
  induction h with
  | nil => exact .nil
  | cons a _ ih => exact .cons a ih
  | swap x h => exact .swap x (by rw [hs]; exact h)
  | trans _ _ ih1 ih2 => exact .trans ih2 ih1
theorem Tq.pre {x y : List α} (h : Tq ap x y) : ∀ p : List α, Tq ap (p ++ x) (p ++ y)
  | [] => h
  | a :: p => .cons a (Tq.pre h p)
theorem Tq.perm {x y : List α} (h : Tq ap x y) : x.Perm y := by
  induction h with
  | nil => exact .nil
  | cons a _ ih => exact .cons a ih
  | swap x h => exact .swap _ _ x
  | trans _ _ ih1 ih2 => exact .trans ih1 ih2
theorem Tq.front {a : α} {q2 : List α} : ∀ q1 : List α, (∀ f ∈ q1, ap f a = true) → Tq ap (q1 ++ a :: q2) (a :: (q1 ++ q2))
  | [], _ => Tq.refl _
  | f :: q1, h => .trans (.cons f (Tq.front q1 fun g hg => h g (List.mem_cons_of_mem _ hg))) (.swap _ (h f (List.mem_cons_self ..)))
/-- a can be moved to the front of the list -/
inductive Rem (ap : α → α → Bool) (a : α) : List α → List α → Prop
  | here (x : List α) : Rem ap a (a :: x) x
  | there {b : α} {x x' : List α} : ap b a = true → Rem ap a x x' → Rem ap a (b :: x) (b :: x')
theorem Rem.tq {a : α} {x x' : List α} (h : Rem ap a x x') : Tq ap x (a :: x') := by
  induction h with
  | here x => exact Tq.refl _
  | there hb _ ih => exact .trans (.cons _ ih) (.swap _ hb)
theorem Rem.tr (hs : ∀ a b, ap a b = ap b a) {x y : List α} (h : Tq ap x y) : ∀ {a : α} {x' : List α}, Rem ap a x x' → ∃ y', Rem ap a y y' ∧ Tq ap x' y' := by
  induction h with
  | nil => intro a x' r; cases r
  | cons c h ih =>
    intro a x' r
    cases r with
    | here => exact ⟨_, .here _, h⟩
    | there hb r =>
      obtain ⟨y', r', t⟩ := ih r
      exact ⟨_, .there hb r', .cons _ t⟩
  | swap x h =>
    rename_i c d
    intro a x' r
    cases r with
    | here => exact ⟨_, .there (by rw [hs]; exact h) (.here _), Tq.refl _⟩
    | there hb r =>
      cases r with
      | here => exact ⟨_, .here _, Tq.refl _⟩
      | there hb2 r => exact ⟨_, .there hb2 (.there hb r), .swap _ h⟩
  | trans _ _ ih1 ih2 =>
    intro a x' r
    obtain ⟨y', r', t⟩ := ih1 r
    obtain ⟨z', r2, t2⟩ := ih2 r'
    exact ⟨z', r2, .trans t t2⟩
theorem Rem.det (hr : ∀ a, ap a a = false) {a : α} {x x' x2 : List α} (h : Rem ap a x x') (g : Rem ap a x x2) : x' = x2 := by
  induction h generalizing x2 with
  | here x => cases g with
    | here => rfl
    | there hb _ => rw [hr] at hb; cases hb
  | there hb r ih => cases g with
    | here => rw [hr] at hb; cases hb
    | there _ g => rw [ih g]
theorem Rem.len {a : α} {x x' : List α} (h : Rem ap a x x') : x.length = x'.length + 1 := by
  have := h.tq.perm.length_eq
  rwa [List.length_cons] at this
/-! with heights -/
def Vq (ap : α → α → Bool) (q : List (α × Nat)) : Prop := q.Pairwise fun e f => ap e.1 f.1 = true ∨ e.2 < f.2
theorem Vq.tq (hs : ∀ a b, ap a b = ap b a) : ∀ (s q : List (α × Nat)), q.Perm s → Vq ap q → Vq ap s → Tq ap (q.map (·.1)) (s.map (·.1))
  | [], q, p, _, _ => by rw [List.Perm.eq_nil p]; exact .nil
  | e :: s, q, p, vq, vs => by
    obtain ⟨q1, q2, rfl⟩ := List.append_of_mem (p.symm.mem_iff.mp (List.mem_cons_self ..) : e ∈ q)
    have p2 : (q1 ++ q2).Perm s := (List.Perm.cons_inv (List.perm_middle.symm.trans p))
    obtain ⟨v1, v2, v3⟩ := List.pairwise_append.mp vq
    obtain ⟨w1, w2⟩ := List.pairwise_cons.mp vs
    have h : ∀ f ∈ q1, ap f.1 e.1 = true := fun f hf => by
      rcases v3 f hf e (List.mem_cons_self ..) with g | g
      · exact g
      · rcases w1 f (p2.mem_iff.mp (List.mem_append_left _ hf)) with g2 | g2
        · rw [hs]; exact g2
        · omega
    have ih := Vq.tq hs s (q1 ++ q2) p2 (List.pairwise_append.mpr ⟨v1, (List.pairwise_cons.mp v2).2, fun a ha b hb => v3 a ha b (List.mem_cons_of_mem _ hb)⟩) w2
    rw [List.map_append, List.map_cons, List.map_cons]
    refine .trans (Tq.front _ fun f hf => ?_) (.cons _ ?_)
    · obtain ⟨g, hg, rfl⟩ := List.mem_map.mp hf
      exact h g hg
    · rw [← List.map_append]
      exact ih
end
/-! heights of the law -/
theorem apartB_symm (a b : Act) : apartB a b = apartB b a := by
  unfold apartB
  rw [show (b.1 == a.1) = (a.1 == b.1) from BEq.comm, show (b.2.1 == a.1) = (a.1 == b.2.1) from BEq.comm, show (b.1 == a.2.1) = (a.2.1 == b.1) from BEq.comm, show (b.2.1 == a.2.1) = (a.2.1 == b.2.1) from BEq.comm]
  cases (a.1 == b.1) <;> cases (a.1 == b.2.1) <;> cases (a.2.1 == b.1) <;> cases (a.2.1 == b.2.1) <;> rfl
theorem apartB_self (a : Act) : apartB a a = false := by
  unfold apartB
  rw [beq_self_eq_true]
  rfl
theorem le_maxN {l : List Nat} {x : Nat} (h : x ∈ l) : x ≤ maxN l := by
  have key : ∀ (l : List Nat) (b : Nat), b ≤ l.foldl max b ∧ ∀ x ∈ l, x ≤ l.foldl max b := by
    intro l
    induction l with
    | nil => intro b; exact ⟨Nat.le_refl _, fun _ h => nomatch h⟩
    | cons a r ih =>
      intro b
      obtain ⟨h1, h2⟩ := ih (max b a)
      refine ⟨Nat.le_trans (Nat.le_max_left b a) h1, fun x hx => ?_⟩
      rcases List.mem_cons.mp hx with rfl | hx
      · exact Nat.le_trans (Nat.le_max_right ..) h1
      · exact h2 x hx
  exact (key l 0).2 x h
theorem maxN_sub {l m : List Nat} (h : ∀ x ∈ l, x ∈ m) : maxN l ≤ maxN m := maxN_le fun x hx => le_maxN (h x hx)
theorem maxN_perm {l m : List Nat} (h : l.Perm m) : maxN l = maxN m := Nat.le_antisymm (maxN_sub fun _ hx => h.mem_iff.mp hx) (maxN_sub fun _ hx => h.mem_iff.mpr hx)
theorem maxN_snoc (l : List Nat) (x : Nat) : maxN (l ++ [x]) = max (maxN l) x := by
  refine Nat.le_antisymm (maxN_le fun y hy => ?_) (Nat.max_le.mpr ⟨maxN_sub fun y hy => List.mem_append_left _ hy, le_maxN (List.mem_append_right _ (List.mem_singleton.mpr rfl))⟩)
  rcases List.mem_append.mp hy with h | h
  · exact Nat.le_trans (le_maxN h) (Nat.le_max_left ..)
  · rw [List.mem_singleton.mp h]; exact Nat.le_max_right ..
theorem lawH_perm {pr pr' : List (Act × Nat)} (h : pr.Perm pr') (a : Act) : lawH pr a = lawH pr' a := by
  unfold lawH
  rw [maxN_perm ((h.filter _).map _)]
def stepP (pr : List (Act × Nat)) (a : Act) : List (Act × Nat) := pr ++ [(a, lawH pr a)]
theorem lawH_apart {pr : List (Act × Nat)} {a b : Act} {n : Nat} (h : apartB a b = true) : lawH (pr ++ [(a, n)]) b = lawH pr b := by
  unfold lawH
  rw [List.filter_append, List.filter_cons_of_neg (by rw [h]; decide), List.filter_nil, List.append_nil]
theorem foldP_perm {x y : List Act} (h : Tq apartB x y) : ∀ {pr pr' : List (Act × Nat)}, pr.Perm pr' → (x.foldl stepP pr).Perm (y.foldl stepP pr') := by
  have hp : ∀ (a : Act) {pr pr' : List (Act × Nat)}, pr.Perm pr' → (stepP pr a).Perm (stepP pr' a) := fun a pr pr' h => by
    unfold stepP
    rw [lawH_perm h]
    exact h.append_right _
  have hx : ∀ (x : List Act) {pr pr' : List (Act × Nat)}, pr.Perm pr' → (x.foldl stepP pr).Perm (x.foldl stepP pr') := by
    intro x
    induction x with
    | nil => intro _ _ h; exact h
    | cons a x ih => intro _ _ h; exact ih (hp a h)
  induction h with
  | nil => intro _ _ h; exact h
  | cons a _ ih => intro _ _ h; exact ih (hp a h)
  | swap x h =>
    rename_i a b
    intro pr pr' g
    refine hx x ?_
    unfold stepP
    rw [lawH_apart h, lawH_apart (by rw [apartB_symm]; exact h), lawH_perm g, lawH_perm g (a := b), List.append_assoc, List.append_assoc]
    exact g.append (.swap _ _ [])
  | trans _ _ ih1 ih2 => intro _ _ h; exact (ih1 h).trans (ih2 (.refl _))
theorem pairs_perm {x y : List Act} (h : Tq apartB x y) : (pairs x).Perm (pairs y) := foldP_perm h (.refl _)
theorem pairs_V (r : List Act) : Vq apartB (pairs r) := snoc_ind (P := fun r => Vq apartB (pairs r)) .nil (fun r a ih => by
  rw [pairs_snoc]
  refine List.pairwise_append.mpr ⟨ih, List.pairwise_singleton .., fun e he f hf => ?_⟩
  rw [List.mem_singleton.mp hf]
  show apartB e.1 a = true ∨ e.2 < lawH (pairs r) a
  by_cases h : apartB e.1 a = true
  · exact .inl h
  · refine .inr ?_
    unfold lawH
    have : e.2 ≤ maxN (((pairs r).filter fun e => !apartB e.1 a).map (·.2)) := le_maxN (List.mem_map.mpr ⟨e, List.mem_filter.mpr ⟨he, by simp [h]⟩, rfl⟩)
    omega) r
theorem pairs_pos (r : List Act) : ∀ e ∈ pairs r, 1 ≤ e.2 := snoc_ind (P := fun r => ∀ e ∈ pairs r, 1 ≤ e.2) (fun _ h => nomatch h) (fun r a ih e he => by
  rw [pairs_snoc] at he
  rcases List.mem_append.mp he with h | h
  · exact ih e h
  · rw [List.mem_singleton.mp h]
    show 1 ≤ lawH (pairs r) a
    unfold lawH
    omega) r
/-! sorting actions -/
theorem keyToks_act (a : Act) : keyToks (actD a) = [.inl 1, .inr a.1.cps.toList, .inl 1, .inr a.2.1.cps.toList, .inl 1, .inr a.2.2.cps.toList, .inl 0] := by
  unfold actD
  simp [keyToks, keyToksAll]
theorem keyToks_inj {a b : Act} (h : keyToks (actD a) = keyToks (actD b)) : a = b := by
  rw [keyToks_act, keyToks_act] at h
  injection h with _ h; injection h with h1 h; injection h with _ h; injection h with h2 h; injection h with _ h; injection h with h3 h
  exact Prod.ext (str_of_cps (Sum.inr.inj h1)) (Prod.ext (str_of_cps (Sum.inr.inj h2)) (str_of_cps (Sum.inr.inj h3)))
def actLt (a b : Act) : Bool := dataLt (actD a) (actD b)
theorem actLt_irr (a : Act) : actLt a a = false := lex_irrefl _
theorem actLt_trans {a b c : Act} (h : actLt a b = true) (g : actLt b c = true) : actLt a c = true := lex_trans _ _ _ h g
theorem actLt_tot {a b : Act} (h : actLt a b = false) (g : actLt b a = false) : a = b := keyToks_inj (lex_total _ _ h g)
theorem actLe_eq (a b : Act) : actLe a b = !actLt b a := by
  unfold actLe actLt
  rw [dataLe_eq]
  rfl
theorem actLt_asym {a b : Act} (h : actLt a b = true) : actLt b a = false := by
  cases g : actLt b a with
  | false => rfl
  | true => have := actLt_trans h g; rw [actLt_irr] at this; cases this
theorem actLe_trans (a b c : Act) (h : actLe a b = true) (g : actLe b c = true) : actLe a c = true := by
  rw [actLe_eq, Bool.not_eq_true'] at h g ⊢
  cases k : actLt c a with
  | false => rfl
  | true =>
    rcases (lex_negTrans (O := itemOrd) (keyToks (actD c)) (keyToks (actD b)) (keyToks (actD a)) k : actLt c b = true ∨ actLt b a = true) with k | k
    · exact absurd (show actLt c b = true from k) (by rw [g]; decide)
    · exact absurd (show actLt b a = true from k) (by rw [h]; decide)
theorem actLe_total (a b : Act) : (actLe a b || actLe b a) = true := by
  rw [actLe_eq, actLe_eq]
  cases h : actLt b a with
  | false => rfl
  | true => rw [actLt_asym h]; rfl
theorem actLe_anti (a b : Act) (h : actLe a b = true) (g : actLe b a = true) : a = b := by
  rw [actLe_eq, Bool.not_eq_true'] at h g
  exact actLt_tot g h
theorem sortA_perm' {l m : List Act} (h : l.Perm m) : sortA l = sortA m := by
  unfold sortA
  exact Srt.the_of_perm actLe actLe_trans actLe_total actLe_anti ((List.mergeSort_perm l _).trans h) (List.pairwise_mergeSort actLe_trans actLe_total l)
theorem sortA_p (l : List Act) : (sortA l).Perm l := List.mergeSort_perm l _
theorem layAt_perm {pr pr' : List (Act × Nat)} (h : pr.Perm pr') (n : Nat) : layAt pr n = layAt pr' n := by
  unfold layAt
  exact sortA_perm' ((h.filter _).map _)
theorem layers_tq {x y : List Act} (h : Tq apartB x y) : lawLayers x = lawLayers y := by
  unfold lawLayers
  have p := pairs_perm h
  rw [maxN_perm (p.map _)]
  exact List.map_congr_left fun i _ => layAt_perm p _
/-! the layers in a row -/
def rowP (pr : List (Act × Nat)) (m : Nat) : List (Act × Nat) := (List.range m).flatMap fun i => (layAt pr (i + 1)).map fun a => (a, i + 1)
theorem rowP_succ (pr : List (Act × Nat)) (m : Nat) : rowP pr (m + 1) = rowP pr m ++ (layAt pr (m + 1)).map fun a => (a, m + 1) := by
  unfold rowP
  rw [List.range_succ, List.flatMap_append]
  simp
theorem lay_perm (pr : List (Act × Nat)) (n : Nat) : ((layAt pr n).map fun a => (a, n)).Perm (pr.filter fun e => decide (e.2 = n)) := by
  unfold layAt
  refine ((sortA_p _).map _).trans ?_
  rw [List.map_map]
  have : (pr.filter fun e => decide (e.2 = n)).map ((fun a => (a, n)) ∘ (·.1)) = pr.filter fun e => decide (e.2 = n) := by
    conv => rhs; rw [← List.map_id (pr.filter fun e => decide (e.2 = n))]
    refine List.map_congr_left fun e he => ?_
    have := of_decide_eq_true (List.mem_filter.mp he).2
    show (e.1, n) = e
    rw [← this]
  rw [this]
theorem rowP_perm (pr : List (Act × Nat)) (hp : ∀ e ∈ pr, 1 ≤ e.2) : ∀ m, (rowP pr m).Perm (pr.filter fun e => decide (e.2 ≤ m))
  | 0 => by
    have : (pr.filter fun e => decide (e.2 ≤ 0)) = [] := List.filter_eq_nil_iff.mpr fun e he h => by
      have := hp e he
      have := of_decide_eq_true h
      omega
    rw [this]
    exact .nil
  | m + 1 => by
    rw [rowP_succ]
    have h := List.filter_append_perm (fun e : Act × Nat => decide (e.2 ≤ m)) (pr.filter fun e => decide (e.2 ≤ m + 1))
    rw [List.filter_filter, List.filter_filter] at h
    refine List.Perm.trans ?_ h
    have e1 : (pr.filter fun e => decide (e.2 ≤ m) && decide (e.2 ≤ m + 1)) = pr.filter fun e => decide (e.2 ≤ m) := List.filter_congr fun e _ => by
      rw [Bool.eq_iff_iff, Bool.and_eq_true, decide_eq_true_eq, decide_eq_true_eq]
      omega
    have e2 : (pr.filter fun e => (!decide (e.2 ≤ m)) && decide (e.2 ≤ m + 1)) = pr.filter fun e => decide (e.2 = m + 1) := List.filter_congr fun e _ => by
      rw [Bool.eq_iff_iff, Bool.and_eq_true, Bool.not_eq_true', decide_eq_false_iff_not, decide_eq_true_eq, decide_eq_true_eq]
      omega
    rw [e1, e2]
    exact (rowP_perm pr hp m).append (lay_perm pr (m + 1))
theorem lay_V {pr : List (Act × Nat)} (v : Vq apartB pr) (n : Nat) : Vq apartB ((layAt pr n).map fun a => (a, n)) := by
  have h1 : (pr.filter fun e => decide (e.2 = n)).Pairwise fun e f => apartB e.1 f.1 = true := by
    refine List.Pairwise.imp_of_mem ?_ (v.sublist List.filter_sublist)
    intro e f he hf h
    have := of_decide_eq_true (List.mem_filter.mp he).2
    have := of_decide_eq_true (List.mem_filter.mp hf).2
    rcases h with h | h
    · exact h
    · omega
  have h2 := ((lay_perm pr n).pairwise_iff (R := fun e f : Act × Nat => apartB e.1 f.1 = true) fun {x y} h => by rw [apartB_symm]; exact h).mpr h1
  exact h2.imp fun h => .inl h
theorem rowP_V {pr : List (Act × Nat)} (v : Vq apartB pr) (hp : ∀ e ∈ pr, 1 ≤ e.2) : ∀ m, Vq apartB (rowP pr m)
  | 0 => .nil
  | m + 1 => by
    rw [rowP_succ]
    refine List.pairwise_append.mpr ⟨rowP_V v hp m, lay_V v _, fun e he f hf => .inr ?_⟩
    have h1 := of_decide_eq_true (List.mem_filter.mp ((rowP_perm pr hp m).mem_iff.mp he)).2
    obtain ⟨a, _, rfl⟩ := List.mem_map.mp hf
    show e.2 < m + 1
    omega
theorem row_tq (r : List Act) : Tq apartB r (lawLayers r).flatten := by
  have hp := pairs_pos r
  have hv := pairs_V r
  have p := rowP_perm (pairs r) hp (maxN ((pairs r).map (·.2)))
  have e : ((pairs r).filter fun e => decide (e.2 ≤ maxN ((pairs r).map (·.2)))) = pairs r := List.filter_eq_self.mpr fun e he => decide_eq_true (le_maxN (List.mem_map.mpr ⟨e, he, rfl⟩))
  rw [e] at p
  have t := Vq.tq apartB_symm _ _ p.symm hv (rowP_V hv hp _)
  rw [pairs_fst] at t
  have e2 : (rowP (pairs r) (maxN ((pairs r).map (·.2)))).map (·.1) = (lawLayers r).flatten := by
    unfold rowP lawLayers
    rw [List.map_flatMap, ← List.flatMap_def]
    congr 1
    funext i
    rw [List.map_map]
    exact List.map_id _
  rwa [e2] at t
theorem layers_iff {x y : List Act} : lawLayers x = lawLayers y ↔ Tq apartB x y := ⟨fun h => by
  have t1 := row_tq x
  rw [h] at t1
  exact t1.trans ((row_tq y).symm apartB_symm), layers_tq⟩
theorem layers_row (r : List Act) : lawLayers (lawLayers r).flatten = lawLayers r := (layers_tq (row_tq r)).symm

end Lw

namespace Lw
open PySem PySem.Spec PyProof.Rows L2 Y PySem.W TL
/-! ### the least order, plainly -/
def freeB (l : List Act) (i : Nat) : Bool := match l[i]? with
  | some a => (l.take i).all fun b => apartB b a
  | none => false
def ltAt (l : List Act) (i j : Nat) : Bool := match l[i]?, l[j]? with
  | some a, some b => actLt a b
  | _, _ => false
def bestTo (l : List Act) : Nat → Option Nat
  | 0 => none
  | i + 1 => if freeB l i = true then (match bestTo l i with
    | none => some i
    | some b => if ltAt l i b = true then some i else some b) else bestTo l i
def freeTo (l : List Act) : Nat → List Nat
  | 0 => []
  | i + 1 => freeTo l i ++ if freeB l i = true then [i] else []
theorem freeB_lt {l : List Act} {i : Nat} (h : freeB l i = true) : i < l.length := by
  unfold freeB at h
  cases g : l[i]? with
  | none => rw [g] at h; cases h
  | some a => exact (List.getElem?_eq_some_iff.mp g).1
theorem bestTo_spec (l : List Act) : ∀ n, (bestTo l n = none ∧ ∀ i < n, freeB l i = false) ∨ ∃ b, bestTo l n = some b ∧ b < n ∧ freeB l b = true ∧ ∀ i < n, freeB l i = true → ltAt l i b = false
  | 0 => .inl ⟨rfl, fun i h => absurd h (Nat.not_lt_zero _)⟩
  | n + 1 => by
    unfold bestTo
    by_cases hf : freeB l n = true
    · rw [if_pos hf]
      rcases bestTo_spec l n with ⟨h1, h2⟩ | ⟨b, h1, h2, h3, h4⟩
      · rw [h1]
        refine .inr ⟨n, rfl, Nat.lt_succ_self _, hf, fun i hi hh => ?_⟩
        by_cases e : i = n
        · subst e
          unfold ltAt
          rw [List.getElem?_eq_getElem (freeB_lt hf)]
          exact actLt_irr _
        · rw [h2 i (by omega)] at hh; cases hh
      · rw [h1]
        show (if ltAt l n b = true then some n else some b) = none ∧ _ ∨ _
        by_cases hl : ltAt l n b = true
        · refine .inr ⟨n, if_pos hl, Nat.lt_succ_self _, hf, fun i hi hh => ?_⟩
          have ln := List.getElem?_eq_getElem (freeB_lt hf)
          have lb := List.getElem?_eq_getElem (freeB_lt h3)
          have li := List.getElem?_eq_getElem (freeB_lt hh)
          unfold ltAt at hl ⊢
          rw [ln, lb] at hl
          rw [li, ln]
          dsimp only at hl ⊢
          by_cases e : i = n
          · subst e; exact actLt_irr _
          · have := h4 i (by omega) hh
            unfold ltAt at this
            rw [li, lb] at this
            dsimp only at this
            have ln' := freeB_lt hf
            have li' := freeB_lt hh
            cases g : actLt (l[i]'li') (l[n]'ln') with
            | false => rfl
            | true => rw [actLt_trans g hl] at this; cases this
        · refine .inr ⟨b, if_neg hl, by omega, h3, fun i hi hh => ?_⟩
          by_cases e : i = n
          · subst e
            cases g : ltAt l i b with
            | false => rfl
            | true => exact absurd g hl
          · exact h4 i (by omega) hh
    · rw [if_neg hf]
      have hf : freeB l n = false := by cases g : freeB l n with
        | false => rfl
        | true => exact absurd g hf
      rcases bestTo_spec l n with ⟨h1, h2⟩ | ⟨b, h1, h2, h3, h4⟩
      · refine .inl ⟨h1, fun i hi => ?_⟩
        by_cases e : i = n
        · subst e; exact hf
        · exact h2 i (by omega)
      · refine .inr ⟨b, h1, by omega, h3, fun i hi hh => ?_⟩
        by_cases e : i = n
        · subst e; rw [hf] at hh; cases hh
        · exact h4 i (by omega) hh
def loN : Nat → List Act → List Act
  | 0, _ => []
  | n + 1, l => match bestTo l l.length with
    | some k => (match l[k]? with
      | some a => a :: loN n (l.eraseIdx k)
      | none => [])
    | none => []
theorem loN_some {n k : Nat} {l : List Act} {a : Act} (h1 : bestTo l l.length = some k) (h2 : l[k]? = some a) : loN (n + 1) l = a :: loN n (l.eraseIdx k) := by
  show (match bestTo l l.length with
    | some k => (match l[k]? with
      | some a => a :: loN n (l.eraseIdx k)
      | none => [])
    | none => []) = _
  rw [h1]
  dsimp only
  rw [h2]
def lo (l : List Act) : List Act := loN l.length l
theorem rem_free {a : Act} {x x' : List Act} (h : Rem apartB a x x') : ∃ k, freeB x k = true ∧ x[k]? = some a ∧ x' = x.eraseIdx k := by
  induction h with
  | here x => exact ⟨0, rfl, rfl, rfl⟩
  | there hb _ ih =>
    rename_i b x x' _
    obtain ⟨k, h1, h2, h3⟩ := ih
    refine ⟨k + 1, ?_, by rw [List.getElem?_cons_succ]; exact h2, by rw [h3]; rfl⟩
    unfold freeB at h1 ⊢
    rw [List.getElem?_cons_succ, h2]
    rw [h2] at h1
    dsimp only at h1 ⊢
    rw [List.take_succ_cons, List.all_cons, hb, h1]
    rfl
theorem free_rem {a : Act} : ∀ {x : List Act} {k : Nat}, freeB x k = true → x[k]? = some a → Rem apartB a x (x.eraseIdx k)
  | [], k, h, _ => absurd (freeB_lt h) (Nat.not_lt_zero _)
  | b :: x, 0, h, g => by
    rw [List.getElem?_cons_zero] at g
    cases g
    exact .here x
  | b :: x, k + 1, h, g => by
    rw [List.getElem?_cons_succ] at g
    unfold freeB at h
    rw [List.getElem?_cons_succ, g] at h
    dsimp only at h
    rw [List.take_succ_cons, List.all_cons, Bool.and_eq_true] at h
    exact .there h.1 (free_rem (by unfold freeB; rw [g]; exact h.2) g)
theorem lo_cons {l : List Act} (h : l ≠ []) : ∃ k a, bestTo l l.length = some k ∧ freeB l k = true ∧ l[k]? = some a ∧ lo l = a :: lo (l.eraseIdx k) ∧ (∀ i b, freeB l i = true → l[i]? = some b → actLt b a = false) := by
  have h0 : freeB l 0 = true := by
    cases l with
    | nil => exact absurd rfl h
    | cons a x => rfl
  rcases bestTo_spec l l.length with ⟨_, h2⟩ | ⟨k, h1, h2, h3, h4⟩
  · rw [h2 0 (freeB_lt h0)] at h0; cases h0
  · have lk := List.getElem?_eq_getElem h2
    refine ⟨k, l[k], h1, h3, lk, ?_, fun i b hb hi => ?_⟩
    · have e : l.length = (l.eraseIdx k).length + 1 := by rw [List.length_eraseIdx_of_lt h2]; omega
      unfold lo
      rw [e, loN_some h1 lk]
    · have := h4 i (freeB_lt hb) hb
      unfold ltAt at this
      rw [hi, lk] at this
      exact this
theorem lo_nil : lo [] = [] := rfl
theorem len_ind {α : Type} {P : List α → Prop} (h : ∀ l, (∀ m : List α, m.length < l.length → P m) → P l) : ∀ l, P l := fun l => by
  have : ∀ (n : Nat) (l : List α), l.length < n → P l := by
    intro n
    induction n with
    | zero => intro l h; exact absurd h (Nat.not_lt_zero _)
    | succ n ih => intro l hl; exact h l fun m hm => ih m (by omega)
  exact this _ l (Nat.lt_succ_self _)
theorem lo_tq : ∀ l : List Act, Tq apartB l (lo l) := len_ind fun l ih => by
  by_cases h : l = []
  · subst h; exact .nil
  · obtain ⟨k, a, h1, h2, h3, h4, h5⟩ := lo_cons h
    rw [h4]
    have lt := freeB_lt h2
    exact (free_rem h2 h3).tq.trans (.cons a (ih _ (by rw [List.length_eraseIdx_of_lt lt]; omega)))
/-! lists of actions in order -/
def runLt (x y : List Act) : Bool := dataLt (runD x) (runD y)
theorem eqv_actD (a b : Act) : PyData.eqv (actD a) (actD b) = decide (a = b) := by
  unfold actD
  rw [Bool.eq_iff_iff, decide_eq_true_eq]
  simp only [PyData.eqv, PyData.eqvAll, Bool.and_eq_true, beq_iff_eq, Bool.and_true]
  constructor
  · intro h
    exact Prod.ext h.1 (Prod.ext h.2.1 h.2.2)
  · intro h
    subst h
    exact ⟨rfl, rfl, rfl⟩
theorem alike_act (a b : Act) : alike (actD a) (actD b) = true := rfl
theorem alike_runL : ∀ x y : List Act, alikeAll (runL x) (runL y) = true
  | [], _ => by unfold runL; rw [List.map_nil, alikeAll]
  | _ :: _, [] => by unfold runL; rw [List.map_nil, List.map_cons, alikeAll]
  | a :: x, b :: y => by
    have := alike_runL x y
    unfold runL at this ⊢
    rw [List.map_cons, List.map_cons, alikeAll, alike_act, this]
    rfl
theorem runLt_cons (a b : Act) (x y : List Act) : runLt (a :: x) (b :: y) = if a = b then runLt x y else actLt a b := by
  unfold runLt runD runL
  rw [dataLt_list, List.map_cons, List.map_cons, dataLt_cons (alike_act a b), eqv_actD, dataLt_list]
  by_cases h : a = b
  · rw [if_pos h, if_pos (decide_eq_true h)]
  · rw [if_neg h, if_neg (by rw [decide_eq_false h]; decide)]
    rfl
theorem runLt_irr (x : List Act) : runLt x x = false := lex_irrefl _
theorem runLt_trans {a b c : List Act} (h : runLt a b = true) (g : runLt b c = true) : runLt a c = true := lex_trans _ _ _ h g
theorem runLt_tot : ∀ {x y : List Act}, x.length = y.length → runLt x y = false → runLt y x = false → x = y
  | [], [], _, _, _ => rfl
  | [], _ :: _, h, _, _ => by cases h
  | _ :: _, [], h, _, _ => by cases h
  | a :: x, b :: y, h, g1, g2 => by
    rw [runLt_cons] at g1 g2
    by_cases e : a = b
    · subst e
      rw [if_pos rfl] at g1 g2
      rw [runLt_tot (by rw [List.length_cons, List.length_cons] at h; omega) g1 g2]
    · rw [if_neg e] at g1
      rw [if_neg fun z => e z.symm] at g2
      exact absurd (actLt_tot g1 g2) e
theorem lo_least : ∀ l y : List Act, Tq apartB l y → runLt y (lo l) = false := len_ind (P := fun l => ∀ y, Tq apartB l y → runLt y (lo l) = false) fun l ih y t => by
  by_cases h : l = []
  · subst h
    have := t.perm.symm.eq_nil
    subst this
    exact runLt_irr _
  · obtain ⟨k, a, h1, h2, h3, h4, h5⟩ := lo_cons h
    cases y with
    | nil => exact absurd t.perm.eq_nil h
    | cons b y =>
      obtain ⟨l', r, t'⟩ := Rem.tr apartB_symm (t.symm apartB_symm) (.here y)
      obtain ⟨i, hf, hi, rfl⟩ := rem_free r
      rw [h4, runLt_cons]
      by_cases e : b = a
      · subst e
        rw [if_pos rfl]
        have e2 := Rem.det apartB_self r (free_rem h2 h3)
        rw [e2] at t'
        have lt := freeB_lt h2
        exact ih _ (by rw [List.length_eraseIdx_of_lt lt]; omega) y (t'.symm apartB_symm)
      · rw [if_neg e]
        exact h5 i b hf hi
theorem lo_inv {x y : List Act} (t : Tq apartB x y) : lo x = lo y := by
  have t2 := lo_tq y
  have t1 := lo_tq x
  have g1 := lo_least x (lo y) (t.trans t2)
  have g2 := lo_least y (lo x) ((t.symm apartB_symm).trans t1)
  exact runLt_tot (by rw [← t1.perm.length_eq, ← t2.perm.length_eq, t.perm.length_eq]) g2 g1
/-! the least of a list of runs -/
theorem minD_runs (x : List Act) : ∀ ys : List (List Act), (∀ y ∈ ys, y.length = x.length) → ∃ m, minD (runD x) (ys.map runD) = runD m ∧ m ∈ x :: ys ∧ ∀ y ∈ x :: ys, runLt y m = false := snoc_ind (P := fun ys => (∀ y ∈ ys, y.length = x.length) → ∃ m, minD (runD x) (ys.map runD) = runD m ∧ m ∈ x :: ys ∧ ∀ y ∈ x :: ys, runLt y m = false) (fun _ => ⟨x, rfl, List.mem_cons_self .., fun y hy => by rw [List.mem_singleton.mp hy]; exact runLt_irr _⟩) fun ys z ih hl => by
  obtain ⟨m, e, hm, h⟩ := ih fun y hy => hl y (List.mem_append_left _ hy)
  have e2 : minD (runD x) ((ys ++ [z]).map runD) = if runLt z m = true then runD z else runD m := by
    unfold minD at e ⊢
    rw [List.map_append, List.foldl_append, e]
    rfl
  rw [e2]
  by_cases g : runLt z m = true
  · refine ⟨z, if_pos g, List.mem_cons_of_mem _ (List.mem_append_right _ (List.mem_singleton.mpr rfl)), fun y hy => ?_⟩
    rcases List.mem_cons.mp hy with rfl | hy
    · cases k : runLt y z with
      | false => rfl
      | true => have := h y (List.mem_cons_self ..); rw [runLt_trans k g] at this; cases this
    · rcases List.mem_append.mp hy with hy | hy
      · cases k : runLt y z with
        | false => rfl
        | true => have := h y (List.mem_cons_of_mem _ hy); rw [runLt_trans k g] at this; cases this
      · rw [List.mem_singleton.mp hy]; exact runLt_irr _
  · refine ⟨m, if_neg g, ?_, fun y hy => ?_⟩
    · rcases List.mem_cons.mp hm with rfl | hm
      · exact List.mem_cons_self ..
      · exact List.mem_cons_of_mem _ (List.mem_append_left _ hm)
    · rcases List.mem_cons.mp hy with rfl | hy
      · exact h y (List.mem_cons_self ..)
      · rcases List.mem_append.mp hy with hy | hy
        · exact h y (List.mem_cons_of_mem _ hy)
        · rw [List.mem_singleton.mp hy]
          cases k : runLt z m with
          | false => rfl
          | true => exact absurd k g
/-! the class by swaps -/
def swapAt (l : List Act) (k : Nat) : List Act := l.take k ++ [(l.drop (k + 1)).headD ("", "", ""), (l.drop k).headD ("", "", "")] ++ l.drop (k + 2)
def canSw (l : List Act) (k : Nat) : Bool := match l[k]?, l[k + 1]? with
  | some a, some b => apartB a b
  | _, _ => false
theorem swap_split {l : List Act} {k : Nat} (h : canSw l k = true) : ∃ p a b x, l = p ++ a :: b :: x ∧ p.length = k ∧ apartB a b = true ∧ swapAt l k = p ++ b :: a :: x := by
  unfold canSw at h
  cases ha : l[k]? with
  | none => rw [ha] at h; cases h
  | some a =>
    cases hb : l[k + 1]? with
    | none => rw [ha, hb] at h; cases h
    | some b =>
      rw [ha, hb] at h
      obtain ⟨h1, e1⟩ := List.getElem?_eq_some_iff.mp ha
      obtain ⟨h2, e2⟩ := List.getElem?_eq_some_iff.mp hb
      have d1 : l.drop k = a :: l.drop (k + 1) := by rw [List.drop_eq_getElem_cons h1, e1]
      have d2 : l.drop (k + 1) = b :: l.drop (k + 2) := by rw [List.drop_eq_getElem_cons h2, e2]
      refine ⟨l.take k, a, b, l.drop (k + 2), ?_, by rw [List.length_take]; omega, h, ?_⟩
      · rw [← d2, ← d1, List.take_append_drop]
      · unfold swapAt
        rw [d1, d2]
        show l.take k ++ [b, a] ++ l.drop (k + 2) = _
        rw [List.append_assoc]
        rfl
theorem swap_tq {l : List Act} {k : Nat} (h : canSw l k = true) : Tq apartB l (swapAt l k) := by
  obtain ⟨p, a, b, x, e, _, hab, e2⟩ := swap_split h
  rw [e2, e]
  exact Tq.pre (.swap x hab) p
theorem class_closed {S : List Act → Prop} (hS : ∀ l k, S l → canSw l k = true → S (swapAt l k)) {x y : List Act} (t : Tq apartB x y) : ∀ p, S (p ++ x) → S (p ++ y) := by
  induction t with
  | nil => intro p h; exact h
  | cons a _ ih =>
    intro p h
    have := ih (p ++ [a]) (by rw [List.append_assoc]; exact h)
    rwa [List.append_assoc] at this
  | swap x hab =>
    rename_i a b
    intro p h
    have l1 : (p ++ a :: b :: x)[p.length]? = some a := by rw [List.getElem?_append_right (Nat.le_refl _), Nat.sub_self]; rfl
    have l2 : (p ++ a :: b :: x)[p.length + 1]? = some b := by rw [List.getElem?_append_right (Nat.le_succ _), show p.length + 1 - p.length = 1 by omega]; rfl
    have hc : canSw (p ++ a :: b :: x) p.length = true := by unfold canSw; rw [l1, l2]; exact hab
    have := hS _ _ h hc
    obtain ⟨p', a', b', x', e, hl, _, e2⟩ := swap_split hc
    obtain ⟨e3, e4⟩ := List.append_inj e hl.symm
    injection e4 with e5 e6
    injection e6 with e7 e8
    rw [e2, ← e3, ← e5, ← e7, ← e8] at this
    exact this
  | trans _ _ ih1 ih2 => intro p h; exact ih2 p (ih1 p h)

end Lw

namespace Lw
open PySem PySem.Spec PyProof.Rows L2 Y PySem.W TL
/-! ### layers_of, whole -/
def rawL (pr : List (Act × Nat)) : List (List Act) := (List.range (maxN (pr.map (·.2)))).map fun i => (pr.filter fun e => decide (e.2 = i + 1)).map (·.1)
def touch (p : Str) (e : Act × Nat) : Bool := e.1.1 == p || e.1.2.1 == p
def HK (pr : List (Act × Nat)) (kv : KV) : Prop := ∀ p, getH kv p = maxN ((pr.filter (touch p)).map (·.2))
theorem getH_nil (q : Str) : getH [] q = 0 := rfl
theorem getH_cons (e : Str × Nat) (kv : KV) (q : Str) : getH (e :: kv) q = if e.1 = q then e.2 else getH kv q := by
  unfold getH
  rw [List.find?_cons]
  by_cases h : e.1 = q
  · rw [if_pos h, decide_eq_true h]; rfl
  · rw [if_neg h, decide_eq_false h]
theorem getH_map (p q : Str) (n : Nat) : ∀ kv : KV, getH (kv.map fun e => if e.1 = p then (e.1, n) else e) q = if p = q ∧ (kv.any fun e => decide (e.1 = p)) = true then n else getH kv q
  | [] => by
    rw [if_neg (fun z => by cases z.2)]
    rfl
  | e :: kv => by
    rw [List.map_cons, getH_cons, getH_cons, getH_map p q n kv, List.any_cons]
    simp only [Bool.or_eq_true, decide_eq_true_eq]
    by_cases h : e.1 = p
    · rw [if_pos h]
      dsimp only
      by_cases g : e.1 = q
      · rw [if_pos g, if_pos ⟨h.symm.trans g, .inl h⟩]
      · rw [if_neg g, if_neg g, if_neg fun z => g (h.trans z.1), if_neg fun z => g (h.trans z.1)]
    · rw [if_neg h]
      by_cases g : e.1 = q
      · rw [if_pos g, if_pos g, if_neg fun z => h (g.trans z.1.symm)]
      · rw [if_neg g, if_neg g]
        by_cases k : p = q ∧ (kv.any fun e => decide (e.1 = p)) = true
        · rw [if_pos k, if_pos ⟨k.1, .inr k.2⟩]
        · rw [if_neg k, if_neg fun z => k ⟨z.1, z.2.resolve_left h⟩]
theorem getH_app (p q : Str) (n : Nat) : ∀ kv : KV, (kv.any fun e => decide (e.1 = p)) = false → getH (kv ++ [(p, n)]) q = if p = q then n else getH kv q
  | [], _ => by rw [List.nil_append, getH_cons]
  | e :: kv, h => by
    rw [List.any_cons, Bool.or_eq_false_iff, decide_eq_false_iff_not] at h
    rw [List.cons_append, getH_cons, getH_cons, getH_app p q n kv h.2]
    by_cases g : e.1 = q
    · rw [if_pos g, if_pos g, if_neg fun z => h.1 (g.trans z.symm)]
    · rw [if_neg g, if_neg g]
theorem getH_put (kv : KV) (p q : Str) (n : Nat) : getH (putH kv p n) q = if p = q then n else getH kv q := by
  unfold putH
  cases h : kv.any fun e => decide (e.1 = p) with
  | true =>
    rw [if_pos rfl, getH_map, h]
    by_cases g : p = q
    · rw [if_pos g, if_pos ⟨g, rfl⟩]
    · rw [if_neg g, if_neg fun z => g z.1]
  | false => rw [if_neg (by decide), getH_app p q n kv h]
theorem maxN_or (pr : List (Act × Nat)) (p q : Act × Nat → Bool) : maxN ((pr.filter fun e => p e || q e).map (·.2)) = max (maxN ((pr.filter p).map (·.2))) (maxN ((pr.filter q).map (·.2))) := by
  refine Nat.le_antisymm (maxN_le fun x hx => ?_) (Nat.max_le.mpr ⟨maxN_sub fun x hx => ?_, maxN_sub fun x hx => ?_⟩)
  · obtain ⟨e, he, rfl⟩ := List.mem_map.mp hx
    obtain ⟨h1, h2⟩ := List.mem_filter.mp he
    rcases Bool.or_eq_true_iff.mp h2 with h | h
    · exact Nat.le_trans (le_maxN (List.mem_map.mpr ⟨e, List.mem_filter.mpr ⟨h1, h⟩, rfl⟩)) (Nat.le_max_left ..)
    · exact Nat.le_trans (le_maxN (List.mem_map.mpr ⟨e, List.mem_filter.mpr ⟨h1, h⟩, rfl⟩)) (Nat.le_max_right ..)
  · obtain ⟨e, he, rfl⟩ := List.mem_map.mp hx
    obtain ⟨h1, h2⟩ := List.mem_filter.mp he
    exact List.mem_map.mpr ⟨e, List.mem_filter.mpr ⟨h1, by rw [h2]; rfl⟩, rfl⟩
  · obtain ⟨e, he, rfl⟩ := List.mem_map.mp hx
    obtain ⟨h1, h2⟩ := List.mem_filter.mp he
    exact List.mem_map.mpr ⟨e, List.mem_filter.mpr ⟨h1, by rw [h2, Bool.or_true]⟩, rfl⟩
theorem not_apart (e : Act × Nat) (a : Act) : (!apartB e.1 a) = (touch a.1 e || touch a.2.1 e) := by
  unfold apartB touch
  rw [show (a.1 == e.1.1) = (e.1.1 == a.1) from BEq.comm, show (a.2.1 == e.1.1) = (e.1.1 == a.2.1) from BEq.comm, show (a.1 == e.1.2.1) = (e.1.2.1 == a.1) from BEq.comm, show (a.2.1 == e.1.2.1) = (e.1.2.1 == a.2.1) from BEq.comm]
  cases (e.1.1 == a.1) <;> cases (e.1.1 == a.2.1) <;> cases (e.1.2.1 == a.1) <;> cases (e.1.2.1 == a.2.1) <;> rfl
theorem hAt_law {pr : List (Act × Nat)} {kv : KV} (h : HK pr kv) (a : Act) : hAt kv a + 1 = lawH pr a := by
  unfold hAt lawH
  rw [h, h, ← maxN_or, List.filter_congr (q := fun e => touch a.1 e || touch a.2.1 e) fun e _ => not_apart e a]
  omega
theorem hAt_le {pr : List (Act × Nat)} {kv : KV} (h : HK pr kv) (a : Act) : hAt kv a ≤ maxN (pr.map (·.2)) := by
  have e := hAt_law h a
  unfold lawH at e
  have : maxN ((pr.filter fun e => !apartB e.1 a).map (·.2)) ≤ maxN (pr.map (·.2)) := maxN_sub fun x hx => by
    obtain ⟨e, he, rfl⟩ := List.mem_map.mp hx
    exact List.mem_map.mpr ⟨e, (List.mem_filter.mp he).1, rfl⟩
  omega
theorem HK_next {pr : List (Act × Nat)} {kv : KV} (h : HK pr kv) (a : Act) : HK (pr ++ [(a, hAt kv a + 1)]) (nextK kv a) := fun p => by
  unfold nextK
  rw [getH_put, getH_put, List.filter_append, List.map_append]
  by_cases t : touch p (a, hAt kv a + 1) = true
  · rw [List.filter_cons_of_pos t, List.filter_nil]
    show _ = maxN (_ ++ [hAt kv a + 1])
    rw [maxN_snoc, ← h p]
    have ht : a.1 = p ∨ a.2.1 = p := by
      unfold touch at t
      rcases Bool.or_eq_true_iff.mp t with t | t
      · exact .inl (eq_of_beq t)
      · exact .inr (eq_of_beq t)
    have hm : getH kv p ≤ hAt kv a := by
      unfold hAt
      rcases ht with rfl | rfl
      · exact Nat.le_max_left ..
      · exact Nat.le_max_right ..
    rw [Nat.max_eq_right (by omega)]
    rcases ht with g | g
    · by_cases g2 : a.2.1 = p
      · rw [if_pos g2]
      · rw [if_neg g2, if_pos g]
    · rw [if_pos g]
  · have t1 : ¬ a.1 = p := fun z => t (by unfold touch; rw [z, beq_self_eq_true]; rfl)
    have t2 : ¬ a.2.1 = p := fun z => t (by unfold touch; rw [z, beq_self_eq_true, Bool.or_true])
    rw [List.filter_cons_of_neg t, List.filter_nil, List.map_nil, List.append_nil, if_neg t2, if_neg t1, h p]
theorem rawL_len (pr : List (Act × Nat)) : (rawL pr).length = maxN (pr.map (·.2)) := by unfold rawL; rw [List.length_map, List.length_range]
theorem rawL_next {pr : List (Act × Nat)} {h : Nat} {a : Act} (hh : h ≤ maxN (pr.map (·.2))) : nextL (rawL pr) h a = rawL (pr ++ [(a, h + 1)]) := by
  have hlen : ((pr ++ [(a, h + 1)]).map (·.2)) = pr.map (·.2) ++ [h + 1] := by rw [List.map_append]; rfl
  have hf : ∀ i, ((pr ++ [(a, h + 1)]).filter fun e => decide (e.2 = i + 1)).map (·.1) = (pr.filter fun e => decide (e.2 = i + 1)).map (·.1) ++ if h = i then [a] else [] := fun i => by
    rw [List.filter_append, List.map_append]
    by_cases g : h = i
    · rw [if_pos g, List.filter_cons_of_pos (by rw [decide_eq_true_eq]; show h + 1 = i + 1; omega)]; rfl
    · rw [if_neg g, List.filter_cons_of_neg (by rw [decide_eq_true_eq]; show ¬ h + 1 = i + 1; omega)]; rfl
  unfold nextL
  rw [rawL_len]
  by_cases e : h = maxN (pr.map (·.2))
  · rw [if_pos e]
    unfold rawL
    rw [hlen, maxN_snoc, Nat.max_eq_right (by omega), List.range_succ, List.map_append, ← e]
    congr 1
    · refine List.map_congr_left fun i hi => ?_
      rw [hf, if_neg (by have := List.mem_range.mp hi; omega), List.append_nil]
    · show [[a]] = [((pr ++ [(a, h + 1)]).filter fun e => decide (e.2 = h + 1)).map (·.1)]
      rw [hf, if_pos rfl]
      have : (pr.filter fun e => decide (e.2 = h + 1)) = [] := List.filter_eq_nil_iff.mpr fun x hx g => by
        have := le_maxN (List.mem_map.mpr ⟨x, hx, rfl⟩ : x.2 ∈ pr.map (·.2))
        have := of_decide_eq_true g
        omega
      rw [this]
      rfl
  · rw [if_neg e]
    refine List.ext_getElem? fun i => ?_
    have e3 : maxN (pr.map (·.2) ++ [h + 1]) = maxN (pr.map (·.2)) := by rw [maxN_snoc, Nat.max_eq_left (by omega)]
    rw [List.getElem?_set]
    have gi : ∀ (q : List (Act × Nat)) (j : Nat), (rawL q)[j]? = if j < maxN (q.map (·.2)) then some ((q.filter fun e => decide (e.2 = j + 1)).map (·.1)) else none := fun q j => by
      unfold rawL
      rw [List.getElem?_map]
      by_cases k : j < maxN (q.map (·.2))
      · rw [if_pos k, List.getElem?_range k]; rfl
      · rw [if_neg k, List.getElem?_eq_none (by rw [List.length_range]; omega)]; rfl
    rw [gi, gi, gi, hlen, e3, hf, rawL_len]
    by_cases k : h = i
    · subst k
      rw [if_pos rfl, if_pos (by omega), if_pos rfl, if_pos (by omega), if_pos (by omega)]
      rfl
    · rw [if_neg k, if_neg k, List.append_nil]
theorem pairs_max (r : List Act) : maxN ((pairs r).map (·.2)) ≤ r.length := maxN_le fun x hx => by
  obtain ⟨e, h1, rfl⟩ := List.mem_map.mp hx
  exact pairs_le r e h1
theorem rawL_each (r : List Act) : ∀ l ∈ rawL (pairs r), l.length ≤ r.length := fun l hl => by
  unfold rawL at hl
  obtain ⟨i, _, rfl⟩ := List.mem_map.mp hl
  rw [List.length_map, ← pairs_len r]
  exact List.length_filter_le _ _
theorem rawL_sorted (r : List Act) : (rawL (pairs r)).map sortA = lawLayers r := by
  unfold rawL lawLayers layAt
  rw [List.map_map]
  rfl
theorem lof_loop {r : List Act} (hl : r.length ≤ 1000) : ∃ kv, forGo (aNameF 3) f_layers_of_0 (runL r) [some (.d (runD r)), some (.w (.lst [])), some (.w (.dK [])), none, none, none] = some (.nx [some (.d (runD r)), some (.w (.lst (layM (rawL (pairs r))))), some (.w (.dK (kvM kv))), none, none, none]) := by
  obtain ⟨s', e, kv, h1, h2, rfl⟩ := forGo_inv (Ga := aNameF 3) (S := f_layers_of_0) (ds := runL r) (fun i s => ∃ kv, HK (pairs (r.take i)) kv ∧ kv.length ≤ 2 * i ∧ s = [some (.d (runD r)), some (.w (.lst (layM (rawL (pairs (r.take i)))))), some (.w (.dK (kvM kv))), none, none, none]) (fun i d s hd hp => by
    obtain ⟨kv, h1, h2, rfl⟩ := hp
    rw [List.getElem?_map] at hd
    obtain ⟨a, ha, rfl⟩ := Option.map_eq_some_iff.mp hd
    obtain ⟨hi, _⟩ := List.getElem?_eq_some_iff.mp ha
    have hle := hAt_le h1 a
    have hm := pairs_max (r.take i)
    have ht : (r.take i).length ≤ 1000 := by rw [List.length_take]; omega
    have st := lof_step (r := runD r) (L := rawL (pairs (r.take i))) (kv := kv) (a := a) (by rw [rawL_len]; exact hle) (by rw [rawL_len]; omega) (by omega) (fun l hl => by have := rawL_each _ l hl; omega)
    have ep : pairs (r.take (i + 1)) = pairs (r.take i) ++ [(a, hAt kv a + 1)] := by
      rw [show r.take (i + 1) = r.take i ++ [a] by rw [List.take_add_one, ha]; rfl, pairs_snoc, hAt_law h1]
    refine ⟨_, _, rfl, .inl st, nextK kv a, ?_, ?_, ?_⟩
    · rw [ep]; exact HK_next h1 a
    · have a1 := putH_len (putH kv a.1 (hAt kv a + 1)) a.2.1 (hAt kv a + 1)
      have a2 := putH_len kv a.1 (hAt kv a + 1)
      unfold nextK
      omega
    · rw [ep, ← rawL_next hle]) (s := [some (.d (runD r)), some (.w (.lst [])), some (.w (.dK [])), none, none, none]) ⟨[], fun p => rfl, Nat.zero_le _, rfl⟩
  rw [show (runL r).length = r.length by rw [List.length_map], List.take_length] at e
  exact ⟨kv, e⟩

end Lw

namespace Lw
open PySem PySem.Spec PyProof.Rows L2 Y PySem.W TL
noncomputable def srtF : PyData → MV
  | .list ds => .lst ((srt ds).map MV.d)
  | _ => .d .none
theorem srtF_run (l : List Act) : srtF (runD l) = .lst ((runL (sortA l)).map MV.d) := by
  show MV.lst ((srt (runL l)).map MV.d) = _
  rw [srt_runL]
theorem frzs_lay : ∀ L : List (List Act), frzs (layM L) = some (L.map runD)
  | [] => by show frzs [] = _; unfold frzs; rfl
  | l :: L => by
    have ih := frzs_lay L
    show frzs (MV.lst ((runL l).map MV.d) :: layM L) = _
    unfold frzs
    rw [ih, frz_lst]
    rfl
theorem frz_lay (L : List (List Act)) : frz (.lst (layM L)) = some (.list (L.map runD)) := by
  unfold frz
  rw [frzs_lay]
  rfl
theorem fzK_w {s : SL} {i : Nat} {m : MV} {x : PyData} (h : s[i]? = some (some (.w m))) (hx : frz m = some x) : fzK (.var i) s = some (.ok (.d x) (s.set i (some (.d x)))) := by
  show (fz s (.var i)).map (fun r => Res.ok (TV.d r.1) r.2) = _
  have : fz s (.var i) = some (x, s.set i (some (.d x))) := by
    show (match s[i]? with
    | some (some (.d x)) => some (x, s)
    | _ => (wAt s i).bind fun m => (frz m).map fun x => (x, s.set i (some (.d x)))) = _
    rw [h]
    show (wAt s i).bind _ = _
    have : wAt s i = some m := by unfold wAt; rw [h]
    rw [this]
    show (frz m).map _ = _
    rw [hx]
    rfl
  rw [this]
  rfl
theorem lof_body {r : List Act} {kv : KV} {L : List (List Act)} (hL : L.length ≤ 1000)
  (e : forGo (aNameF 3) f_layers_of_0 (runL r) [some (.d (runD r)), some (.w (.lst [])), some (.w (.dK [])), none, none, none] = some (.nx [some (.d (runD r)), some (.w (.lst (layM L))), some (.w (.dK (kvM kv))), none, none, none])) :
  b_layers_of [some (.d (runD r)), none, none, none, none, none] = some (.rt (.t (.lst (layM (L.map sortA)))) [some (.d (runD r)), some (.d (.list (L.map runD))), some (.w (.dK (kvM kv))), none, none, none]) := by
  have h0 : aDNew false [some (.d (runD r)), some (.w (.lst [])), none, none, none, none] = some (.ok (.t (.dK [])) [some (.d (runD r)), some (.w (.lst [])), none, none, none, none]) := rfl
  unfold b_layers_of
  simp only [aSeq_ap, seqK_nx, seqK_rt, seqK_bk, seqK_ct, seqK_none, aNext_ap, aBrk_ap, aCont_ap, aAsg_ap, asgK_ap, nxR_some, aDrop_ap, dropK_ap, aIfS_ap, ifK_t, ifK_f, aRet_ap, retK_ap, rtR_some, aRetN_ap, aKill_ap, List.foldl_cons, List.foldl_nil, sb_okN, bd_okN, mapR_some, aC_ap, aXT_ap, aVar_ap, varK_d, varK_x, varK_w, varK_p, varK_k, aOp_ap, opK_ap, opK2_ap, aFz_ap, aUn_ap, aB_ap, bK_ap, aAnd_ap, andK_t, andK_f, aOr_ap, orK_t, orK_f, aNot_ap, notK_ap, aTru_ap, truK_ap, aYes_ap, aAndV_ap, andVK_t, andVK_f, aOrV_ap, orVK_t, orVK_f, aNotV_ap, notVK_ap, aIf_ap, ifEK_t, ifEK_f, aNil_ap, aCons_ap, consK_ap, consK2_ap, aCB_ap, cbK_ap, aNoPart_ap, aPart_ap, partK_ap, aSl_ap, slK_ap, slK2_ap, slK3_ap, aBM_ap, bmK_ap, bmK2_ap, aBM0_ap, bmK0_ap, aPut_ap, putK_ap, putK1_ap, putK2_ap, aFor_ap, forK_n, aRng1_ap, aRng2_ap, aIt_ap, itK_l, itK_t, itK_s, itK_x, itK_c, itK_f, aCallG_ap, List.getElem?_cons_zero, List.getElem?_cons_succ, List.set_cons_zero, List.set_cons_succ, List.length_cons, List.length_nil, Nat.zero_add, Nat.reduceAdd, Option.map_some, Option.map_none, Option.bind_some, Option.bind_none, List.map_cons, List.map_nil, aName, aNameF, fz, rtv, wAt, toM, vw, frz_lst, frz_d, lvs_map, oIx2_var, ixV_w, ixV_p, ixV_k, ixL_some, lfAt_nat, lf_d, oIx2_l, oIx2_t, Y.atI_nat, putF_var, putV_w, putV_p, oEq_int, oNe_int, oLtA_int, oIntA_int, oIntA_bool, oLenV_l, oLenV_t, oI0_ap, oB0_ap, oAdd_int, rNeg, lfAt_0, stL_0, Y.atI_0, lfAt_1, stL_1, Y.atI_1, lfAt_2, stL_2, Y.atI_2, lfAt_3, stL_3, Y.atI_3, lfAt_4, stL_4, Y.atI_4, lfAt_5, stL_5, Y.atI_5, lfAt_6, stL_6, Y.atI_6, lfAt_7, stL_7, Y.atI_7, Nat.reduceLeDiff, Int.reduceLT, Int.reduceLE, List.cons_append, List.nil_append, decide_true, decide_false, if_true, if_false, sizeLine_eq, aLc_ap, oLst_nil, h0, e, frz_lay]
  rw [fzK_w (m := .lst (layM L)) rfl (frz_lay L)]
  simp only [aSeq_ap, seqK_nx, seqK_rt, seqK_bk, seqK_ct, seqK_none, aNext_ap, aBrk_ap, aCont_ap, aAsg_ap, asgK_ap, nxR_some, aDrop_ap, dropK_ap, aIfS_ap, ifK_t, ifK_f, aRet_ap, retK_ap, rtR_some, aRetN_ap, aKill_ap, List.foldl_cons, List.foldl_nil, sb_okN, bd_okN, mapR_some, aC_ap, aXT_ap, aVar_ap, varK_d, varK_x, varK_w, varK_p, varK_k, aOp_ap, opK_ap, opK2_ap, aFz_ap, aUn_ap, aB_ap, bK_ap, aAnd_ap, andK_t, andK_f, aOr_ap, orK_t, orK_f, aNot_ap, notK_ap, aTru_ap, truK_ap, aYes_ap, aAndV_ap, andVK_t, andVK_f, aOrV_ap, orVK_t, orVK_f, aNotV_ap, notVK_ap, aIf_ap, ifEK_t, ifEK_f, aNil_ap, aCons_ap, consK_ap, consK2_ap, aCB_ap, cbK_ap, aNoPart_ap, aPart_ap, partK_ap, aSl_ap, slK_ap, slK2_ap, slK3_ap, aBM_ap, bmK_ap, bmK2_ap, aBM0_ap, bmK0_ap, aPut_ap, putK_ap, putK1_ap, putK2_ap, aFor_ap, forK_n, aRng1_ap, aRng2_ap, aIt_ap, itK_l, itK_t, itK_s, itK_x, itK_c, itK_f, aCallG_ap, List.getElem?_cons_zero, List.getElem?_cons_succ, List.set_cons_zero, List.set_cons_succ, List.length_cons, List.length_nil, Nat.zero_add, Nat.reduceAdd, Option.map_some, Option.map_none, Option.bind_some, Option.bind_none, List.map_cons, List.map_nil, aName, aNameF, fz, rtv, wAt, toM, vw, frz_lst, frz_d, lvs_map, oIx2_var, ixV_w, ixV_p, ixV_k, ixL_some, lfAt_nat, lf_d, oIx2_l, oIx2_t, Y.atI_nat, putF_var, putV_w, putV_p, oEq_int, oNe_int, oLtA_int, oIntA_int, oIntA_bool, oLenV_l, oLenV_t, oI0_ap, oB0_ap, oAdd_int, rNeg, lfAt_0, stL_0, Y.atI_0, lfAt_1, stL_1, Y.atI_1, lfAt_2, stL_2, Y.atI_2, lfAt_3, stL_3, Y.atI_3, lfAt_4, stL_4, Y.atI_4, lfAt_5, stL_5, Y.atI_5, lfAt_6, stL_6, Y.atI_6, lfAt_7, stL_7, Y.atI_7, Nat.reduceLeDiff, Int.reduceLT, Int.reduceLE, List.cons_append, List.nil_append, decide_true, decide_false, if_true, if_false, sizeLine_eq, aLc_ap, Option.map_some]
  rw [lcK_map (fun _ => true) srtF]
  · simp only [aSeq_ap, seqK_nx, seqK_rt, seqK_bk, seqK_ct, seqK_none, aNext_ap, aBrk_ap, aCont_ap, aAsg_ap, asgK_ap, nxR_some, aDrop_ap, dropK_ap, aIfS_ap, ifK_t, ifK_f, aRet_ap, retK_ap, rtR_some, aRetN_ap, aKill_ap, List.foldl_cons, List.foldl_nil, sb_okN, bd_okN, mapR_some, aC_ap, aXT_ap, aVar_ap, varK_d, varK_x, varK_w, varK_p, varK_k, aOp_ap, opK_ap, opK2_ap, aFz_ap, aUn_ap, aB_ap, bK_ap, aAnd_ap, andK_t, andK_f, aOr_ap, orK_t, orK_f, aNot_ap, notK_ap, aTru_ap, truK_ap, aYes_ap, aAndV_ap, andVK_t, andVK_f, aOrV_ap, orVK_t, orVK_f, aNotV_ap, notVK_ap, aIf_ap, ifEK_t, ifEK_f, aNil_ap, aCons_ap, consK_ap, consK2_ap, aCB_ap, cbK_ap, aNoPart_ap, aPart_ap, partK_ap, aSl_ap, slK_ap, slK2_ap, slK3_ap, aBM_ap, bmK_ap, bmK2_ap, aBM0_ap, bmK0_ap, aPut_ap, putK_ap, putK1_ap, putK2_ap, aFor_ap, forK_n, aRng1_ap, aRng2_ap, aIt_ap, itK_l, itK_t, itK_s, itK_x, itK_c, itK_f, aCallG_ap, List.getElem?_cons_zero, List.getElem?_cons_succ, List.set_cons_zero, List.set_cons_succ, List.length_cons, List.length_nil, Nat.zero_add, Nat.reduceAdd, Option.map_some, Option.map_none, Option.bind_some, Option.bind_none, List.map_cons, List.map_nil, aName, aNameF, fz, rtv, wAt, toM, vw, frz_lst, frz_d, lvs_map, oIx2_var, ixV_w, ixV_p, ixV_k, ixL_some, lfAt_nat, lf_d, oIx2_l, oIx2_t, Y.atI_nat, putF_var, putV_w, putV_p, oEq_int, oNe_int, oLtA_int, oIntA_int, oIntA_bool, oLenV_l, oLenV_t, oI0_ap, oB0_ap, oAdd_int, rNeg, lfAt_0, stL_0, Y.atI_0, lfAt_1, stL_1, Y.atI_1, lfAt_2, stL_2, Y.atI_2, lfAt_3, stL_3, Y.atI_3, lfAt_4, stL_4, Y.atI_4, lfAt_5, stL_5, Y.atI_5, lfAt_6, stL_6, Y.atI_6, lfAt_7, stL_7, Y.atI_7, Nat.reduceLeDiff, Int.reduceLT, Int.reduceLE, List.cons_append, List.nil_append, decide_true, decide_false, if_true, if_false, sizeLine_eq, aLc_ap, Option.map_some]
    have e2 : (List.map srtF (List.filter (fun x => true) (List.map runD L))) = layM (L.map sortA) := by
      rw [List.filter_eq_self.mpr fun _ _ => rfl, List.map_map]
      show _ = List.map _ (List.map _ _)
      rw [List.map_map]
      exact List.map_congr_left fun l _ => srtF_run l
    rw [e2]
  · rw [List.length_map]; omega
  · rfl
  · intro x hx
    obtain ⟨l, hl, rfl⟩ := List.mem_map.mp hx
    refine ⟨_, _, rfl, rfl, fun _ => ⟨.t (.lst ((runL (sortA l)).map MV.d)), [some (.d (runD r)), some (.d (.list (L.map runD))), some (.w (.dK (kvM kv))), none, none, some (.d (runD l))], [some (.d (runD r)), some (.d (.list (L.map runD))), some (.w (.dK (kvM kv))), none, none, some (.d (runD l))], ?_, ?_, rfl⟩, fun z => by cases z⟩
    · show aCB oSorted (aCons (aVar 5) aNil) [some (.d (runD r)), some (.d (.list (L.map runD))), some (.w (.dK (kvM kv))), none, none, some (.d (runD l))] = _
      simp only [aSeq_ap, seqK_nx, seqK_rt, seqK_bk, seqK_ct, seqK_none, aNext_ap, aBrk_ap, aCont_ap, aAsg_ap, asgK_ap, nxR_some, aDrop_ap, dropK_ap, aIfS_ap, ifK_t, ifK_f, aRet_ap, retK_ap, rtR_some, aRetN_ap, aKill_ap, List.foldl_cons, List.foldl_nil, sb_okN, bd_okN, mapR_some, aC_ap, aXT_ap, aVar_ap, varK_d, varK_x, varK_w, varK_p, varK_k, aOp_ap, opK_ap, opK2_ap, aFz_ap, aUn_ap, aB_ap, bK_ap, aAnd_ap, andK_t, andK_f, aOr_ap, orK_t, orK_f, aNot_ap, notK_ap, aTru_ap, truK_ap, aYes_ap, aAndV_ap, andVK_t, andVK_f, aOrV_ap, orVK_t, orVK_f, aNotV_ap, notVK_ap, aIf_ap, ifEK_t, ifEK_f, aNil_ap, aCons_ap, consK_ap, consK2_ap, aCB_ap, cbK_ap, aNoPart_ap, aPart_ap, partK_ap, aSl_ap, slK_ap, slK2_ap, slK3_ap, aBM_ap, bmK_ap, bmK2_ap, aBM0_ap, bmK0_ap, aPut_ap, putK_ap, putK1_ap, putK2_ap, aFor_ap, forK_n, aRng1_ap, aRng2_ap, aIt_ap, itK_l, itK_t, itK_s, itK_x, itK_c, itK_f, aCallG_ap, List.getElem?_cons_zero, List.getElem?_cons_succ, List.set_cons_zero, List.set_cons_succ, List.length_cons, List.length_nil, Nat.zero_add, Nat.reduceAdd, Option.map_some, Option.map_none, Option.bind_some, Option.bind_none, List.map_cons, List.map_nil, aName, aNameF, fz, rtv, wAt, toM, vw, frz_lst, frz_d, lvs_map, oIx2_var, ixV_w, ixV_p, ixV_k, ixL_some, lfAt_nat, lf_d, oIx2_l, oIx2_t, Y.atI_nat, putF_var, putV_w, putV_p, oEq_int, oNe_int, oLtA_int, oIntA_int, oIntA_bool, oLenV_l, oLenV_t, oI0_ap, oB0_ap, oAdd_int, rNeg, lfAt_0, stL_0, Y.atI_0, lfAt_1, stL_1, Y.atI_1, lfAt_2, stL_2, Y.atI_2, lfAt_3, stL_3, Y.atI_3, lfAt_4, stL_4, Y.atI_4, lfAt_5, stL_5, Y.atI_5, lfAt_6, stL_6, Y.atI_6, lfAt_7, stL_7, Y.atI_7, Nat.reduceLeDiff, Int.reduceLT, Int.reduceLE, List.cons_append, List.nil_append, decide_true, decide_false, if_true, if_false, sizeLine_eq, aLc_ap, oSorted_actsD]
    · show some (MV.lst ((runL (sortA l)).map MV.d), _) = some (srtF (runD l), _)
      rw [srtF_run]
theorem rd_layers_of {r : List Act} (hl : r.length ≤ 1000) : den_layers_of [.d (runD r)] = some (.ok (.t (.lst (layM (lawLayers r)))) [none]) := by
  obtain ⟨kv, e⟩ := lof_loop hl
  have hb := lof_body (L := rawL (pairs r)) (by rw [rawL_len]; have := pairs_max r; omega) e
  rw [rawL_sorted] at hb
  have hs : start0 6 [.d (runD r)] = [some (.d (runD r)), none, none, none, none, none] := rfl
  unfold den_layers_of Y.run
  rw [hs, hb]
  rfl
/-! equal lists of layers -/
def ActOk (a : Act) : Prop := PyData.strOk a.1 = true ∧ PyData.strOk a.2.1 = true ∧ PyData.strOk a.2.2 = true
theorem eqvAll_map {α : Type} [DecidableEq α] (f : α → PyData) (hf : ∀ a b, PyData.eqv (f a) (f b) = decide (a = b)) : ∀ x y : List α, PyData.eqvAll (x.map f) (y.map f) = decide (x = y)
  | [], [] => rfl
  | [], _ :: _ => rfl
  | _ :: _, [] => rfl
  | a :: x, b :: y => by
    rw [List.map_cons, List.map_cons, PyData.eqvAll, hf, eqvAll_map f hf x y, Bool.eq_iff_iff, Bool.and_eq_true, decide_eq_true_eq, decide_eq_true_eq, decide_eq_true_eq, List.cons.injEq]
theorem eqv_runD (x y : List Act) : PyData.eqv (runD x) (runD y) = decide (x = y) := by
  unfold runD
  rw [PyData.eqv]
  exact eqvAll_map actD eqv_actD x y
abbrev laysD (L : List (List Act)) : PyData := .list (L.map runD)
theorem eqv_laysD (x y : List (List Act)) : PyData.eqv (laysD x) (laysD y) = decide (x = y) := by
  unfold laysD
  rw [PyData.eqv]
  exact eqvAll_map runD eqv_runD x y
theorem lay_act {a : Act} (h : ActOk a) : (actD a).canLay0 = true := by
  unfold actD
  simp only [PyData.canLay0, PyData.canLayAll0, h.1, h.2.1, h.2.2, Bool.and_self]
theorem dep_act (a : Act) : (actD a).depth = 1 := rfl
theorem lay_run {r : List Act} (h : ∀ a ∈ r, ActOk a) : (runD r).canLay0 = true := by
  unfold runD
  rw [PyData.canLay0]
  exact lay_all fun d hd => by
    obtain ⟨a, ha, rfl⟩ := List.mem_map.mp hd
    exact lay_act (h a ha)
theorem dep_run (r : List Act) : (runD r).depth ≤ 3 := by
  unfold runD
  rw [PyData.depth]
  have : PyData.depthAll (runL r) ≤ 1 := depth_all fun d hd => by
    obtain ⟨a, ha, rfl⟩ := List.mem_map.mp hd
    exact Nat.le_of_eq (dep_act a)
  omega
theorem shaped_run {r : List Act} (h : ∀ a ∈ r, ActOk a) : SeqAt.shaped (runD r) = true := shaped_list (fun d hd => by
    obtain ⟨a, ha, rfl⟩ := List.mem_map.mp hd
    exact lay_act (h a ha)) fun d hd => by
    obtain ⟨a, ha, rfl⟩ := List.mem_map.mp hd
    have := dep_act a
    omega
theorem shaped_lays {L : List (List Act)} (h : ∀ l ∈ L, ∀ a ∈ l, ActOk a) : SeqAt.shaped (laysD L) = true := shaped_list (fun d hd => by
    obtain ⟨a, ha, rfl⟩ := List.mem_map.mp hd
    exact lay_run (h a ha)) fun d hd => by
    obtain ⟨a, ha, rfl⟩ := List.mem_map.mp hd
    have := dep_run a
    omega
theorem lays_mem {r : List Act} {l : List Act} (h : l ∈ lawLayers r) : ∀ a ∈ l, a ∈ r := fun a ha => by
  have := (row_tq r).perm.symm.mem_iff (a := a)
  exact this.mp (List.mem_flatten.mpr ⟨l, h, ha⟩)
theorem shaped_layers {r : List Act} (h : ∀ a ∈ r, ActOk a) : SeqAt.shaped (laysD (lawLayers r)) = true := shaped_lays fun l hl a ha => h a (lays_mem hl a ha)
theorem asD_lay {s : SL} (L : List (List Act)) : asD s (.t (.lst (layM L))) = some (laysD L) := by
  show frz (.lst (layM L)) = _
  exact frz_lay L
theorem oEq_lays {s : SL} {neg : Bool} {x y : List Act} (hx : ∀ a ∈ x, ActOk a) (hy : ∀ a ∈ y, ActOk a) : oEq neg s (.t (.lst (layM (lawLayers x)))) (.t (.lst (layM (lawLayers y)))) = some (.d (.bool (if neg then !decide (lawLayers x = lawLayers y) else decide (lawLayers x = lawLayers y))), s) := by
  unfold oEq
  rw [asD_lay, asD_lay, Option.bind_some, Option.bind_some, if_pos ⟨shaped_layers hx, shaped_layers hy⟩, eqv_laysD]
theorem layers_call {s : SL} {r : List Act} (hl : r.length ≤ 1000) : callK false den_layers_of [.f] [.d (runD r)] s = some (.ok (.t (.lst (layM (lawLayers r)))) s) := by
  simp only [callK, unsub, Option.map_none, callT, argF, argF1, fz, Option.bind_some, Option.map_some, argM, argM1, rd_layers_of hl, argB, argB1]
theorem rd_come {x y : List Act} (hx : ∀ a ∈ x, ActOk a) (hy : ∀ a ∈ y, ActOk a) (lx : x.length ≤ 1000) (ly : y.length ≤ 1000) : den_come_to_the_same [.d (runD x), .d (runD y)] = some (.ok (.d (.bool (decide (lawLayers x = lawLayers y)))) [none, none]) := by
  have hb : b_come_to_the_same [some (.d (runD x)), some (.d (runD y))] = some (.rt (.d (.bool (decide (lawLayers x = lawLayers y)))) [some (.d (runD x)), some (.d (runD y))]) := by
    unfold b_come_to_the_same
    simp only [aSeq_ap, seqK_nx, seqK_rt, seqK_bk, seqK_ct, seqK_none, aNext_ap, aBrk_ap, aCont_ap, aAsg_ap, asgK_ap, nxR_some, aDrop_ap, dropK_ap, aIfS_ap, ifK_t, ifK_f, aRet_ap, retK_ap, rtR_some, aRetN_ap, aKill_ap, List.foldl_cons, List.foldl_nil, sb_okN, bd_okN, mapR_some, aC_ap, aXT_ap, aVar_ap, varK_d, varK_x, varK_w, varK_p, varK_k, aOp_ap, opK_ap, opK2_ap, aFz_ap, aUn_ap, aB_ap, bK_ap, aAnd_ap, andK_t, andK_f, aOr_ap, orK_t, orK_f, aNot_ap, notK_ap, aTru_ap, truK_ap, aYes_ap, aAndV_ap, andVK_t, andVK_f, aOrV_ap, orVK_t, orVK_f, aNotV_ap, notVK_ap, aIf_ap, ifEK_t, ifEK_f, aNil_ap, aCons_ap, consK_ap, consK2_ap, aCB_ap, cbK_ap, aNoPart_ap, aPart_ap, partK_ap, aSl_ap, slK_ap, slK2_ap, slK3_ap, aBM_ap, bmK_ap, bmK2_ap, aBM0_ap, bmK0_ap, aPut_ap, putK_ap, putK1_ap, putK2_ap, aFor_ap, forK_n, aRng1_ap, aRng2_ap, aIt_ap, itK_l, itK_t, itK_s, itK_x, itK_c, itK_f, aCallG_ap, List.getElem?_cons_zero, List.getElem?_cons_succ, List.set_cons_zero, List.set_cons_succ, List.length_cons, List.length_nil, Nat.zero_add, Nat.reduceAdd, Option.map_some, Option.map_none, Option.bind_some, Option.bind_none, List.map_cons, List.map_nil, aName, aNameF, fz, rtv, wAt, toM, vw, frz_lst, frz_d, lvs_map, oIx2_var, ixV_w, ixV_p, ixV_k, ixL_some, lfAt_nat, lf_d, oIx2_l, oIx2_t, Y.atI_nat, putF_var, putV_w, putV_p, oEq_int, oNe_int, oLtA_int, oIntA_int, oIntA_bool, oLenV_l, oLenV_t, oI0_ap, oB0_ap, oAdd_int, rNeg, lfAt_0, stL_0, Y.atI_0, lfAt_1, stL_1, Y.atI_1, lfAt_2, stL_2, Y.atI_2, lfAt_3, stL_3, Y.atI_3, lfAt_4, stL_4, Y.atI_4, lfAt_5, stL_5, Y.atI_5, lfAt_6, stL_6, Y.atI_6, lfAt_7, stL_7, Y.atI_7, Nat.reduceLeDiff, Int.reduceLT, Int.reduceLE, List.cons_append, List.nil_append, decide_true, decide_false, if_true, if_false, sizeLine_eq, aLc_ap, layers_call lx, layers_call ly, oEq_lays hx hy]
    rfl
  have hs : start0 2 [.d (runD x), .d (runD y)] = [some (.d (runD x)), some (.d (runD y))] := rfl
  unfold den_come_to_the_same Y.run
  rw [hs, hb]
  rfl

end Lw

namespace Lw
open PySem PySem.Spec PyProof.Rows L2 Y PySem.W TL
/-! ### slices of lists -/
theorem cutD_hi {α : Type} (xs : List α) (k : Nat) : Y.cutD xs none (some (k : Int)) = xs.take k := by
  unfold Y.cutD
  rw [HT.sIx_nat, HT.sIx_none]
  show (xs.drop 0).take (min k xs.length - 0) = _
  rw [List.drop_zero, Nat.sub_zero, List.take_eq_take_iff]
  omega
theorem cutD_lo {α : Type} (xs : List α) (k : Nat) : Y.cutD xs (some (k : Int)) none = xs.drop k := by
  unfold Y.cutD
  rw [HT.sIx_nat, HT.sIx_none]
  show (xs.drop (min k xs.length)).take (xs.length - min k xs.length) = _
  by_cases h : k ≤ xs.length
  · rw [Nat.min_eq_left h, List.take_of_length_le (by rw [List.length_drop]; omega)]
  · rw [Nat.min_eq_right (by omega), Nat.sub_self, List.take_zero, List.drop_eq_nil_of_le (by omega)]
theorem vw_k {s : SL} {i : Nat} {m : MV} (h : s[i]? = some (some (.k m))) : vw s (.var i) = some m := by
  unfold vw
  dsimp only
  rw [h]
theorem oSl_own {s : SL} {i : Nat} {ds : List PyData} {lo hi : Option Int} (h : vw s (.var i) = some (.lst (ds.map MV.d))) : oSl s (.var i) lo hi = some (.t (.lst ((Y.cutD ds lo hi).map MV.d)), s) := by
  show (match seqTd s (.var i) with
    | some ds => some (TV.d (.tuple (Y.cutD ds lo hi)), s)
    | none => ((seqL s (.var i)).bind lvs).map fun ds => (TV.t (.lst ((Y.cutD ds lo hi).map MV.d)), s)) = _
  have e0 : seqTd s (.var i) = none := by unfold seqTd; rw [h]
  have e1 : seqL s (.var i) = some (ds.map MV.d) := by unfold seqL; dsimp only; rw [h]
  rw [e0]
  show ((seqL s (.var i)).bind lvs).map _ = _
  rw [e1, Option.bind_some, lvs_map]
  rfl
theorem oSl_dl {s : SL} {ds : List PyData} {lo hi : Option Int} : oSl s (.d (.list ds)) lo hi = some (.t (.lst ((Y.cutD ds lo hi).map MV.d)), s) := by
  show ((some (ds.map MV.d)).bind lvs).map _ = _
  rw [Option.bind_some, lvs_map]
  rfl
/-! ### least_order -/
def bestD : Option Nat → PyData
  | none => .none
  | some b => .int (b : Nat)
def bestN (l : List Act) (i : Nat) (o : Option Nat) : Option Nat := if freeB l i = true then (match o with
    | none => some i
    | some b => if ltAt l i b = true then some i else some b) else o
theorem oEq_nilL {s : SL} {x : List Act} (hx : ∀ a ∈ x, ActOk a) : oEq false s (.t (.lst ((runL x).map MV.d))) (.t (.lst [])) = some (.d (.bool (decide (x = []))), s) := by
  unfold oEq
  have e1 : asD s (.t (.lst ((runL x).map MV.d))) = some (runD x) := frz_lst _
  have e2 : asD s (.t (.lst [])) = some (runD []) := frz_lst []
  rw [e1, e2, Option.bind_some, Option.bind_some, if_pos ⟨shaped_run hx, shaped_run fun _ h => nomatch h⟩, eqv_runD]
  rfl
theorem oLtA_act {s : SL} (a b : Act) : oLtA s (.d (actD a)) (.d (actD b)) = some (.d (.bool (actLt a b)), s) := by
  show (if alike (actD a) (actD b) = true ∧ nonB (actD a) = false ∧ (actD a).depth ≤ 60 then some (TV.d (.bool (dataLt (actD a) (actD b))), s) else none) = _
  rw [if_pos ⟨alike_act a b, rfl, by rw [dep_act]; omega⟩]
  rfl
theorem apart_call2 {a b : PyData} {s : SL} {c : Bool} (h : den_are_apart [.d a, .d b] = some (.ok (.d (.bool c)) [none, none])) : callK false den_are_apart [.f, .f] [.d a, .d b] s = some (.ok (.d (.bool c)) s) := by
  simp only [callK, unsub, Option.map_none, callT, argF, argF1, fz, Option.bind_some, Option.map_some, argM, argM1, h, argB, argB1]
theorem take_runL (l : List Act) (i : Nat) : (runL l).take i = runL (l.take i) := List.map_take.symm
def apP (a : Act) : PyData → Bool
  | .tuple [.str x, .str y, .str z] => !apartB (x, y, z) a
  | _ => false
theorem filter_apP (a : Act) (l : List Act) : ((runL l).filter (apP a)).map (fun d => MV.d d) = (runL (l.filter fun b => !apartB b a)).map MV.d := by
  show ((l.map actD).filter (apP a)).map _ = _
  rw [List.filter_map]
  rfl
theorem free_nil {l : List Act} {i : Nat} {a : Act} (hi : l[i]? = some a) : decide ((l.take i).filter (fun b => !apartB b a) = []) = freeB l i := by
  unfold freeB
  rw [hi]
  dsimp only
  rw [Bool.eq_iff_iff, decide_eq_true_eq, List.filter_eq_nil_iff, List.all_eq_true]
  exact forall_congr' fun b => forall_congr' fun _ => by cases apartB b a <;> decide
theorem oIsN_none {s : SL} : oIsN false s (.d .none) (.d .none) = some (.d (.bool true), s) := Eq.trans rfl rfl
theorem oIsN_int {s : SL} {i : Int} : oIsN false s (.d (.int i)) (.d .none) = some (.d (.bool false), s) := Eq.trans rfl rfl
theorem runM_at {r : List Act} {i : Nat} {a : Act} (h : r[i]? = some a) : ((runL r).map MV.d)[i]? = some (.d (actD a)) := by rw [List.getElem?_map, runL_at h]; rfl
theorem lo_inner {r : PyData} {l : List Act} {f : List MV} {o : Option Nat} {i : Nat} {a : Act} (hi : l[i]? = some a) (hl : l.length ≤ 1000) (ho : ∀ b, o = some b → b < l.length) (hok : ∀ a ∈ l, ActOk a) :
  f_least_order_0 [some (.d r), some (.k (.lst ((runL l).map MV.d))), some (.w (.lst f)), some (.d (bestD o)), some (.d (.int (i : Nat))), some (.d (actD a)), none] = some (.nx [some (.d r), some (.k (.lst ((runL l).map MV.d))), some (.w (.lst f)), some (.d (bestD (bestN l i o))), none, none, none]) := by
  unfold f_least_order_0
  simp only [aSeq_ap, seqK_nx, seqK_rt, seqK_bk, seqK_ct, seqK_none, aNext_ap, aBrk_ap, aCont_ap, aAsg_ap, asgK_ap, nxR_some, aDrop_ap, dropK_ap, aIfS_ap, ifK_t, ifK_f, aRet_ap, retK_ap, rtR_some, aRetN_ap, aKill_ap, List.foldl_cons, List.foldl_nil, sb_okN, bd_okN, mapR_some, aC_ap, aXT_ap, aVar_ap, varK_d, varK_x, varK_w, varK_p, varK_k, aOp_ap, opK_ap, opK2_ap, aFz_ap, aUn_ap, aB_ap, bK_ap, aAnd_ap, andK_t, andK_f, aOr_ap, orK_t, orK_f, aNot_ap, notK_ap, aTru_ap, truK_ap, aYes_ap, aAndV_ap, andVK_t, andVK_f, aOrV_ap, orVK_t, orVK_f, aNotV_ap, notVK_ap, aIf_ap, ifEK_t, ifEK_f, aNil_ap, aCons_ap, consK_ap, consK2_ap, aCB_ap, cbK_ap, aNoPart_ap, aPart_ap, partK_ap, aSl_ap, slK_ap, slK2_ap, slK3_ap, aBM_ap, bmK_ap, bmK2_ap, aBM0_ap, bmK0_ap, aPut_ap, putK_ap, putK1_ap, putK2_ap, aFor_ap, forK_n, aRng1_ap, aRng2_ap, aIt_ap, itK_l, itK_t, itK_s, itK_x, itK_c, itK_f, aCallG_ap, List.getElem?_cons_zero, List.getElem?_cons_succ, List.set_cons_zero, List.set_cons_succ, List.length_cons, List.length_nil, Nat.zero_add, Nat.reduceAdd, Option.map_some, Option.map_none, Option.bind_some, Option.bind_none, List.map_cons, List.map_nil, aName, aNameF, fz, rtv, wAt, toM, vw, frz_lst, frz_d, lvs_map, oIx2_var, ixV_w, ixV_p, ixV_k, ixL_some, lfAt_nat, lf_d, oIx2_l, oIx2_t, Y.atI_nat, putF_var, putV_w, putV_p, oEq_int, oNe_int, oLtA_int, oIntA_int, oIntA_bool, oLenV_l, oLenV_t, oI0_ap, oB0_ap, oAdd_int, rNeg, lfAt_0, stL_0, Y.atI_0, lfAt_1, stL_1, Y.atI_1, lfAt_2, stL_2, Y.atI_2, lfAt_3, stL_3, Y.atI_3, lfAt_4, stL_4, Y.atI_4, lfAt_5, stL_5, Y.atI_5, lfAt_6, stL_6, Y.atI_6, lfAt_7, stL_7, Y.atI_7, Nat.reduceLeDiff, Int.reduceLT, Int.reduceLE, List.cons_append, List.nil_append, decide_true, decide_false, if_true, if_false, sizeLine_eq, aLc_ap, Option.map_some]
  rw [oSl_own (ds := runL l) rfl, cutD_hi]
  simp only [aSeq_ap, seqK_nx, seqK_rt, seqK_bk, seqK_ct, seqK_none, aNext_ap, aBrk_ap, aCont_ap, aAsg_ap, asgK_ap, nxR_some, aDrop_ap, dropK_ap, aIfS_ap, ifK_t, ifK_f, aRet_ap, retK_ap, rtR_some, aRetN_ap, aKill_ap, List.foldl_cons, List.foldl_nil, sb_okN, bd_okN, mapR_some, aC_ap, aXT_ap, aVar_ap, varK_d, varK_x, varK_w, varK_p, varK_k, aOp_ap, opK_ap, opK2_ap, aFz_ap, aUn_ap, aB_ap, bK_ap, aAnd_ap, andK_t, andK_f, aOr_ap, orK_t, orK_f, aNot_ap, notK_ap, aTru_ap, truK_ap, aYes_ap, aAndV_ap, andVK_t, andVK_f, aOrV_ap, orVK_t, orVK_f, aNotV_ap, notVK_ap, aIf_ap, ifEK_t, ifEK_f, aNil_ap, aCons_ap, consK_ap, consK2_ap, aCB_ap, cbK_ap, aNoPart_ap, aPart_ap, partK_ap, aSl_ap, slK_ap, slK2_ap, slK3_ap, aBM_ap, bmK_ap, bmK2_ap, aBM0_ap, bmK0_ap, aPut_ap, putK_ap, putK1_ap, putK2_ap, aFor_ap, forK_n, aRng1_ap, aRng2_ap, aIt_ap, itK_l, itK_t, itK_s, itK_x, itK_c, itK_f, aCallG_ap, List.getElem?_cons_zero, List.getElem?_cons_succ, List.set_cons_zero, List.set_cons_succ, List.length_cons, List.length_nil, Nat.zero_add, Nat.reduceAdd, Option.map_some, Option.map_none, Option.bind_some, Option.bind_none, List.map_cons, List.map_nil, aName, aNameF, fz, rtv, wAt, toM, vw, frz_lst, frz_d, lvs_map, oIx2_var, ixV_w, ixV_p, ixV_k, ixL_some, lfAt_nat, lf_d, oIx2_l, oIx2_t, Y.atI_nat, putF_var, putV_w, putV_p, oEq_int, oNe_int, oLtA_int, oIntA_int, oIntA_bool, oLenV_l, oLenV_t, oI0_ap, oB0_ap, oAdd_int, rNeg, lfAt_0, stL_0, Y.atI_0, lfAt_1, stL_1, Y.atI_1, lfAt_2, stL_2, Y.atI_2, lfAt_3, stL_3, Y.atI_3, lfAt_4, stL_4, Y.atI_4, lfAt_5, stL_5, Y.atI_5, lfAt_6, stL_6, Y.atI_6, lfAt_7, stL_7, Y.atI_7, Nat.reduceLeDiff, Int.reduceLT, Int.reduceLE, List.cons_append, List.nil_append, decide_true, decide_false, if_true, if_false, sizeLine_eq, aLc_ap, Option.map_some]
  rw [take_runL, lcK_map (apP a) (fun d => MV.d d)]
  · have hz : ∀ c ∈ (l.take i).filter (fun b => !apartB b a), ActOk c := fun b hb => hok b (List.mem_of_mem_take (List.mem_filter.mp hb).1)
    rw [filter_apP]
    simp only [aSeq_ap, seqK_nx, seqK_rt, seqK_bk, seqK_ct, seqK_none, aNext_ap, aBrk_ap, aCont_ap, aAsg_ap, asgK_ap, nxR_some, aDrop_ap, dropK_ap, aIfS_ap, ifK_t, ifK_f, aRet_ap, retK_ap, rtR_some, aRetN_ap, aKill_ap, List.foldl_cons, List.foldl_nil, sb_okN, bd_okN, mapR_some, aC_ap, aXT_ap, aVar_ap, varK_d, varK_x, varK_w, varK_p, varK_k, aOp_ap, opK_ap, opK2_ap, aFz_ap, aUn_ap, aB_ap, bK_ap, aAnd_ap, andK_t, andK_f, aOr_ap, orK_t, orK_f, aNot_ap, notK_ap, aTru_ap, truK_ap, aYes_ap, aAndV_ap, andVK_t, andVK_f, aOrV_ap, orVK_t, orVK_f, aNotV_ap, notVK_ap, aIf_ap, ifEK_t, ifEK_f, aNil_ap, aCons_ap, consK_ap, consK2_ap, aCB_ap, cbK_ap, aNoPart_ap, aPart_ap, partK_ap, aSl_ap, slK_ap, slK2_ap, slK3_ap, aBM_ap, bmK_ap, bmK2_ap, aBM0_ap, bmK0_ap, aPut_ap, putK_ap, putK1_ap, putK2_ap, aFor_ap, forK_n, aRng1_ap, aRng2_ap, aIt_ap, itK_l, itK_t, itK_s, itK_x, itK_c, itK_f, aCallG_ap, List.getElem?_cons_zero, List.getElem?_cons_succ, List.set_cons_zero, List.set_cons_succ, List.length_cons, List.length_nil, Nat.zero_add, Nat.reduceAdd, Option.map_some, Option.map_none, Option.bind_some, Option.bind_none, List.map_cons, List.map_nil, aName, aNameF, fz, rtv, wAt, toM, vw, frz_lst, frz_d, lvs_map, oIx2_var, ixV_w, ixV_p, ixV_k, ixL_some, lfAt_nat, lf_d, oIx2_l, oIx2_t, Y.atI_nat, putF_var, putV_w, putV_p, oEq_int, oNe_int, oLtA_int, oIntA_int, oIntA_bool, oLenV_l, oLenV_t, oI0_ap, oB0_ap, oAdd_int, rNeg, lfAt_0, stL_0, Y.atI_0, lfAt_1, stL_1, Y.atI_1, lfAt_2, stL_2, Y.atI_2, lfAt_3, stL_3, Y.atI_3, lfAt_4, stL_4, Y.atI_4, lfAt_5, stL_5, Y.atI_5, lfAt_6, stL_6, Y.atI_6, lfAt_7, stL_7, Y.atI_7, Nat.reduceLeDiff, Int.reduceLT, Int.reduceLE, List.cons_append, List.nil_append, decide_true, decide_false, if_true, if_false, sizeLine_eq, aLc_ap, oLst_nil]
    rw [oEq_nilL hz]
    simp only [aSeq_ap, seqK_nx, seqK_rt, seqK_bk, seqK_ct, seqK_none, aNext_ap, aBrk_ap, aCont_ap, aAsg_ap, asgK_ap, nxR_some, aDrop_ap, dropK_ap, aIfS_ap, ifK_t, ifK_f, aRet_ap, retK_ap, rtR_some, aRetN_ap, aKill_ap, List.foldl_cons, List.foldl_nil, sb_okN, bd_okN, mapR_some, aC_ap, aXT_ap, aVar_ap, varK_d, varK_x, varK_w, varK_p, varK_k, aOp_ap, opK_ap, opK2_ap, aFz_ap, aUn_ap, aB_ap, bK_ap, aAnd_ap, andK_t, andK_f, aOr_ap, orK_t, orK_f, aNot_ap, notK_ap, aTru_ap, truK_ap, aYes_ap, aAndV_ap, andVK_t, andVK_f, aOrV_ap, orVK_t, orVK_f, aNotV_ap, notVK_ap, aIf_ap, ifEK_t, ifEK_f, aNil_ap, aCons_ap, consK_ap, consK2_ap, aCB_ap, cbK_ap, aNoPart_ap, aPart_ap, partK_ap, aSl_ap, slK_ap, slK2_ap, slK3_ap, aBM_ap, bmK_ap, bmK2_ap, aBM0_ap, bmK0_ap, aPut_ap, putK_ap, putK1_ap, putK2_ap, aFor_ap, forK_n, aRng1_ap, aRng2_ap, aIt_ap, itK_l, itK_t, itK_s, itK_x, itK_c, itK_f, aCallG_ap, List.getElem?_cons_zero, List.getElem?_cons_succ, List.set_cons_zero, List.set_cons_succ, List.length_cons, List.length_nil, Nat.zero_add, Nat.reduceAdd, Option.map_some, Option.map_none, Option.bind_some, Option.bind_none, List.map_cons, List.map_nil, aName, aNameF, fz, rtv, wAt, toM, vw, frz_lst, frz_d, lvs_map, oIx2_var, ixV_w, ixV_p, ixV_k, ixL_some, lfAt_nat, lf_d, oIx2_l, oIx2_t, Y.atI_nat, putF_var, putV_w, putV_p, oEq_int, oNe_int, oLtA_int, oIntA_int, oIntA_bool, oLenV_l, oLenV_t, oI0_ap, oB0_ap, oAdd_int, rNeg, lfAt_0, stL_0, Y.atI_0, lfAt_1, stL_1, Y.atI_1, lfAt_2, stL_2, Y.atI_2, lfAt_3, stL_3, Y.atI_3, lfAt_4, stL_4, Y.atI_4, lfAt_5, stL_5, Y.atI_5, lfAt_6, stL_6, Y.atI_6, lfAt_7, stL_7, Y.atI_7, Nat.reduceLeDiff, Int.reduceLT, Int.reduceLE, List.cons_append, List.nil_append, decide_true, decide_false, if_true, if_false, sizeLine_eq, aLc_ap, free_nil hi]
    unfold bestN
    cases hf : freeB l i with
    | false =>
      simp only [aSeq_ap, seqK_nx, seqK_rt, seqK_bk, seqK_ct, seqK_none, aNext_ap, aBrk_ap, aCont_ap, aAsg_ap, asgK_ap, nxR_some, aDrop_ap, dropK_ap, aIfS_ap, ifK_t, ifK_f, aRet_ap, retK_ap, rtR_some, aRetN_ap, aKill_ap, List.foldl_cons, List.foldl_nil, sb_okN, bd_okN, mapR_some, aC_ap, aXT_ap, aVar_ap, varK_d, varK_x, varK_w, varK_p, varK_k, aOp_ap, opK_ap, opK2_ap, aFz_ap, aUn_ap, aB_ap, bK_ap, aAnd_ap, andK_t, andK_f, aOr_ap, orK_t, orK_f, aNot_ap, notK_ap, aTru_ap, truK_ap, aYes_ap, aAndV_ap, andVK_t, andVK_f, aOrV_ap, orVK_t, orVK_f, aNotV_ap, notVK_ap, aIf_ap, ifEK_t, ifEK_f, aNil_ap, aCons_ap, consK_ap, consK2_ap, aCB_ap, cbK_ap, aNoPart_ap, aPart_ap, partK_ap, aSl_ap, slK_ap, slK2_ap, slK3_ap, aBM_ap, bmK_ap, bmK2_ap, aBM0_ap, bmK0_ap, aPut_ap, putK_ap, putK1_ap, putK2_ap, aFor_ap, forK_n, aRng1_ap, aRng2_ap, aIt_ap, itK_l, itK_t, itK_s, itK_x, itK_c, itK_f, aCallG_ap, List.getElem?_cons_zero, List.getElem?_cons_succ, List.set_cons_zero, List.set_cons_succ, List.length_cons, List.length_nil, Nat.zero_add, Nat.reduceAdd, Option.map_some, Option.map_none, Option.bind_some, Option.bind_none, List.map_cons, List.map_nil, aName, aNameF, fz, rtv, wAt, toM, vw, frz_lst, frz_d, lvs_map, oIx2_var, ixV_w, ixV_p, ixV_k, ixL_some, lfAt_nat, lf_d, oIx2_l, oIx2_t, Y.atI_nat, putF_var, putV_w, putV_p, oEq_int, oNe_int, oLtA_int, oIntA_int, oIntA_bool, oLenV_l, oLenV_t, oI0_ap, oB0_ap, oAdd_int, rNeg, lfAt_0, stL_0, Y.atI_0, lfAt_1, stL_1, Y.atI_1, lfAt_2, stL_2, Y.atI_2, lfAt_3, stL_3, Y.atI_3, lfAt_4, stL_4, Y.atI_4, lfAt_5, stL_5, Y.atI_5, lfAt_6, stL_6, Y.atI_6, lfAt_7, stL_7, Y.atI_7, Nat.reduceLeDiff, Int.reduceLT, Int.reduceLE, List.cons_append, List.nil_append, decide_true, decide_false, if_true, if_false, sizeLine_eq, aLc_ap, Option.map_some]
      rfl
    | true =>
      simp only [aSeq_ap, seqK_nx, seqK_rt, seqK_bk, seqK_ct, seqK_none, aNext_ap, aBrk_ap, aCont_ap, aAsg_ap, asgK_ap, nxR_some, aDrop_ap, dropK_ap, aIfS_ap, ifK_t, ifK_f, aRet_ap, retK_ap, rtR_some, aRetN_ap, aKill_ap, List.foldl_cons, List.foldl_nil, sb_okN, bd_okN, mapR_some, aC_ap, aXT_ap, aVar_ap, varK_d, varK_x, varK_w, varK_p, varK_k, aOp_ap, opK_ap, opK2_ap, aFz_ap, aUn_ap, aB_ap, bK_ap, aAnd_ap, andK_t, andK_f, aOr_ap, orK_t, orK_f, aNot_ap, notK_ap, aTru_ap, truK_ap, aYes_ap, aAndV_ap, andVK_t, andVK_f, aOrV_ap, orVK_t, orVK_f, aNotV_ap, notVK_ap, aIf_ap, ifEK_t, ifEK_f, aNil_ap, aCons_ap, consK_ap, consK2_ap, aCB_ap, cbK_ap, aNoPart_ap, aPart_ap, partK_ap, aSl_ap, slK_ap, slK2_ap, slK3_ap, aBM_ap, bmK_ap, bmK2_ap, aBM0_ap, bmK0_ap, aPut_ap, putK_ap, putK1_ap, putK2_ap, aFor_ap, forK_n, aRng1_ap, aRng2_ap, aIt_ap, itK_l, itK_t, itK_s, itK_x, itK_c, itK_f, aCallG_ap, List.getElem?_cons_zero, List.getElem?_cons_succ, List.set_cons_zero, List.set_cons_succ, List.length_cons, List.length_nil, Nat.zero_add, Nat.reduceAdd, Option.map_some, Option.map_none, Option.bind_some, Option.bind_none, List.map_cons, List.map_nil, aName, aNameF, fz, rtv, wAt, toM, vw, frz_lst, frz_d, lvs_map, oIx2_var, ixV_w, ixV_p, ixV_k, ixL_some, lfAt_nat, lf_d, oIx2_l, oIx2_t, Y.atI_nat, putF_var, putV_w, putV_p, oEq_int, oNe_int, oLtA_int, oIntA_int, oIntA_bool, oLenV_l, oLenV_t, oI0_ap, oB0_ap, oAdd_int, rNeg, lfAt_0, stL_0, Y.atI_0, lfAt_1, stL_1, Y.atI_1, lfAt_2, stL_2, Y.atI_2, lfAt_3, stL_3, Y.atI_3, lfAt_4, stL_4, Y.atI_4, lfAt_5, stL_5, Y.atI_5, lfAt_6, stL_6, Y.atI_6, lfAt_7, stL_7, Y.atI_7, Nat.reduceLeDiff, Int.reduceLT, Int.reduceLE, List.cons_append, List.nil_append, decide_true, decide_false, if_true, if_false, sizeLine_eq, aLc_ap, Option.map_some]
      cases o with
      | none =>
        simp only [aSeq_ap, seqK_nx, seqK_rt, seqK_bk, seqK_ct, seqK_none, aNext_ap, aBrk_ap, aCont_ap, aAsg_ap, asgK_ap, nxR_some, aDrop_ap, dropK_ap, aIfS_ap, ifK_t, ifK_f, aRet_ap, retK_ap, rtR_some, aRetN_ap, aKill_ap, List.foldl_cons, List.foldl_nil, sb_okN, bd_okN, mapR_some, aC_ap, aXT_ap, aVar_ap, varK_d, varK_x, varK_w, varK_p, varK_k, aOp_ap, opK_ap, opK2_ap, aFz_ap, aUn_ap, aB_ap, bK_ap, aAnd_ap, andK_t, andK_f, aOr_ap, orK_t, orK_f, aNot_ap, notK_ap, aTru_ap, truK_ap, aYes_ap, aAndV_ap, andVK_t, andVK_f, aOrV_ap, orVK_t, orVK_f, aNotV_ap, notVK_ap, aIf_ap, ifEK_t, ifEK_f, aNil_ap, aCons_ap, consK_ap, consK2_ap, aCB_ap, cbK_ap, aNoPart_ap, aPart_ap, partK_ap, aSl_ap, slK_ap, slK2_ap, slK3_ap, aBM_ap, bmK_ap, bmK2_ap, aBM0_ap, bmK0_ap, aPut_ap, putK_ap, putK1_ap, putK2_ap, aFor_ap, forK_n, aRng1_ap, aRng2_ap, aIt_ap, itK_l, itK_t, itK_s, itK_x, itK_c, itK_f, aCallG_ap, List.getElem?_cons_zero, List.getElem?_cons_succ, List.set_cons_zero, List.set_cons_succ, List.length_cons, List.length_nil, Nat.zero_add, Nat.reduceAdd, Option.map_some, Option.map_none, Option.bind_some, Option.bind_none, List.map_cons, List.map_nil, aName, aNameF, fz, rtv, wAt, toM, vw, frz_lst, frz_d, lvs_map, oIx2_var, ixV_w, ixV_p, ixV_k, ixL_some, lfAt_nat, lf_d, oIx2_l, oIx2_t, Y.atI_nat, putF_var, putV_w, putV_p, oEq_int, oNe_int, oLtA_int, oIntA_int, oIntA_bool, oLenV_l, oLenV_t, oI0_ap, oB0_ap, oAdd_int, rNeg, lfAt_0, stL_0, Y.atI_0, lfAt_1, stL_1, Y.atI_1, lfAt_2, stL_2, Y.atI_2, lfAt_3, stL_3, Y.atI_3, lfAt_4, stL_4, Y.atI_4, lfAt_5, stL_5, Y.atI_5, lfAt_6, stL_6, Y.atI_6, lfAt_7, stL_7, Y.atI_7, Nat.reduceLeDiff, Int.reduceLT, Int.reduceLE, List.cons_append, List.nil_append, decide_true, decide_false, if_true, if_false, sizeLine_eq, aLc_ap, bestD, oIsN_none]
      | some b =>
        have hb := ho b rfl
        have eb : l[b]? = some l[b] := List.getElem?_eq_getElem hb
        have e2 : ltAt l i b = actLt a l[b] := by unfold ltAt; rw [hi, eb]
        simp only [aSeq_ap, seqK_nx, seqK_rt, seqK_bk, seqK_ct, seqK_none, aNext_ap, aBrk_ap, aCont_ap, aAsg_ap, asgK_ap, nxR_some, aDrop_ap, dropK_ap, aIfS_ap, ifK_t, ifK_f, aRet_ap, retK_ap, rtR_some, aRetN_ap, aKill_ap, List.foldl_cons, List.foldl_nil, sb_okN, bd_okN, mapR_some, aC_ap, aXT_ap, aVar_ap, varK_d, varK_x, varK_w, varK_p, varK_k, aOp_ap, opK_ap, opK2_ap, aFz_ap, aUn_ap, aB_ap, bK_ap, aAnd_ap, andK_t, andK_f, aOr_ap, orK_t, orK_f, aNot_ap, notK_ap, aTru_ap, truK_ap, aYes_ap, aAndV_ap, andVK_t, andVK_f, aOrV_ap, orVK_t, orVK_f, aNotV_ap, notVK_ap, aIf_ap, ifEK_t, ifEK_f, aNil_ap, aCons_ap, consK_ap, consK2_ap, aCB_ap, cbK_ap, aNoPart_ap, aPart_ap, partK_ap, aSl_ap, slK_ap, slK2_ap, slK3_ap, aBM_ap, bmK_ap, bmK2_ap, aBM0_ap, bmK0_ap, aPut_ap, putK_ap, putK1_ap, putK2_ap, aFor_ap, forK_n, aRng1_ap, aRng2_ap, aIt_ap, itK_l, itK_t, itK_s, itK_x, itK_c, itK_f, aCallG_ap, List.getElem?_cons_zero, List.getElem?_cons_succ, List.set_cons_zero, List.set_cons_succ, List.length_cons, List.length_nil, Nat.zero_add, Nat.reduceAdd, Option.map_some, Option.map_none, Option.bind_some, Option.bind_none, List.map_cons, List.map_nil, aName, aNameF, fz, rtv, wAt, toM, vw, frz_lst, frz_d, lvs_map, oIx2_var, ixV_w, ixV_p, ixV_k, ixL_some, lfAt_nat, lf_d, oIx2_l, oIx2_t, Y.atI_nat, putF_var, putV_w, putV_p, oEq_int, oNe_int, oLtA_int, oIntA_int, oIntA_bool, oLenV_l, oLenV_t, oI0_ap, oB0_ap, oAdd_int, rNeg, lfAt_0, stL_0, Y.atI_0, lfAt_1, stL_1, Y.atI_1, lfAt_2, stL_2, Y.atI_2, lfAt_3, stL_3, Y.atI_3, lfAt_4, stL_4, Y.atI_4, lfAt_5, stL_5, Y.atI_5, lfAt_6, stL_6, Y.atI_6, lfAt_7, stL_7, Y.atI_7, Nat.reduceLeDiff, Int.reduceLT, Int.reduceLE, List.cons_append, List.nil_append, decide_true, decide_false, if_true, if_false, sizeLine_eq, aLc_ap, bestD, oIsN_int, runM_at eb, oLtA_act, e2]
        cases actLt a l[b] <;> first | rfl | (simp only [aSeq_ap, seqK_nx, seqK_rt, seqK_bk, seqK_ct, seqK_none, aNext_ap, aBrk_ap, aCont_ap, aAsg_ap, asgK_ap, nxR_some, aDrop_ap, dropK_ap, aIfS_ap, ifK_t, ifK_f, aRet_ap, retK_ap, rtR_some, aRetN_ap, aKill_ap, List.foldl_cons, List.foldl_nil, sb_okN, bd_okN, mapR_some, aC_ap, aXT_ap, aVar_ap, varK_d, varK_x, varK_w, varK_p, varK_k, aOp_ap, opK_ap, opK2_ap, aFz_ap, aUn_ap, aB_ap, bK_ap, aAnd_ap, andK_t, andK_f, aOr_ap, orK_t, orK_f, aNot_ap, notK_ap, aTru_ap, truK_ap, aYes_ap, aAndV_ap, andVK_t, andVK_f, aOrV_ap, orVK_t, orVK_f, aNotV_ap, notVK_ap, aIf_ap, ifEK_t, ifEK_f, aNil_ap, aCons_ap, consK_ap, consK2_ap, aCB_ap, cbK_ap, aNoPart_ap, aPart_ap, partK_ap, aSl_ap, slK_ap, slK2_ap, slK3_ap, aBM_ap, bmK_ap, bmK2_ap, aBM0_ap, bmK0_ap, aPut_ap, putK_ap, putK1_ap, putK2_ap, aFor_ap, forK_n, aRng1_ap, aRng2_ap, aIt_ap, itK_l, itK_t, itK_s, itK_x, itK_c, itK_f, aCallG_ap, List.getElem?_cons_zero, List.getElem?_cons_succ, List.set_cons_zero, List.set_cons_succ, List.length_cons, List.length_nil, Nat.zero_add, Nat.reduceAdd, Option.map_some, Option.map_none, Option.bind_some, Option.bind_none, List.map_cons, List.map_nil, aName, aNameF, fz, rtv, wAt, toM, vw, frz_lst, frz_d, lvs_map, oIx2_var, ixV_w, ixV_p, ixV_k, ixL_some, lfAt_nat, lf_d, oIx2_l, oIx2_t, Y.atI_nat, putF_var, putV_w, putV_p, oEq_int, oNe_int, oLtA_int, oIntA_int, oIntA_bool, oLenV_l, oLenV_t, oI0_ap, oB0_ap, oAdd_int, rNeg, lfAt_0, stL_0, Y.atI_0, lfAt_1, stL_1, Y.atI_1, lfAt_2, stL_2, Y.atI_2, lfAt_3, stL_3, Y.atI_3, lfAt_4, stL_4, Y.atI_4, lfAt_5, stL_5, Y.atI_5, lfAt_6, stL_6, Y.atI_6, lfAt_7, stL_7, Y.atI_7, Nat.reduceLeDiff, Int.reduceLT, Int.reduceLE, List.cons_append, List.nil_append, decide_true, decide_false, if_true, if_false, sizeLine_eq, aLc_ap, bestD]; rfl)
  · rw [List.length_map, List.length_take]; omega
  · rfl
  · intro x hx
    obtain ⟨b, hb, rfl⟩ := List.mem_map.mp hx
    refine ⟨_, [some (.d r), some (.k (.lst ((runL l).map MV.d))), some (.w (.lst f)), some (.d (bestD o)), some (.d (.int (i : Nat))), some (.d (actD a)), some (.d (actD b))], rfl, ?_, fun _ => ⟨.d (actD b), [some (.d r), some (.k (.lst ((runL l).map MV.d))), some (.w (.lst f)), some (.d (bestD o)), some (.d (.int (i : Nat))), some (.d (actD a)), some (.d (actD b))], [some (.d r), some (.k (.lst ((runL l).map MV.d))), some (.w (.lst f)), some (.d (bestD o)), some (.d (.int (i : Nat))), some (.d (actD a)), some (.d (actD b))], rfl, rfl, rfl⟩, fun _ => rfl⟩
    show aNot _ [some (.d r), some (.k (.lst ((runL l).map MV.d))), some (.w (.lst f)), some (.d (bestD o)), some (.d (.int (i : Nat))), some (.d (actD a)), some (.d (actD b))] = some (.ok (!apartB b a) _)
    simp only [aSeq_ap, seqK_nx, seqK_rt, seqK_bk, seqK_ct, seqK_none, aNext_ap, aBrk_ap, aCont_ap, aAsg_ap, asgK_ap, nxR_some, aDrop_ap, dropK_ap, aIfS_ap, ifK_t, ifK_f, aRet_ap, retK_ap, rtR_some, aRetN_ap, aKill_ap, List.foldl_cons, List.foldl_nil, sb_okN, bd_okN, mapR_some, aC_ap, aXT_ap, aVar_ap, varK_d, varK_x, varK_w, varK_p, varK_k, aOp_ap, opK_ap, opK2_ap, aFz_ap, aUn_ap, aB_ap, bK_ap, aAnd_ap, andK_t, andK_f, aOr_ap, orK_t, orK_f, aNot_ap, notK_ap, aTru_ap, truK_ap, aYes_ap, aAndV_ap, andVK_t, andVK_f, aOrV_ap, orVK_t, orVK_f, aNotV_ap, notVK_ap, aIf_ap, ifEK_t, ifEK_f, aNil_ap, aCons_ap, consK_ap, consK2_ap, aCB_ap, cbK_ap, aNoPart_ap, aPart_ap, partK_ap, aSl_ap, slK_ap, slK2_ap, slK3_ap, aBM_ap, bmK_ap, bmK2_ap, aBM0_ap, bmK0_ap, aPut_ap, putK_ap, putK1_ap, putK2_ap, aFor_ap, forK_n, aRng1_ap, aRng2_ap, aIt_ap, itK_l, itK_t, itK_s, itK_x, itK_c, itK_f, aCallG_ap, List.getElem?_cons_zero, List.getElem?_cons_succ, List.set_cons_zero, List.set_cons_succ, List.length_cons, List.length_nil, Nat.zero_add, Nat.reduceAdd, Option.map_some, Option.map_none, Option.bind_some, Option.bind_none, List.map_cons, List.map_nil, aName, aNameF, fz, rtv, wAt, toM, vw, frz_lst, frz_d, lvs_map, oIx2_var, ixV_w, ixV_p, ixV_k, ixL_some, lfAt_nat, lf_d, oIx2_l, oIx2_t, Y.atI_nat, putF_var, putV_w, putV_p, oEq_int, oNe_int, oLtA_int, oIntA_int, oIntA_bool, oLenV_l, oLenV_t, oI0_ap, oB0_ap, oAdd_int, rNeg, lfAt_0, stL_0, Y.atI_0, lfAt_1, stL_1, Y.atI_1, lfAt_2, stL_2, Y.atI_2, lfAt_3, stL_3, Y.atI_3, lfAt_4, stL_4, Y.atI_4, lfAt_5, stL_5, Y.atI_5, lfAt_6, stL_6, Y.atI_6, lfAt_7, stL_7, Y.atI_7, Nat.reduceLeDiff, Int.reduceLT, Int.reduceLE, List.cons_append, List.nil_append, decide_true, decide_false, if_true, if_false, sizeLine_eq, aLc_ap, apart_call2 (rd_are_apart _ _)]
theorem lockd_w {s s' : SL} {i : Nat} {m : MV} {F : SL → Option SR} (h : s[i]? = some (some (.w m))) (e : F (s.set i (some (.k m))) = some (.nx s')) (h' : s'[i]? = some (some (.k m))) : lockd (some i) F s = some (.nx (s'.set i (some (.w m)))) := by
  show (match s[i]? with
    | some (some (.w m)) => unlR i false (F (s.set i (some (.k m))))
    | some (some (.p m)) => unlR i true (F (s.set i (some (.k m))))
    | _ => none) = _
  rw [h]
  show unlR i false (F (s.set i (some (.k m)))) = _
  rw [e]
  show (unl i false s').map SR.nx = _
  unfold unl
  rw [h']
  rfl
theorem bestTo_lt (l : List Act) (n : Nat) : ∀ b, bestTo l n = some b → b < n := fun b e => by
  rcases bestTo_spec l n with ⟨h, _⟩ | ⟨b', h, h2, _⟩
  · rw [h] at e; cases e
  · rw [h] at e; cases e; exact h2
theorem lo_scan {r : PyData} {l : List Act} {f : List MV} (hl : l.length ≤ 1000) (hok : ∀ a ∈ l, ActOk a) :
  forGo (aGTup 2 (aGCons (aNameF 4) (aGCons (aNameF 5) aGNil))) f_least_order_0 (enumD (runL l)) [some (.d r), some (.k (.lst ((runL l).map MV.d))), some (.w (.lst f)), some (.d .none), none, none, none] = some (.nx [some (.d r), some (.k (.lst ((runL l).map MV.d))), some (.w (.lst f)), some (.d (bestD (bestTo l l.length))), none, none, none]) := by
  obtain ⟨s', e, hs⟩ := forGo_inv (Ga := aGTup 2 (aGCons (aNameF 4) (aGCons (aNameF 5) aGNil))) (S := f_least_order_0) (ds := enumD (runL l)) (fun i s => s = [some (.d r), some (.k (.lst ((runL l).map MV.d))), some (.w (.lst f)), some (.d (bestD (bestTo l i))), none, none, none]) (fun i d s hd hp => by
    subst hp
    have hi : i < l.length := by
      have := (List.getElem?_eq_some_iff.mp hd).1
      rwa [enumD_len, List.length_map] at this
    have ea := List.getElem?_eq_getElem hi
    rw [enumD_get (runL_at ea)] at hd
    cases hd
    exact ⟨_, _, rfl, .inl (lo_inner ea hl (fun b hb => Nat.lt_trans (bestTo_lt l i b hb) hi) hok), rfl⟩) (s := [some (.d r), some (.k (.lst ((runL l).map MV.d))), some (.w (.lst f)), some (.d .none), none, none, none]) rfl
  rw [enumD_len, List.length_map] at hs
  rw [← hs]
  exact e
theorem erase_runL (l : List Act) (k : Nat) : (runL l).eraseIdx k = runL (l.eraseIdx k) := by
  unfold runL
  rw [List.eraseIdx_eq_take_drop_succ, List.eraseIdx_eq_take_drop_succ, List.map_append, List.map_take, List.map_drop]
theorem snoc_runL (f : List Act) (a : Act) : (runL f).map MV.d ++ [MV.d (actD a)] = (runL (f ++ [a])).map MV.d := by simp
theorem popAt_w {s : SL} {l : List Act} {k : Nat} {a : Act} (h : s[1]? = some (some (.w (.lst ((runL l).map MV.d))))) (hk : l[k]? = some a) (hl : l.length ≤ 1000) : mPopAt s (.var 1) [.d (.int (k : Nat))] = some (.d (actD a), s.set 1 (some (.w (.lst ((runL (l.eraseIdx k)).map MV.d))))) := by
  obtain ⟨hlt, _⟩ := List.getElem?_eq_some_iff.mp hk
  have ew : wAt s 1 = some (.lst ((runL l).map MV.d)) := by unfold wAt; rw [h]
  have ep : ∀ m, Y.putAt s 1 m = s.set 1 (some (.w m)) := fun m => by unfold Y.putAt; rw [h]
  have el : plL s (.var 1) = some (⟨s, 1, .lst ((runL l).map MV.d), fun x => x⟩, runL l) := by
    unfold plL
    show ((wAt s 1).map fun m => Pl.mk s 1 m fun x => x).bind _ = _
    rw [ew]
    show (lvs ((runL l).map MV.d)).map _ = _
    rw [lvs_map]
    rfl
  have ei : seqIndex? (k : Nat) (runL l).length = some k := by
    unfold seqIndex?
    rw [List.length_map]
    have e0 : ¬ ((k : Nat) : Int) < 0 := by omega
    simp only [e0, if_false]
    rw [if_pos (by rw [Bool.and_eq_true, decide_eq_true_eq, decide_eq_true_eq]; omega)]
    rfl
  show (plL s (.var 1)).bind (fun q => if -(2 ^ 63) ≤ ((k : Nat) : Int) ∧ ((k : Nat) : Int) < 2 ^ 63 then (seqIndex? (k : Nat) q.2.length).bind fun k => (q.2[k]?).map fun y => (TV.d y, q.1.w (.lst ((q.2.eraseIdx k).map MV.d))) else none) = _
  rw [el, Option.bind_some, if_pos (by omega)]
  dsimp only
  rw [ei, Option.bind_some, runL_at hk]
  show some (TV.d (actD a), Y.putAt s 1 (.lst (((runL l).eraseIdx k).map MV.d))) = _
  rw [ep]
  have : (runL l).eraseIdx k = runL (l.eraseIdx k) := erase_runL l k
  rw [this]
theorem lo_round {r : PyData} {l f : List Act} {k : Nat} {a : Act} (hb : bestTo l l.length = some k) (hk : l[k]? = some a) (hl : l.length ≤ 1000) (hf : f.length ≤ 1000) (hok : ∀ a ∈ l, ActOk a) :
  f_least_order_1 [some (.d r), some (.w (.lst ((runL l).map MV.d))), some (.w (.lst ((runL f).map MV.d))), none, none, none, none] = some (.nx [some (.d r), some (.w (.lst ((runL (l.eraseIdx k)).map MV.d))), some (.w (.lst ((runL (f ++ [a])).map MV.d))), none, none, none, none]) := by
  have he : aEnum (aCons (aVar 1) aNil) [some (.d r), some (.w (.lst ((runL l).map MV.d))), some (.w (.lst ((runL f).map MV.d))), some (.d .none), none, none, none] = some (.ok (enumD (runL l), some 1) [some (.d r), some (.w (.lst ((runL l).map MV.d))), some (.w (.lst ((runL f).map MV.d))), some (.d .none), none, none, none]) := by
    show ((lvs ((runL l).map MV.d)).map fun ds => Res.ok (enumD ds, some 1) _) = _
    rw [lvs_map]
    rfl
  have hs := lo_scan (r := r) (f := (runL f).map MV.d) hl hok
  rw [hb] at hs
  have hf2 : f.length < 16777216 := by omega
  unfold f_least_order_1
  simp only [aSeq_ap, seqK_nx, seqK_rt, seqK_bk, seqK_ct, seqK_none, aNext_ap, aBrk_ap, aCont_ap, aAsg_ap, asgK_ap, nxR_some, aDrop_ap, dropK_ap, aIfS_ap, ifK_t, ifK_f, aRet_ap, retK_ap, rtR_some, aRetN_ap, aKill_ap, List.foldl_cons, List.foldl_nil, sb_okN, bd_okN, mapR_some, aC_ap, aXT_ap, aVar_ap, varK_d, varK_x, varK_w, varK_p, varK_k, aOp_ap, opK_ap, opK2_ap, aFz_ap, aUn_ap, aB_ap, bK_ap, aAnd_ap, andK_t, andK_f, aOr_ap, orK_t, orK_f, aNot_ap, notK_ap, aTru_ap, truK_ap, aYes_ap, aAndV_ap, andVK_t, andVK_f, aOrV_ap, orVK_t, orVK_f, aNotV_ap, notVK_ap, aIf_ap, ifEK_t, ifEK_f, aNil_ap, aCons_ap, consK_ap, consK2_ap, aCB_ap, cbK_ap, aNoPart_ap, aPart_ap, partK_ap, aSl_ap, slK_ap, slK2_ap, slK3_ap, aBM_ap, bmK_ap, bmK2_ap, aBM0_ap, bmK0_ap, aPut_ap, putK_ap, putK1_ap, putK2_ap, aFor_ap, forK_n, aRng1_ap, aRng2_ap, aIt_ap, itK_l, itK_t, itK_s, itK_x, itK_c, itK_f, aCallG_ap, List.getElem?_cons_zero, List.getElem?_cons_succ, List.set_cons_zero, List.set_cons_succ, List.length_cons, List.length_nil, Nat.zero_add, Nat.reduceAdd, Option.map_some, Option.map_none, Option.bind_some, Option.bind_none, List.map_cons, List.map_nil, aName, aNameF, fz, rtv, wAt, toM, vw, frz_lst, frz_d, lvs_map, oIx2_var, ixV_w, ixV_p, ixV_k, ixL_some, lfAt_nat, lf_d, oIx2_l, oIx2_t, Y.atI_nat, putF_var, putV_w, putV_p, oEq_int, oNe_int, oLtA_int, oIntA_int, oIntA_bool, oLenV_l, oLenV_t, oI0_ap, oB0_ap, oAdd_int, rNeg, lfAt_0, stL_0, Y.atI_0, lfAt_1, stL_1, Y.atI_1, lfAt_2, stL_2, Y.atI_2, lfAt_3, stL_3, Y.atI_3, lfAt_4, stL_4, Y.atI_4, lfAt_5, stL_5, Y.atI_5, lfAt_6, stL_6, Y.atI_6, lfAt_7, stL_7, Y.atI_7, Nat.reduceLeDiff, Int.reduceLT, Int.reduceLE, List.cons_append, List.nil_append, decide_true, decide_false, if_true, if_false, sizeLine_eq, aLc_ap, he, forK_s]
  rw [lockd_w (m := .lst ((runL l).map MV.d)) rfl hs rfl]
  simp only [aSeq_ap, seqK_nx, seqK_rt, seqK_bk, seqK_ct, seqK_none, aNext_ap, aBrk_ap, aCont_ap, aAsg_ap, asgK_ap, nxR_some, aDrop_ap, dropK_ap, aIfS_ap, ifK_t, ifK_f, aRet_ap, retK_ap, rtR_some, aRetN_ap, aKill_ap, List.foldl_cons, List.foldl_nil, sb_okN, bd_okN, mapR_some, aC_ap, aXT_ap, aVar_ap, varK_d, varK_x, varK_w, varK_p, varK_k, aOp_ap, opK_ap, opK2_ap, aFz_ap, aUn_ap, aB_ap, bK_ap, aAnd_ap, andK_t, andK_f, aOr_ap, orK_t, orK_f, aNot_ap, notK_ap, aTru_ap, truK_ap, aYes_ap, aAndV_ap, andVK_t, andVK_f, aOrV_ap, orVK_t, orVK_f, aNotV_ap, notVK_ap, aIf_ap, ifEK_t, ifEK_f, aNil_ap, aCons_ap, consK_ap, consK2_ap, aCB_ap, cbK_ap, aNoPart_ap, aPart_ap, partK_ap, aSl_ap, slK_ap, slK2_ap, slK3_ap, aBM_ap, bmK_ap, bmK2_ap, aBM0_ap, bmK0_ap, aPut_ap, putK_ap, putK1_ap, putK2_ap, aFor_ap, forK_n, aRng1_ap, aRng2_ap, aIt_ap, itK_l, itK_t, itK_s, itK_x, itK_c, itK_f, aCallG_ap, List.getElem?_cons_zero, List.getElem?_cons_succ, List.set_cons_zero, List.set_cons_succ, List.length_cons, List.length_nil, Nat.zero_add, Nat.reduceAdd, Option.map_some, Option.map_none, Option.bind_some, Option.bind_none, List.map_cons, List.map_nil, aName, aNameF, fz, rtv, wAt, toM, vw, frz_lst, frz_d, lvs_map, oIx2_var, ixV_w, ixV_p, ixV_k, ixL_some, lfAt_nat, lf_d, oIx2_l, oIx2_t, Y.atI_nat, putF_var, putV_w, putV_p, oEq_int, oNe_int, oLtA_int, oIntA_int, oIntA_bool, oLenV_l, oLenV_t, oI0_ap, oB0_ap, oAdd_int, rNeg, lfAt_0, stL_0, Y.atI_0, lfAt_1, stL_1, Y.atI_1, lfAt_2, stL_2, Y.atI_2, lfAt_3, stL_3, Y.atI_3, lfAt_4, stL_4, Y.atI_4, lfAt_5, stL_5, Y.atI_5, lfAt_6, stL_6, Y.atI_6, lfAt_7, stL_7, Y.atI_7, Nat.reduceLeDiff, Int.reduceLT, Int.reduceLE, List.cons_append, List.nil_append, decide_true, decide_false, if_true, if_false, sizeLine_eq, aLc_ap, bestD]
  rw [popAt_w rfl hk hl]
  simp only [aSeq_ap, seqK_nx, seqK_rt, seqK_bk, seqK_ct, seqK_none, aNext_ap, aBrk_ap, aCont_ap, aAsg_ap, asgK_ap, nxR_some, aDrop_ap, dropK_ap, aIfS_ap, ifK_t, ifK_f, aRet_ap, retK_ap, rtR_some, aRetN_ap, aKill_ap, List.foldl_cons, List.foldl_nil, sb_okN, bd_okN, mapR_some, aC_ap, aXT_ap, aVar_ap, varK_d, varK_x, varK_w, varK_p, varK_k, aOp_ap, opK_ap, opK2_ap, aFz_ap, aUn_ap, aB_ap, bK_ap, aAnd_ap, andK_t, andK_f, aOr_ap, orK_t, orK_f, aNot_ap, notK_ap, aTru_ap, truK_ap, aYes_ap, aAndV_ap, andVK_t, andVK_f, aOrV_ap, orVK_t, orVK_f, aNotV_ap, notVK_ap, aIf_ap, ifEK_t, ifEK_f, aNil_ap, aCons_ap, consK_ap, consK2_ap, aCB_ap, cbK_ap, aNoPart_ap, aPart_ap, partK_ap, aSl_ap, slK_ap, slK2_ap, slK3_ap, aBM_ap, bmK_ap, bmK2_ap, aBM0_ap, bmK0_ap, aPut_ap, putK_ap, putK1_ap, putK2_ap, aFor_ap, forK_n, aRng1_ap, aRng2_ap, aIt_ap, itK_l, itK_t, itK_s, itK_x, itK_c, itK_f, aCallG_ap, List.getElem?_cons_zero, List.getElem?_cons_succ, List.set_cons_zero, List.set_cons_succ, List.length_cons, List.length_nil, Nat.zero_add, Nat.reduceAdd, Option.map_some, Option.map_none, Option.bind_some, Option.bind_none, List.map_cons, List.map_nil, aName, aNameF, fz, rtv, wAt, toM, vw, frz_lst, frz_d, lvs_map, oIx2_var, ixV_w, ixV_p, ixV_k, ixL_some, lfAt_nat, lf_d, oIx2_l, oIx2_t, Y.atI_nat, putF_var, putV_w, putV_p, oEq_int, oNe_int, oLtA_int, oIntA_int, oIntA_bool, oLenV_l, oLenV_t, oI0_ap, oB0_ap, oAdd_int, rNeg, lfAt_0, stL_0, Y.atI_0, lfAt_1, stL_1, Y.atI_1, lfAt_2, stL_2, Y.atI_2, lfAt_3, stL_3, Y.atI_3, lfAt_4, stL_4, Y.atI_4, lfAt_5, stL_5, Y.atI_5, lfAt_6, stL_6, Y.atI_6, lfAt_7, stL_7, Y.atI_7, Nat.reduceLeDiff, Int.reduceLT, Int.reduceLE, List.cons_append, List.nil_append, decide_true, decide_false, if_true, if_false, sizeLine_eq, aLc_ap, tyA, beq_self_eq_true, mAppend_d, apV_w, List.length_map, if_pos hf2]
  rw [snoc_runL]
theorem truA_w {s : SL} {i : Nat} {ds : List PyData} (h : vw s (.var i) = some (.lst (ds.map MV.d))) : truA s (.var i) = some (!ds.isEmpty) := by
  have e1 : seqL s (.var i) = some (ds.map MV.d) := by unfold seqL; dsimp only; rw [h]
  show (match seqL s (.var i) with
    | some xs => some (!List.isEmpty xs)
    | none => (seqT s (.var i)).map fun xs => !List.isEmpty xs) = _
  rw [e1]
  cases ds <;> rfl
theorem lo_whole {r : List Act} (hl : r.length ≤ 1000) (hok : ∀ a ∈ r, ActOk a) :
  aWhile (aTru (aVar 1)) f_least_order_1 [some (.d (runD r)), some (.w (.lst ((runL r).map MV.d))), some (.w (.lst [])), none, none, none, none] = some (.nx [some (.d (runD r)), some (.w (.lst [])), some (.w (.lst ((runL (lo r)).map MV.d))), none, none, none, none]) := by
  obtain ⟨s', e, hs⟩ := aWhile_inv (C := aTru (aVar 1)) (S := f_least_order_1) (fun n s => ∃ l f : List Act, l.length = n ∧ l.length ≤ 1000 ∧ f.length + l.length = r.length ∧ (∀ a ∈ l, ActOk a) ∧ f ++ lo l = lo r ∧ s = [some (.d (runD r)), some (.w (.lst ((runL l).map MV.d))), some (.w (.lst ((runL f).map MV.d))), none, none, none, none]) (fun s => s = [some (.d (runD r)), some (.w (.lst [])), some (.w (.lst ((runL (lo r)).map MV.d))), none, none, none, none]) (fun n s hp => by
    obtain ⟨l, f, h1, h2, h3, h4, h5, rfl⟩ := hp
    have et : aTru (aVar 1) [some (.d (runD r)), some (.w (.lst ((runL l).map MV.d))), some (.w (.lst ((runL f).map MV.d))), none, none, none, none] = some (.ok (!(runL l).isEmpty) [some (.d (runD r)), some (.w (.lst ((runL l).map MV.d))), some (.w (.lst ((runL f).map MV.d))), none, none, none, none]) := by
      show (truA [some (.d (runD r)), some (.w (.lst ((runL l).map MV.d))), some (.w (.lst ((runL f).map MV.d))), none, none, none, none] (.var 1)).map (fun b => Res.ok b _) = _
      rw [truA_w (ds := runL l) rfl]
      rfl
    by_cases hn : l = []
    · subst hn
      rw [lo_nil, List.append_nil] at h5
      exact .inl ⟨_, et, by rw [h5]; rfl⟩
    · obtain ⟨k, a, k1, k2, k3, k4, _⟩ := lo_cons hn
      have hlt := freeB_lt k2
      have le : (l.eraseIdx k).length = l.length - 1 := List.length_eraseIdx_of_lt hlt
      have hne : (!(runL l).isEmpty) = true := by cases l with
        | nil => exact absurd rfl hn
        | cons a x => rfl
      rw [hne] at et
      refine .inr ⟨_, _, et, .inl (lo_round k1 k3 h2 (by omega) h4), (l.eraseIdx k).length, by omega, l.eraseIdx k, f ++ [a], rfl, by omega, by rw [List.length_append]; show _ + 1 + _ = _; omega, fun b hb => h4 b (List.mem_of_mem_eraseIdx hb), ?_, rfl⟩
      rw [List.append_assoc]
      show f ++ (a :: lo (l.eraseIdx k)) = _
      rw [← k4, h5]) (n := r.length) (s := [some (.d (runD r)), some (.w (.lst ((runL r).map MV.d))), some (.w (.lst [])), none, none, none, none]) ⟨r, [], rfl, hl, by simp, hok, rfl, rfl⟩
  rw [← hs]
  exact e
theorem oList_run {s : SL} (r : List Act) : oList s [.d (runD r)] = some (.t (.lst ((runL r).map MV.d)), s) := by
  show (itemsD s (.d (runD r))).map _ = _
  have : itemsD s (.d (runD r)) = some (runL r) := lvs_map _
  rw [this]
  rfl
theorem rd_least_order {r : List Act} (hl : r.length ≤ 1000) (hok : ∀ a ∈ r, ActOk a) : den_least_order [.d (runD r)] = some (.ok (.t (.lst ((runL (lo r)).map MV.d))) [none]) := by
  have hb : b_least_order [some (.d (runD r)), none, none, none, none, none, none] = some (.rt (.t (.lst ((runL (lo r)).map MV.d))) [some (.d (runD r)), some (.w (.lst [])), none, none, none, none, none]) := by
    unfold b_least_order
    simp only [aSeq_ap, seqK_nx, seqK_rt, seqK_bk, seqK_ct, seqK_none, aNext_ap, aBrk_ap, aCont_ap, aAsg_ap, asgK_ap, nxR_some, aDrop_ap, dropK_ap, aIfS_ap, ifK_t, ifK_f, aRet_ap, retK_ap, rtR_some, aRetN_ap, aKill_ap, List.foldl_cons, List.foldl_nil, sb_okN, bd_okN, mapR_some, aC_ap, aXT_ap, aVar_ap, varK_d, varK_x, varK_w, varK_p, varK_k, aOp_ap, opK_ap, opK2_ap, aFz_ap, aUn_ap, aB_ap, bK_ap, aAnd_ap, andK_t, andK_f, aOr_ap, orK_t, orK_f, aNot_ap, notK_ap, aTru_ap, truK_ap, aYes_ap, aAndV_ap, andVK_t, andVK_f, aOrV_ap, orVK_t, orVK_f, aNotV_ap, notVK_ap, aIf_ap, ifEK_t, ifEK_f, aNil_ap, aCons_ap, consK_ap, consK2_ap, aCB_ap, cbK_ap, aNoPart_ap, aPart_ap, partK_ap, aSl_ap, slK_ap, slK2_ap, slK3_ap, aBM_ap, bmK_ap, bmK2_ap, aBM0_ap, bmK0_ap, aPut_ap, putK_ap, putK1_ap, putK2_ap, aFor_ap, forK_n, aRng1_ap, aRng2_ap, aIt_ap, itK_l, itK_t, itK_s, itK_x, itK_c, itK_f, aCallG_ap, List.getElem?_cons_zero, List.getElem?_cons_succ, List.set_cons_zero, List.set_cons_succ, List.length_cons, List.length_nil, Nat.zero_add, Nat.reduceAdd, Option.map_some, Option.map_none, Option.bind_some, Option.bind_none, List.map_cons, List.map_nil, aName, aNameF, fz, rtv, wAt, toM, vw, frz_lst, frz_d, lvs_map, oIx2_var, ixV_w, ixV_p, ixV_k, ixL_some, lfAt_nat, lf_d, oIx2_l, oIx2_t, Y.atI_nat, putF_var, putV_w, putV_p, oEq_int, oNe_int, oLtA_int, oIntA_int, oIntA_bool, oLenV_l, oLenV_t, oI0_ap, oB0_ap, oAdd_int, rNeg, lfAt_0, stL_0, Y.atI_0, lfAt_1, stL_1, Y.atI_1, lfAt_2, stL_2, Y.atI_2, lfAt_3, stL_3, Y.atI_3, lfAt_4, stL_4, Y.atI_4, lfAt_5, stL_5, Y.atI_5, lfAt_6, stL_6, Y.atI_6, lfAt_7, stL_7, Y.atI_7, Nat.reduceLeDiff, Int.reduceLT, Int.reduceLE, List.cons_append, List.nil_append, decide_true, decide_false, if_true, if_false, sizeLine_eq, aLc_ap, oList_run, oLst_nil, lo_whole hl hok]
  have hs : start0 7 [.d (runD r)] = [some (.d (runD r)), none, none, none, none, none, none] := rfl
  unfold den_least_order Y.run
  rw [hs, hb]
  rfl

end Lw

namespace Lw
open PySem PySem.Spec PyProof.Rows L2 Y PySem.W TL
/-! ### _law_least -/
def dfA : Act := ("", "", "")
def pairD (l : List Act) (k : Nat) : PyData := .tuple [actD ((l[k]?).getD dfA), .int (k : Nat)]
def lePl (a : Act) (l : List Act) : PyData → Bool
  | .int j => (match l[j.toNat]? with
    | some b => !apartB b a
    | none => false)
  | _ => false
theorem rng_mem {n : Nat} {x : PyData} (h : x ∈ rng 0 n) : ∃ i, i < n ∧ x = .int (i : Nat) := by
  obtain ⟨i, h⟩ := List.getElem?_of_mem h
  obtain ⟨e, h2⟩ := rng_get0 h
  exact ⟨i, h2, e⟩
theorem mem_rng {n i : Nat} (h : i < n) : PyData.int (i : Nat) ∈ rng 0 n := by
  unfold rng
  exact List.mem_map.mpr ⟨i, List.mem_range.mpr h, by rw [Int.zero_add]⟩
theorem free_cnt {l : List Act} {i : Nat} {a : Act} (hi : l[i]? = some a) : decide (((((rng 0 i).filter (lePl a l)).length : Nat) : Int) = 0) = freeB l i := by
  unfold freeB
  rw [hi]
  dsimp only
  rw [Bool.eq_iff_iff, decide_eq_true_eq, List.all_eq_true]
  have hz : (((((rng 0 i).filter (lePl a l)).length : Nat) : Int) = 0) ↔ (rng 0 i).filter (lePl a l) = [] := by
    rw [← List.length_eq_zero_iff]
    omega
  rw [hz, List.filter_eq_nil_iff]
  constructor
  · intro h b hb
    obtain ⟨j, hj⟩ := List.getElem?_of_mem hb
    obtain ⟨h1, _⟩ := List.getElem?_eq_some_iff.mp hj
    rw [List.length_take] at h1
    rw [List.getElem?_take, if_pos (by omega)] at hj
    have := h _ (mem_rng (show j < i by omega))
    unfold lePl at this
    dsimp only at this
    rw [show ((j : Nat) : Int).toNat = j by omega, hj] at this
    dsimp only at this
    cases g : apartB b a with
    | true => rfl
    | false => rw [g] at this; exact absurd rfl this
  · intro h x hx
    obtain ⟨j, hj, rfl⟩ := rng_mem hx
    unfold lePl
    dsimp only
    rw [show ((j : Nat) : Int).toNat = j by omega]
    cases e : l[j]? with
    | none => exact Bool.false_ne_true
    | some b =>
      dsimp only
      have : b ∈ l.take i := List.mem_of_getElem? (i := j) (by rw [List.getElem?_take, if_pos hj, e])
      rw [h b this]
      exact Bool.false_ne_true
theorem minD_free {l : List Act} : ∀ n, n ≤ l.length → match freeTo l n with
    | [] => bestTo l n = none
    | x :: xs => ∃ b, bestTo l n = some b ∧ minD (pairD l x) (xs.map (pairD l)) = pairD l b
  | 0, _ => rfl
  | n + 1, hn => by
    have ih := minD_free (l := l) n (by omega)
    have hbt : bestTo l (n + 1) = if freeB l n = true then (match bestTo l n with
      | none => some n
      | some b => if ltAt l n b = true then some n else some b) else bestTo l n := rfl
    have hft : freeTo l (n + 1) = freeTo l n ++ if freeB l n = true then [n] else [] := rfl
    rw [hbt, hft]
    cases hf : freeB l n with
    | false =>
      rw [if_neg Bool.false_ne_true, if_neg Bool.false_ne_true, List.append_nil]
      exact ih
    | true =>
      rw [if_pos rfl, if_pos rfl]
      cases hx : freeTo l n with
      | nil =>
        rw [hx] at ih
        dsimp only at ih
        rw [ih]
        exact ⟨n, rfl, rfl⟩
      | cons x xs =>
        rw [hx] at ih
        dsimp only at ih
        obtain ⟨b, hb, hm⟩ := ih
        rw [hb]
        rw [List.cons_append]
        dsimp only
        have e2 : minD (pairD l x) ((xs ++ [n]).map (pairD l)) = if dataLt (pairD l n) (pairD l b) = true then pairD l n else pairD l b := by
          unfold minD at hm ⊢
          rw [List.map_append, List.foldl_append, hm]
          rfl
        have hbn := bestTo_lt l n b hb
        have en := List.getElem?_eq_getElem (show n < l.length by omega)
        have eb := List.getElem?_eq_getElem (show b < l.length by omega)
        have e3 : dataLt (pairD l n) (pairD l b) = ltAt l n b := by
          unfold pairD ltAt
          rw [en, eb, Option.getD_some, Option.getD_some, dataLt_pair (alike_act _ _) rfl, eqv_actD]
          dsimp only
          by_cases h : l[n] = l[b]
          · rw [if_pos (decide_eq_true h), h, actLt_irr]
            by_cases h2 : PyData.eqv (.int ((n : Nat) : Int)) (.int ((b : Nat) : Int)) = true
            · rw [if_pos h2]
            · rw [if_neg h2, dataLt_int]
              exact decide_eq_false (by omega)
          · rw [if_neg (by rw [decide_eq_false h]; decide)]
            rfl
        rw [e2, e3]
        by_cases h : ltAt l n b = true
        · rw [if_pos h, if_pos h]; exact ⟨n, rfl, rfl⟩
        · rw [if_neg h, if_neg h]; exact ⟨b, rfl, rfl⟩
abbrev freeM (l : List Act) (n : Nat) : List MV := ((freeTo l n).map (pairD l)).map MV.d
theorem oMin_free {s : SL} {l : List Act} {k : Nat} (h : vw s (.var 4) = some (.lst (freeM l l.length))) (hb : bestTo l l.length = some k) : oMin s [.var 4] = some (.d (pairD l k), s) := by
  have hm := minD_free (l := l) l.length (Nat.le_refl _)
  have e1 : oMin2 s [.var 4] = none := rfl
  have e0 : seqL s (.var 4) = some (freeM l l.length) := by unfold seqL; dsimp only; rw [h]
  have e2 : (seqL s (.var 4)).bind lvs = some ((freeTo l l.length).map (pairD l)) := by rw [e0]; exact lvs_map _
  unfold oMin
  rw [e1]
  dsimp only
  unfold oMinD
  dsimp only
  rw [e2]
  cases hx : freeTo l l.length with
  | nil => rw [hx] at hm; dsimp only at hm; rw [hm] at hb; cases hb
  | cons x xs =>
    rw [hx] at hm
    dsimp only at hm
    obtain ⟨b, hb2, hm2⟩ := hm
    rw [hb] at hb2
    cases hb2
    have ha : AlikeAll ((x :: xs).map (pairD l)) := ⟨fun d hd e he => by
      obtain ⟨i, _, rfl⟩ := List.mem_map.mp hd
      obtain ⟨j, _, rfl⟩ := List.mem_map.mp he
      rfl, fun d hd => by
      obtain ⟨i, _, rfl⟩ := List.mem_map.mp hd
      exact fun z => by cases z⟩
    have hd : PyData.depthAll ((x :: xs).map (pairD l)) ≤ 60 := Nat.le_trans (depth_all (n := 3) fun d hd => by
      obtain ⟨i, _, rfl⟩ := List.mem_map.mp hd
      show (1 + max 1 (max 0 0) : Nat) ≤ 3 
      decide) (by omega)
    open Classical in
    show (ite (AlikeAll ((x :: xs).map (pairD l)) ∧ PyData.depthAll ((x :: xs).map (pairD l)) ≤ 60) (some (TV.d (minD (pairD l x) (xs.map (pairD l))), s)) none) = _
    rw [if_pos ⟨ha, hd⟩, hm2]
theorem freeTo_len (l : List Act) : ∀ n, (freeTo l n).length ≤ n
  | 0 => Nat.le_refl _
  | n + 1 => by
    have := freeTo_len l n
    show (freeTo l n ++ _).length ≤ _
    rw [List.length_append]
    split
    · show _ + 1 ≤ _; omega
    · show _ + 0 ≤ _; omega
theorem ll_inner {r : PyData} {l : List Act} {f : List MV} {t : PyData} {i : Nat} {a : Act} (hi : l[i]? = some a) (hl : l.length ≤ 1000) (hr : ∀ s, rngK1 [.d (.int (i : Nat))] s = some (.ok (rng 0 i, none) s)) :
  f__law_least_0 [some (.d r), some (.d (runD l)), some (.w (.lst f)), some (.d t), some (.w (.lst (freeM l i))), some (.d (.int (i : Nat))), none, none] = some (.nx [some (.d r), some (.d (runD l)), some (.w (.lst f)), some (.d t), some (.w (.lst (freeM l (i + 1)))), none, none, none]) := by
  unfold f__law_least_0
  simp only [aSeq_ap, seqK_nx, seqK_rt, seqK_bk, seqK_ct, seqK_none, aNext_ap, aBrk_ap, aCont_ap, aAsg_ap, asgK_ap, nxR_some, aDrop_ap, dropK_ap, aIfS_ap, ifK_t, ifK_f, aRet_ap, retK_ap, rtR_some, aRetN_ap, aKill_ap, List.foldl_cons, List.foldl_nil, sb_okN, bd_okN, mapR_some, aC_ap, aXT_ap, aVar_ap, varK_d, varK_x, varK_w, varK_p, varK_k, aOp_ap, opK_ap, opK2_ap, aFz_ap, aUn_ap, aB_ap, bK_ap, aAnd_ap, andK_t, andK_f, aOr_ap, orK_t, orK_f, aNot_ap, notK_ap, aTru_ap, truK_ap, aYes_ap, aAndV_ap, andVK_t, andVK_f, aOrV_ap, orVK_t, orVK_f, aNotV_ap, notVK_ap, aIf_ap, ifEK_t, ifEK_f, aNil_ap, aCons_ap, consK_ap, consK2_ap, aCB_ap, cbK_ap, aNoPart_ap, aPart_ap, partK_ap, aSl_ap, slK_ap, slK2_ap, slK3_ap, aBM_ap, bmK_ap, bmK2_ap, aBM0_ap, bmK0_ap, aPut_ap, putK_ap, putK1_ap, putK2_ap, aFor_ap, forK_n, aRng1_ap, aRng2_ap, aIt_ap, itK_l, itK_t, itK_s, itK_x, itK_c, itK_f, aCallG_ap, List.getElem?_cons_zero, List.getElem?_cons_succ, List.set_cons_zero, List.set_cons_succ, List.length_cons, List.length_nil, Nat.zero_add, Nat.reduceAdd, Option.map_some, Option.map_none, Option.bind_some, Option.bind_none, List.map_cons, List.map_nil, aName, aNameF, fz, rtv, wAt, toM, vw, frz_lst, frz_d, lvs_map, oIx2_var, ixV_w, ixV_p, ixV_k, ixL_some, lfAt_nat, lf_d, oIx2_l, oIx2_t, Y.atI_nat, putF_var, putV_w, putV_p, oEq_int, oNe_int, oLtA_int, oIntA_int, oIntA_bool, oLenV_l, oLenV_t, oI0_ap, oB0_ap, oAdd_int, rNeg, lfAt_0, stL_0, Y.atI_0, lfAt_1, stL_1, Y.atI_1, lfAt_2, stL_2, Y.atI_2, lfAt_3, stL_3, Y.atI_3, lfAt_4, stL_4, Y.atI_4, lfAt_5, stL_5, Y.atI_5, lfAt_6, stL_6, Y.atI_6, lfAt_7, stL_7, Y.atI_7, Nat.reduceLeDiff, Int.reduceLT, Int.reduceLE, List.cons_append, List.nil_append, decide_true, decide_false, if_true, if_false, sizeLine_eq, aLc_ap, hr]
  rw [lcK_map (lePl a l) MV.d]
  · simp only [aSeq_ap, seqK_nx, seqK_rt, seqK_bk, seqK_ct, seqK_none, aNext_ap, aBrk_ap, aCont_ap, aAsg_ap, asgK_ap, nxR_some, aDrop_ap, dropK_ap, aIfS_ap, ifK_t, ifK_f, aRet_ap, retK_ap, rtR_some, aRetN_ap, aKill_ap, List.foldl_cons, List.foldl_nil, sb_okN, bd_okN, mapR_some, aC_ap, aXT_ap, aVar_ap, varK_d, varK_x, varK_w, varK_p, varK_k, aOp_ap, opK_ap, opK2_ap, aFz_ap, aUn_ap, aB_ap, bK_ap, aAnd_ap, andK_t, andK_f, aOr_ap, orK_t, orK_f, aNot_ap, notK_ap, aTru_ap, truK_ap, aYes_ap, aAndV_ap, andVK_t, andVK_f, aOrV_ap, orVK_t, orVK_f, aNotV_ap, notVK_ap, aIf_ap, ifEK_t, ifEK_f, aNil_ap, aCons_ap, consK_ap, consK2_ap, aCB_ap, cbK_ap, aNoPart_ap, aPart_ap, partK_ap, aSl_ap, slK_ap, slK2_ap, slK3_ap, aBM_ap, bmK_ap, bmK2_ap, aBM0_ap, bmK0_ap, aPut_ap, putK_ap, putK1_ap, putK2_ap, aFor_ap, forK_n, aRng1_ap, aRng2_ap, aIt_ap, itK_l, itK_t, itK_s, itK_x, itK_c, itK_f, aCallG_ap, List.getElem?_cons_zero, List.getElem?_cons_succ, List.set_cons_zero, List.set_cons_succ, List.length_cons, List.length_nil, Nat.zero_add, Nat.reduceAdd, Option.map_some, Option.map_none, Option.bind_some, Option.bind_none, List.map_cons, List.map_nil, aName, aNameF, fz, rtv, wAt, toM, vw, frz_lst, frz_d, lvs_map, oIx2_var, ixV_w, ixV_p, ixV_k, ixL_some, lfAt_nat, lf_d, oIx2_l, oIx2_t, Y.atI_nat, putF_var, putV_w, putV_p, oEq_int, oNe_int, oLtA_int, oIntA_int, oIntA_bool, oLenV_l, oLenV_t, oI0_ap, oB0_ap, oAdd_int, rNeg, lfAt_0, stL_0, Y.atI_0, lfAt_1, stL_1, Y.atI_1, lfAt_2, stL_2, Y.atI_2, lfAt_3, stL_3, Y.atI_3, lfAt_4, stL_4, Y.atI_4, lfAt_5, stL_5, Y.atI_5, lfAt_6, stL_6, Y.atI_6, lfAt_7, stL_7, Y.atI_7, Nat.reduceLeDiff, Int.reduceLT, Int.reduceLE, List.cons_append, List.nil_append, decide_true, decide_false, if_true, if_false, sizeLine_eq, aLc_ap, oLenV_tl, free_cnt hi]
    have hfl : freeM l (i + 1) = freeM l i ++ if freeB l i = true then [.d (pairD l i)] else [] := by
      unfold freeM
      rw [show freeTo l (i + 1) = freeTo l i ++ (if freeB l i = true then [i] else []) from rfl, List.map_append, List.map_append]
      cases freeB l i <;> rfl
    rw [hfl]
    cases hf : freeB l i with
    | false =>
      rw [if_neg Bool.false_ne_true, List.append_nil]
      simp only [aSeq_ap, seqK_nx, seqK_rt, seqK_bk, seqK_ct, seqK_none, aNext_ap, aBrk_ap, aCont_ap, aAsg_ap, asgK_ap, nxR_some, aDrop_ap, dropK_ap, aIfS_ap, ifK_t, ifK_f, aRet_ap, retK_ap, rtR_some, aRetN_ap, aKill_ap, List.foldl_cons, List.foldl_nil, sb_okN, bd_okN, mapR_some, aC_ap, aXT_ap, aVar_ap, varK_d, varK_x, varK_w, varK_p, varK_k, aOp_ap, opK_ap, opK2_ap, aFz_ap, aUn_ap, aB_ap, bK_ap, aAnd_ap, andK_t, andK_f, aOr_ap, orK_t, orK_f, aNot_ap, notK_ap, aTru_ap, truK_ap, aYes_ap, aAndV_ap, andVK_t, andVK_f, aOrV_ap, orVK_t, orVK_f, aNotV_ap, notVK_ap, aIf_ap, ifEK_t, ifEK_f, aNil_ap, aCons_ap, consK_ap, consK2_ap, aCB_ap, cbK_ap, aNoPart_ap, aPart_ap, partK_ap, aSl_ap, slK_ap, slK2_ap, slK3_ap, aBM_ap, bmK_ap, bmK2_ap, aBM0_ap, bmK0_ap, aPut_ap, putK_ap, putK1_ap, putK2_ap, aFor_ap, forK_n, aRng1_ap, aRng2_ap, aIt_ap, itK_l, itK_t, itK_s, itK_x, itK_c, itK_f, aCallG_ap, List.getElem?_cons_zero, List.getElem?_cons_succ, List.set_cons_zero, List.set_cons_succ, List.length_cons, List.length_nil, Nat.zero_add, Nat.reduceAdd, Option.map_some, Option.map_none, Option.bind_some, Option.bind_none, List.map_cons, List.map_nil, aName, aNameF, fz, rtv, wAt, toM, vw, frz_lst, frz_d, lvs_map, oIx2_var, ixV_w, ixV_p, ixV_k, ixL_some, lfAt_nat, lf_d, oIx2_l, oIx2_t, Y.atI_nat, putF_var, putV_w, putV_p, oEq_int, oNe_int, oLtA_int, oIntA_int, oIntA_bool, oLenV_l, oLenV_t, oI0_ap, oB0_ap, oAdd_int, rNeg, lfAt_0, stL_0, Y.atI_0, lfAt_1, stL_1, Y.atI_1, lfAt_2, stL_2, Y.atI_2, lfAt_3, stL_3, Y.atI_3, lfAt_4, stL_4, Y.atI_4, lfAt_5, stL_5, Y.atI_5, lfAt_6, stL_6, Y.atI_6, lfAt_7, stL_7, Y.atI_7, Nat.reduceLeDiff, Int.reduceLT, Int.reduceLE, List.cons_append, List.nil_append, decide_true, decide_false, if_true, if_false, sizeLine_eq, aLc_ap, List.append_nil]
    | true =>
      have hn : ((freeTo l i).map (pairD l)).length < 16777216 := by
        have := freeTo_len l i
        have := (List.getElem?_eq_some_iff.mp hi).1
        rw [List.length_map]
        omega
      have hp : PyData.tuple [actD a, .int (i : Nat)] = pairD l i := by unfold pairD; rw [hi]; rfl
      simp only [aSeq_ap, seqK_nx, seqK_rt, seqK_bk, seqK_ct, seqK_none, aNext_ap, aBrk_ap, aCont_ap, aAsg_ap, asgK_ap, nxR_some, aDrop_ap, dropK_ap, aIfS_ap, ifK_t, ifK_f, aRet_ap, retK_ap, rtR_some, aRetN_ap, aKill_ap, List.foldl_cons, List.foldl_nil, sb_okN, bd_okN, mapR_some, aC_ap, aXT_ap, aVar_ap, varK_d, varK_x, varK_w, varK_p, varK_k, aOp_ap, opK_ap, opK2_ap, aFz_ap, aUn_ap, aB_ap, bK_ap, aAnd_ap, andK_t, andK_f, aOr_ap, orK_t, orK_f, aNot_ap, notK_ap, aTru_ap, truK_ap, aYes_ap, aAndV_ap, andVK_t, andVK_f, aOrV_ap, orVK_t, orVK_f, aNotV_ap, notVK_ap, aIf_ap, ifEK_t, ifEK_f, aNil_ap, aCons_ap, consK_ap, consK2_ap, aCB_ap, cbK_ap, aNoPart_ap, aPart_ap, partK_ap, aSl_ap, slK_ap, slK2_ap, slK3_ap, aBM_ap, bmK_ap, bmK2_ap, aBM0_ap, bmK0_ap, aPut_ap, putK_ap, putK1_ap, putK2_ap, aFor_ap, forK_n, aRng1_ap, aRng2_ap, aIt_ap, itK_l, itK_t, itK_s, itK_x, itK_c, itK_f, aCallG_ap, List.getElem?_cons_zero, List.getElem?_cons_succ, List.set_cons_zero, List.set_cons_succ, List.length_cons, List.length_nil, Nat.zero_add, Nat.reduceAdd, Option.map_some, Option.map_none, Option.bind_some, Option.bind_none, List.map_cons, List.map_nil, aName, aNameF, fz, rtv, wAt, toM, vw, frz_lst, frz_d, lvs_map, oIx2_var, ixV_w, ixV_p, ixV_k, ixL_some, lfAt_nat, lf_d, oIx2_l, oIx2_t, Y.atI_nat, putF_var, putV_w, putV_p, oEq_int, oNe_int, oLtA_int, oIntA_int, oIntA_bool, oLenV_l, oLenV_t, oI0_ap, oB0_ap, oAdd_int, rNeg, lfAt_0, stL_0, Y.atI_0, lfAt_1, stL_1, Y.atI_1, lfAt_2, stL_2, Y.atI_2, lfAt_3, stL_3, Y.atI_3, lfAt_4, stL_4, Y.atI_4, lfAt_5, stL_5, Y.atI_5, lfAt_6, stL_6, Y.atI_6, lfAt_7, stL_7, Y.atI_7, Nat.reduceLeDiff, Int.reduceLT, Int.reduceLE, List.cons_append, List.nil_append, decide_true, decide_false, if_true, if_false, sizeLine_eq, aLc_ap, runL_at hi, oTup_2, hp, tyA, beq_self_eq_true, mAppend_d, apV_w, List.length_map (f := MV.d), if_pos hn]
  · rw [rng_len]; have := (List.getElem?_eq_some_iff.mp hi).1; omega
  · rfl
  · intro x hx
    obtain ⟨j, hj, rfl⟩ := rng_mem hx
    have hi2 := (List.getElem?_eq_some_iff.mp hi).1
    have ej := List.getElem?_eq_getElem (show j < l.length by omega)
    refine ⟨_, [some (.d r), some (.d (runD l)), some (.w (.lst f)), some (.d t), some (.w (.lst (freeM l i))), some (.d (.int (i : Nat))), none, some (.d (.int (j : Nat)))], rfl, ?_, fun _ => ⟨.d (.int (j : Nat)), [some (.d r), some (.d (runD l)), some (.w (.lst f)), some (.d t), some (.w (.lst (freeM l i))), some (.d (.int (i : Nat))), none, some (.d (.int (j : Nat)))], [some (.d r), some (.d (runD l)), some (.w (.lst f)), some (.d t), some (.w (.lst (freeM l i))), some (.d (.int (i : Nat))), none, some (.d (.int (j : Nat)))], rfl, rfl, rfl⟩, fun _ => rfl⟩
    have ep : lePl a l (.int (j : Nat)) = !apartB l[j] a := by
      unfold lePl
      dsimp only
      rw [show ((j : Nat) : Int).toNat = j by omega, ej]
    rw [ep]
    show aNot _ [some (.d r), some (.d (runD l)), some (.w (.lst f)), some (.d t), some (.w (.lst (freeM l i))), some (.d (.int (i : Nat))), none, some (.d (.int (j : Nat)))] = some (.ok (!apartB l[j] a) _)
    simp only [aSeq_ap, seqK_nx, seqK_rt, seqK_bk, seqK_ct, seqK_none, aNext_ap, aBrk_ap, aCont_ap, aAsg_ap, asgK_ap, nxR_some, aDrop_ap, dropK_ap, aIfS_ap, ifK_t, ifK_f, aRet_ap, retK_ap, rtR_some, aRetN_ap, aKill_ap, List.foldl_cons, List.foldl_nil, sb_okN, bd_okN, mapR_some, aC_ap, aXT_ap, aVar_ap, varK_d, varK_x, varK_w, varK_p, varK_k, aOp_ap, opK_ap, opK2_ap, aFz_ap, aUn_ap, aB_ap, bK_ap, aAnd_ap, andK_t, andK_f, aOr_ap, orK_t, orK_f, aNot_ap, notK_ap, aTru_ap, truK_ap, aYes_ap, aAndV_ap, andVK_t, andVK_f, aOrV_ap, orVK_t, orVK_f, aNotV_ap, notVK_ap, aIf_ap, ifEK_t, ifEK_f, aNil_ap, aCons_ap, consK_ap, consK2_ap, aCB_ap, cbK_ap, aNoPart_ap, aPart_ap, partK_ap, aSl_ap, slK_ap, slK2_ap, slK3_ap, aBM_ap, bmK_ap, bmK2_ap, aBM0_ap, bmK0_ap, aPut_ap, putK_ap, putK1_ap, putK2_ap, aFor_ap, forK_n, aRng1_ap, aRng2_ap, aIt_ap, itK_l, itK_t, itK_s, itK_x, itK_c, itK_f, aCallG_ap, List.getElem?_cons_zero, List.getElem?_cons_succ, List.set_cons_zero, List.set_cons_succ, List.length_cons, List.length_nil, Nat.zero_add, Nat.reduceAdd, Option.map_some, Option.map_none, Option.bind_some, Option.bind_none, List.map_cons, List.map_nil, aName, aNameF, fz, rtv, wAt, toM, vw, frz_lst, frz_d, lvs_map, oIx2_var, ixV_w, ixV_p, ixV_k, ixL_some, lfAt_nat, lf_d, oIx2_l, oIx2_t, Y.atI_nat, putF_var, putV_w, putV_p, oEq_int, oNe_int, oLtA_int, oIntA_int, oIntA_bool, oLenV_l, oLenV_t, oI0_ap, oB0_ap, oAdd_int, rNeg, lfAt_0, stL_0, Y.atI_0, lfAt_1, stL_1, Y.atI_1, lfAt_2, stL_2, Y.atI_2, lfAt_3, stL_3, Y.atI_3, lfAt_4, stL_4, Y.atI_4, lfAt_5, stL_5, Y.atI_5, lfAt_6, stL_6, Y.atI_6, lfAt_7, stL_7, Y.atI_7, Nat.reduceLeDiff, Int.reduceLT, Int.reduceLE, List.cons_append, List.nil_append, decide_true, decide_false, if_true, if_false, sizeLine_eq, aLc_ap, runL_at ej, runL_at hi, apart_call (rd__law_apart _ _)]
theorem ll_scan {r : PyData} {l : List Act} {f : List MV} {t : PyData} (hl : l.length ≤ 1000) :
  forGo (aNameF 5) f__law_least_0 (rng 0 l.length) [some (.d r), some (.d (runD l)), some (.w (.lst f)), some (.d t), some (.w (.lst [])), none, none, none] = some (.nx [some (.d r), some (.d (runD l)), some (.w (.lst f)), some (.d t), some (.w (.lst (freeM l l.length))), none, none, none]) := by
  obtain ⟨s', e, hs⟩ := forGo_inv (Ga := aNameF 5) (S := f__law_least_0) (ds := rng 0 l.length) (fun i s => s = [some (.d r), some (.d (runD l)), some (.w (.lst f)), some (.d t), some (.w (.lst (freeM l i))), none, none, none]) (fun i d s hd hp => by
    obtain ⟨rfl, hi⟩ := rng_get0 hd
    subst hp
    exact ⟨_, _, rfl, .inl (ll_inner (List.getElem?_eq_getElem hi) hl fun s => rngK1_ap (by omega)), rfl⟩) (s := [some (.d r), some (.d (runD l)), some (.w (.lst f)), some (.d t), some (.w (.lst [])), none, none, none]) rfl
  rw [rng_len] at hs
  rw [← hs]
  exact e
theorem oAdd_tt {s : SL} {xs ys : List PyData} (h : xs.length + ys.length ≤ 16777216) : oAdd s (.t (.lst (xs.map MV.d))) (.t (.lst (ys.map MV.d))) = some (.t (.lst ((xs ++ ys).map MV.d)), s) := by
  have e1 : ∀ zs : List PyData, lsD s (.t (.lst (zs.map MV.d))) = some (zs, s) := fun zs => by
    unfold lsD
    rw [show seqM s (.t (.lst (zs.map MV.d))) = some (zs.map MV.d) from rfl]
    show (match lvs (zs.map MV.d) with
      | some ds => some (ds, s)
      | none => _) = _
    rw [lvs_map]
  show (lsD s (.t (.lst (xs.map MV.d)))).bind (fun p => (lsD p.2 (.t (.lst (ys.map MV.d)))).bind fun q => if p.1.length + q.1.length ≤ sizeLine then some (TV.t (.lst ((p.1 ++ q.1).map MV.d)), q.2) else none) = _
  rw [e1, Option.bind_some]
  dsimp only
  rw [e1, Option.bind_some]
  dsimp only
  rw [if_pos (by rw [sizeLine_eq]; exact h)]
theorem erase_cut (l : List Act) (k : Nat) : (runL l).take k ++ (runL l).drop (k + 1) = runL (l.eraseIdx k) := by
  rw [← erase_runL, List.eraseIdx_eq_take_drop_succ]
theorem ll_round {r : PyData} {l f : List Act} {t : PyData} {k : Nat} {a : Act} (hb : bestTo l l.length = some k) (hk : l[k]? = some a) (hl : l.length ≤ 1000) (hf : f.length ≤ 1000) (hr : ∀ s, rngK1 [.d (.int (l.length : Nat))] s = some (.ok (rng 0 l.length, none) s)) :
  f__law_least_1 [some (.d r), some (.d (runD l)), some (.w (.lst ((runL f).map MV.d))), some (.d t), none, none, none, none] = some (.nx [some (.d r), some (.d (runD (l.eraseIdx k))), some (.w (.lst ((runL (f ++ [a])).map MV.d))), none, none, none, none, none]) := by
  have hf2 : f.length < 16777216 := by omega
  have hk2 := (List.getElem?_eq_some_iff.mp hk).1
  have hp : pairD l k = .tuple [actD a, .int (k : Nat)] := by unfold pairD; rw [hk]; rfl
  have hg : ∀ s : SL, aGTup 2 (aGCons (aNameF 6) (aGCons (aNameF 5) aGNil)) (.d (.tuple [actD a, .int (k : Nat)])) s = some ((s.set 6 (some (.d (actD a)))).set 5 (some (.d (.int (k : Nat))))) := fun s => rfl
  have hc : ((k : Nat) : Int) + 1 = ((k + 1 : Nat) : Int) := by omega
  have hlen : ((runL l).take k).length + ((runL l).drop (k + 1)).length ≤ 16777216 := by
    rw [List.length_take, List.length_drop, List.length_map]
    omega
  unfold f__law_least_1
  simp only [aSeq_ap, seqK_nx, seqK_rt, seqK_bk, seqK_ct, seqK_none, aNext_ap, aBrk_ap, aCont_ap, aAsg_ap, asgK_ap, nxR_some, aDrop_ap, dropK_ap, aIfS_ap, ifK_t, ifK_f, aRet_ap, retK_ap, rtR_some, aRetN_ap, aKill_ap, List.foldl_cons, List.foldl_nil, sb_okN, bd_okN, mapR_some, aC_ap, aXT_ap, aVar_ap, varK_d, varK_x, varK_w, varK_p, varK_k, aOp_ap, opK_ap, opK2_ap, aFz_ap, aUn_ap, aB_ap, bK_ap, aAnd_ap, andK_t, andK_f, aOr_ap, orK_t, orK_f, aNot_ap, notK_ap, aTru_ap, truK_ap, aYes_ap, aAndV_ap, andVK_t, andVK_f, aOrV_ap, orVK_t, orVK_f, aNotV_ap, notVK_ap, aIf_ap, ifEK_t, ifEK_f, aNil_ap, aCons_ap, consK_ap, consK2_ap, aCB_ap, cbK_ap, aNoPart_ap, aPart_ap, partK_ap, aSl_ap, slK_ap, slK2_ap, slK3_ap, aBM_ap, bmK_ap, bmK2_ap, aBM0_ap, bmK0_ap, aPut_ap, putK_ap, putK1_ap, putK2_ap, aFor_ap, forK_n, aRng1_ap, aRng2_ap, aIt_ap, itK_l, itK_t, itK_s, itK_x, itK_c, itK_f, aCallG_ap, List.getElem?_cons_zero, List.getElem?_cons_succ, List.set_cons_zero, List.set_cons_succ, List.length_cons, List.length_nil, Nat.zero_add, Nat.reduceAdd, Option.map_some, Option.map_none, Option.bind_some, Option.bind_none, List.map_cons, List.map_nil, aName, aNameF, fz, rtv, wAt, toM, vw, frz_lst, frz_d, lvs_map, oIx2_var, ixV_w, ixV_p, ixV_k, ixL_some, lfAt_nat, lf_d, oIx2_l, oIx2_t, Y.atI_nat, putF_var, putV_w, putV_p, oEq_int, oNe_int, oLtA_int, oIntA_int, oIntA_bool, oLenV_l, oLenV_t, oI0_ap, oB0_ap, oAdd_int, rNeg, lfAt_0, stL_0, Y.atI_0, lfAt_1, stL_1, Y.atI_1, lfAt_2, stL_2, Y.atI_2, lfAt_3, stL_3, Y.atI_3, lfAt_4, stL_4, Y.atI_4, lfAt_5, stL_5, Y.atI_5, lfAt_6, stL_6, Y.atI_6, lfAt_7, stL_7, Y.atI_7, Nat.reduceLeDiff, Int.reduceLT, Int.reduceLE, List.cons_append, List.nil_append, decide_true, decide_false, if_true, if_false, sizeLine_eq, aLc_ap, oLst_nil, List.length_map, hr, ll_scan hl]
  rw [oMin_free (l := l) rfl hb, hp]
  simp only [aSeq_ap, seqK_nx, seqK_rt, seqK_bk, seqK_ct, seqK_none, aNext_ap, aBrk_ap, aCont_ap, aAsg_ap, asgK_ap, nxR_some, aDrop_ap, dropK_ap, aIfS_ap, ifK_t, ifK_f, aRet_ap, retK_ap, rtR_some, aRetN_ap, aKill_ap, List.foldl_cons, List.foldl_nil, sb_okN, bd_okN, mapR_some, aC_ap, aXT_ap, aVar_ap, varK_d, varK_x, varK_w, varK_p, varK_k, aOp_ap, opK_ap, opK2_ap, aFz_ap, aUn_ap, aB_ap, bK_ap, aAnd_ap, andK_t, andK_f, aOr_ap, orK_t, orK_f, aNot_ap, notK_ap, aTru_ap, truK_ap, aYes_ap, aAndV_ap, andVK_t, andVK_f, aOrV_ap, orVK_t, orVK_f, aNotV_ap, notVK_ap, aIf_ap, ifEK_t, ifEK_f, aNil_ap, aCons_ap, consK_ap, consK2_ap, aCB_ap, cbK_ap, aNoPart_ap, aPart_ap, partK_ap, aSl_ap, slK_ap, slK2_ap, slK3_ap, aBM_ap, bmK_ap, bmK2_ap, aBM0_ap, bmK0_ap, aPut_ap, putK_ap, putK1_ap, putK2_ap, aFor_ap, forK_n, aRng1_ap, aRng2_ap, aIt_ap, itK_l, itK_t, itK_s, itK_x, itK_c, itK_f, aCallG_ap, List.getElem?_cons_zero, List.getElem?_cons_succ, List.set_cons_zero, List.set_cons_succ, List.length_cons, List.length_nil, Nat.zero_add, Nat.reduceAdd, Option.map_some, Option.map_none, Option.bind_some, Option.bind_none, List.map_cons, List.map_nil, aName, aNameF, fz, rtv, wAt, toM, vw, frz_lst, frz_d, lvs_map, oIx2_var, ixV_w, ixV_p, ixV_k, ixL_some, lfAt_nat, lf_d, oIx2_l, oIx2_t, Y.atI_nat, putF_var, putV_w, putV_p, oEq_int, oNe_int, oLtA_int, oIntA_int, oIntA_bool, oLenV_l, oLenV_t, oI0_ap, oB0_ap, oAdd_int, rNeg, lfAt_0, stL_0, Y.atI_0, lfAt_1, stL_1, Y.atI_1, lfAt_2, stL_2, Y.atI_2, lfAt_3, stL_3, Y.atI_3, lfAt_4, stL_4, Y.atI_4, lfAt_5, stL_5, Y.atI_5, lfAt_6, stL_6, Y.atI_6, lfAt_7, stL_7, Y.atI_7, Nat.reduceLeDiff, Int.reduceLT, Int.reduceLE, List.cons_append, List.nil_append, decide_true, decide_false, if_true, if_false, sizeLine_eq, aLc_ap, hg, tyA, beq_self_eq_true, mAppend_d, apV_w, List.length_map, if_pos hf2, snoc_runL]
  rw [oSl_dl, cutD_hi]
  simp only [aSeq_ap, seqK_nx, seqK_rt, seqK_bk, seqK_ct, seqK_none, aNext_ap, aBrk_ap, aCont_ap, aAsg_ap, asgK_ap, nxR_some, aDrop_ap, dropK_ap, aIfS_ap, ifK_t, ifK_f, aRet_ap, retK_ap, rtR_some, aRetN_ap, aKill_ap, List.foldl_cons, List.foldl_nil, sb_okN, bd_okN, mapR_some, aC_ap, aXT_ap, aVar_ap, varK_d, varK_x, varK_w, varK_p, varK_k, aOp_ap, opK_ap, opK2_ap, aFz_ap, aUn_ap, aB_ap, bK_ap, aAnd_ap, andK_t, andK_f, aOr_ap, orK_t, orK_f, aNot_ap, notK_ap, aTru_ap, truK_ap, aYes_ap, aAndV_ap, andVK_t, andVK_f, aOrV_ap, orVK_t, orVK_f, aNotV_ap, notVK_ap, aIf_ap, ifEK_t, ifEK_f, aNil_ap, aCons_ap, consK_ap, consK2_ap, aCB_ap, cbK_ap, aNoPart_ap, aPart_ap, partK_ap, aSl_ap, slK_ap, slK2_ap, slK3_ap, aBM_ap, bmK_ap, bmK2_ap, aBM0_ap, bmK0_ap, aPut_ap, putK_ap, putK1_ap, putK2_ap, aFor_ap, forK_n, aRng1_ap, aRng2_ap, aIt_ap, itK_l, itK_t, itK_s, itK_x, itK_c, itK_f, aCallG_ap, List.getElem?_cons_zero, List.getElem?_cons_succ, List.set_cons_zero, List.set_cons_succ, List.length_cons, List.length_nil, Nat.zero_add, Nat.reduceAdd, Option.map_some, Option.map_none, Option.bind_some, Option.bind_none, List.map_cons, List.map_nil, aName, aNameF, fz, rtv, wAt, toM, vw, frz_lst, frz_d, lvs_map, oIx2_var, ixV_w, ixV_p, ixV_k, ixL_some, lfAt_nat, lf_d, oIx2_l, oIx2_t, Y.atI_nat, putF_var, putV_w, putV_p, oEq_int, oNe_int, oLtA_int, oIntA_int, oIntA_bool, oLenV_l, oLenV_t, oI0_ap, oB0_ap, oAdd_int, rNeg, lfAt_0, stL_0, Y.atI_0, lfAt_1, stL_1, Y.atI_1, lfAt_2, stL_2, Y.atI_2, lfAt_3, stL_3, Y.atI_3, lfAt_4, stL_4, Y.atI_4, lfAt_5, stL_5, Y.atI_5, lfAt_6, stL_6, Y.atI_6, lfAt_7, stL_7, Y.atI_7, Nat.reduceLeDiff, Int.reduceLT, Int.reduceLE, List.cons_append, List.nil_append, decide_true, decide_false, if_true, if_false, sizeLine_eq, aLc_ap, hc]
  rw [oSl_dl, cutD_lo]
  simp only [aSeq_ap, seqK_nx, seqK_rt, seqK_bk, seqK_ct, seqK_none, aNext_ap, aBrk_ap, aCont_ap, aAsg_ap, asgK_ap, nxR_some, aDrop_ap, dropK_ap, aIfS_ap, ifK_t, ifK_f, aRet_ap, retK_ap, rtR_some, aRetN_ap, aKill_ap, List.foldl_cons, List.foldl_nil, sb_okN, bd_okN, mapR_some, aC_ap, aXT_ap, aVar_ap, varK_d, varK_x, varK_w, varK_p, varK_k, aOp_ap, opK_ap, opK2_ap, aFz_ap, aUn_ap, aB_ap, bK_ap, aAnd_ap, andK_t, andK_f, aOr_ap, orK_t, orK_f, aNot_ap, notK_ap, aTru_ap, truK_ap, aYes_ap, aAndV_ap, andVK_t, andVK_f, aOrV_ap, orVK_t, orVK_f, aNotV_ap, notVK_ap, aIf_ap, ifEK_t, ifEK_f, aNil_ap, aCons_ap, consK_ap, consK2_ap, aCB_ap, cbK_ap, aNoPart_ap, aPart_ap, partK_ap, aSl_ap, slK_ap, slK2_ap, slK3_ap, aBM_ap, bmK_ap, bmK2_ap, aBM0_ap, bmK0_ap, aPut_ap, putK_ap, putK1_ap, putK2_ap, aFor_ap, forK_n, aRng1_ap, aRng2_ap, aIt_ap, itK_l, itK_t, itK_s, itK_x, itK_c, itK_f, aCallG_ap, List.getElem?_cons_zero, List.getElem?_cons_succ, List.set_cons_zero, List.set_cons_succ, List.length_cons, List.length_nil, Nat.zero_add, Nat.reduceAdd, Option.map_some, Option.map_none, Option.bind_some, Option.bind_none, List.map_cons, List.map_nil, aName, aNameF, fz, rtv, wAt, toM, vw, frz_lst, frz_d, lvs_map, oIx2_var, ixV_w, ixV_p, ixV_k, ixL_some, lfAt_nat, lf_d, oIx2_l, oIx2_t, Y.atI_nat, putF_var, putV_w, putV_p, oEq_int, oNe_int, oLtA_int, oIntA_int, oIntA_bool, oLenV_l, oLenV_t, oI0_ap, oB0_ap, oAdd_int, rNeg, lfAt_0, stL_0, Y.atI_0, lfAt_1, stL_1, Y.atI_1, lfAt_2, stL_2, Y.atI_2, lfAt_3, stL_3, Y.atI_3, lfAt_4, stL_4, Y.atI_4, lfAt_5, stL_5, Y.atI_5, lfAt_6, stL_6, Y.atI_6, lfAt_7, stL_7, Y.atI_7, Nat.reduceLeDiff, Int.reduceLT, Int.reduceLE, List.cons_append, List.nil_append, decide_true, decide_false, if_true, if_false, sizeLine_eq, aLc_ap, oAdd_tt hlen, erase_cut]
theorem ll_whole {r : List Act} (hl : r.length ≤ 1000) :
  forGo (aNameF 3) f__law_least_1 (rng 0 r.length) [some (.d (runD r)), some (.d (runD r)), some (.w (.lst [])), none, none, none, none, none] = some (.nx [some (.d (runD r)), some (.d (runD [])), some (.w (.lst ((runL (lo r)).map MV.d))), none, none, none, none, none]) := by
  obtain ⟨s', e, l, f, h1, h2, rfl⟩ := forGo_inv (Ga := aNameF 3) (S := f__law_least_1) (ds := rng 0 r.length) (fun i s => ∃ l f : List Act, l.length + i = r.length ∧ f ++ lo l = lo r ∧ s = [some (.d (runD r)), some (.d (runD l)), some (.w (.lst ((runL f).map MV.d))), none, none, none, none, none]) (fun i d s hd hp => by
    obtain ⟨rfl, hi⟩ := rng_get0 hd
    obtain ⟨l, f, h1, h2, rfl⟩ := hp
    have hn : l ≠ [] := fun z => by subst z; simp at h1; omega
    obtain ⟨k, a, k1, k2, k3, k4, _⟩ := lo_cons hn
    have hlt := freeB_lt k2
    have le : (l.eraseIdx k).length = l.length - 1 := List.length_eraseIdx_of_lt hlt
    have hfl : f.length ≤ 1000 := by
      have := congrArg List.length h2
      rw [List.length_append, ← (lo_tq r).perm.length_eq] at this
      omega
    refine ⟨_, _, rfl, .inl (ll_round (t := .int (i : Nat)) k1 k3 (by omega) hfl fun s => rngK1_ap (by omega)), l.eraseIdx k, f ++ [a], by omega, ?_, rfl⟩
    rw [List.append_assoc]
    show f ++ (a :: lo (l.eraseIdx k)) = _
    rw [← k4, h2]) (s := [some (.d (runD r)), some (.d (runD r)), some (.w (.lst [])), none, none, none, none, none]) ⟨r, [], rfl, rfl, rfl⟩
  rw [rng_len] at h1
  have hz : l = [] := List.eq_nil_of_length_eq_zero (by omega)
  subst hz
  rw [lo_nil, List.append_nil] at h2
  rw [h2] at e
  exact e
theorem rd__law_least {r : List Act} (hl : r.length ≤ 1000) : den__law_least [.d (runD r)] = some (.ok (.t (.lst ((runL (lo r)).map MV.d))) [none]) := by
  have hr : ∀ s, rngK1 [.d (.int (r.length : Nat))] s = some (.ok (rng 0 r.length, none) s) := fun s => rngK1_ap (by omega)
  have hb : b__law_least [some (.d (runD r)), none, none, none, none, none, none, none] = some (.rt (.t (.lst ((runL (lo r)).map MV.d))) [some (.d (runD r)), none, none, none, none, none, none, none]) := by
    unfold b__law_least
    simp only [aSeq_ap, seqK_nx, seqK_rt, seqK_bk, seqK_ct, seqK_none, aNext_ap, aBrk_ap, aCont_ap, aAsg_ap, asgK_ap, nxR_some, aDrop_ap, dropK_ap, aIfS_ap, ifK_t, ifK_f, aRet_ap, retK_ap, rtR_some, aRetN_ap, aKill_ap, List.foldl_cons, List.foldl_nil, sb_okN, bd_okN, mapR_some, aC_ap, aXT_ap, aVar_ap, varK_d, varK_x, varK_w, varK_p, varK_k, aOp_ap, opK_ap, opK2_ap, aFz_ap, aUn_ap, aB_ap, bK_ap, aAnd_ap, andK_t, andK_f, aOr_ap, orK_t, orK_f, aNot_ap, notK_ap, aTru_ap, truK_ap, aYes_ap, aAndV_ap, andVK_t, andVK_f, aOrV_ap, orVK_t, orVK_f, aNotV_ap, notVK_ap, aIf_ap, ifEK_t, ifEK_f, aNil_ap, aCons_ap, consK_ap, consK2_ap, aCB_ap, cbK_ap, aNoPart_ap, aPart_ap, partK_ap, aSl_ap, slK_ap, slK2_ap, slK3_ap, aBM_ap, bmK_ap, bmK2_ap, aBM0_ap, bmK0_ap, aPut_ap, putK_ap, putK1_ap, putK2_ap, aFor_ap, forK_n, aRng1_ap, aRng2_ap, aIt_ap, itK_l, itK_t, itK_s, itK_x, itK_c, itK_f, aCallG_ap, List.getElem?_cons_zero, List.getElem?_cons_succ, List.set_cons_zero, List.set_cons_succ, List.length_cons, List.length_nil, Nat.zero_add, Nat.reduceAdd, Option.map_some, Option.map_none, Option.bind_some, Option.bind_none, List.map_cons, List.map_nil, aName, aNameF, fz, rtv, wAt, toM, vw, frz_lst, frz_d, lvs_map, oIx2_var, ixV_w, ixV_p, ixV_k, ixL_some, lfAt_nat, lf_d, oIx2_l, oIx2_t, Y.atI_nat, putF_var, putV_w, putV_p, oEq_int, oNe_int, oLtA_int, oIntA_int, oIntA_bool, oLenV_l, oLenV_t, oI0_ap, oB0_ap, oAdd_int, rNeg, lfAt_0, stL_0, Y.atI_0, lfAt_1, stL_1, Y.atI_1, lfAt_2, stL_2, Y.atI_2, lfAt_3, stL_3, Y.atI_3, lfAt_4, stL_4, Y.atI_4, lfAt_5, stL_5, Y.atI_5, lfAt_6, stL_6, Y.atI_6, lfAt_7, stL_7, Y.atI_7, Nat.reduceLeDiff, Int.reduceLT, Int.reduceLE, List.cons_append, List.nil_append, decide_true, decide_false, if_true, if_false, sizeLine_eq, aLc_ap, oList_run, oLst_nil, List.length_map, hr, ll_whole hl]
  have hs : start0 8 [.d (runD r)] = [some (.d (runD r)), none, none, none, none, none, none, none] := rfl
  unfold den__law_least Y.run
  rw [hs, hb]
  rfl

end Lw

namespace Lw
open PySem PySem.Spec PyProof.Rows L2 Y PySem.W TL
/-! ### _law_class -/
abbrev foundM (F : List (List Act)) : List MV := (F.map runD).map MV.d
theorem inD_runs {neg : Bool} {x : List Act} {F : List (List Act)} : inD neg (runD x) (F.map runD) = (if neg then !decide (x ∈ F) else decide (x ∈ F)) := by
  unfold inD
  have : ((F.map runD).any fun z => PyData.eqv z (runD x)) = decide (x ∈ F) := by
    rw [List.any_map, Bool.eq_iff_iff, List.any_eq_true, decide_eq_true_eq]
    constructor
    · rintro ⟨y, hy, e⟩
      have e : PyData.eqv (runD y) (runD x) = true := e
      rw [eqv_runD, decide_eq_true_eq] at e
      exact e ▸ hy
    · intro h
      refine ⟨x, h, ?_⟩
      show PyData.eqv (runD x) (runD x) = true
      rw [eqv_runD, decide_eq_true_eq]
  rw [this]
theorem swap_data {o : List Act} {k : Nat} (hk : k + 1 < o.length) : (runL o).take k ++ [actD o[k + 1], actD o[k]] ++ (runL o).drop (k + 2) = runL (swapAt o k) := by
  unfold swapAt
  rw [List.drop_eq_getElem_cons (show k < o.length by omega), List.drop_eq_getElem_cons hk]
  show _ = runL (o.take k ++ [o[k + 1], o[k]] ++ o.drop (k + 2))
  unfold runL
  rw [List.map_append, List.map_append, List.map_take, List.map_drop]
  rfl
theorem swap_ok {o : List Act} {k : Nat} (h : canSw o k = true) (hok : ∀ a ∈ o, ActOk a) : ∀ a ∈ swapAt o k, ActOk a := fun a ha => hok a ((swap_tq h).perm.mem_iff.mpr ha)
theorem shaped_found {F : List (List Act)} (h : ∀ l ∈ F, ∀ a ∈ l, ActOk a) : SeqAt.shaped (.list (F.map runD)) = true := shaped_lays h
theorem lc_inner {r : PyData} {F : List (List Act)} {o : List Act} {at' : Nat} {k : Nat} (hk : k + 1 < o.length) (hl : o.length ≤ 1000) (hF : F.length ≤ 100000) (hok : ∀ a ∈ o, ActOk a) (hFk : ∀ l ∈ F, ∀ a ∈ l, ActOk a) :
  f__law_class_0 [some (.d r), some (.w (.lst (foundM F))), some (.d (.int (at' : Nat))), some (.d (runD o)), some (.d (.int (k : Nat))), none] = some (.nx [some (.d r), some (.w (.lst (foundM (if canSw o k = true ∧ swapAt o k ∉ F then F ++ [swapAt o k] else F)))), some (.d (.int (at' : Nat))), some (.d (runD o)), none, none]) := by
  have e0 := List.getElem?_eq_getElem (show k < o.length by omega)
  have e1 := List.getElem?_eq_getElem hk
  have hc1 : ((k : Nat) : Int) + 1 = ((k + 1 : Nat) : Int) := by omega
  have hc2 : ((k : Nat) : Int) + 2 = ((k + 2 : Nat) : Int) := by omega
  have ec : canSw o k = apartB o[k] o[k + 1] := by unfold canSw; rw [e0, e1]
  rw [ec]
  unfold f__law_class_0
  simp only [aSeq_ap, seqK_nx, seqK_rt, seqK_bk, seqK_ct, seqK_none, aNext_ap, aBrk_ap, aCont_ap, aAsg_ap, asgK_ap, nxR_some, aDrop_ap, dropK_ap, aIfS_ap, ifK_t, ifK_f, aRet_ap, retK_ap, rtR_some, aRetN_ap, aKill_ap, List.foldl_cons, List.foldl_nil, sb_okN, bd_okN, mapR_some, aC_ap, aXT_ap, aVar_ap, varK_d, varK_x, varK_w, varK_p, varK_k, aOp_ap, opK_ap, opK2_ap, aFz_ap, aUn_ap, aB_ap, bK_ap, aAnd_ap, andK_t, andK_f, aOr_ap, orK_t, orK_f, aNot_ap, notK_ap, aTru_ap, truK_ap, aYes_ap, aAndV_ap, andVK_t, andVK_f, aOrV_ap, orVK_t, orVK_f, aNotV_ap, notVK_ap, aIf_ap, ifEK_t, ifEK_f, aNil_ap, aCons_ap, consK_ap, consK2_ap, aCB_ap, cbK_ap, aNoPart_ap, aPart_ap, partK_ap, aSl_ap, slK_ap, slK2_ap, slK3_ap, aBM_ap, bmK_ap, bmK2_ap, aBM0_ap, bmK0_ap, aPut_ap, putK_ap, putK1_ap, putK2_ap, aFor_ap, forK_n, aRng1_ap, aRng2_ap, aIt_ap, itK_l, itK_t, itK_s, itK_x, itK_c, itK_f, aCallG_ap, List.getElem?_cons_zero, List.getElem?_cons_succ, List.set_cons_zero, List.set_cons_succ, List.length_cons, List.length_nil, Nat.zero_add, Nat.reduceAdd, Option.map_some, Option.map_none, Option.bind_some, Option.bind_none, List.map_cons, List.map_nil, aName, aNameF, fz, rtv, wAt, toM, vw, frz_lst, frz_d, lvs_map, oIx2_var, ixV_w, ixV_p, ixV_k, ixL_some, lfAt_nat, lf_d, oIx2_l, oIx2_t, Y.atI_nat, putF_var, putV_w, putV_p, oEq_int, oNe_int, oLtA_int, oIntA_int, oIntA_bool, oLenV_l, oLenV_t, oI0_ap, oB0_ap, oAdd_int, rNeg, lfAt_0, stL_0, Y.atI_0, lfAt_1, stL_1, Y.atI_1, lfAt_2, stL_2, Y.atI_2, lfAt_3, stL_3, Y.atI_3, lfAt_4, stL_4, Y.atI_4, lfAt_5, stL_5, Y.atI_5, lfAt_6, stL_6, Y.atI_6, lfAt_7, stL_7, Y.atI_7, Nat.reduceLeDiff, Int.reduceLT, Int.reduceLE, List.cons_append, List.nil_append, decide_true, decide_false, if_true, if_false, sizeLine_eq, aLc_ap, runL_at e0, hc1, runL_at e1, apart_call (rd__law_apart _ _)]
  cases ha : apartB o[k] o[k + 1] with
  | false =>
    simp only [aSeq_ap, seqK_nx, seqK_rt, seqK_bk, seqK_ct, seqK_none, aNext_ap, aBrk_ap, aCont_ap, aAsg_ap, asgK_ap, nxR_some, aDrop_ap, dropK_ap, aIfS_ap, ifK_t, ifK_f, aRet_ap, retK_ap, rtR_some, aRetN_ap, aKill_ap, List.foldl_cons, List.foldl_nil, sb_okN, bd_okN, mapR_some, aC_ap, aXT_ap, aVar_ap, varK_d, varK_x, varK_w, varK_p, varK_k, aOp_ap, opK_ap, opK2_ap, aFz_ap, aUn_ap, aB_ap, bK_ap, aAnd_ap, andK_t, andK_f, aOr_ap, orK_t, orK_f, aNot_ap, notK_ap, aTru_ap, truK_ap, aYes_ap, aAndV_ap, andVK_t, andVK_f, aOrV_ap, orVK_t, orVK_f, aNotV_ap, notVK_ap, aIf_ap, ifEK_t, ifEK_f, aNil_ap, aCons_ap, consK_ap, consK2_ap, aCB_ap, cbK_ap, aNoPart_ap, aPart_ap, partK_ap, aSl_ap, slK_ap, slK2_ap, slK3_ap, aBM_ap, bmK_ap, bmK2_ap, aBM0_ap, bmK0_ap, aPut_ap, putK_ap, putK1_ap, putK2_ap, aFor_ap, forK_n, aRng1_ap, aRng2_ap, aIt_ap, itK_l, itK_t, itK_s, itK_x, itK_c, itK_f, aCallG_ap, List.getElem?_cons_zero, List.getElem?_cons_succ, List.set_cons_zero, List.set_cons_succ, List.length_cons, List.length_nil, Nat.zero_add, Nat.reduceAdd, Option.map_some, Option.map_none, Option.bind_some, Option.bind_none, List.map_cons, List.map_nil, aName, aNameF, fz, rtv, wAt, toM, vw, frz_lst, frz_d, lvs_map, oIx2_var, ixV_w, ixV_p, ixV_k, ixL_some, lfAt_nat, lf_d, oIx2_l, oIx2_t, Y.atI_nat, putF_var, putV_w, putV_p, oEq_int, oNe_int, oLtA_int, oIntA_int, oIntA_bool, oLenV_l, oLenV_t, oI0_ap, oB0_ap, oAdd_int, rNeg, lfAt_0, stL_0, Y.atI_0, lfAt_1, stL_1, Y.atI_1, lfAt_2, stL_2, Y.atI_2, lfAt_3, stL_3, Y.atI_3, lfAt_4, stL_4, Y.atI_4, lfAt_5, stL_5, Y.atI_5, lfAt_6, stL_6, Y.atI_6, lfAt_7, stL_7, Y.atI_7, Nat.reduceLeDiff, Int.reduceLT, Int.reduceLE, List.cons_append, List.nil_append, decide_true, decide_false, if_true, if_false, sizeLine_eq, aLc_ap, Bool.false_eq_true, false_and]
  | true =>
    have hca : canSw o k = true := by rw [ec, ha]
    have hsh := shaped_run (swap_ok hca hok)
    have hsf := shaped_found hFk
    have hn : (F.map runD).length < 16777216 := by rw [List.length_map]; omega
    have l1 : ((runL o).take k).length + [actD o[k + 1], actD o[k]].length ≤ 16777216 := by rw [List.length_take, List.length_map]; show _ + 2 ≤ _; omega
    have l2 : ((runL o).take k ++ [actD o[k + 1], actD o[k]]).length + ((runL o).drop (k + 2)).length ≤ 16777216 := by rw [List.length_append, List.length_take, List.length_drop, List.length_map]; show _ + 2 + _ ≤ _; omega
    have e2 : ∀ s : SL, oLst s [.d (actD o[k + 1]), .d (actD o[k])] = some (.t (.lst [.d (actD o[k + 1]), .d (actD o[k])]), s) := fun s => if_pos (show 2 ≤ sizeLine by rw [sizeLine_eq]; omega)
    simp only [aSeq_ap, seqK_nx, seqK_rt, seqK_bk, seqK_ct, seqK_none, aNext_ap, aBrk_ap, aCont_ap, aAsg_ap, asgK_ap, nxR_some, aDrop_ap, dropK_ap, aIfS_ap, ifK_t, ifK_f, aRet_ap, retK_ap, rtR_some, aRetN_ap, aKill_ap, List.foldl_cons, List.foldl_nil, sb_okN, bd_okN, mapR_some, aC_ap, aXT_ap, aVar_ap, varK_d, varK_x, varK_w, varK_p, varK_k, aOp_ap, opK_ap, opK2_ap, aFz_ap, aUn_ap, aB_ap, bK_ap, aAnd_ap, andK_t, andK_f, aOr_ap, orK_t, orK_f, aNot_ap, notK_ap, aTru_ap, truK_ap, aYes_ap, aAndV_ap, andVK_t, andVK_f, aOrV_ap, orVK_t, orVK_f, aNotV_ap, notVK_ap, aIf_ap, ifEK_t, ifEK_f, aNil_ap, aCons_ap, consK_ap, consK2_ap, aCB_ap, cbK_ap, aNoPart_ap, aPart_ap, partK_ap, aSl_ap, slK_ap, slK2_ap, slK3_ap, aBM_ap, bmK_ap, bmK2_ap, aBM0_ap, bmK0_ap, aPut_ap, putK_ap, putK1_ap, putK2_ap, aFor_ap, forK_n, aRng1_ap, aRng2_ap, aIt_ap, itK_l, itK_t, itK_s, itK_x, itK_c, itK_f, aCallG_ap, List.getElem?_cons_zero, List.getElem?_cons_succ, List.set_cons_zero, List.set_cons_succ, List.length_cons, List.length_nil, Nat.zero_add, Nat.reduceAdd, Option.map_some, Option.map_none, Option.bind_some, Option.bind_none, List.map_cons, List.map_nil, aName, aNameF, fz, rtv, wAt, toM, vw, frz_lst, frz_d, lvs_map, oIx2_var, ixV_w, ixV_p, ixV_k, ixL_some, lfAt_nat, lf_d, oIx2_l, oIx2_t, Y.atI_nat, putF_var, putV_w, putV_p, oEq_int, oNe_int, oLtA_int, oIntA_int, oIntA_bool, oLenV_l, oLenV_t, oI0_ap, oB0_ap, oAdd_int, rNeg, lfAt_0, stL_0, Y.atI_0, lfAt_1, stL_1, Y.atI_1, lfAt_2, stL_2, Y.atI_2, lfAt_3, stL_3, Y.atI_3, lfAt_4, stL_4, Y.atI_4, lfAt_5, stL_5, Y.atI_5, lfAt_6, stL_6, Y.atI_6, lfAt_7, stL_7, Y.atI_7, Nat.reduceLeDiff, Int.reduceLT, Int.reduceLE, List.cons_append, List.nil_append, decide_true, decide_false, if_true, if_false, sizeLine_eq, aLc_ap, Bool.false_eq_true, true_and]
    rw [oSl_dl, cutD_hi]
    simp only [aSeq_ap, seqK_nx, seqK_rt, seqK_bk, seqK_ct, seqK_none, aNext_ap, aBrk_ap, aCont_ap, aAsg_ap, asgK_ap, nxR_some, aDrop_ap, dropK_ap, aIfS_ap, ifK_t, ifK_f, aRet_ap, retK_ap, rtR_some, aRetN_ap, aKill_ap, List.foldl_cons, List.foldl_nil, sb_okN, bd_okN, mapR_some, aC_ap, aXT_ap, aVar_ap, varK_d, varK_x, varK_w, varK_p, varK_k, aOp_ap, opK_ap, opK2_ap, aFz_ap, aUn_ap, aB_ap, bK_ap, aAnd_ap, andK_t, andK_f, aOr_ap, orK_t, orK_f, aNot_ap, notK_ap, aTru_ap, truK_ap, aYes_ap, aAndV_ap, andVK_t, andVK_f, aOrV_ap, orVK_t, orVK_f, aNotV_ap, notVK_ap, aIf_ap, ifEK_t, ifEK_f, aNil_ap, aCons_ap, consK_ap, consK2_ap, aCB_ap, cbK_ap, aNoPart_ap, aPart_ap, partK_ap, aSl_ap, slK_ap, slK2_ap, slK3_ap, aBM_ap, bmK_ap, bmK2_ap, aBM0_ap, bmK0_ap, aPut_ap, putK_ap, putK1_ap, putK2_ap, aFor_ap, forK_n, aRng1_ap, aRng2_ap, aIt_ap, itK_l, itK_t, itK_s, itK_x, itK_c, itK_f, aCallG_ap, List.getElem?_cons_zero, List.getElem?_cons_succ, List.set_cons_zero, List.set_cons_succ, List.length_cons, List.length_nil, Nat.zero_add, Nat.reduceAdd, Option.map_some, Option.map_none, Option.bind_some, Option.bind_none, List.map_cons, List.map_nil, aName, aNameF, fz, rtv, wAt, toM, vw, frz_lst, frz_d, lvs_map, oIx2_var, ixV_w, ixV_p, ixV_k, ixL_some, lfAt_nat, lf_d, oIx2_l, oIx2_t, Y.atI_nat, putF_var, putV_w, putV_p, oEq_int, oNe_int, oLtA_int, oIntA_int, oIntA_bool, oLenV_l, oLenV_t, oI0_ap, oB0_ap, oAdd_int, rNeg, lfAt_0, stL_0, Y.atI_0, lfAt_1, stL_1, Y.atI_1, lfAt_2, stL_2, Y.atI_2, lfAt_3, stL_3, Y.atI_3, lfAt_4, stL_4, Y.atI_4, lfAt_5, stL_5, Y.atI_5, lfAt_6, stL_6, Y.atI_6, lfAt_7, stL_7, Y.atI_7, Nat.reduceLeDiff, Int.reduceLT, Int.reduceLE, List.cons_append, List.nil_append, decide_true, decide_false, if_true, if_false, sizeLine_eq, aLc_ap, hc1, runL_at e0, runL_at e1, e2]
    rw [show [MV.d (actD o[k + 1]), MV.d (actD o[k])] = [actD o[k + 1], actD o[k]].map MV.d from rfl, oAdd_tt l1]
    simp only [aSeq_ap, seqK_nx, seqK_rt, seqK_bk, seqK_ct, seqK_none, aNext_ap, aBrk_ap, aCont_ap, aAsg_ap, asgK_ap, nxR_some, aDrop_ap, dropK_ap, aIfS_ap, ifK_t, ifK_f, aRet_ap, retK_ap, rtR_some, aRetN_ap, aKill_ap, List.foldl_cons, List.foldl_nil, sb_okN, bd_okN, mapR_some, aC_ap, aXT_ap, aVar_ap, varK_d, varK_x, varK_w, varK_p, varK_k, aOp_ap, opK_ap, opK2_ap, aFz_ap, aUn_ap, aB_ap, bK_ap, aAnd_ap, andK_t, andK_f, aOr_ap, orK_t, orK_f, aNot_ap, notK_ap, aTru_ap, truK_ap, aYes_ap, aAndV_ap, andVK_t, andVK_f, aOrV_ap, orVK_t, orVK_f, aNotV_ap, notVK_ap, aIf_ap, ifEK_t, ifEK_f, aNil_ap, aCons_ap, consK_ap, consK2_ap, aCB_ap, cbK_ap, aNoPart_ap, aPart_ap, partK_ap, aSl_ap, slK_ap, slK2_ap, slK3_ap, aBM_ap, bmK_ap, bmK2_ap, aBM0_ap, bmK0_ap, aPut_ap, putK_ap, putK1_ap, putK2_ap, aFor_ap, forK_n, aRng1_ap, aRng2_ap, aIt_ap, itK_l, itK_t, itK_s, itK_x, itK_c, itK_f, aCallG_ap, List.getElem?_cons_zero, List.getElem?_cons_succ, List.set_cons_zero, List.set_cons_succ, List.length_cons, List.length_nil, Nat.zero_add, Nat.reduceAdd, Option.map_some, Option.map_none, Option.bind_some, Option.bind_none, List.map_cons, List.map_nil, aName, aNameF, fz, rtv, wAt, toM, vw, frz_lst, frz_d, lvs_map, oIx2_var, ixV_w, ixV_p, ixV_k, ixL_some, lfAt_nat, lf_d, oIx2_l, oIx2_t, Y.atI_nat, putF_var, putV_w, putV_p, oEq_int, oNe_int, oLtA_int, oIntA_int, oIntA_bool, oLenV_l, oLenV_t, oI0_ap, oB0_ap, oAdd_int, rNeg, lfAt_0, stL_0, Y.atI_0, lfAt_1, stL_1, Y.atI_1, lfAt_2, stL_2, Y.atI_2, lfAt_3, stL_3, Y.atI_3, lfAt_4, stL_4, Y.atI_4, lfAt_5, stL_5, Y.atI_5, lfAt_6, stL_6, Y.atI_6, lfAt_7, stL_7, Y.atI_7, Nat.reduceLeDiff, Int.reduceLT, Int.reduceLE, List.cons_append, List.nil_append, decide_true, decide_false, if_true, if_false, sizeLine_eq, aLc_ap, hc2]
    rw [oSl_dl, cutD_lo]
    simp only [aSeq_ap, seqK_nx, seqK_rt, seqK_bk, seqK_ct, seqK_none, aNext_ap, aBrk_ap, aCont_ap, aAsg_ap, asgK_ap, nxR_some, aDrop_ap, dropK_ap, aIfS_ap, ifK_t, ifK_f, aRet_ap, retK_ap, rtR_some, aRetN_ap, aKill_ap, List.foldl_cons, List.foldl_nil, sb_okN, bd_okN, mapR_some, aC_ap, aXT_ap, aVar_ap, varK_d, varK_x, varK_w, varK_p, varK_k, aOp_ap, opK_ap, opK2_ap, aFz_ap, aUn_ap, aB_ap, bK_ap, aAnd_ap, andK_t, andK_f, aOr_ap, orK_t, orK_f, aNot_ap, notK_ap, aTru_ap, truK_ap, aYes_ap, aAndV_ap, andVK_t, andVK_f, aOrV_ap, orVK_t, orVK_f, aNotV_ap, notVK_ap, aIf_ap, ifEK_t, ifEK_f, aNil_ap, aCons_ap, consK_ap, consK2_ap, aCB_ap, cbK_ap, aNoPart_ap, aPart_ap, partK_ap, aSl_ap, slK_ap, slK2_ap, slK3_ap, aBM_ap, bmK_ap, bmK2_ap, aBM0_ap, bmK0_ap, aPut_ap, putK_ap, putK1_ap, putK2_ap, aFor_ap, forK_n, aRng1_ap, aRng2_ap, aIt_ap, itK_l, itK_t, itK_s, itK_x, itK_c, itK_f, aCallG_ap, List.getElem?_cons_zero, List.getElem?_cons_succ, List.set_cons_zero, List.set_cons_succ, List.length_cons, List.length_nil, Nat.zero_add, Nat.reduceAdd, Option.map_some, Option.map_none, Option.bind_some, Option.bind_none, List.map_cons, List.map_nil, aName, aNameF, fz, rtv, wAt, toM, vw, frz_lst, frz_d, lvs_map, oIx2_var, ixV_w, ixV_p, ixV_k, ixL_some, lfAt_nat, lf_d, oIx2_l, oIx2_t, Y.atI_nat, putF_var, putV_w, putV_p, oEq_int, oNe_int, oLtA_int, oIntA_int, oIntA_bool, oLenV_l, oLenV_t, oI0_ap, oB0_ap, oAdd_int, rNeg, lfAt_0, stL_0, Y.atI_0, lfAt_1, stL_1, Y.atI_1, lfAt_2, stL_2, Y.atI_2, lfAt_3, stL_3, Y.atI_3, lfAt_4, stL_4, Y.atI_4, lfAt_5, stL_5, Y.atI_5, lfAt_6, stL_6, Y.atI_6, lfAt_7, stL_7, Y.atI_7, Nat.reduceLeDiff, Int.reduceLT, Int.reduceLE, List.cons_append, List.nil_append, decide_true, decide_false, if_true, if_false, sizeLine_eq, aLc_ap, hc2]
    rw [oAdd_tt l2, swap_data hk]
    have ein : ∀ s : SL, s[1]? = some (some (.w (.lst (foundM F)))) → oIn2 true s (.d (runD (swapAt o k))) (.var 1) = some (.d (.bool (!decide (swapAt o k ∈ F))), s) := fun s h => by
      rw [oIn2_var, h, inV_w hsh hsf, inD_runs, if_pos rfl]
    simp only [aSeq_ap, seqK_nx, seqK_rt, seqK_bk, seqK_ct, seqK_none, aNext_ap, aBrk_ap, aCont_ap, aAsg_ap, asgK_ap, nxR_some, aDrop_ap, dropK_ap, aIfS_ap, ifK_t, ifK_f, aRet_ap, retK_ap, rtR_some, aRetN_ap, aKill_ap, List.foldl_cons, List.foldl_nil, sb_okN, bd_okN, mapR_some, aC_ap, aXT_ap, aVar_ap, varK_d, varK_x, varK_w, varK_p, varK_k, aOp_ap, opK_ap, opK2_ap, aFz_ap, aUn_ap, aB_ap, bK_ap, aAnd_ap, andK_t, andK_f, aOr_ap, orK_t, orK_f, aNot_ap, notK_ap, aTru_ap, truK_ap, aYes_ap, aAndV_ap, andVK_t, andVK_f, aOrV_ap, orVK_t, orVK_f, aNotV_ap, notVK_ap, aIf_ap, ifEK_t, ifEK_f, aNil_ap, aCons_ap, consK_ap, consK2_ap, aCB_ap, cbK_ap, aNoPart_ap, aPart_ap, partK_ap, aSl_ap, slK_ap, slK2_ap, slK3_ap, aBM_ap, bmK_ap, bmK2_ap, aBM0_ap, bmK0_ap, aPut_ap, putK_ap, putK1_ap, putK2_ap, aFor_ap, forK_n, aRng1_ap, aRng2_ap, aIt_ap, itK_l, itK_t, itK_s, itK_x, itK_c, itK_f, aCallG_ap, List.getElem?_cons_zero, List.getElem?_cons_succ, List.set_cons_zero, List.set_cons_succ, List.length_cons, List.length_nil, Nat.zero_add, Nat.reduceAdd, Option.map_some, Option.map_none, Option.bind_some, Option.bind_none, List.map_cons, List.map_nil, aName, aNameF, fz, rtv, wAt, toM, vw, frz_lst, frz_d, lvs_map, oIx2_var, ixV_w, ixV_p, ixV_k, ixL_some, lfAt_nat, lf_d, oIx2_l, oIx2_t, Y.atI_nat, putF_var, putV_w, putV_p, oEq_int, oNe_int, oLtA_int, oIntA_int, oIntA_bool, oLenV_l, oLenV_t, oI0_ap, oB0_ap, oAdd_int, rNeg, lfAt_0, stL_0, Y.atI_0, lfAt_1, stL_1, Y.atI_1, lfAt_2, stL_2, Y.atI_2, lfAt_3, stL_3, Y.atI_3, lfAt_4, stL_4, Y.atI_4, lfAt_5, stL_5, Y.atI_5, lfAt_6, stL_6, Y.atI_6, lfAt_7, stL_7, Y.atI_7, Nat.reduceLeDiff, Int.reduceLT, Int.reduceLE, List.cons_append, List.nil_append, decide_true, decide_false, if_true, if_false, sizeLine_eq, aLc_ap, hc2]
    rw [ein _ rfl]
    by_cases hm : swapAt o k ∈ F
    · rw [decide_eq_true hm, if_neg fun z => z hm]
      simp only [aSeq_ap, seqK_nx, seqK_rt, seqK_bk, seqK_ct, seqK_none, aNext_ap, aBrk_ap, aCont_ap, aAsg_ap, asgK_ap, nxR_some, aDrop_ap, dropK_ap, aIfS_ap, ifK_t, ifK_f, aRet_ap, retK_ap, rtR_some, aRetN_ap, aKill_ap, List.foldl_cons, List.foldl_nil, sb_okN, bd_okN, mapR_some, aC_ap, aXT_ap, aVar_ap, varK_d, varK_x, varK_w, varK_p, varK_k, aOp_ap, opK_ap, opK2_ap, aFz_ap, aUn_ap, aB_ap, bK_ap, aAnd_ap, andK_t, andK_f, aOr_ap, orK_t, orK_f, aNot_ap, notK_ap, aTru_ap, truK_ap, aYes_ap, aAndV_ap, andVK_t, andVK_f, aOrV_ap, orVK_t, orVK_f, aNotV_ap, notVK_ap, aIf_ap, ifEK_t, ifEK_f, aNil_ap, aCons_ap, consK_ap, consK2_ap, aCB_ap, cbK_ap, aNoPart_ap, aPart_ap, partK_ap, aSl_ap, slK_ap, slK2_ap, slK3_ap, aBM_ap, bmK_ap, bmK2_ap, aBM0_ap, bmK0_ap, aPut_ap, putK_ap, putK1_ap, putK2_ap, aFor_ap, forK_n, aRng1_ap, aRng2_ap, aIt_ap, itK_l, itK_t, itK_s, itK_x, itK_c, itK_f, aCallG_ap, List.getElem?_cons_zero, List.getElem?_cons_succ, List.set_cons_zero, List.set_cons_succ, List.length_cons, List.length_nil, Nat.zero_add, Nat.reduceAdd, Option.map_some, Option.map_none, Option.bind_some, Option.bind_none, List.map_cons, List.map_nil, aName, aNameF, fz, rtv, wAt, toM, vw, frz_lst, frz_d, lvs_map, oIx2_var, ixV_w, ixV_p, ixV_k, ixL_some, lfAt_nat, lf_d, oIx2_l, oIx2_t, Y.atI_nat, putF_var, putV_w, putV_p, oEq_int, oNe_int, oLtA_int, oIntA_int, oIntA_bool, oLenV_l, oLenV_t, oI0_ap, oB0_ap, oAdd_int, rNeg, lfAt_0, stL_0, Y.atI_0, lfAt_1, stL_1, Y.atI_1, lfAt_2, stL_2, Y.atI_2, lfAt_3, stL_3, Y.atI_3, lfAt_4, stL_4, Y.atI_4, lfAt_5, stL_5, Y.atI_5, lfAt_6, stL_6, Y.atI_6, lfAt_7, stL_7, Y.atI_7, Nat.reduceLeDiff, Int.reduceLT, Int.reduceLE, List.cons_append, List.nil_append, decide_true, decide_false, if_true, if_false, sizeLine_eq, aLc_ap, Bool.not_true]
    · rw [decide_eq_false hm, if_pos hm]
      have e3 : foundM (F ++ [swapAt o k]) = foundM F ++ [.d (runD (swapAt o k))] := by simp
      simp only [aSeq_ap, seqK_nx, seqK_rt, seqK_bk, seqK_ct, seqK_none, aNext_ap, aBrk_ap, aCont_ap, aAsg_ap, asgK_ap, nxR_some, aDrop_ap, dropK_ap, aIfS_ap, ifK_t, ifK_f, aRet_ap, retK_ap, rtR_some, aRetN_ap, aKill_ap, List.foldl_cons, List.foldl_nil, sb_okN, bd_okN, mapR_some, aC_ap, aXT_ap, aVar_ap, varK_d, varK_x, varK_w, varK_p, varK_k, aOp_ap, opK_ap, opK2_ap, aFz_ap, aUn_ap, aB_ap, bK_ap, aAnd_ap, andK_t, andK_f, aOr_ap, orK_t, orK_f, aNot_ap, notK_ap, aTru_ap, truK_ap, aYes_ap, aAndV_ap, andVK_t, andVK_f, aOrV_ap, orVK_t, orVK_f, aNotV_ap, notVK_ap, aIf_ap, ifEK_t, ifEK_f, aNil_ap, aCons_ap, consK_ap, consK2_ap, aCB_ap, cbK_ap, aNoPart_ap, aPart_ap, partK_ap, aSl_ap, slK_ap, slK2_ap, slK3_ap, aBM_ap, bmK_ap, bmK2_ap, aBM0_ap, bmK0_ap, aPut_ap, putK_ap, putK1_ap, putK2_ap, aFor_ap, forK_n, aRng1_ap, aRng2_ap, aIt_ap, itK_l, itK_t, itK_s, itK_x, itK_c, itK_f, aCallG_ap, List.getElem?_cons_zero, List.getElem?_cons_succ, List.set_cons_zero, List.set_cons_succ, List.length_cons, List.length_nil, Nat.zero_add, Nat.reduceAdd, Option.map_some, Option.map_none, Option.bind_some, Option.bind_none, List.map_cons, List.map_nil, aName, aNameF, fz, rtv, wAt, toM, vw, frz_lst, frz_d, lvs_map, oIx2_var, ixV_w, ixV_p, ixV_k, ixL_some, lfAt_nat, lf_d, oIx2_l, oIx2_t, Y.atI_nat, putF_var, putV_w, putV_p, oEq_int, oNe_int, oLtA_int, oIntA_int, oIntA_bool, oLenV_l, oLenV_t, oI0_ap, oB0_ap, oAdd_int, rNeg, lfAt_0, stL_0, Y.atI_0, lfAt_1, stL_1, Y.atI_1, lfAt_2, stL_2, Y.atI_2, lfAt_3, stL_3, Y.atI_3, lfAt_4, stL_4, Y.atI_4, lfAt_5, stL_5, Y.atI_5, lfAt_6, stL_6, Y.atI_6, lfAt_7, stL_7, Y.atI_7, Nat.reduceLeDiff, Int.reduceLT, Int.reduceLE, List.cons_append, List.nil_append, decide_true, decide_false, if_true, if_false, sizeLine_eq, aLc_ap, Bool.not_false, tyA, beq_self_eq_true, mAppend_d, apV_w, List.length_map (f := MV.d), if_pos hn, e3]
def stepC (o : List Act) (F : List (List Act)) (k : Nat) : List (List Act) := if canSw o k = true ∧ swapAt o k ∉ F then F ++ [swapAt o k] else F
theorem canSw_lt {o : List Act} {k : Nat} (h : canSw o k = true) : k + 1 < o.length := by
  obtain ⟨p, a, b, x, e, hl, _, _⟩ := swap_split h
  rw [e, List.length_append]
  show k + 1 < p.length + (x.length + 1 + 1)
  omega
theorem lc_scan {r : PyData} {F : List (List Act)} {o : List Act} {at' : Nat} (hl : o.length ≤ 1000) (hF : F.length ≤ 200) (hok : ∀ a ∈ o, ActOk a) (hFk : ∀ l ∈ F, ∀ a ∈ l, ActOk a) :
  ∃ E, (∀ l ∈ E, Tq apartB o l) ∧ E.length ≤ 1000 ∧ (∀ k, canSw o k = true → swapAt o k ∈ F ++ E) ∧ forGo (aNameF 4) f__law_class_0 (rng 0 (o.length - 1)) [some (.d r), some (.w (.lst (foundM F))), some (.d (.int (at' : Nat))), some (.d (runD o)), none, none] = some (.nx [some (.d r), some (.w (.lst (foundM (F ++ E)))), some (.d (.int (at' : Nat))), some (.d (runD o)), none, none]) := by
  obtain ⟨s', e, E, h1, h2, h3, rfl⟩ := forGo_inv (Ga := aNameF 4) (S := f__law_class_0) (ds := rng 0 (o.length - 1)) (fun i s => ∃ E, (∀ l ∈ E, Tq apartB o l) ∧ E.length ≤ i ∧ (∀ k < i, canSw o k = true → swapAt o k ∈ F ++ E) ∧ s = [some (.d r), some (.w (.lst (foundM (F ++ E)))), some (.d (.int (at' : Nat))), some (.d (runD o)), none, none]) (fun i d s hd hp => by
    obtain ⟨rfl, hi⟩ := rng_get0 hd
    obtain ⟨E, h1, h2, h3, rfl⟩ := hp
    have hk2 : ∀ l ∈ F ++ E, ∀ a ∈ l, ActOk a := fun l hl => (List.mem_append.mp hl).elim (hFk l) fun h a ha => hok a ((h1 l h).perm.mem_iff.mpr ha)
    have st := lc_inner (r := r) (F := F ++ E) (o := o) (at' := at') (k := i) (by omega) hl (by rw [List.length_append]; omega) hok hk2
    refine ⟨_, _, rfl, .inl st, ?_⟩
    by_cases hc : canSw o i = true ∧ swapAt o i ∉ F ++ E
    · rw [if_pos hc]
      refine ⟨E ++ [swapAt o i], fun l hl => ?_, by rw [List.length_append]; show _ + 1 ≤ _; omega, fun k hk g => ?_, by rw [List.append_assoc]⟩
      · rcases List.mem_append.mp hl with h | h
        · exact h1 l h
        · rw [List.mem_singleton.mp h]; exact swap_tq hc.1
      · rw [← List.append_assoc]
        by_cases e : k = i
        · subst e; exact List.mem_append_right _ (List.mem_singleton.mpr rfl)
        · exact List.mem_append_left _ (h3 k (by omega) g)
    · rw [if_neg hc]
      refine ⟨E, h1, by omega, fun k hk g => ?_, rfl⟩
      by_cases e : k = i
      · subst e
        by_cases m : swapAt o k ∈ F ++ E
        · exact m
        · exact absurd ⟨g, m⟩ hc
      · exact h3 k (by omega) g) (s := [some (.d r), some (.w (.lst (foundM F))), some (.d (.int (at' : Nat))), some (.d (runD o)), none, none]) ⟨[], (fun _ h => nomatch h), Nat.zero_le _, (fun k h => absurd h (Nat.not_lt_zero _)), by rw [List.append_nil]⟩
  rw [rng_len] at h2 h3
  exact ⟨E, h1, by omega, fun k hk => h3 k (by have := canSw_lt hk; omega) hk, e⟩
theorem lc_round {r : PyData} {F E : List (List Act)} {o : List Act} {at' : Nat} (ho : F[at']? = some o) (hl : o.length ≤ 1000) (hr : ∀ s, rngK1 [.d (.int ((o.length : Nat) - 1))] s = some (.ok (rng 0 (o.length - 1), none) s))
  (e : forGo (aNameF 4) f__law_class_0 (rng 0 (o.length - 1)) [some (.d r), some (.w (.lst (foundM F))), some (.d (.int (at' : Nat))), some (.d (runD o)), none, none] = some (.nx [some (.d r), some (.w (.lst (foundM (F ++ E)))), some (.d (.int (at' : Nat))), some (.d (runD o)), none, none])) :
  f__law_class_1 [some (.d r), some (.w (.lst (foundM F))), some (.d (.int (at' : Nat))), none, none, none] = some (.nx [some (.d r), some (.w (.lst (foundM (F ++ E)))), some (.d (.int ((at' + 1 : Nat) : Int))), none, none, none]) := by
  have hd : (foundM F)[at']? = some (.d (runD o)) := by unfold foundM; rw [List.getElem?_map, List.getElem?_map, ho]; rfl
  have hc1 : ((at' : Nat) : Int) + 1 = ((at' + 1 : Nat) : Int) := by omega
  unfold f__law_class_1
  simp only [aSeq_ap, seqK_nx, seqK_rt, seqK_bk, seqK_ct, seqK_none, aNext_ap, aBrk_ap, aCont_ap, aAsg_ap, asgK_ap, nxR_some, aDrop_ap, dropK_ap, aIfS_ap, ifK_t, ifK_f, aRet_ap, retK_ap, rtR_some, aRetN_ap, aKill_ap, List.foldl_cons, List.foldl_nil, sb_okN, bd_okN, mapR_some, aC_ap, aXT_ap, aVar_ap, varK_d, varK_x, varK_w, varK_p, varK_k, aOp_ap, opK_ap, opK2_ap, aFz_ap, aUn_ap, aB_ap, bK_ap, aAnd_ap, andK_t, andK_f, aOr_ap, orK_t, orK_f, aNot_ap, notK_ap, aTru_ap, truK_ap, aYes_ap, aAndV_ap, andVK_t, andVK_f, aOrV_ap, orVK_t, orVK_f, aNotV_ap, notVK_ap, aIf_ap, ifEK_t, ifEK_f, aNil_ap, aCons_ap, consK_ap, consK2_ap, aCB_ap, cbK_ap, aNoPart_ap, aPart_ap, partK_ap, aSl_ap, slK_ap, slK2_ap, slK3_ap, aBM_ap, bmK_ap, bmK2_ap, aBM0_ap, bmK0_ap, aPut_ap, putK_ap, putK1_ap, putK2_ap, aFor_ap, forK_n, aRng1_ap, aRng2_ap, aIt_ap, itK_l, itK_t, itK_s, itK_x, itK_c, itK_f, aCallG_ap, List.getElem?_cons_zero, List.getElem?_cons_succ, List.set_cons_zero, List.set_cons_succ, List.length_cons, List.length_nil, Nat.zero_add, Nat.reduceAdd, Option.map_some, Option.map_none, Option.bind_some, Option.bind_none, List.map_cons, List.map_nil, aName, aNameF, fz, rtv, wAt, toM, vw, frz_lst, frz_d, lvs_map, oIx2_var, ixV_w, ixV_p, ixV_k, ixL_some, lfAt_nat, lf_d, oIx2_l, oIx2_t, Y.atI_nat, putF_var, putV_w, putV_p, oEq_int, oNe_int, oLtA_int, oIntA_int, oIntA_bool, oLenV_l, oLenV_t, oI0_ap, oB0_ap, oAdd_int, rNeg, lfAt_0, stL_0, Y.atI_0, lfAt_1, stL_1, Y.atI_1, lfAt_2, stL_2, Y.atI_2, lfAt_3, stL_3, Y.atI_3, lfAt_4, stL_4, Y.atI_4, lfAt_5, stL_5, Y.atI_5, lfAt_6, stL_6, Y.atI_6, lfAt_7, stL_7, Y.atI_7, Nat.reduceLeDiff, Int.reduceLT, Int.reduceLE, List.cons_append, List.nil_append, decide_true, decide_false, if_true, if_false, sizeLine_eq, aLc_ap, hd, List.length_map, hr, e, hc1]
def CondC : AT := aAnd (aB (aOp oLtA (aVar 2) (aCB (vA oLenA) (aCons (aVar 1) aNil)))) (aB (aOp oLtA (aCB (vA oLenA) (aCons (aVar 1) aNil)) (aC (.int 200))))
theorem condC {r : PyData} {F : List (List Act)} {at' : Nat} : CondC [some (.d r), some (.w (.lst (foundM F))), some (.d (.int (at' : Nat))), none, none, none] = some (.ok (decide (at' < F.length) && decide (F.length < 200)) [some (.d r), some (.w (.lst (foundM F))), some (.d (.int (at' : Nat))), none, none, none]) := by
  have hL : ∀ s : SL, s[1]? = some (some (.w (.lst (foundM F)))) → vA oLenA s [.var 1] = some (.d (.int (F.length : Nat)), s) := fun s h => by
    rw [oLenV_w h, List.length_map, List.length_map]
  have d1 : decide (((at' : Nat) : Int) < ((F.length : Nat) : Int)) = decide (at' < F.length) := by rw [decide_eq_decide]; omega
  have d2 : decide (((F.length : Nat) : Int) < 200) = decide (F.length < 200) := by rw [decide_eq_decide]; omega
  unfold CondC
  simp only [aSeq_ap, seqK_nx, seqK_rt, seqK_bk, seqK_ct, seqK_none, aNext_ap, aBrk_ap, aCont_ap, aAsg_ap, asgK_ap, nxR_some, aDrop_ap, dropK_ap, aIfS_ap, ifK_t, ifK_f, aRet_ap, retK_ap, rtR_some, aRetN_ap, aKill_ap, List.foldl_cons, List.foldl_nil, sb_okN, bd_okN, mapR_some, aC_ap, aXT_ap, aVar_ap, varK_d, varK_x, varK_w, varK_p, varK_k, aOp_ap, opK_ap, opK2_ap, aFz_ap, aUn_ap, aB_ap, bK_ap, aAnd_ap, andK_t, andK_f, aOr_ap, orK_t, orK_f, aNot_ap, notK_ap, aTru_ap, truK_ap, aYes_ap, aAndV_ap, andVK_t, andVK_f, aOrV_ap, orVK_t, orVK_f, aNotV_ap, notVK_ap, aIf_ap, ifEK_t, ifEK_f, aNil_ap, aCons_ap, consK_ap, consK2_ap, aCB_ap, cbK_ap, aNoPart_ap, aPart_ap, partK_ap, aSl_ap, slK_ap, slK2_ap, slK3_ap, aBM_ap, bmK_ap, bmK2_ap, aBM0_ap, bmK0_ap, aPut_ap, putK_ap, putK1_ap, putK2_ap, aFor_ap, forK_n, aRng1_ap, aRng2_ap, aIt_ap, itK_l, itK_t, itK_s, itK_x, itK_c, itK_f, aCallG_ap, List.getElem?_cons_zero, List.getElem?_cons_succ, List.set_cons_zero, List.set_cons_succ, List.length_cons, List.length_nil, Nat.zero_add, Nat.reduceAdd, Option.map_some, Option.map_none, Option.bind_some, Option.bind_none, List.map_cons, List.map_nil, aName, aNameF, fz, rtv, wAt, toM, vw, frz_lst, frz_d, lvs_map, oIx2_var, ixV_w, ixV_p, ixV_k, ixL_some, lfAt_nat, lf_d, oIx2_l, oIx2_t, Y.atI_nat, putF_var, putV_w, putV_p, oEq_int, oNe_int, oLtA_int, oIntA_int, oIntA_bool, oLenV_l, oLenV_t, oI0_ap, oB0_ap, oAdd_int, rNeg, lfAt_0, stL_0, Y.atI_0, lfAt_1, stL_1, Y.atI_1, lfAt_2, stL_2, Y.atI_2, lfAt_3, stL_3, Y.atI_3, lfAt_4, stL_4, Y.atI_4, lfAt_5, stL_5, Y.atI_5, lfAt_6, stL_6, Y.atI_6, lfAt_7, stL_7, Y.atI_7, Nat.reduceLeDiff, Int.reduceLT, Int.reduceLE, List.cons_append, List.nil_append, decide_true, decide_false, if_true, if_false, sizeLine_eq, aLc_ap, Option.map_some]
  rw [hL _ rfl]
  simp only [aSeq_ap, seqK_nx, seqK_rt, seqK_bk, seqK_ct, seqK_none, aNext_ap, aBrk_ap, aCont_ap, aAsg_ap, asgK_ap, nxR_some, aDrop_ap, dropK_ap, aIfS_ap, ifK_t, ifK_f, aRet_ap, retK_ap, rtR_some, aRetN_ap, aKill_ap, List.foldl_cons, List.foldl_nil, sb_okN, bd_okN, mapR_some, aC_ap, aXT_ap, aVar_ap, varK_d, varK_x, varK_w, varK_p, varK_k, aOp_ap, opK_ap, opK2_ap, aFz_ap, aUn_ap, aB_ap, bK_ap, aAnd_ap, andK_t, andK_f, aOr_ap, orK_t, orK_f, aNot_ap, notK_ap, aTru_ap, truK_ap, aYes_ap, aAndV_ap, andVK_t, andVK_f, aOrV_ap, orVK_t, orVK_f, aNotV_ap, notVK_ap, aIf_ap, ifEK_t, ifEK_f, aNil_ap, aCons_ap, consK_ap, consK2_ap, aCB_ap, cbK_ap, aNoPart_ap, aPart_ap, partK_ap, aSl_ap, slK_ap, slK2_ap, slK3_ap, aBM_ap, bmK_ap, bmK2_ap, aBM0_ap, bmK0_ap, aPut_ap, putK_ap, putK1_ap, putK2_ap, aFor_ap, forK_n, aRng1_ap, aRng2_ap, aIt_ap, itK_l, itK_t, itK_s, itK_x, itK_c, itK_f, aCallG_ap, List.getElem?_cons_zero, List.getElem?_cons_succ, List.set_cons_zero, List.set_cons_succ, List.length_cons, List.length_nil, Nat.zero_add, Nat.reduceAdd, Option.map_some, Option.map_none, Option.bind_some, Option.bind_none, List.map_cons, List.map_nil, aName, aNameF, fz, rtv, wAt, toM, vw, frz_lst, frz_d, lvs_map, oIx2_var, ixV_w, ixV_p, ixV_k, ixL_some, lfAt_nat, lf_d, oIx2_l, oIx2_t, Y.atI_nat, putF_var, putV_w, putV_p, oEq_int, oNe_int, oLtA_int, oIntA_int, oIntA_bool, oLenV_l, oLenV_t, oI0_ap, oB0_ap, oAdd_int, rNeg, lfAt_0, stL_0, Y.atI_0, lfAt_1, stL_1, Y.atI_1, lfAt_2, stL_2, Y.atI_2, lfAt_3, stL_3, Y.atI_3, lfAt_4, stL_4, Y.atI_4, lfAt_5, stL_5, Y.atI_5, lfAt_6, stL_6, Y.atI_6, lfAt_7, stL_7, Y.atI_7, Nat.reduceLeDiff, Int.reduceLT, Int.reduceLE, List.cons_append, List.nil_append, decide_true, decide_false, if_true, if_false, sizeLine_eq, aLc_ap, d1]
  cases decide (at' < F.length) with
  | false => simp only [aSeq_ap, seqK_nx, seqK_rt, seqK_bk, seqK_ct, seqK_none, aNext_ap, aBrk_ap, aCont_ap, aAsg_ap, asgK_ap, nxR_some, aDrop_ap, dropK_ap, aIfS_ap, ifK_t, ifK_f, aRet_ap, retK_ap, rtR_some, aRetN_ap, aKill_ap, List.foldl_cons, List.foldl_nil, sb_okN, bd_okN, mapR_some, aC_ap, aXT_ap, aVar_ap, varK_d, varK_x, varK_w, varK_p, varK_k, aOp_ap, opK_ap, opK2_ap, aFz_ap, aUn_ap, aB_ap, bK_ap, aAnd_ap, andK_t, andK_f, aOr_ap, orK_t, orK_f, aNot_ap, notK_ap, aTru_ap, truK_ap, aYes_ap, aAndV_ap, andVK_t, andVK_f, aOrV_ap, orVK_t, orVK_f, aNotV_ap, notVK_ap, aIf_ap, ifEK_t, ifEK_f, aNil_ap, aCons_ap, consK_ap, consK2_ap, aCB_ap, cbK_ap, aNoPart_ap, aPart_ap, partK_ap, aSl_ap, slK_ap, slK2_ap, slK3_ap, aBM_ap, bmK_ap, bmK2_ap, aBM0_ap, bmK0_ap, aPut_ap, putK_ap, putK1_ap, putK2_ap, aFor_ap, forK_n, aRng1_ap, aRng2_ap, aIt_ap, itK_l, itK_t, itK_s, itK_x, itK_c, itK_f, aCallG_ap, List.getElem?_cons_zero, List.getElem?_cons_succ, List.set_cons_zero, List.set_cons_succ, List.length_cons, List.length_nil, Nat.zero_add, Nat.reduceAdd, Option.map_some, Option.map_none, Option.bind_some, Option.bind_none, List.map_cons, List.map_nil, aName, aNameF, fz, rtv, wAt, toM, vw, frz_lst, frz_d, lvs_map, oIx2_var, ixV_w, ixV_p, ixV_k, ixL_some, lfAt_nat, lf_d, oIx2_l, oIx2_t, Y.atI_nat, putF_var, putV_w, putV_p, oEq_int, oNe_int, oLtA_int, oIntA_int, oIntA_bool, oLenV_l, oLenV_t, oI0_ap, oB0_ap, oAdd_int, rNeg, lfAt_0, stL_0, Y.atI_0, lfAt_1, stL_1, Y.atI_1, lfAt_2, stL_2, Y.atI_2, lfAt_3, stL_3, Y.atI_3, lfAt_4, stL_4, Y.atI_4, lfAt_5, stL_5, Y.atI_5, lfAt_6, stL_6, Y.atI_6, lfAt_7, stL_7, Y.atI_7, Nat.reduceLeDiff, Int.reduceLT, Int.reduceLE, List.cons_append, List.nil_append, decide_true, decide_false, if_true, if_false, sizeLine_eq, aLc_ap, Bool.false_and]
  | true =>
    simp only [aSeq_ap, seqK_nx, seqK_rt, seqK_bk, seqK_ct, seqK_none, aNext_ap, aBrk_ap, aCont_ap, aAsg_ap, asgK_ap, nxR_some, aDrop_ap, dropK_ap, aIfS_ap, ifK_t, ifK_f, aRet_ap, retK_ap, rtR_some, aRetN_ap, aKill_ap, List.foldl_cons, List.foldl_nil, sb_okN, bd_okN, mapR_some, aC_ap, aXT_ap, aVar_ap, varK_d, varK_x, varK_w, varK_p, varK_k, aOp_ap, opK_ap, opK2_ap, aFz_ap, aUn_ap, aB_ap, bK_ap, aAnd_ap, andK_t, andK_f, aOr_ap, orK_t, orK_f, aNot_ap, notK_ap, aTru_ap, truK_ap, aYes_ap, aAndV_ap, andVK_t, andVK_f, aOrV_ap, orVK_t, orVK_f, aNotV_ap, notVK_ap, aIf_ap, ifEK_t, ifEK_f, aNil_ap, aCons_ap, consK_ap, consK2_ap, aCB_ap, cbK_ap, aNoPart_ap, aPart_ap, partK_ap, aSl_ap, slK_ap, slK2_ap, slK3_ap, aBM_ap, bmK_ap, bmK2_ap, aBM0_ap, bmK0_ap, aPut_ap, putK_ap, putK1_ap, putK2_ap, aFor_ap, forK_n, aRng1_ap, aRng2_ap, aIt_ap, itK_l, itK_t, itK_s, itK_x, itK_c, itK_f, aCallG_ap, List.getElem?_cons_zero, List.getElem?_cons_succ, List.set_cons_zero, List.set_cons_succ, List.length_cons, List.length_nil, Nat.zero_add, Nat.reduceAdd, Option.map_some, Option.map_none, Option.bind_some, Option.bind_none, List.map_cons, List.map_nil, aName, aNameF, fz, rtv, wAt, toM, vw, frz_lst, frz_d, lvs_map, oIx2_var, ixV_w, ixV_p, ixV_k, ixL_some, lfAt_nat, lf_d, oIx2_l, oIx2_t, Y.atI_nat, putF_var, putV_w, putV_p, oEq_int, oNe_int, oLtA_int, oIntA_int, oIntA_bool, oLenV_l, oLenV_t, oI0_ap, oB0_ap, oAdd_int, rNeg, lfAt_0, stL_0, Y.atI_0, lfAt_1, stL_1, Y.atI_1, lfAt_2, stL_2, Y.atI_2, lfAt_3, stL_3, Y.atI_3, lfAt_4, stL_4, Y.atI_4, lfAt_5, stL_5, Y.atI_5, lfAt_6, stL_6, Y.atI_6, lfAt_7, stL_7, Y.atI_7, Nat.reduceLeDiff, Int.reduceLT, Int.reduceLE, List.cons_append, List.nil_append, decide_true, decide_false, if_true, if_false, sizeLine_eq, aLc_ap, Bool.true_and]
    rw [hL _ rfl]
    simp only [aSeq_ap, seqK_nx, seqK_rt, seqK_bk, seqK_ct, seqK_none, aNext_ap, aBrk_ap, aCont_ap, aAsg_ap, asgK_ap, nxR_some, aDrop_ap, dropK_ap, aIfS_ap, ifK_t, ifK_f, aRet_ap, retK_ap, rtR_some, aRetN_ap, aKill_ap, List.foldl_cons, List.foldl_nil, sb_okN, bd_okN, mapR_some, aC_ap, aXT_ap, aVar_ap, varK_d, varK_x, varK_w, varK_p, varK_k, aOp_ap, opK_ap, opK2_ap, aFz_ap, aUn_ap, aB_ap, bK_ap, aAnd_ap, andK_t, andK_f, aOr_ap, orK_t, orK_f, aNot_ap, notK_ap, aTru_ap, truK_ap, aYes_ap, aAndV_ap, andVK_t, andVK_f, aOrV_ap, orVK_t, orVK_f, aNotV_ap, notVK_ap, aIf_ap, ifEK_t, ifEK_f, aNil_ap, aCons_ap, consK_ap, consK2_ap, aCB_ap, cbK_ap, aNoPart_ap, aPart_ap, partK_ap, aSl_ap, slK_ap, slK2_ap, slK3_ap, aBM_ap, bmK_ap, bmK2_ap, aBM0_ap, bmK0_ap, aPut_ap, putK_ap, putK1_ap, putK2_ap, aFor_ap, forK_n, aRng1_ap, aRng2_ap, aIt_ap, itK_l, itK_t, itK_s, itK_x, itK_c, itK_f, aCallG_ap, List.getElem?_cons_zero, List.getElem?_cons_succ, List.set_cons_zero, List.set_cons_succ, List.length_cons, List.length_nil, Nat.zero_add, Nat.reduceAdd, Option.map_some, Option.map_none, Option.bind_some, Option.bind_none, List.map_cons, List.map_nil, aName, aNameF, fz, rtv, wAt, toM, vw, frz_lst, frz_d, lvs_map, oIx2_var, ixV_w, ixV_p, ixV_k, ixL_some, lfAt_nat, lf_d, oIx2_l, oIx2_t, Y.atI_nat, putF_var, putV_w, putV_p, oEq_int, oNe_int, oLtA_int, oIntA_int, oIntA_bool, oLenV_l, oLenV_t, oI0_ap, oB0_ap, oAdd_int, rNeg, lfAt_0, stL_0, Y.atI_0, lfAt_1, stL_1, Y.atI_1, lfAt_2, stL_2, Y.atI_2, lfAt_3, stL_3, Y.atI_3, lfAt_4, stL_4, Y.atI_4, lfAt_5, stL_5, Y.atI_5, lfAt_6, stL_6, Y.atI_6, lfAt_7, stL_7, Y.atI_7, Nat.reduceLeDiff, Int.reduceLT, Int.reduceLE, List.cons_append, List.nil_append, decide_true, decide_false, if_true, if_false, sizeLine_eq, aLc_ap, d2]
theorem lc_whole {r : List Act} (hl : r.length ≤ 1000) (hok : ∀ a ∈ r, ActOk a) :
  ∃ F at', r ∈ F ∧ (∀ l ∈ F, Tq apartB r l) ∧ F.length ≤ 1300 ∧ (F.length < 200 → ∀ l, Tq apartB r l → l ∈ F) ∧
  aWhile CondC f__law_class_1 [some (.d (runD r)), some (.w (.lst (foundM [r]))), some (.d (.int ((0 : Nat) : Int))), none, none, none] = some (.nx [some (.d (runD r)), some (.w (.lst (foundM F))), some (.d (.int ((at' : Nat) : Int))), none, none, none]) := by
  obtain ⟨s', e, F, at', h1, h2, h3, h4, rfl⟩ := aWhile_inv (C := CondC) (S := f__law_class_1) (fun n s => ∃ F at', n = 200 - at' ∧ at' ≤ F.length ∧ r ∈ F ∧ (∀ l ∈ F, Tq apartB r l) ∧ F.length ≤ 1300 ∧ (∀ i < at', ∀ l, F[i]? = some l → ∀ k, canSw l k = true → swapAt l k ∈ F) ∧ s = [some (.d (runD r)), some (.w (.lst (foundM F))), some (.d (.int ((at' : Nat) : Int))), none, none, none])
    (fun s => ∃ F at', r ∈ F ∧ (∀ l ∈ F, Tq apartB r l) ∧ F.length ≤ 1300 ∧ (F.length < 200 → ∀ l, Tq apartB r l → l ∈ F) ∧ s = [some (.d (runD r)), some (.w (.lst (foundM F))), some (.d (.int ((at' : Nat) : Int))), none, none, none]) (fun n s hp => by
    obtain ⟨F, at', rfl, h0, h1, h2, h3, h4, rfl⟩ := hp
    have hc := condC (r := runD r) (F := F) (at' := at')
    by_cases g : at' < F.length ∧ F.length < 200
    · rw [decide_eq_true g.1, decide_eq_true g.2] at hc
      have ho := List.getElem?_eq_getElem g.1
      have hm := List.getElem_mem g.1
      have hlen : (F[at']).length ≤ 1000 := by rw [← (h2 _ hm).perm.length_eq]; exact hl
      obtain ⟨E, e1, e2, e3, e4⟩ := lc_scan (r := runD r) (F := F) (o := F[at']) (at' := at') hlen (by omega) (fun a ha => hok a ((h2 _ hm).perm.mem_iff.mpr ha)) (fun l hl a ha => hok a ((h2 l hl).perm.mem_iff.mpr ha))
      refine .inr ⟨_, _, hc, .inl (lc_round ho hlen (fun s => ?_) e4), 200 - (at' + 1), by omega, F ++ E, at' + 1, rfl, by rw [List.length_append]; omega, List.mem_append_left _ h1, fun l hl => ?_, by rw [List.length_append]; omega, fun i hi l hl k hk => ?_, rfl⟩
      · have := rngK1_ap (s := s) (j := ((F[at'].length : Nat) : Int) - 1) (by omega)
        rw [show (((F[at'].length : Nat) : Int) - 1).toNat = F[at'].length - 1 by omega] at this
        exact this
      · rcases List.mem_append.mp hl with h | h
        · exact h2 l h
        · exact (h2 _ hm).trans (e1 l h)
      · by_cases e : i = at'
        · subst e
          rw [List.getElem?_append_left g.1, ho] at hl
          cases hl
          exact e3 k hk
        · rw [List.getElem?_append_left (by omega)] at hl
          exact List.mem_append_left _ (h4 i (by omega) l hl k hk)
    · refine .inl ⟨_, ?_, F, at', h1, h2, h3, fun hz l t => ?_, rfl⟩
      · have : (decide (at' < F.length) && decide (F.length < 200)) = false := by
          rw [Bool.and_eq_false_iff, decide_eq_false_iff_not, decide_eq_false_iff_not]
          by_cases a : at' < F.length
          · exact .inr fun b => g ⟨a, b⟩
          · exact .inl a
        rw [this] at hc
        exact hc
      · have ha : at' = F.length := by omega
        have := class_closed (S := fun l => l ∈ F) (fun l k hl hk => by
          obtain ⟨i, hi⟩ := List.getElem?_of_mem hl
          exact h4 i (by have := (List.getElem?_eq_some_iff.mp hi).1; omega) l hi k hk) t []
        exact this h1) (n := 200) (s := [some (.d (runD r)), some (.w (.lst (foundM [r]))), some (.d (.int ((0 : Nat) : Int))), none, none, none]) ⟨[r], 0, rfl, Nat.zero_le _, List.mem_singleton.mpr rfl, fun l hl => by rw [List.mem_singleton.mp hl]; exact Tq.refl _, by show 1 ≤ _; omega, fun i hi => absurd hi (Nat.not_lt_zero _), rfl⟩
  exact ⟨F, at', h1, h2, h3, h4, e⟩
theorem rd__law_class {r : List Act} (hl : r.length ≤ 1000) (hok : ∀ a ∈ r, ActOk a) : ∃ F, r ∈ F ∧ (∀ l ∈ F, Tq apartB r l) ∧ F.length ≤ 1300 ∧ (F.length < 200 → ∀ l, Tq apartB r l → l ∈ F) ∧ den__law_class [.d (runD r)] = some (.ok (.t (.lst (foundM F))) [none]) := by
  obtain ⟨F, at', h1, h2, h3, h4, e⟩ := lc_whole hl hok
  refine ⟨F, h1, h2, h3, h4, ?_⟩
  have e0 : aWhile (aAnd (aB (aOp oLtA (aVar 2) (aCB (vA oLenA) (aCons (aVar 1) aNil)))) (aB (aOp oLtA (aCB (vA oLenA) (aCons (aVar 1) aNil)) (aC (.int 200))))) f__law_class_1 [some (.d (runD r)), some (.w (.lst [.d (runD r)])), some (.d (.int 0)), none, none, none] = some (.nx [some (.d (runD r)), some (.w (.lst (foundM F))), some (.d (.int ((at' : Nat) : Int))), none, none, none]) := e
  have hb : b__law_class [some (.d (runD r)), none, none, none, none, none] = some (.rt (.t (.lst (foundM F))) [some (.d (runD r)), none, none, none, none, none]) := by
    unfold b__law_class
    simp only [aSeq_ap, seqK_nx, seqK_rt, seqK_bk, seqK_ct, seqK_none, aNext_ap, aBrk_ap, aCont_ap, aAsg_ap, asgK_ap, nxR_some, aDrop_ap, dropK_ap, aIfS_ap, ifK_t, ifK_f, aRet_ap, retK_ap, rtR_some, aRetN_ap, aKill_ap, List.foldl_cons, List.foldl_nil, sb_okN, bd_okN, mapR_some, aC_ap, aXT_ap, aVar_ap, varK_d, varK_x, varK_w, varK_p, varK_k, aOp_ap, opK_ap, opK2_ap, aFz_ap, aUn_ap, aB_ap, bK_ap, aAnd_ap, andK_t, andK_f, aOr_ap, orK_t, orK_f, aNot_ap, notK_ap, aTru_ap, truK_ap, aYes_ap, aAndV_ap, andVK_t, andVK_f, aOrV_ap, orVK_t, orVK_f, aNotV_ap, notVK_ap, aIf_ap, ifEK_t, ifEK_f, aNil_ap, aCons_ap, consK_ap, consK2_ap, aCB_ap, cbK_ap, aNoPart_ap, aPart_ap, partK_ap, aSl_ap, slK_ap, slK2_ap, slK3_ap, aBM_ap, bmK_ap, bmK2_ap, aBM0_ap, bmK0_ap, aPut_ap, putK_ap, putK1_ap, putK2_ap, aFor_ap, forK_n, aRng1_ap, aRng2_ap, aIt_ap, itK_l, itK_t, itK_s, itK_x, itK_c, itK_f, aCallG_ap, List.getElem?_cons_zero, List.getElem?_cons_succ, List.set_cons_zero, List.set_cons_succ, List.length_cons, List.length_nil, Nat.zero_add, Nat.reduceAdd, Option.map_some, Option.map_none, Option.bind_some, Option.bind_none, List.map_cons, List.map_nil, aName, aNameF, fz, rtv, wAt, toM, vw, frz_lst, frz_d, lvs_map, oIx2_var, ixV_w, ixV_p, ixV_k, ixL_some, lfAt_nat, lf_d, oIx2_l, oIx2_t, Y.atI_nat, putF_var, putV_w, putV_p, oEq_int, oNe_int, oLtA_int, oIntA_int, oIntA_bool, oLenV_l, oLenV_t, oI0_ap, oB0_ap, oAdd_int, rNeg, lfAt_0, stL_0, Y.atI_0, lfAt_1, stL_1, Y.atI_1, lfAt_2, stL_2, Y.atI_2, lfAt_3, stL_3, Y.atI_3, lfAt_4, stL_4, Y.atI_4, lfAt_5, stL_5, Y.atI_5, lfAt_6, stL_6, Y.atI_6, lfAt_7, stL_7, Y.atI_7, Nat.reduceLeDiff, Int.reduceLT, Int.reduceLE, List.cons_append, List.nil_append, decide_true, decide_false, if_true, if_false, sizeLine_eq, aLc_ap, oLst_1, e0]
  have hs : start0 6 [.d (runD r)] = [some (.d (runD r)), none, none, none, none, none] := rfl
  unfold den__law_class Y.run
  rw [hs, hb]
  rfl

end Lw

namespace Lw
open PySem PySem.Spec PyProof.Rows L2 Y PySem.W TL
/-! ### _law_other -/
theorem run_callP {m m' : MV} {p1 p2 n : PyData} {t : TV} {l : SL} (h : den__law_run [.p m, .d p1, .d p2, .d n] = some (.ok t [some (.p m'), none, none, none])) : callK false den__law_run [.m 0, .f, .f, .f] [.var 0, .d p1, .d p2, .d n] (some (.p m) :: l) = some (.ok t (some (.p m') :: l)) := by
  simp only [callK, unsub, Option.map_none, callT, argF, argF1, fz, Option.bind_some, Option.map_some, argM, argM1, wAt, List.getElem?_cons_zero, if_true, h, argB, argB1, Y.putAt, List.set_cons_zero]
theorem other_short {m m' : MV} {p1 p2 : PyData} {r r' : List Act} (hr : r.length < 2) (hr' : r'.length ≤ 1000) (e : den__law_run [.p m, .d p1, .d p2, .d (.int 1)] = some (.ok (.t (.lst ((runL r').map MV.d))) [some (.p m'), none, none, none])) :
  b__law_other [some (.p m), some (.d (runD r)), some (.d p1), some (.d p2), none, none] = some (.rt (.t (.lst ((runL (r ++ r')).map MV.d))) [some (.p m'), some (.d (runD r)), some (.d p1), some (.d p2), none, none]) := by
  have hd : decide (((r.length : Nat) : Int) < 2) = true := decide_eq_true (by omega)
  have hl : (runL r).length + (runL r').length ≤ 16777216 := by rw [List.length_map, List.length_map]; omega
  have e2 : runL (r ++ r') = runL r ++ runL r' := List.map_append
  unfold b__law_other
  simp only [aSeq_ap, seqK_nx, seqK_rt, seqK_bk, seqK_ct, seqK_none, aNext_ap, aBrk_ap, aCont_ap, aAsg_ap, asgK_ap, nxR_some, aDrop_ap, dropK_ap, aIfS_ap, ifK_t, ifK_f, aRet_ap, retK_ap, rtR_some, aRetN_ap, aKill_ap, List.foldl_cons, List.foldl_nil, sb_okN, bd_okN, mapR_some, aC_ap, aXT_ap, aVar_ap, varK_d, varK_x, varK_w, varK_p, varK_k, aOp_ap, opK_ap, opK2_ap, aFz_ap, aUn_ap, aB_ap, bK_ap, aAnd_ap, andK_t, andK_f, aOr_ap, orK_t, orK_f, aNot_ap, notK_ap, aTru_ap, truK_ap, aYes_ap, aAndV_ap, andVK_t, andVK_f, aOrV_ap, orVK_t, orVK_f, aNotV_ap, notVK_ap, aIf_ap, ifEK_t, ifEK_f, aNil_ap, aCons_ap, consK_ap, consK2_ap, aCB_ap, cbK_ap, aNoPart_ap, aPart_ap, partK_ap, aSl_ap, slK_ap, slK2_ap, slK3_ap, aBM_ap, bmK_ap, bmK2_ap, aBM0_ap, bmK0_ap, aPut_ap, putK_ap, putK1_ap, putK2_ap, aFor_ap, forK_n, aRng1_ap, aRng2_ap, aIt_ap, itK_l, itK_t, itK_s, itK_x, itK_c, itK_f, aCallG_ap, List.getElem?_cons_zero, List.getElem?_cons_succ, List.set_cons_zero, List.set_cons_succ, List.length_cons, List.length_nil, Nat.zero_add, Nat.reduceAdd, Option.map_some, Option.map_none, Option.bind_some, Option.bind_none, List.map_cons, List.map_nil, aName, aNameF, fz, rtv, wAt, toM, vw, frz_lst, frz_d, lvs_map, oIx2_var, ixV_w, ixV_p, ixV_k, ixL_some, lfAt_nat, lf_d, oIx2_l, oIx2_t, Y.atI_nat, putF_var, putV_w, putV_p, oEq_int, oNe_int, oLtA_int, oIntA_int, oIntA_bool, oLenV_l, oLenV_t, oI0_ap, oB0_ap, oAdd_int, rNeg, lfAt_0, stL_0, Y.atI_0, lfAt_1, stL_1, Y.atI_1, lfAt_2, stL_2, Y.atI_2, lfAt_3, stL_3, Y.atI_3, lfAt_4, stL_4, Y.atI_4, lfAt_5, stL_5, Y.atI_5, lfAt_6, stL_6, Y.atI_6, lfAt_7, stL_7, Y.atI_7, Nat.reduceLeDiff, Int.reduceLT, Int.reduceLE, List.cons_append, List.nil_append, decide_true, decide_false, if_true, if_false, sizeLine_eq, aLc_ap, List.length_map, hd, run_callP e]
  rw [oAdd_dt hl, ← e2]
  simp only [aSeq_ap, seqK_nx, seqK_rt, seqK_bk, seqK_ct, seqK_none, aNext_ap, aBrk_ap, aCont_ap, aAsg_ap, asgK_ap, nxR_some, aDrop_ap, dropK_ap, aIfS_ap, ifK_t, ifK_f, aRet_ap, retK_ap, rtR_some, aRetN_ap, aKill_ap, List.foldl_cons, List.foldl_nil, sb_okN, bd_okN, mapR_some, aC_ap, aXT_ap, aVar_ap, varK_d, varK_x, varK_w, varK_p, varK_k, aOp_ap, opK_ap, opK2_ap, aFz_ap, aUn_ap, aB_ap, bK_ap, aAnd_ap, andK_t, andK_f, aOr_ap, orK_t, orK_f, aNot_ap, notK_ap, aTru_ap, truK_ap, aYes_ap, aAndV_ap, andVK_t, andVK_f, aOrV_ap, orVK_t, orVK_f, aNotV_ap, notVK_ap, aIf_ap, ifEK_t, ifEK_f, aNil_ap, aCons_ap, consK_ap, consK2_ap, aCB_ap, cbK_ap, aNoPart_ap, aPart_ap, partK_ap, aSl_ap, slK_ap, slK2_ap, slK3_ap, aBM_ap, bmK_ap, bmK2_ap, aBM0_ap, bmK0_ap, aPut_ap, putK_ap, putK1_ap, putK2_ap, aFor_ap, forK_n, aRng1_ap, aRng2_ap, aIt_ap, itK_l, itK_t, itK_s, itK_x, itK_c, itK_f, aCallG_ap, List.getElem?_cons_zero, List.getElem?_cons_succ, List.set_cons_zero, List.set_cons_succ, List.length_cons, List.length_nil, Nat.zero_add, Nat.reduceAdd, Option.map_some, Option.map_none, Option.bind_some, Option.bind_none, List.map_cons, List.map_nil, aName, aNameF, fz, rtv, wAt, toM, vw, frz_lst, frz_d, lvs_map, oIx2_var, ixV_w, ixV_p, ixV_k, ixL_some, lfAt_nat, lf_d, oIx2_l, oIx2_t, Y.atI_nat, putF_var, putV_w, putV_p, oEq_int, oNe_int, oLtA_int, oIntA_int, oIntA_bool, oLenV_l, oLenV_t, oI0_ap, oB0_ap, oAdd_int, rNeg, lfAt_0, stL_0, Y.atI_0, lfAt_1, stL_1, Y.atI_1, lfAt_2, stL_2, Y.atI_2, lfAt_3, stL_3, Y.atI_3, lfAt_4, stL_4, Y.atI_4, lfAt_5, stL_5, Y.atI_5, lfAt_6, stL_6, Y.atI_6, lfAt_7, stL_7, Y.atI_7, Nat.reduceLeDiff, Int.reduceLT, Int.reduceLE, List.cons_append, List.nil_append, decide_true, decide_false, if_true, if_false, sizeLine_eq, aLc_ap, hd]
theorem oAdd_tt1 {s : SL} {xs : List PyData} {y : PyData} (h : xs.length + [y].length ≤ 16777216) : oAdd s (.t (.lst (xs.map MV.d))) (.t (.lst [.d y])) = some (.t (.lst ((xs ++ [y]).map MV.d)), s) := oAdd_tt h
theorem oAdd_tt2 {s : SL} {xs : List PyData} {y z : PyData} (h : xs.length + [y, z].length ≤ 16777216) : oAdd s (.t (.lst (xs.map MV.d))) (.t (.lst [.d y, .d z])) = some (.t (.lst ((xs ++ [y, z]).map MV.d)), s) := oAdd_tt h
def other0 (r : List Act) (k : Nat) : List Act := r.take k ++ r.drop (k + 1)
def other1 (r : List Act) (k : Nat) : List Act := r.take k ++ [(((r[k]?).getD dfA).2.1, ((r[k]?).getD dfA).1, ((r[k]?).getD dfA).2.2)] ++ r.drop (k + 1)
theorem other_long {m m1 m2 : MV} {p1 p2 : PyData} {r : List Act} {k : Nat} {q : Int} (hr : 2 ≤ r.length) (hl : r.length ≤ 1000) (hk : k + 1 < r.length) (e1 : den__law_draw [.p m, .d (.int ((r.length : Nat) - 1))] = some (.ok (.d (.int (k : Nat))) [some (.p m1), none])) (e2 : den__law_draw [.p m1, .d (.int 4)] = some (.ok (.d (.int q)) [some (.p m2), none])) :
  b__law_other [some (.p m), some (.d (runD r)), some (.d p1), some (.d p2), none, none] = some (.rt (.t (.lst ((runL (if q = 0 then other0 r k else if q = 1 then other1 r k else swapAt r k)).map MV.d))) [some (.p m2), some (.d (runD r)), some (.d p1), some (.d p2), some (.d (.int (k : Nat))), some (.d (.int q))]) := by
  have hd : decide (((r.length : Nat) : Int) < 2) = false := decide_eq_false (by omega)
  have f0 := List.getElem?_eq_getElem (show k < r.length by omega)
  have f1 := List.getElem?_eq_getElem hk
  have hc1 : ((k : Nat) : Int) + 1 = ((k + 1 : Nat) : Int) := by omega
  have hc2 : ((k : Nat) : Int) + 2 = ((k + 2 : Nat) : Int) := by omega
  unfold b__law_other
  simp only [aSeq_ap, seqK_nx, seqK_rt, seqK_bk, seqK_ct, seqK_none, aNext_ap, aBrk_ap, aCont_ap, aAsg_ap, asgK_ap, nxR_some, aDrop_ap, dropK_ap, aIfS_ap, ifK_t, ifK_f, aRet_ap, retK_ap, rtR_some, aRetN_ap, aKill_ap, List.foldl_cons, List.foldl_nil, sb_okN, bd_okN, mapR_some, aC_ap, aXT_ap, aVar_ap, varK_d, varK_x, varK_w, varK_p, varK_k, aOp_ap, opK_ap, opK2_ap, aFz_ap, aUn_ap, aB_ap, bK_ap, aAnd_ap, andK_t, andK_f, aOr_ap, orK_t, orK_f, aNot_ap, notK_ap, aTru_ap, truK_ap, aYes_ap, aAndV_ap, andVK_t, andVK_f, aOrV_ap, orVK_t, orVK_f, aNotV_ap, notVK_ap, aIf_ap, ifEK_t, ifEK_f, aNil_ap, aCons_ap, consK_ap, consK2_ap, aCB_ap, cbK_ap, aNoPart_ap, aPart_ap, partK_ap, aSl_ap, slK_ap, slK2_ap, slK3_ap, aBM_ap, bmK_ap, bmK2_ap, aBM0_ap, bmK0_ap, aPut_ap, putK_ap, putK1_ap, putK2_ap, aFor_ap, forK_n, aRng1_ap, aRng2_ap, aIt_ap, itK_l, itK_t, itK_s, itK_x, itK_c, itK_f, aCallG_ap, List.getElem?_cons_zero, List.getElem?_cons_succ, List.set_cons_zero, List.set_cons_succ, List.length_cons, List.length_nil, Nat.zero_add, Nat.reduceAdd, Option.map_some, Option.map_none, Option.bind_some, Option.bind_none, List.map_cons, List.map_nil, aName, aNameF, fz, rtv, wAt, toM, vw, frz_lst, frz_d, lvs_map, oIx2_var, ixV_w, ixV_p, ixV_k, ixL_some, lfAt_nat, lf_d, oIx2_l, oIx2_t, Y.atI_nat, putF_var, putV_w, putV_p, oEq_int, oNe_int, oLtA_int, oIntA_int, oIntA_bool, oLenV_l, oLenV_t, oI0_ap, oB0_ap, oAdd_int, rNeg, lfAt_0, stL_0, Y.atI_0, lfAt_1, stL_1, Y.atI_1, lfAt_2, stL_2, Y.atI_2, lfAt_3, stL_3, Y.atI_3, lfAt_4, stL_4, Y.atI_4, lfAt_5, stL_5, Y.atI_5, lfAt_6, stL_6, Y.atI_6, lfAt_7, stL_7, Y.atI_7, Nat.reduceLeDiff, Int.reduceLT, Int.reduceLE, List.cons_append, List.nil_append, decide_true, decide_false, if_true, if_false, sizeLine_eq, aLc_ap, List.length_map, hd, draw_callP e1, draw_callP e2]
  by_cases h0 : q = 0
  · rw [decide_eq_true h0, if_pos h0]
    have l0 : ((runL r).take k).length + ((runL r).drop (k + 1)).length ≤ 16777216 := by rw [List.length_take, List.length_drop, List.length_map]; omega
    have g0 : (runL r).take k ++ (runL r).drop (k + 1) = runL (other0 r k) := by unfold other0 runL; rw [List.map_append, List.map_take, List.map_drop]
    simp only [aSeq_ap, seqK_nx, seqK_rt, seqK_bk, seqK_ct, seqK_none, aNext_ap, aBrk_ap, aCont_ap, aAsg_ap, asgK_ap, nxR_some, aDrop_ap, dropK_ap, aIfS_ap, ifK_t, ifK_f, aRet_ap, retK_ap, rtR_some, aRetN_ap, aKill_ap, List.foldl_cons, List.foldl_nil, sb_okN, bd_okN, mapR_some, aC_ap, aXT_ap, aVar_ap, varK_d, varK_x, varK_w, varK_p, varK_k, aOp_ap, opK_ap, opK2_ap, aFz_ap, aUn_ap, aB_ap, bK_ap, aAnd_ap, andK_t, andK_f, aOr_ap, orK_t, orK_f, aNot_ap, notK_ap, aTru_ap, truK_ap, aYes_ap, aAndV_ap, andVK_t, andVK_f, aOrV_ap, orVK_t, orVK_f, aNotV_ap, notVK_ap, aIf_ap, ifEK_t, ifEK_f, aNil_ap, aCons_ap, consK_ap, consK2_ap, aCB_ap, cbK_ap, aNoPart_ap, aPart_ap, partK_ap, aSl_ap, slK_ap, slK2_ap, slK3_ap, aBM_ap, bmK_ap, bmK2_ap, aBM0_ap, bmK0_ap, aPut_ap, putK_ap, putK1_ap, putK2_ap, aFor_ap, forK_n, aRng1_ap, aRng2_ap, aIt_ap, itK_l, itK_t, itK_s, itK_x, itK_c, itK_f, aCallG_ap, List.getElem?_cons_zero, List.getElem?_cons_succ, List.set_cons_zero, List.set_cons_succ, List.length_cons, List.length_nil, Nat.zero_add, Nat.reduceAdd, Option.map_some, Option.map_none, Option.bind_some, Option.bind_none, List.map_cons, List.map_nil, aName, aNameF, fz, rtv, wAt, toM, vw, frz_lst, frz_d, lvs_map, oIx2_var, ixV_w, ixV_p, ixV_k, ixL_some, lfAt_nat, lf_d, oIx2_l, oIx2_t, Y.atI_nat, putF_var, putV_w, putV_p, oEq_int, oNe_int, oLtA_int, oIntA_int, oIntA_bool, oLenV_l, oLenV_t, oI0_ap, oB0_ap, oAdd_int, rNeg, lfAt_0, stL_0, Y.atI_0, lfAt_1, stL_1, Y.atI_1, lfAt_2, stL_2, Y.atI_2, lfAt_3, stL_3, Y.atI_3, lfAt_4, stL_4, Y.atI_4, lfAt_5, stL_5, Y.atI_5, lfAt_6, stL_6, Y.atI_6, lfAt_7, stL_7, Y.atI_7, Nat.reduceLeDiff, Int.reduceLT, Int.reduceLE, List.cons_append, List.nil_append, decide_true, decide_false, if_true, if_false, sizeLine_eq, aLc_ap, hc1]
    rw [oSl_dl, cutD_hi]
    simp only [aSeq_ap, seqK_nx, seqK_rt, seqK_bk, seqK_ct, seqK_none, aNext_ap, aBrk_ap, aCont_ap, aAsg_ap, asgK_ap, nxR_some, aDrop_ap, dropK_ap, aIfS_ap, ifK_t, ifK_f, aRet_ap, retK_ap, rtR_some, aRetN_ap, aKill_ap, List.foldl_cons, List.foldl_nil, sb_okN, bd_okN, mapR_some, aC_ap, aXT_ap, aVar_ap, varK_d, varK_x, varK_w, varK_p, varK_k, aOp_ap, opK_ap, opK2_ap, aFz_ap, aUn_ap, aB_ap, bK_ap, aAnd_ap, andK_t, andK_f, aOr_ap, orK_t, orK_f, aNot_ap, notK_ap, aTru_ap, truK_ap, aYes_ap, aAndV_ap, andVK_t, andVK_f, aOrV_ap, orVK_t, orVK_f, aNotV_ap, notVK_ap, aIf_ap, ifEK_t, ifEK_f, aNil_ap, aCons_ap, consK_ap, consK2_ap, aCB_ap, cbK_ap, aNoPart_ap, aPart_ap, partK_ap, aSl_ap, slK_ap, slK2_ap, slK3_ap, aBM_ap, bmK_ap, bmK2_ap, aBM0_ap, bmK0_ap, aPut_ap, putK_ap, putK1_ap, putK2_ap, aFor_ap, forK_n, aRng1_ap, aRng2_ap, aIt_ap, itK_l, itK_t, itK_s, itK_x, itK_c, itK_f, aCallG_ap, List.getElem?_cons_zero, List.getElem?_cons_succ, List.set_cons_zero, List.set_cons_succ, List.length_cons, List.length_nil, Nat.zero_add, Nat.reduceAdd, Option.map_some, Option.map_none, Option.bind_some, Option.bind_none, List.map_cons, List.map_nil, aName, aNameF, fz, rtv, wAt, toM, vw, frz_lst, frz_d, lvs_map, oIx2_var, ixV_w, ixV_p, ixV_k, ixL_some, lfAt_nat, lf_d, oIx2_l, oIx2_t, Y.atI_nat, putF_var, putV_w, putV_p, oEq_int, oNe_int, oLtA_int, oIntA_int, oIntA_bool, oLenV_l, oLenV_t, oI0_ap, oB0_ap, oAdd_int, rNeg, lfAt_0, stL_0, Y.atI_0, lfAt_1, stL_1, Y.atI_1, lfAt_2, stL_2, Y.atI_2, lfAt_3, stL_3, Y.atI_3, lfAt_4, stL_4, Y.atI_4, lfAt_5, stL_5, Y.atI_5, lfAt_6, stL_6, Y.atI_6, lfAt_7, stL_7, Y.atI_7, Nat.reduceLeDiff, Int.reduceLT, Int.reduceLE, List.cons_append, List.nil_append, decide_true, decide_false, if_true, if_false, sizeLine_eq, aLc_ap, hc1]
    rw [oSl_dl, cutD_lo]
    simp only [aSeq_ap, seqK_nx, seqK_rt, seqK_bk, seqK_ct, seqK_none, aNext_ap, aBrk_ap, aCont_ap, aAsg_ap, asgK_ap, nxR_some, aDrop_ap, dropK_ap, aIfS_ap, ifK_t, ifK_f, aRet_ap, retK_ap, rtR_some, aRetN_ap, aKill_ap, List.foldl_cons, List.foldl_nil, sb_okN, bd_okN, mapR_some, aC_ap, aXT_ap, aVar_ap, varK_d, varK_x, varK_w, varK_p, varK_k, aOp_ap, opK_ap, opK2_ap, aFz_ap, aUn_ap, aB_ap, bK_ap, aAnd_ap, andK_t, andK_f, aOr_ap, orK_t, orK_f, aNot_ap, notK_ap, aTru_ap, truK_ap, aYes_ap, aAndV_ap, andVK_t, andVK_f, aOrV_ap, orVK_t, orVK_f, aNotV_ap, notVK_ap, aIf_ap, ifEK_t, ifEK_f, aNil_ap, aCons_ap, consK_ap, consK2_ap, aCB_ap, cbK_ap, aNoPart_ap, aPart_ap, partK_ap, aSl_ap, slK_ap, slK2_ap, slK3_ap, aBM_ap, bmK_ap, bmK2_ap, aBM0_ap, bmK0_ap, aPut_ap, putK_ap, putK1_ap, putK2_ap, aFor_ap, forK_n, aRng1_ap, aRng2_ap, aIt_ap, itK_l, itK_t, itK_s, itK_x, itK_c, itK_f, aCallG_ap, List.getElem?_cons_zero, List.getElem?_cons_succ, List.set_cons_zero, List.set_cons_succ, List.length_cons, List.length_nil, Nat.zero_add, Nat.reduceAdd, Option.map_some, Option.map_none, Option.bind_some, Option.bind_none, List.map_cons, List.map_nil, aName, aNameF, fz, rtv, wAt, toM, vw, frz_lst, frz_d, lvs_map, oIx2_var, ixV_w, ixV_p, ixV_k, ixL_some, lfAt_nat, lf_d, oIx2_l, oIx2_t, Y.atI_nat, putF_var, putV_w, putV_p, oEq_int, oNe_int, oLtA_int, oIntA_int, oIntA_bool, oLenV_l, oLenV_t, oI0_ap, oB0_ap, oAdd_int, rNeg, lfAt_0, stL_0, Y.atI_0, lfAt_1, stL_1, Y.atI_1, lfAt_2, stL_2, Y.atI_2, lfAt_3, stL_3, Y.atI_3, lfAt_4, stL_4, Y.atI_4, lfAt_5, stL_5, Y.atI_5, lfAt_6, stL_6, Y.atI_6, lfAt_7, stL_7, Y.atI_7, Nat.reduceLeDiff, Int.reduceLT, Int.reduceLE, List.cons_append, List.nil_append, decide_true, decide_false, if_true, if_false, sizeLine_eq, aLc_ap, oAdd_tt l0, g0]
  · rw [decide_eq_false h0, if_neg h0]
    simp only [aSeq_ap, seqK_nx, seqK_rt, seqK_bk, seqK_ct, seqK_none, aNext_ap, aBrk_ap, aCont_ap, aAsg_ap, asgK_ap, nxR_some, aDrop_ap, dropK_ap, aIfS_ap, ifK_t, ifK_f, aRet_ap, retK_ap, rtR_some, aRetN_ap, aKill_ap, List.foldl_cons, List.foldl_nil, sb_okN, bd_okN, mapR_some, aC_ap, aXT_ap, aVar_ap, varK_d, varK_x, varK_w, varK_p, varK_k, aOp_ap, opK_ap, opK2_ap, aFz_ap, aUn_ap, aB_ap, bK_ap, aAnd_ap, andK_t, andK_f, aOr_ap, orK_t, orK_f, aNot_ap, notK_ap, aTru_ap, truK_ap, aYes_ap, aAndV_ap, andVK_t, andVK_f, aOrV_ap, orVK_t, orVK_f, aNotV_ap, notVK_ap, aIf_ap, ifEK_t, ifEK_f, aNil_ap, aCons_ap, consK_ap, consK2_ap, aCB_ap, cbK_ap, aNoPart_ap, aPart_ap, partK_ap, aSl_ap, slK_ap, slK2_ap, slK3_ap, aBM_ap, bmK_ap, bmK2_ap, aBM0_ap, bmK0_ap, aPut_ap, putK_ap, putK1_ap, putK2_ap, aFor_ap, forK_n, aRng1_ap, aRng2_ap, aIt_ap, itK_l, itK_t, itK_s, itK_x, itK_c, itK_f, aCallG_ap, List.getElem?_cons_zero, List.getElem?_cons_succ, List.set_cons_zero, List.set_cons_succ, List.length_cons, List.length_nil, Nat.zero_add, Nat.reduceAdd, Option.map_some, Option.map_none, Option.bind_some, Option.bind_none, List.map_cons, List.map_nil, aName, aNameF, fz, rtv, wAt, toM, vw, frz_lst, frz_d, lvs_map, oIx2_var, ixV_w, ixV_p, ixV_k, ixL_some, lfAt_nat, lf_d, oIx2_l, oIx2_t, Y.atI_nat, putF_var, putV_w, putV_p, oEq_int, oNe_int, oLtA_int, oIntA_int, oIntA_bool, oLenV_l, oLenV_t, oI0_ap, oB0_ap, oAdd_int, rNeg, lfAt_0, stL_0, Y.atI_0, lfAt_1, stL_1, Y.atI_1, lfAt_2, stL_2, Y.atI_2, lfAt_3, stL_3, Y.atI_3, lfAt_4, stL_4, Y.atI_4, lfAt_5, stL_5, Y.atI_5, lfAt_6, stL_6, Y.atI_6, lfAt_7, stL_7, Y.atI_7, Nat.reduceLeDiff, Int.reduceLT, Int.reduceLE, List.cons_append, List.nil_append, decide_true, decide_false, if_true, if_false, sizeLine_eq, aLc_ap, hc1]
    by_cases h1 : q = 1
    · rw [decide_eq_true h1, if_pos h1]
      have e3 : ∀ s : SL, oLst s [.d (.tuple [.str r[k].2.1, .str r[k].1, .str r[k].2.2])] = some (.t (.lst [.d (.tuple [.str r[k].2.1, .str r[k].1, .str r[k].2.2])]), s) := fun s => oLst_1
      have l1 : ((runL r).take k).length + [PyData.tuple [.str r[k].2.1, .str r[k].1, .str r[k].2.2]].length ≤ 16777216 := by rw [List.length_take, List.length_map]; show _ + 1 ≤ _; omega
      have l2 : ((runL r).take k ++ [PyData.tuple [.str r[k].2.1, .str r[k].1, .str r[k].2.2]]).length + ((runL r).drop (k + 1)).length ≤ 16777216 := by rw [List.length_append, List.length_take, List.length_drop, List.length_map]; show _ + 1 + _ ≤ _; omega
      have g0 : (runL r).take k ++ [PyData.tuple [.str r[k].2.1, .str r[k].1, .str r[k].2.2]] ++ (runL r).drop (k + 1) = runL (other1 r k) := by
        unfold other1 runL
        rw [List.map_append, List.map_append, List.map_take, List.map_drop, f0]
        rfl
      simp only [aSeq_ap, seqK_nx, seqK_rt, seqK_bk, seqK_ct, seqK_none, aNext_ap, aBrk_ap, aCont_ap, aAsg_ap, asgK_ap, nxR_some, aDrop_ap, dropK_ap, aIfS_ap, ifK_t, ifK_f, aRet_ap, retK_ap, rtR_some, aRetN_ap, aKill_ap, List.foldl_cons, List.foldl_nil, sb_okN, bd_okN, mapR_some, aC_ap, aXT_ap, aVar_ap, varK_d, varK_x, varK_w, varK_p, varK_k, aOp_ap, opK_ap, opK2_ap, aFz_ap, aUn_ap, aB_ap, bK_ap, aAnd_ap, andK_t, andK_f, aOr_ap, orK_t, orK_f, aNot_ap, notK_ap, aTru_ap, truK_ap, aYes_ap, aAndV_ap, andVK_t, andVK_f, aOrV_ap, orVK_t, orVK_f, aNotV_ap, notVK_ap, aIf_ap, ifEK_t, ifEK_f, aNil_ap, aCons_ap, consK_ap, consK2_ap, aCB_ap, cbK_ap, aNoPart_ap, aPart_ap, partK_ap, aSl_ap, slK_ap, slK2_ap, slK3_ap, aBM_ap, bmK_ap, bmK2_ap, aBM0_ap, bmK0_ap, aPut_ap, putK_ap, putK1_ap, putK2_ap, aFor_ap, forK_n, aRng1_ap, aRng2_ap, aIt_ap, itK_l, itK_t, itK_s, itK_x, itK_c, itK_f, aCallG_ap, List.getElem?_cons_zero, List.getElem?_cons_succ, List.set_cons_zero, List.set_cons_succ, List.length_cons, List.length_nil, Nat.zero_add, Nat.reduceAdd, Option.map_some, Option.map_none, Option.bind_some, Option.bind_none, List.map_cons, List.map_nil, aName, aNameF, fz, rtv, wAt, toM, vw, frz_lst, frz_d, lvs_map, oIx2_var, ixV_w, ixV_p, ixV_k, ixL_some, lfAt_nat, lf_d, oIx2_l, oIx2_t, Y.atI_nat, putF_var, putV_w, putV_p, oEq_int, oNe_int, oLtA_int, oIntA_int, oIntA_bool, oLenV_l, oLenV_t, oI0_ap, oB0_ap, oAdd_int, rNeg, lfAt_0, stL_0, Y.atI_0, lfAt_1, stL_1, Y.atI_1, lfAt_2, stL_2, Y.atI_2, lfAt_3, stL_3, Y.atI_3, lfAt_4, stL_4, Y.atI_4, lfAt_5, stL_5, Y.atI_5, lfAt_6, stL_6, Y.atI_6, lfAt_7, stL_7, Y.atI_7, Nat.reduceLeDiff, Int.reduceLT, Int.reduceLE, List.cons_append, List.nil_append, decide_true, decide_false, if_true, if_false, sizeLine_eq, aLc_ap, hc1]
      rw [oSl_dl, cutD_hi]
      simp only [aSeq_ap, seqK_nx, seqK_rt, seqK_bk, seqK_ct, seqK_none, aNext_ap, aBrk_ap, aCont_ap, aAsg_ap, asgK_ap, nxR_some, aDrop_ap, dropK_ap, aIfS_ap, ifK_t, ifK_f, aRet_ap, retK_ap, rtR_some, aRetN_ap, aKill_ap, List.foldl_cons, List.foldl_nil, sb_okN, bd_okN, mapR_some, aC_ap, aXT_ap, aVar_ap, varK_d, varK_x, varK_w, varK_p, varK_k, aOp_ap, opK_ap, opK2_ap, aFz_ap, aUn_ap, aB_ap, bK_ap, aAnd_ap, andK_t, andK_f, aOr_ap, orK_t, orK_f, aNot_ap, notK_ap, aTru_ap, truK_ap, aYes_ap, aAndV_ap, andVK_t, andVK_f, aOrV_ap, orVK_t, orVK_f, aNotV_ap, notVK_ap, aIf_ap, ifEK_t, ifEK_f, aNil_ap, aCons_ap, consK_ap, consK2_ap, aCB_ap, cbK_ap, aNoPart_ap, aPart_ap, partK_ap, aSl_ap, slK_ap, slK2_ap, slK3_ap, aBM_ap, bmK_ap, bmK2_ap, aBM0_ap, bmK0_ap, aPut_ap, putK_ap, putK1_ap, putK2_ap, aFor_ap, forK_n, aRng1_ap, aRng2_ap, aIt_ap, itK_l, itK_t, itK_s, itK_x, itK_c, itK_f, aCallG_ap, List.getElem?_cons_zero, List.getElem?_cons_succ, List.set_cons_zero, List.set_cons_succ, List.length_cons, List.length_nil, Nat.zero_add, Nat.reduceAdd, Option.map_some, Option.map_none, Option.bind_some, Option.bind_none, List.map_cons, List.map_nil, aName, aNameF, fz, rtv, wAt, toM, vw, frz_lst, frz_d, lvs_map, oIx2_var, ixV_w, ixV_p, ixV_k, ixL_some, lfAt_nat, lf_d, oIx2_l, oIx2_t, Y.atI_nat, putF_var, putV_w, putV_p, oEq_int, oNe_int, oLtA_int, oIntA_int, oIntA_bool, oLenV_l, oLenV_t, oI0_ap, oB0_ap, oAdd_int, rNeg, lfAt_0, stL_0, Y.atI_0, lfAt_1, stL_1, Y.atI_1, lfAt_2, stL_2, Y.atI_2, lfAt_3, stL_3, Y.atI_3, lfAt_4, stL_4, Y.atI_4, lfAt_5, stL_5, Y.atI_5, lfAt_6, stL_6, Y.atI_6, lfAt_7, stL_7, Y.atI_7, Nat.reduceLeDiff, Int.reduceLT, Int.reduceLE, List.cons_append, List.nil_append, decide_true, decide_false, if_true, if_false, sizeLine_eq, aLc_ap, runL_at f0, oTup_3, e3, oAdd_tt1 l1]
      simp only [aSeq_ap, seqK_nx, seqK_rt, seqK_bk, seqK_ct, seqK_none, aNext_ap, aBrk_ap, aCont_ap, aAsg_ap, asgK_ap, nxR_some, aDrop_ap, dropK_ap, aIfS_ap, ifK_t, ifK_f, aRet_ap, retK_ap, rtR_some, aRetN_ap, aKill_ap, List.foldl_cons, List.foldl_nil, sb_okN, bd_okN, mapR_some, aC_ap, aXT_ap, aVar_ap, varK_d, varK_x, varK_w, varK_p, varK_k, aOp_ap, opK_ap, opK2_ap, aFz_ap, aUn_ap, aB_ap, bK_ap, aAnd_ap, andK_t, andK_f, aOr_ap, orK_t, orK_f, aNot_ap, notK_ap, aTru_ap, truK_ap, aYes_ap, aAndV_ap, andVK_t, andVK_f, aOrV_ap, orVK_t, orVK_f, aNotV_ap, notVK_ap, aIf_ap, ifEK_t, ifEK_f, aNil_ap, aCons_ap, consK_ap, consK2_ap, aCB_ap, cbK_ap, aNoPart_ap, aPart_ap, partK_ap, aSl_ap, slK_ap, slK2_ap, slK3_ap, aBM_ap, bmK_ap, bmK2_ap, aBM0_ap, bmK0_ap, aPut_ap, putK_ap, putK1_ap, putK2_ap, aFor_ap, forK_n, aRng1_ap, aRng2_ap, aIt_ap, itK_l, itK_t, itK_s, itK_x, itK_c, itK_f, aCallG_ap, List.getElem?_cons_zero, List.getElem?_cons_succ, List.set_cons_zero, List.set_cons_succ, List.length_cons, List.length_nil, Nat.zero_add, Nat.reduceAdd, Option.map_some, Option.map_none, Option.bind_some, Option.bind_none, List.map_cons, List.map_nil, aName, aNameF, fz, rtv, wAt, toM, vw, frz_lst, frz_d, lvs_map, oIx2_var, ixV_w, ixV_p, ixV_k, ixL_some, lfAt_nat, lf_d, oIx2_l, oIx2_t, Y.atI_nat, putF_var, putV_w, putV_p, oEq_int, oNe_int, oLtA_int, oIntA_int, oIntA_bool, oLenV_l, oLenV_t, oI0_ap, oB0_ap, oAdd_int, rNeg, lfAt_0, stL_0, Y.atI_0, lfAt_1, stL_1, Y.atI_1, lfAt_2, stL_2, Y.atI_2, lfAt_3, stL_3, Y.atI_3, lfAt_4, stL_4, Y.atI_4, lfAt_5, stL_5, Y.atI_5, lfAt_6, stL_6, Y.atI_6, lfAt_7, stL_7, Y.atI_7, Nat.reduceLeDiff, Int.reduceLT, Int.reduceLE, List.cons_append, List.nil_append, decide_true, decide_false, if_true, if_false, sizeLine_eq, aLc_ap, hc1]
      rw [oSl_dl, cutD_lo]
      simp only [aSeq_ap, seqK_nx, seqK_rt, seqK_bk, seqK_ct, seqK_none, aNext_ap, aBrk_ap, aCont_ap, aAsg_ap, asgK_ap, nxR_some, aDrop_ap, dropK_ap, aIfS_ap, ifK_t, ifK_f, aRet_ap, retK_ap, rtR_some, aRetN_ap, aKill_ap, List.foldl_cons, List.foldl_nil, sb_okN, bd_okN, mapR_some, aC_ap, aXT_ap, aVar_ap, varK_d, varK_x, varK_w, varK_p, varK_k, aOp_ap, opK_ap, opK2_ap, aFz_ap, aUn_ap, aB_ap, bK_ap, aAnd_ap, andK_t, andK_f, aOr_ap, orK_t, orK_f, aNot_ap, notK_ap, aTru_ap, truK_ap, aYes_ap, aAndV_ap, andVK_t, andVK_f, aOrV_ap, orVK_t, orVK_f, aNotV_ap, notVK_ap, aIf_ap, ifEK_t, ifEK_f, aNil_ap, aCons_ap, consK_ap, consK2_ap, aCB_ap, cbK_ap, aNoPart_ap, aPart_ap, partK_ap, aSl_ap, slK_ap, slK2_ap, slK3_ap, aBM_ap, bmK_ap, bmK2_ap, aBM0_ap, bmK0_ap, aPut_ap, putK_ap, putK1_ap, putK2_ap, aFor_ap, forK_n, aRng1_ap, aRng2_ap, aIt_ap, itK_l, itK_t, itK_s, itK_x, itK_c, itK_f, aCallG_ap, List.getElem?_cons_zero, List.getElem?_cons_succ, List.set_cons_zero, List.set_cons_succ, List.length_cons, List.length_nil, Nat.zero_add, Nat.reduceAdd, Option.map_some, Option.map_none, Option.bind_some, Option.bind_none, List.map_cons, List.map_nil, aName, aNameF, fz, rtv, wAt, toM, vw, frz_lst, frz_d, lvs_map, oIx2_var, ixV_w, ixV_p, ixV_k, ixL_some, lfAt_nat, lf_d, oIx2_l, oIx2_t, Y.atI_nat, putF_var, putV_w, putV_p, oEq_int, oNe_int, oLtA_int, oIntA_int, oIntA_bool, oLenV_l, oLenV_t, oI0_ap, oB0_ap, oAdd_int, rNeg, lfAt_0, stL_0, Y.atI_0, lfAt_1, stL_1, Y.atI_1, lfAt_2, stL_2, Y.atI_2, lfAt_3, stL_3, Y.atI_3, lfAt_4, stL_4, Y.atI_4, lfAt_5, stL_5, Y.atI_5, lfAt_6, stL_6, Y.atI_6, lfAt_7, stL_7, Y.atI_7, Nat.reduceLeDiff, Int.reduceLT, Int.reduceLE, List.cons_append, List.nil_append, decide_true, decide_false, if_true, if_false, sizeLine_eq, aLc_ap, oAdd_tt l2, g0]
    · rw [decide_eq_false h1, if_neg h1]
      have e3 : ∀ s : SL, oLst s [.d (actD r[k + 1]), .d (actD r[k])] = some (.t (.lst [.d (actD r[k + 1]), .d (actD r[k])]), s) := fun s => if_pos (show 2 ≤ sizeLine by rw [sizeLine_eq]; omega)
      have l1 : ((runL r).take k).length + [actD r[k + 1], actD r[k]].length ≤ 16777216 := by rw [List.length_take, List.length_map]; show _ + 2 ≤ _; omega
      have l2 : ((runL r).take k ++ [actD r[k + 1], actD r[k]]).length + ((runL r).drop (k + 2)).length ≤ 16777216 := by rw [List.length_append, List.length_take, List.length_drop, List.length_map]; show _ + 2 + _ ≤ _; omega
      simp only [aSeq_ap, seqK_nx, seqK_rt, seqK_bk, seqK_ct, seqK_none, aNext_ap, aBrk_ap, aCont_ap, aAsg_ap, asgK_ap, nxR_some, aDrop_ap, dropK_ap, aIfS_ap, ifK_t, ifK_f, aRet_ap, retK_ap, rtR_some, aRetN_ap, aKill_ap, List.foldl_cons, List.foldl_nil, sb_okN, bd_okN, mapR_some, aC_ap, aXT_ap, aVar_ap, varK_d, varK_x, varK_w, varK_p, varK_k, aOp_ap, opK_ap, opK2_ap, aFz_ap, aUn_ap, aB_ap, bK_ap, aAnd_ap, andK_t, andK_f, aOr_ap, orK_t, orK_f, aNot_ap, notK_ap, aTru_ap, truK_ap, aYes_ap, aAndV_ap, andVK_t, andVK_f, aOrV_ap, orVK_t, orVK_f, aNotV_ap, notVK_ap, aIf_ap, ifEK_t, ifEK_f, aNil_ap, aCons_ap, consK_ap, consK2_ap, aCB_ap, cbK_ap, aNoPart_ap, aPart_ap, partK_ap, aSl_ap, slK_ap, slK2_ap, slK3_ap, aBM_ap, bmK_ap, bmK2_ap, aBM0_ap, bmK0_ap, aPut_ap, putK_ap, putK1_ap, putK2_ap, aFor_ap, forK_n, aRng1_ap, aRng2_ap, aIt_ap, itK_l, itK_t, itK_s, itK_x, itK_c, itK_f, aCallG_ap, List.getElem?_cons_zero, List.getElem?_cons_succ, List.set_cons_zero, List.set_cons_succ, List.length_cons, List.length_nil, Nat.zero_add, Nat.reduceAdd, Option.map_some, Option.map_none, Option.bind_some, Option.bind_none, List.map_cons, List.map_nil, aName, aNameF, fz, rtv, wAt, toM, vw, frz_lst, frz_d, lvs_map, oIx2_var, ixV_w, ixV_p, ixV_k, ixL_some, lfAt_nat, lf_d, oIx2_l, oIx2_t, Y.atI_nat, putF_var, putV_w, putV_p, oEq_int, oNe_int, oLtA_int, oIntA_int, oIntA_bool, oLenV_l, oLenV_t, oI0_ap, oB0_ap, oAdd_int, rNeg, lfAt_0, stL_0, Y.atI_0, lfAt_1, stL_1, Y.atI_1, lfAt_2, stL_2, Y.atI_2, lfAt_3, stL_3, Y.atI_3, lfAt_4, stL_4, Y.atI_4, lfAt_5, stL_5, Y.atI_5, lfAt_6, stL_6, Y.atI_6, lfAt_7, stL_7, Y.atI_7, Nat.reduceLeDiff, Int.reduceLT, Int.reduceLE, List.cons_append, List.nil_append, decide_true, decide_false, if_true, if_false, sizeLine_eq, aLc_ap, hc1]
      rw [oSl_dl, cutD_hi]
      simp only [aSeq_ap, seqK_nx, seqK_rt, seqK_bk, seqK_ct, seqK_none, aNext_ap, aBrk_ap, aCont_ap, aAsg_ap, asgK_ap, nxR_some, aDrop_ap, dropK_ap, aIfS_ap, ifK_t, ifK_f, aRet_ap, retK_ap, rtR_some, aRetN_ap, aKill_ap, List.foldl_cons, List.foldl_nil, sb_okN, bd_okN, mapR_some, aC_ap, aXT_ap, aVar_ap, varK_d, varK_x, varK_w, varK_p, varK_k, aOp_ap, opK_ap, opK2_ap, aFz_ap, aUn_ap, aB_ap, bK_ap, aAnd_ap, andK_t, andK_f, aOr_ap, orK_t, orK_f, aNot_ap, notK_ap, aTru_ap, truK_ap, aYes_ap, aAndV_ap, andVK_t, andVK_f, aOrV_ap, orVK_t, orVK_f, aNotV_ap, notVK_ap, aIf_ap, ifEK_t, ifEK_f, aNil_ap, aCons_ap, consK_ap, consK2_ap, aCB_ap, cbK_ap, aNoPart_ap, aPart_ap, partK_ap, aSl_ap, slK_ap, slK2_ap, slK3_ap, aBM_ap, bmK_ap, bmK2_ap, aBM0_ap, bmK0_ap, aPut_ap, putK_ap, putK1_ap, putK2_ap, aFor_ap, forK_n, aRng1_ap, aRng2_ap, aIt_ap, itK_l, itK_t, itK_s, itK_x, itK_c, itK_f, aCallG_ap, List.getElem?_cons_zero, List.getElem?_cons_succ, List.set_cons_zero, List.set_cons_succ, List.length_cons, List.length_nil, Nat.zero_add, Nat.reduceAdd, Option.map_some, Option.map_none, Option.bind_some, Option.bind_none, List.map_cons, List.map_nil, aName, aNameF, fz, rtv, wAt, toM, vw, frz_lst, frz_d, lvs_map, oIx2_var, ixV_w, ixV_p, ixV_k, ixL_some, lfAt_nat, lf_d, oIx2_l, oIx2_t, Y.atI_nat, putF_var, putV_w, putV_p, oEq_int, oNe_int, oLtA_int, oIntA_int, oIntA_bool, oLenV_l, oLenV_t, oI0_ap, oB0_ap, oAdd_int, rNeg, lfAt_0, stL_0, Y.atI_0, lfAt_1, stL_1, Y.atI_1, lfAt_2, stL_2, Y.atI_2, lfAt_3, stL_3, Y.atI_3, lfAt_4, stL_4, Y.atI_4, lfAt_5, stL_5, Y.atI_5, lfAt_6, stL_6, Y.atI_6, lfAt_7, stL_7, Y.atI_7, Nat.reduceLeDiff, Int.reduceLT, Int.reduceLE, List.cons_append, List.nil_append, decide_true, decide_false, if_true, if_false, sizeLine_eq, aLc_ap, hc1, runL_at f0, runL_at f1, e3, oAdd_tt2 l1]
      simp only [aSeq_ap, seqK_nx, seqK_rt, seqK_bk, seqK_ct, seqK_none, aNext_ap, aBrk_ap, aCont_ap, aAsg_ap, asgK_ap, nxR_some, aDrop_ap, dropK_ap, aIfS_ap, ifK_t, ifK_f, aRet_ap, retK_ap, rtR_some, aRetN_ap, aKill_ap, List.foldl_cons, List.foldl_nil, sb_okN, bd_okN, mapR_some, aC_ap, aXT_ap, aVar_ap, varK_d, varK_x, varK_w, varK_p, varK_k, aOp_ap, opK_ap, opK2_ap, aFz_ap, aUn_ap, aB_ap, bK_ap, aAnd_ap, andK_t, andK_f, aOr_ap, orK_t, orK_f, aNot_ap, notK_ap, aTru_ap, truK_ap, aYes_ap, aAndV_ap, andVK_t, andVK_f, aOrV_ap, orVK_t, orVK_f, aNotV_ap, notVK_ap, aIf_ap, ifEK_t, ifEK_f, aNil_ap, aCons_ap, consK_ap, consK2_ap, aCB_ap, cbK_ap, aNoPart_ap, aPart_ap, partK_ap, aSl_ap, slK_ap, slK2_ap, slK3_ap, aBM_ap, bmK_ap, bmK2_ap, aBM0_ap, bmK0_ap, aPut_ap, putK_ap, putK1_ap, putK2_ap, aFor_ap, forK_n, aRng1_ap, aRng2_ap, aIt_ap, itK_l, itK_t, itK_s, itK_x, itK_c, itK_f, aCallG_ap, List.getElem?_cons_zero, List.getElem?_cons_succ, List.set_cons_zero, List.set_cons_succ, List.length_cons, List.length_nil, Nat.zero_add, Nat.reduceAdd, Option.map_some, Option.map_none, Option.bind_some, Option.bind_none, List.map_cons, List.map_nil, aName, aNameF, fz, rtv, wAt, toM, vw, frz_lst, frz_d, lvs_map, oIx2_var, ixV_w, ixV_p, ixV_k, ixL_some, lfAt_nat, lf_d, oIx2_l, oIx2_t, Y.atI_nat, putF_var, putV_w, putV_p, oEq_int, oNe_int, oLtA_int, oIntA_int, oIntA_bool, oLenV_l, oLenV_t, oI0_ap, oB0_ap, oAdd_int, rNeg, lfAt_0, stL_0, Y.atI_0, lfAt_1, stL_1, Y.atI_1, lfAt_2, stL_2, Y.atI_2, lfAt_3, stL_3, Y.atI_3, lfAt_4, stL_4, Y.atI_4, lfAt_5, stL_5, Y.atI_5, lfAt_6, stL_6, Y.atI_6, lfAt_7, stL_7, Y.atI_7, Nat.reduceLeDiff, Int.reduceLT, Int.reduceLE, List.cons_append, List.nil_append, decide_true, decide_false, if_true, if_false, sizeLine_eq, aLc_ap, hc2]
      rw [oSl_dl, cutD_lo]
      simp only [aSeq_ap, seqK_nx, seqK_rt, seqK_bk, seqK_ct, seqK_none, aNext_ap, aBrk_ap, aCont_ap, aAsg_ap, asgK_ap, nxR_some, aDrop_ap, dropK_ap, aIfS_ap, ifK_t, ifK_f, aRet_ap, retK_ap, rtR_some, aRetN_ap, aKill_ap, List.foldl_cons, List.foldl_nil, sb_okN, bd_okN, mapR_some, aC_ap, aXT_ap, aVar_ap, varK_d, varK_x, varK_w, varK_p, varK_k, aOp_ap, opK_ap, opK2_ap, aFz_ap, aUn_ap, aB_ap, bK_ap, aAnd_ap, andK_t, andK_f, aOr_ap, orK_t, orK_f, aNot_ap, notK_ap, aTru_ap, truK_ap, aYes_ap, aAndV_ap, andVK_t, andVK_f, aOrV_ap, orVK_t, orVK_f, aNotV_ap, notVK_ap, aIf_ap, ifEK_t, ifEK_f, aNil_ap, aCons_ap, consK_ap, consK2_ap, aCB_ap, cbK_ap, aNoPart_ap, aPart_ap, partK_ap, aSl_ap, slK_ap, slK2_ap, slK3_ap, aBM_ap, bmK_ap, bmK2_ap, aBM0_ap, bmK0_ap, aPut_ap, putK_ap, putK1_ap, putK2_ap, aFor_ap, forK_n, aRng1_ap, aRng2_ap, aIt_ap, itK_l, itK_t, itK_s, itK_x, itK_c, itK_f, aCallG_ap, List.getElem?_cons_zero, List.getElem?_cons_succ, List.set_cons_zero, List.set_cons_succ, List.length_cons, List.length_nil, Nat.zero_add, Nat.reduceAdd, Option.map_some, Option.map_none, Option.bind_some, Option.bind_none, List.map_cons, List.map_nil, aName, aNameF, fz, rtv, wAt, toM, vw, frz_lst, frz_d, lvs_map, oIx2_var, ixV_w, ixV_p, ixV_k, ixL_some, lfAt_nat, lf_d, oIx2_l, oIx2_t, Y.atI_nat, putF_var, putV_w, putV_p, oEq_int, oNe_int, oLtA_int, oIntA_int, oIntA_bool, oLenV_l, oLenV_t, oI0_ap, oB0_ap, oAdd_int, rNeg, lfAt_0, stL_0, Y.atI_0, lfAt_1, stL_1, Y.atI_1, lfAt_2, stL_2, Y.atI_2, lfAt_3, stL_3, Y.atI_3, lfAt_4, stL_4, Y.atI_4, lfAt_5, stL_5, Y.atI_5, lfAt_6, stL_6, Y.atI_6, lfAt_7, stL_7, Y.atI_7, Nat.reduceLeDiff, Int.reduceLT, Int.reduceLE, List.cons_append, List.nil_append, decide_true, decide_false, if_true, if_false, sizeLine_eq, aLc_ap, oAdd_tt l2, swap_data hk]
theorem swap_mem {r : List Act} {k : Nat} (hk : k + 1 < r.length) : (∀ a ∈ swapAt r k, a ∈ r) ∧ (swapAt r k).length = r.length := by
  have h0 : k < r.length := by omega
  have e : swapAt r k = r.take k ++ [r[k + 1], r[k]] ++ r.drop (k + 2) := by
    unfold swapAt
    rw [List.drop_eq_getElem_cons h0, List.drop_eq_getElem_cons hk]
    rfl
  rw [e]
  refine ⟨fun a ha => ?_, by rw [List.length_append, List.length_append, List.length_take, List.length_drop]; show _ + 2 + _ = _; omega⟩
  rcases List.mem_append.mp ha with h | h
  · rcases List.mem_append.mp h with h | h
    · exact List.mem_of_mem_take h
    · rcases List.mem_cons.mp h with h | h
      · rw [h]; exact List.getElem_mem _
      · rw [List.mem_singleton.mp h]; exact List.getElem_mem _
  · exact List.mem_of_mem_drop h
theorem rd__law_other {m : MV} {ps lb : List Str} {r : List Act} (hm : IsSt m) (h1 : 2 ≤ ps.length) (h2 : ps.length ≤ 100) (h3 : 1 ≤ lb.length) (h4 : lb.length ≤ 100) (hr : r.length ≤ 900) (ho : ∀ a ∈ r, ActIn ps lb a) : ∃ r' m', IsSt m' ∧ r'.length ≤ 901 ∧ (∀ a ∈ r', ActIn ps lb a) ∧
    den__law_other [.p m, .d (runD r), .d (.list (ps.map PyData.str)), .d (.list (lb.map PyData.str))] = some (.ok (.t (.lst ((runL r').map MV.d))) [some (.p m'), none, none, none]) := by
  have hs : start0 6 [.p m, .d (runD r), .d (.list (ps.map PyData.str)), .d (.list (lb.map PyData.str))] = [some (.p m), some (.d (runD r)), some (.d (.list (ps.map PyData.str))), some (.d (.list (lb.map PyData.str))), none, none] := rfl
  unfold den__law_other Y.run
  rw [hs]
  by_cases hz : r.length < 2
  · obtain ⟨r', m', i1, l1, k1, e⟩ := rd__law_run hm h1 h2 h3 h4 (n := 1) (by omega)
    rw [other_short hz (by omega) e]
    refine ⟨r ++ r', m', i1, by rw [List.length_append]; omega, fun a ha => ?_, rfl⟩
    rcases List.mem_append.mp ha with h | h
    · exact ho a h
    · exact k1 a h
  · obtain ⟨q1, m1, a0, a1, i1, e1⟩ := rd__law_draw hm (lim := (r.length : Nat) - 1) (by omega) (by omega)
    obtain ⟨q2, m2, b0, b1, i2, e2⟩ := rd__law_draw i1 (lim := 4) (by omega) (by omega)
    obtain ⟨k, rfl⟩ := Int.eq_ofNat_of_zero_le a0
    have hk : k + 1 < r.length := by omega
    rw [other_long (by omega) (by omega) hk e1 e2]
    refine ⟨_, m2, i2, ?_, ?_, rfl⟩
    · split
      · unfold other0; rw [List.length_append, List.length_take, List.length_drop]; omega
      · split
        · unfold other1; rw [List.length_append, List.length_append, List.length_take, List.length_drop]; show _ + 1 + _ ≤ _; omega
        · rw [(swap_mem hk).2]; omega
    · intro a ha
      split at ha
      · unfold other0 at ha
        rcases List.mem_append.mp ha with h | h
        · exact ho a (List.mem_of_mem_take h)
        · exact ho a (List.mem_of_mem_drop h)
      · split at ha
        · unfold other1 at ha
          have f0 := List.getElem?_eq_getElem (show k < r.length by omega)
          rw [f0] at ha
          rcases List.mem_append.mp ha with h | h
          · rcases List.mem_append.mp h with h | h
            · exact ho a (List.mem_of_mem_take h)
            · rw [List.mem_singleton.mp h]
              obtain ⟨g1, g2, g3⟩ := ho _ (List.getElem_mem (show k < r.length by omega))
              exact ⟨g2, g1, g3⟩
          · exact ho a (List.mem_of_mem_drop h)
        · exact ho a ((swap_mem hk).1 a ha)

end Lw

namespace Lw
open PySem PySem.Spec PyProof.Rows L2 Y PySem.W TL
/-! ### the law: its parts -/
theorem call_f1 {den : Den} {a : PyData} {t : TV} {s : SL} (h : den [.d a] = some (.ok t [none])) : callK false den [.f] [.d a] s = some (.ok t s) := by
  simp only [callK, unsub, Option.map_none, callT, argF, argF1, fz, Option.bind_some, Option.map_some, argM, argM1, h, argB, argB1]
theorem call_t1 {den : Den} {m : MV} {a : PyData} {t : TV} {s : SL} (e : frz m = some a) (h : den [.d a] = some (.ok t [none])) : callK false den [.f] [.t m] s = some (.ok t s) := by
  simp only [callK, unsub, Option.map_none, callT, argF, argF1, fz, Option.bind_some, Option.map_some, argM, argM1, e, h, argB, argB1]
theorem call_f2 {den : Den} {a b : PyData} {t : TV} {s : SL} (h : den [.d a, .d b] = some (.ok t [none, none])) : callK false den [.f, .f] [.d a, .d b] s = some (.ok t s) := by
  simp only [callK, unsub, Option.map_none, callT, argF, argF1, fz, Option.bind_some, Option.map_some, argM, argM1, h, argB, argB1]
theorem call_t2 {den : Den} {m n : MV} {a b : PyData} {t : TV} {s : SL} (e1 : frz m = some a) (e2 : frz n = some b) (h : den [.d a, .d b] = some (.ok t [none, none])) : callK false den [.f, .f] [.t m, .t n] s = some (.ok t s) := by
  simp only [callK, unsub, Option.map_none, callT, argF, argF1, fz, Option.bind_some, Option.map_some, argM, argM1, e1, e2, h, argB, argB1]
theorem call_m1f {den : Den} {x : Option SV} {m m' : MV} {a : PyData} {t : TV} {l : SL} (h : den [.p m, .d a] = some (.ok t [some (.p m'), none])) : callK false den [.m 1, .f] [.var 1, .d a] (x :: some (.w m) :: l) = some (.ok t (x :: some (.w m') :: l)) := by
  simp only [callK, unsub, Option.map_none, callT, argF, argF1, fz, Option.bind_some, Option.map_some, argM, argM1, wAt, List.getElem?_cons_zero, List.getElem?_cons_succ, if_true, h, argB, argB1, Y.putAt, List.set_cons_zero, List.set_cons_succ]
theorem call_m1ft {den : Den} {x : Option SV} {m m' n : MV} {a b : PyData} {t : TV} {l : SL} (e : frz n = some b) (h : den [.p m, .d a, .d b] = some (.ok t [some (.p m'), none, none])) : callK false den [.m 1, .f, .f] [.var 1, .d a, .t n] (x :: some (.w m) :: l) = some (.ok t (x :: some (.w m') :: l)) := by
  simp only [callK, unsub, Option.map_none, callT, argF, argF1, fz, Option.bind_some, Option.map_some, argM, argM1, wAt, List.getElem?_cons_zero, List.getElem?_cons_succ, if_true, e, h, argB, argB1, Y.putAt, List.set_cons_zero, List.set_cons_succ]
theorem call_m1fff {den : Den} {x : Option SV} {m m' : MV} {a b c : PyData} {t : TV} {l : SL} (h : den [.p m, .d a, .d b, .d c] = some (.ok t [some (.p m'), none, none, none])) : callK false den [.m 1, .f, .f, .f] [.var 1, .d a, .d b, .d c] (x :: some (.w m) :: l) = some (.ok t (x :: some (.w m') :: l)) := by
  simp only [callK, unsub, Option.map_none, callT, argF, argF1, fz, Option.bind_some, Option.map_some, argM, argM1, wAt, List.getElem?_cons_zero, List.getElem?_cons_succ, if_true, h, argB, argB1, Y.putAt, List.set_cons_zero, List.set_cons_succ]
abbrev psD (ps : List Str) : PyData := .list (ps.map PyData.str)
/-! equality of runs and layers -/
theorem oEq_rr {s : SL} {neg : Bool} {x y : List Act} (hx : ∀ a ∈ x, ActOk a) (hy : ∀ a ∈ y, ActOk a) : oEq neg s (.t (.lst ((runL x).map MV.d))) (.t (.lst ((runL y).map MV.d))) = some (.d (.bool (if neg then !decide (x = y) else decide (x = y))), s) := by
  unfold oEq
  have e1 : ∀ z, asD s (.t (.lst ((runL z).map MV.d))) = some (runD z) := fun z => frz_lst _
  rw [e1, e1, Option.bind_some, Option.bind_some, if_pos ⟨shaped_run hx, shaped_run hy⟩, eqv_runD]
theorem oEq_rd {s : SL} {neg : Bool} {x y : List Act} (hx : ∀ a ∈ x, ActOk a) (hy : ∀ a ∈ y, ActOk a) : oEq neg s (.t (.lst ((runL x).map MV.d))) (.d (runD y)) = some (.d (.bool (if neg then !decide (x = y) else decide (x = y))), s) := by
  unfold oEq
  have e1 : ∀ z, asD s (.t (.lst ((runL z).map MV.d))) = some (runD z) := fun z => frz_lst _
  have e2 : ∀ z, asD s (.d (runD z)) = some (runD z) := fun z => rfl
  rw [e1, e2, Option.bind_some, Option.bind_some, if_pos ⟨shaped_run hx, shaped_run hy⟩, eqv_runD]
theorem oEq_dd {s : SL} {neg : Bool} {x y : List Act} (hx : ∀ a ∈ x, ActOk a) (hy : ∀ a ∈ y, ActOk a) : oEq neg s (.d (runD x)) (.d (runD y)) = some (.d (.bool (if neg then !decide (x = y) else decide (x = y))), s) := by
  unfold oEq
  have e2 : ∀ z, asD s (.d (runD z)) = some (runD z) := fun z => rfl
  rw [e2, e2, Option.bind_some, Option.bind_some, if_pos ⟨shaped_run hx, shaped_run hy⟩, eqv_runD]
theorem oEq_ld {s : SL} {neg : Bool} {x y : List Act} (hx : ∀ a ∈ x, ActOk a) (hy : ∀ a ∈ y, ActOk a) : oEq neg s (.t (.lst (layM (lawLayers x)))) (.d (laysD (lawLayers y))) = some (.d (.bool (if neg then !decide (lawLayers x = lawLayers y) else decide (lawLayers x = lawLayers y))), s) := by
  unfold oEq
  have e2 : ∀ z, asD s (.d (laysD z)) = some (laysD z) := fun z => rfl
  rw [asD_lay, e2, Option.bind_some, Option.bind_some, if_pos ⟨shaped_layers hx, shaped_layers hy⟩, eqv_laysD]
theorem oEq_ll {s : SL} {neg : Bool} {x y : List Act} (hx : ∀ a ∈ x, ActOk a) (hy : ∀ a ∈ y, ActOk a) : oEq neg s (.d (laysD (lawLayers x))) (.d (laysD (lawLayers y))) = some (.d (.bool (if neg then !decide (lawLayers x = lawLayers y) else decide (lawLayers x = lawLayers y))), s) := by
  unfold oEq
  have e2 : ∀ z, asD s (.d (laysD z)) = some (laysD z) := fun z => rfl
  rw [e2, e2, Option.bind_some, Option.bind_some, if_pos ⟨shaped_layers hx, shaped_layers hy⟩, eqv_laysD]
theorem oEq_bool {s : SL} {a b : Bool} : oEq true s (.d (.bool a)) (.d (.bool b)) = some (.d (.bool (!(a == b))), s) := by
  cases a <;> cases b <;> rfl
/-! the loop of pairs -/
theorem law_pair {x : SV} {m : MV} {ps lb : List Str} {k : PyData} (hm : IsSt m) (h1 : 3 ≤ ps.length) (h2 : ps.length ≤ 100) (h3 : 1 ≤ lb.length) (h4 : lb.length ≤ 100) : ∃ m', IsSt m' ∧
  f_law_0 [some x, some (.w m), some (.d (psD ps)), some (.d (psD lb)), none, none, none, none, none, none, none, none, some (.d k), none, none] = some (.nx [some x, some (.w m'), some (.d (psD ps)), some (.d (psD lb)), none, none, none, none, none, none, none, none, none, none, none]) := by
  obtain ⟨r, m', i1, l1, k1, e⟩ := rd__law_run hm (by omega) h2 h3 h4 (n := 9) (by omega)
  have e : den__law_run [.p m, .d (psD ps), .d (psD lb), .d (.int 9)] = some (.ok (.t (.lst ((runL r).map MV.d))) [some (.p m'), none, none, none]) := e
  refine ⟨m', i1, ?_⟩
  have p0 := strs_at (ps := ps) (n := 0) (by omega)
  have p1 := strs_at (ps := ps) (n := 1) (by omega)
  have p2 := strs_at (ps := ps) (n := 2) (by omega)
  have q0 := strs_at (ps := lb) (n := 0) (by omega)
  have la : (runL r).length + [actD (ps[0], ps[1], lb[0]), actD (ps[2], ps[0], lb[0])].length ≤ 16777216 := by rw [List.length_map]; show _ + 2 ≤ _; omega
  have er : runL r ++ [actD (ps[0], ps[1], lb[0]), actD (ps[2], ps[0], lb[0])] = runL (r ++ [(ps[0], ps[1], lb[0]), (ps[2], ps[0], lb[0])]) := by unfold runL; rw [List.map_append]; rfl
  have len : 2 ≤ (r ++ [(ps[0], ps[1], lb[0]), (ps[2], ps[0], lb[0])]).length := by rw [List.length_append]; show 2 ≤ _ + 2; omega
  generalize hw : r ++ [(ps[0], ps[1], lb[0]), (ps[2], ps[0], lb[0])] = w at er len
  have w0 := List.getElem?_eq_getElem (show 0 < w.length by omega)
  have w1 := List.getElem?_eq_getElem (show 1 < w.length by omega)
  have eo : ∀ (s : SL) (y z : PyData), oLst s [.d y, .d z] = some (.t (.lst [.d y, .d z]), s) := fun s y z => if_pos (show 2 ≤ sizeLine by rw [sizeLine_eq]; omega)
  have a0 := (Y.atI_lit 0).trans p0
  have a1 := (Y.atI_lit 1).trans p1
  have a2 := (Y.atI_lit 2).trans p2
  have b0 := (Y.atI_lit 0).trans q0
  have c0 := (Y.atI_lit 0).trans (runL_at w0)
  have c1 := (Y.atI_lit 1).trans (runL_at w1)
  unfold f_law_0
  simp only [aSeq_ap, seqK_nx, seqK_rt, seqK_bk, seqK_ct, seqK_none, aNext_ap, aBrk_ap, aCont_ap, aAsg_ap, asgK_ap, nxR_some, aDrop_ap, dropK_ap, aIfS_ap, ifK_t, ifK_f, aRet_ap, retK_ap, rtR_some, aRetN_ap, aKill_ap, List.foldl_cons, List.foldl_nil, sb_okN, bd_okN, mapR_some, aC_ap, aXT_ap, aVar_ap, varK_d, varK_x, varK_w, varK_p, varK_k, aOp_ap, opK_ap, opK2_ap, aFz_ap, aUn_ap, aB_ap, bK_ap, aAnd_ap, andK_t, andK_f, aOr_ap, orK_t, orK_f, aNot_ap, notK_ap, aTru_ap, truK_ap, aYes_ap, aAndV_ap, andVK_t, andVK_f, aOrV_ap, orVK_t, orVK_f, aNotV_ap, notVK_ap, aIf_ap, ifEK_t, ifEK_f, aNil_ap, aCons_ap, consK_ap, consK2_ap, aCB_ap, cbK_ap, aNoPart_ap, aPart_ap, partK_ap, aSl_ap, slK_ap, slK2_ap, slK3_ap, aBM_ap, bmK_ap, bmK2_ap, aBM0_ap, bmK0_ap, aPut_ap, putK_ap, putK1_ap, putK2_ap, aFor_ap, forK_n, aRng1_ap, aRng2_ap, aIt_ap, itK_l, itK_t, itK_s, itK_x, itK_c, itK_f, aCallG_ap, List.getElem?_cons_zero, List.getElem?_cons_succ, List.set_cons_zero, List.set_cons_succ, List.length_cons, List.length_nil, Nat.zero_add, Nat.reduceAdd, Option.map_some, Option.map_none, Option.bind_some, Option.bind_none, List.map_cons, List.map_nil, aName, aNameF, fz, rtv, wAt, toM, vw, frz_lst, frz_d, lvs_map, oIx2_var, ixV_w, ixV_p, ixV_k, ixL_some, lfAt_nat, lf_d, oIx2_l, oIx2_t, Y.atI_nat, putF_var, putV_w, putV_p, oEq_int, oNe_int, oLtA_int, oIntA_int, oIntA_bool, oLenV_l, oLenV_t, oI0_ap, oB0_ap, oAdd_int, rNeg, lfAt_0, stL_0, Y.atI_0, lfAt_1, stL_1, Y.atI_1, lfAt_2, stL_2, Y.atI_2, lfAt_3, stL_3, Y.atI_3, lfAt_4, stL_4, Y.atI_4, lfAt_5, stL_5, Y.atI_5, lfAt_6, stL_6, Y.atI_6, lfAt_7, stL_7, Y.atI_7, Nat.reduceLeDiff, Int.reduceLT, Int.reduceLE, List.cons_append, List.nil_append, decide_true, decide_false, if_true, if_false, sizeLine_eq, aLc_ap, call_m1fff e, a0, a1, a2, b0, oTup_3, eo]
  rw [oAdd_tt2 la, er]
  simp only [aSeq_ap, seqK_nx, seqK_rt, seqK_bk, seqK_ct, seqK_none, aNext_ap, aBrk_ap, aCont_ap, aAsg_ap, asgK_ap, nxR_some, aDrop_ap, dropK_ap, aIfS_ap, ifK_t, ifK_f, aRet_ap, retK_ap, rtR_some, aRetN_ap, aKill_ap, List.foldl_cons, List.foldl_nil, sb_okN, bd_okN, mapR_some, aC_ap, aXT_ap, aVar_ap, varK_d, varK_x, varK_w, varK_p, varK_k, aOp_ap, opK_ap, opK2_ap, aFz_ap, aUn_ap, aB_ap, bK_ap, aAnd_ap, andK_t, andK_f, aOr_ap, orK_t, orK_f, aNot_ap, notK_ap, aTru_ap, truK_ap, aYes_ap, aAndV_ap, andVK_t, andVK_f, aOrV_ap, orVK_t, orVK_f, aNotV_ap, notVK_ap, aIf_ap, ifEK_t, ifEK_f, aNil_ap, aCons_ap, consK_ap, consK2_ap, aCB_ap, cbK_ap, aNoPart_ap, aPart_ap, partK_ap, aSl_ap, slK_ap, slK2_ap, slK3_ap, aBM_ap, bmK_ap, bmK2_ap, aBM0_ap, bmK0_ap, aPut_ap, putK_ap, putK1_ap, putK2_ap, aFor_ap, forK_n, aRng1_ap, aRng2_ap, aIt_ap, itK_l, itK_t, itK_s, itK_x, itK_c, itK_f, aCallG_ap, List.getElem?_cons_zero, List.getElem?_cons_succ, List.set_cons_zero, List.set_cons_succ, List.length_cons, List.length_nil, Nat.zero_add, Nat.reduceAdd, Option.map_some, Option.map_none, Option.bind_some, Option.bind_none, List.map_cons, List.map_nil, aName, aNameF, fz, rtv, wAt, toM, vw, frz_lst, frz_d, lvs_map, oIx2_var, ixV_w, ixV_p, ixV_k, ixL_some, lfAt_nat, lf_d, oIx2_l, oIx2_t, Y.atI_nat, putF_var, putV_w, putV_p, oEq_int, oNe_int, oLtA_int, oIntA_int, oIntA_bool, oLenV_l, oLenV_t, oI0_ap, oB0_ap, oAdd_int, rNeg, lfAt_0, stL_0, Y.atI_0, lfAt_1, stL_1, Y.atI_1, lfAt_2, stL_2, Y.atI_2, lfAt_3, stL_3, Y.atI_3, lfAt_4, stL_4, Y.atI_4, lfAt_5, stL_5, Y.atI_5, lfAt_6, stL_6, Y.atI_6, lfAt_7, stL_7, Y.atI_7, Nat.reduceLeDiff, Int.reduceLT, Int.reduceLE, List.cons_append, List.nil_append, decide_true, decide_false, if_true, if_false, sizeLine_eq, aLc_ap, c0, c1, call_f2 (rd_are_apart w[0] w[1]), call_f2 (rd__law_apart w[0] w[1]), call_f2 (rd__law_truth _ _), beq_self_eq_true, Bool.not_true]
theorem law_rows {p1 p2 p3 p4 p5 p6 p7 p8 p9 : Option SV} {L : List (List Act)} (hL : L.flatten.length ≤ 10000) :
  forGo (aNameF 10) f_law_2 (L.map runD) [p1, p2, p3, p4, p5, p6, p7, p8, p9, some (.d (runD [])), none, none, none, none, none] = some (.nx [p1, p2, p3, p4, p5, p6, p7, p8, p9, some (.d (runD L.flatten)), none, none, none, none, none]) := by
  obtain ⟨s', e, hs⟩ := forGo_inv (Ga := aNameF 10) (S := f_law_2) (ds := L.map runD) (fun i s => s = [p1, p2, p3, p4, p5, p6, p7, p8, p9, some (.d (runD (L.take i).flatten)), none, none, none, none, none]) (fun i d s hd hp => by
    subst hp
    rw [List.getElem?_map] at hd
    obtain ⟨l, hl, rfl⟩ := Option.map_eq_some_iff.mp hd
    have ht : L.take (i + 1) = L.take i ++ [l] := by rw [List.take_add_one, hl]; rfl
    have hf : (L.take (i + 1)).flatten = (L.take i).flatten ++ l := by rw [ht, List.flatten_append]; simp
    have hlen : ((L.take i).flatten ++ l).length ≤ 10000 := by
      rw [← hf]
      refine Nat.le_trans ?_ hL
      have : L.flatten = (L.take (i + 1)).flatten ++ (L.drop (i + 1)).flatten := by rw [← List.flatten_append, List.take_append_drop]
      rw [this, List.length_append]
      exact Nat.le_add_right _ _
    have hadd : ∀ s : SL, oAdd s (.d (runD (L.take i).flatten)) (.d (runD l)) = some (.t (.lst ((runL (L.take (i + 1)).flatten).map MV.d)), s) := fun s => by
      have e1 : ∀ (s : SL) (z : List Act), lsD s (.d (runD z)) = some (runL z, s) := fun s z => by
        unfold lsD
        rw [show (seqM s (.d (runD z))).bind lvs = some (runL z) from lvs_map (runL z)]
      show (lsD s (.d (runD (L.take i).flatten))).bind (fun p => (lsD p.2 (.d (runD l))).bind fun q => if p.1.length + q.1.length ≤ sizeLine then some (TV.t (.lst ((p.1 ++ q.1).map MV.d)), q.2) else none) = _
      rw [e1, Option.bind_some]
      dsimp only
      rw [e1, Option.bind_some]
      dsimp only
      rw [if_pos (by rw [sizeLine_eq, List.length_map, List.length_map]; rw [List.length_append] at hlen; omega), hf]
      rw [show runL (L.take i).flatten ++ runL l = runL ((L.take i).flatten ++ l) from List.map_append.symm]
    refine ⟨_, _, rfl, .inl ?_, rfl⟩
    unfold f_law_2
    simp only [aSeq_ap, seqK_nx, seqK_rt, seqK_bk, seqK_ct, seqK_none, aNext_ap, aBrk_ap, aCont_ap, aAsg_ap, asgK_ap, nxR_some, aDrop_ap, dropK_ap, aIfS_ap, ifK_t, ifK_f, aRet_ap, retK_ap, rtR_some, aRetN_ap, aKill_ap, List.foldl_cons, List.foldl_nil, sb_okN, bd_okN, mapR_some, aC_ap, aXT_ap, aVar_ap, varK_d, varK_x, varK_w, varK_p, varK_k, aOp_ap, opK_ap, opK2_ap, aFz_ap, aUn_ap, aB_ap, bK_ap, aAnd_ap, andK_t, andK_f, aOr_ap, orK_t, orK_f, aNot_ap, notK_ap, aTru_ap, truK_ap, aYes_ap, aAndV_ap, andVK_t, andVK_f, aOrV_ap, orVK_t, orVK_f, aNotV_ap, notVK_ap, aIf_ap, ifEK_t, ifEK_f, aNil_ap, aCons_ap, consK_ap, consK2_ap, aCB_ap, cbK_ap, aNoPart_ap, aPart_ap, partK_ap, aSl_ap, slK_ap, slK2_ap, slK3_ap, aBM_ap, bmK_ap, bmK2_ap, aBM0_ap, bmK0_ap, aPut_ap, putK_ap, putK1_ap, putK2_ap, aFor_ap, forK_n, aRng1_ap, aRng2_ap, aIt_ap, itK_l, itK_t, itK_s, itK_x, itK_c, itK_f, aCallG_ap, List.getElem?_cons_zero, List.getElem?_cons_succ, List.set_cons_zero, List.set_cons_succ, List.length_cons, List.length_nil, Nat.zero_add, Nat.reduceAdd, Option.map_some, Option.map_none, Option.bind_some, Option.bind_none, List.map_cons, List.map_nil, aName, aNameF, fz, rtv, wAt, toM, vw, frz_lst, frz_d, lvs_map, oIx2_var, ixV_w, ixV_p, ixV_k, ixL_some, lfAt_nat, lf_d, oIx2_l, oIx2_t, Y.atI_nat, putF_var, putV_w, putV_p, oEq_int, oNe_int, oLtA_int, oIntA_int, oIntA_bool, oLenV_l, oLenV_t, oI0_ap, oB0_ap, oAdd_int, rNeg, lfAt_0, stL_0, Y.atI_0, lfAt_1, stL_1, Y.atI_1, lfAt_2, stL_2, Y.atI_2, lfAt_3, stL_3, Y.atI_3, lfAt_4, stL_4, Y.atI_4, lfAt_5, stL_5, Y.atI_5, lfAt_6, stL_6, Y.atI_6, lfAt_7, stL_7, Y.atI_7, Nat.reduceLeDiff, Int.reduceLT, Int.reduceLE, List.cons_append, List.nil_append, decide_true, decide_false, if_true, if_false, sizeLine_eq, aLc_ap, hadd]) (s := [p1, p2, p3, p4, p5, p6, p7, p8, p9, some (.d (runD [])), none, none, none, none, none]) rfl
  rw [List.length_map, List.take_length] at hs
  rw [← hs]
  exact e
/-! the loop of others -/
theorem law_oth {x : SV} {m : MV} {ps lb : List Str} {k : PyData} {most : Int} {r : List Act} {F : List (List Act)} {p6 p8 p9 : SV} (hok : ∀ a, ActIn ps lb a → ActOk a) (hm : IsSt m) (h1 : 3 ≤ ps.length) (h2 : ps.length ≤ 100) (h3 : 1 ≤ lb.length) (h4 : lb.length ≤ 100) (hr : r.length ≤ 900) (ho : ∀ a ∈ r, ActIn ps lb a) (hF : most < 9 → F.length < 200 → ∀ l, l ∈ F ↔ Tq apartB r l) (hFl : F.length ≤ 1300) (hFo : ∀ l ∈ F, ∀ a ∈ l, ActOk a) : ∃ m', IsSt m' ∧
  f_law_1 [some x, some (.w m), some (.d (psD ps)), some (.d (psD lb)), some (.d (.int most)), some (.d (runD r)), some p6, some (.d (laysD (lawLayers r))), some p8, some p9, none, some (.d (.list (F.map runD))), some (.d k), none, none] = some (.nx [some x, some (.w m'), some (.d (psD ps)), some (.d (psD lb)), some (.d (.int most)), some (.d (runD r)), some p6, some (.d (laysD (lawLayers r))), some p8, some p9, none, some (.d (.list (F.map runD))), none, none, none]) := by
  obtain ⟨r', m', i1, l1, k1, e⟩ := rd__law_other hm (by omega) h2 h3 h4 hr ho
  have e : den__law_other [.p m, .d (runD r), .d (psD ps), .d (psD lb)] = some (.ok (.t (.lst ((runL r').map MV.d))) [some (.p m'), none, none, none]) := e
  have ok1 : ∀ a ∈ r, ActOk a := fun a ha => hok a (ho a ha)
  have ok2 : ∀ a ∈ r', ActOk a := fun a ha => hok a (k1 a ha)
  have ec := rd_come ok1 ok2 (by omega) (by omega)
  have el := rd__law_layers (r := r') (by omega)
  refine ⟨m', i1, ?_⟩
  unfold f_law_1
  have hsy : decide (lawLayers r = lawLayers r') = decide (lawLayers r' = lawLayers r) := by rw [decide_eq_decide]; exact eq_comm
  have et := fun a b => call_f2 (s := [some x, some (.w m'), some (.d (psD ps)), some (.d (psD lb)), some (.d (.int most)), some (.d (runD r)), some p6, some (.d (laysD (lawLayers r))), some p8, some p9, none, some (.d (.list (F.map runD))), some (.d k), some (.d (runD r')), none]) (rd__law_truth a b)
  have hin : ∀ s : SL, oIn2 false s (.d (runD r')) (.d (.list (F.map runD))) = some (.d (.bool (decide (r' ∈ F))), s) := fun s => by
    rw [oIn2_d (shaped_run ok2) (shaped_found hFo), inD_runs, if_neg Bool.false_ne_true]
  have hl2 : decide (((F.length : Nat) : Int) < 200) = decide (F.length < 200) := by rw [decide_eq_decide]; omega
  have heq : most < 9 → F.length < 200 → decide (r' ∈ F) = decide (lawLayers r' = lawLayers r) := fun g1 g2 => by
    rw [decide_eq_decide, hF g1 g2, ← layers_iff]
    exact eq_comm
  simp only [aSeq_ap, seqK_nx, seqK_rt, seqK_bk, seqK_ct, seqK_none, aNext_ap, aBrk_ap, aCont_ap, aAsg_ap, asgK_ap, nxR_some, aDrop_ap, dropK_ap, aIfS_ap, ifK_t, ifK_f, aRet_ap, retK_ap, rtR_some, aRetN_ap, aKill_ap, List.foldl_cons, List.foldl_nil, sb_okN, bd_okN, mapR_some, aC_ap, aXT_ap, aVar_ap, varK_d, varK_x, varK_w, varK_p, varK_k, aOp_ap, opK_ap, opK2_ap, aFz_ap, aUn_ap, aB_ap, bK_ap, aAnd_ap, andK_t, andK_f, aOr_ap, orK_t, orK_f, aNot_ap, notK_ap, aTru_ap, truK_ap, aYes_ap, aAndV_ap, andVK_t, andVK_f, aOrV_ap, orVK_t, orVK_f, aNotV_ap, notVK_ap, aIf_ap, ifEK_t, ifEK_f, aNil_ap, aCons_ap, consK_ap, consK2_ap, aCB_ap, cbK_ap, aNoPart_ap, aPart_ap, partK_ap, aSl_ap, slK_ap, slK2_ap, slK3_ap, aBM_ap, bmK_ap, bmK2_ap, aBM0_ap, bmK0_ap, aPut_ap, putK_ap, putK1_ap, putK2_ap, aFor_ap, forK_n, aRng1_ap, aRng2_ap, aIt_ap, itK_l, itK_t, itK_s, itK_x, itK_c, itK_f, aCallG_ap, List.getElem?_cons_zero, List.getElem?_cons_succ, List.set_cons_zero, List.set_cons_succ, List.length_cons, List.length_nil, Nat.zero_add, Nat.reduceAdd, Option.map_some, Option.map_none, Option.bind_some, Option.bind_none, List.map_cons, List.map_nil, aName, aNameF, fz, rtv, wAt, toM, vw, frz_lst, frz_d, lvs_map, oIx2_var, ixV_w, ixV_p, ixV_k, ixL_some, lfAt_nat, lf_d, oIx2_l, oIx2_t, Y.atI_nat, putF_var, putV_w, putV_p, oEq_int, oNe_int, oLtA_int, oIntA_int, oIntA_bool, oLenV_l, oLenV_t, oI0_ap, oB0_ap, oAdd_int, rNeg, lfAt_0, stL_0, Y.atI_0, lfAt_1, stL_1, Y.atI_1, lfAt_2, stL_2, Y.atI_2, lfAt_3, stL_3, Y.atI_3, lfAt_4, stL_4, Y.atI_4, lfAt_5, stL_5, Y.atI_5, lfAt_6, stL_6, Y.atI_6, lfAt_7, stL_7, Y.atI_7, Nat.reduceLeDiff, Int.reduceLT, Int.reduceLE, List.cons_append, List.nil_append, decide_true, decide_false, if_true, if_false, sizeLine_eq, aLc_ap, call_m1fff e, call_f2 ec, call_f1 el, oEq_ld ok2 ok1, Bool.false_eq_true, hsy, et, beq_self_eq_true, Bool.not_true, List.length_map, hl2]
  by_cases g1 : most < 9
  · rw [decide_eq_true g1]
    simp only [aSeq_ap, seqK_nx, seqK_rt, seqK_bk, seqK_ct, seqK_none, aNext_ap, aBrk_ap, aCont_ap, aAsg_ap, asgK_ap, nxR_some, aDrop_ap, dropK_ap, aIfS_ap, ifK_t, ifK_f, aRet_ap, retK_ap, rtR_some, aRetN_ap, aKill_ap, List.foldl_cons, List.foldl_nil, sb_okN, bd_okN, mapR_some, aC_ap, aXT_ap, aVar_ap, varK_d, varK_x, varK_w, varK_p, varK_k, aOp_ap, opK_ap, opK2_ap, aFz_ap, aUn_ap, aB_ap, bK_ap, aAnd_ap, andK_t, andK_f, aOr_ap, orK_t, orK_f, aNot_ap, notK_ap, aTru_ap, truK_ap, aYes_ap, aAndV_ap, andVK_t, andVK_f, aOrV_ap, orVK_t, orVK_f, aNotV_ap, notVK_ap, aIf_ap, ifEK_t, ifEK_f, aNil_ap, aCons_ap, consK_ap, consK2_ap, aCB_ap, cbK_ap, aNoPart_ap, aPart_ap, partK_ap, aSl_ap, slK_ap, slK2_ap, slK3_ap, aBM_ap, bmK_ap, bmK2_ap, aBM0_ap, bmK0_ap, aPut_ap, putK_ap, putK1_ap, putK2_ap, aFor_ap, forK_n, aRng1_ap, aRng2_ap, aIt_ap, itK_l, itK_t, itK_s, itK_x, itK_c, itK_f, aCallG_ap, List.getElem?_cons_zero, List.getElem?_cons_succ, List.set_cons_zero, List.set_cons_succ, List.length_cons, List.length_nil, Nat.zero_add, Nat.reduceAdd, Option.map_some, Option.map_none, Option.bind_some, Option.bind_none, List.map_cons, List.map_nil, aName, aNameF, fz, rtv, wAt, toM, vw, frz_lst, frz_d, lvs_map, oIx2_var, ixV_w, ixV_p, ixV_k, ixL_some, lfAt_nat, lf_d, oIx2_l, oIx2_t, Y.atI_nat, putF_var, putV_w, putV_p, oEq_int, oNe_int, oLtA_int, oIntA_int, oIntA_bool, oLenV_l, oLenV_t, oI0_ap, oB0_ap, oAdd_int, rNeg, lfAt_0, stL_0, Y.atI_0, lfAt_1, stL_1, Y.atI_1, lfAt_2, stL_2, Y.atI_2, lfAt_3, stL_3, Y.atI_3, lfAt_4, stL_4, Y.atI_4, lfAt_5, stL_5, Y.atI_5, lfAt_6, stL_6, Y.atI_6, lfAt_7, stL_7, Y.atI_7, Nat.reduceLeDiff, Int.reduceLT, Int.reduceLE, List.cons_append, List.nil_append, decide_true, decide_false, if_true, if_false, sizeLine_eq, aLc_ap, List.length_map, hl2]
    by_cases g2 : F.length < 200
    · rw [decide_eq_true g2]
      simp only [aSeq_ap, seqK_nx, seqK_rt, seqK_bk, seqK_ct, seqK_none, aNext_ap, aBrk_ap, aCont_ap, aAsg_ap, asgK_ap, nxR_some, aDrop_ap, dropK_ap, aIfS_ap, ifK_t, ifK_f, aRet_ap, retK_ap, rtR_some, aRetN_ap, aKill_ap, List.foldl_cons, List.foldl_nil, sb_okN, bd_okN, mapR_some, aC_ap, aXT_ap, aVar_ap, varK_d, varK_x, varK_w, varK_p, varK_k, aOp_ap, opK_ap, opK2_ap, aFz_ap, aUn_ap, aB_ap, bK_ap, aAnd_ap, andK_t, andK_f, aOr_ap, orK_t, orK_f, aNot_ap, notK_ap, aTru_ap, truK_ap, aYes_ap, aAndV_ap, andVK_t, andVK_f, aOrV_ap, orVK_t, orVK_f, aNotV_ap, notVK_ap, aIf_ap, ifEK_t, ifEK_f, aNil_ap, aCons_ap, consK_ap, consK2_ap, aCB_ap, cbK_ap, aNoPart_ap, aPart_ap, partK_ap, aSl_ap, slK_ap, slK2_ap, slK3_ap, aBM_ap, bmK_ap, bmK2_ap, aBM0_ap, bmK0_ap, aPut_ap, putK_ap, putK1_ap, putK2_ap, aFor_ap, forK_n, aRng1_ap, aRng2_ap, aIt_ap, itK_l, itK_t, itK_s, itK_x, itK_c, itK_f, aCallG_ap, List.getElem?_cons_zero, List.getElem?_cons_succ, List.set_cons_zero, List.set_cons_succ, List.length_cons, List.length_nil, Nat.zero_add, Nat.reduceAdd, Option.map_some, Option.map_none, Option.bind_some, Option.bind_none, List.map_cons, List.map_nil, aName, aNameF, fz, rtv, wAt, toM, vw, frz_lst, frz_d, lvs_map, oIx2_var, ixV_w, ixV_p, ixV_k, ixL_some, lfAt_nat, lf_d, oIx2_l, oIx2_t, Y.atI_nat, putF_var, putV_w, putV_p, oEq_int, oNe_int, oLtA_int, oIntA_int, oIntA_bool, oLenV_l, oLenV_t, oI0_ap, oB0_ap, oAdd_int, rNeg, lfAt_0, stL_0, Y.atI_0, lfAt_1, stL_1, Y.atI_1, lfAt_2, stL_2, Y.atI_2, lfAt_3, stL_3, Y.atI_3, lfAt_4, stL_4, Y.atI_4, lfAt_5, stL_5, Y.atI_5, lfAt_6, stL_6, Y.atI_6, lfAt_7, stL_7, Y.atI_7, Nat.reduceLeDiff, Int.reduceLT, Int.reduceLE, List.cons_append, List.nil_append, decide_true, decide_false, if_true, if_false, sizeLine_eq, aLc_ap, hin, call_f1 el, oEq_ld ok2 ok1, Bool.false_eq_true, oEq_bool, heq g1 g2, beq_self_eq_true, Bool.not_true]
    · rw [decide_eq_false g2]
      simp only [aSeq_ap, seqK_nx, seqK_rt, seqK_bk, seqK_ct, seqK_none, aNext_ap, aBrk_ap, aCont_ap, aAsg_ap, asgK_ap, nxR_some, aDrop_ap, dropK_ap, aIfS_ap, ifK_t, ifK_f, aRet_ap, retK_ap, rtR_some, aRetN_ap, aKill_ap, List.foldl_cons, List.foldl_nil, sb_okN, bd_okN, mapR_some, aC_ap, aXT_ap, aVar_ap, varK_d, varK_x, varK_w, varK_p, varK_k, aOp_ap, opK_ap, opK2_ap, aFz_ap, aUn_ap, aB_ap, bK_ap, aAnd_ap, andK_t, andK_f, aOr_ap, orK_t, orK_f, aNot_ap, notK_ap, aTru_ap, truK_ap, aYes_ap, aAndV_ap, andVK_t, andVK_f, aOrV_ap, orVK_t, orVK_f, aNotV_ap, notVK_ap, aIf_ap, ifEK_t, ifEK_f, aNil_ap, aCons_ap, consK_ap, consK2_ap, aCB_ap, cbK_ap, aNoPart_ap, aPart_ap, partK_ap, aSl_ap, slK_ap, slK2_ap, slK3_ap, aBM_ap, bmK_ap, bmK2_ap, aBM0_ap, bmK0_ap, aPut_ap, putK_ap, putK1_ap, putK2_ap, aFor_ap, forK_n, aRng1_ap, aRng2_ap, aIt_ap, itK_l, itK_t, itK_s, itK_x, itK_c, itK_f, aCallG_ap, List.getElem?_cons_zero, List.getElem?_cons_succ, List.set_cons_zero, List.set_cons_succ, List.length_cons, List.length_nil, Nat.zero_add, Nat.reduceAdd, Option.map_some, Option.map_none, Option.bind_some, Option.bind_none, List.map_cons, List.map_nil, aName, aNameF, fz, rtv, wAt, toM, vw, frz_lst, frz_d, lvs_map, oIx2_var, ixV_w, ixV_p, ixV_k, ixL_some, lfAt_nat, lf_d, oIx2_l, oIx2_t, Y.atI_nat, putF_var, putV_w, putV_p, oEq_int, oNe_int, oLtA_int, oIntA_int, oIntA_bool, oLenV_l, oLenV_t, oI0_ap, oB0_ap, oAdd_int, rNeg, lfAt_0, stL_0, Y.atI_0, lfAt_1, stL_1, Y.atI_1, lfAt_2, stL_2, Y.atI_2, lfAt_3, stL_3, Y.atI_3, lfAt_4, stL_4, Y.atI_4, lfAt_5, stL_5, Y.atI_5, lfAt_6, stL_6, Y.atI_6, lfAt_7, stL_7, Y.atI_7, Nat.reduceLeDiff, Int.reduceLT, Int.reduceLE, List.cons_append, List.nil_append, decide_true, decide_false, if_true, if_false, sizeLine_eq, aLc_ap, List.length_map]
  · rw [decide_eq_false g1]
    simp only [aSeq_ap, seqK_nx, seqK_rt, seqK_bk, seqK_ct, seqK_none, aNext_ap, aBrk_ap, aCont_ap, aAsg_ap, asgK_ap, nxR_some, aDrop_ap, dropK_ap, aIfS_ap, ifK_t, ifK_f, aRet_ap, retK_ap, rtR_some, aRetN_ap, aKill_ap, List.foldl_cons, List.foldl_nil, sb_okN, bd_okN, mapR_some, aC_ap, aXT_ap, aVar_ap, varK_d, varK_x, varK_w, varK_p, varK_k, aOp_ap, opK_ap, opK2_ap, aFz_ap, aUn_ap, aB_ap, bK_ap, aAnd_ap, andK_t, andK_f, aOr_ap, orK_t, orK_f, aNot_ap, notK_ap, aTru_ap, truK_ap, aYes_ap, aAndV_ap, andVK_t, andVK_f, aOrV_ap, orVK_t, orVK_f, aNotV_ap, notVK_ap, aIf_ap, ifEK_t, ifEK_f, aNil_ap, aCons_ap, consK_ap, consK2_ap, aCB_ap, cbK_ap, aNoPart_ap, aPart_ap, partK_ap, aSl_ap, slK_ap, slK2_ap, slK3_ap, aBM_ap, bmK_ap, bmK2_ap, aBM0_ap, bmK0_ap, aPut_ap, putK_ap, putK1_ap, putK2_ap, aFor_ap, forK_n, aRng1_ap, aRng2_ap, aIt_ap, itK_l, itK_t, itK_s, itK_x, itK_c, itK_f, aCallG_ap, List.getElem?_cons_zero, List.getElem?_cons_succ, List.set_cons_zero, List.set_cons_succ, List.length_cons, List.length_nil, Nat.zero_add, Nat.reduceAdd, Option.map_some, Option.map_none, Option.bind_some, Option.bind_none, List.map_cons, List.map_nil, aName, aNameF, fz, rtv, wAt, toM, vw, frz_lst, frz_d, lvs_map, oIx2_var, ixV_w, ixV_p, ixV_k, ixL_some, lfAt_nat, lf_d, oIx2_l, oIx2_t, Y.atI_nat, putF_var, putV_w, putV_p, oEq_int, oNe_int, oLtA_int, oIntA_int, oIntA_bool, oLenV_l, oLenV_t, oI0_ap, oB0_ap, oAdd_int, rNeg, lfAt_0, stL_0, Y.atI_0, lfAt_1, stL_1, Y.atI_1, lfAt_2, stL_2, Y.atI_2, lfAt_3, stL_3, Y.atI_3, lfAt_4, stL_4, Y.atI_4, lfAt_5, stL_5, Y.atI_5, lfAt_6, stL_6, Y.atI_6, lfAt_7, stL_7, Y.atI_7, Nat.reduceLeDiff, Int.reduceLT, Int.reduceLE, List.cons_append, List.nil_append, decide_true, decide_false, if_true, if_false, sizeLine_eq, aLc_ap, List.length_map]

end Lw

namespace Lw
open PySem PySem.Spec PyProof.Rows L2 Y PySem.W TL
/-! ### the law: a step -/
theorem aIsi_list {s : SL} {i : Nat} {ds : List PyData} (h : s[i]? = some (some (.d (.list ds)))) : aIsi "list" (aVar i) s = some (.ok (.d (.bool true)) s) := by
  have e : aVar i s = some (.ok (.d (.list ds)) s) := by
    unfold aVar
    rw [h]
  unfold aIsi
  rw [e]
  rfl
theorem oMin_runs {s : SL} {F : List (List Act)} {r : List Act} (h0 : r ∈ F) (hF : ∀ l, l ∈ F ↔ Tq apartB r l) : oMin s [.d (.list (F.map runD))] = some (.d (runD (lo r)), s) := by
  cases F with
  | nil => cases h0
  | cons x ys =>
    have hlen : ∀ y ∈ ys, y.length = x.length := fun y hy => by
      rw [← ((hF y).mp (List.mem_cons_of_mem _ hy)).perm.length_eq, ← ((hF x).mp (List.mem_cons_self ..)).perm.length_eq]
    obtain ⟨m, e, hm, hle⟩ := minD_runs x ys hlen
    have tm := (hF m).mp hm
    have hlo : lo r ∈ x :: ys := (hF _).mpr (lo_tq r)
    have : m = lo r := runLt_tot (by rw [← tm.perm.length_eq, ← (lo_tq r).perm.length_eq]) (lo_least r m tm) (hle _ hlo)
    subst this
    have e1 : oMin2 s [.d (.list ((x :: ys).map runD))] = none := rfl
    have e2 : (seqL s (.d (.list ((x :: ys).map runD)))).bind lvs = some ((x :: ys).map runD) := lvs_map _
    have ha : AlikeAll ((x :: ys).map runD) := ⟨fun d hd e he => by
      obtain ⟨a, _, rfl⟩ := List.mem_map.mp hd
      obtain ⟨b, _, rfl⟩ := List.mem_map.mp he
      show alike (.list (runL a)) (.list (runL b)) = true
      rw [alike]
      exact alike_runL a b, fun d hd => by
      obtain ⟨a, _, rfl⟩ := List.mem_map.mp hd
      exact fun z => by cases z⟩
    have hd : PyData.depthAll ((x :: ys).map runD) ≤ 60 := Nat.le_trans (depth_all (n := 3) fun d hd => by
      obtain ⟨a, _, rfl⟩ := List.mem_map.mp hd
      exact dep_run a) (by omega)
    unfold oMin
    rw [e1]
    dsimp only
    unfold oMinD
    dsimp only
    rw [e2]
    open Classical in
    show (ite (AlikeAll ((x :: ys).map runD) ∧ PyData.depthAll ((x :: ys).map runD) ≤ 60) (some (TV.d (minD (runD x) (ys.map runD)), s)) none) = _
    rw [if_pos ⟨ha, hd⟩, e]
theorem law_others {x : SV} {m : MV} {ps lb : List Str} {most : Int} {r : List Act} {F : List (List Act)} {p6 p8 p9 : SV} (hok : ∀ a, ActIn ps lb a → ActOk a) (hm : IsSt m) (h1 : 3 ≤ ps.length) (h2 : ps.length ≤ 100) (h3 : 1 ≤ lb.length) (h4 : lb.length ≤ 100) (hr : r.length ≤ 900) (ho : ∀ a ∈ r, ActIn ps lb a) (hF : most < 9 → F.length < 200 → ∀ l, l ∈ F ↔ Tq apartB r l) (hFl : F.length ≤ 1300) (hFo : ∀ l ∈ F, ∀ a ∈ l, ActOk a) : ∃ m', IsSt m' ∧
  forGo (aNameF 12) f_law_1 (rng 0 4) [some x, some (.w m), some (.d (psD ps)), some (.d (psD lb)), some (.d (.int most)), some (.d (runD r)), some p6, some (.d (laysD (lawLayers r))), some p8, some p9, none, some (.d (.list (F.map runD))), none, none, none] = some (.nx [some x, some (.w m'), some (.d (psD ps)), some (.d (psD lb)), some (.d (.int most)), some (.d (runD r)), some p6, some (.d (laysD (lawLayers r))), some p8, some p9, none, some (.d (.list (F.map runD))), none, none, none]) := by
  obtain ⟨s', e, m', i1, rfl⟩ := forGo_inv (Ga := aNameF 12) (S := f_law_1) (ds := rng 0 4) (fun _ s => ∃ m', IsSt m' ∧ s = [some x, some (.w m'), some (.d (psD ps)), some (.d (psD lb)), some (.d (.int most)), some (.d (runD r)), some p6, some (.d (laysD (lawLayers r))), some p8, some p9, none, some (.d (.list (F.map runD))), none, none, none]) (fun i d s _ hp => by
    obtain ⟨m1, i1, rfl⟩ := hp
    obtain ⟨m2, i2, e⟩ := law_oth (x := x) (k := d) (p6 := p6) (p8 := p8) (p9 := p9) hok i1 h1 h2 h3 h4 hr ho hF hFl hFo
    exact ⟨_, _, rfl, .inl e, m2, i2, rfl⟩) (s := [some x, some (.w m), some (.d (psD ps)), some (.d (psD lb)), some (.d (.int most)), some (.d (runD r)), some p6, some (.d (laysD (lawLayers r))), some p8, some p9, none, some (.d (.list (F.map runD))), none, none, none]) ⟨m, hm, rfl⟩
  exact ⟨m', i1, e⟩
theorem law_rows0 {p1 p2 p3 p4 p5 p6 p7 p8 p9 : Option SV} {L : List (List Act)} (hL : L.flatten.length ≤ 10000) :
  forGo (aNameF 10) f_law_2 (L.map runD) [p1, p2, p3, p4, p5, p6, p7, p8, p9, some (.d (.list [])), none, none, none, none, none] = some (.nx [p1, p2, p3, p4, p5, p6, p7, p8, p9, some (.d (runD L.flatten)), none, none, none, none, none]) := law_rows hL
theorem law_step {x : SV} {m : MV} {ps lb : List Str} {most : Nat} (hok : ∀ a, ActIn ps lb a → ActOk a) (hm : IsSt m) (h1 : 3 ≤ ps.length) (h2 : ps.length ≤ 100) (h3 : 1 ≤ lb.length) (h4 : lb.length ≤ 100) (hmo : most ≤ 900) : ∃ m', IsSt m' ∧
  f_law_3 [some x, some (.w m), some (.d (psD ps)), some (.d (psD lb)), some (.d (.int (most : Nat))), none, none, none, none, none, none, none, none, none, none] = some (.nx [some x, some (.w m'), some (.d (psD ps)), some (.d (psD lb)), none, none, none, none, none, none, none, none, none, none, none]) := by
  obtain ⟨r, m1, i1, l1, k1, e⟩ := rd__law_run hm (by omega) h2 h3 h4 (n := most) (by omega)
  have e : den__law_run [.p m, .d (psD ps), .d (psD lb), .d (.int (most : Nat))] = some (.ok (.t (.lst ((runL r).map MV.d))) [some (.p m1), none, none, none]) := e
  have ok1 : ∀ a ∈ r, ActOk a := fun a ha => hok a (k1 a ha)
  have el := rd__law_layers (r := r) (by omega)
  have ek := rd_layers_of (r := r) (by omega)
  have eo := rd_least_order (r := r) (by omega) ok1
  have ep := rd__law_least (r := r) (by omega)
  have okl : ∀ a ∈ lo r, ActOk a := fun a ha => ok1 a ((lo_tq r).perm.mem_iff.mpr ha)
  have rowt := row_tq r
  have rowl := rowt.perm.length_eq
  have okr : ∀ a ∈ (lawLayers r).flatten, ActOk a := fun a ha => ok1 a (rowt.perm.mem_iff.mpr ha)
  have ec := rd_come okr ok1 (by omega) (by omega)
  rw [layers_row, decide_eq_true rfl] at ec
  have eo2 := rd_least_order (r := (lawLayers r).flatten) (by omega) okr
  rw [← lo_inv rowt] at eo2
  have hrows := fun p1 p2 p3 p4 p5 p6 p7 p8 p9 => law_rows0 (p1 := p1) (p2 := p2) (p3 := p3) (p4 := p4) (p5 := p5) (p6 := p6) (p7 := p7) (p8 := p8) (p9 := p9) (L := lawLayers r) (by omega)
  unfold f_law_3
  simp only [aSeq_ap, seqK_nx, seqK_rt, seqK_bk, seqK_ct, seqK_none, aNext_ap, aBrk_ap, aCont_ap, aAsg_ap, asgK_ap, nxR_some, aDrop_ap, dropK_ap, aIfS_ap, ifK_t, ifK_f, aRet_ap, retK_ap, rtR_some, aRetN_ap, aKill_ap, List.foldl_cons, List.foldl_nil, sb_okN, bd_okN, mapR_some, aC_ap, aXT_ap, aVar_ap, varK_d, varK_x, varK_w, varK_p, varK_k, aOp_ap, opK_ap, opK2_ap, aFz_ap, aUn_ap, aB_ap, bK_ap, aAnd_ap, andK_t, andK_f, aOr_ap, orK_t, orK_f, aNot_ap, notK_ap, aTru_ap, truK_ap, aYes_ap, aAndV_ap, andVK_t, andVK_f, aOrV_ap, orVK_t, orVK_f, aNotV_ap, notVK_ap, aIf_ap, ifEK_t, ifEK_f, aNil_ap, aCons_ap, consK_ap, consK2_ap, aCB_ap, cbK_ap, aNoPart_ap, aPart_ap, partK_ap, aSl_ap, slK_ap, slK2_ap, slK3_ap, aBM_ap, bmK_ap, bmK2_ap, aBM0_ap, bmK0_ap, aPut_ap, putK_ap, putK1_ap, putK2_ap, aFor_ap, forK_n, aRng1_ap, aRng2_ap, aIt_ap, itK_l, itK_t, itK_s, itK_x, itK_c, itK_f, aCallG_ap, List.getElem?_cons_zero, List.getElem?_cons_succ, List.set_cons_zero, List.set_cons_succ, List.length_cons, List.length_nil, Nat.zero_add, Nat.reduceAdd, Option.map_some, Option.map_none, Option.bind_some, Option.bind_none, List.map_cons, List.map_nil, aName, aNameF, fz, rtv, wAt, toM, vw, frz_lst, frz_d, lvs_map, oIx2_var, ixV_w, ixV_p, ixV_k, ixL_some, lfAt_nat, lf_d, oIx2_l, oIx2_t, Y.atI_nat, putF_var, putV_w, putV_p, oEq_int, oNe_int, oLtA_int, oIntA_int, oIntA_bool, oLenV_l, oLenV_t, oI0_ap, oB0_ap, oAdd_int, rNeg, lfAt_0, stL_0, Y.atI_0, lfAt_1, stL_1, Y.atI_1, lfAt_2, stL_2, Y.atI_2, lfAt_3, stL_3, Y.atI_3, lfAt_4, stL_4, Y.atI_4, lfAt_5, stL_5, Y.atI_5, lfAt_6, stL_6, Y.atI_6, lfAt_7, stL_7, Y.atI_7, Nat.reduceLeDiff, Int.reduceLT, Int.reduceLE, List.cons_append, List.nil_append, decide_true, decide_false, if_true, if_false, sizeLine_eq, aLc_ap, call_m1fff e, oList_run, call_f1 el, call_f1 ek, frz_lay]
  rw [aIsi_list (ds := (lawLayers r).map runD) rfl]
  have z0 : frz (.lst []) = some (.list []) := frz_lst []
  have z1 : frz (.lst [.d (runD r)]) = some (.list [runD r]) := frz_lst [runD r]
  have ib : ∀ (s : SL) (a b : Bool), oIsB true s (.d (.bool a)) (.d (.bool b)) = some (.d (.bool (!(a == b))), s) := fun s a b => rfl
  simp only [aSeq_ap, seqK_nx, seqK_rt, seqK_bk, seqK_ct, seqK_none, aNext_ap, aBrk_ap, aCont_ap, aAsg_ap, asgK_ap, nxR_some, aDrop_ap, dropK_ap, aIfS_ap, ifK_t, ifK_f, aRet_ap, retK_ap, rtR_some, aRetN_ap, aKill_ap, List.foldl_cons, List.foldl_nil, sb_okN, bd_okN, mapR_some, aC_ap, aXT_ap, aVar_ap, varK_d, varK_x, varK_w, varK_p, varK_k, aOp_ap, opK_ap, opK2_ap, aFz_ap, aUn_ap, aB_ap, bK_ap, aAnd_ap, andK_t, andK_f, aOr_ap, orK_t, orK_f, aNot_ap, notK_ap, aTru_ap, truK_ap, aYes_ap, aAndV_ap, andVK_t, andVK_f, aOrV_ap, orVK_t, orVK_f, aNotV_ap, notVK_ap, aIf_ap, ifEK_t, ifEK_f, aNil_ap, aCons_ap, consK_ap, consK2_ap, aCB_ap, cbK_ap, aNoPart_ap, aPart_ap, partK_ap, aSl_ap, slK_ap, slK2_ap, slK3_ap, aBM_ap, bmK_ap, bmK2_ap, aBM0_ap, bmK0_ap, aPut_ap, putK_ap, putK1_ap, putK2_ap, aFor_ap, forK_n, aRng1_ap, aRng2_ap, aIt_ap, itK_l, itK_t, itK_s, itK_x, itK_c, itK_f, aCallG_ap, List.getElem?_cons_zero, List.getElem?_cons_succ, List.set_cons_zero, List.set_cons_succ, List.length_cons, List.length_nil, Nat.zero_add, Nat.reduceAdd, Option.map_some, Option.map_none, Option.bind_some, Option.bind_none, List.map_cons, List.map_nil, aName, aNameF, fz, rtv, wAt, toM, vw, frz_lst, frz_d, lvs_map, oIx2_var, ixV_w, ixV_p, ixV_k, ixL_some, lfAt_nat, lf_d, oIx2_l, oIx2_t, Y.atI_nat, putF_var, putV_w, putV_p, oEq_int, oNe_int, oLtA_int, oIntA_int, oIntA_bool, oLenV_l, oLenV_t, oI0_ap, oB0_ap, oAdd_int, rNeg, lfAt_0, stL_0, Y.atI_0, lfAt_1, stL_1, Y.atI_1, lfAt_2, stL_2, Y.atI_2, lfAt_3, stL_3, Y.atI_3, lfAt_4, stL_4, Y.atI_4, lfAt_5, stL_5, Y.atI_5, lfAt_6, stL_6, Y.atI_6, lfAt_7, stL_7, Y.atI_7, Nat.reduceLeDiff, Int.reduceLT, Int.reduceLE, List.cons_append, List.nil_append, decide_true, decide_false, if_true, if_false, sizeLine_eq, aLc_ap, oEq_ll ok1 ok1, Bool.not_true, decide_true, call_f1 eo, call_f1 ep, oEq_rr okl okl, oEq_dd ok1 ok1, oLst_nil, z0, hrows, call_f2 ec, ib, beq_self_eq_true, call_f1 eo2, oLst_1, z1]
  by_cases g : most < 9
  · have gd : decide (((most : Nat) : Int) < 9) = true := decide_eq_true (by omega)
    obtain ⟨F, f1, f2, f3, f4, ef⟩ := rd__law_class (r := r) (by omega) ok1
    obtain ⟨m2, i2, e2⟩ := law_others (x := x) (most := (most : Nat)) (r := r) (F := F) (p6 := .d (runD r)) (p8 := .d (laysD (lawLayers r))) (p9 := .d (runD (lawLayers r).flatten)) hok i1 h1 h2 h3 h4 (by omega) k1 (fun _ g2 l => ⟨f2 l, f4 g2 l⟩) f3 (fun l hl a ha => ok1 a ((f2 l hl).perm.mem_iff.mpr ha))
    refine ⟨m2, i2, ?_⟩
    have d1 : decide ((1 : Int) < ((F.length : Nat) : Int)) = decide (1 < F.length) := by rw [decide_eq_decide]; omega
    have d2 : decide (((F.length : Nat) : Int) < 200) = decide (F.length < 200) := by rw [decide_eq_decide]; omega
    have h4r : ∀ s, rngK1 [.d (.int 4)] s = some (.ok (rng 0 4, none) s) := fun s => rngK1_ap (by omega)
    simp only [aSeq_ap, seqK_nx, seqK_rt, seqK_bk, seqK_ct, seqK_none, aNext_ap, aBrk_ap, aCont_ap, aAsg_ap, asgK_ap, nxR_some, aDrop_ap, dropK_ap, aIfS_ap, ifK_t, ifK_f, aRet_ap, retK_ap, rtR_some, aRetN_ap, aKill_ap, List.foldl_cons, List.foldl_nil, sb_okN, bd_okN, mapR_some, aC_ap, aXT_ap, aVar_ap, varK_d, varK_x, varK_w, varK_p, varK_k, aOp_ap, opK_ap, opK2_ap, aFz_ap, aUn_ap, aB_ap, bK_ap, aAnd_ap, andK_t, andK_f, aOr_ap, orK_t, orK_f, aNot_ap, notK_ap, aTru_ap, truK_ap, aYes_ap, aAndV_ap, andVK_t, andVK_f, aOrV_ap, orVK_t, orVK_f, aNotV_ap, notVK_ap, aIf_ap, ifEK_t, ifEK_f, aNil_ap, aCons_ap, consK_ap, consK2_ap, aCB_ap, cbK_ap, aNoPart_ap, aPart_ap, partK_ap, aSl_ap, slK_ap, slK2_ap, slK3_ap, aBM_ap, bmK_ap, bmK2_ap, aBM0_ap, bmK0_ap, aPut_ap, putK_ap, putK1_ap, putK2_ap, aFor_ap, forK_n, aRng1_ap, aRng2_ap, aIt_ap, itK_l, itK_t, itK_s, itK_x, itK_c, itK_f, aCallG_ap, List.getElem?_cons_zero, List.getElem?_cons_succ, List.set_cons_zero, List.set_cons_succ, List.length_cons, List.length_nil, Nat.zero_add, Nat.reduceAdd, Option.map_some, Option.map_none, Option.bind_some, Option.bind_none, List.map_cons, List.map_nil, aName, aNameF, fz, rtv, wAt, toM, vw, frz_lst, frz_d, lvs_map, oIx2_var, ixV_w, ixV_p, ixV_k, ixL_some, lfAt_nat, lf_d, oIx2_l, oIx2_t, Y.atI_nat, putF_var, putV_w, putV_p, oEq_int, oNe_int, oLtA_int, oIntA_int, oIntA_bool, oLenV_l, oLenV_t, oI0_ap, oB0_ap, oAdd_int, rNeg, lfAt_0, stL_0, Y.atI_0, lfAt_1, stL_1, Y.atI_1, lfAt_2, stL_2, Y.atI_2, lfAt_3, stL_3, Y.atI_3, lfAt_4, stL_4, Y.atI_4, lfAt_5, stL_5, Y.atI_5, lfAt_6, stL_6, Y.atI_6, lfAt_7, stL_7, Y.atI_7, Nat.reduceLeDiff, Int.reduceLT, Int.reduceLE, List.cons_append, List.nil_append, decide_true, decide_false, if_true, if_false, sizeLine_eq, aLc_ap, gd, call_f1 ef, List.length_map, d1]
    cases hd1 : decide (1 < F.length) with
    | false =>
      simp only [aSeq_ap, seqK_nx, seqK_rt, seqK_bk, seqK_ct, seqK_none, aNext_ap, aBrk_ap, aCont_ap, aAsg_ap, asgK_ap, nxR_some, aDrop_ap, dropK_ap, aIfS_ap, ifK_t, ifK_f, aRet_ap, retK_ap, rtR_some, aRetN_ap, aKill_ap, List.foldl_cons, List.foldl_nil, sb_okN, bd_okN, mapR_some, aC_ap, aXT_ap, aVar_ap, varK_d, varK_x, varK_w, varK_p, varK_k, aOp_ap, opK_ap, opK2_ap, aFz_ap, aUn_ap, aB_ap, bK_ap, aAnd_ap, andK_t, andK_f, aOr_ap, orK_t, orK_f, aNot_ap, notK_ap, aTru_ap, truK_ap, aYes_ap, aAndV_ap, andVK_t, andVK_f, aOrV_ap, orVK_t, orVK_f, aNotV_ap, notVK_ap, aIf_ap, ifEK_t, ifEK_f, aNil_ap, aCons_ap, consK_ap, consK2_ap, aCB_ap, cbK_ap, aNoPart_ap, aPart_ap, partK_ap, aSl_ap, slK_ap, slK2_ap, slK3_ap, aBM_ap, bmK_ap, bmK2_ap, aBM0_ap, bmK0_ap, aPut_ap, putK_ap, putK1_ap, putK2_ap, aFor_ap, forK_n, aRng1_ap, aRng2_ap, aIt_ap, itK_l, itK_t, itK_s, itK_x, itK_c, itK_f, aCallG_ap, List.getElem?_cons_zero, List.getElem?_cons_succ, List.set_cons_zero, List.set_cons_succ, List.length_cons, List.length_nil, Nat.zero_add, Nat.reduceAdd, Option.map_some, Option.map_none, Option.bind_some, Option.bind_none, List.map_cons, List.map_nil, aName, aNameF, fz, rtv, wAt, toM, vw, frz_lst, frz_d, lvs_map, oIx2_var, ixV_w, ixV_p, ixV_k, ixL_some, lfAt_nat, lf_d, oIx2_l, oIx2_t, Y.atI_nat, putF_var, putV_w, putV_p, oEq_int, oNe_int, oLtA_int, oIntA_int, oIntA_bool, oLenV_l, oLenV_t, oI0_ap, oB0_ap, oAdd_int, rNeg, lfAt_0, stL_0, Y.atI_0, lfAt_1, stL_1, Y.atI_1, lfAt_2, stL_2, Y.atI_2, lfAt_3, stL_3, Y.atI_3, lfAt_4, stL_4, Y.atI_4, lfAt_5, stL_5, Y.atI_5, lfAt_6, stL_6, Y.atI_6, lfAt_7, stL_7, Y.atI_7, Nat.reduceLeDiff, Int.reduceLT, Int.reduceLE, List.cons_append, List.nil_append, decide_true, decide_false, if_true, if_false, sizeLine_eq, aLc_ap, h4r, e2]
    | true =>
      simp only [aSeq_ap, seqK_nx, seqK_rt, seqK_bk, seqK_ct, seqK_none, aNext_ap, aBrk_ap, aCont_ap, aAsg_ap, asgK_ap, nxR_some, aDrop_ap, dropK_ap, aIfS_ap, ifK_t, ifK_f, aRet_ap, retK_ap, rtR_some, aRetN_ap, aKill_ap, List.foldl_cons, List.foldl_nil, sb_okN, bd_okN, mapR_some, aC_ap, aXT_ap, aVar_ap, varK_d, varK_x, varK_w, varK_p, varK_k, aOp_ap, opK_ap, opK2_ap, aFz_ap, aUn_ap, aB_ap, bK_ap, aAnd_ap, andK_t, andK_f, aOr_ap, orK_t, orK_f, aNot_ap, notK_ap, aTru_ap, truK_ap, aYes_ap, aAndV_ap, andVK_t, andVK_f, aOrV_ap, orVK_t, orVK_f, aNotV_ap, notVK_ap, aIf_ap, ifEK_t, ifEK_f, aNil_ap, aCons_ap, consK_ap, consK2_ap, aCB_ap, cbK_ap, aNoPart_ap, aPart_ap, partK_ap, aSl_ap, slK_ap, slK2_ap, slK3_ap, aBM_ap, bmK_ap, bmK2_ap, aBM0_ap, bmK0_ap, aPut_ap, putK_ap, putK1_ap, putK2_ap, aFor_ap, forK_n, aRng1_ap, aRng2_ap, aIt_ap, itK_l, itK_t, itK_s, itK_x, itK_c, itK_f, aCallG_ap, List.getElem?_cons_zero, List.getElem?_cons_succ, List.set_cons_zero, List.set_cons_succ, List.length_cons, List.length_nil, Nat.zero_add, Nat.reduceAdd, Option.map_some, Option.map_none, Option.bind_some, Option.bind_none, List.map_cons, List.map_nil, aName, aNameF, fz, rtv, wAt, toM, vw, frz_lst, frz_d, lvs_map, oIx2_var, ixV_w, ixV_p, ixV_k, ixL_some, lfAt_nat, lf_d, oIx2_l, oIx2_t, Y.atI_nat, putF_var, putV_w, putV_p, oEq_int, oNe_int, oLtA_int, oIntA_int, oIntA_bool, oLenV_l, oLenV_t, oI0_ap, oB0_ap, oAdd_int, rNeg, lfAt_0, stL_0, Y.atI_0, lfAt_1, stL_1, Y.atI_1, lfAt_2, stL_2, Y.atI_2, lfAt_3, stL_3, Y.atI_3, lfAt_4, stL_4, Y.atI_4, lfAt_5, stL_5, Y.atI_5, lfAt_6, stL_6, Y.atI_6, lfAt_7, stL_7, Y.atI_7, Nat.reduceLeDiff, Int.reduceLT, Int.reduceLE, List.cons_append, List.nil_append, decide_true, decide_false, if_true, if_false, sizeLine_eq, aLc_ap, List.length_map, d2]
      by_cases g2 : F.length < 200
      · rw [decide_eq_true g2]
        have hm := fun s => oMin_runs (s := s) f1 (fun l => ⟨f2 l, f4 g2 l⟩)
        simp only [aSeq_ap, seqK_nx, seqK_rt, seqK_bk, seqK_ct, seqK_none, aNext_ap, aBrk_ap, aCont_ap, aAsg_ap, asgK_ap, nxR_some, aDrop_ap, dropK_ap, aIfS_ap, ifK_t, ifK_f, aRet_ap, retK_ap, rtR_some, aRetN_ap, aKill_ap, List.foldl_cons, List.foldl_nil, sb_okN, bd_okN, mapR_some, aC_ap, aXT_ap, aVar_ap, varK_d, varK_x, varK_w, varK_p, varK_k, aOp_ap, opK_ap, opK2_ap, aFz_ap, aUn_ap, aB_ap, bK_ap, aAnd_ap, andK_t, andK_f, aOr_ap, orK_t, orK_f, aNot_ap, notK_ap, aTru_ap, truK_ap, aYes_ap, aAndV_ap, andVK_t, andVK_f, aOrV_ap, orVK_t, orVK_f, aNotV_ap, notVK_ap, aIf_ap, ifEK_t, ifEK_f, aNil_ap, aCons_ap, consK_ap, consK2_ap, aCB_ap, cbK_ap, aNoPart_ap, aPart_ap, partK_ap, aSl_ap, slK_ap, slK2_ap, slK3_ap, aBM_ap, bmK_ap, bmK2_ap, aBM0_ap, bmK0_ap, aPut_ap, putK_ap, putK1_ap, putK2_ap, aFor_ap, forK_n, aRng1_ap, aRng2_ap, aIt_ap, itK_l, itK_t, itK_s, itK_x, itK_c, itK_f, aCallG_ap, List.getElem?_cons_zero, List.getElem?_cons_succ, List.set_cons_zero, List.set_cons_succ, List.length_cons, List.length_nil, Nat.zero_add, Nat.reduceAdd, Option.map_some, Option.map_none, Option.bind_some, Option.bind_none, List.map_cons, List.map_nil, aName, aNameF, fz, rtv, wAt, toM, vw, frz_lst, frz_d, lvs_map, oIx2_var, ixV_w, ixV_p, ixV_k, ixL_some, lfAt_nat, lf_d, oIx2_l, oIx2_t, Y.atI_nat, putF_var, putV_w, putV_p, oEq_int, oNe_int, oLtA_int, oIntA_int, oIntA_bool, oLenV_l, oLenV_t, oI0_ap, oB0_ap, oAdd_int, rNeg, lfAt_0, stL_0, Y.atI_0, lfAt_1, stL_1, Y.atI_1, lfAt_2, stL_2, Y.atI_2, lfAt_3, stL_3, Y.atI_3, lfAt_4, stL_4, Y.atI_4, lfAt_5, stL_5, Y.atI_5, lfAt_6, stL_6, Y.atI_6, lfAt_7, stL_7, Y.atI_7, Nat.reduceLeDiff, Int.reduceLT, Int.reduceLE, List.cons_append, List.nil_append, decide_true, decide_false, if_true, if_false, sizeLine_eq, aLc_ap, call_f1 eo, hm, oEq_rd okl okl, decide_true, Bool.not_true, h4r, e2]
      · rw [decide_eq_false g2]
        simp only [aSeq_ap, seqK_nx, seqK_rt, seqK_bk, seqK_ct, seqK_none, aNext_ap, aBrk_ap, aCont_ap, aAsg_ap, asgK_ap, nxR_some, aDrop_ap, dropK_ap, aIfS_ap, ifK_t, ifK_f, aRet_ap, retK_ap, rtR_some, aRetN_ap, aKill_ap, List.foldl_cons, List.foldl_nil, sb_okN, bd_okN, mapR_some, aC_ap, aXT_ap, aVar_ap, varK_d, varK_x, varK_w, varK_p, varK_k, aOp_ap, opK_ap, opK2_ap, aFz_ap, aUn_ap, aB_ap, bK_ap, aAnd_ap, andK_t, andK_f, aOr_ap, orK_t, orK_f, aNot_ap, notK_ap, aTru_ap, truK_ap, aYes_ap, aAndV_ap, andVK_t, andVK_f, aOrV_ap, orVK_t, orVK_f, aNotV_ap, notVK_ap, aIf_ap, ifEK_t, ifEK_f, aNil_ap, aCons_ap, consK_ap, consK2_ap, aCB_ap, cbK_ap, aNoPart_ap, aPart_ap, partK_ap, aSl_ap, slK_ap, slK2_ap, slK3_ap, aBM_ap, bmK_ap, bmK2_ap, aBM0_ap, bmK0_ap, aPut_ap, putK_ap, putK1_ap, putK2_ap, aFor_ap, forK_n, aRng1_ap, aRng2_ap, aIt_ap, itK_l, itK_t, itK_s, itK_x, itK_c, itK_f, aCallG_ap, List.getElem?_cons_zero, List.getElem?_cons_succ, List.set_cons_zero, List.set_cons_succ, List.length_cons, List.length_nil, Nat.zero_add, Nat.reduceAdd, Option.map_some, Option.map_none, Option.bind_some, Option.bind_none, List.map_cons, List.map_nil, aName, aNameF, fz, rtv, wAt, toM, vw, frz_lst, frz_d, lvs_map, oIx2_var, ixV_w, ixV_p, ixV_k, ixL_some, lfAt_nat, lf_d, oIx2_l, oIx2_t, Y.atI_nat, putF_var, putV_w, putV_p, oEq_int, oNe_int, oLtA_int, oIntA_int, oIntA_bool, oLenV_l, oLenV_t, oI0_ap, oB0_ap, oAdd_int, rNeg, lfAt_0, stL_0, Y.atI_0, lfAt_1, stL_1, Y.atI_1, lfAt_2, stL_2, Y.atI_2, lfAt_3, stL_3, Y.atI_3, lfAt_4, stL_4, Y.atI_4, lfAt_5, stL_5, Y.atI_5, lfAt_6, stL_6, Y.atI_6, lfAt_7, stL_7, Y.atI_7, Nat.reduceLeDiff, Int.reduceLT, Int.reduceLE, List.cons_append, List.nil_append, decide_true, decide_false, if_true, if_false, sizeLine_eq, aLc_ap, h4r, e2]
  · have gd : decide (((most : Nat) : Int) < 9) = false := decide_eq_false (by omega)
    obtain ⟨m2, i2, e2⟩ := law_others (x := x) (most := (most : Nat)) (r := r) (F := [r]) (p6 := .d (runD r)) (p8 := .d (laysD (lawLayers r))) (p9 := .d (runD (lawLayers r).flatten)) hok i1 h1 h2 h3 h4 (by omega) k1 (fun g2 => absurd g2 (by omega)) (by show 1 ≤ 1300; omega) (fun l hl a ha => ok1 a (by rw [List.mem_singleton.mp hl] at ha; exact ha))
    have e2 : forGo (aNameF 12) f_law_1 (rng 0 4) [some x, some (.w m1), some (.d (psD ps)), some (.d (psD lb)), some (.d (.int (most : Nat))), some (.d (runD r)), some (.d (runD r)), some (.d (laysD (lawLayers r))), some (.d (laysD (lawLayers r))), some (.d (runD (lawLayers r).flatten)), none, some (.d (.list [runD r])), none, none, none] = some (.nx [some x, some (.w m2), some (.d (psD ps)), some (.d (psD lb)), some (.d (.int (most : Nat))), some (.d (runD r)), some (.d (runD r)), some (.d (laysD (lawLayers r))), some (.d (laysD (lawLayers r))), some (.d (runD (lawLayers r).flatten)), none, some (.d (.list [runD r])), none, none, none]) := e2
    refine ⟨m2, i2, ?_⟩
    have h4r : ∀ s, rngK1 [.d (.int 4)] s = some (.ok (rng 0 4, none) s) := fun s => rngK1_ap (by omega)
    have d11 : decide ((1 : Int) < ((1 : Nat) : Int)) = false := rfl
    simp only [aSeq_ap, seqK_nx, seqK_rt, seqK_bk, seqK_ct, seqK_none, aNext_ap, aBrk_ap, aCont_ap, aAsg_ap, asgK_ap, nxR_some, aDrop_ap, dropK_ap, aIfS_ap, ifK_t, ifK_f, aRet_ap, retK_ap, rtR_some, aRetN_ap, aKill_ap, List.foldl_cons, List.foldl_nil, sb_okN, bd_okN, mapR_some, aC_ap, aXT_ap, aVar_ap, varK_d, varK_x, varK_w, varK_p, varK_k, aOp_ap, opK_ap, opK2_ap, aFz_ap, aUn_ap, aB_ap, bK_ap, aAnd_ap, andK_t, andK_f, aOr_ap, orK_t, orK_f, aNot_ap, notK_ap, aTru_ap, truK_ap, aYes_ap, aAndV_ap, andVK_t, andVK_f, aOrV_ap, orVK_t, orVK_f, aNotV_ap, notVK_ap, aIf_ap, ifEK_t, ifEK_f, aNil_ap, aCons_ap, consK_ap, consK2_ap, aCB_ap, cbK_ap, aNoPart_ap, aPart_ap, partK_ap, aSl_ap, slK_ap, slK2_ap, slK3_ap, aBM_ap, bmK_ap, bmK2_ap, aBM0_ap, bmK0_ap, aPut_ap, putK_ap, putK1_ap, putK2_ap, aFor_ap, forK_n, aRng1_ap, aRng2_ap, aIt_ap, itK_l, itK_t, itK_s, itK_x, itK_c, itK_f, aCallG_ap, List.getElem?_cons_zero, List.getElem?_cons_succ, List.set_cons_zero, List.set_cons_succ, List.length_cons, List.length_nil, Nat.zero_add, Nat.reduceAdd, Option.map_some, Option.map_none, Option.bind_some, Option.bind_none, List.map_cons, List.map_nil, aName, aNameF, fz, rtv, wAt, toM, vw, frz_lst, frz_d, lvs_map, oIx2_var, ixV_w, ixV_p, ixV_k, ixL_some, lfAt_nat, lf_d, oIx2_l, oIx2_t, Y.atI_nat, putF_var, putV_w, putV_p, oEq_int, oNe_int, oLtA_int, oIntA_int, oIntA_bool, oLenV_l, oLenV_t, oI0_ap, oB0_ap, oAdd_int, rNeg, lfAt_0, stL_0, Y.atI_0, lfAt_1, stL_1, Y.atI_1, lfAt_2, stL_2, Y.atI_2, lfAt_3, stL_3, Y.atI_3, lfAt_4, stL_4, Y.atI_4, lfAt_5, stL_5, Y.atI_5, lfAt_6, stL_6, Y.atI_6, lfAt_7, stL_7, Y.atI_7, Nat.reduceLeDiff, Int.reduceLT, Int.reduceLE, List.cons_append, List.nil_append, decide_true, decide_false, if_true, if_false, sizeLine_eq, aLc_ap, gd, d11, h4r, e2]

end Lw

namespace Lw
open PySem PySem.Spec PyProof.Rows L2 Y PySem.W TL
/-! ### the law -/
theorem actOk_in {ns ls : List (List Nat)} (h1 : ∀ l ∈ ns, NameL l) (h2 : ∀ l ∈ ls, NameL l) : ∀ a, ActIn (ns.map mk) (ls.map mk) a → ActOk a := fun a ha => by
  obtain ⟨g1, g2, g3⟩ := ha
  obtain ⟨x, hx, e1⟩ := List.mem_map.mp g1
  obtain ⟨y, hy, e2⟩ := List.mem_map.mp g2
  obtain ⟨z, hz, e3⟩ := List.mem_map.mp g3
  exact ⟨by rw [← e1]; exact strOk_of (h1 x hx).low, by rw [← e2]; exact strOk_of (h1 y hy).low, by rw [← e3]; exact strOk_of (h2 z hz).low⟩
theorem strs_mk (ns : List (List Nat)) : strsL ns = (ns.map mk).map PyData.str := by unfold strsL; rw [List.map_map]; rfl
theorem call_x1 {den : Den} {a : List PyData} {t : TV} {s : SL} (h : den [.x a] = some (.ok t [none])) : callK false den [.f] [.x a] s = some (.ok t s) := by
  simp only [callK, unsub, Option.map_none, callT, argF, argF1, fz, Option.bind_some, Option.map_some, argM, argM1, h, argB, argB1]
theorem law_true (ns : List Int) (hn : ns.length ≤ 63) : ∃ outs, den_law [.x (ns.map PyData.int)] = some (.ok (.d (.bool true)) outs) := by
  obtain ⟨m0, i0, e0⟩ := rd__law_state ns hn
  obtain ⟨q1, m1, a0, a1, i1, e1⟩ := rd__law_draw i0 (lim := 4) (by omega) (by omega)
  obtain ⟨n1, rfl⟩ := Int.eq_ofNat_of_zero_le a0
  obtain ⟨ps, m2, b1, b2, _, _, i2, e2⟩ := rd__law_names (n := 3 + n1) (tk := []) i1 (fun _ h => nomatch h) (by show _ + 0 ≤ 18; omega)
  obtain ⟨q2, m3, c0, c1, i3, e3⟩ := rd__law_draw i2 (lim := 2) (by omega) (by omega)
  obtain ⟨n2, rfl⟩ := Int.eq_ofNat_of_zero_le c0
  obtain ⟨lb, m4, d1, d2, _, _, i4, e4⟩ := rd__law_names (n := 1 + n2) (tk := []) i3 (fun _ h => nomatch h) (by show _ + 0 ≤ 18; omega)
  have e2 : den__law_names [.p m1, .d (.int (3 + (n1 : Nat))), .d (.list [])] = some (.ok (.t (.lst ((strsL ps).map MV.d))) [some (.p m2), none, none]) := by
    rw [show (3 : Int) + ((n1 : Nat) : Int) = ((3 + n1 : Nat) : Int) by omega]; exact e2
  have e4 : den__law_names [.p m3, .d (.int (1 + (n2 : Nat))), .d (.list [])] = some (.ok (.t (.lst ((strsL lb).map MV.d))) [some (.p m4), none, none]) := by
    rw [show (1 : Int) + ((n2 : Nat) : Int) = ((1 + n2 : Nat) : Int) by omega]; exact e4
  rw [strs_mk] at e2 e4
  have hok := actOk_in b2 d2
  have z0 : frz (.lst []) = some (.list []) := frz_lst []
  have el4 : ∀ (s : SL) (a b c d : PyData), oLst s [.d a, .d b, .d c, .d d] = some (.t (.lst [.d a, .d b, .d c, .d d]), s) := fun s a b c d => if_pos (show 4 ≤ sizeLine by rw [sizeLine_eq]; omega)
  have it4 : ∀ (s : SL) (a b c d : PyData), itK (.t (.lst [.d a, .d b, .d c, .d d])) s = some (.ok ([a, b, c, d], none) s) := fun s a b c d => itK_f (ds := [a, b, c, d])
  have lp : 3 ≤ (ps.map mk).length ∧ (ps.map mk).length ≤ 100 := by rw [List.length_map]; omega
  have ll : 1 ≤ (lb.map mk).length ∧ (lb.map mk).length ≤ 100 := by rw [List.length_map]; omega
  obtain ⟨s5, f5, m5, i5, rfl⟩ := forGo_inv (Ga := aNameF 4) (S := f_law_3) (ds := [.int 6, .int 8, .int 8, .int 40]) (fun _ s => ∃ m', IsSt m' ∧ s = [some (.x (ns.map PyData.int)), some (.w m'), some (.d (psD (ps.map mk))), some (.d (psD (lb.map mk))), none, none, none, none, none, none, none, none, none, none, none]) (fun i d s hd hp => by
    obtain ⟨m', im, rfl⟩ := hp
    obtain ⟨most, rfl, hmo⟩ : ∃ k : Nat, d = .int (k : Nat) ∧ k ≤ 900 := by
      have := List.mem_of_getElem? hd
      simp only [List.mem_cons, List.not_mem_nil, or_false] at this
      rcases this with rfl | rfl | rfl | rfl
      · exact ⟨6, rfl, by omega⟩
      · exact ⟨8, rfl, by omega⟩
      · exact ⟨8, rfl, by omega⟩
      · exact ⟨40, rfl, by omega⟩
    obtain ⟨m2, im2, e⟩ := law_step (x := .x (ns.map PyData.int)) hok im lp.1 lp.2 ll.1 ll.2 hmo
    exact ⟨_, _, rfl, .inl e, m2, im2, rfl⟩) (s := [some (.x (ns.map PyData.int)), some (.w m4), some (.d (psD (ps.map mk))), some (.d (psD (lb.map mk))), none, none, none, none, none, none, none, none, none, none, none]) ⟨m4, i4, rfl⟩
  obtain ⟨s6, f6, m6, i6, rfl⟩ := forGo_inv (Ga := aNameF 12) (S := f_law_0) (ds := rng 0 4) (fun _ s => ∃ m', IsSt m' ∧ s = [some (.x (ns.map PyData.int)), some (.w m'), some (.d (psD (ps.map mk))), some (.d (psD (lb.map mk))), none, none, none, none, none, none, none, none, none, none, none]) (fun i d s hd hp => by
    obtain ⟨m', im, rfl⟩ := hp
    obtain ⟨m2, im2, e⟩ := law_pair (x := .x (ns.map PyData.int)) (k := d) im lp.1 lp.2 ll.1 ll.2
    exact ⟨_, _, rfl, .inl e, m2, im2, rfl⟩) (s := [some (.x (ns.map PyData.int)), some (.w m5), some (.d (psD (ps.map mk))), some (.d (psD (lb.map mk))), none, none, none, none, none, none, none, none, none, none, none]) ⟨m5, i5, rfl⟩
  have h4r : ∀ s, rngK1 [.d (.int 4)] s = some (.ok (rng 0 4, none) s) := fun s => rngK1_ap (by omega)
  have no : ∀ a ∈ ([] : List Act), ActOk a := fun _ h => nomatch h
  have ec := rd_come no no (Nat.zero_le _) (Nat.zero_le _)
  rw [decide_eq_true rfl] at ec
  have hb : b_law [some (.x (ns.map PyData.int)), none, none, none, none, none, none, none, none, none, none, none, none, none, none] = some (.rt (.d (.bool true)) [some (.x (ns.map PyData.int)), some (.w m6), some (.d (psD (ps.map mk))), some (.d (psD (lb.map mk))), none, none, none, none, none, none, none, none, none, none, none]) := by
    unfold b_law
    simp only [aSeq_ap, seqK_nx, seqK_rt, seqK_bk, seqK_ct, seqK_none, aNext_ap, aBrk_ap, aCont_ap, aAsg_ap, asgK_ap, nxR_some, aDrop_ap, dropK_ap, aIfS_ap, ifK_t, ifK_f, aRet_ap, retK_ap, rtR_some, aRetN_ap, aKill_ap, List.foldl_cons, List.foldl_nil, sb_okN, bd_okN, mapR_some, aC_ap, aXT_ap, aVar_ap, varK_d, varK_x, varK_w, varK_p, varK_k, aOp_ap, opK_ap, opK2_ap, aFz_ap, aUn_ap, aB_ap, bK_ap, aAnd_ap, andK_t, andK_f, aOr_ap, orK_t, orK_f, aNot_ap, notK_ap, aTru_ap, truK_ap, aYes_ap, aAndV_ap, andVK_t, andVK_f, aOrV_ap, orVK_t, orVK_f, aNotV_ap, notVK_ap, aIf_ap, ifEK_t, ifEK_f, aNil_ap, aCons_ap, consK_ap, consK2_ap, aCB_ap, cbK_ap, aNoPart_ap, aPart_ap, partK_ap, aSl_ap, slK_ap, slK2_ap, slK3_ap, aBM_ap, bmK_ap, bmK2_ap, aBM0_ap, bmK0_ap, aPut_ap, putK_ap, putK1_ap, putK2_ap, aFor_ap, forK_n, aRng1_ap, aRng2_ap, aIt_ap, itK_l, itK_t, itK_s, itK_x, itK_c, itK_f, aCallG_ap, List.getElem?_cons_zero, List.getElem?_cons_succ, List.set_cons_zero, List.set_cons_succ, List.length_cons, List.length_nil, Nat.zero_add, Nat.reduceAdd, Option.map_some, Option.map_none, Option.bind_some, Option.bind_none, List.map_cons, List.map_nil, aName, aNameF, fz, rtv, wAt, toM, vw, frz_lst, frz_d, lvs_map, oIx2_var, ixV_w, ixV_p, ixV_k, ixL_some, lfAt_nat, lf_d, oIx2_l, oIx2_t, Y.atI_nat, putF_var, putV_w, putV_p, oEq_int, oNe_int, oLtA_int, oIntA_int, oIntA_bool, oLenV_l, oLenV_t, oI0_ap, oB0_ap, oAdd_int, rNeg, lfAt_0, stL_0, Y.atI_0, lfAt_1, stL_1, Y.atI_1, lfAt_2, stL_2, Y.atI_2, lfAt_3, stL_3, Y.atI_3, lfAt_4, stL_4, Y.atI_4, lfAt_5, stL_5, Y.atI_5, lfAt_6, stL_6, Y.atI_6, lfAt_7, stL_7, Y.atI_7, Nat.reduceLeDiff, Int.reduceLT, Int.reduceLE, List.cons_append, List.nil_append, decide_true, decide_false, if_true, if_false, sizeLine_eq, aLc_ap, call_x1 e0, call_m1f e1, oLst_nil, call_m1ft z0 e2, call_m1f e3, call_m1ft z0 e4, el4, it4, f5, h4r, f6]
    have ib : ∀ (s : SL) (a b : Bool), oIsB false s (.d (.bool a)) (.d (.bool b)) = some (.d (.bool (a == b)), s) := fun s a b => rfl
    have en : ∀ s : SL, oEq false s (.t (.lst [])) (.t (.lst [])) = some (.d (.bool true), s) := fun s => oEq_nilL (x := []) no
    have e1 : den_layers_of [.d (.list [])] = some (.ok (.t (.lst [])) [none]) := rd_layers_of (r := []) (Nat.zero_le _)
    have e2 : den_least_order [.d (.list [])] = some (.ok (.t (.lst [])) [none]) := rd_least_order (r := []) (Nat.zero_le _) no
    simp only [aSeq_ap, seqK_nx, seqK_rt, seqK_bk, seqK_ct, seqK_none, aNext_ap, aBrk_ap, aCont_ap, aAsg_ap, asgK_ap, nxR_some, aDrop_ap, dropK_ap, aIfS_ap, ifK_t, ifK_f, aRet_ap, retK_ap, rtR_some, aRetN_ap, aKill_ap, List.foldl_cons, List.foldl_nil, sb_okN, bd_okN, mapR_some, aC_ap, aXT_ap, aVar_ap, varK_d, varK_x, varK_w, varK_p, varK_k, aOp_ap, opK_ap, opK2_ap, aFz_ap, aUn_ap, aB_ap, bK_ap, aAnd_ap, andK_t, andK_f, aOr_ap, orK_t, orK_f, aNot_ap, notK_ap, aTru_ap, truK_ap, aYes_ap, aAndV_ap, andVK_t, andVK_f, aOrV_ap, orVK_t, orVK_f, aNotV_ap, notVK_ap, aIf_ap, ifEK_t, ifEK_f, aNil_ap, aCons_ap, consK_ap, consK2_ap, aCB_ap, cbK_ap, aNoPart_ap, aPart_ap, partK_ap, aSl_ap, slK_ap, slK2_ap, slK3_ap, aBM_ap, bmK_ap, bmK2_ap, aBM0_ap, bmK0_ap, aPut_ap, putK_ap, putK1_ap, putK2_ap, aFor_ap, forK_n, aRng1_ap, aRng2_ap, aIt_ap, itK_l, itK_t, itK_s, itK_x, itK_c, itK_f, aCallG_ap, List.getElem?_cons_zero, List.getElem?_cons_succ, List.set_cons_zero, List.set_cons_succ, List.length_cons, List.length_nil, Nat.zero_add, Nat.reduceAdd, Option.map_some, Option.map_none, Option.bind_some, Option.bind_none, List.map_cons, List.map_nil, aName, aNameF, fz, rtv, wAt, toM, vw, frz_lst, frz_d, lvs_map, oIx2_var, ixV_w, ixV_p, ixV_k, ixL_some, lfAt_nat, lf_d, oIx2_l, oIx2_t, Y.atI_nat, putF_var, putV_w, putV_p, oEq_int, oNe_int, oLtA_int, oIntA_int, oIntA_bool, oLenV_l, oLenV_t, oI0_ap, oB0_ap, oAdd_int, rNeg, lfAt_0, stL_0, Y.atI_0, lfAt_1, stL_1, Y.atI_1, lfAt_2, stL_2, Y.atI_2, lfAt_3, stL_3, Y.atI_3, lfAt_4, stL_4, Y.atI_4, lfAt_5, stL_5, Y.atI_5, lfAt_6, stL_6, Y.atI_6, lfAt_7, stL_7, Y.atI_7, Nat.reduceLeDiff, Int.reduceLT, Int.reduceLE, List.cons_append, List.nil_append, decide_true, decide_false, if_true, if_false, sizeLine_eq, aLc_ap, call_t2 z0 z0 ec, ib, beq_self_eq_true, oLst_nil, call_t1 z0 e1, call_t1 z0 e2, en]
  have hs : start0 15 [.x (ns.map PyData.int)] = [some (.x (ns.map PyData.int)), none, none, none, none, none, none, none, none, none, none, none, none, none, none] := rfl
  refine ⟨[none], ?_⟩
  unfold den_law Y.run
  rw [hs, hb]
  rfl

end Lw

namespace Lw
open PySem PySem.Spec PyProof.Rows L2 Y
noncomputable section
theorem ok__law_state {P : Program} {w : World} {K : PySem.W.Frag} {mg : Str → Option Value} {base : Heap} (D : DefAt K mg "_law_state" s__law_state) (z_list : mg "list" = none) : Ok P w K mg base CX0 1 "_law_state" ["script"] den__law_state :=
  D.ok (fun fd F => F.bindsN fun _ _ _ _ _ _ us hl => match us, hl with | [_], _ => rfl) fun fd F => ok0 F sc__law_state 1 rfl (fun cdv A outer s H E hr => dv__law_state z_list hr)
theorem ok__law_draw {P : Program} {w : World} {K : PySem.W.Frag} {mg : Str → Option Value} {base : Heap} (D : DefAt K mg "_law_draw" s__law_draw) (z_int : mg "int" = none) (z_len : mg "len" = none) : Ok P w K mg base CX0 1 "_law_draw" ["state", "limit"] den__law_draw :=
  D.ok (fun fd F => F.bindsN fun _ _ _ _ _ _ us hl => match us, hl with | [_, _], _ => rfl) fun fd F => ok0 F sc__law_draw 5 rfl (fun cdv A outer s H E hr => dv__law_draw z_int z_len hr)
theorem ok__law_name {P : Program} {w : World} {K : PySem.W.Frag} {mg : Str → Option Value} {base : Heap} (D : DefAt K mg "_law_name" s__law_name) (z_int : mg "int" = none) (h__law_draw : Ok P w K mg base CX0 1 "_law_draw" ["state", "limit"] (den__law_draw)) : Ok P w K mg base CX0 2 "_law_name" ["state"] den__law_name :=
  D.ok (fun fd F => F.bindsN fun _ _ _ _ _ _ us hl => match us, hl with | [_], _ => rfl) fun fd F => ok0 F sc__law_name 6 rfl (fun cdv A outer s H E hr => dv__law_name z_int h__law_draw hr)
theorem ok__law_names {P : Program} {w : World} {K : PySem.W.Frag} {mg : Str → Option Value} {base : Heap} (D : DefAt K mg "_law_names" s__law_names) (z_range : mg "range" = none) (z_str : mg "str" = none) (h__law_name : Ok P w K mg base CX0 2 "_law_name" ["state"] (den__law_name)) : Ok P w K mg base CX0 3 "_law_names" ["state", "count", "taken"] den__law_names :=
  D.ok (fun fd F => F.bindsN fun _ _ _ _ _ _ us hl => match us, hl with | [_, _, _], _ => rfl) fun fd F => ok0 F sc__law_names 7 rfl (fun cdv A outer s H E hr => dv__law_names z_range z_str h__law_name hr)
theorem ok__law_run {P : Program} {w : World} {K : PySem.W.Frag} {mg : Str → Option Value} {base : Heap} (D : DefAt K mg "_law_run" s__law_run) (z_range : mg "range" = none) (z_len : mg "len" = none) (z_int : mg "int" = none) (h__law_draw : Ok P w K mg base CX0 1 "_law_draw" ["state", "limit"] (den__law_draw)) : Ok P w K mg base CX0 2 "_law_run" ["state", "parties", "labels", "most"] den__law_run :=
  D.ok (fun fd F => F.bindsN fun _ _ _ _ _ _ us hl => match us, hl with | [_, _, _, _], _ => rfl) fun fd F => ok0 F sc__law_run 8 rfl (fun cdv A outer s H E hr => dv__law_run z_range z_len z_int h__law_draw hr)
theorem ok__law_apart {P : Program} {w : World} {K : PySem.W.Frag} {mg : Str → Option Value} {base : Heap} (D : DefAt K mg "_law_apart" s__law_apart) (z_len : mg "len" = none) : Ok P w K mg base CX0 1 "_law_apart" ["one", "two"] den__law_apart :=
  D.ok (fun fd F => F.bindsN fun _ _ _ _ _ _ us hl => match us, hl with | [_, _], _ => rfl) fun fd F => ok0 F sc__law_apart 3 rfl (fun cdv A outer s H E hr => dv__law_apart z_len hr)
theorem ok__law_layers {P : Program} {w : World} {K : PySem.W.Frag} {mg : Str → Option Value} {base : Heap} (D : DefAt K mg "_law_layers" s__law_layers) (z_max : mg "max" = none) (z_range : mg "range" = none) (z_len : mg "len" = none) (z_sorted : mg "sorted" = none) (h__law_apart : Ok P w K mg base CX0 1 "_law_apart" ["one", "two"] (den__law_apart)) : Ok P w K mg base CX0 2 "_law_layers" ["run"] den__law_layers :=
  D.ok (fun fd F => F.bindsN fun _ _ _ _ _ _ us hl => match us, hl with | [_], _ => rfl) fun fd F => ok0 F sc__law_layers 7 rfl (fun cdv A outer s H E hr => dv__law_layers z_max z_range z_len z_sorted h__law_apart hr)
theorem ok_layers_of {P : Program} {w : World} {K : PySem.W.Frag} {mg : Str → Option Value} {base : Heap} (D : DefAt K mg "layers_of" s_layers_of) (z_sorted : mg "sorted" = none) (z_len : mg "len" = none) (z_max : mg "max" = none) : Ok P w K mg base CX0 1 "layers_of" ["run"] den_layers_of :=
  D.ok (fun fd F => F.bindsN fun _ _ _ _ _ _ us hl => match us, hl with | [_], _ => rfl) fun fd F => ok0 F sc_layers_of 6 rfl (fun cdv A outer s H E hr => dv_layers_of z_sorted z_len z_max hr)
theorem ok__law_class {P : Program} {w : World} {K : PySem.W.Frag} {mg : Str → Option Value} {base : Heap} (D : DefAt K mg "_law_class" s__law_class) (z_len : mg "len" = none) (z_range : mg "range" = none) (h__law_apart : Ok P w K mg base CX0 1 "_law_apart" ["one", "two"] (den__law_apart)) : Ok P w K mg base CX0 2 "_law_class" ["run"] den__law_class :=
  D.ok (fun fd F => F.bindsN fun _ _ _ _ _ _ us hl => match us, hl with | [_], _ => rfl) fun fd F => ok0 F sc__law_class 6 rfl (fun cdv A outer s H E hr => dv__law_class z_len z_range h__law_apart hr)
theorem ok__law_other {P : Program} {w : World} {K : PySem.W.Frag} {mg : Str → Option Value} {base : Heap} (D : DefAt K mg "_law_other" s__law_other) (z_len : mg "len" = none) (h__law_draw : Ok P w K mg base CX0 1 "_law_draw" ["state", "limit"] (den__law_draw)) (h__law_run : Ok P w K mg base CX0 2 "_law_run" ["state", "parties", "labels", "most"] (den__law_run)) : Ok P w K mg base CX0 3 "_law_other" ["state", "run", "parties", "labels"] den__law_other :=
  D.ok (fun fd F => F.bindsN fun _ _ _ _ _ _ us hl => match us, hl with | [_, _, _, _], _ => rfl) fun fd F => ok0 F sc__law_other 6 rfl (fun cdv A outer s H E hr => dv__law_other z_len h__law_draw h__law_run hr)
theorem ok__law_truth {P : Program} {w : World} {K : PySem.W.Frag} {mg : Str → Option Value} {base : Heap} (D : DefAt K mg "_law_truth" s__law_truth)  : Ok P w K mg base CX0 1 "_law_truth" ["told", "due"] den__law_truth :=
  D.ok (fun fd F => F.bindsN fun _ _ _ _ _ _ us hl => match us, hl with | [_, _], _ => rfl) fun fd F => ok0 F sc__law_truth 2 rfl (fun cdv A outer s H E hr => dv__law_truth  hr)
theorem ok_come_to_the_same {P : Program} {w : World} {K : PySem.W.Frag} {mg : Str → Option Value} {base : Heap} (D : DefAt K mg "come_to_the_same" s_come_to_the_same) (h_layers_of : Ok P w K mg base CX0 1 "layers_of" ["run"] (den_layers_of)) : Ok P w K mg base CX0 2 "come_to_the_same" ["one", "other"] den_come_to_the_same :=
  D.ok (fun fd F => F.bindsN fun _ _ _ _ _ _ us hl => match us, hl with | [_, _], _ => rfl) fun fd F => ok0 F sc_come_to_the_same 2 rfl (fun cdv A outer s H E hr => dv_come_to_the_same h_layers_of hr)
theorem ok_are_apart {P : Program} {w : World} {K : PySem.W.Frag} {mg : Str → Option Value} {base : Heap} (D : DefAt K mg "are_apart" s_are_apart)  : Ok P w K mg base CX0 1 "are_apart" ["one", "other"] den_are_apart :=
  D.ok (fun fd F => F.bindsN fun _ _ _ _ _ _ us hl => match us, hl with | [_, _], _ => rfl) fun fd F => ok0 F sc_are_apart 2 rfl (fun cdv A outer s H E hr => dv_are_apart  hr)
theorem ok_least_order {P : Program} {w : World} {K : PySem.W.Frag} {mg : Str → Option Value} {base : Heap} (D : DefAt K mg "least_order" s_least_order) (z_enumerate : mg "enumerate" = none) (z_list : mg "list" = none) (h_are_apart : Ok P w K mg base CX0 1 "are_apart" ["one", "other"] (den_are_apart)) : Ok P w K mg base CX0 2 "least_order" ["run"] den_least_order :=
  D.ok (fun fd F => F.bindsN fun _ _ _ _ _ _ us hl => match us, hl with | [_], _ => rfl) fun fd F => ok0 F sc_least_order 7 rfl (fun cdv A outer s H E hr => dv_least_order z_enumerate z_list h_are_apart hr)
theorem ok__law_least {P : Program} {w : World} {K : PySem.W.Frag} {mg : Str → Option Value} {base : Heap} (D : DefAt K mg "_law_least" s__law_least) (z_len : mg "len" = none) (z_range : mg "range" = none) (z_min : mg "min" = none) (z_list : mg "list" = none) (h__law_apart : Ok P w K mg base CX0 1 "_law_apart" ["one", "two"] (den__law_apart)) : Ok P w K mg base CX0 2 "_law_least" ["run"] den__law_least :=
  D.ok (fun fd F => F.bindsN fun _ _ _ _ _ _ us hl => match us, hl with | [_], _ => rfl) fun fd F => ok0 F sc__law_least 8 rfl (fun cdv A outer s H E hr => dv__law_least z_len z_range z_min z_list h__law_apart hr)
def d__law_state : He.DefD := ⟨("_law_state", none), "_law_state", "_law_state", defArgs s__law_state, defBody s__law_state, defScope s__law_state, [], []⟩
def d__law_draw : He.DefD := ⟨("_law_draw", none), "_law_draw", "_law_draw", defArgs s__law_draw, defBody s__law_draw, defScope s__law_draw, [], []⟩
def d__law_name : He.DefD := ⟨("_law_name", none), "_law_name", "_law_name", defArgs s__law_name, defBody s__law_name, defScope s__law_name, [], []⟩
def d__law_names : He.DefD := ⟨("_law_names", none), "_law_names", "_law_names", defArgs s__law_names, defBody s__law_names, defScope s__law_names, [], []⟩
def d__law_run : He.DefD := ⟨("_law_run", none), "_law_run", "_law_run", defArgs s__law_run, defBody s__law_run, defScope s__law_run, [], []⟩
def d__law_apart : He.DefD := ⟨("_law_apart", none), "_law_apart", "_law_apart", defArgs s__law_apart, defBody s__law_apart, defScope s__law_apart, [], []⟩
def d__law_layers : He.DefD := ⟨("_law_layers", none), "_law_layers", "_law_layers", defArgs s__law_layers, defBody s__law_layers, defScope s__law_layers, [], []⟩
def d_layers_of : He.DefD := ⟨("layers_of", none), "layers_of", "layers_of", defArgs s_layers_of, defBody s_layers_of, defScope s_layers_of, [], []⟩
def d__law_class : He.DefD := ⟨("_law_class", none), "_law_class", "_law_class", defArgs s__law_class, defBody s__law_class, defScope s__law_class, [], []⟩
def d__law_other : He.DefD := ⟨("_law_other", none), "_law_other", "_law_other", defArgs s__law_other, defBody s__law_other, defScope s__law_other, [], []⟩
def d__law_truth : He.DefD := ⟨("_law_truth", none), "_law_truth", "_law_truth", defArgs s__law_truth, defBody s__law_truth, defScope s__law_truth, [], []⟩
def d_come_to_the_same : He.DefD := ⟨("come_to_the_same", none), "come_to_the_same", "come_to_the_same", defArgs s_come_to_the_same, defBody s_come_to_the_same, defScope s_come_to_the_same, [], []⟩
def d_are_apart : He.DefD := ⟨("are_apart", none), "are_apart", "are_apart", defArgs s_are_apart, defBody s_are_apart, defScope s_are_apart, [], []⟩
def d_least_order : He.DefD := ⟨("least_order", none), "least_order", "least_order", defArgs s_least_order, defBody s_least_order, defScope s_least_order, [], []⟩
def d__law_least : He.DefD := ⟨("_law_least", none), "_law_least", "_law_least", defArgs s__law_least, defBody s__law_least, defScope s__law_least, [], []⟩
def d_law : He.DefD := ⟨("law", none), "law", "law", defArgs s_law, defBody s_law, defScope s_law, [], []⟩
def fnL : List He.DefD := [d__law_state, d__law_draw, d__law_name, d__law_names, d__law_run, d__law_apart, d__law_layers, d_layers_of, d__law_class, d__law_other, d__law_truth, d_come_to_the_same, d_are_apart, d_least_order, d__law_least, d_law]
def faL : List He.Fa := [.glo "_law_state", .glo "_law_draw", .glo "_law_name", .glo "_law_names", .glo "_law_run", .glo "_law_apart", .glo "_law_layers", .glo "layers_of", .glo "_law_class", .glo "_law_other", .glo "_law_truth", .glo "come_to_the_same", .glo "are_apart", .glo "least_order", .glo "_law_least", .glo "law", .free "list", .free "int", .free "len", .free "range", .free "str", .free "max", .free "sorted", .free "enumerate", .free "min", .free "isinstance"]
def exL (K : PySem.W.Frag) : Bool := true
abbrev hR : PySem.W.OpenRow := PySem.W.OpenLaw.row PySem.Challenge.rw_pactguild_k85_whole_orders_that_come_to
abbrev hK : PySem.W.Hook := He.hookX 4 faL fnL [] [] exL
def hOb (s : PySem.W.SharedT) : He.AlX := He.obsX 4 faL fnL [] [] exL (HandSHeadRun.getT s)
theorem hOb_eq (s : PySem.W.SharedT) : hOb s = hK.obs s.abs := He.obsX_eq (HandSHeadRun.getT_eq s)
def lo0 : List Str := ["are_apart", "layers_of", "least_order", "come_to_the_same", "_law_state", "_law_draw", "_law_name", "_law_names", "_law_truth", "_law_run", "_law_apart", "_law_class", "_law_layers", "_law_least", "_law_other"]
abbrev hLo : List Str := ["are_apart", "layers_of", "least_order", "come_to_the_same", "_law_state", "_law_draw", "_law_name", "_law_names", "_law_truth", "_law_run", "_law_apart", "_law_class", "_law_layers", "_law_least", "_law_other"]
theorem hRun (w : World) : HandSHeadRun.RunEq hR (PySem.W.view hR.prog [17]) hK hOb 5000 hLo w := by
  intro os
  kernel_rfl
theorem hFacts {P : Program} {w : World} {K : PySem.W.Frag} {h : Heap} {mg : Str → Option Value} {f : Addr} (X : K.In h) (G : h.Ns mainGlobals mg) (hfa : mg ("law" : Str) = some (.ref f)) (c : He.SaysX faL fnL [] [] exL w h K) : ∃ fd : FuncData, (∀ (s : Shared) (v : Value), BindsTo s fd ⟨[v], []⟩ [("script", v)]) ∧ ∀ base : Heap, K.In base → base.Ns mainGlobals mg → FnOk P w K mg base CX0 4 f fd ["script"] (liftV K den_law) := by
  have cd := c.t.d
  have D__law_state : DefAt K mg "_law_state" s__law_state := ⟨cd.def_ 0 (d := d__law_state) rfl, He.glo_ok X G (cd.fact 0 (f := .glo "_law_state") rfl)⟩
  have D__law_draw : DefAt K mg "_law_draw" s__law_draw := ⟨cd.def_ 1 (d := d__law_draw) rfl, He.glo_ok X G (cd.fact 1 (f := .glo "_law_draw") rfl)⟩
  have D__law_name : DefAt K mg "_law_name" s__law_name := ⟨cd.def_ 2 (d := d__law_name) rfl, He.glo_ok X G (cd.fact 2 (f := .glo "_law_name") rfl)⟩
  have D__law_names : DefAt K mg "_law_names" s__law_names := ⟨cd.def_ 3 (d := d__law_names) rfl, He.glo_ok X G (cd.fact 3 (f := .glo "_law_names") rfl)⟩
  have D__law_run : DefAt K mg "_law_run" s__law_run := ⟨cd.def_ 4 (d := d__law_run) rfl, He.glo_ok X G (cd.fact 4 (f := .glo "_law_run") rfl)⟩
  have D__law_apart : DefAt K mg "_law_apart" s__law_apart := ⟨cd.def_ 5 (d := d__law_apart) rfl, He.glo_ok X G (cd.fact 5 (f := .glo "_law_apart") rfl)⟩
  have D__law_layers : DefAt K mg "_law_layers" s__law_layers := ⟨cd.def_ 6 (d := d__law_layers) rfl, He.glo_ok X G (cd.fact 6 (f := .glo "_law_layers") rfl)⟩
  have D_layers_of : DefAt K mg "layers_of" s_layers_of := ⟨cd.def_ 7 (d := d_layers_of) rfl, He.glo_ok X G (cd.fact 7 (f := .glo "layers_of") rfl)⟩
  have D__law_class : DefAt K mg "_law_class" s__law_class := ⟨cd.def_ 8 (d := d__law_class) rfl, He.glo_ok X G (cd.fact 8 (f := .glo "_law_class") rfl)⟩
  have D__law_other : DefAt K mg "_law_other" s__law_other := ⟨cd.def_ 9 (d := d__law_other) rfl, He.glo_ok X G (cd.fact 9 (f := .glo "_law_other") rfl)⟩
  have D__law_truth : DefAt K mg "_law_truth" s__law_truth := ⟨cd.def_ 10 (d := d__law_truth) rfl, He.glo_ok X G (cd.fact 10 (f := .glo "_law_truth") rfl)⟩
  have D_come_to_the_same : DefAt K mg "come_to_the_same" s_come_to_the_same := ⟨cd.def_ 11 (d := d_come_to_the_same) rfl, He.glo_ok X G (cd.fact 11 (f := .glo "come_to_the_same") rfl)⟩
  have D_are_apart : DefAt K mg "are_apart" s_are_apart := ⟨cd.def_ 12 (d := d_are_apart) rfl, He.glo_ok X G (cd.fact 12 (f := .glo "are_apart") rfl)⟩
  have D_least_order : DefAt K mg "least_order" s_least_order := ⟨cd.def_ 13 (d := d_least_order) rfl, He.glo_ok X G (cd.fact 13 (f := .glo "least_order") rfl)⟩
  have D__law_least : DefAt K mg "_law_least" s__law_least := ⟨cd.def_ 14 (d := d__law_least) rfl, He.glo_ok X G (cd.fact 14 (f := .glo "_law_least") rfl)⟩
  have z_list := He.free_ok X G (cd.fact 16 (f := .free "list") rfl)
  have z_int := He.free_ok X G (cd.fact 17 (f := .free "int") rfl)
  have z_len := He.free_ok X G (cd.fact 18 (f := .free "len") rfl)
  have z_range := He.free_ok X G (cd.fact 19 (f := .free "range") rfl)
  have z_str := He.free_ok X G (cd.fact 20 (f := .free "str") rfl)
  have z_max := He.free_ok X G (cd.fact 21 (f := .free "max") rfl)
  have z_sorted := He.free_ok X G (cd.fact 22 (f := .free "sorted") rfl)
  have z_enumerate := He.free_ok X G (cd.fact 23 (f := .free "enumerate") rfl)
  have z_min := He.free_ok X G (cd.fact 24 (f := .free "min") rfl)
  have z_isinstance := He.free_ok X G (cd.fact 25 (f := .free "isinstance") rfl)
  obtain ⟨fd, F⟩ := cd.def_ 15 (d := d_law) rfl
  have e := hfa.symm.trans (He.glo_ok X G (cd.fact 15 (f := .glo "law") rfl))
  cases e
  have b := FunD.bindsA (ps := ["script"]) F fun _ _ _ _ _ _ us hl => match us, hl with | [_], _ => rfl
  refine ⟨fd, fun s v => b s [v] rfl, fun base _ _ => ?_⟩
  have h__law_state := ok__law_state (P := P) (w := w) (base := base) D__law_state z_list
  have h__law_draw := ok__law_draw (P := P) (w := w) (base := base) D__law_draw z_int z_len
  have h__law_name := ok__law_name (P := P) (w := w) (base := base) D__law_name z_int h__law_draw
  have h__law_names := ok__law_names (P := P) (w := w) (base := base) D__law_names z_range z_str h__law_name
  have h__law_run := ok__law_run (P := P) (w := w) (base := base) D__law_run z_range z_len z_int h__law_draw
  have h__law_apart := ok__law_apart (P := P) (w := w) (base := base) D__law_apart z_len
  have h__law_layers := ok__law_layers (P := P) (w := w) (base := base) D__law_layers z_max z_range z_len z_sorted h__law_apart
  have h_layers_of := ok_layers_of (P := P) (w := w) (base := base) D_layers_of z_sorted z_len z_max
  have h__law_class := ok__law_class (P := P) (w := w) (base := base) D__law_class z_len z_range h__law_apart
  have h__law_other := ok__law_other (P := P) (w := w) (base := base) D__law_other z_len h__law_draw h__law_run
  have h__law_truth := ok__law_truth (P := P) (w := w) (base := base) D__law_truth 
  have h_come_to_the_same := ok_come_to_the_same (P := P) (w := w) (base := base) D_come_to_the_same h_layers_of
  have h_are_apart := ok_are_apart (P := P) (w := w) (base := base) D_are_apart 
  have h_least_order := ok_least_order (P := P) (w := w) (base := base) D_least_order z_enumerate z_list h_are_apart
  have h__law_least := ok__law_least (P := P) (w := w) (base := base) D__law_least z_len z_range z_min z_list h__law_apart
  exact ok0 F sc_law 15 rfl (fun cdv A outer s H E hr => dv_law z_range z_len z_min z_isinstance z_list h_come_to_the_same h_layers_of h_least_order h_are_apart h__law_apart h__law_truth h__law_run h__law_layers h__law_other h__law_class h__law_least h__law_draw h__law_names h__law_state hr)
end
end Lw
open PySem PySem.W PySem.Calls PyProof.Rows
theorem PySem.Challenge.cw_pactguild_k85_whole_orders_that_come_to_holds : PySem.Challenge.rw_pactguild_k85_whole_orders_that_come_to.Holds := by
  w_on; o_law
  refine HandSHeadRun.head_any (r := OpenLaw.row PySem.Challenge.rw_pactguild_k85_whole_orders_that_come_to) (q := view (OpenLaw.row PySem.Challenge.rw_pactguild_k85_whole_orders_that_come_to).prog [17]) (H := Lw.hK) (ob := Lw.hOb) (M := 5000) (loose := Lw.hLo) (d := HandSHeadRun.topDef (OpenLaw.row PySem.Challenge.rw_pactguild_k85_whole_orders_that_come_to).prog 17) (kwd := []) Lw.hOb_eq
    (by kernel_rfl) (fun s => by kernel_rfl) Lw.hRun (by kernel_rfl) (by kernel_rfl) (by kernel_rfl) (by rfl) (by first | assumption | decide +kernel) (by decide +kernel) ⟨rfl, rfl, rfl, rfl, rfl, by decide +kernel⟩ ?hw ?hc
  case hw => w_witness2
  case hc =>
    refine L2.walk_ofE (l := PySem.Challenge.rw_pactguild_k85_whole_orders_that_come_to) (n := 63) (k := 4) (x := "script") (CX := L2.CX0) rfl (by decide) (by kernel_rfl) ⟨rfl, by decide, by decide⟩ ?F (fun _ _ _ _ z => z)
    intro w mg fa h Y G hmg0
    obtain ⟨K, KX, c⟩ := Y
    have hmg : mg ("law" : PySem.Str) = some (.ref fa) := by
      have e : (HandSHeadRun.topDef (OpenLaw.row PySem.Challenge.rw_pactguild_k85_whole_orders_that_come_to).prog 17).name = ("law" : PySem.Str) := by kernel_rfl
      rw [← e]
      exact hmg0
    obtain ⟨fd, hb, hF⟩ := Lw.hFacts (P := (PySem.Challenge.rw_pactguild_k85_whole_orders_that_come_to).prog) (w := w) KX G hmg c
    exact ⟨K, fd, _, KX, hb, fun H a ns hl _ hS => Y.lift_law hS (Lw.law_true ns hl), hF⟩

