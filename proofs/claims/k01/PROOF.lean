import PyProof.Rows.All
import Wide.All
import OpenK.AllK
import Wide.FinOn
import HandS.ForMost
import HandS.ForExc
import HandS.Evl
import HandS.Wide
import HandS.IsInst
import HandS.Style
import HandS.TupAny
import HandS.Text
import HandS.Deep
import HandS.Defaults
import HandS.Steps
import HandS.Conv
import KE.SortData
import HandS.HeadHook1
import HandS.HeadHook2
import HandS.TupLen
import HandS.WordsDict
import KE.GoesMore
import PyProof.EnumMake
import HandS.Zip
import HandS.Rev
import HandS.More
import KE.DataMinMax
import KE.DataCmp
import PySem.Challenge.RW_pactguild_k01_tokens_that_were_written
import HandS.Head0
import HandS.Head1
import HandS.Head2
import HandS.HeadEnd
import HandS.HeadHook3
import HandS.HeadHook4
set_option Elab.async false
set_option linter.all false
set_option maxRecDepth 100000
set_option maxHeartbeats 4000000
/-! Layer Y, part A: data, owned trees, the ghost, what slots stand for. -/
namespace Y
open PySem PySem.Spec PyProof.Rows L2 Evl
abbrev D := PyData
/-- an owned tree: frozen data at its leaves -/
inductive MV where
  | d (x : D) | lst (ms : List MV) | dK (kvs : List (Key × MV)) | dT (kvs : List (List Key × MV))
/-- what a slot holds: data | an owned tree | an owned tree of a parameter | a tree to be read only | nothing that may be touched | the outside list -/
inductive SV where
  | d (x : D) | w (m : MV) | p (m : MV) | k (m : MV) | h | x (ds : List D)
/-- an expression's value: data | a new tree | what stands in a slot | the outside list | a tuple of the module | a child of a slot's tree, the tree in hand (p: a parameter's) -/
inductive TV where
  | d (x : D) | t (m : MV) | var (i : Nat) | x (ds : List D) | c (ds : List D) | sub (p : Bool) (i j : Nat) (m : MV)
abbrev SL := List (Option SV)
structure G where
  F : Hp
  lab : Addr → Option Nat
  π : Nat → Option V
  ro : Nat → Addr → Prop
def G.RO (g : G) (a : Addr) : Prop := ∃ j, g.ro j a
mutual
inductive RD (K : PySem.W.Frag) (F : Hp) : V → D → Prop
  | non : RD K F .non .none
  | bl (b : Bool) : RD K F (.bl b) (.bool b)
  | int (i : Int) : RD K F (.int i) (.int i)
  | str (x : Str) : RD K F (.str x) (.str x)
  | lst {a : Addr} {vs : List V} {ds : List D} : F a = some (.lst vs) → RDs K F vs ds → RD K F (.ref a) (.list ds)
  | tup {a : Addr} {vs : List V} {ds : List D} : F a = some (.tup vs) → RDs K F vs ds → RD K F (.ref a) (.tuple ds)
inductive RDs (K : PySem.W.Frag) (F : Hp) : List V → List D → Prop
  | nil : RDs K F [] []
  | cons {v : V} {vs : List V} {d : D} {ds : List D} : RD K F v d → RDs K F vs ds → RDs K F (v :: vs) (d :: ds)
end
section
variable {K : PySem.W.Frag} {F F' H H' : Hp}
mutual
theorem RD.mono (e : Ex F F') : ∀ {v : V} {d : D}, RD K F v d → RD K F' v d
  | _, _, .non => .non
  | _, _, .bl b => .bl b
  | _, _, .int i => .int i
  | _, _, .str x => .str x
  | _, _, .lst h r => .lst (e _ _ h) (RDs.mono e r)
  | _, _, .tup h r => .tup (e _ _ h) (RDs.mono e r)
theorem RDs.mono (e : Ex F F') : ∀ {vs : List V} {ds : List D}, RDs K F vs ds → RDs K F' vs ds
  | _, _, .nil => .nil
  | _, _, .cons h r => .cons (RD.mono e h) (RDs.mono e r)
end
mutual
theorem RD.dp : ∀ {v : V} {d : D}, RD K F v d → Dp K F v d
  | _, _, .non => .non
  | _, _, .bl b => .bl b
  | _, _, .int i => .int i
  | _, _, .str x => .str x
  | _, _, .lst h r => .lst (SqL.of h) (RDs.dp r)
  | _, _, .tup h r => .tup (SqT.of h) (RDs.dp r)
theorem RDs.dp : ∀ {vs : List V} {ds : List D}, RDs K F vs ds → DpAll K F vs ds
  | _, _, .nil => .nil
  | _, _, .cons h r => .cons (RD.dp h) (RDs.dp r)
end
mutual
theorem dp_mono (e : Ex F F') : ∀ {v : V} {d : D}, Dp K F v d → Dp K F' v d
  | _, _, .non => .non
  | _, _, .bl b => .bl b
  | _, _, .int i => .int i
  | _, _, .str x => .str x
  | _, _, .lst h r => .lst (ex_l e h) (dpa_mono e r)
  | _, _, .tup h r => .tup (ex_t e h) (dpa_mono e r)
theorem dpa_mono (e : Ex F F') : ∀ {vs : List V} {ds : List D}, DpAll K F vs ds → DpAll K F' vs ds
  | _, _, .nil => .nil
  | _, _, .cons h r => .cons (dp_mono e h) (dpa_mono e r)
end
theorem RDs.paired : ∀ {vs : List V} {ds : List D}, RDs K F vs ds → Paired (RD K F) vs ds
  | _, _, .nil => .nil
  | _, _, .cons h r => .cons h (RDs.paired r)
theorem RDs.of : ∀ {vs : List V} {ds : List D}, Paired (RD K F) vs ds → RDs K F vs ds
  | _, _, .nil => .nil
  | _, _, .cons h r => .cons h (RDs.of r)
theorem RDs.length {vs : List V} {ds : List D} (h : RDs K F vs ds) : vs.length = ds.length := Paired.length h.paired
theorem RDs.get : ∀ {vs : List V} {ds : List D} {i : Nat} {d : D}, RDs K F vs ds → ds[i]? = some d → ∃ v, vs[i]? = some v ∧ RD K F v d
  | _, _, _, _, .nil, h => by simp at h
  | _, _, 0, _, .cons r _, h => by simp at h; subst h; exact ⟨_, rfl, r⟩
  | _, _, i + 1, _, .cons _ t, h => by
    obtain ⟨v, h1, h2⟩ := RDs.get (i := i) t (by simpa using h)
    exact ⟨v, by simpa using h1, h2⟩
theorem RDs.get' : ∀ {vs : List V} {ds : List D} {i : Nat} {v : V}, RDs K F vs ds → vs[i]? = some v → ∃ d, ds[i]? = some d ∧ RD K F v d
  | _, _, _, _, .nil, h => by simp at h
  | _, _, 0, _, .cons r _, h => by simp at h; subst h; exact ⟨_, rfl, r⟩
  | _, _, i + 1, _, .cons _ t, h => by
    obtain ⟨v, h1, h2⟩ := RDs.get' (i := i) t (by simpa using h)
    exact ⟨v, by simpa using h1, h2⟩
theorem RDs.app : ∀ {vs : List V} {ds : List D} {ws : List V} {es : List D}, RDs K F vs ds → RDs K F ws es → RDs K F (vs ++ ws) (ds ++ es)
  | _, _, _, _, .nil, s => s
  | _, _, _, _, .cons h r, s => .cons h (RDs.app r s)
theorem RDs.take : ∀ {vs : List V} {ds : List D} (n : Nat), RDs K F vs ds → RDs K F (vs.take n) (ds.take n)
  | _, _, 0, _ => .nil
  | _, _, _ + 1, .nil => .nil
  | _, _, n + 1, .cons h r => .cons h (RDs.take n r)
theorem RDs.drop : ∀ {vs : List V} {ds : List D} (n : Nat), RDs K F vs ds → RDs K F (vs.drop n) (ds.drop n)
  | _, _, 0, h => h
  | _, _, _ + 1, .nil => .nil
  | _, _, n + 1, .cons _ r => RDs.drop n r
theorem RDs.set {v : V} {d : D} (q : RD K F v d) : ∀ {vs : List V} {ds : List D} (i : Nat), RDs K F vs ds → RDs K F (vs.set i v) (ds.set i d)
  | _, _, _, .nil => .nil
  | _, _, 0, .cons h r => .cons q r
  | _, _, i + 1, .cons h r => .cons h (RDs.set q i r)
/-! ### trees -/
end
mutual
inductive Rep (K : PySem.W.Frag) (F H : Hp) : V → MV → List Addr → Prop
  | d {v : V} {x : D} : RD K F v x → Rep K F H v (.d x) []
  | lst {a : Addr} {vs : List V} {ms : List MV} {S : List Addr} : H a = some (.lst vs) → Reps K F H vs ms S → Rep K F H (.ref a) (.lst ms) (a :: S)
  | dK {a : Addr} {kws : List (Key × V)} {kvs : List (Key × MV)} {S : List Addr} : H a = some (.dK kws) → kws.map (·.1) = kvs.map (·.1) ∧ (kvs.map (·.1)).Nodup → Reps K F H (kws.map (·.2)) (kvs.map (·.2)) S → Rep K F H (.ref a) (.dK kvs) (a :: S)
  | dT {a : Addr} {kws : List (List Key × V)} {kvs : List (List Key × MV)} {S : List Addr} : H a = some (.dT kws) → kws.map (·.1) = kvs.map (·.1) ∧ (kvs.map (·.1)).Nodup → Reps K F H (kws.map (·.2)) (kvs.map (·.2)) S → Rep K F H (.ref a) (.dT kvs) (a :: S)
inductive Reps (K : PySem.W.Frag) (F H : Hp) : List V → List MV → List Addr → Prop
  | nil : Reps K F H [] [] []
  | cons {v : V} {vs : List V} {m : MV} {ms : List MV} {S T : List Addr} : Rep K F H v m S → Reps K F H vs ms T → Reps K F H (v :: vs) (m :: ms) (S ++ T)
end
def Keep (o : Option HO) : Prop := o ≠ none ∧ ∀ ws, o ≠ some (.tup ws)
theorem keep_lst {o : Option HO} {vs : List V} (h : o = some (.lst vs)) : Keep o := by
  subst h
  exact ⟨(fun z => by cases z), (fun ws z => by cases z)⟩
theorem keep_dK {o : Option HO} {vs : List (Key × V)} (h : o = some (.dK vs)) : Keep o := by
  subst h
  exact ⟨(fun z => by cases z), (fun ws z => by cases z)⟩
theorem keep_dT {o : Option HO} {vs : List (List Key × V)} (h : o = some (.dT vs)) : Keep o := by
  subst h
  exact ⟨(fun z => by cases z), (fun ws z => by cases z)⟩
section
variable {K : PySem.W.Frag} {F F' H H' : Hp}
mutual
theorem Rep.mono (e : Ex F F') : ∀ {v : V} {m : MV} {S : List Addr}, Rep K F H v m S → (∀ a ∈ S, H' a = H a) → Rep K F' H' v m S
  | _, _, _, .d r, _ => .d (r.mono e)
  | _, _, _, .lst h r, k => .lst ((k _ List.mem_cons_self).trans h) (Reps.mono e r fun a z => k a (List.mem_cons_of_mem _ z))
  | _, _, _, .dK h q r, k => .dK ((k _ List.mem_cons_self).trans h) q (Reps.mono e r fun a z => k a (List.mem_cons_of_mem _ z))
  | _, _, _, .dT h q r, k => .dT ((k _ List.mem_cons_self).trans h) q (Reps.mono e r fun a z => k a (List.mem_cons_of_mem _ z))
theorem Reps.mono (e : Ex F F') : ∀ {vs : List V} {ms : List MV} {S : List Addr}, Reps K F H vs ms S → (∀ a ∈ S, H' a = H a) → Reps K F' H' vs ms S
  | _, _, _, .nil, _ => .nil
  | _, _, _, .cons h r, k => .cons (Rep.mono e h fun a z => k a (List.mem_append_left _ z)) (Reps.mono e r fun a z => k a (List.mem_append_right _ z))
end
mutual
theorem Rep.keep : ∀ {v : V} {m : MV} {S : List Addr}, Rep K F H v m S → ∀ a ∈ S, Keep (H a)
  | _, _, _, .d _, a, h => nomatch h
  | _, _, _, .lst h r, a, z => by
    rcases List.mem_cons.mp z with e | e
    · subst e; exact keep_lst h
    · exact Reps.keep r a e
  | _, _, _, .dK h _ r, a, z => by
    rcases List.mem_cons.mp z with e | e
    · subst e; exact keep_dK h
    · exact Reps.keep r a e
  | _, _, _, .dT h _ r, a, z => by
    rcases List.mem_cons.mp z with e | e
    · subst e; exact keep_dT h
    · exact Reps.keep r a e
theorem Reps.keep : ∀ {vs : List V} {ms : List MV} {S : List Addr}, Reps K F H vs ms S → ∀ a ∈ S, Keep (H a)
  | _, _, _, .nil, a, h => nomatch h
  | _, _, _, .cons h r, a, z => by
    rcases List.mem_append.mp z with e | e
    · exact Rep.keep h a e
    · exact Reps.keep r a e
end
theorem Reps.length : ∀ {vs : List V} {ms : List MV} {S : List Addr}, Reps K F H vs ms S → vs.length = ms.length
  | _, _, _, .nil => rfl
  | _, _, _, .cons _ r => by rw [List.length_cons, List.length_cons, Reps.length r]
theorem Reps.leaves : ∀ {ds : List D} {vs : List V} {S : List Addr}, Reps K F H vs (ds.map MV.d) S → S = [] ∧ RDs K F vs ds
  | [], _, _, .nil => ⟨rfl, .nil⟩
  | _ :: _, _, _, .cons (.d h) r => let ⟨e, q⟩ := Reps.leaves r; ⟨by rw [e]; rfl, .cons h q⟩
theorem RDs.reps : ∀ {vs : List V} {ds : List D}, RDs K F vs ds → Reps K F H vs (ds.map MV.d) []
  | _, _, .nil => .nil
  | _, _, .cons h r => Reps.cons (S := []) (T := []) (.d h) (RDs.reps r)
theorem Reps.app : ∀ {vs : List V} {ms : List MV} {S : List Addr} {ws : List V} {ns : List MV} {T : List Addr}, Reps K F H vs ms S → Reps K F H ws ns T → Reps K F H (vs ++ ws) (ms ++ ns) (S ++ T)
  | _, _, _, _, _, _, .nil, s => s
  | _, _, _, _, _, _, .cons h r, s => by rw [List.append_assoc]; exact .cons h (Reps.app r s)
/-- one child: it, and what stands around it -/
theorem Reps.get : ∀ {vs : List V} {ms : List MV} {S : List Addr} {j : Nat} {m : MV}, Reps K F H vs ms S → ms[j]? = some m → ∃ v A T B, vs[j]? = some v ∧ Rep K F H v m T ∧ S = A ++ (T ++ B) ∧
    ∀ F' H' v' m' T', Ex F F' → (∀ a, a ∈ A ∨ a ∈ B → H' a = H a) → Rep K F' H' v' m' T' → Reps K F' H' (vs.set j v') (ms.set j m') (A ++ (T' ++ B))
  | _, _, _, _, _, .nil, h => by simp at h
  | v :: vs, m :: ms, _, 0, _, .cons (S := S) (T := T) r t, h => by
    simp at h; subst h
    exact ⟨v, [], S, T, rfl, r, rfl, fun F' H' v' m' T' e k r' => Reps.cons (S := T') (T := T) r' (t.mono e fun a z => k a (.inr z))⟩
  | v :: vs, m :: ms, _, j + 1, _, .cons (S := S) (T := T) r t, h => by
    obtain ⟨u, A, T1, B, h1, h2, h3, h4⟩ := Reps.get (j := j) t (by simpa using h)
    refine ⟨u, S ++ A, T1, B, by simpa using h1, h2, by rw [h3, List.append_assoc], fun F' H' v' m' T' e k r' => ?_⟩
    rw [List.append_assoc]
    exact .cons (r.mono e fun a z => k a (.inl (List.mem_append_left _ z))) (h4 F' H' v' m' T' e (fun a z => k a (z.imp (List.mem_append_right _) id)) r')
/-! one child of a tree -/
end
def kid : MV → Nat → Option MV
  | .lst ms, j => ms[j]?
  | .dK kvs, j => (kvs[j]?).map (·.2)
  | .dT kvs, j => (kvs[j]?).map (·.2)
  | .d _, _ => none
def setKid : MV → Nat → MV → MV
  | .lst ms, j, m => .lst (ms.set j m)
  | .dK kvs, j, m => .dK (kvs.modify j fun p => (p.1, m))
  | .dT kvs, j, m => .dT (kvs.modify j fun p => (p.1, m))
  | x, _, _ => x
def KidV (H : Hp) (v0 : V) (j : Nat) (v : V) : Prop := ∃ a, v0 = .ref a ∧ ((∃ vs : List V, H a = some (.lst vs) ∧ vs[j]? = some v) ∨ (∃ kws : List (Key × V), H a = some (.dK kws) ∧ (kws[j]?).map (·.2) = some v) ∨ ∃ kws : List (List Key × V), H a = some (.dT kws) ∧ (kws[j]?).map (·.2) = some v)
theorem KidV.inj {H : Hp} {v0 v v' : V} {j : Nat} (h : KidV H v0 j v) (h' : KidV H v0 j v') : v = v' := by
  obtain ⟨a, rfl, h⟩ := h
  obtain ⟨b, e, h'⟩ := h'
  cases e
  rcases h with ⟨x, h1, h2⟩ | ⟨x, h1, h2⟩ | ⟨x, h1, h2⟩ <;> rcases h' with ⟨y, k1, k2⟩ | ⟨y, k1, k2⟩ | ⟨y, k1, k2⟩ <;> (rw [h1] at k1; cases k1) <;> (rw [h2] at k2; cases k2; rfl)
theorem KidV.mono {H H' : Hp} {v0 v : V} {j : Nat} (h : KidV H v0 j v) (k : ∀ a, v0 = .ref a → H' a = H a) : KidV H' v0 j v := by
  obtain ⟨a, e, h⟩ := h
  refine ⟨a, e, ?_⟩
  rw [k a e]
  exact h
theorem modify_fst {α β : Type} (m : β) : ∀ (l : List (α × β)) (j : Nat), (l.modify j fun p => (p.1, m)).map (·.1) = l.map (·.1)
  | [], j => by simp
  | x :: l, 0 => rfl
  | x :: l, j + 1 => by rw [List.modify_succ_cons, List.map_cons, List.map_cons, modify_fst m l j]
theorem modify_snd {α β : Type} (m : β) : ∀ (l : List (α × β)) (j : Nat), (l.modify j fun p => (p.1, m)).map (·.2) = (l.map (·.2)).set j m
  | [], j => by simp
  | x :: l, 0 => rfl
  | x :: l, j + 1 => by rw [List.modify_succ_cons, List.map_cons, List.map_cons, List.set_cons_succ, modify_snd m l j]
section
variable {K : PySem.W.Frag} {F F' H H' : Hp}
theorem Rep.root {v : V} {m : MV} {S : List Addr} {j : Nat} {c : MV} (r : Rep K F H v m S) (h : kid m j = some c) : ∃ a S', v = .ref a ∧ S = a :: S' := by
  cases r with
  | d _ => cases h
  | lst _ _ => exact ⟨_, _, rfl, rfl⟩
  | dK _ _ _ => exact ⟨_, _, rfl, rfl⟩
  | dT _ _ _ => exact ⟨_, _, rfl, rfl⟩
theorem Rep.kid {v0 : V} {m0 m : MV} {S : List Addr} {j : Nat} (r : Rep K F H v0 m0 S) (h : Y.kid m0 j = some m) : ∃ v P T B, KidV H v0 j v ∧ Rep K F H v m T ∧ S = P ++ (T ++ B) ∧
    ∀ F' H' m' T', Ex F F' → (∀ b, b ∈ P ∨ b ∈ B → H' b = H b) → Rep K F' H' v m' T' → Rep K F' H' v0 (setKid m0 j m') (P ++ (T' ++ B)) ∧ KidV H' v0 j v := by
  cases r with
  | d _ => cases h
  | @lst a vs ms S ha rs =>
    obtain ⟨v, A, T, B, h1, h2, h3, h4⟩ := rs.get (show ms[j]? = some m from h)
    refine ⟨v, a :: A, T, B, ⟨a, rfl, .inl ⟨vs, ha, h1⟩⟩, h2, by rw [h3]; rfl, fun F' H' m' T' ex k r' => ?_⟩
    have ha' : H' a = some (.lst vs) := (k a (.inl List.mem_cons_self)).trans ha
    have := h4 F' H' v m' T' ex (fun b hb => k b (hb.imp (List.mem_cons_of_mem _) id)) r'
    rw [show vs.set j v = vs from by
      apply List.ext_getElem?
      intro i
      by_cases e : j = i
      · subst e; rw [List.getElem?_set_self (List.getElem?_eq_some_iff.mp h1).1, h1]
      · rw [List.getElem?_set_ne e]] at this
    exact ⟨.lst ha' this, ⟨a, rfl, .inl ⟨vs, ha', h1⟩⟩⟩
  | @dK a kws kvs S ha hk rs =>
    have h' : (kvs.map (·.2))[j]? = some m := by rw [List.getElem?_map]; exact h
    obtain ⟨v, A, T, B, h1, h2, h3, h4⟩ := rs.get h'
    have h1' : (kws[j]?).map (·.2) = some v := by rw [← List.getElem?_map]; exact h1
    refine ⟨v, a :: A, T, B, ⟨a, rfl, .inr (.inl ⟨kws, ha, h1'⟩)⟩, h2, by rw [h3]; rfl, fun F' H' m' T' ex k r' => ?_⟩
    have ha' : H' a = some (.dK kws) := (k a (.inl List.mem_cons_self)).trans ha
    have := h4 F' H' v m' T' ex (fun b hb => k b (hb.imp (List.mem_cons_of_mem _) id)) r'
    rw [show (kws.map (·.2)).set j v = kws.map (·.2) from by
      apply List.ext_getElem?
      intro i
      by_cases e : j = i
      · subst e; rw [List.getElem?_set_self (List.getElem?_eq_some_iff.mp h1).1, h1]
      · rw [List.getElem?_set_ne e], ← modify_snd] at this
    exact ⟨.dK ha' ⟨by rw [modify_fst]; exact hk.1, by rw [modify_fst]; exact hk.2⟩ this, ⟨a, rfl, .inr (.inl ⟨kws, ha', h1'⟩)⟩⟩
  | @dT a kws kvs S ha hk rs =>
    have h' : (kvs.map (·.2))[j]? = some m := by rw [List.getElem?_map]; exact h
    obtain ⟨v, A, T, B, h1, h2, h3, h4⟩ := rs.get h'
    have h1' : (kws[j]?).map (·.2) = some v := by rw [← List.getElem?_map]; exact h1
    refine ⟨v, a :: A, T, B, ⟨a, rfl, .inr (.inr ⟨kws, ha, h1'⟩)⟩, h2, by rw [h3]; rfl, fun F' H' m' T' ex k r' => ?_⟩
    have ha' : H' a = some (.dT kws) := (k a (.inl List.mem_cons_self)).trans ha
    have := h4 F' H' v m' T' ex (fun b hb => k b (hb.imp (List.mem_cons_of_mem _) id)) r'
    rw [show (kws.map (·.2)).set j v = kws.map (·.2) from by
      apply List.ext_getElem?
      intro i
      by_cases e : j = i
      · subst e; rw [List.getElem?_set_self (List.getElem?_eq_some_iff.mp h1).1, h1]
      · rw [List.getElem?_set_ne e], ← modify_snd] at this
    exact ⟨.dT ha' ⟨by rw [modify_fst]; exact hk.1, by rw [modify_fst]; exact hk.2⟩ this, ⟨a, rfl, .inr (.inr ⟨kws, ha', h1'⟩)⟩⟩
/-! freezing -/
end
mutual
def frz : MV → Option D
  | .d x => some x
  | .lst ms => (frzs ms).map PyData.list
  | _ => none
def frzs : List MV → Option (List D)
  | [] => some []
  | m :: ms => (frz m).bind fun x => (frzs ms).map (x :: ·)
end
theorem frzs_map : ∀ ds : List D, frzs (ds.map MV.d) = some ds
  | [] => by unfold frzs; rfl
  | x :: r => by
    rw [List.map_cons]
    unfold frzs
    rw [frzs_map r]
    unfold frz
    rfl
@[simp] theorem frz_lst (ds : List D) : frz (.lst (ds.map MV.d)) = some (.list ds) := by
  unfold frz
  rw [frzs_map]
  rfl
@[simp] theorem frz_d (x : D) : frz (.d x) = some x := by unfold frz; rfl
section
variable {K : PySem.W.Frag} {F F' H H' : Hp}
mutual
theorem Rep.frz (e : Ex F F') : ∀ {v : V} {m : MV} {S : List Addr} {x : D}, Rep K F H v m S → Y.frz m = some x → (∀ a ∈ S, F' a = H a) → RD K F' v x
  | _, _, _, x, .d r, h, _ => by
    rw [frz_d] at h; cases h
    exact r.mono e
  | _, _, _, x, .lst (ms := ms) ha r, h, k => by
    unfold Y.frz at h
    obtain ⟨ds, h1, rfl⟩ := Option.map_eq_some_iff.mp h
    exact .lst ((k _ List.mem_cons_self).trans ha) (Reps.frz e r h1 fun a z => k a (List.mem_cons_of_mem _ z))
  | _, _, _, x, .dK _ _ _, h, _ => by unfold Y.frz at h; cases h
  | _, _, _, x, .dT _ _ _, h, _ => by unfold Y.frz at h; cases h
theorem Reps.frz (e : Ex F F') : ∀ {vs : List V} {ms : List MV} {S : List Addr} {xs : List D}, Reps K F H vs ms S → frzs ms = some xs → (∀ a ∈ S, F' a = H a) → RDs K F' vs xs
  | _, _, _, xs, .nil, h, _ => by
    unfold frzs at h; cases h
    exact .nil
  | _, _, _, xs, .cons r t, h, k => by
    unfold frzs at h
    obtain ⟨x, h1, h2⟩ := Option.bind_eq_some_iff.mp h
    obtain ⟨ys, h3, rfl⟩ := Option.map_eq_some_iff.mp h2
    exact .cons (Rep.frz e r h1 fun a z => k a (List.mem_append_left _ z)) (Reps.frz e t h3 fun a z => k a (List.mem_append_right _ z))
end
mutual
theorem Rep.dp (e : Ex F H) : ∀ {v : V} {m : MV} {S : List Addr} {x : D}, Rep K F H v m S → Y.frz m = some x → Dp K H v x
  | _, _, _, x, .d r, h => by
    rw [frz_d] at h; cases h
    exact dp_mono e (RD.dp r)
  | _, _, _, x, .lst (ms := ms) ha r, h => by
    unfold Y.frz at h
    obtain ⟨ds, h1, rfl⟩ := Option.map_eq_some_iff.mp h
    exact .lst (SqL.of ha) (Reps.dp e r h1)
  | _, _, _, x, .dK _ _ _, h => by unfold Y.frz at h; cases h
  | _, _, _, x, .dT _ _ _, h => by unfold Y.frz at h; cases h
theorem Reps.dp (e : Ex F H) : ∀ {vs : List V} {ms : List MV} {S : List Addr} {xs : List D}, Reps K F H vs ms S → frzs ms = some xs → DpAll K H vs xs
  | _, _, _, xs, .nil, h => by
    unfold frzs at h; cases h
    exact .nil
  | _, _, _, xs, .cons r t, h => by
    unfold frzs at h
    obtain ⟨x, h1, h2⟩ := Option.bind_eq_some_iff.mp h
    obtain ⟨ys, h3, rfl⟩ := Option.map_eq_some_iff.mp h2
    exact .cons (Rep.dp e r h1) (Reps.dp e t h3)
end
end
/-! ### the ghost -/
def Framed (g : G) (H : Hp) (a : Addr) : Prop := Keep (H a) ∧ g.F a = none ∧ g.lab a = none
structure Nx (g : G) (H : Hp) (g' : G) (H' : Hp) : Prop where
  ex : Ex g.F g'.F
  pi : g'.π = g.π
  ro : g'.ro = g.ro
  out : ∀ a, Framed g H a → H' a = H a ∧ g'.F a = none ∧ g'.lab a = none
theorem Nx.fr {g g' : G} {H H' : Hp} (n : Nx g H g' H') {a : Addr} (f : Framed g H a) : Framed g' H' a := let ⟨h1, h2, h3⟩ := n.out a f; ⟨h1 ▸ f.1, h2, h3⟩
theorem Nx.refl (g : G) (H : Hp) : Nx g H g H := ⟨fun _ _ h => h, rfl, rfl, fun _ f => ⟨rfl, f.2.1, f.2.2⟩⟩
theorem Nx.trans {g g1 g2 : G} {H H1 H2 : Hp} (a : Nx g H g1 H1) (b : Nx g1 H1 g2 H2) : Nx g H g2 H2 :=
  ⟨fun x o h => b.ex x o (a.ex x o h), b.pi.trans a.pi, b.ro.trans a.ro, fun x f => let ⟨h1, h2, h3⟩ := b.out x (a.fr f); ⟨h1.trans (a.out x f).1, h2, h3⟩⟩
def Fresh (g : G) (H : Hp) (S : List Addr) : Prop := ∀ a ∈ S, ¬ Framed g H a
theorem Fresh.back {g g1 : G} {H H1 : Hp} {S : List Addr} (n : Nx g H g1 H1) (f : Fresh g1 H1 S) : Fresh g H S := fun a h z => f a h (n.fr z)
theorem Fresh.nil (g : G) (H : Hp) : Fresh g H [] := fun _ h => nomatch h
structure Sta (K : PySem.W.Frag) (g : G) (H : Hp) (σ : L2.St) (sl : SL) : Prop where
  ex : Ex g.F H
  lf : ∀ a, g.lab a ≠ none → g.F a = none
  la : ∀ a, g.lab a ≠ none → Keep (H a)
  ro : ∀ a, g.RO a → Framed g H a
  len : σ.length = sl.length
  d : ∀ (i : Nat) x, sl[i]? = some (some (.d x)) → ∃ v, σ[i]? = some (some v) ∧ RD K g.F v x
  w : ∀ (i : Nat) m, sl[i]? = some (some (.w m)) → ∃ v S, σ[i]? = some (some v) ∧ Rep K g.F H v m S ∧ S.Nodup ∧ ∀ a ∈ S, g.lab a = some i
  p : ∀ (i : Nat) m, sl[i]? = some (some (.p m)) → ∃ v S, (σ[i]? = some (some v) ∧ g.π i = some v) ∧ Rep K g.F H v m S ∧ S.Nodup ∧ ∀ a ∈ S, g.lab a = some i
  k : ∀ (i : Nat) m, sl[i]? = some (some (.k m)) → ∃ v S, (σ[i]? = some (some v) ∧ g.π i = some v) ∧ Rep K g.F H v m S ∧ S.Nodup ∧ ∀ a ∈ S, g.ro i a
  h : ∀ (i : Nat), sl[i]? = some (some .h) → ∃ v, σ[i]? = some (some v) ∧ g.π i = some v
  x : ∀ (i : Nat) ds, sl[i]? = some (some (.x ds)) → ∃ a vs, σ[i]? = some (some (.ref a)) ∧ SqL K g.F a vs ∧ RDs K g.F vs ds
def RTV (K : PySem.W.Frag) (g : G) (H : Hp) (σ : L2.St) (v : V) : TV → List Addr → Prop
  | .d x, S => S = [] ∧ RD K g.F v x
  | .t m, S => Rep K g.F H v m S ∧ S.Nodup ∧ ∀ a ∈ S, g.F a = none ∧ g.lab a = none ∧ ¬ g.RO a
  | .var i, S => S = [] ∧ σ[i]? = some (some v)
  | .x ds, S => S = [] ∧ ∃ a vs, v = .ref a ∧ SqL K g.F a vs ∧ RDs K g.F vs ds
  | .c ds, S => S = [] ∧ ∃ a vs, v = .ref a ∧ SqT K g.F a vs ∧ RDs K g.F vs ds
  | .sub p i j m, S => ∃ v0, (σ[i]? = some (some v0) ∧ (p = true → g.π i = some v0)) ∧ (Rep K g.F H v0 m S ∧ S.Nodup ∧ ∀ a ∈ S, g.F a = none ∧ g.lab a = none ∧ ¬ g.RO a) ∧ KidV H v0 j v ∧ ∃ c, kid m j = some c
section
variable {K : PySem.W.Frag} {g g' : G} {H H' : Hp} {σ : L2.St} {sl : SL} {v : V} {tv : TV} {S : List Addr}
theorem RTV.framed {m : MV} (r : RTV K g H σ v (.t m) S) : ∀ a ∈ S, Framed g H a := fun a z => ⟨r.1.keep a z, (r.2.2 a z).1, (r.2.2 a z).2.1⟩
theorem RTV.framedS {p : Bool} {i j : Nat} {m : MV} (r : RTV K g H σ v (.sub p i j m) S) : ∀ a ∈ S, Framed g H a := fun a z => let ⟨_, _, r, _⟩ := r; ⟨r.1.keep a z, (r.2.2 a z).1, (r.2.2 a z).2.1⟩
theorem RTV.mono (n : Nx g H g' H') (r : RTV K g H σ v tv S) : RTV K g' H' σ v tv S := by
  cases tv with
  | d x => exact ⟨r.1, r.2.mono n.ex⟩
  | t m => exact ⟨r.1.mono n.ex fun a z => (n.out a (r.framed a z)).1, r.2.1, fun a z => ⟨(n.out a (r.framed a z)).2.1, (n.out a (r.framed a z)).2.2, fun q => (r.2.2 a z).2.2 (by unfold G.RO at q ⊢; rw [n.ro] at q; exact q)⟩⟩
  | var i => exact r
  | x ds => obtain ⟨e, a, vs, h1, h2, h3⟩ := r; exact ⟨e, a, vs, h1, ex_l n.ex h2, h3.mono n.ex⟩
  | c ds => obtain ⟨e, a, vs, h1, h2, h3⟩ := r; exact ⟨e, a, vs, h1, ex_t n.ex h2, h3.mono n.ex⟩
  | sub p i j m =>
    have fr := r.framedS
    obtain ⟨v0, ⟨h1, h2⟩, r1, h3, c, h4⟩ := r
    obtain ⟨a, S', e1, e2⟩ := r1.1.root h4
    refine ⟨v0, ⟨h1, fun z => by rw [n.pi]; exact h2 z⟩, ⟨r1.1.mono n.ex fun a z => (n.out a (fr a z)).1, r1.2.1, fun a z => ⟨(n.out a (fr a z)).2.1, (n.out a (fr a z)).2.2, fun q => (r1.2.2 a z).2.2 (by unfold G.RO at q ⊢; rw [n.ro] at q; exact q)⟩⟩, h3.mono fun b eb => ?_, c, h4⟩
    have : b = a := by rw [e1] at eb; cases eb; rfl
    rw [this]
    exact (n.out a (fr a (by rw [e2]; exact List.mem_cons_self))).1
/-- a pending value and one that was made behind it stand apart -/
theorem RTV.apart {T : List Addr} (r : RTV K g H σ v tv S) (f : Fresh g H T) : ∀ a ∈ S, a ∉ T := by
  cases tv with
  | d x => obtain ⟨rfl, _⟩ := r; exact fun _ h => nomatch h
  | var x => obtain ⟨rfl, _⟩ := r; exact fun _ h => nomatch h
  | x x => obtain ⟨rfl, _⟩ := r; exact fun _ h => nomatch h
  | c x => obtain ⟨rfl, _⟩ := r; exact fun _ h => nomatch h
  | t m => exact fun a h z => f a z (r.framed a h)
  | sub p i j m => exact fun a h z => f a z (r.framedS a h)
end
end Y

/-! Layer Y, part B: how states change; the judgements. -/
namespace Y
open PySem PySem.Spec PyProof.Rows L2 Evl
def wAt (sl : SL) (i : Nat) : Option MV := match sl[i]? with
  | some (some (.w m)) => some m
  | some (some (.p m)) => some m
  | _ => none
def putAt (sl : SL) (i : Nat) (m : MV) : SL := match sl[i]? with
  | some (some (.p _)) => sl.set i (some (.p m))
  | _ => sl.set i (some (.w m))
section
variable {K : PySem.W.Frag} {g g0 : G} {H H0 H' : Hp} {σ : L2.St} {sl : SL} {v : V} {tv : TV} {S : List Addr} {i : Nat} {m m' : MV} {x : D}
theorem set_set {α : Type} {l : List α} {i : Nat} {x : α} (h : l[i]? = some x) : l.set i x = l := by
  apply List.ext_getElem?
  intro j
  by_cases e : i = j
  · subst e
    rw [List.getElem?_set_self (List.getElem?_eq_some_iff.mp h).1, h]
  · rw [List.getElem?_set_ne e]
theorem getset {α : Type} {l : List α} {i j : Nat} {x y : α} (h : (l.set i x)[j]? = some y) : (i = j ∧ x = y) ∨ (i ≠ j ∧ l[j]? = some y) := by
  by_cases e : i = j
  · subst e
    have hl : i < l.length := by
      have := (List.getElem?_eq_some_iff.mp h).1
      rwa [List.length_set] at this
    rw [List.getElem?_set_self hl] at h
    exact .inl ⟨rfl, Option.some.inj h⟩
  · rw [List.getElem?_set_ne e] at h
    exact .inr ⟨e, h⟩
theorem getset2 {α β : Type} {l : List α} {i j : Nat} {x y : α} {r : List β} {z : β} (hl : r.length = l.length) (h : (l.set i x)[j]? = some y) : (i = j ∧ x = y ∧ (r.set i z)[j]? = some z) ∨ (i ≠ j ∧ l[j]? = some y ∧ (r.set i z)[j]? = r[j]?) := by
  have hj := (List.getElem?_eq_some_iff.mp h).1
  rw [List.length_set] at hj
  rcases getset h with ⟨e, e2⟩ | ⟨e, e2⟩
  · subst e
    exact .inl ⟨rfl, e2, List.getElem?_set_self (by rw [hl]; exact hj)⟩
  · exact .inr ⟨e, e2, List.getElem?_set_ne e⟩
theorem Sta.own (st : Sta K g H σ sl) (h : wAt sl i = some m) : ∃ v S, σ[i]? = some (some v) ∧ Rep K g.F H v m S ∧ S.Nodup ∧ ∀ a ∈ S, g.lab a = some i := by
  unfold wAt at h
  split at h
  · rename_i q e; cases h; exact st.w i _ e
  · rename_i q e; cases h
    obtain ⟨v, S, ⟨h1, _⟩, h2⟩ := st.p i _ e
    exact ⟨v, S, h1, h2⟩
  · cases h
/-- a slot is given data -/
theorem Sta.setD (st : Sta K g H σ sl) (r : RD K g.F v x) : Sta K g H (σ.set i (some v)) (sl.set i (some (.d x))) := by
  refine ⟨st.ex, st.lf, st.la, st.ro, by rw [List.length_set, List.length_set, st.len], fun j y q => ?_, fun j y q => ?_, fun j y q => ?_, fun j y q => ?_, fun j q => ?_, fun j y q => ?_⟩
  · rcases getset2 (z := some v) st.len q with ⟨rfl, e, z⟩ | ⟨_, e, z⟩
    · cases e; exact ⟨v, z, r⟩
    · rw [z]; exact st.d j y e
  all_goals
    rcases getset2 (z := some v) st.len q with ⟨_, e, _⟩ | ⟨_, e, z⟩
    · cases e
  · rw [z]; exact st.w j y e
  · rw [z]; exact st.p j y e
  · rw [z]; exact st.k j y e
  · rw [z]; exact st.h j e
  · rw [z]; exact st.x j y e
/-- a slot is forgotten, whatever it holds -/
theorem Sta.setN {o : Option V} (st : Sta K g H σ sl) : Sta K g H (σ.set i o) (sl.set i none) := by
  refine ⟨st.ex, st.lf, st.la, st.ro, by rw [List.length_set, List.length_set, st.len], fun j y q => ?_, fun j y q => ?_, fun j y q => ?_, fun j y q => ?_, fun j q => ?_, fun j y q => ?_⟩
  all_goals
    rcases getset2 (z := o) st.len q with ⟨_, e, _⟩ | ⟨_, e, z⟩
    · cases e
  · rw [z]; exact st.d j y e
  · rw [z]; exact st.w j y e
  · rw [z]; exact st.p j y e
  · rw [z]; exact st.k j y e
  · rw [z]; exact st.h j e
  · rw [z]; exact st.x j y e
theorem Sta.forget (st : Sta K g H σ sl) : Sta K g H σ (sl.set i none) := by
  by_cases hi : i < σ.length
  · have := st.setN (i := i) (o := σ[i]'hi)
    rwa [set_set (List.getElem?_eq_getElem hi)] at this
  · rw [List.set_eq_of_length_le (by rw [← st.len]; omega)]
    exact st
theorem Sta.setX {ds : List D} {a : Addr} {vs : List V} (st : Sta K g H σ sl) (h1 : SqL K g.F a vs) (h2 : RDs K g.F vs ds) : Sta K g H (σ.set i (some (.ref a))) (sl.set i (some (.x ds))) := by
  refine ⟨st.ex, st.lf, st.la, st.ro, by rw [List.length_set, List.length_set, st.len], fun j y q => ?_, fun j y q => ?_, fun j y q => ?_, fun j y q => ?_, fun j q => ?_, fun j y q => ?_⟩
  all_goals
    rcases getset2 (z := some (.ref a)) st.len q with ⟨_, e, z⟩ | ⟨_, e, z⟩
  · cases e
  · rw [z]; exact st.d j y e
  · cases e
  · rw [z]; exact st.w j y e
  · cases e
  · rw [z]; exact st.p j y e
  · cases e
  · rw [z]; exact st.k j y e
  · cases e
  · rw [z]; exact st.h j e
  · cases e; exact ⟨a, vs, z, h1, h2⟩
  · rw [z]; exact st.x j y e
/-- the ghost, a set of addresses given to a slot -/
def labG (g : G) (S : List Addr) (i : Nat) : G := { g with lab := fun a => if a ∈ S then some i else g.lab a }
theorem labG_in {a : Addr} (h : a ∈ S) : (labG g S i).lab a = some i := by unfold labG; simp [h]
theorem labG_ne {a : Addr} (h : a ∉ S) : (labG g S i).lab a = g.lab a := by unfold labG; simp [h]
theorem Sta.setW (n : Nx g0 H0 g H) (f : Fresh g0 H0 S) (st : Sta K g H σ sl) (r : RTV K g H σ v (.t m) S) : Nx g0 H0 (labG g S i) H ∧ Sta K (labG g S i) H (σ.set i (some v)) (sl.set i (some (.w m))) := by
  have ns : ∀ a j, g.lab a = some j → a ∉ S := fun a j h z => by rw [(r.2.2 a z).2.1] at h; cases h
  refine ⟨⟨n.ex, n.pi, n.ro, fun a fa => ?_⟩, ⟨st.ex, fun a h => ?_, fun a h => ?_, fun a h => ?_, by rw [List.length_set, List.length_set, st.len], fun j y q => ?_, fun j y q => ?_, fun j y q => ?_, fun j y q => ?_, fun j q => ?_, fun j y q => ?_⟩⟩
  · obtain ⟨h1, h2, h3⟩ := n.out a fa
    exact ⟨h1, h2, by rw [labG_ne fun z => f a z fa]; exact h3⟩
  · by_cases z : a ∈ S
    · exact (r.2.2 a z).1
    · rw [labG_ne z] at h; exact st.lf a h
  · by_cases z : a ∈ S
    · exact r.1.keep a z
    · rw [labG_ne z] at h; exact st.la a h
  · obtain ⟨h1, h2, h3⟩ := st.ro a h
    exact ⟨h1, h2, by rw [labG_ne fun z => (r.2.2 a z).2.2 h]; exact h3⟩
  · rcases getset2 (z := some v) st.len q with ⟨_, e, z⟩ | ⟨_, e, z⟩
    · cases e
    · rw [z]; exact st.d j y e
  · rcases getset2 (z := some v) st.len q with ⟨rfl, e, z⟩ | ⟨_, e, z⟩
    · cases e; exact ⟨v, S, z, r.1, r.2.1, fun a h => labG_in h⟩
    · rw [z]
      obtain ⟨u, T, h1, h2, h3, h4⟩ := st.w j y e
      exact ⟨u, T, h1, h2, h3, fun a h => by rw [labG_ne (ns a j (h4 a h))]; exact h4 a h⟩
  · rcases getset2 (z := some v) st.len q with ⟨_, e, z⟩ | ⟨_, e, z⟩
    · cases e
    · rw [z]
      obtain ⟨u, T, h1, h2, h3, h4⟩ := st.p j y e
      exact ⟨u, T, h1, h2, h3, fun a h => by rw [labG_ne (ns a j (h4 a h))]; exact h4 a h⟩
  · rcases getset2 (z := some v) st.len q with ⟨_, e, z⟩ | ⟨_, e, z⟩
    · cases e
    · rw [z]; exact st.k j y e
  · rcases getset2 (z := some v) st.len q with ⟨_, e, z⟩ | ⟨_, e, z⟩
    · cases e
    · rw [z]; exact st.h j e
  · rcases getset2 (z := some v) st.len q with ⟨_, e, z⟩ | ⟨_, e, z⟩
    · cases e
    · rw [z]; exact st.x j y e
/-- the ghost, a set of addresses frozen -/
def frzG (g : G) (H : Hp) (S : List Addr) : G := { g with F := fun a => if a ∈ S then H a else g.F a, lab := fun a => if a ∈ S then none else g.lab a }
theorem frzG_ex (h : ∀ a ∈ S, g.F a = none) : Ex g.F (frzG g H S).F := fun a o e => by
  show (if a ∈ S then H a else g.F a) = some o
  by_cases z : a ∈ S
  · rw [h a z] at e; cases e
  · rw [if_neg z]; exact e
theorem frzG_in {a : Addr} (z : a ∈ S) : (frzG g H S).F a = H a := if_pos z
theorem frzG_F {a : Addr} (z : a ∉ S) : (frzG g H S).F a = g.F a := if_neg z
theorem frzG_lab {a : Addr} (z : a ∉ S) : (frzG g H S).lab a = g.lab a := if_neg z
theorem frzG_labi {a : Addr} (z : a ∈ S) : (frzG g H S).lab a = none := if_pos z
/-- freezing addresses that no slot but i holds -/
theorem Sta.frzS (n : Nx g0 H0 g H) (f : Fresh g0 H0 S) (st : Sta K g H σ sl) (hF : ∀ a ∈ S, g.F a = none) (hr : ∀ a ∈ S, ¬ g.RO a)
    (hw : ∀ (j : Nat) y, (sl[j]? = some (some (.w y)) ∨ sl[j]? = some (some (.p y))) → ∀ a ∈ S, g.lab a ≠ some j) : Nx g0 H0 (frzG g H S) H ∧ Sta K (frzG g H S) H σ sl := by
  have ex : Ex g.F (frzG g H S).F := frzG_ex hF
  refine ⟨⟨fun a o h => ex a o (n.ex a o h), n.pi, n.ro, fun a fa => ?_⟩, ⟨fun a o h => ?_, fun a h => ?_, fun a h => ?_, fun a h => ?_, st.len, fun j y q => ?_, fun j y q => ?_, fun j y q => ?_, fun j y q => ?_, fun j q => ?_, fun j y q => ?_⟩⟩
  · obtain ⟨h1, h2, h3⟩ := n.out a fa
    have z : a ∉ S := fun z => f a z fa
    exact ⟨h1, by rw [frzG_F z]; exact h2, by rw [frzG_lab z]; exact h3⟩
  · by_cases z : a ∈ S
    · rw [frzG_in z] at h; exact h
    · rw [frzG_F z] at h; exact st.ex a o h
  · by_cases z : a ∈ S
    · rw [frzG_labi z] at h; exact absurd rfl h
    · rw [frzG_lab z] at h; rw [frzG_F z]; exact st.lf a h
  · by_cases z : a ∈ S
    · rw [frzG_labi z] at h; exact absurd rfl h
    · rw [frzG_lab z] at h; exact st.la a h
  · obtain ⟨h1, h2, h3⟩ := st.ro a h
    have z : a ∉ S := fun z => hr a z h
    exact ⟨h1, by rw [frzG_F z]; exact h2, by rw [frzG_lab z]; exact h3⟩
  · obtain ⟨v, h1, h2⟩ := st.d j y q
    exact ⟨v, h1, h2.mono ex⟩
  · obtain ⟨u, T, h1, h2, h3, h4⟩ := st.w j y q
    exact ⟨u, T, h1, h2.mono ex fun _ _ => rfl, h3, fun a h => by rw [frzG_lab fun z => hw j y (.inl q) a z (h4 a h)]; exact h4 a h⟩
  · obtain ⟨u, T, h1, h2, h3, h4⟩ := st.p j y q
    exact ⟨u, T, h1, h2.mono ex fun _ _ => rfl, h3, fun a h => by rw [frzG_lab fun z => hw j y (.inr q) a z (h4 a h)]; exact h4 a h⟩
  · obtain ⟨u, T, h1, h2, h3, h4⟩ := st.k j y q
    exact ⟨u, T, h1, h2.mono ex fun _ _ => rfl, h3, h4⟩
  · exact st.h j q
  · obtain ⟨a, vs, h1, h2, h3⟩ := st.x j y q
    exact ⟨a, vs, h1, ex_l ex h2, h3.mono ex⟩
/-- a temp as data -/
theorem Sta.frzT (n : Nx g0 H0 g H) (f : Fresh g0 H0 S) (st : Sta K g H σ sl) (r : RTV K g H σ v (.t m) S) (e : frz m = some x) : Nx g0 H0 (frzG g H S) H ∧ Sta K (frzG g H S) H σ sl ∧ RD K (frzG g H S).F v x := by
  have hF : ∀ a ∈ S, g.F a = none := fun a z => (r.2.2 a z).1
  obtain ⟨n', st'⟩ := st.frzS n f hF (fun a z => (r.2.2 a z).2.2) fun j y _ a z h => by rw [(r.2.2 a z).2.1] at h; cases h
  exact ⟨n', st', r.1.frz (frzG_ex hF) e fun a z => frzG_in z⟩
theorem Sta.notframed (st : Sta K g H σ sl) (n : Nx g0 H0 g H) {a : Addr} {j : Nat} (h : g.lab a = some j) : ¬ Framed g0 H0 a := fun z => by
  rw [(n.out a z).2.2] at h; cases h
/-- a slot's tree as data -/
theorem Sta.frzV (n : Nx g0 H0 g H) (st : Sta K g H σ sl) (h : wAt sl i = some m) (e : frz m = some x) : ∃ g' v, Nx g0 H0 g' H ∧ Sta K g' H σ (sl.set i (some (.d x))) ∧ σ[i]? = some (some v) ∧ RD K g'.F v x := by
  obtain ⟨v, S, h1, h2, h3, h4⟩ := st.own h
  have hF : ∀ a ∈ S, g.F a = none := fun a z => st.lf a (by rw [h4 a z]; exact fun z => nomatch z)
  have st1 : Sta K g H σ (sl.set i none) := st.forget
  obtain ⟨n', st'⟩ := st1.frzS n (fun a z => st.notframed n (h4 a z)) hF (fun a z q => by have := (st.ro a q).2.2; rw [h4 a z] at this; cases this) fun j y q a z h => by
    have ei : i = j := by rw [h4 a z] at h; exact Option.some.inj h
    subst ei
    rcases q with q | q <;> (rcases getset q with ⟨_, q⟩ | ⟨q, _⟩ <;> first | exact absurd rfl q | cases q)
  have r : RD K (frzG g H S).F v x := h2.frz (frzG_ex hF) e fun a z => frzG_in z
  have st2 := st'.setD (i := i) r
  rw [List.set_set, set_set h1] at st2
  exact ⟨_, v, n', st2, h1, r⟩
theorem wAt_lt (h : wAt sl i = some m) : i < sl.length := by
  unfold wAt at h
  split at h
  · rename_i e; exact (List.getElem?_eq_some_iff.mp e).1
  · rename_i e; exact (List.getElem?_eq_some_iff.mp e).1
  · cases h
/-- the tree at a slot is changed -/
theorem Sta.mut {S' T : List Addr} (n : Nx g0 H0 g H) (fT : Fresh g0 H0 T) (st : Sta K g H σ sl) (h : wAt sl i = some m) (hv : σ[i]? = some (some v)) (hS : ∀ a ∈ S, g.lab a = some i) (hT : ∀ a ∈ T, g.F a = none ∧ g.lab a = none ∧ ¬ g.RO a)
    (hH : ∀ a, a ∉ S → H a ≠ none → H' a = H a) (hA : ∀ a, Keep (H a) → Keep (H' a)) (hTa : ∀ a ∈ T, Keep (H a)) (r : Rep K g.F H' v m' S') (nd : S'.Nodup) (hS' : ∀ a ∈ S', a ∈ S ∨ a ∈ T) : Nx g0 H0 (labG g T i) H' ∧ Sta K (labG g T i) H' σ (putAt sl i m') := by
  have hSF : ∀ a ∈ S, g.F a = none := fun a z => st.lf a (by rw [hS a z]; exact fun z => nomatch z)
  have ex' : Ex g.F H' := fun a o e => by
    rw [hH a (fun z => by rw [hSF a z] at e; cases e) (by rw [st.ex a o e]; exact fun z => nomatch z)]
    exact st.ex a o e
  have ns : ∀ a j, g.lab a = some j → a ∉ T := fun a j h z => by rw [(hT a z).2.1] at h; cases h
  have hlab' : ∀ a ∈ S', (labG g T i).lab a = some i := fun a z => by
    rcases hS' a z with z | z
    · rw [labG_ne (ns a i (hS a z))]; exact hS a z
    · exact labG_in z
  have oth : ∀ {j : Nat} {u : V} {y : MV} {U : List Addr}, j ≠ i → Rep K g.F H u y U → (∀ a ∈ U, g.lab a = some j) → Rep K g.F H' u y U := fun {j u y U} ne q ha =>
    q.mono (fun _ _ z => z) fun a z => hH a (fun z2 => ne (by have h1 := ha a z; have h2 := hS a z2; rw [h1] at h2; exact Option.some.inj h2)) (q.keep a z).1
  refine ⟨⟨n.ex, n.pi, n.ro, fun a fa => ?_⟩, ⟨ex', fun a h => ?_, fun a h => ?_, fun a h => ?_, ?_, fun j y q => ?_, fun j y q => ?_, fun j y q => ?_, fun j y q => ?_, fun j q => ?_, fun j y q => ?_⟩⟩
  · obtain ⟨h1, h2, h3⟩ := n.out a fa
    refine ⟨(hH a (fun z => st.notframed n (hS a z) fa) (h1 ▸ fa.1.1)).trans h1, h2, ?_⟩
    rw [labG_ne fun z => fT a z fa]; exact h3
  · by_cases z : a ∈ T
    · exact (hT a z).1
    · rw [labG_ne z] at h; exact st.lf a h
  · by_cases z : a ∈ T
    · exact hA a (hTa a z)
    · rw [labG_ne z] at h; exact hA a (st.la a h)
  · obtain ⟨h1, h2, h3⟩ := st.ro a h
    have zS : a ∉ S := fun z => by rw [hS a z] at h3; cases h3
    exact ⟨by rw [hH a zS h1.1]; exact h1, h2, by rw [labG_ne fun z => (hT a z).2.2 h]; exact h3⟩
  · unfold putAt; split <;> rw [List.length_set, st.len]
  · unfold putAt at q
    split at q
    all_goals
      rcases getset q with ⟨rfl, e⟩ | ⟨_, e⟩
      · cases e
      · exact st.d j y e
  · unfold putAt at q
    split at q
    · rcases getset q with ⟨rfl, e⟩ | ⟨ne, e⟩
      · cases e
      · obtain ⟨u, U, h1, h2, h3, h4⟩ := st.w j y e
        exact ⟨u, U, h1, oth (Ne.symm ne) h2 h4, h3, fun a h => by rw [labG_ne (ns a j (h4 a h))]; exact h4 a h⟩
    · rcases getset q with ⟨rfl, e⟩ | ⟨ne, e⟩
      · cases e
        exact ⟨v, S', hv, r, nd, hlab'⟩
      · obtain ⟨u, U, h1, h2, h3, h4⟩ := st.w j y e
        exact ⟨u, U, h1, oth (Ne.symm ne) h2 h4, h3, fun a h => by rw [labG_ne (ns a j (h4 a h))]; exact h4 a h⟩
  · unfold putAt at q
    split at q
    · rename_i ep
      rcases getset q with ⟨rfl, e⟩ | ⟨ne, e⟩
      · cases e
        obtain ⟨u, U, ⟨h1, h1'⟩, _⟩ := st.p _ _ ep
        rw [hv] at h1
        cases h1
        exact ⟨v, S', ⟨hv, h1'⟩, r, nd, hlab'⟩
      · obtain ⟨u, U, h1, h2, h3, h4⟩ := st.p j y e
        exact ⟨u, U, h1, oth (Ne.symm ne) h2 h4, h3, fun a h => by rw [labG_ne (ns a j (h4 a h))]; exact h4 a h⟩
    · rcases getset q with ⟨rfl, e⟩ | ⟨ne, e⟩
      · cases e
      · obtain ⟨u, U, h1, h2, h3, h4⟩ := st.p j y e
        exact ⟨u, U, h1, oth (Ne.symm ne) h2 h4, h3, fun a h => by rw [labG_ne (ns a j (h4 a h))]; exact h4 a h⟩
  · have e : sl[j]? = some (some (.k y)) := by
      unfold putAt at q
      split at q <;> (rcases getset q with ⟨rfl, e⟩ | ⟨ne, e⟩ <;> first | exact e | cases e)
    obtain ⟨u, U, h1, h2, h3, h4⟩ := st.k j y e
    exact ⟨u, U, h1, h2.mono (fun _ _ z => z) fun a z => hH a (fun z2 => by have := (st.ro a ⟨_, h4 a z⟩).2.2; rw [hS a z2] at this; cases this) (h2.keep a z).1, h3, h4⟩
  · have e : sl[j]? = some (some .h) := by
      unfold putAt at q
      split at q <;> (rcases getset q with ⟨rfl, e⟩ | ⟨ne, e⟩ <;> first | exact e | cases e)
    exact st.h j e
  · have e : sl[j]? = some (some (.x y)) := by
      unfold putAt at q
      split at q <;> (rcases getset q with ⟨rfl, e⟩ | ⟨ne, e⟩ <;> first | exact e | cases e)
    exact st.x j y e
/-- a new thing that never changes -/
theorem Sta.newF {p : Addr} {o : HO} (n : Nx g0 H0 g H) (st : Sta K g H σ sl) (h : H p = none) : Nx g0 H0 { g with F := upd g.F p o } (upd H p o) ∧ Sta K { g with F := upd g.F p o } (upd H p o) σ sl ∧ Ex g.F (upd g.F p o) := by
  have hp : g.F p = none := fresh_back st.ex h
  have ex : Ex g.F (upd g.F p o) := Ex.new hp
  have re : ∀ {v : V} {m : MV} {S : List Addr}, Rep K g.F H v m S → Rep K (upd g.F p o) (upd H p o) v m S := fun r => r.mono ex fun a z => upd_ne fun e => by subst e; exact (r.keep _ z).1 h
  have nf : ∀ {a : Addr}, Keep (H a) → a ≠ p := fun k e => by subst e; exact k.1 h
  refine ⟨⟨fun a u e => ex a u (n.ex a u e), n.pi, n.ro, fun a fa => ?_⟩, ⟨fun a u e => ?_, fun a q => ?_, fun a q => ?_, fun a q => ?_, st.len, fun j y q => ?_, fun j y q => ?_, fun j y q => ?_, fun j y q => ?_, fun j q => ?_, fun j y q => ?_⟩, ex⟩
  · obtain ⟨h1, h2, h3⟩ := n.out a fa
    have ne := nf (h1 ▸ fa.1)
    exact ⟨(upd_ne ne).trans h1, (upd_ne ne).trans h2, h3⟩
  · by_cases e2 : a = p
    · subst e2
      have e3 : upd g.F a o a = some u := e
      rw [upd_same] at e3 ⊢; exact e3
    · rw [upd_ne e2]
      have e3 : upd g.F p o a = some u := e
      rw [upd_ne e2] at e3
      exact st.ex a u e3
  · have ne : a ≠ p := fun e => by subst e; exact (st.la _ q).1 h
    exact (upd_ne ne).trans (st.lf a q)
  · have ne : a ≠ p := fun e => by subst e; exact (st.la _ q).1 h
    rw [upd_ne ne]; exact st.la a q
  · obtain ⟨h1, h2, h3⟩ := st.ro a q
    exact ⟨by rw [upd_ne (nf h1)]; exact h1, (upd_ne (nf h1)).trans h2, h3⟩
  · obtain ⟨v, h1, h2⟩ := st.d j y q
    exact ⟨v, h1, h2.mono ex⟩
  · obtain ⟨u, T, h1, h2, h3, h4⟩ := st.w j y q
    exact ⟨u, T, h1, re h2, h3, h4⟩
  · obtain ⟨u, T, h1, h2, h3, h4⟩ := st.p j y q
    exact ⟨u, T, h1, re h2, h3, h4⟩
  · obtain ⟨u, T, h1, h2, h3, h4⟩ := st.k j y q
    exact ⟨u, T, h1, re h2, h3, h4⟩
  · exact st.h j q
  · obtain ⟨a, vs, h1, h2, h3⟩ := st.x j y q
    exact ⟨a, vs, h1, ex_l ex h2, h3.mono ex⟩
/-- a new object that nobody holds yet -/
theorem Sta.newT {p : Addr} {o : HO} (n : Nx g0 H0 g H) (st : Sta K g H σ sl) (h : H p = none) : Nx g0 H0 g (upd H p o) ∧ Sta K g (upd H p o) σ sl ∧ g.F p = none ∧ g.lab p = none ∧ ¬ g.RO p ∧ ¬ Framed g0 H0 p := by
  have hp : g.F p = none := fresh_back st.ex h
  have re : ∀ {v : V} {m : MV} {S : List Addr}, Rep K g.F H v m S → Rep K g.F (upd H p o) v m S := fun r => r.mono (fun _ _ z => z) fun a z => upd_ne fun e => by subst e; exact (r.keep _ z).1 h
  have nf : ∀ {a : Addr}, Keep (H a) → a ≠ p := fun k e => by subst e; exact k.1 h
  refine ⟨⟨n.ex, n.pi, n.ro, fun a fa => ?_⟩, ⟨fun a u e => ?_, st.lf, fun a q => ?_, fun a q => ?_, st.len, st.d, fun j y q => ?_, fun j y q => ?_, fun j y q => ?_, st.h, st.x⟩, hp, ?_, fun q => (st.ro p q).1.1 h, fun q => ?_⟩
  · obtain ⟨h1, h2, h3⟩ := n.out a fa
    exact ⟨(upd_ne (nf (h1 ▸ fa.1))).trans h1, h2, h3⟩
  · rw [upd_ne fun z => by subst z; rw [hp] at e; cases e]; exact st.ex a u e
  · rw [upd_ne fun z => by subst z; exact (st.la _ q).1 h]; exact st.la a q
  · obtain ⟨h1, h2, h3⟩ := st.ro a q
    exact ⟨by rw [upd_ne (nf h1)]; exact h1, h2, h3⟩
  · obtain ⟨u, T, h1, h2, h3, h4⟩ := st.w j y q
    exact ⟨u, T, h1, re h2, h3, h4⟩
  · obtain ⟨u, T, h1, h2, h3, h4⟩ := st.p j y q
    exact ⟨u, T, h1, re h2, h3, h4⟩
  · obtain ⟨u, T, h1, h2, h3, h4⟩ := st.k j y q
    exact ⟨u, T, h1, re h2, h3, h4⟩
  · cases e : g.lab p with
    | none => rfl
    | some j => exact absurd h (st.la p (by rw [e]; exact fun z => nomatch z)).1
  · have := (n.out p q).1
    rw [h] at this
    exact q.1.1 this.symm
end
end Y

/-! Layer Y, part C: results, lifts, expressions. -/
namespace Y
open PySem PySem.Spec PyProof.Rows L2 Evl
abbrev XA := Value × Option (List (Str × D))
inductive Res (α : Type) where
  | ok (a : α) (s : SL) | ex (xa : XA) (s : SL)
abbrev AE := SL → Option (Res TV)
abbrev AT := SL → Option (Res Bool)
abbrev AA := SL → Option (Res (List TV))
inductive SR where
  | nx (s : SL) | rt (t : TV) (s : SL) | bk (s : SL) | ct (s : SL) | ex (xa : XA) (s : SL)
abbrev AS := SL → Option SR
def bd {α β : Type} (x : Option (Res α)) (f : α → SL → Option (Res β)) : Option (Res β) := match x with
  | some (.ok a s) => f a s
  | some (.ex xa s) => some (.ex xa s)
  | none => none
@[simp] theorem bd_ok {α β : Type} {a : α} {s : SL} {f : α → SL → Option (Res β)} : bd (some (.ok a s)) f = f a s := rfl
@[simp] theorem bd_ex {α β : Type} {a : XA} {s : SL} {f : α → SL → Option (Res β)} : bd (some (.ex a s)) f = some (.ex a s) := rfl
@[simp] theorem bd_none {α β : Type} {f : α → SL → Option (Res β)} : bd none f = none := rfl
/-- an exception that flies -/
def RX (K : PySem.W.Frag) (g : G) (cls : Value) (d : Option Addr) (H : Hp) (xa : XA) : Prop := cls = xa.1 ∧ match xa.2 with
  | none => d = none
  | some fs => ∃ a kvs, d = some a ∧ H a = some (.xd kvs) ∧ Paired (fun (p : Str × V) (q : Str × D) => p.1 = q.1 ∧ RD K g.F p.2 q.2) kvs fs
def Kx (K : PySem.W.Frag) (W : WX) (g0 : G) (H0 : Hp) (σ : L2.St) (xa : XA) (sl : SL) : Prop := ∀ g H cls d, Nx g0 H0 g H → Sta K g H σ sl → RX K g cls d H xa → W cls d σ H
/-- what is wanted of a result; R tells what stands for what -/
def Kg (K : PySem.W.Frag) {ω α : Type} (R : G → Hp → ω → α → List Addr → Prop) (σ : L2.St) (Q : ω → Hp → Prop) (g0 : G) (H0 : Hp) (a : α) (sl : SL) : Prop := ∀ g H v S, Nx g0 H0 g H → Sta K g H σ sl → R g H v a S → Fresh g0 H0 S → Q v H
def EK (K : PySem.W.Frag) {ω α : Type} (R : G → Hp → ω → α → List Addr → Prop) (W : WX) (σ : L2.St) (Q : ω → Hp → Prop) (g0 : G) (H0 : Hp) : Res α → Prop
  | .ok a sl => Kg K R σ Q g0 H0 a sl
  | .ex xa sl => Kx K W g0 H0 σ xa sl
def lft (K : PySem.W.Frag) {ω α : Type} (R : L2.St → G → Hp → ω → α → List Addr → Prop) (W : WX) (A : SL → Option (Res α)) : L2.St → Hp → (ω → Hp → Prop) → Prop :=
  fun σ H Q => ∃ g sl r, Sta K g H σ sl ∧ A sl = some r ∧ EK K (R σ) W σ Q g H r
inductive RTVs (K : PySem.W.Frag) (g : G) (H : Hp) (σ : L2.St) : List V → List TV → List Addr → Prop
  | nil : RTVs K g H σ [] [] []
  | cons {v : V} {vs : List V} {t : TV} {ts : List TV} {S T : List Addr} : RTV K g H σ v t S → RTVs K g H σ vs ts T → (∀ a ∈ S, a ∉ T) → RTVs K g H σ (v :: vs) (t :: ts) (S ++ T)
abbrev RV (K : PySem.W.Frag) : L2.St → G → Hp → V → TV → List Addr → Prop := fun σ g H v t S => RTV K g H σ v t S
abbrev RB : L2.St → G → Hp → Bool → Bool → List Addr → Prop := fun _ _ _ a b S => a = b ∧ S = []
abbrev RL (K : PySem.W.Frag) : L2.St → G → Hp → List V → List TV → List Addr → Prop := fun σ g H v t S => RTVs K g H σ v t S
abbrev eL (K : PySem.W.Frag) (W : WX) (A : AE) : TE := lft K (RV K) W A
abbrev tL (K : PySem.W.Frag) (W : WX) (A : AT) : TT := lft K RB W A
abbrev aL (K : PySem.W.Frag) (W : WX) (A : AA) : TA := lft K (RL K) W A
section
variable {K : PySem.W.Frag} {W : WX} {g g0 g1 g' : G} {H H0 H1 H' : Hp} {σ : L2.St} {sl sl' : SL}
theorem Kx.mono {xa : XA} (k : Kx K W g H σ xa sl) (n : Nx g H g1 H1) : Kx K W g1 H1 σ xa sl := fun g2 H2 cls d m => k g2 H2 cls d (n.trans m)
section
variable {ω α β : Type} {R : L2.St → G → Hp → ω → α → List Addr → Prop}
theorem Kg.mono {R : G → Hp → ω → α → List Addr → Prop} {Q : ω → Hp → Prop} {a : α} (k : Kg K R σ Q g H a sl) (n : Nx g H g1 H1) (hf : ∀ g2 H2 v S, R g2 H2 v a S → Fresh g1 H1 S → Fresh g H S := fun _ _ _ _ _ f => Fresh.back n f) : Kg K R σ Q g1 H1 a sl := fun g2 H2 v S m st r f => k g2 H2 v S (n.trans m) st r (hf g2 H2 v S r f)
theorem EK.mono {R : G → Hp → ω → α → List Addr → Prop} {Q : ω → Hp → Prop} {r : Res α} (n : Nx g H g1 H1) (k : EK K R W σ Q g H r) : EK K R W σ Q g1 H1 r := by
  cases r with
  | ok a s => exact Kg.mono k n
  | ex xa s => exact Kx.mono k n
theorem EK.x {R : G → Hp → ω → α → List Addr → Prop} {Q : ω → Hp → Prop} {r : Res α} (k : EK K R W σ Q g H r) : ∀ xa s, r = .ex xa s → Kx K W g H σ xa s := fun xa s e => by subst e; exact k
theorem run1 {A : SL → Option (Res α)} {f : α → SL → Option (Res β)} {r : Res β} {Q : ω → Hp → Prop} (st : Sta K g H σ sl) (h : bd (A sl) f = some r) (hx : ∀ xa s, r = .ex xa s → Kx K W g H σ xa s)
    (hk : ∀ a s1 g1 H1 v S, f a s1 = some r → Nx g H g1 H1 → Sta K g1 H1 σ s1 → R σ g1 H1 v a S → Fresh g H S → Q v H1) : lft K R W A σ H Q := by
  unfold bd at h
  split at h
  · rename_i a s e
    exact ⟨g, sl, _, st, e, fun g1 H1 v S n st1 r f => hk a s g1 H1 v S h n st1 r f⟩
  · rename_i xa s e
    cases h
    exact ⟨g, sl, _, st, e, hx xa s rfl⟩
  · cases h
end
theorem hxm {α : Type} {r : Res α} (h : ∀ xa s, r = .ex xa s → Kx K W g H σ xa s) (n : Nx g H g1 H1) : ∀ xa s, r = .ex xa s → Kx K W g1 H1 σ xa s := fun xa s e => (h xa s e).mono n
/-! ends of readings -/
theorem Kg.scal {Q : VK} {x : D} {v : V} (k : Kg K (RV K σ) σ Q g0 H0 (.d x) sl) (n : Nx g0 H0 g H) (st : Sta K g H σ sl) (r : RD K g.F v x) : Q v H := k g H v [] n st ⟨rfl, r⟩ (Fresh.nil _ _)
theorem Kg.newT {Q : VK} {ds : List D} {vs : List V} (k : Kg K (RV K σ) σ Q g0 H0 (.d (.tuple ds)) sl) (n : Nx g0 H0 g H) (st : Sta K g H σ sl) (r : RDs K g.F vs ds) {p : Addr} (hp : H p = none) : Q (.ref p) (upd H p (.tup vs)) := by
  obtain ⟨n', st', ex⟩ := st.newF (o := .tup vs) n hp
  exact k _ _ _ [] n' st' ⟨rfl, .tup upd_same (r.mono ex)⟩ (Fresh.nil _ _)
theorem Kg.newM {Q : VK} {ms : List MV} {vs : List V} {S : List Addr} (k : Kg K (RV K σ) σ Q g0 H0 (.t (.lst ms)) sl) (n : Nx g0 H0 g H) (st : Sta K g H σ sl) (r : Reps K g.F H vs ms S) (nd : S.Nodup) (hS : ∀ a ∈ S, g.F a = none ∧ g.lab a = none ∧ ¬ g.RO a) (f : Fresh g0 H0 S) {p : Addr} (hp : H p = none) : Q (.ref p) (upd H p (.lst vs)) := by
  obtain ⟨n', st', h1, h2, h3, h4⟩ := st.newT (o := .lst vs) n hp
  have np : ∀ a ∈ S, a ≠ p := fun a z e => by subst e; exact (r.keep _ z).1 hp
  refine k _ _ _ (p :: S) n' st' ⟨.lst upd_same (r.mono (fun _ _ z => z) fun a z => upd_ne (np a z)), List.nodup_cons.mpr ⟨fun z => np p z rfl, nd⟩, fun a z => ?_⟩ fun a z => ?_
  · rcases List.mem_cons.mp z with e | e
    · subst e; exact ⟨h1, h2, h3⟩
    · exact hS a e
  · rcases List.mem_cons.mp z with e | e
    · subst e; exact h4
    · exact f a e
theorem Kg.newL {Q : VK} {ds : List D} {vs : List V} (k : Kg K (RV K σ) σ Q g0 H0 (.t (.lst (ds.map MV.d))) sl) (n : Nx g0 H0 g H) (st : Sta K g H σ sl) (r : RDs K g.F vs ds) {p : Addr} (hp : H p = none) : Q (.ref p) (upd H p (.lst vs)) :=
  k.newM n st (RDs.reps r) List.nodup_nil (fun _ h => nomatch h) (Fresh.nil _ _) hp
end
theorem PEm {X : Cx} {e : Expr} {t t' : TE} (h : PE X e t) (k : ∀ σ H Q, t' σ H Q → t σ H Q) : PE X e t' := ⟨fun pins s σ H Q I q => h.run pins s σ H Q I (k σ H Q q)⟩
theorem PTm {X : Cx} {e : Expr} {t t' : TT} (h : PT X e t) (k : ∀ σ H Q, t' σ H Q → t σ H Q) : PT X e t' := ⟨fun pins s σ H Q I q => h.run pins s σ H Q I (k σ H Q q)⟩
theorem PWm {X : Cx} {e : Expr} {t t' : TT} (h : PW X e t) (k : ∀ σ H Q, t' σ H Q → t σ H Q) : PW X e t' := ⟨fun wh pins s σ H Q I q => h.run wh pins s σ H Q I (k σ H Q q)⟩
theorem PAm {X : Cx} {e : List Expr} {t t' : TA} (h : PA X e t) (k : ∀ σ H Q, t' σ H Q → t σ H Q) : PA X e t' := ⟨fun po pins s σ H Q I q => h.run po pins s σ H Q I (k σ H Q q)⟩
theorem PSm {X : Cx} {e : Stmt} {t t' : TS} (h : PS X e t) (k : ∀ D σ H, t' D σ H → t D σ H) : PS X e t' := ⟨fun pins s σ H D I q => h.run pins s σ H D I (k D σ H q)⟩
theorem PSsm {X : Cx} {e : List Stmt} {t t' : TS} (h : PSs X e t) (k : ∀ D σ H, t' D σ H → t D σ H) : PSs X e t' := ⟨fun pins s σ H D I q => h.run pins s σ H D I (k D σ H q)⟩
theorem PIm {X : Cx} {tg e : Expr} {t t' : TI} (h : PI X tg e t) (k : ∀ σ H Q, t' σ H Q → t σ H Q) : PI X tg e t' := ⟨fun pins s σ H Q I q => h.run pins s σ H Q I (k σ H Q q)⟩
/-! ### views -/
def vw (sl : SL) : TV → Option MV
  | .d x => some (.d x)
  | .t m => some m
  | .var i => match sl[i]? with
    | some (some (.d x)) => some (.d x)
    | some (some (.w m)) => some m
    | some (some (.p m)) => some m
    | some (some (.k m)) => some m
    | _ => none
  | .x _ => none
  | .c _ => none
  | .sub _ _ _ _ => none
def lvs : List MV → Option (List D)
  | [] => some []
  | .d x :: r => (lvs r).map (x :: ·)
  | _ :: _ => none
@[simp] theorem lvs_map : ∀ ds : List D, lvs (ds.map MV.d) = some ds
  | [] => rfl
  | x :: r => by
    show (lvs (r.map MV.d)).map (x :: ·) = some (x :: r)
    rw [lvs_map r]; rfl
theorem lvs_eq : ∀ {ms : List MV} {ds : List D}, lvs ms = some ds → ms = ds.map MV.d
  | [], ds, h => by cases h; rfl
  | .d x :: r, ds, h => by
    have h' : (lvs r).map (x :: ·) = some ds := h
    obtain ⟨es, e1, rfl⟩ := Option.map_eq_some_iff.mp h'
    rw [List.map_cons, ← lvs_eq e1]
  | .lst _ :: _, _, h => by cases h
  | .dK _ :: _, _, h => by cases h
  | .dT _ :: _, _, h => by cases h
/-- a list's items; of the outside one too -/
def seqL (sl : SL) : TV → Option (List MV)
  | .x ds => some (ds.map MV.d)
  | tv => match vw sl tv with
    | some (.d (.list ds)) => some (ds.map MV.d)
    | some (.lst ms) => some ms
    | _ => none
def seqM (sl : SL) (tv : TV) : Option (List MV) := match vw sl tv with
  | some (.d (.list ds)) => some (ds.map MV.d)
  | some (.lst ms) => some ms
  | _ => none
def seqTd (sl : SL) (tv : TV) : Option (List D) := match vw sl tv with
  | some (.d (.tuple ds)) => some ds
  | _ => none
/-- a tuple's items; of the module's one too -/
def seqT (sl : SL) : TV → Option (List D)
  | .c ds => some ds
  | tv => seqTd sl tv
def asD (sl : SL) : TV → Option D
  | .x ds => some (.list ds)
  | .c ds => some (.tuple ds)
  | tv => (vw sl tv).bind frz
/-- the items as data, of a list or a tuple -/
def itemsD (sl : SL) (tv : TV) : Option (List D) := match seqT sl tv with
  | some ds => some ds
  | none => (seqL sl tv).bind lvs
section
variable {K : PySem.W.Frag} {g : G} {H : Hp} {σ : L2.St} {sl : SL} {v : V} {tv : TV} {S : List Addr}
theorem vw_ok {m : MV} (st : Sta K g H σ sl) (r : RTV K g H σ v tv S) (h : vw sl tv = some m) : ∃ T, Rep K g.F H v m T := by
  cases tv with
  | d x => cases h; exact ⟨[], .d r.2⟩
  | t m => cases h; exact ⟨S, r.1⟩
  | x ds => cases h
  | c ds => cases h
  | sub p i j m => cases h
  | var i =>
    obtain ⟨_, hv⟩ := r
    unfold vw at h
    dsimp only at h
    split at h
    · rename_i e; cases h
      obtain ⟨u, h1, h2⟩ := st.d i _ e
      rw [hv] at h1; cases h1
      exact ⟨[], .d h2⟩
    · rename_i e; cases h
      obtain ⟨u, U, h1, h2, _⟩ := st.w i _ e
      rw [hv] at h1; cases h1
      exact ⟨U, h2⟩
    · rename_i e; cases h
      obtain ⟨u, U, ⟨h1, _⟩, h2, _⟩ := st.p i _ e
      rw [hv] at h1; cases h1
      exact ⟨U, h2⟩
    · rename_i e; cases h
      obtain ⟨u, U, ⟨h1, _⟩, h2, _⟩ := st.k i _ e
      rw [hv] at h1; cases h1
      exact ⟨U, h2⟩
    · cases h
theorem seqM_ok {ms : List MV} (st : Sta K g H σ sl) (r : RTV K g H σ v tv S) (h : seqM sl tv = some ms) : ∃ a vs T, v = .ref a ∧ H a = some (.lst vs) ∧ Reps K g.F H vs ms T := by
  unfold seqM at h
  split at h
  · rename_i ds e
    cases h
    obtain ⟨T, q⟩ := vw_ok st r e
    cases q with
    | d q => cases q with
      | lst h1 h2 => exact ⟨_, _, _, rfl, st.ex _ _ h1, RDs.reps h2⟩
  · rename_i ds e
    cases h
    obtain ⟨T, q⟩ := vw_ok st r e
    cases q with
    | lst h1 h2 => exact ⟨_, _, _, rfl, h1, h2⟩
  · cases h
theorem seqL_ok {ms : List MV} (st : Sta K g H σ sl) (r : RTV K g H σ v tv S) (h : seqL sl tv = some ms) : ∃ a vs T, v = .ref a ∧ SqL K H a vs ∧ Reps K g.F H vs ms T := by
  have base : seqM sl tv = some ms → ∃ a vs T, v = .ref a ∧ SqL K H a vs ∧ Reps K g.F H vs ms T := fun h => by
    obtain ⟨a, vs, T, h1, h2, h3⟩ := seqM_ok st r h
    exact ⟨a, vs, T, h1, SqL.of h2, h3⟩
  cases tv with
  | x ds =>
    cases h
    obtain ⟨_, a, vs, rfl, h2, h3⟩ := r
    exact ⟨a, vs, _, rfl, ex_l st.ex h2, RDs.reps h3⟩
  | c ds => exact base h
  | d x => exact base h
  | t m => exact base h
  | var i => exact base h
  | sub p i j m => exact base h
theorem seqT_rd {ds : List D} (st : Sta K g H σ sl) (r : RTV K g H σ v tv S) (h : seqTd sl tv = some ds) : RD K g.F v (.tuple ds) := by
  unfold seqTd at h
  split at h
  · rename_i ds e
    cases h
    obtain ⟨T, q⟩ := vw_ok st r e
    cases q with
    | d q => exact q
  · cases h
theorem seqTd_ok {ds : List D} (st : Sta K g H σ sl) (r : RTV K g H σ v tv S) (h : seqTd sl tv = some ds) : ∃ a vs, v = .ref a ∧ SqT K H a vs ∧ RDs K g.F vs ds := by
  cases seqT_rd st r h with
  | tup h1 h2 => exact ⟨_, _, rfl, SqT.of (st.ex _ _ h1), h2⟩
theorem seqT_ok {ds : List D} (st : Sta K g H σ sl) (r : RTV K g H σ v tv S) (h : seqT sl tv = some ds) : ∃ a vs, v = .ref a ∧ SqT K H a vs ∧ RDs K g.F vs ds := by
  cases tv with
  | c es =>
    cases h
    obtain ⟨_, a, vs, rfl, h2, h3⟩ := r
    exact ⟨a, vs, rfl, ex_t st.ex h2, h3⟩
  | d x => exact seqTd_ok st r h
  | t x => exact seqTd_ok st r h
  | var x => exact seqTd_ok st r h
  | x x => exact seqTd_ok st r h
  | sub p i j m => exact seqTd_ok st r h
theorem asD_ok {x : D} (st : Sta K g H σ sl) (r : RTV K g H σ v tv S) (h : asD sl tv = some x) : Dp K H v x := by
  have base : (vw sl tv).bind frz = some x → Dp K H v x := fun h => by
    obtain ⟨m, h1, h2⟩ := Option.bind_eq_some_iff.mp h
    obtain ⟨T, q⟩ := vw_ok st r h1
    exact q.dp st.ex h2
  cases tv with
  | x ds =>
    cases h
    obtain ⟨_, a, vs, rfl, h2, h3⟩ := r
    exact .lst (ex_l st.ex h2) (dpa_mono st.ex (RDs.dp h3))
  | c ds =>
    cases h
    obtain ⟨_, a, vs, rfl, h2, h3⟩ := r
    exact .tup (ex_t st.ex h2) (dpa_mono st.ex (RDs.dp h3))
  | d x => exact base h
  | t m => exact base h
  | var i => exact base h
  | sub p i j m => exact base h
theorem itemsD_ok {ds : List D} (st : Sta K g H σ sl) (r : RTV K g H σ v tv S) (h : itemsD sl tv = some ds) : ∃ a vs, v = .ref a ∧ (SqL K H a vs ∨ SqT K H a vs) ∧ RDs K g.F vs ds := by
  unfold itemsD at h
  split at h
  · rename_i xs e
    cases h
    obtain ⟨a, vs, e1, h1, h2⟩ := seqT_ok st r e
    exact ⟨a, vs, e1, .inr h1, h2⟩
  · obtain ⟨ms, h1, h2⟩ := Option.bind_eq_some_iff.mp h
    obtain ⟨a, vs, T, e1, h3, h4⟩ := seqL_ok st r h1
    rw [lvs_eq h2] at h4
    exact ⟨a, vs, e1, .inl h3, h4.leaves.2⟩
/-! a tree in hand, put back -/
def bk (sl : SL) (p : Bool) (i : Nat) (m : MV) : SL := sl.set i (some (if p = true then .p m else .w m))
theorem Sta.toP {m : MV} {i : Nat} (st : Sta K g H σ sl) (h : sl[i]? = some (some (.w m))) (hv : ∀ u, σ[i]? = some (some u) → g.π i = some u) : Sta K g H σ (sl.set i (some (.p m))) := by
  refine ⟨st.ex, st.lf, st.la, st.ro, by rw [List.length_set, st.len], fun j y q => ?_, fun j y q => ?_, fun j y q => ?_, fun j y q => ?_, fun j q => ?_, fun j y q => ?_⟩
  · rcases getset q with ⟨_, q⟩ | ⟨_, q⟩
    · cases q
    · exact st.d j y q
  · rcases getset q with ⟨_, q⟩ | ⟨_, q⟩
    · cases q
    · exact st.w j y q
  · rcases getset q with ⟨e, q2⟩ | ⟨_, q⟩
    · subst e
      cases q2
      obtain ⟨u, S, h1, h2⟩ := st.w _ _ h
      exact ⟨u, S, ⟨h1, hv u h1⟩, h2⟩
    · exact st.p j y q
  · rcases getset q with ⟨_, q⟩ | ⟨_, q⟩
    · cases q
    · exact st.k j y q
  · rcases getset q with ⟨_, q⟩ | ⟨_, q⟩
    · cases q
    · exact st.h j q
  · rcases getset q with ⟨_, q⟩ | ⟨_, q⟩
    · cases q
    · exact st.x j y q
theorem Sta.back {p : Bool} {i : Nat} {m : MV} {v0 : V} {g0 : G} {H0 : Hp} (n : Nx g0 H0 g H) (f : Fresh g0 H0 S) (st : Sta K g H σ sl) (hv : σ[i]? = some (some v0)) (hp : p = true → g.π i = some v0) (r : RTV K g H σ v0 (.t m) S) :
    Nx g0 H0 (labG g S i) H ∧ Sta K (labG g S i) H σ (bk sl p i m) := by
  obtain ⟨n1, st1⟩ := st.setW n f r (i := i)
  rw [set_set hv] at st1
  refine ⟨n1, ?_⟩
  unfold bk
  cases p with
  | false => exact st1
  | true =>
    have hi : i < sl.length := by rw [← st.len]; exact (List.getElem?_eq_some_iff.mp hv).1
    have := st1.toP (i := i) (m := m) (List.getElem?_set_self hi) fun u hu => by rw [hv] at hu; cases hu; exact hp rfl
    rw [List.set_set] at this
    exact this
theorem RTV.lab {u : V} {tu : TV} {U : List Addr} {i : Nat} (q : RTV K g H σ u tu U) (ap : ∀ a ∈ S, a ∉ U) : RTV K (labG g S i) H σ u tu U := by
  cases tu with
  | d y => exact q
  | var j => exact q
  | x ds => exact q
  | c ds => exact q
  | t m => exact ⟨q.1, q.2.1, fun a z => ⟨(q.2.2 a z).1, by rw [labG_ne fun z2 => ap a z2 z]; exact (q.2.2 a z).2.1, (q.2.2 a z).2.2⟩⟩
  | sub p i j m =>
    obtain ⟨v0, e, q, kv⟩ := q
    exact ⟨v0, e, ⟨q.1, q.2.1, fun a z => ⟨(q.2.2 a z).1, by rw [labG_ne fun z2 => ap a z2 z]; exact (q.2.2 a z).2.1, (q.2.2 a z).2.2⟩⟩, kv⟩
theorem RTV.frzK {u : V} {tu : TV} {U : List Addr} {S' : List Addr} (hF : ∀ a ∈ S', g.F a = none) (q : RTV K g H σ u tu U) (ap : ∀ a ∈ S', a ∉ U) : RTV K (frzG g H S') H σ u tu U := by
  have ex := frzG_ex (H := H) hF
  cases tu with
  | d y => exact ⟨q.1, q.2.mono ex⟩
  | var j => exact q
  | x ds => obtain ⟨e, a, vs, h1, h2, h3⟩ := q; exact ⟨e, a, vs, h1, ex_l ex h2, h3.mono ex⟩
  | c ds => obtain ⟨e, a, vs, h1, h2, h3⟩ := q; exact ⟨e, a, vs, h1, ex_t ex h2, h3.mono ex⟩
  | t m => exact ⟨q.1.mono ex fun _ _ => rfl, q.2.1, fun a z => ⟨by rw [frzG_F fun z2 => ap a z2 z]; exact (q.2.2 a z).1, by rw [frzG_lab fun z2 => ap a z2 z]; exact (q.2.2 a z).2.1, (q.2.2 a z).2.2⟩⟩
  | sub p i j m =>
    obtain ⟨v0, e, q, kv⟩ := q
    exact ⟨v0, e, ⟨q.1.mono ex fun _ _ => rfl, q.2.1, fun a z => ⟨by rw [frzG_F fun z2 => ap a z2 z]; exact (q.2.2 a z).1, by rw [frzG_lab fun z2 => ap a z2 z]; exact (q.2.2 a z).2.1, (q.2.2 a z).2.2⟩⟩, kv⟩
/-- a child frozen where it stands -/
theorem Sta.frzKid {p : Bool} {i j : Nat} {m c : MV} {x : D} {g0 : G} {H0 : Hp} (n : Nx g0 H0 g H) (f : Fresh g0 H0 S) (st : Sta K g H σ sl) (r : RTV K g H σ v (.sub p i j m) S) (h1 : kid m j = some c) (h2 : frz c = some x) :
    ∃ g', Nx g0 H0 g' H ∧ Sta K g' H σ (bk sl p i (setKid m j (.d x))) ∧ RD K g'.F v x ∧ (∀ u tu U, RTV K g H σ u tu U → (∀ a ∈ S, a ∉ U) → RTV K g' H σ u tu U) ∧ Ex g.F g'.F := by
  obtain ⟨v0, ⟨hv, hp⟩, rr, kv, _⟩ := r
  obtain ⟨v1, P, T, B, k1, k2, k3, k4⟩ := rr.1.kid h1
  obtain rfl := k1.inj kv
  subst k3
  have hF : ∀ a ∈ T, g.F a = none := fun a z => (rr.2.2 a (List.mem_append_right _ (List.mem_append_left _ z))).1
  have ex := frzG_ex (H := H) hF
  obtain ⟨n1, st1⟩ := st.frzS n (fun a z => f a (List.mem_append_right _ (List.mem_append_left _ z))) hF (fun a z => (rr.2.2 a (List.mem_append_right _ (List.mem_append_left _ z))).2.2) fun j y _ a z h => by
    rw [(rr.2.2 a (List.mem_append_right _ (List.mem_append_left _ z))).2.1] at h; cases h
  have rx : RD K (frzG g H T).F v1 x := k2.frz ex h2 fun a z => frzG_in z
  obtain ⟨r0, _⟩ := k4 (frzG g H T).F H (.d x) [] ex (fun _ _ => rfl) (.d rx)
  rw [List.nil_append] at r0
  have nd := List.nodup_append.mp rr.2.1
  have nd2 := List.nodup_append.mp nd.2.1
  have nT : ∀ a ∈ P ++ B, a ∉ T := fun a z z2 => by
    rcases List.mem_append.mp z with z | z
    · exact nd.2.2 a z a (List.mem_append_left _ z2) rfl
    · exact nd2.2.2 a z2 a z rfl
  have sub : ∀ a ∈ P ++ B, a ∈ P ++ (T ++ B) := fun a z => by
    rcases List.mem_append.mp z with z | z
    · exact List.mem_append_left _ z
    · exact List.mem_append_right _ (List.mem_append_right _ z)
  have rt : RTV K (frzG g H T) H σ v0 (.t (setKid m j (.d x))) (P ++ B) := ⟨r0, List.nodup_append.mpr ⟨nd.1, nd2.2.1, fun a z b z2 => nd.2.2 a z b (List.mem_append_right _ z2)⟩, fun a z => ⟨by rw [frzG_F (nT a z)]; exact (rr.2.2 a (sub a z)).1, by rw [frzG_lab (nT a z)]; exact (rr.2.2 a (sub a z)).2.1, (rr.2.2 a (sub a z)).2.2⟩⟩
  obtain ⟨n2, st2⟩ := st1.back n1 (fun a z => f a (sub a z)) hv hp rt
  refine ⟨_, n2, st2, rx, fun u tu U q ap => ?_, ex⟩
  exact RTV.lab (RTV.frzK hF q fun a z => ap a (List.mem_append_right _ (List.mem_append_left _ z))) fun a z => ap a (sub a z)
/-- a value as data, frozen where it must be -/
def fz (sl : SL) : TV → Option (D × SL)
  | .d x => some (x, sl)
  | .t m => (frz m).map fun x => (x, sl)
  | .var i => match sl[i]? with
    | some (some (.d x)) => some (x, sl)
    | _ => (wAt sl i).bind fun m => (frz m).map fun x => (x, sl.set i (some (.d x)))
  | .x _ => none
  | .c _ => none
  | .sub p i j m => (kid m j).bind fun c => (frz c).map fun x => (x, bk sl p i (setKid m j (.d x)))
theorem fz_ok {x : D} {sl' : SL} {g0 : G} {H0 : Hp} (n : Nx g0 H0 g H) (f : Fresh g0 H0 S) (st : Sta K g H σ sl) (r : RTV K g H σ v tv S) (h : fz sl tv = some (x, sl')) : ∃ g', Nx g0 H0 g' H ∧ Sta K g' H σ sl' ∧ RD K g'.F v x := by
  cases tv with
  | d y => cases h; exact ⟨g, n, st, r.2⟩
  | t m =>
    obtain ⟨y, h1, h2⟩ := Option.map_eq_some_iff.mp (show (frz m).map (fun x => (x, sl)) = some (x, sl') from h)
    cases h2
    obtain ⟨n', st', q⟩ := st.frzT n f r h1
    exact ⟨_, n', st', q⟩
  | x ds => cases h
  | c ds => cases h
  | sub p i j m =>
      obtain ⟨c, h1, h2⟩ := Option.bind_eq_some_iff.mp (show (kid m j).bind (fun c => (frz c).map fun x => (x, bk sl p i (setKid m j (.d x)))) = some (x, sl') from h)
      obtain ⟨y, h3, h4⟩ := Option.map_eq_some_iff.mp h2
      cases h4
      obtain ⟨g', n', st', q, _⟩ := st.frzKid n f r h1 h3
      exact ⟨g', n', st', q⟩
  | var i =>
    obtain ⟨_, hv⟩ := r
    unfold fz at h
    dsimp only at h
    split at h
    · rename_i e; cases h
      obtain ⟨u, h1, h2⟩ := st.d i _ e
      rw [hv] at h1; cases h1
      exact ⟨g, n, st, h2⟩
    · obtain ⟨m, h1, h2⟩ := Option.bind_eq_some_iff.mp h
      obtain ⟨y, h3, h4⟩ := Option.map_eq_some_iff.mp h2
      cases h4
      obtain ⟨g', u, n', st', h5, h6⟩ := st.frzV n h1 h3
      rw [hv] at h5; cases h5
      exact ⟨g', n', st', h6⟩
/-- what a frozen value leaves of other pending ones -/
theorem fz_keep {x : D} {sl' : SL} {g0 : G} {H0 : Hp} (n : Nx g0 H0 g H) (f : Fresh g0 H0 S) (st : Sta K g H σ sl) (r : RTV K g H σ v tv S) (h : fz sl tv = some (x, sl')) :
    ∃ g', Nx g0 H0 g' H ∧ Sta K g' H σ sl' ∧ RD K g'.F v x ∧ (∀ u tu T, RTV K g H σ u tu T → (∀ a ∈ S, a ∉ T) → RTV K g' H σ u tu T) ∧ Ex g.F g'.F := by
  have gen : ∀ (S' : List Addr), (∀ a ∈ S', g.F a = none) → ∀ u tu T, RTV K g H σ u tu T → (∀ a ∈ S', a ∉ T) → RTV K (frzG g H S') H σ u tu T := fun S' hF u tu T q ap => RTV.frzK hF q ap
  cases tv with
  | d y => cases h; exact ⟨g, n, st, r.2, fun u tu T q _ => q, fun _ _ z => z⟩
  | t m =>
    obtain ⟨y, h1, h2⟩ := Option.map_eq_some_iff.mp (show (frz m).map (fun x => (x, sl)) = some (x, sl') from h)
    cases h2
    obtain ⟨n', st', q⟩ := st.frzT n f r h1
    exact ⟨_, n', st', q, gen S fun a z => (r.2.2 a z).1, frzG_ex fun a z => (r.2.2 a z).1⟩
  | x ds => cases h
  | c ds => cases h
  | sub p i j m =>
      obtain ⟨c, h1, h2⟩ := Option.bind_eq_some_iff.mp (show (kid m j).bind (fun c => (frz c).map fun x => (x, bk sl p i (setKid m j (.d x)))) = some (x, sl') from h)
      obtain ⟨y, h3, h4⟩ := Option.map_eq_some_iff.mp h2
      cases h4
      exact st.frzKid n f r h1 h3
  | var i =>
    obtain ⟨_, hv⟩ := r
    unfold fz at h
    dsimp only at h
    split at h
    · rename_i e; cases h
      obtain ⟨u, h1, h2⟩ := st.d i _ e
      rw [hv] at h1; cases h1
      exact ⟨g, n, st, h2, fun u tu T q _ => q, fun _ _ z => z⟩
    · obtain ⟨m, h1, h2⟩ := Option.bind_eq_some_iff.mp h
      obtain ⟨y, h3, h4⟩ := Option.map_eq_some_iff.mp h2
      cases h4
      obtain ⟨u, S', k1, k2, k3, k4⟩ := st.own h1
      have hF : ∀ a ∈ S', g.F a = none := fun a z => st.lf a (by rw [k4 a z]; exact fun z => nomatch z)
      rw [hv] at k1; cases k1
      have st1 : Sta K g H σ (sl.set i none) := st.forget
      obtain ⟨n', st'⟩ := st1.frzS n (fun a z => st.notframed n (k4 a z)) hF (fun a z q => by have := (st.ro a q).2.2; rw [k4 a z] at this; cases this) fun j y q a z h => by
        have ei : i = j := by rw [k4 a z] at h; exact Option.some.inj h
        subst ei
        rcases q with q | q <;> (rcases getset q with ⟨_, q⟩ | ⟨q, _⟩ <;> first | exact absurd rfl q | cases q)
      have r' : RD K (frzG g H S').F v x := k2.frz (frzG_ex hF) h3 fun a z => frzG_in z
      have st2 := st'.setD (i := i) r'
      rw [List.set_set, set_set hv] at st2
      refine ⟨_, n', st2, r', fun u tu T q _ => gen S' hF u tu T q fun a z z2 => ?_, frzG_ex hF⟩
      cases tu with
      | d y => rw [q.1] at z2; cases z2
      | var j => rw [q.1] at z2; cases z2
      | x j => rw [q.1] at z2; cases z2
      | c j => rw [q.1] at z2; cases z2
      | t m => have := (q.2.2 a z2).2.1; rw [k4 a z] at this; cases this
      | sub p i j m => obtain ⟨v0, e, q, kv⟩ := q; have := (q.2.2 a z2).2.1; rw [k4 a z] at this; cases this
end
end Y

/-! Layer Y, part D: expressions. -/
namespace Y
open PySem PySem.Spec PyProof.Rows L2 Evl
def aVar (i : Nat) : AE := fun s => match s[i]? with
  | some (some (.d x)) => some (.ok (.d x) s)
  | some (some (.x ds)) => some (.ok (.x ds) s)
  | some (some (.w _)) => some (.ok (.var i) s)
  | some (some (.p _)) => some (.ok (.var i) s)
  | some (some (.k _)) => some (.ok (.var i) s)
  | _ => none
def aC (x : D) : AE := fun s => some (.ok (.d x) s)
section
variable {X : Cx} {W : WX} {pos : Pos}
theorem e_var {i : Nat} {x : Str} (hN : X.N[i]? = some x) (hv : Vis X.env.scope x) (hd : (x == ("__debug__" : Str)) = false := by decide) (hcd : (x == ("__classdict__" : Str)) = false := by decide) : PE X (.Name x pos) (eL X.K W (aVar i)) :=
  PEm (pe_var hN hv hd hcd) fun σ H Q ⟨g, sl, r, st, e, k⟩ => by
    unfold aVar at e
    split at e
    · rename_i e2; cases e
      obtain ⟨v, h1, h2⟩ := st.d i _ e2
      exact ⟨v, h1, k _ _ _ [] (Nx.refl _ _) st ⟨rfl, h2⟩ (Fresh.nil _ _)⟩
    · rename_i e2; cases e
      obtain ⟨a, vs, h1, h2, h3⟩ := st.x i _ e2
      exact ⟨_, h1, k _ _ _ [] (Nx.refl _ _) st ⟨rfl, a, vs, rfl, h2, h3⟩ (Fresh.nil _ _)⟩
    · rename_i e2; cases e
      obtain ⟨v, S, h1, _⟩ := st.w i _ e2
      exact ⟨v, h1, k _ _ _ [] (Nx.refl _ _) st ⟨rfl, h1⟩ (Fresh.nil _ _)⟩
    · rename_i e2; cases e
      obtain ⟨v, S, ⟨h1, _⟩, _⟩ := st.p i _ e2
      exact ⟨v, h1, k _ _ _ [] (Nx.refl _ _) st ⟨rfl, h1⟩ (Fresh.nil _ _)⟩
    · rename_i e2; cases e
      obtain ⟨v, S, ⟨h1, _⟩, _⟩ := st.k i _ e2
      exact ⟨v, h1, k _ _ _ [] (Nx.refl _ _) st ⟨rfl, h1⟩ (Fresh.nil _ _)⟩
    · cases e
theorem e_const {e : Expr} {v : V} {x : D} (h : PE X e (tC v)) (r : ∀ F, RD X.K F v x) : PE X e (eL X.K W (aC x)) :=
  PEm h fun σ H Q ⟨g, sl, _, st, e, k⟩ => by cases e; exact k g H v [] (Nx.refl _ _) st ⟨rfl, r _⟩ (Fresh.nil _ _)
theorem e_int {i j} : PE X (.Constant (.int i) j pos) (eL X.K W (aC (.int i))) := e_const pe_int fun _ => .int i
theorem e_bl {b j} : PE X (.Constant (.bool b) j pos) (eL X.K W (aC (.bool b))) := e_const pe_bl fun _ => .bl b
theorem e_non {j} : PE X (.Constant .none j pos) (eL X.K W (aC .none)) := e_const pe_non fun _ => .non
theorem e_str {x j} : PE X (.Constant (.str x) j pos) (eL X.K W (aC (.str x))) := e_const pe_str fun _ => .str x
theorem ev (i : Nat) {x : Str} (hN : X.N[i]? = some x := by rfl) (hv : Vis X.env.scope x := by first | exact Or.inl rfl | exact Or.inr (Or.inl rfl) | exact Or.inr (Or.inr rfl)) (hd : (x == ("__debug__" : Str)) = false := by decide)
    (hcd : (x == ("__classdict__" : Str)) = false := by decide) : PE X (.Name x pos) (eL X.K W (aVar i)) := e_var hN hv hd hcd
end
/-! ### two values -/
abbrev O2 := SL → TV → TV → Option (TV × SL)
def Co2 (K : PySem.W.Frag) (r : R2) (o : O2) : Prop := ∀ g0 H0 g H σ sl x y tx ty S T tv sl' Q, Nx g0 H0 g H → Sta K g H σ sl → RTV K g H σ x tx S → Fresh g0 H0 S → RTV K g H σ y ty T → Fresh g0 H0 T → (∀ a ∈ S, a ∉ T) → o sl tx ty = some (tv, sl') → Kg K (RV K σ) σ Q g0 H0 tv sl' → r x y H Q
def aOp (o : O2) (A B : AE) : AE := fun s => bd (A s) fun x s1 => bd (B s1) fun y s2 => (o s2 x y).map fun r => .ok r.1 r.2
theorem mapok {α : Type} {o : Option (α × SL)} {r : Res α} (h : (o.map fun r => Res.ok r.1 r.2) = some r) : ∃ a s, o = some (a, s) ∧ r = .ok a s := by
  obtain ⟨⟨a, s⟩, h1, rfl⟩ := Option.map_eq_some_iff.mp h
  exact ⟨a, s, h1, rfl⟩
section
variable {X : Cx} {W : WX} {pos : Pos} {a b : Expr} {A B : AE} {r : R2} {o : O2}
theorem op_lift (hc : Co2 X.K r o) (σ : L2.St) (H : Hp) (Q : VK) (h : eL X.K W (aOp o A B) σ H Q) : tOp r (eL X.K W A) (eL X.K W B) σ H Q := by
  obtain ⟨g, sl, res, st, e, k⟩ := h
  refine run1 (R := RV X.K) st e k.x fun tx s1 g1 H1 x S e1 n1 st1 r1 f1 => ?_
  refine run1 (R := RV X.K) st1 e1 (hxm k.x n1) fun ty s2 g2 H2 y T e2 n2 st2 r2 f2 => ?_
  obtain ⟨tv, s3, e3, rfl⟩ := mapok e2
  exact hc g H g2 H2 σ s2 x y tx ty S T tv s3 Q (n1.trans n2) st2 (r1.mono n2) f1 r2 (f2.back n1) (r1.apart f2) e3 k
theorem e_op {op : Operator} (ho : OpR X (binaryOp op) r) (hc : Co2 X.K r o) (ha : PE X a (eL X.K W A)) (hb : PE X b (eL X.K W B)) : PE X (.BinOp a op b pos) (eL X.K W (aOp o A B)) := PEm (pe_op ho ha hb) (op_lift hc)
theorem e_cmp {op : CmpOp} (ho : OpR X (compareOp op) r) (hc : Co2 X.K r o) (ha : PE X a (eL X.K W A)) (hb : PE X b (eL X.K W B)) (hm : behindInMarks op b = false) : PE X (.Compare a [op] [b] pos) (eL X.K W (aOp o A B)) := PEm (pe_cmpR ho ha hb hm) (op_lift hc)
theorem e_ix (ho : IxR X r) (hc : Co2 X.K r o) (ha : PE X a (eL X.K W A)) (hb : PE X b (eL X.K W B)) (hs : PlainIx b) : PE X (.Subscript a b pos) (eL X.K W (aOp o A B)) := PEm (pe_ix ho ha hb hs) (op_lift hc)
end
/-- a value that is a bool, as a test -/
def aB (A : AE) : AT := fun s => bd (A s) fun x s1 => match x with
  | .d (.bool b) => some (.ok b s1)
  | _ => none
section
variable {X : Cx} {W : WX} {pos : Pos} {a b c : Expr} {A B : AE} {r : R2} {o : O2} {S T : AT}
theorem b_lift {t : TE} (σ : L2.St) (H : Hp) (Q : Bool → Hp → Prop) (q : tL X.K W (aB A) σ H Q) (k : ∀ σ H Q, eL X.K W A σ H Q → t σ H Q) : t σ H fun x H' => ∃ k, x = .bl k ∧ Q k H' := by
  obtain ⟨g, sl, res, st, e, kk⟩ := q
  refine k σ H _ (run1 (R := RV X.K) st e kk.x fun tx s1 g1 H1 x S e1 n1 st1 r1 f1 => ?_)
  split at e1
  · cases e1
    obtain ⟨_, r⟩ := r1
    cases r
    exact ⟨_, rfl, kk g1 H1 _ [] n1 st1 ⟨rfl, rfl⟩ (Fresh.nil _ _)⟩
  · cases e1
theorem t_val (h : PE X a (eL X.K W A)) (he : ∀ whole, isTrue a X.env whole = (do let v ← whole; standAt a.pos; holding [v] (truthy v)) := by intro _; rfl) : PT X a (tL X.K W (aB A)) :=
  PTm (pt_val h he) fun σ H Q q => b_lift σ H Q q fun _ _ _ z => z
theorem t_cmp {op : CmpOp} (ho : OpR X (compareOp op) r) (hc : Co2 X.K r o) (ha : PE X a (eL X.K W A)) (hb : PE X b (eL X.K W B)) (hm : behindInMarks op b = false) : PT X (.Compare a [op] [b] pos) (tL X.K W (aB (aOp o A B))) :=
  PTm (pt_cmpR ho ha hb hm) fun σ H Q q => b_lift σ H Q q (op_lift hc)
/-- by a PC -/
theorem t_pc {op : CmpOp} {t : TE} (h : PC X op a b t) (k : ∀ σ H Q, eL X.K W A σ H Q → t σ H Q) (h1 : behindInMarks op b = false := by first | exact nobehind _ (by decide) (by decide) | rfl) : PT X (.Compare a [op] [b] pos) (tL X.K W (aB A)) :=
  PTm (pt_cmp h h1) fun σ H Q q => b_lift σ H Q q k
theorem e_pc {op : CmpOp} {t : TE} (h : PC X op a b t) (k : ∀ σ H Q, eL X.K W A σ H Q → t σ H Q) (h1 : behindInMarks op b = false := by first | exact nobehind _ (by decide) (by decide) | rfl) : PE X (.Compare a [op] [b] pos) (eL X.K W A) :=
  PEm (pe_cmp h h1) k
/-! tests joined -/
def aAnd (S T : AT) : AT := fun s => bd (S s) fun b s1 => if b = true then T s1 else some (.ok false s1)
def aOr (S T : AT) : AT := fun s => bd (S s) fun b s1 => if b = true then some (.ok true s1) else T s1
def aNot (S : AT) : AT := fun s => bd (S s) fun b s1 => some (.ok (!b) s1)
theorem w_and1 (ha : PT X a (tL X.K W S)) : PW X (.BoolOp .And [a] pos) (tL X.K W S) := pw_and1 ha
theorem w_or1 (ha : PT X a (tL X.K W S)) : PW X (.BoolOp .Or [a] pos) (tL X.K W S) := pw_or1 ha
theorem w_and {rest : List Expr} (ha : PT X a (tL X.K W S)) (hb : PW X (.BoolOp .And (b :: rest) pos) (tL X.K W T)) : PW X (.BoolOp .And (a :: b :: rest) pos) (tL X.K W (aAnd S T)) :=
  PWm (pw_and ha hb) fun σ H Q ⟨g, sl, res, st, e, k⟩ => run1 (R := RB) st e k.x fun tb s1 g1 H1 b U e1 n1 st1 r1 f1 => by
    obtain ⟨rfl, rfl⟩ := r1
    cases b with
    | true => exact ⟨g1, s1, res, st1, e1, k.mono n1⟩
    | false => cases e1; exact k g1 H1 _ _ n1 st1 ⟨rfl, rfl⟩ f1
theorem w_or {rest : List Expr} (ha : PT X a (tL X.K W S)) (hb : PW X (.BoolOp .Or (b :: rest) pos) (tL X.K W T)) : PW X (.BoolOp .Or (a :: b :: rest) pos) (tL X.K W (aOr S T)) :=
  PWm (pw_or ha hb) fun σ H Q ⟨g, sl, res, st, e, k⟩ => run1 (R := RB) st e k.x fun tb s1 g1 H1 b U e1 n1 st1 r1 f1 => by
    obtain ⟨rfl, rfl⟩ := r1
    cases b with
    | false => exact ⟨g1, s1, res, st1, e1, k.mono n1⟩
    | true => cases e1; exact k g1 H1 _ _ n1 st1 ⟨rfl, rfl⟩ f1
theorem t_w (h : PW X a (tL X.K W S)) : PT X a (tL X.K W S) := h.pt
theorem t_not (ha : PT X a (tL X.K W S)) : PT X (.UnaryOp .Not a pos) (tL X.K W (aNot S)) :=
  PTm (pt_not ha) fun σ H Q ⟨g, sl, res, st, e, k⟩ => run1 (R := RB) st e k.x fun tb s1 g1 H1 b U e1 n1 st1 r1 f1 => by
    obtain ⟨rfl, rfl⟩ := r1
    cases e1
    exact k g1 H1 _ _ n1 st1 ⟨rfl, rfl⟩ f1
/-! .. as values -/
def aAndV (A B : AE) : AE := fun s => bd (A s) fun x s1 => match x with
  | .d (.bool b) => if b = true then B s1 else some (.ok (.d (.bool false)) s1)
  | _ => none
def aOrV (A B : AE) : AE := fun s => bd (A s) fun x s1 => match x with
  | .d (.bool b) => if b = true then some (.ok (.d (.bool true)) s1) else B s1
  | _ => none
def aNotV (A : AE) : AE := fun s => bd (A s) fun x s1 => match x with
  | .d (.bool b) => some (.ok (.d (.bool (!b))) s1)
  | _ => none
theorem e_and {rest : List Expr} (ha : PE X a (eL X.K W A)) (hb : PE X (.BoolOp .And (b :: rest) pos) (eL X.K W B)) : PE X (.BoolOp .And (a :: b :: rest) pos) (eL X.K W (aAndV A B)) :=
  PEm (pe_and ha hb) fun σ H Q ⟨g, sl, res, st, e, k⟩ => run1 (R := RV X.K) st e k.x fun tb s1 g1 H1 v U e1 n1 st1 r1 f1 => by
    split at e1
    · rename_i b
      obtain ⟨rfl, r⟩ := r1
      cases r
      refine ⟨b, rfl, ?_⟩
      cases b with
      | true => exact ⟨g1, s1, res, st1, e1, k.mono n1⟩
      | false => cases e1; exact k g1 H1 _ _ n1 st1 ⟨rfl, .bl _⟩ f1
    · cases e1
theorem e_or {rest : List Expr} (ha : PE X a (eL X.K W A)) (hb : PE X (.BoolOp .Or (b :: rest) pos) (eL X.K W B)) : PE X (.BoolOp .Or (a :: b :: rest) pos) (eL X.K W (aOrV A B)) :=
  PEm (pe_or ha hb) fun σ H Q ⟨g, sl, res, st, e, k⟩ => run1 (R := RV X.K) st e k.x fun tb s1 g1 H1 v U e1 n1 st1 r1 f1 => by
    split at e1
    · rename_i b
      obtain ⟨rfl, r⟩ := r1
      cases r
      refine ⟨b, rfl, ?_⟩
      cases b with
      | false => exact ⟨g1, s1, res, st1, e1, k.mono n1⟩
      | true => cases e1; exact k g1 H1 _ _ n1 st1 ⟨rfl, .bl _⟩ f1
    · cases e1
theorem e_one {op} (h : PE X a (eL X.K W A)) : PE X (.BoolOp op [a] pos) (eL X.K W A) := pe_one h
theorem e_not (ha : PE X a (eL X.K W A)) : PE X (.UnaryOp .Not a pos) (eL X.K W (aNotV A)) :=
  PEm (pe_not ha) fun σ H Q ⟨g, sl, res, st, e, k⟩ => run1 (R := RV X.K) st e k.x fun tb s1 g1 H1 v U e1 n1 st1 r1 f1 => by
    split at e1
    · rename_i b
      obtain ⟨rfl, r⟩ := r1
      cases r
      cases e1
      exact ⟨b, rfl, k g1 H1 _ _ n1 st1 ⟨rfl, .bl _⟩ f1⟩
    · cases e1
def aIf (T : AT) (A B : AE) : AE := fun s => bd (T s) fun b s1 => if b = true then A s1 else B s1
theorem e_if (hc : PT X c (tL X.K W T)) (ha : PE X a (eL X.K W A)) (hb : PE X b (eL X.K W B)) : PE X (.IfExp c a b pos) (eL X.K W (aIf T A B)) :=
  PEm (pe_ifExp hc ha hb) fun σ H Q ⟨g, sl, res, st, e, k⟩ => run1 (R := RB) st e k.x fun tb s1 g1 H1 b U e1 n1 st1 r1 f1 => by
    obtain ⟨rfl, rfl⟩ := r1
    cases b with
    | true => exact ⟨g1, s1, res, st1, e1, k.mono n1⟩
    | false => exact ⟨g1, s1, res, st1, e1, k.mono n1⟩
end
/-! ### truth of a value -/
def truA (sl : SL) (t : TV) : Option Bool := match t with
  | .d (.int i) => some (i != 0)
  | .d .none => some false
  | .d (.bool b) => some b
  | .d (.str x) => if x.length ≤ sizeLine then some (!(x.length == 0)) else none
  | t => match seqL sl t with
    | some xs => some (!xs.isEmpty)
    | none => (seqT sl t).map fun xs => !xs.isEmpty
def aTru (A : AE) : AT := fun s => bd (A s) fun x s1 => (truA s1 x).map fun b => .ok b s1
section
variable {X : Cx} {W : WX} {pos : Pos} {a : Expr} {A : AE}
theorem truA_ok {K : PySem.W.Frag} {g : G} {H : Hp} {σ : L2.St} {sl : SL} {v : V} {t : TV} {S : List Addr} {b : Bool} (st : Sta K g H σ sl) (r : RTV K g H σ v t S) (h : truA sl t = some b) : TruV K v H b := by
  have base : (match seqL sl t with
    | some xs => some (!xs.isEmpty)
    | none => (seqT sl t).map fun xs => !xs.isEmpty) = some b → TruV K v H b := by
    intro h
    split at h
    · rename_i xs e
      obtain ⟨a, ws, T, rfl, h1, h2⟩ := seqL_ok st r e
      cases h
      exact .inl ⟨ws, h1, by cases h2 <;> rfl⟩
    · obtain ⟨ds, e2, rfl⟩ := Option.map_eq_some_iff.mp h
      obtain ⟨a, ws, rfl, h1, h2⟩ := seqT_ok st r e2
      exact .inr (.inl ⟨ws, h1, by cases h2 <;> rfl⟩)
  cases t with
  | d x =>
    cases x with
    | int i => obtain ⟨_, r⟩ := r; cases r; cases h; rfl
    | none => obtain ⟨_, r⟩ := r; cases r; cases h; rfl
    | bool z => obtain ⟨_, r⟩ := r; cases r; cases h; rfl
    | str y =>
      obtain ⟨_, r⟩ := r; cases r
      have h' : (if y.length ≤ sizeLine then some (!(y.length == 0)) else none) = some b := h
      split at h'
      · rename_i hy
        cases h'
        refine ⟨hy, ?_⟩
        cases y.length <;> rfl
      · cases h'
    | _ => exact base h
  | _ => exact base h
theorem t_tru (h : PE X a (eL X.K W A)) (he : ∀ whole, isTrue a X.env whole = (do let v ← whole; standAt a.pos; holding [v] (truthy v)) := by intro _; rfl) : PT X a (tL X.K W (aTru A)) :=
  PTm (pt_truth h he) fun σ H Q ⟨g, sl, res, st, e, k⟩ => run1 (R := RV X.K) st e k.x fun tx s1 g1 H1 v S e1 n1 st1 r1 f1 => by
    obtain ⟨b, h1, rfl⟩ := Option.map_eq_some_iff.mp e1
    exact ⟨b, truA_ok st1 r1 h1, k g1 H1 _ [] n1 st1 ⟨rfl, rfl⟩ (Fresh.nil _ _)⟩
/-- a test as a value -/
def aTV (C : AT) : AE := fun s => bd (C s) fun b s1 => some (.ok (.d (.bool b)) s1)
end
/-! ### arguments, displays, calls -/
def aNil : AA := fun s => some (.ok [] s)
def aCons (A : AE) (R : AA) : AA := fun s => bd (A s) fun x s1 => bd (R s1) fun xs s2 => some (.ok (x :: xs) s2)
abbrev O1 := SL → List TV → Option (TV × SL)
def CoC (K : PySem.W.Frag) (r : List V → Hp → VK → Prop) (o : O1) : Prop := ∀ g0 H0 g H σ sl vs ts S tv sl' Q, Nx g0 H0 g H → Sta K g H σ sl → RTVs K g H σ vs ts S → Fresh g0 H0 S → o sl ts = some (tv, sl') → Kg K (RV K σ) σ Q g0 H0 tv sl' → r vs H Q
def aCB (o : O1) (R : AA) : AE := fun s => bd (R s) fun xs s1 => (o s1 xs).map fun r => .ok r.1 r.2
/-- all as data -/
def fzs : SL → List TV → Option (List D × SL)
  | sl, [] => some ([], sl)
  | sl, t :: ts => (fz sl t).bind fun r => (fzs r.2 ts).map fun q => (r.1 :: q.1, q.2)
theorem RTVs.length {K : PySem.W.Frag} {g : G} {H : Hp} {σ : L2.St} : ∀ {vs : List V} {ts : List TV} {S : List Addr}, RTVs K g H σ vs ts S → vs.length = ts.length
  | _, _, _, .nil => rfl
  | _, _, _, .cons _ r _ => by rw [List.length_cons, List.length_cons, RTVs.length r]
theorem RTVs.mono {K : PySem.W.Frag} {g g' : G} {H H' : Hp} {σ : L2.St} (n : Nx g H g' H') : ∀ {vs : List V} {ts : List TV} {S : List Addr}, RTVs K g H σ vs ts S → RTVs K g' H' σ vs ts S
  | _, _, _, .nil => .nil
  | _, _, _, .cons q r h => .cons (q.mono n) (RTVs.mono n r) h
/-- pending values beside a state that changed -/
theorem RTVs.keep {K : PySem.W.Frag} {g g' : G} {H H' : Hp} {σ : L2.St} {S0 : List Addr} (k : ∀ u tu T, RTV K g H σ u tu T → (∀ a ∈ S0, a ∉ T) → RTV K g' H' σ u tu T) : ∀ {vs : List V} {ts : List TV} {S : List Addr}, RTVs K g H σ vs ts S → (∀ a ∈ S0, a ∉ S) → RTVs K g' H' σ vs ts S
  | _, _, _, .nil, _ => .nil
  | _, _, _, .cons q r h, ap => .cons (k _ _ _ q fun a z z2 => ap a z (List.mem_append_left _ z2)) (RTVs.keep k r fun a z z2 => ap a z (List.mem_append_right _ z2)) h
theorem fzs_ok {K : PySem.W.Frag} {g0 : G} {H0 : Hp} {H : Hp} {σ : L2.St} : ∀ {ts : List TV} {vs : List V} {S : List Addr} {g : G} {sl sl' : SL} {ds : List D}, Nx g0 H0 g H → Fresh g0 H0 S → Sta K g H σ sl → RTVs K g H σ vs ts S → fzs sl ts = some (ds, sl') →
    ∃ g', Nx g0 H0 g' H ∧ Sta K g' H σ sl' ∧ RDs K g'.F vs ds ∧ Ex g.F g'.F
  | [], [], _, g, _, _, _, n, _, st, r, h => by cases r; cases h; exact ⟨g, n, st, .nil, fun _ _ z => z⟩
  | [], _ :: _, _, g, _, _, _, n, _, st, r, h => by cases r
  | t :: ts, [], _, g, _, _, _, n, _, st, r, h => by cases r
  | t :: ts, v :: vs, _, g, sl, sl', ds, n, f, st, r, h => by
    cases r with
    | cons q r ap =>
    obtain ⟨⟨x, s1⟩, h1, h2⟩ := Option.bind_eq_some_iff.mp h
    obtain ⟨⟨xs, s2⟩, h3, h4⟩ := Option.map_eq_some_iff.mp h2
    cases h4
    obtain ⟨g1, n1, st1, q1, kp, ex1⟩ := fz_keep n (fun a z => f a (List.mem_append_left _ z)) st q h1
    obtain ⟨g2, n2, st2, q2, ex2⟩ := fzs_ok n1 (fun a z => f a (List.mem_append_right _ z)) st1 (RTVs.keep kp r ap) h3
    exact ⟨g2, n2, st2, .cons (q1.mono ex2) q2, fun a o z => ex2 a o (ex1 a o z)⟩
def toM (sl : SL) : TV → Option (MV × SL)
  | .t m => some (m, sl)
  | t => (fz sl t).map fun r => (.d r.1, r.2)
def mvs : SL → List TV → Option (List MV × SL)
  | sl, [] => some ([], sl)
  | sl, t :: ts => (toM sl t).bind fun r => (mvs r.2 ts).map fun q => (r.1 :: q.1, q.2)
/-- a value that goes into an owned tree -/
theorem toM_ok {K : PySem.W.Frag} {g0 g : G} {H0 H : Hp} {σ : L2.St} {v : V} {t : TV} {S : List Addr} {sl sl' : SL} {m : MV} (n : Nx g0 H0 g H) (f : Fresh g0 H0 S) (st : Sta K g H σ sl) (r : RTV K g H σ v t S) (h : toM sl t = some (m, sl')) :
    ∃ g' T, Nx g0 H0 g' H ∧ Sta K g' H σ sl' ∧ RTV K g' H σ v (.t m) T ∧ (∀ a ∈ T, a ∈ S) ∧ (∀ u tu U, RTV K g H σ u tu U → (∀ a ∈ S, a ∉ U) → RTV K g' H σ u tu U) ∧ Ex g.F g'.F := by
  have base : (fz sl t).map (fun r => (MV.d r.1, r.2)) = some (m, sl') → ∃ g' T, Nx g0 H0 g' H ∧ Sta K g' H σ sl' ∧ RTV K g' H σ v (.t m) T ∧ (∀ a ∈ T, a ∈ S) ∧ (∀ u tu U, RTV K g H σ u tu U → (∀ a ∈ S, a ∉ U) → RTV K g' H σ u tu U) ∧ Ex g.F g'.F := fun h => by
    obtain ⟨⟨x, s1⟩, h1, h2⟩ := Option.map_eq_some_iff.mp h
    cases h2
    obtain ⟨g1, n1, st1, q1, kp, ex1⟩ := fz_keep n f st r h1
    exact ⟨g1, [], n1, st1, ⟨.d q1, List.nodup_nil, (fun _ h => nomatch h)⟩, (fun _ h => nomatch h), kp, ex1⟩
  cases t with
  | t m' => cases h; exact ⟨g, S, n, st, r, fun _ z => z, fun _ _ _ q _ => q, fun _ _ z => z⟩
  | d x => exact base h
  | var x => exact base h
  | x x => exact base h
  | c x => exact base h
  | sub p i j m => exact base h
theorem mvs_ok {K : PySem.W.Frag} {g0 : G} {H0 : Hp} {H : Hp} {σ : L2.St} : ∀ {ts : List TV} {vs : List V} {S : List Addr} {g : G} {sl sl' : SL} {ms : List MV}, Nx g0 H0 g H → Fresh g0 H0 S → Sta K g H σ sl → RTVs K g H σ vs ts S → mvs sl ts = some (ms, sl') →
    ∃ g' T, Nx g0 H0 g' H ∧ Sta K g' H σ sl' ∧ Reps K g'.F H vs ms T ∧ T.Nodup ∧ (∀ a ∈ T, g'.F a = none ∧ g'.lab a = none ∧ ¬ g'.RO a) ∧ (∀ a ∈ T, a ∈ S) ∧ Ex g.F g'.F ∧ ∀ u tu U, RTV K g H σ u tu U → (∀ a ∈ S, a ∉ U) → RTV K g' H σ u tu U
  | [], [], _, g, _, _, _, n, _, st, r, h => by cases r; cases h; exact ⟨g, [], n, st, .nil, List.nodup_nil, (fun _ h => nomatch h), (fun _ h => nomatch h), (fun _ _ z => z), fun _ _ _ q _ => q⟩
  | [], _ :: _, _, g, _, _, _, n, _, st, r, h => by cases r
  | t :: ts, [], _, g, _, _, _, n, _, st, r, h => by cases r
  | t :: ts, v :: vs, _, g, sl, sl', ms, n, f, st, r, h => by
    cases r with
    | cons q r ap =>
    obtain ⟨⟨x, s1⟩, h1, h2⟩ := Option.bind_eq_some_iff.mp h
    obtain ⟨⟨xs, s2⟩, h3, h4⟩ := Option.map_eq_some_iff.mp h2
    cases h4
    obtain ⟨g1, T1, n1, st1, q1, sub1, kp, ex1⟩ := toM_ok n (fun a z => f a (List.mem_append_left _ z)) st q h1
    obtain ⟨g2, T2, n2, st2, q2, nd2, u2, sub2, ex2, kp2⟩ := mvs_ok n1 (fun a z => f a (List.mem_append_right _ z)) st1 (RTVs.keep kp r ap) h3
    have q1' := kp2 v (.t x) T1 q1 fun a z z2 => ap a (sub1 a z2) z
    refine ⟨g2, T1 ++ T2, n2, st2, .cons q1'.1 q2, List.nodup_append.mpr ⟨q1'.2.1, nd2, fun a z b z2 e => ap a (sub1 a z) (e ▸ sub2 b z2)⟩, fun a z => ?_, fun a z => ?_, fun a o z => ex2 a o (ex1 a o z), fun u tu U q ap2 => kp2 u tu U (kp u tu U q fun a z => ap2 a (List.mem_append_left _ z)) fun a z => ap2 a (List.mem_append_right _ z)⟩
    · rcases List.mem_append.mp z with z | z
      · exact q1'.2.2 a z
      · exact u2 a z
    · rcases List.mem_append.mp z with z | z
      · exact List.mem_append_left _ (sub1 a z)
      · exact List.mem_append_right _ (sub2 a z)
def oTup : O1 := fun sl ts => if ts.length ≤ sizeLine then (fzs sl ts).map fun r => (.d (.tuple r.1), r.2) else none
def oLst : O1 := fun sl ts => if ts.length ≤ sizeLine then (mvs sl ts).map fun r => (.t (.lst r.1), r.2) else none
section
variable {X : Cx} {W : WX} {pos : Pos} {e : Expr} {es : List Expr} {A : AE} {R : AA} {o : O1} {r : List V → Hp → VK → Prop}
theorem a_nil : PA X [] (aL X.K W aNil) := PAm pa_nil fun σ H Q ⟨g, sl, res, st, e, k⟩ => by
  cases e
  exact k g H [] [] (Nx.refl _ _) st .nil (Fresh.nil _ _)
theorem a_cons (ha : PE X e (eL X.K W A)) (hr : PA X es (aL X.K W R)) (hs : starEach (e :: es) X.env = (false, eval e X.env) :: starEach es X.env := by rfl) : PA X (e :: es) (aL X.K W (aCons A R)) :=
  PAm (pa_cons ha hr hs) fun σ H Q ⟨g, sl, res, st, e, k⟩ => run1 (R := RV X.K) st e k.x fun tx s1 g1 H1 v S e1 n1 st1 r1 f1 =>
    run1 (R := RL X.K) st1 e1 (hxm k.x n1) fun txs s2 g2 H2 vs T e2 n2 st2 r2 f2 => by
      cases e2
      refine k g2 H2 (v :: vs) (S ++ T) (n1.trans n2) st2 (.cons (r1.mono n2) r2 (r1.apart f2)) fun a z => ?_
      rcases List.mem_append.mp z with z | z
      · exact f1 a z
      · exact (f2.back n1) a z
theorem cb_lift (hc : CoC X.K r o) (σ : L2.St) (H : Hp) (Q : VK) (h : eL X.K W (aCB o R) σ H Q) : (fun σ H Q => aL X.K W R σ H fun vs H1 => r vs H1 Q) σ H Q := by
  obtain ⟨g, sl, res, st, e, k⟩ := h
  refine run1 (R := RL X.K) st e k.x fun tx s1 g1 H1 vs S e1 n1 st1 r1 f1 => ?_
  obtain ⟨tv, s2, e2, rfl⟩ := mapok e1
  exact hc g H g1 H1 σ s1 vs tx S tv s2 Q n1 st1 r1 f1 e2 k
theorem co_tup {K : PySem.W.Frag} : CoC K (fun xs H1 Q => xs.length ≤ sizeLine ∧ ∀ p, H1 p = none → Q (.ref p) (upd H1 p (.tup xs))) oTup := by
  intro g0 H0 g H σ sl vs ts S tv sl' Q n st rs f h k
  unfold oTup at h
  split at h
  · rename_i hl
    obtain ⟨⟨ds, s1⟩, h1, h2⟩ := Option.map_eq_some_iff.mp h
    cases h2
    obtain ⟨g1, n1, st1, q, _⟩ := fzs_ok n f st rs h1
    exact ⟨by rw [rs.length]; exact hl, fun p hp => k.newT n1 st1 q hp⟩
  · cases h
theorem co_lst {K : PySem.W.Frag} : CoC K (fun xs H1 Q => xs.length ≤ sizeLine ∧ ∀ p, H1 p = none → Q (.ref p) (upd H1 p (.lst xs))) oLst := by
  intro g0 H0 g H σ sl vs ts S tv sl' Q n st rs f h k
  unfold oLst at h
  split at h
  · rename_i hl
    obtain ⟨⟨ds, s1⟩, h1, h2⟩ := Option.map_eq_some_iff.mp h
    cases h2
    obtain ⟨g1, T, n1, st1, q, nd, un, sub, _⟩ := mvs_ok n f st rs h1
    exact ⟨by rw [rs.length]; exact hl, fun p hp => k.newM n1 st1 q nd un (fun a z => f a (sub a z)) hp⟩
  · cases h
theorem e_tup {x1} (h : PA X es (aL X.K W R)) : PE X (.Tuple es x1 pos) (eL X.K W (aCB oTup R)) := PEm (pe_tup h) (cb_lift co_tup)
theorem e_lst (h : PA X es (aL X.K W R)) : PE X (.List es pos) (eL X.K W (aCB oLst R)) := PEm (pe_lst h) (cb_lift co_lst)
theorem e_callB {x : Str} {id : String} {p : Pos} (hc : CallR X (.builtin id) r) (co : CoC X.K r o) (hg : Gl X x) (hm : X.mg x = none) (hv : bootBuiltins x = some (.builtin id)) (ha : PA X (e :: es) (aL X.K W R)) (hn : x ≠ "__name__" := by decide) (hdb : (x == ("__debug__" : Str)) = false := by decide)
    (hs : starEach (e :: es) X.env = (false, eval e X.env) :: starEach es X.env := by rfl) (hpl : (backTo pos (starEach es X.env)).any (·.1) = false := by rfl) : PE X (.Call (.Name x p) (e :: es) [] pos) (eL X.K W (aCB o R)) :=
  PEm (pe_callB hc hg hm hv ha hn hdb hs hpl) (cb_lift co)
theorem e_callTy {x : Str} {T : String} {p : Pos} (hc : CallR X (.type T) r) (co : CoC X.K r o) (hg : Gl X x) (hm : X.mg x = none) (hv : bootBuiltins x = some (.type T)) (ha : PA X (e :: es) (aL X.K W R)) (hn : x ≠ "__name__" := by decide) (hdb : (x == ("__debug__" : Str)) = false := by decide)
    (hs : starEach (e :: es) X.env = (false, eval e X.env) :: starEach es X.env := by rfl) (hpl : (backTo pos (starEach es X.env)).any (·.1) = false := by rfl) : PE X (.Call (.Name x p) (e :: es) [] pos) (eL X.K W (aCB o R)) :=
  PEm (pe_callTy hc hg hm hv ha hn hdb hs hpl) (cb_lift co)
end
end Y

/-! Layer Y, part E: operators, places, slices. -/
namespace Y
open PySem PySem.Spec PyProof.Rows L2 Evl
theorem op_or {X : Cx} {f : Value → Value → Sem Value} {r q : R2} (h1 : OpR X f r) (h2 : OpR X f q) : OpR X f (fun x y H Q => r x y H Q ∨ q x y H Q) := fun pins s σ H x y v u Q I rx ry h => h.elim (h1 pins s σ H x y v u Q I rx ry) (h2 pins s σ H x y v u Q I rx ry)
theorem ix_or {X : Cx} {r q : R2} (h1 : IxR X r) (h2 : IxR X q) : IxR X (fun x y H Q => r x y H Q ∨ q x y H Q) := fun value slice pins s σ H x y v u Q I rx ry h hs =>
  h.elim (fun h => h1 value slice pins s σ H x y v u Q I rx ry h hs) fun h => h2 value slice pins s σ H x y v u Q I rx ry h hs
/-! ints -/
def oI (C : Int → Int → Bool) (f : Int → Int → Int) : O2 := fun s x y => match x, y with
  | .d (.int i), .d (.int j) => if C i j = true then some (.d (.int (f i j)), s) else none
  | _, _ => none
def oI0 (f : Int → Int → Int) : O2 := fun s x y => match x, y with
  | .d (.int i), .d (.int j) => some (.d (.int (f i j)), s)
  | _, _ => none
def oB0 (f : Int → Int → Bool) : O2 := fun s x y => match x, y with
  | .d (.int i), .d (.int j) => some (.d (.bool (f i j)), s)
  | _, _ => none
section
variable {K : PySem.W.Frag}
theorem co_I {P : Int → Int → Prop} {C : Int → Int → Bool} {f : Int → Int → Int} (hC : ∀ i j, C i j = true → P i j) : Co2 K (rI P fun i j => .int (f i j)) (oI C f) := by
  intro g0 H0 g H σ sl x y tx ty S T tv sl' Q n st rx _ ry _ _ h k
  unfold oI at h
  split at h
  · rename_i i j
    split at h
    · rename_i hc
      cases h
      obtain ⟨_, rx⟩ := rx
      obtain ⟨_, ry⟩ := ry
      cases rx; cases ry
      exact ⟨i, j, rfl, rfl, hC i j hc, k.scal n st (.int _)⟩
    · cases h
  · cases h
theorem co_I0 {f : Int → Int → Int} : Co2 K (rI0 fun i j => .int (f i j)) (oI0 f) := by
  intro g0 H0 g H σ sl x y tx ty S T tv sl' Q n st rx _ ry _ _ h k
  unfold oI0 at h
  split at h
  · rename_i i j
    cases h
    obtain ⟨_, rx⟩ := rx
    obtain ⟨_, ry⟩ := ry
    cases rx; cases ry
    exact ⟨i, j, rfl, rfl, k.scal n st (.int _)⟩
  · cases h
theorem co_B0 {f : Int → Int → Bool} : Co2 K (rI0 fun i j => .bl (f i j)) (oB0 f) := by
  intro g0 H0 g H σ sl x y tx ty S T tv sl' Q n st rx _ ry _ _ h k
  unfold oB0 at h
  split at h
  · rename_i i j
    cases h
    obtain ⟨_, rx⟩ := rx
    obtain ⟨_, ry⟩ := ry
    cases rx; cases ry
    exact ⟨i, j, rfl, rfl, k.scal n st (.bl _)⟩
  · cases h
/-! a list's items as data, frozen where they must be -/
def lsD (sl : SL) (tv : TV) : Option (List D × SL) := match (seqM sl tv).bind lvs with
  | some ds => some (ds, sl)
  | none => match fz sl tv with
    | some (.list ds, s') => some (ds, s')
    | _ => none
theorem lsD_ok {g0 g : G} {H0 H : Hp} {σ : L2.St} {sl sl' : SL} {v : V} {tv : TV} {S : List Addr} {ds : List D} (n : Nx g0 H0 g H) (f : Fresh g0 H0 S) (st : Sta K g H σ sl) (r : RTV K g H σ v tv S) (h : lsD sl tv = some (ds, sl')) :
    ∃ g' a vs, Nx g0 H0 g' H ∧ Sta K g' H σ sl' ∧ v = .ref a ∧ H a = some (.lst vs) ∧ RDs K g'.F vs ds ∧ (∀ u tu T, RTV K g H σ u tu T → (∀ a ∈ S, a ∉ T) → RTV K g' H σ u tu T) ∧ Ex g.F g'.F := by
  unfold lsD at h
  split at h
  · rename_i es e
    cases h
    obtain ⟨ms, h1, h2⟩ := Option.bind_eq_some_iff.mp e
    obtain ⟨a, vs, T, e1, h3, h4⟩ := seqM_ok st r h1
    rw [lvs_eq h2] at h4
    exact ⟨g, a, vs, n, st, e1, h3, h4.leaves.2, fun _ _ _ q _ => q, fun _ _ z => z⟩
  · split at h
    · rename_i es s1 e
      cases h
      obtain ⟨g1, n1, st1, q, kp, ex⟩ := fz_keep n f st r e
      cases q with
      | lst h1 h2 => exact ⟨g1, _, _, n1, st1, rfl, st1.ex _ _ h1, h2, kp, ex⟩
    · cases h
/-! + of ints, texts, lists, tuples -/
def oAdd : O2 := fun s x y => match x, y with
  | .d (.int i), .d (.int j) => some (.d (.int (i + j)), s)
  | .d (.str a), .d (.str b) => if a.length + b.length ≤ sizeLine then some (.d (.str (a ++ b)), s) else none
  | x, y => match seqTd s x, seqTd s y with
    | some xs, some ys => if xs.length + ys.length ≤ sizeLine then some (.d (.tuple (xs ++ ys)), s) else none
    | _, _ => (lsD s x).bind fun p => (lsD p.2 y).bind fun q => if p.1.length + q.1.length ≤ sizeLine then some (.t (.lst ((p.1 ++ q.1).map MV.d)), q.2) else none
def rAdd (K : PySem.W.Frag) : R2 := fun x y H Q => (rI0 (fun i j => .int (i + j)) x y H Q ∨ ∃ i j, x = .str i ∧ y = .str j ∧ i.length + j.length ≤ sizeLine ∧ Q (.str (i ++ j)) H) ∨ rCat x y H Q ∨ rCatA K x y H Q
theorem op_Add {X : Cx} : OpR X (binaryOp .Add) (rAdd X.K) := op_or (op_or op_add op_add_str) (op_or op_cat op_catA)
theorem co_Add : Co2 K (rAdd K) oAdd := by
  intro g0 H0 g H σ sl x y tx ty S T tv sl' Q n st rx fx ry fy ap h k
  unfold oAdd at h
  split at h
  · cases h
    obtain ⟨_, rx⟩ := rx
    obtain ⟨_, ry⟩ := ry
    cases rx; cases ry
    exact .inl (.inl ⟨_, _, rfl, rfl, k.scal n st (.int _)⟩)
  · split at h
    · rename_i hl
      cases h
      obtain ⟨_, rx⟩ := rx
      obtain ⟨_, ry⟩ := ry
      cases rx; cases ry
      exact .inl (.inr ⟨_, _, rfl, rfl, hl, k.scal n st (.str _)⟩)
    · cases h
  · split at h
    · rename_i xs ys e1 e2
      split at h
      · rename_i hl
        cases h
        obtain ⟨a, vs, rfl, h1, h2⟩ := seqTd_ok st rx e1
        obtain ⟨b, ws, rfl, h3, h4⟩ := seqTd_ok st ry e2
        refine .inr (.inr ⟨a, b, vs, ws, rfl, rfl, h1, h3, by rw [h2.length, h4.length]; exact hl, fun z => ?_, fun _ z => ?_, fun _ _ p hp => k.newT n st (h2.app h4) hp⟩)
        · subst z
          have e0 := h2.length
          rw [List.length_nil] at e0
          have e3 : xs = [] := List.length_eq_zero_iff.mp e0.symm
          subst e3
          exact k.scal n st (seqT_rd st ry e2)
        · subst z
          have e0 := h4.length
          rw [List.length_nil] at e0
          have e3 : ys = [] := List.length_eq_zero_iff.mp e0.symm
          subst e3
          rw [List.append_nil] at k
          exact k.scal n st (seqT_rd st rx e1)
      · cases h
    · obtain ⟨⟨xs, s1⟩, e1, h⟩ := Option.bind_eq_some_iff.mp h
      obtain ⟨⟨ys, s2⟩, e2, h⟩ := Option.bind_eq_some_iff.mp h
      dsimp only at h
      split at h
      · rename_i hl
        cases h
        obtain ⟨g1, a, vs, n1, st1, rfl, h1, h2, kp, ex1⟩ := lsD_ok n fx st rx e1
        obtain ⟨g2, b, ws, n2, st2, rfl, h3, h4, _, ex2⟩ := lsD_ok n1 fy st1 (kp _ _ _ ry ap) e2
        exact .inr (.inl ⟨a, b, vs, ws, rfl, rfl, h1, h3, by rw [h2.length, h4.length]; exact hl, fun p hp => k.newL n2 st2 ((h2.mono ex2).app h4) hp⟩)
      · cases h
/-! * -/
def CMulB (i j : Int) : Bool := (decide (-(2 ^ 64) < i) && decide (i < 2 ^ 64)) || (decide (-(2 ^ 64) < j) && decide (j < 2 ^ 64))
def repS (a : Str) (n : Nat) : Str := ⟨(List.replicate n a.cps).foldl (· ++ ·) #[]⟩
theorem rep_toList (c : Array Nat) : ∀ (n : Nat) (acc : Array Nat), ((List.replicate n c).foldl (· ++ ·) acc).toList = acc.toList ++ (List.replicate n c.toList).flatten
  | 0, acc => by simp
  | n + 1, acc => by
    rw [List.replicate_succ, List.foldl_cons, rep_toList c n, List.replicate_succ, List.flatten_cons, Array.toList_append, List.append_assoc]
theorem repS_toList (a : Str) (n : Nat) : (repS a n).cps.toList = (List.replicate n a.cps.toList).flatten := by
  show ((List.replicate n a.cps).foldl (· ++ ·) #[]).toList = _
  rw [rep_toList]
  simp
theorem repS_len (a : Str) (n : Nat) : (repS a n).length = n * a.length := by
  show (repS a n).cps.size = n * a.cps.size
  rw [← Array.length_toList, repS_toList, List.length_flatten, List.map_replicate, List.sum_replicate_nat, Array.length_toList]
def rMulS : R2 := fun x y H Q => ∃ a n, x = .str a ∧ y = .int n ∧ 2 ≤ n ∧ n ≤ 1000 ∧ 1 ≤ a.length ∧ a.length ≤ 1000 ∧ Q (.str (repS a n.toNat)) H
theorem op_mulS {X : Cx} : OpR X (binaryOp .Mult) rMulS := by
  intro pins s σ H x y v u Q I rx ry h
  obtain ⟨a, n, rfl, rfl, h1, h2, h3, h4, q⟩ := h
  obtain ⟨t, rfl⟩ := rx
  obtain ⟨t', rfl⟩ := ry
  have c1 : ¬ n < 1 := by omega
  have c2 : (n == 1 || a.length == 0) = false := by
    rw [Bool.or_eq_false_iff]
    exact ⟨by rw [beq_eq_false_iff_ne]; omega, by rw [beq_eq_false_iff_ne]; omega⟩
  refine PySem.P.mul_str ?_ (fun _ _ => ?_) (fun _ _ => ?_) ?_
  · rw [Bool.or_eq_false_iff]
    exact ⟨decide_eq_false (by omega), decide_eq_false (by omega)⟩
  · have h5 : (a.length : Int) * n ≤ 1000 * 1000 := Int.mul_le_mul (by omega) h2 (by omega) (by omega)
    have h6 : (a.length : Int) ≤ (2 ^ 63 - 1) / n := (Int.le_ediv_iff_mul_le (by omega)).mpr (by omega)
    omega
  · have h5 : a.length * n.toNat ≤ 1000 * 1000 := Nat.mul_le_mul h4 (by omega)
    show decide (a.length * n.toNat > sizeLine) = false
    exact decide_eq_false (by have := sizeLine_eq; omega)
  · rw [if_neg c1, if_neg (by rw [c2]; decide)]
    refine ⟨?_, .str (repS a n.toNat), H, I.tok _, ⟨_, rfl⟩, q⟩
    have h5 : a.length * n.toNat ≤ 1000 * 1000 := Nat.mul_le_mul h4 (by omega)
    show (repS a n.toNat).length ≤ sizeLine
    rw [repS_len, Nat.mul_comm]
    have := sizeLine_eq
    omega
def oMul : O2 := fun s x y => match x, y with
  | .d (.int i), .d (.int j) => if CMulB i j = true then some (.d (.int (i * j)), s) else none
  | .d (.str a), .d (.int n) => if 2 ≤ n ∧ n ≤ 1000 ∧ 1 ≤ a.length ∧ a.length ≤ 1000 then some (.d (.str (repS a n.toNat)), s) else none
  | x, .d (.int n) => (lsD s x).bind fun p => if (-(2 ^ 63) ≤ n ∧ n < 2 ^ 63) ∧ p.1.length * n.toNat ≤ sizeLine then some (.t (.lst ((List.replicate n.toNat p.1).flatten.map MV.d)), p.2) else none
  | _, _ => none
theorem rep_rel {F : Hp} {vs : List V} {ds : List D} (r : RDs K F vs ds) : ∀ n : Nat, RDs K F (List.replicate n vs).flatten (List.replicate n ds).flatten
  | 0 => .nil
  | n + 1 => by
    rw [List.replicate_succ, List.replicate_succ, List.flatten_cons, List.flatten_cons]
    exact r.app (rep_rel r n)
def rMul : R2 := fun x y H Q => rI CMul (fun i j => .int (i * j)) x y H Q ∨ rMulS x y H Q ∨ rRep x y H Q
theorem op_Mul {X : Cx} : OpR X (binaryOp .Mult) rMul := op_or op_mul (op_or op_mulS op_rep)
theorem co_Mul : Co2 K rMul oMul := by
  intro g0 H0 g H σ sl x y tx ty S T tv sl' Q n st rx fx ry fy ap h k
  unfold oMul at h
  split at h
  · split at h
    · rename_i hc
      cases h
      obtain ⟨_, rx⟩ := rx
      obtain ⟨_, ry⟩ := ry
      cases rx; cases ry
      refine .inl ⟨_, _, rfl, rfl, ?_, k.scal n st (.int _)⟩
      unfold CMulB at hc
      rcases Bool.or_eq_true_iff.mp hc with q | q
      · exact .inl ⟨of_decide_eq_true (Bool.and_eq_true_iff.mp q).1, of_decide_eq_true (Bool.and_eq_true_iff.mp q).2⟩
      · exact .inr ⟨of_decide_eq_true (Bool.and_eq_true_iff.mp q).1, of_decide_eq_true (Bool.and_eq_true_iff.mp q).2⟩
    · cases h
  · split at h
    · rename_i hc
      cases h
      obtain ⟨_, rx⟩ := rx
      obtain ⟨_, ry⟩ := ry
      cases rx; cases ry
      exact .inr (.inl ⟨_, _, rfl, rfl, hc.1, hc.2.1, hc.2.2.1, hc.2.2.2, k.scal n st (.str _)⟩)
    · cases h
  · obtain ⟨⟨xs, s1⟩, e1, h⟩ := Option.bind_eq_some_iff.mp h
    dsimp only at h
    split at h
    · rename_i hc
      cases h
      obtain ⟨g1, a, vs, n1, st1, rfl, h1, h2, kp, ex1⟩ := lsD_ok n fx st rx e1
      obtain ⟨_, ry⟩ := ry
      cases ry
      exact .inr (.inr ⟨a, _, vs, rfl, rfl, h1, hc.1.1, hc.1.2, by rw [h2.length]; exact hc.2, fun p hp => k.newL n1 st1 (rep_rel h2 _) hp⟩)
    · cases h
  · cases h
/-! //, %, ** -/
theorem hMod : ∀ i j : Int, decide (0 < j) = true → 0 < j := fun _ _ h => of_decide_eq_true h
/-! ==, != of data of any depth -/
def oEq (neg : Bool) : O2 := fun s x y => (asD s x).bind fun d => (asD s y).bind fun e => if SeqAt.shaped d = true ∧ SeqAt.shaped e = true then some (.d (.bool (if neg then !PyData.eqv d e else PyData.eqv d e)), s) else none
theorem co_Eq : Co2 K (rEqD K) (oEq false) := by
  intro g0 H0 g H σ sl x y tx ty S T tv sl' Q n st rx fx ry fy ap h k
  obtain ⟨d, e1, h⟩ := Option.bind_eq_some_iff.mp h
  obtain ⟨e, e2, h⟩ := Option.bind_eq_some_iff.mp h
  split at h
  · rename_i hs
    cases h
    exact ⟨d, e, asD_ok st rx e1, asD_ok st ry e2, hs.1, hs.2, k.scal n st (.bl _)⟩
  · cases h
theorem co_Ne : Co2 K (rNeD K) (oEq true) := by
  intro g0 H0 g H σ sl x y tx ty S T tv sl' Q n st rx fx ry fy ap h k
  obtain ⟨d, e1, h⟩ := Option.bind_eq_some_iff.mp h
  obtain ⟨e, e2, h⟩ := Option.bind_eq_some_iff.mp h
  split at h
  · rename_i hs
    cases h
    exact ⟨d, e, asD_ok st rx e1, asD_ok st ry e2, hs.1, hs.2, k.scal n st (.bl _)⟩
  · cases h
/-! is None, is a bool -/
def isNo (s : SL) (t : TV) : Option Bool := match t with
  | .d .none => some true
  | .d _ => some false
  | t => match vw s t with
    | some (.lst _) => some false
    | some (.dK _) => some false
    | some (.dT _) => some false
    | _ => none
theorem isNo_ok {g : G} {H : Hp} {σ : L2.St} {sl : SL} {v : V} {t : TV} {S : List Addr} {b : Bool} (st : Sta K g H σ sl) (r : RTV K g H σ v t S) (h : isNo sl t = some b) : decide (v = .non) = b := by
  have base : (match vw sl t with
    | some (.lst _) => some false
    | some (.dK _) => some false
    | some (.dT _) => some false
    | _ => none) = some b → decide (v = .non) = b := fun h => by
    split at h
    · rename_i e
      obtain ⟨T, q⟩ := vw_ok st r e
      cases q; cases h; rfl
    · rename_i e
      obtain ⟨T, q⟩ := vw_ok st r e
      cases q; cases h; rfl
    · rename_i e
      obtain ⟨T, q⟩ := vw_ok st r e
      cases q; cases h; rfl
    · cases h
  cases t with
  | d x => obtain ⟨_, r⟩ := r; cases r <;> (cases h; rfl)
  | t m => exact base h
  | var i => exact base h
  | x i => exact base h
  | c i => exact base h
  | sub p i j m => exact base h
def oIsN (neg : Bool) : O2 := fun s x y => match y with
  | .d .none => (isNo s x).map fun b => (.d (.bool (if neg then !b else b)), s)
  | _ => none
theorem co_isN : Co2 K (fun x y H Q => y = .non ∧ Q (.bl (decide (x = .non))) H) (oIsN false) := by
  intro g0 H0 g H σ sl x y tx ty S T tv sl' Q n st rx fx ry fy ap h k
  unfold oIsN at h
  split at h
  · obtain ⟨b, h1, h2⟩ := Option.map_eq_some_iff.mp h
    cases h2
    obtain ⟨_, ry⟩ := ry
    cases ry
    rw [isNo_ok st rx h1]
    exact ⟨rfl, k.scal n st (.bl _)⟩
  · cases h
theorem co_notN : Co2 K (fun x y H Q => y = .non ∧ Q (.bl (!decide (x = .non))) H) (oIsN true) := by
  intro g0 H0 g H σ sl x y tx ty S T tv sl' Q n st rx fx ry fy ap h k
  unfold oIsN at h
  split at h
  · obtain ⟨b, h1, h2⟩ := Option.map_eq_some_iff.mp h
    cases h2
    obtain ⟨_, ry⟩ := ry
    cases ry
    rw [isNo_ok st rx h1]
    exact ⟨rfl, k.scal n st (.bl _)⟩
  · cases h
def oIsB (neg : Bool) : O2 := fun s x y => match x, y with
  | .d (.bool a), .d (.bool b) => some (.d (.bool (if neg then !(a == b) else a == b)), s)
  | _, _ => none
theorem co_isB : Co2 K (fun x y H Q => ∃ a b : Bool, x = .bl a ∧ y = .bl b ∧ Q (.bl (decide (a = b))) H) (oIsB false) := by
  intro g0 H0 g H σ sl x y tx ty S T tv sl' Q n st rx fx ry fy ap h k
  unfold oIsB at h
  split at h
  · cases h
    obtain ⟨_, rx⟩ := rx
    obtain ⟨_, ry⟩ := ry
    cases rx; cases ry
    refine ⟨_, _, rfl, rfl, ?_⟩
    rw [← Bool.beq_eq_decide_eq]
    exact k.scal n st (.bl _)
  · cases h
theorem co_notB : Co2 K (fun x y H Q => ∃ a b : Bool, x = .bl a ∧ y = .bl b ∧ Q (.bl (!decide (a = b))) H) (oIsB true) := by
  intro g0 H0 g H σ sl x y tx ty S T tv sl' Q n st rx fx ry fy ap h k
  unfold oIsB at h
  split at h
  · cases h
    obtain ⟨_, rx⟩ := rx
    obtain ⟨_, ry⟩ := ry
    cases rx; cases ry
    refine ⟨_, _, rfl, rfl, ?_⟩
    rw [← Bool.beq_eq_decide_eq]
    exact k.scal n st (.bl _)
  · cases h
/-! in: among a list's items of any depth; flat things among a tuple's; a sign in a text -/
def flatD : D → Bool
  | .none => true
  | .bool _ => true
  | .int _ => true
  | .str _ => true
  | _ => false
def eqF : D → D → Bool
  | .none, .none => true
  | .bool a, .bool b => a == b
  | .bool a, .int b => (if a then 1 else 0) == b
  | .int a, .bool b => a == (if b then 1 else 0)
  | .int a, .int b => a == b
  | .str a, .str b => a == b
  | _, _ => false
def inF (x : D) (ds : List D) : Bool := ds.any fun y => eqF y x
theorem flat_ok {F : Hp} {v : V} {d : D} (r : RD K F v d) (h : flatD d = true) : flatV v = true := by
  cases r <;> first | rfl | cases h
theorem eqF_ok {F : Hp} {v u : V} {d e : D} (r : RD K F v d) (q : RD K F u e) (h : flatD d = true) (h2 : flatD e = true) : eqV v u = eqF d e := by
  cases r <;> first | cases h; done | (cases q <;> first | cases h2; done | rfl)
theorem flats_ok {F : Hp} : ∀ {vs : List V} {ds : List D}, RDs K F vs ds → ds.all flatD = true → vs.all flatV = true
  | _, _, .nil, _ => rfl
  | _, _, .cons r t, h => by
    rw [List.all_cons, Bool.and_eq_true] at h ⊢
    exact ⟨flat_ok r h.1, flats_ok t h.2⟩
theorem inF_ok {F : Hp} {v : V} {d : D} (r : RD K F v d) (h : flatD d = true) : ∀ {vs : List V} {ds : List D}, RDs K F vs ds → ds.all flatD = true → inV v vs = inF d ds
  | _, _, .nil, _ => rfl
  | _, _, .cons q t, h2 => by
    rw [List.all_cons, Bool.and_eq_true] at h2
    unfold inV inF
    rw [List.any_cons, List.any_cons, eqF_ok q r h2.1 h]
    have := inF_ok r h t h2.2
    unfold inV inF at this
    rw [this]
def inD (neg : Bool) (d : D) (ds : List D) : Bool := if neg then !ds.any (fun z => PyData.eqv z d) else ds.any fun z => PyData.eqv z d
def oIn (neg : Bool) : O2 := fun s x y => match y with
  | .d (.str z) => match x with
    | .d (.str c) => match c.cps.toList with
      | [u] => some (.d (.bool (if neg then !decide (u ∈ z.cps.toList) else decide (u ∈ z.cps.toList))), s)
      | _ => none
    | _ => none
  | y => match seqT s y with
    | some ds => match x with
      | .d d => if flatD d = true ∧ ds.all flatD = true then some (.d (.bool (if neg then !inF d ds else inF d ds)), s) else none
      | _ => none
    | none => (asD s x).bind fun d => match asD s y with
      | some (.list ds) => if SeqAt.shaped d = true ∧ SeqAt.shaped (.list ds) = true then some (.d (.bool (inD neg d ds)), s) else none
      | _ => none
def rInA (K : PySem.W.Frag) : R2 := fun x y H Q => rInS x y H Q ∨ rIn K false x y H Q ∨ rInD K x y H Q
def rNotInA (K : PySem.W.Frag) : R2 := fun x y H Q => rNotInS x y H Q ∨ rIn K true x y H Q ∨ rNotInD K x y H Q
theorem op_In {X : Cx} (hu : X.A.units + 65 < cLine) : OpR X (compareOp .In) (rInA X.K) := op_or op_inS (op_or op_in_seq (op_inD hu))
theorem op_NotIn {X : Cx} (hu : X.A.units + 65 < cLine) : OpR X (compareOp .NotIn) (rNotInA X.K) := op_or op_notInS (op_or op_notIn_seq (op_notInD hu))
theorem str1 {c : Str} {u : Nat} (h : c.cps.toList = [u]) : c = ⟨#[u]⟩ := by
  obtain ⟨cs⟩ := c
  have : cs = #[u] := by rw [← Array.toList_inj]; exact h
  rw [this]
theorem co_In : Co2 K (rInA K) (oIn false) := by
  intro g0 H0 g H σ sl x y tx ty S T tv sl' Q n st rx fx ry fy ap h k
  unfold oIn at h
  split at h
  · split at h
    · split at h
      · rename_i u e
        cases h
        rw [str1 e] at rx
        obtain ⟨_, rx⟩ := rx
        obtain ⟨_, ry⟩ := ry
        cases rx; cases ry
        exact .inl ⟨u, _, rfl, rfl, k.scal n st (.bl _)⟩
      · cases h
    · cases h
  · split at h
    · rename_i ds e
      split at h
      · rename_i d
        split at h
        · rename_i hf
          cases h
          obtain ⟨a, vs, rfl, h1, h2⟩ := seqT_ok st ry e
          obtain ⟨_, rx⟩ := rx
          refine .inr (.inl ⟨a, vs, rfl, .inr h1, flat_ok rx hf.1, flats_ok h2 hf.2, ?_⟩)
          rw [inF_ok rx hf.1 h2 hf.2]
          exact k.scal n st (.bl _)
        · cases h
      · cases h
    · obtain ⟨d, e1, h⟩ := Option.bind_eq_some_iff.mp h
      split at h
      · rename_i ds e2
        split at h
        · rename_i hs
          cases h
          exact .inr (.inr ⟨d, ds, asD_ok st rx e1, asD_ok st ry e2, hs.1, hs.2, k.scal n st (.bl _)⟩)
        · cases h
      · cases h
theorem co_NotIn : Co2 K (rNotInA K) (oIn true) := by
  intro g0 H0 g H σ sl x y tx ty S T tv sl' Q n st rx fx ry fy ap h k
  unfold oIn at h
  split at h
  · split at h
    · split at h
      · rename_i u e
        cases h
        rw [str1 e] at rx
        obtain ⟨_, rx⟩ := rx
        obtain ⟨_, ry⟩ := ry
        cases rx; cases ry
        exact .inl ⟨u, _, rfl, rfl, k.scal n st (.bl _)⟩
      · cases h
    · cases h
  · split at h
    · rename_i ds e
      split at h
      · rename_i d
        split at h
        · rename_i hf
          cases h
          obtain ⟨a, vs, rfl, h1, h2⟩ := seqT_ok st ry e
          obtain ⟨_, rx⟩ := rx
          refine .inr (.inl ⟨a, vs, rfl, .inr h1, flat_ok rx hf.1, flats_ok h2 hf.2, ?_⟩)
          rw [inF_ok rx hf.1 h2 hf.2]
          exact k.scal n st (.bl _)
        · cases h
      · cases h
    · obtain ⟨d, e1, h⟩ := Option.bind_eq_some_iff.mp h
      split at h
      · rename_i ds e2
        split at h
        · rename_i hs
          cases h
          exact .inr (.inr ⟨d, ds, asD_ok st rx e1, asD_ok st ry e2, hs.1, hs.2, k.scal n st (.bl _)⟩)
        · cases h
      · cases h
/-! < of ints, texts -/
def oLt (f : Int → Int → Bool) : O2 := fun s x y => match x, y with
  | .d (.int i), .d (.int j) => some (.d (.bool (f i j)), s)
  | _, _ => none
def oLtS : O2 := fun s x y => match x, y with
  | .d (.int i), .d (.int j) => some (.d (.bool (decide (i < j))), s)
  | .d (.str i), .d (.str j) => some (.d (.bool (decide (i.cps.toList < j.cps.toList))), s)
  | _, _ => none
def rLtS : R2 := fun x y H Q => rI0 (fun i j => .bl (decide (i < j))) x y H Q ∨ ∃ i j, x = .str i ∧ y = .str j ∧ Q (.bl (decide (i.cps.toList < j.cps.toList))) H
theorem op_Lt {X : Cx} : OpR X (compareOp .Lt) rLtS := op_or op_lt op_lt_str
theorem co_Lt : Co2 K rLtS oLtS := by
  intro g0 H0 g H σ sl x y tx ty S T tv sl' Q n st rx fx ry fy ap h k
  unfold oLtS at h
  split at h
  · cases h
    obtain ⟨_, rx⟩ := rx
    obtain ⟨_, ry⟩ := ry
    cases rx; cases ry
    exact .inl ⟨_, _, rfl, rfl, k.scal n st (.bl _)⟩
  · cases h
    obtain ⟨_, rx⟩ := rx
    obtain ⟨_, ry⟩ := ry
    cases rx; cases ry
    exact .inr ⟨_, _, rfl, rfl, k.scal n st (.bl _)⟩
  · cases h
/-! a place in a list, a tuple, a text -/
theorem at_get {R : V → D → Prop} {vs : List V} {xs : List D} (r : Paired R vs xs) {i : Int} {v : D} (h : atI xs i = some v) : ∃ y, atI vs i = some y ∧ R y v := by
  unfold atI at h ⊢
  rw [Paired.length r]
  cases e : ixN xs.length i with
  | none => rw [e] at h; cases h
  | some j =>
    rw [e] at h
    have get : ∀ {vs : List V} {xs : List D} {j : Nat}, Paired R vs xs → xs[j]? = some v → ∃ y, vs[j]? = some y ∧ R y v := by
      intro vs
      induction vs with
      | nil => intro xs j r h; cases r; simp at h
      | cons u us ih =>
        intro xs j r h
        cases r with
        | cons q t =>
          cases j with
          | zero => simp at h; subst h; exact ⟨u, rfl, q⟩
          | succ j => obtain ⟨y, h1, h2⟩ := ih t (by simpa using h); exact ⟨y, by simpa using h1, h2⟩
    obtain ⟨y, h1, h2⟩ := get r (show xs[j]? = some v from h)
    exact ⟨y, h1, h2⟩
/-- a child that is data -/
def lfAt (ms : List MV) (i : Int) : Option D := (ixN ms.length i).bind fun j => match ms[j]? with
  | some (.d d) => some d
  | _ => none
theorem lfAt_map (ds : List D) (i : Int) : lfAt (ds.map MV.d) i = atI ds i := by
  unfold lfAt atI
  rw [List.length_map]
  cases e : ixN ds.length i with
  | none => rfl
  | some j =>
    show (match (ds.map MV.d)[j]? with
      | some (.d d) => some d
      | _ => none) = ds[j]?
    rw [List.getElem?_map]
    cases ds[j]? <;> rfl
def oIx : O2 := fun s x y => match y with
  | .d (.int i) => match x with
    | .d (.str z) => if z.length ≤ sizeLine then (atI z.cps.toList i).map fun c => (.d (.str ⟨#[c]⟩), s) else none
    | x => match seqT s x with
      | some ds => (atI ds i).map fun d => (.d d, s)
      | none => ((seqL s x).bind fun ms => lfAt ms i).map fun d => (.d d, s)
  | _ => none
def rIxA (K : PySem.W.Frag) : R2 := fun x y H Q => rIxS x y H Q ∨ rIxL K x y H Q ∨ rIxT K x y H Q
theorem ix_A {X : Cx} : IxR X (rIxA X.K) := ix_or ix_str (ix_or ix_list ix_tup)
theorem at_kid {F H : Hp} {vs : List V} {ms : List MV} {U : List Addr} {i : Int} {j : Nat} {c : MV} (r : Reps K F H vs ms U) (h : ixN ms.length i = some j) (hc : ms[j]? = some c) : ∃ u T, atI vs i = some u ∧ vs[j]? = some u ∧ Rep K F H u c T := by
  obtain ⟨v, A, T, B, h1, h2, h3, h4⟩ := r.get hc
  refine ⟨v, T, ?_, h1, h2⟩
  unfold atI
  rw [r.length, h]
  exact h1
theorem co_Ix : Co2 K (rIxA K) oIx := by
  intro g0 H0 g H σ sl x y tx ty S T tv sl' Q n st rx fx ry fy ap h k
  unfold oIx at h
  split at h
  · rename_i i
    obtain ⟨_, ry⟩ := ry
    cases ry
    split at h
    · split at h
      · rename_i z hz
        obtain ⟨c, h1, h2⟩ := Option.map_eq_some_iff.mp h
        cases h2
        obtain ⟨_, rx⟩ := rx
        cases rx
        exact .inl ⟨z, i, c, rfl, rfl, hz, h1, k.scal n st (.str _)⟩
      · cases h
    · split at h
      · rename_i es e
        obtain ⟨d, h2, h3⟩ := Option.map_eq_some_iff.mp h
        cases h3
        obtain ⟨a, vs, rfl, q1, q2⟩ := seqT_ok st rx e
        obtain ⟨u, q3, q4⟩ := at_get q2.paired h2
        exact .inr (.inr ⟨a, vs, i, u, rfl, rfl, q1, q3, k.scal n st q4⟩)
      · obtain ⟨d, h2, h3⟩ := Option.map_eq_some_iff.mp h
        cases h3
        obtain ⟨ms, e1, e2⟩ := Option.bind_eq_some_iff.mp h2
        obtain ⟨j, e3, e4⟩ := Option.bind_eq_some_iff.mp e2
        split at e4
        · rename_i d' e5
          cases e4
          obtain ⟨a, vs, U, rfl, q1, q2⟩ := seqL_ok st rx e1
          obtain ⟨u, T', k1, _, k2⟩ := at_kid q2 e3 e5
          cases k2 with
          | d k2 => exact .inr (.inl ⟨a, vs, i, u, rfl, rfl, q1, k1, k.scal n st k2⟩)
        · cases e4
  · cases h
/-! slices -/
abbrev AO := SL → Option (Res (Option Int))
abbrev RO : L2.St → G → Hp → Option Int → Option Int → List Addr → Prop := fun _ _ _ a b S => a = b ∧ S = []
abbrev oL (K : PySem.W.Frag) (W : WX) (A : AO) : TO := lft K RO W A
def aNoPart : AO := fun s => some (.ok none s)
def aPart (A : AE) : AO := fun s => bd (A s) fun x s1 => match x with
  | .d (.int i) => some (.ok (some i) s1)
  | _ => none
theorem POm {X : Cx} {e : Option Expr} {t t' : TO} (h : PO X e t) (k : ∀ σ H Q, t' σ H Q → t σ H Q) : PO X e t' := ⟨fun pins s σ H Q I q => h.run pins s σ H Q I (k σ H Q q)⟩
theorem o_none {X : Cx} {W : WX} : PO X none (oL X.K W aNoPart) := POm po_none fun σ H Q ⟨g, sl, res, st, e, k⟩ => by
  cases e
  exact k g H _ [] (Nx.refl _ _) st ⟨rfl, rfl⟩ (Fresh.nil _ _)
theorem o_some {X : Cx} {W : WX} {e : Expr} {A : AE} (h : PE X e (eL X.K W A)) : PO X (some e) (oL X.K W (aPart A)) := POm (po_some h) fun σ H Q ⟨g, sl, res, st, e, k⟩ =>
  run1 (R := RV X.K) st e k.x fun tx s1 g1 H1 v S e1 n1 st1 r1 f1 => by
    split at e1
    · cases e1
      obtain ⟨_, r⟩ := r1
      cases r
      exact ⟨_, rfl, k g1 H1 _ [] n1 st1 ⟨rfl, rfl⟩ (Fresh.nil _ _)⟩
    · cases e1
def cutD {α : Type} (xs : List α) (lo hi : Option Int) : List α := (xs.drop (HT.sIx xs.length 0 lo)).take (HT.sIx xs.length xs.length hi - HT.sIx xs.length 0 lo)
theorem RDs.cut {F : Hp} {vs : List V} {ds : List D} (r : RDs K F vs ds) (lo hi : Option Int) : RDs K F (cutV vs lo hi) (cutD ds lo hi) := by
  unfold cutV cutD
  rw [r.length]
  exact (r.drop _).take _
def oSl : SL → TV → Option Int → Option Int → Option (TV × SL) := fun s x lo hi => match x with
  | .d (.str z) => if z.length ≤ sizeLine then some (.d (.str (cutS z lo hi)), s) else none
  | x => match seqTd s x with
    | some ds => some (.d (.tuple (cutD ds lo hi)), s)
    | none => ((seqL s x).bind lvs).map fun ds => (.t (.lst ((cutD ds lo hi).map MV.d)), s)
def aSl (A : AE) (L U : AO) : AE := fun s => bd (A s) fun x s1 => bd (L s1) fun lo s2 => bd (U s2) fun hi s3 => (oSl s3 x lo hi).map fun r => .ok r.1 r.2
def rSlAll (K : PySem.W.Frag) : V → Option Int → Option Int → Hp → VK → Prop := fun x lo hi H Q => rSlS x lo hi H Q ∨ rSlA K x lo hi H Q ∨ rSlL K x lo hi H Q
theorem sl_or {X : Cx} {r q : V → Option Int → Option Int → Hp → VK → Prop} (h1 : SlR X r) (h2 : SlR X q) : SlR X (fun x lo hi H Q => r x lo hi H Q ∨ q x lo hi H Q) := fun pins s σ H x v vl vu lo hi sl Q I rx hs pl pu h => h.elim (h1 pins s σ H x v vl vu lo hi sl Q I rx hs pl pu) (h2 pins s σ H x v vl vu lo hi sl Q I rx hs pl pu)
theorem sl_All {X : Cx} : SlR X (rSlAll X.K) := sl_or sl_str (sl_or sl_tupA sl_list)
end
end Y

/-! Layer Y, part F: slices, built-ins, methods. -/
namespace Y
open PySem PySem.Spec PyProof.Rows L2 Evl
theorem e_slice {X : Cx} {W : WX} {e : Expr} {lo hi : Option Expr} {A : AE} {L U : AO} {pos p2 : Pos} (he : PE X e (eL X.K W A)) (hl : PO X lo (oL X.K W L)) (hu : PO X hi (oL X.K W U)) :
    PE X (.Subscript e (.Slice lo hi none p2) pos) (eL X.K W (aSl A L U)) :=
  PEm (pe_slice sl_All he hl hu) fun σ H Q ⟨g, sl, res, st, e, k⟩ => run1 (R := RV X.K) st e k.x fun tx s1 g1 H1 v S e1 n1 st1 r1 f1 =>
    run1 (R := RO) st1 e1 (hxm k.x n1) fun lo s2 g2 H2 lo' T e2 n2 st2 r2 f2 => run1 (R := RO) st2 e2 (hxm k.x (n1.trans n2)) fun hi s3 g3 H3 hi' U e3 n3 st3 r3 f3 => by
      obtain ⟨rfl, rfl⟩ := r2
      obtain ⟨rfl, rfl⟩ := r3
      obtain ⟨tv, s4, e4, rfl⟩ := mapok e3
      have n := n1.trans (n2.trans n3)
      have r := r1.mono (n2.trans n3)
      unfold oSl at e4
      split at e4
      · split at e4
        · rename_i z hz
          cases e4
          obtain ⟨_, r⟩ := r
          cases r
          exact .inl ⟨z, rfl, hz, Kg.scal k n st3 (.str _)⟩
        · cases e4
      · split at e4
        · rename_i ds e5
          cases e4
          obtain ⟨a, vs, rfl, h1, h2⟩ := seqTd_ok st3 r e5
          refine .inr (.inl ⟨a, vs, rfl, h1, fun hw => ?_, fun _ p hp => Kg.newT k n st3 (h2.cut _ _) hp⟩)
          have ec : cutD ds lo' hi' = ds := by
            unfold cutD
            rw [← h2.length, hw.1, hw.2, List.drop_zero, Nat.sub_zero, h2.length, List.take_length]
          rw [ec] at k
          exact Kg.scal k n st3 (seqT_rd st3 r e5)
        · obtain ⟨ds, e5, e6⟩ := Option.map_eq_some_iff.mp e4
          cases e6
          obtain ⟨ms, e7, e8⟩ := Option.bind_eq_some_iff.mp e5
          obtain ⟨a, vs, U, rfl, h1, h2⟩ := seqL_ok st3 r e7
          rw [lvs_eq e8] at h2
          exact .inr (.inr ⟨a, vs, rfl, h1, fun p hp => Kg.newL k n st3 (h2.leaves.2.cut _ _) hp⟩)
/-! -x, not -/
def aUn (f : Int → Int) (A : AE) : AE := fun s => bd (A s) fun x s1 => match x with
  | .d (.int i) => some (.ok (.d (.int (f i))) s1)
  | _ => none
abbrev rNeg : Int → Int := fun i => -i
theorem e_neg {X : Cx} {W : WX} {pos : Pos} {a : Expr} {A : AE} (h : PE X a (eL X.K W A)) : PE X (.UnaryOp .USub a pos) (eL X.K W (aUn rNeg A)) := PEm (pe_un un_neg h) fun σ H Q ⟨g, sl, res, st, e, k⟩ =>
  run1 (R := RV X.K) st e k.x fun tx s1 g1 H1 v S e1 n1 st1 r1 f1 => by
    split at e1
    · cases e1
      obtain ⟨_, r⟩ := r1
      cases r
      exact ⟨_, rfl, Kg.scal k n1 st1 (.int _)⟩
    · cases e1
section
variable {K : PySem.W.Frag}
theorem RTVs.one {g : G} {H : Hp} {σ : L2.St} {vs : List V} {t : TV} {S : List Addr} (r : RTVs K g H σ vs [t] S) : ∃ v, vs = [v] ∧ RTV K g H σ v t S := by
  cases r with
  | cons q r _ =>
    cases r
    rw [List.append_nil]
    exact ⟨_, rfl, q⟩
theorem RTVs.two {g : G} {H : Hp} {σ : L2.St} {vs : List V} {t u : TV} {S : List Addr} (r : RTVs K g H σ vs [t, u] S) : ∃ v w A B, vs = [v, w] ∧ S = A ++ B ∧ RTV K g H σ v t A ∧ RTV K g H σ w u B ∧ ∀ a ∈ A, a ∉ B := by
  cases r with
  | cons q r ap =>
    obtain ⟨w, rfl, q2⟩ := r.one
    exact ⟨_, _, _, _, rfl, rfl, q, q2, ap⟩
/-! len -/
def lenA (sl : SL) (t : TV) : Option Nat := match t with
  | .d (.str y) => if y.length ≤ sizeLine then some y.length else none
  | t => match seqT sl t with
    | some xs => some xs.length
    | none => (seqL sl t).map List.length
def oLen : O1 := fun sl ts => match ts with
  | [x] => (lenA sl x).map fun n => (.d (.int (n : Nat)), sl)
  | _ => none
theorem co_len : CoC K (fun xs H Q => ∃ x n, xs = [x] ∧ LenV K x H n ∧ Q (.int n) H) oLen := by
  intro g0 H0 g H σ sl vs ts S tv sl' Q n st rs f h k
  unfold oLen at h
  split at h
  · rename_i x
    obtain ⟨m, h1, h2⟩ := Option.map_eq_some_iff.mp h
    cases h2
    obtain ⟨v, rfl, r⟩ := rs.one
    refine ⟨v, m, rfl, ?_, k.scal n st (.int _)⟩
    have base : (match seqT sl x with
      | some xs => some xs.length
      | none => (seqL sl x).map List.length) = some m → LenV K v H m := by
      intro h
      split at h
      · rename_i xs e
        obtain ⟨a, ws, rfl, q1, q2⟩ := seqT_ok st r e
        cases h
        exact .inr ⟨ws, q1, q2.length.symm⟩
      · obtain ⟨xs, e2, rfl⟩ := Option.map_eq_some_iff.mp h
        obtain ⟨a, ws, T, rfl, q1, q2⟩ := seqL_ok st r e2
        exact .inl ⟨ws, q1, q2.length.symm⟩
    cases x with
    | d y =>
      cases y with
      | str z =>
        obtain ⟨_, r⟩ := r
        cases r
        have h' : (if z.length ≤ sizeLine then some z.length else none) = some m := h1
        split at h'
        · rename_i hz; cases h'; exact ⟨hz, rfl⟩
        · cases h'
      | _ => exact base h1
    | _ => exact base h1
  · cases h
/-! int, str, ord, chr, abs -/
def oInt : O1 := fun sl ts => match ts with
  | [.d (.int i)] => some (.d (.int i), sl)
  | [.d (.bool b)] => some (.d (.int (if b then 1 else 0)), sl)
  | _ => none
theorem co_int : CoC K (fun xs H Q => (∃ i, xs = [.int i] ∧ Q (.int i) H) ∨ ∃ k, xs = [.bl k] ∧ Q (.int (if k then 1 else 0)) H) oInt := by
  intro g0 H0 g H σ sl vs ts S tv sl' Q n st rs f h k
  unfold oInt at h
  split at h
  · cases h
    obtain ⟨v, rfl, _, r⟩ := rs.one
    cases r
    exact .inl ⟨_, rfl, k.scal n st (.int _)⟩
  · cases h
    obtain ⟨v, rfl, _, r⟩ := rs.one
    cases r
    exact .inr ⟨_, rfl, k.scal n st (.int _)⟩
  · cases h
def oIntS : O1 := fun sl ts => match ts with
  | [.d (.str a)] => if a.length ≤ 640 then (PySem.intText? a).map fun n => (.d (.int n), sl) else none
  | _ => none
theorem co_intS : CoC K (fun xs H Q => ∃ a n, xs = [.str a] ∧ PySem.intText? a = some n ∧ a.length ≤ 640 ∧ Q (.int n) H) oIntS := by
  intro g0 H0 g H σ sl vs ts S tv sl' Q n st rs f h k
  unfold oIntS at h
  split at h
  · split at h
    · rename_i a ha
      obtain ⟨m, h1, h2⟩ := Option.map_eq_some_iff.mp h
      cases h2
      obtain ⟨v, rfl, _, r⟩ := rs.one
      cases r
      exact ⟨a, m, rfl, h1, ha, k.scal n st (.int _)⟩
    · cases h
  · cases h
def oStr : O1 := fun sl ts => match ts with
  | [.d (.int i)] => if i.natAbs.log2 < 1920 then some (.d (.str (toString i)), sl) else none
  | _ => none
theorem co_str : CoC K (fun xs H Q => ∃ i, xs = [.int i] ∧ i.natAbs.log2 < 1920 ∧ Q (.str (toString i)) H) oStr := by
  intro g0 H0 g H σ sl vs ts S tv sl' Q n st rs f h k
  unfold oStr at h
  split at h
  · split at h
    · rename_i a ha
      cases h
      obtain ⟨v, rfl, _, r⟩ := rs.one
      cases r
      exact ⟨_, rfl, ha, k.scal n st (.str _)⟩
    · cases h
  · cases h
def oOrd : O1 := fun sl ts => match ts with
  | [.d (.str c)] => match c.cps.toList with
    | [u] => some (.d (.int (u : Nat)), sl)
    | _ => none
  | _ => none
theorem co_ord : CoC K (fun xs H Q => ∃ x, xs = [.str x] ∧ x.length = 1 ∧ Q (.int (x.cps.getD 0 0 : Nat)) H) oOrd := by
  intro g0 H0 g H σ sl vs ts S tv sl' Q n st rs f h k
  unfold oOrd at h
  split at h
  · split at h
    · rename_i u e
      cases h
      rw [str1 e] at rs
      obtain ⟨v, rfl, _, r⟩ := rs.one
      cases r
      exact ⟨_, rfl, rfl, k.scal n st (.int _)⟩
    · cases h
  · cases h
def oAbs : O1 := fun sl ts => match ts with
  | [.d (.int i)] => some (.d (.int (if i < 0 then -i else i)), sl)
  | _ => none
theorem co_abs : CoC K (fun xs H Q => ∃ i, xs = [.int i] ∧ Q (.int (if i < 0 then -i else i)) H) oAbs := by
  intro g0 H0 g H σ sl vs ts S tv sl' Q n st rs f h k
  unfold oAbs at h
  split at h
  · cases h
    obtain ⟨v, rfl, _, r⟩ := rs.one
    cases r
    exact ⟨_, rfl, k.scal n st (.int _)⟩
  · cases h
/-! list(xs), tuple(xs) -/
def oList : O1 := fun sl ts => match ts with
  | [x] => (itemsD sl x).map fun ds => (.t (.lst (ds.map MV.d)), sl)
  | _ => none
theorem co_list : CoC K (fun xs H Q => ∃ p ys, xs = [.ref p] ∧ (SqL K H p ys ∨ SqT K H p ys) ∧ ∀ l, H l = none → Q (.ref l) (upd H l (.lst ys))) oList := by
  intro g0 H0 g H σ sl vs ts S tv sl' Q n st rs f h k
  unfold oList at h
  split at h
  · obtain ⟨ds, h1, h2⟩ := Option.map_eq_some_iff.mp h
    cases h2
    obtain ⟨v, rfl, r⟩ := rs.one
    obtain ⟨a, ws, rfl, q1, q2⟩ := itemsD_ok st r h1
    exact ⟨a, ws, rfl, q1, fun p hp => k.newL n st q2 hp⟩
  · cases h
def oTupL : O1 := fun sl ts => match ts with
  | [x] => match seqTd sl x with
    | some ds => some (.d (.tuple ds), sl)
    | none => match (seqL sl x).bind lvs with
      | some ds => some (.d (.tuple ds), sl)
      | none => match fz sl x with
        | some (.list ds, s') => some (.d (.tuple ds), s')
        | _ => none
  | _ => none
theorem co_tupL : CoC K (fun xs H Q => ∃ p ys, xs = [.ref p] ∧ ((SqL K H p ys ∧ ∀ l, H l = none → Q (.ref l) (upd H l (.tup ys))) ∨ (SqT K H p ys ∧ Q (.ref p) H))) oTupL := by
  intro g0 H0 g H σ sl vs ts S tv sl' Q n st rs f h k
  unfold oTupL at h
  split at h
  · obtain ⟨v, rfl, r⟩ := rs.one
    split at h
    · rename_i ds e
      cases h
      obtain ⟨a, ws, rfl, q1, q2⟩ := seqTd_ok st r e
      exact ⟨a, ws, rfl, .inr ⟨q1, k.scal n st (seqT_rd st r e)⟩⟩
    · split at h
      · rename_i ds e
        cases h
        obtain ⟨ms, e1, e2⟩ := Option.bind_eq_some_iff.mp e
        obtain ⟨a, ws, T, rfl, q1, q2⟩ := seqL_ok st r e1
        rw [lvs_eq e2] at q2
        exact ⟨a, ws, rfl, .inl ⟨q1, fun p hp => k.newT n st q2.leaves.2 hp⟩⟩
      · split at h
        · rename_i ds s' e
          cases h
          obtain ⟨g1, n1, st1, q⟩ := fz_ok n f st r e
          cases q with
          | lst h1 h2 => exact ⟨_, _, rfl, .inl ⟨SqL.of (st1.ex _ _ h1), fun p hp => k.newT n1 st1 h2 hp⟩⟩
        · cases h
  · cases h
/-! min, max, sum -/
def oMin2 : O1 := fun sl ts => match ts with
  | [.d (.int i), .d (.int j)] => some (.d (.int (if j < i then j else i)), sl)
  | _ => none
def oMax2 : O1 := fun sl ts => match ts with
  | [.d (.int i), .d (.int j)] => some (.d (.int (if j > i then j else i)), sl)
  | _ => none
theorem co_min2 : CoC K (fun xs H Q => ∃ i j, xs = [.int i, .int j] ∧ Q (.int (if j < i then j else i)) H) oMin2 := by
  intro g0 H0 g H σ sl vs ts S tv sl' Q n st rs f h k
  unfold oMin2 at h
  split at h
  · cases h
    obtain ⟨v, w, A, B, rfl, rfl, ⟨_, r1⟩, ⟨_, r2⟩, _⟩ := rs.two
    cases r1; cases r2
    exact ⟨_, _, rfl, k.scal n st (.int _)⟩
  · cases h
theorem co_max2 : CoC K (fun xs H Q => ∃ i j, xs = [.int i, .int j] ∧ Q (.int (if j > i then j else i)) H) oMax2 := by
  intro g0 H0 g H σ sl vs ts S tv sl' Q n st rs f h k
  unfold oMax2 at h
  split at h
  · cases h
    obtain ⟨v, w, A, B, rfl, rfl, ⟨_, r1⟩, ⟨_, r2⟩, _⟩ := rs.two
    cases r1; cases r2
    exact ⟨_, _, rfl, k.scal n st (.int _)⟩
  · cases h
def intsD : List D → Option (List Int)
  | [] => some []
  | .int i :: r => (intsD r).map (i :: ·)
  | _ :: _ => none
@[simp] theorem ints_map : ∀ ns : List Int, intsD (ns.map PyData.int) = some ns
  | [] => rfl
  | i :: r => by
    show (intsD (r.map PyData.int)).map (i :: ·) = some (i :: r)
    rw [ints_map r]; rfl
theorem ints_eq : ∀ {ds : List D} {ns : List Int}, intsD ds = some ns → ds = ns.map PyData.int
  | [], _, h => by cases h; rfl
  | .int i :: r, ns, h => by
    obtain ⟨ms, e1, rfl⟩ := Option.map_eq_some_iff.mp (show (intsD r).map (i :: ·) = some ns from h)
    rw [List.map_cons, ← ints_eq e1]
  | .none :: _, _, h => by cases h
  | .bool _ :: _, _, h => by cases h
  | .str _ :: _, _, h => by cases h
  | .list _ :: _, _, h => by cases h
  | .tuple _ :: _, _, h => by cases h
  | .dict _ :: _, _, h => by cases h
theorem ints_rd {F : Hp} : ∀ {ns : List Int} {vs : List V}, RDs K F vs (ns.map PyData.int) → vs = ns.map V.int
  | [], _, .nil => rfl
  | n :: r, _, .cons h t => by
    cases h
    rw [ints_rd t, List.map_cons]
def oSum : O1 := fun sl ts => match ts with
  | [x] => (((seqL sl x).bind lvs).bind intsD).map fun ns => (.d (.int ns.sum), sl)
  | _ => none
theorem co_sum : CoC K (rSum K) oSum := by
  intro g0 H0 g H σ sl vs ts S tv sl' Q n st rs f h k
  unfold oSum at h
  split at h
  · obtain ⟨ns, h1, h2⟩ := Option.map_eq_some_iff.mp h
    cases h2
    obtain ⟨ds, h3, h4⟩ := Option.bind_eq_some_iff.mp h1
    obtain ⟨ms, h5, h6⟩ := Option.bind_eq_some_iff.mp h3
    obtain ⟨v, rfl, r⟩ := rs.one
    obtain ⟨a, ws, T, rfl, q1, q2⟩ := seqL_ok st r h5
    rw [lvs_eq h6, ints_eq h4] at q2
    have e := ints_rd q2.leaves.2
    subst e
    exact ⟨a, ns, rfl, q1, k.scal n st (.int _)⟩
  · cases h
def maxI : List Int → Option Int
  | [] => none
  | x :: r => some (r.foldl (fun a b => if a < b then b else a) x)
def minI : List Int → Option Int
  | [] => none
  | x :: r => some (r.foldl (fun a b => if b < a then b else a) x)
theorem foldmax : ∀ (r : List Int) (x m : Int), m ∈ x :: r → (∀ y ∈ x :: r, y ≤ m) → r.foldl (fun a b => if a < b then b else a) x = m
  | [], x, m, h, _ => by simp at h; simp [h]
  | y :: r, x, m, h, hm => by
    rw [List.foldl_cons]
    apply foldmax r
    · by_cases e : x < y
      · rw [if_pos e]
        rcases List.mem_cons.mp h with q | q
        · subst q; exact absurd (hm y (by simp)) (by omega)
        · exact q
      · rw [if_neg e]
        rcases List.mem_cons.mp h with q | q
        · subst q; exact List.mem_cons_self
        · rcases List.mem_cons.mp q with q | q
          · subst q
            have := hm x (by simp)
            rw [show x = m by omega]
            exact List.mem_cons_self
          · exact List.mem_cons_of_mem _ q
    · intro z hz
      rcases List.mem_cons.mp hz with q | q
      · subst q
        split
        · exact hm y (by simp)
        · exact hm x (by simp)
      · exact hm z (by simp [q])
theorem foldmin : ∀ (r : List Int) (x m : Int), m ∈ x :: r → (∀ y ∈ x :: r, m ≤ y) → r.foldl (fun a b => if b < a then b else a) x = m
  | [], x, m, h, _ => by simp at h; simp [h]
  | y :: r, x, m, h, hm => by
    rw [List.foldl_cons]
    apply foldmin r
    · by_cases e : y < x
      · rw [if_pos e]
        rcases List.mem_cons.mp h with q | q
        · subst q; exact absurd (hm y (by simp)) (by omega)
        · exact q
      · rw [if_neg e]
        rcases List.mem_cons.mp h with q | q
        · subst q; exact List.mem_cons_self
        · rcases List.mem_cons.mp q with q | q
          · subst q
            have := hm x (by simp)
            rw [show x = m by omega]
            exact List.mem_cons_self
          · exact List.mem_cons_of_mem _ q
    · intro z hz
      rcases List.mem_cons.mp hz with q | q
      · subst q
        split
        · exact hm y (by simp)
        · exact hm x (by simp)
      · exact hm z (by simp [q])
def oMaxL : O1 := fun sl ts => match ts with
  | [x] => ((((seqL sl x).bind lvs).bind intsD).bind maxI).map fun n => (.d (.int n), sl)
  | _ => none
def oMinL : O1 := fun sl ts => match ts with
  | [x] => ((((seqL sl x).bind lvs).bind intsD).bind minI).map fun n => (.d (.int n), sl)
  | _ => none
theorem co_maxL : CoC K (rMax K) oMaxL := by
  intro g0 H0 g H σ sl vs ts S tv sl' Q n st rs f h k
  unfold oMaxL at h
  split at h
  · obtain ⟨m, h1, h2⟩ := Option.map_eq_some_iff.mp h
    cases h2
    obtain ⟨ns, h3, h4⟩ := Option.bind_eq_some_iff.mp h1
    obtain ⟨ds, h5, h6⟩ := Option.bind_eq_some_iff.mp h3
    obtain ⟨ms, h7, h8⟩ := Option.bind_eq_some_iff.mp h5
    obtain ⟨v, rfl, r⟩ := rs.one
    obtain ⟨a, ws, T, rfl, q1, q2⟩ := seqL_ok st r h7
    rw [lvs_eq h8, ints_eq h6] at q2
    have e := ints_rd q2.leaves.2
    subst e
    cases ns with
    | nil => cases h4
    | cons x t =>
      refine ⟨a, _, rfl, q1, by simp, fun z hz hm => ?_⟩
      have := foldmax t x z hz hm
      have e2 : m = z := by
        have h4' : some (t.foldl (fun a b => if a < b then b else a) x) = some m := h4
        rw [this] at h4'
        exact (Option.some.inj h4').symm
      subst e2
      exact k.scal n st (.int _)
  · cases h
theorem co_minL : CoC K (rMin K) oMinL := by
  intro g0 H0 g H σ sl vs ts S tv sl' Q n st rs f h k
  unfold oMinL at h
  split at h
  · obtain ⟨m, h1, h2⟩ := Option.map_eq_some_iff.mp h
    cases h2
    obtain ⟨ns, h3, h4⟩ := Option.bind_eq_some_iff.mp h1
    obtain ⟨ds, h5, h6⟩ := Option.bind_eq_some_iff.mp h3
    obtain ⟨ms, h7, h8⟩ := Option.bind_eq_some_iff.mp h5
    obtain ⟨v, rfl, r⟩ := rs.one
    obtain ⟨a, ws, T, rfl, q1, q2⟩ := seqL_ok st r h7
    rw [lvs_eq h8, ints_eq h6] at q2
    have e := ints_rd q2.leaves.2
    subst e
    cases ns with
    | nil => cases h4
    | cons x t =>
      refine ⟨a, _, rfl, q1, by simp, fun z hz hm => ?_⟩
      have := foldmin t x z hz hm
      have e2 : m = z := by
        have h4' : some (t.foldl (fun a b => if b < a then b else a) x) = some m := h4
        rw [this] at h4'
        exact (Option.some.inj h4').symm
      subst e2
      exact k.scal n st (.int _)
  · cases h
end
end Y

/-! Layer Y, part G: methods. -/
namespace Y
open PySem PySem.Spec PyProof.Rows L2 Evl
abbrev OM := SL → TV → List TV → Option (TV × SL)
def CoM (K : PySem.W.Frag) (r : V → List V → Hp → VK → Prop) (o : OM) : Prop := ∀ g0 H0 g H σ sl x vs tx ts S T tv sl' Q, Nx g0 H0 g H → Sta K g H σ sl → RTV K g H σ x tx S → Fresh g0 H0 S → RTVs K g H σ vs ts T → Fresh g0 H0 T → (∀ a ∈ S, a ∉ T) → o sl tx ts = some (tv, sl') → Kg K (RV K σ) σ Q g0 H0 tv sl' → r x vs H Q
def tyA (T : String) (sl : SL) (t : TV) : Bool := match t with
  | .d (.str _) => T == "str"
  | .d (.int _) => T == "int"
  | .d (.list _) => T == "list"
  | .x _ => T == "list"
  | .sub _ _ j m => match kid m j with
    | some (.lst _) => T == "list"
    | some (.dK _) => T == "dict"
    | some (.dT _) => T == "dict"
    | _ => false
  | t => match vw sl t with
    | some (.lst _) => T == "list"
    | some (.dK _) => T == "dict"
    | some (.dT _) => T == "dict"
    | _ => false
theorem tyA_ok {K : PySem.W.Frag} {g : G} {H : Hp} {σ : L2.St} {sl : SL} {v : V} {t : TV} {S : List Addr} {T0 : String} (st : Sta K g H σ sl) (r : RTV K g H σ v t S) (h : tyA T0 sl t = true) : tyV K T0 v H := by
  have base : (match vw sl t with
    | some (.lst _) => T0 == "list"
    | some (.dK _) => T0 == "dict"
    | some (.dT _) => T0 == "dict"
    | _ => false) = true → tyV K T0 v H := by
    intro h
    split at h
    · rename_i e
      obtain ⟨U, q⟩ := vw_ok st r e
      cases q with
      | lst h1 h2 => exact .inl ⟨eq_of_beq h, _, SqL.of h1⟩
    · rename_i e
      obtain ⟨U, q⟩ := vw_ok st r e
      cases q with
      | dK h1 h2 h3 => exact .inr (.inr (.inl ⟨eq_of_beq h, .inl ⟨_, h1⟩⟩))
    · rename_i e
      obtain ⟨U, q⟩ := vw_ok st r e
      cases q with
      | dT h1 h2 h3 => exact .inr (.inr (.inl ⟨eq_of_beq h, .inr ⟨_, h1⟩⟩))
    · cases h
  cases t with
  | d y =>
    obtain ⟨_, q⟩ := r
    cases y with
    | str z => cases q; exact eq_of_beq h
    | int z => cases q; exact eq_of_beq h
    | list ds =>
      cases q with
      | lst h1 h2 => exact .inl ⟨eq_of_beq h, _, SqL.of (st.ex _ _ h1)⟩
    | _ => exact base h
  | x ds =>
    obtain ⟨_, a, vs, rfl, h2, h3⟩ := r
    exact .inl ⟨eq_of_beq h, _, ex_l st.ex h2⟩
  | t m => exact base h
  | var i => exact base h
  | c i => exact base h
  | sub p i j m =>
    obtain ⟨v0, _, rr, kv, c, hc⟩ := r
    obtain ⟨v1, P, T, B, k1, k2, k3, k4⟩ := rr.1.kid hc
    obtain rfl := k1.inj kv
    have h' : (match kid m j with
      | some (.lst _) => T0 == "list"
      | some (.dK _) => T0 == "dict"
      | some (.dT _) => T0 == "dict"
      | _ => false) = true := h
    rw [hc] at h'
    cases k2 with
    | d _ => cases h'
    | lst h1 h2 => exact .inl ⟨eq_of_beq h', _, SqL.of h1⟩
    | dK h1 h2 h3 => exact .inr (.inr (.inl ⟨eq_of_beq h', .inl ⟨_, h1⟩⟩))
    | dT h1 h2 h3 => exact .inr (.inr (.inl ⟨eq_of_beq h', .inr ⟨_, h1⟩⟩))
def aBM0 (T : String) (o : OM) (A : AE) : AE := fun s => bd (A s) fun x s1 => if tyA T s1 x = true then (o s1 x []).map fun r => .ok r.1 r.2 else none
def aBM (T : String) (o : OM) (A : AE) (R : AA) : AE := fun s => bd (A s) fun x s1 => if tyA T s1 x = true then bd (R s1) fun xs s2 => (o s2 x xs).map fun r => .ok r.1 r.2 else none
section
variable {X : Cx} {W : WX} {o e : Expr} {es : List Expr} {A : AE} {R : AA} {om : OM} {r : V → List V → Hp → VK → Prop} {name : Str} {apos cpos : Pos} {T id : String}
theorem e_bm0 (pa : PlainAttrs T) (slot : Slot T name id) (hty : typeOf (.builtin id) = pure (.type "method_descriptor")) (hm : MtR X id r) (co : CoM X.K r om) (ho : PE X o (eL X.K W A))
    (hbase : attributeBase o name X.env (eval o X.env) = eval o X.env := by rfl) (hline : (apos.endLine == cpos.line) = true := by rfl) : PE X (.Call (.Attribute o name apos) [] [] cpos) (eL X.K W (aBM0 T om A)) :=
  PEm (pe_bm0 pa slot hty hm ho hbase hline) fun σ H Q ⟨g, sl, res, st, e, k⟩ => run1 (R := RV X.K) st e k.x fun tx s1 g1 H1 v S e1 n1 st1 r1 f1 => by
    split at e1
    · rename_i ht
      obtain ⟨tv, s2, e2, rfl⟩ := mapok e1
      exact ⟨tyA_ok st1 r1 ht, co g H g1 H1 σ s1 v [] tx [] S [] tv s2 Q n1 st1 r1 f1 .nil (Fresh.nil _ _) (fun _ _ z => nomatch z) e2 k⟩
    · cases e1
theorem e_bm (pa : PlainAttrs T) (slot : Slot T name id) (hty : typeOf (.builtin id) = pure (.type "method_descriptor")) (hm : MtR X id r) (co : CoM X.K r om) (ho : PE X o (eL X.K W A)) (ha : PA X (e :: es) (aL X.K W R))
    (hbase : attributeBase o name X.env (eval o X.env) = eval o X.env := by rfl)
    (hfew : ((backTo cpos (starEach (e :: es) X.env)).all (fun x => !x.1) && (backToKw cpos (keywordEach [] X.env)).all (fun x => x.1.isSome)
      && decide ((e :: es).length + ([] : List Keyword).length + (if ([] : List Keyword).isEmpty then 0 else 1) < 30)) = true := by rfl)
    (hline : (apos.endLine == cpos.line) = true := by rfl) (hs : starEach (e :: es) X.env = (false, eval e X.env) :: starEach es X.env := by rfl) (hplain : (backTo cpos (starEach es X.env)).any (·.1) = false := by rfl) :
    PE X (.Call (.Attribute o name apos) (e :: es) [] cpos) (eL X.K W (aBM T om A R)) :=
  PEm (pe_bm pa slot hty hm ho ha hbase hfew hline hs hplain) fun σ H Q ⟨g, sl, res, st, e, k⟩ => run1 (R := RV X.K) st e k.x fun tx s1 g1 H1 v S e1 n1 st1 r1 f1 => by
    split at e1
    · rename_i ht
      refine ⟨tyA_ok st1 r1 ht, run1 (R := RL X.K) st1 e1 (hxm k.x n1) fun txs s2 g2 H2 vs U e2 n2 st2 r2 f2 => ?_⟩
      obtain ⟨tv, s3, e3, rfl⟩ := mapok e2
      exact co g H g2 H2 σ s2 v vs tx txs S U tv s3 Q (n1.trans n2) st2 (r1.mono n2) f1 r2 (f2.back n1) (r1.apart f2) e3 k
    · cases e1
end
section
variable {K : PySem.W.Frag}
/-! ### places that are changed: an owned slot, a child of one -/
structure Pl where
  s : SL
  i : Nat
  m : MV
  put : MV → MV
def pl (sl : SL) : TV → Option Pl
  | .var i => (wAt sl i).map fun m => ⟨sl, i, m, fun x => x⟩
  | .sub p i j m => (kid m j).map fun c => ⟨bk sl p i m, i, c, setKid m j⟩
  | _ => none
def Pl.w (q : Pl) (m : MV) : SL := putAt q.s q.i (q.put m)
theorem wAt_bk {sl : SL} {p : Bool} {i : Nat} {m : MV} (h : i < sl.length) : wAt (bk sl p i m) i = some m := by
  unfold wAt bk
  rw [List.getElem?_set_self h]
  cases p <;> rfl
theorem pl_ok {g0 g : G} {H0 H : Hp} {σ : L2.St} {sl : SL} {v : V} {x : TV} {S : List Addr} {q : Pl} (n : Nx g0 H0 g H) (f : Fresh g0 H0 S) (st : Sta K g H σ sl) (r : RTV K g H σ v x S) (h : pl sl x = some q) :
    ∃ g1 T, Nx g0 H0 g1 H ∧ Sta K g1 H σ q.s ∧ Rep K g1.F H v q.m T ∧ T.Nodup ∧ (∀ a ∈ T, g1.lab a = some q.i) ∧ (g1.F = g.F ∧ g1.ro = g.ro ∧ ∀ a, a ∉ S → g1.lab a = g.lab a) ∧ (∀ u tu U, RTV K g H σ u tu U → (∀ a ∈ S, a ∉ U) → RTV K g1 H σ u tu U) ∧
      ∀ H' c' T' U, Fresh g0 H0 U → (∀ a ∈ U, g1.F a = none ∧ g1.lab a = none ∧ ¬ g1.RO a) → (∀ a, a ∉ T → H a ≠ none → H' a = H a) → (∀ a, Keep (H a) → Keep (H' a)) → (∀ a ∈ U, Keep (H a)) → Rep K g1.F H' v c' T' → T'.Nodup → (∀ a ∈ T', a ∈ T ∨ a ∈ U) → Nx g0 H0 (labG g1 U q.i) H' ∧ Sta K (labG g1 U q.i) H' σ (q.w c') := by
  cases x with
  | d _ => cases h
  | t _ => cases h
  | x _ => cases h
  | c _ => cases h
  | var i =>
    obtain ⟨m, e, rfl⟩ := Option.map_eq_some_iff.mp (show (wAt sl i).map (fun m => Pl.mk sl i m fun x => x) = some q from h)
    obtain ⟨u, T, h1, h2, h3, h4⟩ := st.own e
    rw [r.2] at h1
    cases h1
    exact ⟨g, T, n, st, h2, h3, h4, ⟨rfl, rfl, fun _ _ => rfl⟩, fun _ _ _ q _ => q, fun H' c' T' U fU hU hH hA hk rp nd sub => Sta.mut n fU st e r.2 h4 hU hH hA hk rp nd sub⟩
  | sub p i j m =>
    obtain ⟨c, e, rfl⟩ := Option.map_eq_some_iff.mp (show (kid m j).map (fun c => Pl.mk (bk sl p i m) i c (setKid m j)) = some q from h)
    obtain ⟨v0, ⟨hv, hp⟩, rr, kv, _⟩ := r
    obtain ⟨v1, P, T, B, k1, k2, k3, k4⟩ := rr.1.kid e
    obtain rfl := k1.inj kv
    subst k3
    obtain ⟨n1, st1⟩ := st.back n f hv hp rr
    have hi : i < sl.length := by rw [← st.len]; exact (List.getElem?_eq_some_iff.mp hv).1
    have nd := List.nodup_append.mp rr.2.1
    have nd2 := List.nodup_append.mp nd.2.1
    refine ⟨_, T, n1, st1, k2, nd2.1, fun a z => labG_in (List.mem_append_right _ (List.mem_append_left _ z)), ⟨rfl, rfl, fun a z => labG_ne z⟩, fun u tu U q ap => RTV.lab q ap, fun H' c' T' U fU hU hH hA hk rp ndp sub => ?_⟩
    have oth : ∀ b, b ∈ P ∨ b ∈ B → H' b = H b := fun b z => by
      refine hH b (fun z2 => ?_) (rr.1.keep b ?_).1
      · rcases z with z | z
        · exact nd.2.2 b z b (List.mem_append_left _ z2) rfl
        · exact nd2.2.2 b z2 b z rfl
      · rcases z with z | z
        · exact List.mem_append_left _ z
        · exact List.mem_append_right _ (List.mem_append_right _ z)
    have un : ∀ b ∈ U, b ∉ P ++ (T ++ B) := fun b z z2 => by have := (hU b z).2.1; rw [labG_in z2] at this; cases this
    obtain ⟨r0, _⟩ := k4 g.F H' c' T' (fun _ _ z => z) oth rp
    refine Sta.mut (S := P ++ (T ++ B)) (S' := P ++ (T' ++ B)) n1 fU st1 (wAt_bk hi) hv (fun a z => labG_in z) hU (fun a z hz => hH a (fun z2 => z (List.mem_append_right _ (List.mem_append_left _ z2))) hz) hA hk r0 ?_ fun a z => ?_
    · refine List.nodup_append.mpr ⟨nd.1, List.nodup_append.mpr ⟨ndp, nd2.2.1, fun a za b zb e => ?_⟩, fun a za b zb e => ?_⟩
      · subst e
        rcases sub a za with z | z
        · exact nd2.2.2 a z a zb rfl
        · exact un a z (List.mem_append_right _ (List.mem_append_right _ zb))
      · subst e
        rcases List.mem_append.mp zb with zb | zb
        · rcases sub a zb with z | z
          · exact nd.2.2 a za a (List.mem_append_left _ z) rfl
          · exact un a z (List.mem_append_left _ za)
        · exact nd.2.2 a za a (List.mem_append_right _ zb) rfl
    · rcases List.mem_append.mp z with z | z
      · exact .inl (List.mem_append_left _ z)
      · rcases List.mem_append.mp z with z | z
        · rcases sub a z with z | z
          · exact .inl (List.mem_append_right _ (List.mem_append_left _ z))
          · exact .inr z
        · exact .inl (List.mem_append_right _ (List.mem_append_right _ z))
/-- the root at a place is written -/
theorem pl_root {g0 g : G} {H0 H : Hp} {σ : L2.St} {sl : SL} {v : V} {x : TV} {S T : List Addr} {q : Pl} (n : Nx g0 H0 g H) (f : Fresh g0 H0 S) (st : Sta K g H σ sl) (r : RTV K g H σ v x S) (h : pl sl x = some q) (fT : Fresh g0 H0 T) (ap : ∀ a ∈ S, a ∉ T) (hT : ∀ a ∈ T, g.F a = none ∧ g.lab a = none ∧ ¬ g.RO a) (hTk : ∀ a ∈ T, Keep (H a)) :
    ∃ g1 Z, Nx g0 H0 g1 H ∧ Sta K g1 H σ q.s ∧ g1.F = g.F ∧ Rep K g.F H v q.m Z ∧ Z.Nodup ∧ (∀ b ∈ Z, b ∉ T) ∧
      ∀ a U o m' U', Z = a :: U → Keep (some o) → U'.Nodup → (∀ b ∈ U', b ∈ U ∨ b ∈ T) → (∀ H' : Hp, H' a = some o → (∀ b ∈ U', H' b = H b) → Rep K g.F H' v m' (a :: U')) → Nx g0 H0 (labG g1 T q.i) (upd H a o) ∧ Sta K (labG g1 T q.i) (upd H a o) σ (q.w m') := by
  obtain ⟨g1, Z, n1, st1, rp, nd, lb, ⟨eF, er, el⟩, kp, fin⟩ := pl_ok n f st r h
  have hT1 : ∀ a ∈ T, g1.F a = none ∧ g1.lab a = none ∧ ¬ g1.RO a := fun a z =>
    ⟨by rw [eF]; exact (hT a z).1, by rw [el a fun z2 => ap a z2 z]; exact (hT a z).2.1, fun z2 => (hT a z).2.2 (by unfold G.RO at z2 ⊢; rw [er] at z2; exact z2)⟩
  have zt : ∀ b ∈ Z, b ∉ T := fun b z z2 => by have := (hT1 b z2).2.1; rw [lb b z] at this; cases this
  rw [eF] at rp fin
  refine ⟨g1, Z, n1, st1, eF, rp, nd, zt, fun a U o m' U' e ko nd' sub rep => ?_⟩
  subst e
  have nda := List.nodup_cons.mp nd
  have na : ∀ b ∈ U', b ≠ a := fun b z e => by
    subst e
    rcases sub b z with z | z
    · exact nda.1 z
    · exact zt b List.mem_cons_self z
  exact fin _ m' (a :: U') T fT (by rw [← eF]; exact hT1) (fun b z _ => upd_ne fun e => z (e ▸ List.mem_cons_self)) (fun b z => by
    by_cases e : b = a
    · subst e; rw [upd_same]; exact ko
    · rw [upd_ne e]; exact z) hTk (rep _ upd_same fun b z => upd_ne (na b z)) (List.nodup_cons.mpr ⟨fun z => na a z rfl, nd'⟩) (fun b z => by
    rcases List.mem_cons.mp z with e | e
    · exact .inl (e ▸ List.mem_cons_self)
    · rcases sub b e with e | e
      · exact .inl (List.mem_cons_of_mem _ e)
      · exact .inr e)
/-! xs.append(y) -/
def mAppend : OM := fun sl x ts => match ts with
  | [y] => (toM sl y).bind fun r => (pl r.2 x).bind fun q => match q.m with
    | .lst ms => if ms.length < sizeLine then some (.d .none, q.w (.lst (ms ++ [r.1]))) else none
    | _ => none
  | _ => none
theorem co_append : CoM K rAppend mAppend := by
  intro g0 H0 g H σ sl x vs tx ts S T tv sl' Q n st rx fx rs fs ap h k
  unfold mAppend at h
  split at h
  · rename_i y
    obtain ⟨⟨m, s1⟩, e1, h⟩ := Option.bind_eq_some_iff.mp h
    obtain ⟨q, e2, h⟩ := Option.bind_eq_some_iff.mp h
    obtain ⟨u, rfl, ry⟩ := rs.one
    obtain ⟨g1, U, n1, st1, q1, sub, kp, ex⟩ := toM_ok n fs st ry e1
    have rx1 := kp _ _ _ rx fun a z z2 => ap a z2 z
    dsimp only at h
    split at h
    · rename_i ms em
      split at h
      · rename_i hl
        cases h
        obtain ⟨g2, Z, n2, st2, eF, rp, nd, zt, fin⟩ := pl_root n1 fx st1 rx1 e2 (fun a z => fs a (sub a z)) (fun a z z2 => ap a z (sub a z2)) q1.2.2 (fun a z => q1.1.keep a z)
        rw [em] at rp
        cases rp with
        | @lst a ws _ Z ha hr =>
          have nda := List.nodup_cons.mp nd
          obtain ⟨n3, st3⟩ := fin a Z (.lst (ws ++ [u])) (.lst (ms ++ [m])) (Z ++ U) rfl (keep_lst rfl) (List.nodup_append.mpr ⟨nda.2, q1.2.1, fun b z c z2 e => zt b (List.mem_cons_of_mem _ z) (e ▸ z2)⟩) (fun b z => List.mem_append.mp z) fun H' h1 h2 => by
            have r2 := Reps.app (hr.mono (fun _ _ z => z) fun b z => h2 b (List.mem_append_left _ z)) (.cons (q1.1.mono (fun _ _ z => z) fun b z => h2 b (List.mem_append_right _ z)) .nil)
            rw [List.append_nil] at r2
            exact .lst h1 r2
          exact ⟨a, ws, u, rfl, rfl, ha, by rw [hr.length]; exact hl, Kg.scal k n3 st3 .non⟩
      · cases h
    · cases h
  · cases h
/-- an owned list whose items are data: it, and how it is changed -/
def plL (sl : SL) (x : TV) : Option (Pl × List D) := (pl sl x).bind fun q => match q.m with
  | .lst ms => (lvs ms).map fun ds => (q, ds)
  | _ => none
theorem mut_leaf {g0 g : G} {H0 H : Hp} {σ : L2.St} {sl : SL} {v : V} {x : TV} {S : List Addr} {q : Pl} {ds : List D} (n : Nx g0 H0 g H) (f : Fresh g0 H0 S) (st : Sta K g H σ sl) (rx : RTV K g H σ v x S) (h : plL sl x = some (q, ds)) :
    ∃ a vs, v = .ref a ∧ H a = some (.lst vs) ∧ RDs K g.F vs ds ∧ ∀ ws es, RDs K g.F ws es → ∃ g2, Nx g0 H0 g2 (upd H a (.lst ws)) ∧ Sta K g2 (upd H a (.lst ws)) σ (q.w (.lst (es.map MV.d))) ∧ g2.F = g.F := by
  obtain ⟨q', e1, h⟩ := Option.bind_eq_some_iff.mp h
  split at h
  · rename_i ms em
    obtain ⟨ds', e2, e3⟩ := Option.map_eq_some_iff.mp h
    cases e3
    obtain ⟨g2, Z, n2, st2, eF, rp, nd, zt, fin⟩ := pl_root (T := []) n f st rx e1 (Fresh.nil _ _) (fun _ _ h => nomatch h) (fun _ h => nomatch h) (fun _ h => nomatch h)
    rw [em, lvs_eq e2] at rp
    cases rp with
    | @lst a ws _ Z ha hr =>
      obtain ⟨rfl, rd⟩ := hr.leaves
      refine ⟨a, ws, rfl, ha, rd, fun ws' es q => ?_⟩
      obtain ⟨n3, st3⟩ := fin a [] (.lst ws') (.lst (es.map MV.d)) [] rfl (keep_lst rfl) List.nodup_nil (fun _ h => nomatch h) fun H' h1 h2 => .lst h1 (RDs.reps q)
      exact ⟨_, n3, st3, eF⟩
  · cases h
/-! xs.pop(), xs.pop(i), xs.extend(ys) -/
def mPop : OM := fun sl x ts => match ts with
  | [] => (plL sl x).bind fun q => (q.2[q.2.length - 1]?).map fun y => (.d y, q.1.w (.lst (q.2.dropLast.map MV.d)))
  | _ => none
theorem RDs.dropLast {F : Hp} {vs : List V} {ds : List D} (r : RDs K F vs ds) : RDs K F vs.dropLast ds.dropLast := by
  rw [List.dropLast_eq_take, List.dropLast_eq_take, r.length]
  exact r.take _
theorem co_pop : CoM K rPop mPop := by
  intro g0 H0 g H σ sl x vs tx ts S T tv sl' Q n st rx fx rs fs ap h k
  unfold mPop at h
  split at h
  · obtain ⟨⟨q, ds⟩, e1, h⟩ := Option.bind_eq_some_iff.mp h
    obtain ⟨y, e2, e3⟩ := Option.map_eq_some_iff.mp h
    cases e3
    cases rs
    obtain ⟨a, ws, rfl, ha, rd, fin⟩ := mut_leaf n fx st rx e1
    obtain ⟨u, hu, ru⟩ := rd.get e2
    obtain ⟨g2, n2, st2, eF⟩ := fin _ _ rd.dropLast
    exact ⟨a, ws, u, rfl, rfl, ha, by rw [rd.length]; exact hu, Kg.scal k n2 st2 (by rw [eF]; exact ru)⟩
  · cases h
def mPopAt : OM := fun sl x ts => match ts with
  | [.d (.int j)] => (plL sl x).bind fun q => if -(2 ^ 63) ≤ j ∧ j < 2 ^ 63 then (seqIndex? j q.2.length).bind fun k => (q.2[k]?).map fun y => (.d y, q.1.w (.lst ((q.2.eraseIdx k).map MV.d))) else none
  | _ => none
theorem RDs.erase {F : Hp} : ∀ {vs : List V} {ds : List D} (n : Nat), RDs K F vs ds → RDs K F (vs.eraseIdx n) (ds.eraseIdx n)
  | _, _, _, .nil => .nil
  | _, _, 0, .cons _ r => r
  | _, _, n + 1, .cons h r => .cons h (RDs.erase n r)
theorem co_popAt : CoM K rPopAt mPopAt := by
  intro g0 H0 g H σ sl x vs tx ts S T tv sl' Q n st rx fx rs fs ap h k
  unfold mPopAt at h
  split at h
  · rename_i j
    obtain ⟨⟨q, ds⟩, e1, h⟩ := Option.bind_eq_some_iff.mp h
    dsimp only at h
    split at h
    · rename_i hj
      obtain ⟨p, e2, h⟩ := Option.bind_eq_some_iff.mp h
      obtain ⟨y, e3, e4⟩ := Option.map_eq_some_iff.mp h
      cases e4
      obtain ⟨u, rfl, _, ry⟩ := rs.one
      cases ry
      obtain ⟨a, ws, rfl, ha, rd, fin⟩ := mut_leaf n fx st rx e1
      obtain ⟨u, hu, ru⟩ := rd.get e3
      obtain ⟨g2, n2, st2, eF⟩ := fin _ _ (rd.erase p)
      exact ⟨a, ws, j, p, u, rfl, rfl, ha, hj.1, hj.2, by rw [rd.length]; exact e2, hu, Kg.scal k n2 st2 (by rw [eF]; exact ru)⟩
    · cases h
  · cases h
def mExtend : OM := fun sl x ts => match ts with
  | [y] => (lsD sl y).bind fun r => (plL r.2 x).bind fun q => if q.2.length + r.1.length ≤ sizeLine then some (.d .none, q.1.w (.lst ((q.2 ++ r.1).map MV.d))) else none
  | _ => none
theorem co_extend : CoM K rExtend mExtend := by
  intro g0 H0 g H σ sl x vs tx ts S T tv sl' Q n st rx fx rs fs ap h k
  unfold mExtend at h
  split at h
  · rename_i y
    obtain ⟨⟨es, s1⟩, e1, h⟩ := Option.bind_eq_some_iff.mp h
    obtain ⟨⟨q, ds⟩, e2, h⟩ := Option.bind_eq_some_iff.mp h
    dsimp only at h
    split at h
    · rename_i hl
      cases h
      obtain ⟨u, rfl, ry⟩ := rs.one
      obtain ⟨g1, b, zs, n1, st1, rfl, hb, rb, kp, _⟩ := lsD_ok n fs st ry e1
      obtain ⟨a, ws, rfl, ha, rd, fin⟩ := mut_leaf n1 fx st1 (kp _ _ _ rx fun a z z2 => ap a z2 z) e2
      obtain ⟨g2, n2, st2, eF⟩ := fin _ _ (rd.app rb)
      exact ⟨a, b, ws, zs, rfl, rfl, ha, hb, by rw [rd.length, rb.length]; exact hl, Kg.scal k n2 st2 .non⟩
    · cases h
  · cases h
/-! xs.index(y) -/
def mIndex : OM := fun sl x ts => match ts with
  | [y] => (asD sl y).bind fun d => match asD sl x with
    | some (.list ds) => if SeqAt.shaped (.list ds) = true ∧ SeqAt.shaped d = true then (ds.findIdx? fun z => PyData.eqv z d).map fun j => (.d (.int (j : Nat)), sl) else none
    | _ => none
  | _ => none
theorem co_index : CoM K (rIndexD K) mIndex := by
  intro g0 H0 g H σ sl x vs tx ts S T tv sl' Q n st rx fx rs fs ap h k
  unfold mIndex at h
  split at h
  · obtain ⟨d, e1, h⟩ := Option.bind_eq_some_iff.mp h
    split at h
    · rename_i ds e2
      split at h
      · rename_i hs
        obtain ⟨j, e3, e4⟩ := Option.map_eq_some_iff.mp h
        cases e4
        obtain ⟨u, rfl, ry⟩ := rs.one
        have dx := asD_ok st rx e2
        obtain ⟨a, rfl⟩ : ∃ a, x = V.ref a := by cases dx with
          | lst h1 h2 => exact ⟨_, rfl⟩
        obtain ⟨hj, h1, h2⟩ := List.findIdx?_eq_some_iff_getElem.mp e3
        refine ⟨a, u, d, ds, j, ds[j], rfl, rfl, dx, asD_ok st ry e1, hs.1, hs.2, List.getElem?_eq_getElem hj, h1, fun m z' hm hz => ?_, Kg.scal k n st (.int _)⟩
        obtain ⟨hm', rfl⟩ := List.getElem?_eq_some_iff.mp hz
        exact Bool.eq_false_iff.mpr (h2 m hm)
      · cases h
    · cases h
  · cases h
/-! texts -/
def strsD : List D → Option (List Str)
  | [] => some []
  | .str x :: r => (strsD r).map (x :: ·)
  | _ :: _ => none
@[simp] theorem strsD_map : ∀ ns : List Str, strsD (ns.map PyData.str) = some ns
  | [] => rfl
  | i :: r => by
    show (strsD (r.map PyData.str)).map (i :: ·) = some (i :: r)
    rw [strsD_map r]; rfl
theorem strsD_eq : ∀ {ds : List D} {ns : List Str}, strsD ds = some ns → ds = ns.map PyData.str
  | [], _, h => by cases h; rfl
  | .str i :: r, ns, h => by
    obtain ⟨ms, e1, rfl⟩ := Option.map_eq_some_iff.mp (show (strsD r).map (i :: ·) = some ns from h)
    rw [List.map_cons, ← strsD_eq e1]
  | .none :: _, _, h => by cases h
  | .bool _ :: _, _, h => by cases h
  | .int _ :: _, _, h => by cases h
  | .list _ :: _, _, h => by cases h
  | .tuple _ :: _, _, h => by cases h
  | .dict _ :: _, _, h => by cases h
theorem strs_rd {F : Hp} : ∀ ys : List Str, RDs K F (ys.map V.str) (ys.map PyData.str)
  | [] => .nil
  | y :: r => .cons (.str y) (strs_rd r)
theorem rd_strs {F : Hp} : ∀ {ys : List Str} {vs : List V}, RDs K F vs (ys.map PyData.str) → vs = ys.map V.str
  | [], _, .nil => rfl
  | y :: r, _, .cons h t => by cases h; rw [rd_strs t]; rfl
def mSplit : OM := fun sl x ts => match x, ts with
  | .d (.str a), [.d (.str b)] => if (b.length == 0) = false ∧ a.length + 2 ≤ sizeLine then some (.t (.lst ((Txt.split a b).map fun z => MV.d (.str z))), sl) else none
  | _, _ => none
theorem co_split : CoM K (fun x xs H Q => ∃ a b, x = .str a ∧ xs = [.str b] ∧ (b.length == 0) = false ∧ a.length + 2 ≤ sizeLine ∧ rNewStrs (Txt.split a b) H Q) mSplit := by
  intro g0 H0 g H σ sl x vs tx ts S T tv sl' Q n st rx fx rs fs ap h k
  unfold mSplit at h
  split at h
  · split at h
    · rename_i a b hc
      cases h
      obtain ⟨u, rfl, _, ry⟩ := rs.one
      obtain ⟨_, rx⟩ := rx
      cases rx; cases ry
      refine ⟨a, b, rfl, rfl, hc.1, hc.2, fun q hq => ?_⟩
      have k' : Kg K (RV K σ) σ Q g0 H0 (.t (.lst (((Txt.split a b).map PyData.str).map MV.d))) sl := by rw [List.map_map]; exact k
      exact Kg.newL k' n st (strs_rd _) hq
    · cases h
  · cases h
def mJoin : OM := fun sl x ts => match x, ts with
  | .d (.str a), [y] => ((itemsD sl y).bind strsD).bind fun ys => if (ys.map (·.length)).sum + ys.length * a.length ≤ 16777216 then some (.d (.str (Txt.join a ys)), sl) else none
  | _, _ => none
theorem co_join : CoM K (fun x xs H Q => ∃ a p, ∃ ys : List Str, x = .str a ∧ xs = [.ref p] ∧ (SqL K H p (ys.map V.str) ∨ SqT K H p (ys.map V.str)) ∧ (ys.map (·.length)).sum + ys.length * a.length ≤ 16777216 ∧ Q (.str (Txt.join a ys)) H) mJoin := by
  intro g0 H0 g H σ sl x vs tx ts S T tv sl' Q n st rx fx rs fs ap h k
  unfold mJoin at h
  split at h
  · obtain ⟨ys, e1, h⟩ := Option.bind_eq_some_iff.mp h
    obtain ⟨ds, e2, e3⟩ := Option.bind_eq_some_iff.mp e1
    split at h
    · rename_i a y hc
      cases h
      obtain ⟨u, rfl, ry⟩ := rs.one
      obtain ⟨_, rx⟩ := rx
      cases rx
      obtain ⟨b, ws, rfl, h3, h4⟩ := itemsD_ok st ry e2
      rw [strsD_eq e3] at h4
      have e := rd_strs h4
      subst e
      exact ⟨_, b, ys, rfl, rfl, h3, hc, Kg.scal k n st (.str _)⟩
    · cases h
  · cases h
end
end Y

/-! Layer Y, part H: targets, statements, defs, calls. -/
namespace Y
open PySem PySem.Spec PyProof.Rows L2 Evl
/-! ### statements -/
def SK (K : PySem.W.Frag) (W : WX) (D : Ends) (g0 : G) (H0 : Hp) : SR → Prop
  | .nx s => ∀ g H σ, Nx g0 H0 g H → Sta K g H σ s → D.nx σ H
  | .bk s => ∀ g H σ, Nx g0 H0 g H → Sta K g H σ s → D.bk σ H
  | .ct s => ∀ g H σ, Nx g0 H0 g H → Sta K g H σ s → D.ct σ H
  | .rt t s => ∀ g H σ v S, Nx g0 H0 g H → Sta K g H σ s → RTV K g H σ v t S → Fresh g0 H0 S → D.rt v H
  | .ex xa s => ∀ g H σ cls d, Nx g0 H0 g H → Sta K g H σ s → RX K g cls d H xa → W cls d σ H
def sL (K : PySem.W.Frag) (W : WX) (A : AS) : TS := fun D σ H => ∃ g sl r, Sta K g H σ sl ∧ A sl = some r ∧ SK K W D g H r
def sb {α : Type} (x : Option (Res α)) (f : α → SL → Option SR) : Option SR := match x with
  | some (.ok a s) => f a s
  | some (.ex xa s) => some (.ex xa s)
  | none => none
@[simp] theorem sb_ok {α : Type} {a : α} {s : SL} {f : α → SL → Option SR} : sb (some (.ok a s)) f = f a s := rfl
@[simp] theorem sb_ex {α : Type} {a : XA} {s : SL} {f : α → SL → Option SR} : sb (some (.ex a s)) f = some (.ex a s) := rfl
@[simp] theorem sb_none {α : Type} {f : α → SL → Option SR} : sb none f = none := rfl
section
variable {K : PySem.W.Frag} {W : WX} {g g0 g1 g' : G} {H H0 H1 H' : Hp} {σ : L2.St} {sl sl' : SL}
theorem SK.mono {D : Ends} {r : SR} (n : Nx g H g1 H1) (k : SK K W D g H r) : SK K W D g1 H1 r := by
  cases r with
  | nx s => exact fun g2 H2 σ m st => k g2 H2 σ (n.trans m) st
  | bk s => exact fun g2 H2 σ m st => k g2 H2 σ (n.trans m) st
  | ct s => exact fun g2 H2 σ m st => k g2 H2 σ (n.trans m) st
  | rt t s => exact fun g2 H2 σ v S m st r f => k g2 H2 σ v S (n.trans m) st r (f.back n)
  | ex xa s => exact fun g2 H2 σ cls d m st r => k g2 H2 σ cls d (n.trans m) st r
theorem SK.x {D : Ends} {r : SR} (k : SK K W D g H r) (σ : L2.St) : ∀ xa s, r = .ex xa s → Kx K W g H σ xa s := fun xa s e => by subst e; exact fun g2 H2 cls d => k g2 H2 σ cls d
theorem run1S {ω α : Type} {R : L2.St → G → Hp → ω → α → List Addr → Prop} {A : SL → Option (Res α)} {f : α → SL → Option SR} {r : SR} {Q : ω → Hp → Prop} (st : Sta K g H σ sl) (h : sb (A sl) f = some r) (hx : ∀ xa s, r = .ex xa s → Kx K W g H σ xa s)
    (hk : ∀ a s1 g1 H1 v S, f a s1 = some r → Nx g H g1 H1 → Sta K g1 H1 σ s1 → R σ g1 H1 v a S → Fresh g H S → Q v H1) : lft K R W A σ H Q := by
  unfold sb at h
  split at h
  · rename_i a s e
    exact ⟨g, sl, _, st, e, fun g1 H1 v S n st1 r f => hk a s g1 H1 v S h n st1 r f⟩
  · rename_i xa s e
    cases h
    exact ⟨g, sl, _, st, e, hx xa s rfl⟩
  · cases h
end
def aNext : AS := fun s => some (.nx s)
def aSeq (A B : AS) : AS := fun s => match A s with
  | some (.nx s1) => B s1
  | r => r
def aDrop (A : AE) : AS := fun s => sb (A s) fun _ s1 => some (.nx s1)
def aIfS (C : AT) (S T : AS) : AS := fun s => sb (C s) fun b s1 => if b = true then S s1 else T s1
def aBrk : AS := fun s => some (.bk s)
def aCont : AS := fun s => some (.ct s)
def aNever : AS := fun _ => none
/-- what is returned -/
def rtv (sl : SL) (t : TV) : Option (TV × SL) := match t with
  | .var i => match sl[i]? with
    | some (some (.w m)) => some (.t m, sl.set i none)
    | _ => (fz sl (.var i)).map fun r => (.d r.1, r.2)
  | .x _ => none
  | .c _ => none
  | .sub p i j m => (fz sl (.sub p i j m)).map fun r => (.d r.1, r.2)
  | t => some (t, sl)
def aRet (A : AE) : AS := fun s => sb (A s) fun t s1 => (rtv s1 t).map fun r => .rt r.1 r.2
def aRetN : AS := fun s => some (.rt (.d .none) s)
/-- a slot's tree is taken out -/
theorem Sta.takeA {K : PySem.W.Frag} {g0 g : G} {H0 H : Hp} {σ : L2.St} {sl : SL} {i : Nat} {m : MV} {v : V} {S : List Addr} (n : Nx g0 H0 g H) (st : Sta K g H σ sl) (h2 : Rep K g.F H v m S) (h3 : S.Nodup) (h4 : ∀ a ∈ S, g.lab a = some i) :
    ∃ g', Nx g0 H0 g' H ∧ Sta K g' H σ (sl.set i none) ∧ RTV K g' H σ v (.t m) S ∧ Fresh g0 H0 S ∧ g'.F = g.F ∧ g'.ro = g.ro ∧ (∀ a, g.lab a = none → g'.lab a = none) ∧ ∀ a, a ∉ S → g'.lab a = g.lab a := by
  have st0 : Sta K g H σ (sl.set i none) := st.forget
  refine ⟨{ g with lab := fun a => if a ∈ S then none else g.lab a }, ⟨n.ex, n.pi, n.ro, fun a f => ?_⟩, ⟨st0.ex, fun a z => ?_, fun a z => ?_, fun a z => ?_, st0.len, st0.d, fun j y q => ?_, fun j y q => ?_, fun j y q => st0.k j y q, st0.h, st0.x⟩, ⟨h2, h3, fun a z => ⟨?_, ?_, ?_⟩⟩, fun a z => st.notframed n (h4 a z), rfl, rfl, fun a z => ?_, fun a z => if_neg z⟩
  · obtain ⟨k1, k2, k3⟩ := n.out a f
    refine ⟨k1, k2, ?_⟩
    show (if a ∈ S then none else g.lab a) = none
    split
    · rfl
    · exact k3
  · have z' : (if a ∈ S then none else g.lab a) ≠ none := z
    split at z'
    · exact absurd rfl z'
    · exact st.lf a z'
  · have z' : (if a ∈ S then none else g.lab a) ≠ none := z
    split at z'
    · exact absurd rfl z'
    · exact st.la a z'
  · obtain ⟨k1, k2, k3⟩ := st.ro a z
    refine ⟨k1, k2, ?_⟩
    show (if a ∈ S then none else g.lab a) = none
    split
    · rfl
    · exact k3
  · rcases getset q with ⟨_, q⟩ | ⟨ne, q⟩
    · cases q
    · obtain ⟨w, U, k1, k2, k3, k4⟩ := st.w j y q
      refine ⟨w, U, k1, k2, k3, fun a z => ?_⟩
      show (if a ∈ S then none else g.lab a) = some j
      rw [if_neg fun z2 => ne (by have := h4 a z2; rw [k4 a z] at this; exact (Option.some.inj this).symm)]
      exact k4 a z
  · rcases getset q with ⟨_, q⟩ | ⟨ne, q⟩
    · cases q
    · obtain ⟨w, U, k1, k2, k3, k4⟩ := st.p j y q
      refine ⟨w, U, k1, k2, k3, fun a z => ?_⟩
      show (if a ∈ S then none else g.lab a) = some j
      rw [if_neg fun z2 => ne (by have := h4 a z2; rw [k4 a z] at this; exact (Option.some.inj this).symm)]
      exact k4 a z
  · exact st.lf a (by rw [h4 a z]; exact fun z => nomatch z)
  · exact if_pos z
  · intro q
    have := (st.ro a q).2.2
    rw [h4 a z] at this
    cases this
  · show (if a ∈ S then none else g.lab a) = none
    split
    · rfl
    · exact z
theorem Sta.take {K : PySem.W.Frag} {g0 g : G} {H0 H : Hp} {σ : L2.St} {sl : SL} {i : Nat} {m : MV} {v : V} (n : Nx g0 H0 g H) (st : Sta K g H σ sl) (h : sl[i]? = some (some (.w m))) (hv : σ[i]? = some (some v)) :
    ∃ g' S, Nx g0 H0 g' H ∧ Sta K g' H σ (sl.set i none) ∧ RTV K g' H σ v (.t m) S ∧ Fresh g0 H0 S ∧ g'.F = g.F ∧ g'.ro = g.ro ∧ (∀ a, g.lab a = none → g'.lab a = none) ∧ ∀ a ∈ S, g.lab a = some i := by
  obtain ⟨u, S, h1, h2, h3, h4⟩ := st.w i m h
  rw [hv] at h1; cases h1
  obtain ⟨g', a1, a2, a3, a4, a5, a6, a7, _⟩ := st.takeA n h2 h3 h4
  exact ⟨g', S, a1, a2, a3, a4, a5, a6, a7, h4⟩
theorem rtv_ok {K : PySem.W.Frag} {g0 g : G} {H0 H : Hp} {σ : L2.St} {sl sl' : SL} {v : V} {t t' : TV} {S : List Addr} (n : Nx g0 H0 g H) (f : Fresh g0 H0 S) (st : Sta K g H σ sl) (r : RTV K g H σ v t S) (h : rtv sl t = some (t', sl')) :
    ∃ g' S', Nx g0 H0 g' H ∧ Sta K g' H σ sl' ∧ RTV K g' H σ v t' S' ∧ Fresh g0 H0 S' := by
  cases t with
  | d x => cases h; exact ⟨g, S, n, st, r, f⟩
  | t m => cases h; exact ⟨g, S, n, st, r, f⟩
  | x ds => cases h
  | c ds => cases h
  | sub p i j m =>
    obtain ⟨⟨x, s1⟩, h1, h2⟩ := Option.map_eq_some_iff.mp (show (fz sl (.sub p i j m)).map (fun r => (TV.d r.1, r.2)) = some (t', sl') from h)
    cases h2
    obtain ⟨g', n', st', q⟩ := fz_ok n f st r h1
    exact ⟨g', [], n', st', ⟨rfl, q⟩, Fresh.nil _ _⟩
  | var i =>
    unfold rtv at h
    dsimp only at h
    split at h
    · rename_i m e
      cases h
      obtain ⟨g', S', n', st', r', f', _⟩ := st.take n e r.2
      exact ⟨g', S', n', st', r', f'⟩
    · obtain ⟨⟨x, s1⟩, h1, h2⟩ := Option.map_eq_some_iff.mp h
      cases h2
      obtain ⟨g', n', st', q⟩ := fz_ok n f st r h1
      exact ⟨g', [], n', st', ⟨rfl, q⟩, Fresh.nil _ _⟩
/-! ### a child of a tree as a slot of its own, for one step -/
/-- what a def hands back is a value of its own -/
def OwnT : TV → Prop
  | .d _ => True
  | .t _ => True
  | _ => False
def closeS (N : Nat) (p : Bool) (i j : Nat) (m : MV) (s : SL) : Option SL := match s[N]? with
  | some (some (.w c)) => some (bk (s.take N) p i (setKid m j c))
  | _ => none
section
variable {K : PySem.W.Frag} {g g0 : G} {H H0 : Hp} {σ τ : L2.St} {sl : SL} {v u vc : V} {t : TV} {S Z T U : List Addr}
theorem RTV.ext (r : RTV K g H σ v t S) : RTV K g H (σ ++ τ) v t S := by
  have up : ∀ {i : Nat} {x : Option V}, σ[i]? = some x → (σ ++ τ)[i]? = some x := fun {i x} h => by
    rw [List.getElem?_append_left (List.getElem?_eq_some_iff.mp h).1]; exact h
  cases t with
  | d x => exact r
  | t m => exact r
  | x ds => exact r
  | c ds => exact r
  | var i => exact ⟨r.1, up r.2⟩
  | sub p i j m => obtain ⟨v0, ⟨e, e'⟩, r⟩ := r; exact ⟨v0, ⟨up e, e'⟩, r⟩
theorem RTV.own {σ' : L2.St} (o : OwnT t) (r : RTV K g H σ v t S) : RTV K g H σ' v t S := by
  cases t with
  | d x => exact r
  | t m => exact r
  | x ds => exact o.elim
  | c ds => exact o.elim
  | var i => exact o.elim
  | sub p i j m => exact o.elim
theorem Sta.dropN (st : Sta K g H (σ ++ τ) sl) : Sta K g H σ (sl.take σ.length) := by
  have dn : ∀ {i : Nat} {y : SV}, (sl.take σ.length)[i]? = some (some y) → sl[i]? = some (some y) ∧ (σ ++ τ)[i]? = σ[i]? := fun {i y} h => by
    rw [List.getElem?_take] at h
    split at h
    · rename_i hi
      exact ⟨h, List.getElem?_append_left hi⟩
    · cases h
  have hl := st.len
  rw [List.length_append] at hl
  refine ⟨st.ex, st.lf, st.la, st.ro, by rw [List.length_take]; omega, fun i y q => ?_, fun i y q => ?_, fun i y q => ?_, fun i y q => ?_, fun i q => ?_, fun i y q => ?_⟩
  all_goals
    obtain ⟨h1, h2⟩ := dn q
    rw [← h2]
  · exact st.d i y h1
  · exact st.w i y h1
  · exact st.p i y h1
  · exact st.k i y h1
  · exact st.h i h1
  · exact st.x i y h1
theorem Sta.ext1 (st : Sta K g H σ sl) (n : Nx g0 H0 g H) (f : Fresh g0 H0 T) {c : MV} (r : RTV K g H σ vc (.t c) T) : Nx g0 H0 (labG g T σ.length) H ∧ Sta K (labG g T σ.length) H (σ ++ [some vc]) (sl ++ [some (.w c)]) := by
  have st0 : Sta K g H (σ ++ [none]) (sl ++ [none]) := by
    have lt : ∀ {i : Nat} {y : SV}, (sl ++ [none])[i]? = some (some y) → sl[i]? = some (some y) ∧ (σ ++ [none])[i]? = σ[i]? := fun {i y} h => by
      by_cases hi : i < sl.length
      · rw [List.getElem?_append_left hi] at h
        exact ⟨h, List.getElem?_append_left (by rw [st.len]; exact hi)⟩
      · rw [List.getElem?_append_right (by omega)] at h
        cases e : i - sl.length with
        | zero => rw [e] at h; cases h
        | succ k => rw [e] at h; cases h
    refine ⟨st.ex, st.lf, st.la, st.ro, by simp [st.len], fun i y q => ?_, fun i y q => ?_, fun i y q => ?_, fun i y q => ?_, fun i q => ?_, fun i y q => ?_⟩
    all_goals
      obtain ⟨h1, h2⟩ := lt q
      rw [h2]
    · exact st.d i y h1
    · exact st.w i y h1
    · exact st.p i y h1
    · exact st.k i y h1
    · exact st.h i h1
    · exact st.x i y h1
  have := st0.setW n f r.ext (i := σ.length)
  rw [List.set_append_right _ _ (Nat.le_refl _), Nat.sub_self, st.len, List.set_append_right _ _ (Nat.le_refl _), Nat.sub_self] at this
  rw [st.len]
  exact this
/-- open a child, and what that asks at the end -/
theorem sub_open {p : Bool} {i j : Nat} {m c : MV} (n : Nx g0 H0 g H) (fZ : Fresh g0 H0 Z) (fU : Fresh g0 H0 U) (ap : ∀ a ∈ Z, a ∉ U) (st : Sta K g H σ sl) (r : RTV K g H σ vc (.sub p i j m) Z) (hc : kid m j = some c) :
    ∃ g1 gb T, Nx gb H g1 H ∧ Sta K g1 H (σ ++ [some vc]) (sl ++ [some (.w c)]) ∧ Fresh gb H U ∧ (∀ a ∈ T, a ∈ Z) ∧ g1 = labG g T σ.length ∧ (∀ a, Framed g0 H0 a → Framed gb H a) ∧
      ∀ g2 H2 s3 s4, Nx gb H g2 H2 → Sta K g2 H2 (σ ++ [some vc]) s3 → closeS sl.length p i j m s3 = some s4 → ∃ g3, Nx g0 H0 g3 H2 ∧ Sta K g3 H2 σ s4 ∧ (∀ u t X, OwnT t → RTV K g2 H2 (σ ++ [some vc]) u t X → Fresh gb H X → RTV K g3 H2 σ u t X ∧ Fresh g0 H0 X) ∧ Ex g2.F g3.F := by
  obtain ⟨v0, ⟨hv, hp⟩, rr, kv, _⟩ := r
  obtain ⟨v1, P, T, B, k1, k2, k3, k4⟩ := rr.1.kid hc
  obtain rfl := k1.inj kv
  subst k3
  have nd := List.nodup_append.mp rr.2.1
  have nd2 := List.nodup_append.mp nd.2.1
  have inT : ∀ a ∈ T, a ∈ P ++ (T ++ B) := fun a z => List.mem_append_right _ (List.mem_append_left _ z)
  have inPB : ∀ a, a ∈ P ∨ a ∈ B → a ∈ P ++ (T ++ B) := fun a z => z.elim (fun z => List.mem_append_left _ z) fun z => List.mem_append_right _ (List.mem_append_right _ z)
  have nPB : ∀ a, a ∈ P ∨ a ∈ B → a ∉ T := fun a z z2 => by
    rcases z with z | z
    · exact nd.2.2 a z a (List.mem_append_left _ z2) rfl
    · exact nd2.2.2 a z2 a z rfl
  obtain ⟨n1, st1⟩ := st.ext1 n (fun a z => fZ a (inT a z)) (vc := v1) (c := c) ⟨k2, nd2.1, fun a z => rr.2.2 a (inT a z)⟩
  -- the base: all that others hold is not framed there
  have gbx : Nx (labG (labG g T σ.length) U 0) H (labG g T σ.length) H := ⟨fun _ _ z => z, rfl, rfl, fun a f => by
    refine ⟨rfl, f.2.1, ?_⟩
    by_cases z : a ∈ U
    · have := f.2.2; rw [labG_in z] at this; cases this
    · have := f.2.2; rw [labG_ne z] at this; exact this⟩
  have frd : ∀ a, Framed g0 H0 a → Framed (labG (labG g T σ.length) U 0) H a := fun a f => by
    have f1 := n1.fr f
    exact ⟨f1.1, f1.2.1, by rw [labG_ne fun z => fU a z f]; exact f1.2.2⟩
  have frPB : ∀ a, a ∈ P ∨ a ∈ B → Framed (labG (labG g T σ.length) U 0) H a := fun a z =>
    ⟨rr.1.keep a (inPB a z), (rr.2.2 a (inPB a z)).1, by rw [labG_ne (ap a (inPB a z)), labG_ne (nPB a z)]; exact (rr.2.2 a (inPB a z)).2.1⟩
  refine ⟨_, _, T, gbx, st1, (fun a z f => by have := f.2.2; rw [labG_in z] at this; cases this), inT, rfl, frd, fun g2 H2 s3 s4 n2 st2 hcl => ?_⟩
  unfold closeS at hcl
  split at hcl
  · rename_i c' ec
    cases hcl
    have hvc : (σ ++ [some v1])[sl.length]? = some (some v1) := by rw [← st.len]; simp
    obtain ⟨g3, T', n3, st3, r3, f3, eF, er, el, lT⟩ := st2.take n2 ec hvc
    have st4 : Sta K g3 H2 σ (s3.take sl.length) := by
      have := st3.dropN
      rw [st.len, List.take_set_of_le (Nat.le_refl _)] at this
      exact this
    have outPB : ∀ a, a ∈ P ∨ a ∈ B → H2 a = H a ∧ g3.F a = none ∧ g3.lab a = none := fun a z => n3.out a (frPB a z)
    have exF : Ex g.F g3.F := n3.ex
    obtain ⟨r0, _⟩ := k4 g3.F H2 c' T' exF (fun b z => (outPB b z).1) r3.1
    have dT : ∀ a ∈ T', ¬ (a ∈ P ∨ a ∈ B) := fun a z z2 => f3 a z (frPB a z2)
    have roe : ∀ a, g3.RO a → g.RO a := fun a z => by
      have : g3.ro = g.ro := n3.ro
      unfold G.RO at z ⊢
      rw [this] at z; exact z
    have f0 : ∀ {X : List Addr}, Fresh (labG (labG g T σ.length) U 0) H X → Fresh g0 H0 X := fun f a z q => f a z (frd a q)
    have mem3 : ∀ a ∈ P ++ (T' ++ B), (a ∈ P ∨ a ∈ B) ∨ a ∈ T' := fun a z => by
      rcases List.mem_append.mp z with z | z
      · exact .inl (.inl z)
      · rcases List.mem_append.mp z with z | z
        · exact .inr z
        · exact .inl (.inr z)
    have rt : RTV K g3 H2 σ v0 (.t (setKid m j c')) (P ++ (T' ++ B)) := by
      refine ⟨r0, List.nodup_append.mpr ⟨nd.1, List.nodup_append.mpr ⟨r3.2.1, nd2.2.1, fun a za b zb e => dT a za (.inr (e ▸ zb))⟩, fun a za b zb e => ?_⟩, fun a z => ?_⟩
      · subst e
        rcases List.mem_append.mp zb with zb | zb
        · exact dT a zb (.inl za)
        · exact nd.2.2 a za a (List.mem_append_right _ zb) rfl
      · rcases mem3 a z with z | z
        · exact ⟨(outPB a z).2.1, (outPB a z).2.2, fun q => (rr.2.2 a (inPB a z)).2.2 (roe a q)⟩
        · exact r3.2.2 a z
    have n30 : Nx g0 H0 g3 H2 := ⟨fun a o z => n3.ex a o (n1.ex a o z), n3.pi.trans n1.pi, n3.ro.trans n1.ro, fun a f => by
      obtain ⟨h1, h2, h3⟩ := n3.out a (frd a f)
      exact ⟨h1.trans (n1.out a f).1, h2, h3⟩⟩
    obtain ⟨n4, st5⟩ := st4.back n30 (fun a z => by
      rcases mem3 a z with z | z
      · exact fZ a (inPB a z)
      · exact f0 f3 a z) hv (fun z => by rw [n3.pi]; exact hp z) rt
    refine ⟨_, n4, st5, fun u t X o rX fX => ⟨?_, f0 fX⟩, fun a o z => by rw [show (labG g3 (P ++ (T' ++ B)) i).F = g3.F from rfl, eF]; exact z⟩
    have rX3 : RTV K g3 H2 σ u t X := by
      have rX' := rX.own (σ' := σ) o
      cases t with
      | d x => exact ⟨rX'.1, by rw [eF]; exact rX'.2⟩
      | t m => exact ⟨by rw [eF]; exact rX'.1, rX'.2.1, fun a z => ⟨by rw [eF]; exact (rX'.2.2 a z).1, el a (rX'.2.2 a z).2.1, fun q => (rX'.2.2 a z).2.2 (by unfold G.RO at q ⊢; rw [er] at q; exact q)⟩⟩
      | x ds => exact o.elim
      | c ds => exact o.elim
      | var i => exact o.elim
      | sub p i j m => exact o.elim
    refine RTV.lab rX3 fun a z z2 => ?_
    rcases mem3 a z with z | z
    · exact fX a z2 (frPB a z)
    · cases t with
      | d x => rw [rX.1] at z2; cases z2
      | t m => have := (rX.2.2 a z2).2.1; rw [lT a z] at this; cases this
      | x ds => exact o.elim
      | c ds => exact o.elim
      | var i => exact o.elim
      | sub p i j m => exact o.elim
  · cases hcl
end
/-! targets -/
abbrev AG := TV → SL → Option SL
abbrev AGs := List D → SL → Option SL
def GRel (K : PySem.W.Frag) (Ga : AG) (gt : TG) : Prop := ∀ g0 H0 g H σ sl sl' v t S Q, Nx g0 H0 g H → Sta K g H σ sl → RTV K g H σ v t S → Fresh g0 H0 S → Ga t sl = some sl' → (∀ g' H' σ', Nx g0 H0 g' H' → Sta K g' H' σ' sl' → Q σ' H') → gt v σ H Q
def GsRel (K : PySem.W.Frag) (Ga : AGs) (gt : TGs) : Prop := ∀ g0 H0 g H σ sl sl' vs ds Q, Nx g0 H0 g H → Sta K g H σ sl → RDs K g.F vs ds → Ga ds sl = some sl' → (∀ g' H' σ', Nx g0 H0 g' H' → Sta K g' H' σ' sl' → Q σ' H') → gt vs σ H Q
def aName (i : Nat) : AG := fun t s => match t with
  | .d x => some (s.set i (some (.d x)))
  | .t m => some (s.set i (some (.w m)))
  | .x ds => some (s.set i (some (.x ds)))
  | .var j => (fz s (.var j)).map fun r => r.2.set i (some (.d r.1))
  | .c _ => none
  | .sub p k j m => (fz s (.sub p k j m)).map fun r => r.2.set i (some (.d r.1))
/-- .. as data -/
def aNameF (i : Nat) : AG := fun t s => match t with
  | .x ds => some (s.set i (some (.x ds)))
  | t => (fz s t).map fun r => r.2.set i (some (.d r.1))
def aGNil : AGs := fun ds s => match ds with
  | [] => some s
  | _ => none
def aGCons (t : AG) (u : AGs) : AGs := fun ds s => match ds with
  | d :: r => (t (.d d) s).bind fun s1 => u r s1
  | [] => none
def aGTup (n : Nat) (ts : AGs) : AG := fun t s => match t with
  | .d (.tuple ds) => if ds.length = n then ts ds s else none
  | _ => none
section
variable {K : PySem.W.Frag}
theorem gr_nameF {i : Nat} : GRel K (aNameF i) (gName i) := by
  intro g0 H0 g H σ sl sl' v t S Q n st r f h k
  have base : (fz sl t).map (fun r => r.2.set i (some (SV.d r.1))) = some sl' → gName i v σ H Q := fun h => by
    obtain ⟨⟨x, s1⟩, h1, rfl⟩ := Option.map_eq_some_iff.mp h
    obtain ⟨g1, n1, st1, q⟩ := fz_ok n f st r h1
    exact k g1 H _ n1 (st1.setD q)
  cases t with
  | x ds =>
    cases h
    obtain ⟨_, a, vs, rfl, h2, h3⟩ := r
    exact k g H _ n (st.setX h2 h3)
  | d x => exact base h
  | t m => exact base h
  | var j => exact base h
  | c j => exact base h
  | sub p i j m => exact base h
theorem gr_name {i : Nat} : GRel K (aName i) (gName i) := by
  intro g0 H0 g H σ sl sl' v t S Q n st r f h k
  cases t with
  | x ds =>
    cases h
    obtain ⟨_, a, vs, rfl, h2, h3⟩ := r
    exact k g H _ n (st.setX h2 h3)
  | c ds => cases h
  | d x => cases h; exact k g H _ n (st.setD r.2)
  | t m =>
    cases h
    obtain ⟨n1, st1⟩ := st.setW n f r (i := i)
    exact k _ H _ n1 st1
  | var j =>
    obtain ⟨⟨x, s1⟩, h1, rfl⟩ := Option.map_eq_some_iff.mp (show (fz sl (.var j)).map (fun r => r.2.set i (some (SV.d r.1))) = some sl' from h)
    obtain ⟨g1, n1, st1, q⟩ := fz_ok n f st r h1
    exact k g1 H _ n1 (st1.setD q)
  | sub p j q m =>
    obtain ⟨⟨x, s1⟩, h1, rfl⟩ := Option.map_eq_some_iff.mp (show (fz sl (.sub p j q m)).map (fun r => r.2.set i (some (SV.d r.1))) = some sl' from h)
    obtain ⟨g1, n1, st1, q⟩ := fz_ok n f st r h1
    exact k g1 H _ n1 (st1.setD q)
theorem gr_nil : GsRel K aGNil gNil := by
  intro g0 H0 g H σ sl sl' vs ds Q n st r h k
  cases ds with
  | nil => cases h; cases r; exact ⟨rfl, k g H σ n st⟩
  | cons d r => cases h
theorem gr_cons {t : AG} {u : AGs} {tc : TG} {uc : TGs} (h1 : GRel K t tc) (h2 : GsRel K u uc) : GsRel K (aGCons t u) (gCons tc uc) := by
  intro g0 H0 g H σ sl sl' vs ds Q n st r h k
  cases ds with
  | nil => cases h
  | cons d ds =>
    obtain ⟨s1, e1, e2⟩ := Option.bind_eq_some_iff.mp h
    cases r with
    | cons r1 r2 =>
      refine ⟨_, _, rfl, h1 g H g H σ sl s1 _ (.d d) [] _ (Nx.refl _ _) st ⟨rfl, r1⟩ (Fresh.nil _ _) e1 fun g1 H1 σ1 n1 st1 => ?_⟩
      exact h2 g0 H0 g1 H1 σ1 s1 sl' _ ds Q (n.trans n1) st1 (r2.mono n1.ex) e2 k
theorem gr_tup {n : Nat} {ts : AGs} {tc : TGs} (h : GsRel K ts tc) : GRel K (aGTup n ts) (gTup K n tc) := by
  intro g0 H0 g H σ sl sl' v t S Q nn st r f e k
  unfold aGTup at e
  split at e
  · rename_i ds
    split at e
    · rename_i hl
      obtain ⟨_, r⟩ := r
      cases r with
      | tup h1 h2 => exact ⟨_, _, rfl, SqT.of (st.ex _ _ h1), by rw [h2.length]; exact hl, h g0 H0 g H σ sl sl' _ ds Q nn st h2 e k⟩
    · cases e
  · cases e
end
def aAsg (A : AE) (Ga : AG) : AS := fun s => sb (A s) fun t s1 => (Ga t s1).map .nx
section
variable {X : Cx} {W : WX} {pos : Pos} {st : Stmt} {rest : List Stmt} {S T : AS} {A : AE} {C : AT} {e c : Expr}
theorem ss_nil : PSs X [] (sL X.K W aNext) := PSsm pss_nil fun D σ H ⟨g, sl, r, st, e, k⟩ => by cases e; exact k g H σ (Nx.refl _ _) st
theorem s_pass : PS X (.Pass pos) (sL X.K W aNext) := PSm ps_pass fun D σ H ⟨g, sl, r, st, e, k⟩ => by cases e; exact k g H σ (Nx.refl _ _) st
theorem s_break : PS X (.Break pos) (sL X.K W aBrk) := PSm ps_break fun D σ H ⟨g, sl, r, st, e, k⟩ => by cases e; exact k g H σ (Nx.refl _ _) st
theorem s_continue : PS X (.Continue pos) (sL X.K W aCont) := PSm ps_continue fun D σ H ⟨g, sl, r, st, e, k⟩ => by cases e; exact k g H σ (Nx.refl _ _) st
theorem s_never : PS X st (sL X.K W aNever) := PSm ps_never fun _ _ _ ⟨_, _, _, _, e, _⟩ => by cases e
theorem ss_never {sts : List Stmt} : PSs X sts (sL X.K W aNever) := PSsm pss_never fun _ _ _ ⟨_, _, _, _, e, _⟩ => by cases e
theorem ss_cons (h1 : PS X st (sL X.K W S)) (h2 : PSs X rest (sL X.K W T)) : PSs X (st :: rest) (sL X.K W (aSeq S T)) :=
  PSsm (pss_cons h1 h2) fun D σ H ⟨g, sl, r, st, e, k⟩ => by
    unfold aSeq at e
    cases eS : S sl with
    | none => rw [eS] at e; cases e
    | some q =>
      rw [eS] at e
      cases q with
      | nx s1 => exact ⟨g, sl, _, st, eS, fun g1 H1 σ1 n1 st1 => ⟨g1, s1, r, st1, e, k.mono n1⟩⟩
      | bk s1 => cases e; exact ⟨g, sl, _, st, eS, k⟩
      | ct s1 => cases e; exact ⟨g, sl, _, st, eS, k⟩
      | rt t s1 => cases e; exact ⟨g, sl, _, st, eS, k⟩
      | ex t s1 => cases e; exact ⟨g, sl, _, st, eS, k⟩
theorem ss_one (h1 : PS X st (sL X.K W S)) : PSs X [st] (sL X.K W S) := pss_one h1
theorem s_expr (he : PE X e (eL X.K W A)) (hs : swapsWith e none pos.line X.env = pure false := by rfl) : PS X (.Expr e pos) (sL X.K W (aDrop A)) :=
  PSm (ps_expr he hs) fun D σ H ⟨g, sl, r, st, e, k⟩ => run1S (R := RV X.K) st e (k.x σ) fun t s1 g1 H1 v U e1 n1 st1 r1 f1 => by
    cases e1
    exact k g1 H1 σ n1 st1
theorem s_ret (he : PE X e (eL X.K W A)) : PS X (.Return (some e) pos) (sL X.K W (aRet A)) :=
  PSm (ps_ret he) fun D σ H ⟨g, sl, r, st, e, k⟩ => run1S (R := RV X.K) st e (k.x σ) fun t s1 g1 H1 v U e1 n1 st1 r1 f1 => by
    obtain ⟨⟨t', s2⟩, e2, rfl⟩ := Option.map_eq_some_iff.mp e1
    obtain ⟨g2, U2, n2, st2, r2, f2⟩ := rtv_ok n1 f1 st1 r1 e2
    exact k g2 H1 σ v U2 n2 st2 r2 f2
theorem s_retN : PS X (.Return none pos) (sL X.K W aRetN) :=
  PSm ps_retN fun D σ H ⟨g, sl, r, st, e, k⟩ => by cases e; exact k g H σ .non [] (Nx.refl _ _) st ⟨rfl, .non⟩ (Fresh.nil _ _)
theorem s_if {a b : List Stmt} (hc : PT X c (tL X.K W C)) (ha : PSs X a (sL X.K W S)) (hb : PSs X b (sL X.K W T)) : PS X (.If c a b pos) (sL X.K W (aIfS C S T)) :=
  PSm (ps_if hc ha hb) fun D σ H ⟨g, sl, r, st, e, k⟩ => run1S (R := RB) st e (k.x σ) fun b s1 g1 H1 b' U e1 n1 st1 r1 f1 => by
    obtain ⟨rfl, rfl⟩ := r1
    cases b' with
    | true => exact ⟨g1, s1, r, st1, e1, k.mono n1⟩
    | false => exact ⟨g1, s1, r, st1, e1, k.mono n1⟩
theorem asg_lift {Ga : AG} {gt : TG} (gr : GRel X.K Ga gt) (D : Ends) (σ : L2.St) (H : Hp) (h : sL X.K W (aAsg A Ga) D σ H) : tAsg (eL X.K W A) gt D σ H := by
  obtain ⟨g, sl, r, st, e, k⟩ := h
  refine run1S (R := RV X.K) st e (k.x σ) fun t s1 g1 H1 v U e1 n1 st1 r1 f1 => ?_
  obtain ⟨s2, e2, rfl⟩ := Option.map_eq_some_iff.mp e1
  exact gr g H g1 H1 σ s1 s2 v t U D.nx n1 st1 r1 f1 e2 fun g2 H2 σ2 n2 st2 => k g2 H2 σ2 n2 st2
theorem s_set {i : Nat} {x : Str} {pos' : Pos} (hN : X.N.Nodup) (hi : X.N[i]? = some x) (hx : Loc X.env.scope x) (he : PE X e (eL X.K W A)) (hs : swapsWith e (some (.Name x pos')) pos.line X.env = pure false := by rfl) (hf : X.fn x = true ∨ X.env.scope.names.lookup x = some .local := by first | exact .inl rfl | exact .inr rfl | assumption) :
    PS X (.Assign [.Name x pos'] e pos) (sL X.K W (aAsg A (aName i))) := PSm (ps_set hN hi hx he hs hf) (asg_lift gr_name)
theorem s_setF {i : Nat} {x : Str} {pos' : Pos} (hN : X.N.Nodup) (hi : X.N[i]? = some x) (hx : Loc X.env.scope x) (he : PE X e (eL X.K W A)) (hs : swapsWith e (some (.Name x pos')) pos.line X.env = pure false := by rfl) (hf : X.fn x = true ∨ X.env.scope.names.lookup x = some .local := by first | exact .inl rfl | exact .inr rfl | assumption) :
    PS X (.Assign [.Name x pos'] e pos) (sL X.K W (aAsg A (aNameF i))) := PSm (ps_set hN hi hx he hs hf) (asg_lift gr_nameF)
theorem s_asg {tg : Expr} {Ga : AG} {gt : TG} (hg : PG X tg gt) (gr : GRel X.K Ga gt) (he : PE X e (eL X.K W A)) (hs : swapsWithSole [tg] e pos.line X.env = pure false := by rfl) (hw : swappedStores [tg] e X.env = pure none := by rfl)
    (h1 : (assignEach [tg] X.env).map (·.2) = [assign tg X.env] := by rfl) : PS X (.Assign [tg] e pos) (sL X.K W (aAsg A Ga)) := PSm (ps_asg he hg hs hw h1) (asg_lift gr)
/-- a, b = x, y -/
def aPar (i j : Nat) (R : AA) : AS := fun s => sb (R s) fun ts s1 => (fzs s1 ts).bind fun r => match r.1 with
  | [x, y] => some (.nx ((r.2.set i (some (.d x))).set j (some (.d y))))
  | _ => none
theorem s_par {R : AA} {i j : Nat} {x y : Str} {a b : Expr} {px py pt : Pos} {kt k2 pt2} (hc : X.calm = true) (hN : X.N.Nodup) (hi : X.N[i]? = some x) (hj : X.N[j]? = some y) (hij : i ≠ j)
    (hx : X.env.scope.names.lookup x = some .local) (hy : X.env.scope.names.lookup y = some .local) (ha : PA X [a, b] (aL X.K W R))
    (hw : swappedStores [.Tuple [.Name x px, .Name y py] kt pt] (.Tuple [a, b] k2 pt2) X.env = pure (some [x, y]))
    (hs : swapsWithSole [.Tuple [.Name x px, .Name y py] kt pt] (.Tuple [a, b] k2 pt2) pos.line X.env = pure false := by rfl) :
    PS X (.Assign [.Tuple [.Name x px, .Name y py] kt pt] (.Tuple [a, b] k2 pt2) pos) (sL X.K W (aPar i j R)) :=
  PSm (ps_par hc hN hi hj hij hx hy ha hw hs) fun D σ H ⟨g, sl, r, st, e, k⟩ => run1S (R := RL X.K) st e (k.x σ) fun ts s1 g1 H1 vs U e1 n1 st1 r1 f1 => by
    obtain ⟨⟨ds, s2⟩, e2, e3⟩ := Option.bind_eq_some_iff.mp e1
    obtain ⟨g2, n2, st2, q, _⟩ := fzs_ok n1 f1 st1 r1 e2
    dsimp only at e3
    split at e3
    · cases e3
      cases q with
      | cons q1 q2 => cases q2 with
        | cons q2 q3 =>
          cases q3
          exact ⟨_, _, rfl, k g2 H1 _ n2 ((st2.setD q1).setD q2)⟩
    · cases e3
/-- name op= e, of data -/
abbrev OIp := D → D → Option D
def CoIp (K : PySem.W.Frag) (r : TIp) (o : OIp) : Prop := ∀ F H x y dx dy z Q, RD K F x dx → RD K F y dy → o dx dy = some z → (∀ v, RD K F v z → Q v H) → r x y H Q
def aAug (i : Nat) (A : AE) (o : OIp) : AS := fun s => match s[i]? with
  | some (some (.d x)) => sb (A s) fun t s1 => match t with
    | .d y => (o x y).map fun z => .nx (s1.set i (some (.d z)))
    | _ => none
  | _ => none
theorem s_aug {i : Nat} {x : Str} {op : Operator} {ti : TIp} {o : OIp} {pos' : Pos} (hN : X.N.Nodup) (hi : X.N[i]? = some x) (hx : Loc X.env.scope x) (ho : PIp X op ti) (co : CoIp X.K ti o) (he : PE X e (eL X.K W A)) (hf : X.fn x = true ∨ X.env.scope.names.lookup x = some .local := by first | exact .inl rfl | exact .inr rfl | assumption) :
    PS X (.AugAssign (.Name x pos') op e pos) (sL X.K W (aAug i A o)) :=
  PSm (ps_aug hN hi hx he ho hf) fun D σ H ⟨g, sl, r, st, e, k⟩ => by
    unfold aAug at e
    split at e
    · rename_i dx e0
      obtain ⟨v, h1, h2⟩ := st.d i dx e0
      refine ⟨v, h1, run1S (R := RV X.K) st e (k.x σ) fun t s1 g1 H1 u U e1 n1 st1 r1 f1 => ?_⟩
      split at e1
      · obtain ⟨z, e2, rfl⟩ := Option.map_eq_some_iff.mp e1
        exact co g1.F H1 v u dx _ z _ (h2.mono n1.ex) r1.2 e2 fun w q => k g1 H1 _ n1 (st1.setD q)
      · cases e1
    · cases e
def ipAdd : OIp := fun x y => match x, y with
  | .int i, .int j => some (.int (i + j))
  | _, _ => none
def ipSub : OIp := fun x y => match x, y with
  | .int i, .int j => some (.int (i - j))
  | _, _ => none
theorem co_ipAdd {K : PySem.W.Frag} : CoIp K (ipI fun i j => i + j) ipAdd := by
  intro F H x y dx dy z Q rx ry h k
  unfold ipAdd at h
  split at h
  · cases h; cases rx; cases ry
    exact ⟨_, _, rfl, rfl, k _ (.int _)⟩
  · cases h
theorem co_ipSub {K : PySem.W.Frag} : CoIp K (ipI fun i j => i - j) ipSub := by
  intro F H x y dx dy z Q rx ry h k
  unfold ipSub at h
  split at h
  · cases h; cases rx; cases ry
    exact ⟨_, _, rfl, rfl, k _ (.int _)⟩
  · cases h
/-- slots are forgotten -/
def aKill (is : List Nat) : AS := fun s => some (.nx (is.foldl (fun s i => s.set i none) s))
theorem Sta.kill {K : PySem.W.Frag} {g : G} {H : Hp} {σ : L2.St} : ∀ (is : List Nat) {sl : SL}, Sta K g H σ sl → Sta K g H σ (is.foldl (fun s i => s.set i none) sl)
  | [], _, st => st
  | i :: is, _, st => Sta.kill is (st.forget (i := i))
theorem ss_kill (is : List Nat) {sts : List Stmt} (h : PSs X sts (sL X.K W S)) : PSs X sts (sL X.K W (aSeq (aKill is) S)) := PSsm h fun D σ H ⟨g, sl, r, st, e, k⟩ => ⟨g, _, r, st.kill is, e, k⟩
end
end Y

/-! Layer Y, part T: children of trees: taken, read, handed over. -/
namespace Y
open PySem PySem.Spec PyProof.Rows L2 Evl
section
variable {K : PySem.W.Frag}
/-- x[i] where the child is a tree: the whole tree in hand -/
def isP (sl : SL) (i : Nat) : Bool := match sl[i]? with
  | some (some (.p _)) => true
  | _ => false
theorem var_own {g : G} {H : Hp} {σ : L2.St} {sl : SL} {v : V} {i : Nat} {S : List Addr} {m : MV} (st : Sta K g H σ sl) (r : RTV K g H σ v (.var i) S) (h : wAt sl i = some m) : σ[i]? = some (some v) ∧ ∃ U, Rep K g.F H v m U ∧ U.Nodup ∧ ∀ a ∈ U, g.lab a = some i := by
  obtain ⟨u, U, h1, h2, h3, h4⟩ := st.own h
  rw [r.2] at h1
  cases h1
  exact ⟨r.2, U, h2, h3, h4⟩
def oSubL : O2 := fun sl x y => match x, y with
  | .var i, .d (.int q) => match wAt sl i with
    | some (.lst ms) => (ixN ms.length q).bind fun j => (ms[j]?).map fun _ => (.sub (isP sl i) i j (.lst ms), sl.set i none)
    | _ => none
  | _, _ => none
theorem co_subL : Co2 K (rIxA K) oSubL := by
  intro g0 H0 g H σ sl x y tx ty S T tv sl' Q n st rx fx ry fy ap h k
  unfold oSubL at h
  split at h
  · rename_i i q
    split at h
    · rename_i ms ew
      obtain ⟨j, e1, h⟩ := Option.bind_eq_some_iff.mp h
      obtain ⟨c, e2, h⟩ := Option.map_eq_some_iff.mp h
      cases h
      obtain ⟨_, ry⟩ := ry
      cases ry
      obtain ⟨hv, U, rp, nd, lb⟩ := var_own st rx ew
      obtain ⟨g1, n1, st1, r1, f1, eF, er, el, _⟩ := st.takeA n rp nd lb
      have rp0 := rp
      cases rp with
      | @lst a vs _ Z ha hr =>
        obtain ⟨u, V', k1, k3, k2⟩ := at_kid hr e1 e2
        refine .inr (.inl ⟨a, vs, q, u, rfl, rfl, SqL.of ha, k1, k g1 H u (a :: Z) n1 st1 ⟨_, ⟨hv, fun hp => ?_⟩, r1, ⟨a, rfl, .inl ⟨vs, ha, k3⟩⟩, c, e2⟩ f1⟩)
        unfold isP at hp
        split at hp
        · rename_i m' ep
          obtain ⟨u', U', ⟨p1, p2⟩, _⟩ := st.p i _ ep
          rw [hv] at p1; cases p1
          rw [n1.pi, ← n.pi]; exact p2
        · cases hp
    · cases h
  · cases h
/-! steps on a child, as on a slot -/
def ownB : TV → Bool
  | .d _ => true
  | .t _ => true
  | _ => false
theorem ownB_ok {t : TV} (h : ownB t = true) : OwnT t := by
  cases t <;> first | trivial | cases h
def closeT (N : Nat) (p : Bool) (i j : Nat) (m : MV) (r : Option (TV × SL)) : Option (TV × SL) := r.bind fun r => if ownB r.1 = true then (closeS N p i j m r.2).map fun s => (r.1, s) else none
theorem closeT_ok {N : Nat} {p : Bool} {i j : Nat} {m : MV} {r : Option (TV × SL)} {tv : TV} {s : SL} (h : closeT N p i j m r = some (tv, s)) : ∃ s', r = some (tv, s') ∧ OwnT tv ∧ closeS N p i j m s' = some s := by
  obtain ⟨⟨t, s'⟩, h1, h2⟩ := Option.bind_eq_some_iff.mp h
  split at h2
  · rename_i ho
    obtain ⟨s2, h3, h4⟩ := Option.map_eq_some_iff.mp h2
    cases h4
    exact ⟨s', h1, ownB_ok ho, h3⟩
  · cases h2
/-- what is left to do once a child is open -/
theorem sub_kg {g0 : G} {H0 H : Hp} {σ : L2.St} {sl s3 s4 : SL} {vc : V} {p : Bool} {i j : Nat} {m : MV} {gb : G} {Q : VK} {tv : TV} (o : OwnT tv) (hcl : closeS sl.length p i j m s3 = some s4) (k : Kg K (RV K σ) σ Q g0 H0 tv s4)
    (fin : ∀ g2 H2 s3 s4, Nx gb H g2 H2 → Sta K g2 H2 (σ ++ [some vc]) s3 → closeS sl.length p i j m s3 = some s4 → ∃ g3, Nx g0 H0 g3 H2 ∧ Sta K g3 H2 σ s4 ∧ (∀ u t X, OwnT t → RTV K g2 H2 (σ ++ [some vc]) u t X → Fresh gb H X → RTV K g3 H2 σ u t X ∧ Fresh g0 H0 X) ∧ Ex g2.F g3.F) : Kg K (RV K (σ ++ [some vc])) (σ ++ [some vc]) Q gb H tv s3 := fun g2 H2 v X n2 st2 r2 f2 => by
  obtain ⟨g3, n3, st3, cv, _⟩ := fin g2 H2 s3 s4 n2 st2 hcl
  obtain ⟨r3, f3⟩ := cv v tv X o r2 f2
  exact k g3 H2 v X n3 st3 r3 f3
def vL (o : O2) : O2 := fun sl x y => match x with
  | .sub p i j m => (kid m j).bind fun c => closeT sl.length p i j m (o (sl ++ [some (.w c)]) (.var sl.length) y)
  | x => o sl x y
def vR (o : O2) : O2 := fun sl x y => match y with
  | .sub p i j m => (kid m j).bind fun c => closeT sl.length p i j m (o (sl ++ [some (.w c)]) x (.var sl.length))
  | y => o sl x y
theorem RTV.open1 {g : G} {H : Hp} {σ : L2.St} {v vc : V} {t : TV} {S T Z : List Addr} (r : RTV K g H σ v t S) (hT : ∀ a ∈ T, a ∈ Z) (ap : ∀ a ∈ Z, a ∉ S) : RTV K (labG g T σ.length) H (σ ++ [some vc]) v t S := r.ext.lab fun a z => ap a (hT a z)
theorem co_vL {r : R2} {o : O2} (hc : Co2 K r o) : Co2 K r (vL o) := by
  intro g0 H0 g H σ sl x y tx ty S T tv sl' Q n st rx fx ry fy ap h k
  unfold vL at h
  split at h
  · rename_i p i j m
    obtain ⟨c, e1, h⟩ := Option.bind_eq_some_iff.mp h
    obtain ⟨s3, e2, ho, e3⟩ := closeT_ok h
    obtain ⟨g1, gb, T', n1, st1, fU, hT, rfl, _, fin⟩ := sub_open n fx fy ap st rx e1
    exact hc gb H _ H _ _ x y (.var sl.length) ty [] T tv s3 Q n1 st1 ⟨rfl, by rw [← st.len]; simp⟩ (Fresh.nil _ _) (ry.open1 hT ap) fU (fun _ h => nomatch h) e2 (sub_kg ho e3 k fin)
  · exact hc g0 H0 g H σ sl x y tx ty S T tv sl' Q n st rx fx ry fy ap h k
theorem co_vR {r : R2} {o : O2} (hc : Co2 K r o) : Co2 K r (vR o) := by
  intro g0 H0 g H σ sl x y tx ty S T tv sl' Q n st rx fx ry fy ap h k
  unfold vR at h
  split at h
  · rename_i p i j m
    obtain ⟨c, e1, h⟩ := Option.bind_eq_some_iff.mp h
    obtain ⟨s3, e2, ho, e3⟩ := closeT_ok h
    have ap' : ∀ a ∈ T, a ∉ S := fun a z z2 => ap a z2 z
    obtain ⟨g1, gb, T', n1, st1, fU, hT, rfl, _, fin⟩ := sub_open n fy fx ap' st ry e1
    exact hc gb H _ H _ _ x y tx (.var sl.length) S [] tv s3 Q n1 st1 (rx.open1 hT ap') fU ⟨rfl, by rw [← st.len]; simp⟩ (Fresh.nil _ _) (fun _ _ h => nomatch h) e2 (sub_kg ho e3 k fin)
  · exact hc g0 H0 g H σ sl x y tx ty S T tv sl' Q n st rx fx ry fy ap h k
/-! .. among arguments -/
structure Sb where
  p : Bool
  i : Nat
  j : Nat
  m : MV
def unsub (N : Nat) : List TV → Option (List TV × Sb)
  | [] => none
  | .sub p i j m :: ts => some (.var N :: ts, ⟨p, i, j, m⟩)
  | t :: ts => (unsub N ts).map fun r => (t :: r.1, r.2)
theorem unsub_ok {g : G} {H : Hp} {σ : L2.St} {N : Nat} {q : Sb} : ∀ {ts ts' : List TV} {vs : List V} {S : List Addr}, N = σ.length → RTVs K g H σ vs ts S → unsub N ts = some (ts', q) →
    ∃ vc Z U, RTV K g H σ vc (.sub q.p q.i q.j q.m) Z ∧ (∀ a ∈ Z, a ∈ S) ∧ (∀ a ∈ U, a ∈ S) ∧ (∀ a ∈ Z, a ∉ U) ∧ ∀ T : List Addr, (∀ a ∈ T, a ∈ Z) → RTVs K (labG g T σ.length) H (σ ++ [some vc]) vs ts' U
  | [], _, _, _, _, _, h => by cases h
  | t :: ts, ts', v :: ws, _, hN, .cons (S := S) (T := T) r rs ap, h => by
    have rsx : ∀ {vc : V} {X : List Addr} {vs : List V} {ts : List TV} {U : List Addr}, RTVs K g H σ vs ts U → (∀ a ∈ X, a ∉ U) → RTVs K (labG g X σ.length) H (σ ++ [some vc]) vs ts U := fun {vc X vs ts U} rs h => by
      induction rs with
      | nil => exact .nil
      | cons r _ ap ih => exact .cons (r.ext.lab fun a z z2 => h a z (List.mem_append_left _ z2)) (ih fun a z z2 => h a z (List.mem_append_right _ z2)) ap
    have go : (unsub N ts).map (fun r => (t :: r.1, r.2)) = some (ts', q) → ∃ vc Z U, RTV K g H σ vc (.sub q.p q.i q.j q.m) Z ∧ (∀ a ∈ Z, a ∈ S ++ T) ∧ (∀ a ∈ U, a ∈ S ++ T) ∧ (∀ a ∈ Z, a ∉ U) ∧ ∀ X : List Addr, (∀ a ∈ X, a ∈ Z) → RTVs K (labG g X σ.length) H (σ ++ [some vc]) (v :: ws) ts' U := fun h => by
      obtain ⟨⟨ts2, q2⟩, h1, h2⟩ := Option.map_eq_some_iff.mp h
      cases h2
      obtain ⟨vc, Z, U, a1, a2, a3, a4, a5⟩ := unsub_ok hN rs h1
      refine ⟨vc, Z, S ++ U, a1, fun a z => List.mem_append_right _ (a2 a z), fun a z => ?_, fun a z z2 => ?_, fun X hX => .cons (r.ext.lab fun a z z2 => ap a z2 (a2 a (hX a z))) (a5 X hX) fun a z z2 => ap a z (a3 a z2)⟩
      · exact (List.mem_append.mp z).elim (fun z => List.mem_append_left _ z) fun z => List.mem_append_right _ (a3 a z)
      · rcases List.mem_append.mp z2 with z2 | z2
        · exact ap a z2 (a2 a z)
        · exact a4 a z z2
    cases t with
    | sub p i j m =>
      cases h
      refine ⟨v, S, T, r, fun a z => List.mem_append_left _ z, fun a z => List.mem_append_right _ z, ap, fun X hX => ?_⟩
      have := RTVs.cons (K := K) (g := labG g X σ.length) (H := H) (σ := σ ++ [some v]) (v := v) (t := .var N) (S := []) ⟨rfl, by rw [hN]; simp⟩ (rsx (vc := v) rs fun a z => ap a (hX a z)) (fun _ h => nomatch h)
      exact this
    | d x => exact go h
    | t x => exact go h
    | x x => exact go h
    | c x => exact go h
    | var x => exact go h
def vA (o : O1) : O1 := fun sl ts => match unsub sl.length ts with
  | some (ts', q) => (kid q.m q.j).bind fun c => closeT sl.length q.p q.i q.j q.m (o (sl ++ [some (.w c)]) ts')
  | none => o sl ts
theorem co_vA {r : List V → Hp → VK → Prop} {o : O1} (hc : CoC K r o) : CoC K r (vA o) := by
  intro g0 H0 g H σ sl vs ts S tv sl' Q n st rs f h k
  unfold vA at h
  split at h
  · rename_i ts' q eq
    obtain ⟨c, e1, h⟩ := Option.bind_eq_some_iff.mp h
    obtain ⟨s3, e2, ho, e3⟩ := closeT_ok h
    obtain ⟨vc, Z, U, rz, zS, uS, ap, rv⟩ := unsub_ok st.len.symm rs eq
    obtain ⟨g1, gb, T', n1, st1, fU, hT, rfl, _, fin⟩ := sub_open n (fun a z => f a (zS a z)) (fun a z => f a (uS a z)) ap st rz e1
    exact hc gb H _ H _ _ vs ts' U tv s3 Q n1 st1 (rv T' hT) fU e2 (sub_kg ho e3 k fin)
  · exact hc g0 H0 g H σ sl vs ts S tv sl' Q n st rs f h k
end
end Y

/-! Layer Y, part I: while, for. -/
namespace Y
open PySem PySem.Spec PyProof.Rows L2 Evl
/-! ### while -/
def whN (C : AT) (S : AS) : Nat → SL → Option SR
  | 0, _ => none
  | n + 1, s => match C s with
    | some (.ok true s1) => match S s1 with
      | some (.nx s2) => whN C S n s2
      | some (.ct s2) => whN C S n s2
      | some (.bk s2) => some (.nx s2)
      | r => r
    | some (.ok false s1) => some (.nx s1)
    | some (.ex xa s1) => some (.ex xa s1)
    | none => none
theorem whN_mono {C : AT} {S : AS} : ∀ (n : Nat) {s : SL} {r : SR}, whN C S n s = some r → whN C S (n + 1) s = some r
  | 0, _, _, h => by cases h
  | n + 1, s, r, h => by
    unfold whN at h ⊢
    cases eC : C s with
    | none => rw [eC] at h; cases h
    | some q =>
      rw [eC] at h
      cases q with
      | ex xa s1 => exact h
      | ok b s1 =>
        cases b with
        | false => exact h
        | true =>
          dsimp only at h ⊢
          cases eS : S s1 with
          | none => rw [eS] at h; cases h
          | some q =>
            rw [eS] at h
            cases q with
            | nx s2 => exact whN_mono n h
            | ct s2 => exact whN_mono n h
            | bk s2 => exact h
            | rt t s2 => exact h
            | ex t s2 => exact h
theorem whN_le {C : AT} {S : AS} {n m : Nat} {s : SL} {r : SR} (h : whN C S n s = some r) (k : n ≤ m) : whN C S m s = some r := by
  induction m with
  | zero => rw [Nat.le_zero.mp k] at h; exact h
  | succ m ih =>
    by_cases e : n = m + 1
    · rw [← e]; exact h
    · exact whN_mono m (ih (by omega))
open Classical in
noncomputable def aWhile (C : AT) (S : AS) : AS := fun s => if h : ∃ n, (whN C S n s).isSome = true then whN C S (Classical.choose h) s else none
theorem aWhile_of {C : AT} {S : AS} {n : Nat} {s : SL} {r : SR} (h : whN C S n s = some r) : aWhile C S s = some r := by
  have ex : ∃ n, (whN C S n s).isSome = true := ⟨n, by rw [h]; rfl⟩
  unfold aWhile
  rw [dif_pos ex]
  have := Classical.choose_spec ex
  obtain ⟨r', hr'⟩ := Option.isSome_iff_exists.mp this
  rw [hr']
  have a := whN_le hr' (Nat.le_max_left (Classical.choose ex) n)
  have b := whN_le h (Nat.le_max_right (Classical.choose ex) n)
  rw [a] at b
  exact b
theorem aWhile_to {C : AT} {S : AS} {s : SL} {r : SR} (h : aWhile C S s = some r) : ∃ n, whN C S n s = some r := by
  unfold aWhile at h
  split at h
  · exact ⟨_, h⟩
  · cases h
section
variable {X : Cx} {W : WX} {pos : Pos} {S : AS} {C : AT} {c : Expr} {body : List Stmt}
theorem s_while (hp : PassesOwn (model X.prog X.w) X.A X.env X.xe) (hc : PT X c (tL X.K W C)) (hb : PSs X body (sL X.K W S)) : PS X (.While c body [] pos) (sL X.K W (aWhile C S)) :=
  PSm (ps_while hp hc hb) fun D σ H ⟨g, sl, r, st, e, k⟩ => by
    obtain ⟨n, e⟩ := aWhile_to e
    refine ⟨fun m σ1 H1 => ∃ g1 sl1, Nx g H g1 H1 ∧ Sta X.K g1 H1 σ1 sl1 ∧ whN C S m sl1 = some r, ⟨n, g, sl, Nx.refl _ _, st, e⟩, fun m σ1 H1 ⟨g1, sl1, n1, st1, e1⟩ => ?_⟩
    cases m with
    | zero => cases e1
    | succ m =>
    unfold whN at e1
    cases eC : C sl1 with
    | none => rw [eC] at e1; cases e1
    | some q =>
    rw [eC] at e1
    cases q with
    | ex xa s2 =>
      cases e1
      exact ⟨g1, sl1, _, st1, eC, fun g2 H2 cls d n2 st2 rx => k g2 H2 σ1 cls d (n1.trans n2) st2 rx⟩
    | ok b s2 =>
    cases b with
    | false =>
      cases e1
      refine ⟨g1, sl1, _, st1, eC, fun g2 H2 b U n2 st2 r2 f2 => ?_⟩
      obtain ⟨rfl, rfl⟩ := r2
      exact k g2 H2 σ1 (n1.trans n2) st2
    | true =>
      refine ⟨g1, sl1, _, st1, eC, fun g2 H2 b U n2 st2 r2 f2 => ?_⟩
      obtain ⟨rfl, rfl⟩ := r2
      refine ⟨fun σ' H' => ∃ m', m' < m + 1 ∧ ∃ g1 sl1, Nx g H g1 H' ∧ Sta X.K g1 H' σ' sl1 ∧ whN C S m' sl1 = some r, fun _ _ z => z, ?_⟩
      have n12 := n1.trans n2
      dsimp only at e1
      have k' := SK.mono n12 k
      cases eS : S s2 with
      | none => rw [eS] at e1; cases e1
      | some q =>
        rw [eS] at e1
        cases q with
        | nx s3 => exact ⟨g2, s2, _, st2, eS, fun g3 H3 σ3 n3 st3 => ⟨m, Nat.lt_succ_self m, g3, s3, n12.trans n3, st3, e1⟩⟩
        | ct s3 => exact ⟨g2, s2, _, st2, eS, fun g3 H3 σ3 n3 st3 => ⟨m, Nat.lt_succ_self m, g3, s3, n12.trans n3, st3, e1⟩⟩
        | bk s3 => cases e1; exact ⟨g2, s2, _, st2, eS, fun g3 H3 σ3 n3 st3 => k g3 H3 σ3 (n12.trans n3) st3⟩
        | rt t s3 => cases e1; exact ⟨g2, s2, _, st2, eS, k'⟩
        | ex t s3 => cases e1; exact ⟨g2, s2, _, st2, eS, k'⟩
end
/-! ### what is walked -/
/-- items; where they stand, if in an owned slot -/
abbrev AI := SL → Option (Res (List D × Option Nat))
def IRel (K : PySem.W.Frag) (g : G) (H : Hp) (S : List Addr) (ds : List D) (J : It) : Prop := ∀ (i : Nat) (g1 : G) (H1 : Hp), Ex g.F g1.F → Ex g1.F H1 → (∀ a ∈ S, H1 a = H a) →
  (i < ds.length → J.go i H1 ∧ ∀ x H2, J.yld i H1 x H2 → (H2 = H1 ∧ ∃ d, ds[i]? = some d ∧ RD K g1.F x d) ∨ (∃ T ws es, x = .ref T ∧ H1 T = none ∧ H2 = upd H1 T (.tup ws) ∧ ds[i]? = some (.tuple es) ∧ RDs K g1.F ws es) ∨
    (H2 = H1 ∧ ∃ T ws es, x = .ref T ∧ H1 T = some (.tup ws) ∧ ds[i]? = some (.tuple es) ∧ RDs K g1.F ws es)) ∧ (i = ds.length → J.stop i H1)
def LkS (K : PySem.W.Frag) (g : G) (H : Hp) (σ : L2.St) (sl : SL) (S : List Addr) : Option Nat → Prop
  | none => ∀ a ∈ S, Framed g H a
  | some k => ∃ v m, σ[k]? = some (some v) ∧ wAt sl k = some m ∧ Rep K g.F H v m S ∧ S.Nodup ∧ ∀ a ∈ S, g.lab a = some k
def IK (K : PySem.W.Frag) (W : WX) (g0 : G) (H0 : Hp) (σ : L2.St) (R : It → Hp → Prop) : Res (List D × Option Nat) → Prop
  | .ok p sl => ∀ g H J S, Nx g0 H0 g H → Sta K g H σ sl → LkS K g H σ sl S p.2 → IRel K g H S p.1 J → R J H
  | .ex xa sl => Kx K W g0 H0 σ xa sl
def iL (K : PySem.W.Frag) (W : WX) (A : AI) : TI := fun σ H R => ∃ g sl r, Sta K g H σ sl ∧ A sl = some r ∧ IK K W g H σ R r
/-- an outside tuple becomes data -/
theorem Sta.tupF {K : PySem.W.Frag} {g0 g : G} {H0 H : Hp} {σ : L2.St} {sl : SL} {p : Addr} {ws : List V} (n : Nx g0 H0 g H) (st : Sta K g H σ sl) (h : H p = some (.tup ws)) : ∃ g', Nx g0 H0 g' H ∧ Sta K g' H σ sl ∧ g'.F p = some (.tup ws) ∧ Ex g.F g'.F ∧ Nx g H g' H := by
  have nk : ¬ Keep (H p) := fun z => z.2 ws h
  have nl : g.lab p = none := by
    cases e : g.lab p with
    | none => rfl
    | some j => exact absurd (st.la p (by rw [e]; exact fun z => nomatch z)) nk
  by_cases hF : g.F p = none
  · have ex : Ex g.F (upd g.F p (.tup ws)) := Ex.new hF
    have ne : ∀ {a : Addr}, Keep (H a) → a ≠ p := fun k e => by subst e; exact nk k
    refine ⟨{ g with F := upd g.F p (.tup ws) }, ⟨fun a o e => ex a o (n.ex a o e), n.pi, n.ro, fun a f => ?_⟩, ⟨fun a u e => ?_, fun a z => ?_, st.la, fun a z => ?_, st.len, fun j y q => ?_, fun j y q => ?_, fun j y q => ?_, fun j y q => ?_, st.h, fun j y q => ?_⟩, upd_same, ex, ⟨ex, rfl, rfl, fun a f => ⟨rfl, (upd_ne (ne f.1)).trans f.2.1, f.2.2⟩⟩⟩
    · obtain ⟨h1, h2, h3⟩ := n.out a f
      exact ⟨h1, (upd_ne (ne (h1 ▸ f.1))).trans h2, h3⟩
    · by_cases e2 : a = p
      · subst e2
        have e3 : upd g.F a (.tup ws) a = some u := e
        rw [upd_same] at e3
        rw [← e3]; exact h
      · have e3 : upd g.F p (.tup ws) a = some u := e
        rw [upd_ne e2] at e3
        exact st.ex a u e3
    · exact (upd_ne (ne (st.la a z))).trans (st.lf a z)
    · obtain ⟨h1, h2, h3⟩ := st.ro a z
      exact ⟨h1, (upd_ne (ne h1)).trans h2, h3⟩
    · obtain ⟨v, h1, h2⟩ := st.d j y q
      exact ⟨v, h1, h2.mono ex⟩
    · obtain ⟨u, T, h1, h2, h3⟩ := st.w j y q
      exact ⟨u, T, h1, h2.mono ex fun _ _ => rfl, h3⟩
    · obtain ⟨u, T, h1, h2, h3⟩ := st.p j y q
      exact ⟨u, T, h1, h2.mono ex fun _ _ => rfl, h3⟩
    · obtain ⟨u, T, h1, h2, h3⟩ := st.k j y q
      exact ⟨u, T, h1, h2.mono ex fun _ _ => rfl, h3⟩
    · obtain ⟨a, vs, h1, h2, h3⟩ := st.x j y q
      exact ⟨a, vs, h1, ex_l ex h2, h3.mono ex⟩
  · refine ⟨g, n, st, ?_, fun _ _ z => z, Nx.refl _ _⟩
    cases e : g.F p with
    | none => exact absurd e hF
    | some o => rw [st.ex p o e] at h; exact h
/-- what is yielded, as data -/
theorem Sta.yld {K : PySem.W.Frag} {g0 g : G} {H0 H H2 : Hp} {σ : L2.St} {sl : SL} {x : V} {od : Option D} (n : Nx g0 H0 g H) (st : Sta K g H σ sl)
    (h : (H2 = H ∧ ∃ d, od = some d ∧ RD K g.F x d) ∨ (∃ T ws es, x = .ref T ∧ H T = none ∧ H2 = upd H T (.tup ws) ∧ od = some (.tuple es) ∧ RDs K g.F ws es) ∨ (H2 = H ∧ ∃ T ws es, x = .ref T ∧ H T = some (.tup ws) ∧ od = some (.tuple es) ∧ RDs K g.F ws es)) :
    ∃ g' d, Nx g0 H0 g' H2 ∧ Sta K g' H2 σ sl ∧ od = some d ∧ RD K g'.F x d ∧ Ex g.F g'.F ∧ Nx g H g' H2 := by
  rcases h with ⟨rfl, d, e, r⟩ | ⟨T, ws, es, rfl, hT, rfl, e, r⟩ | ⟨rfl, T, ws, es, rfl, hT, e, r⟩
  · exact ⟨g, d, n, st, e, r, fun _ _ z => z, Nx.refl _ _⟩
  · obtain ⟨n', st', ex⟩ := st.newF (o := .tup ws) n hT
    exact ⟨_, _, n', st', e, .tup upd_same (r.mono ex), ex, (st.newF (o := .tup ws) (Nx.refl g H) hT).1⟩
  · obtain ⟨g', n', st', h1, ex, nn⟩ := st.tupF n hT
    exact ⟨g', _, n', st', e, .tup h1 (r.mono ex), ex, nn⟩
/-! ### locking a slot while it is walked -/
def lockG (g : G) (S : List Addr) (k : Nat) (v : V) : G := { F := g.F, lab := fun a => if a ∈ S then none else g.lab a, π := fun j => if j = k then some v else g.π j, ro := fun j a => if j = k then a ∈ S else g.ro j a }
def unlockG (g g1 : G) (S : List Addr) (k : Nat) : G := { F := g1.F, lab := fun a => if a ∈ S then some k else g1.lab a, π := g.π, ro := g.ro }
section
variable {K : PySem.W.Frag} {g g0 : G} {H H0 : Hp} {σ : L2.St} {sl : SL} {S : List Addr} {k : Nat} {v : V} {m : MV}
theorem Sta.lock (st : Sta K g H σ sl) (hv : σ[k]? = some (some v)) (hw : wAt sl k = some m) (r : Rep K g.F H v m S) (nd : S.Nodup) (lb : ∀ a ∈ S, g.lab a = some k) : Sta K (lockG g S k v) H σ (sl.set k (some (.k m))) := by
  have lab : ∀ a, (lockG g S k v).lab a ≠ none → g.lab a ≠ none := fun a z => by
    have z' : (if a ∈ S then none else g.lab a) ≠ none := z
    split at z'
    · exact absurd rfl z'
    · exact z'
  have labn : ∀ a, g.lab a = none → (lockG g S k v).lab a = none := fun a z => by
    show (if a ∈ S then none else g.lab a) = none
    split
    · rfl
    · exact z
  have pi : ∀ j, j ≠ k → (lockG g S k v).π j = g.π j := fun j ne => if_neg ne
  refine ⟨st.ex, fun a z => st.lf a (lab a z), fun a z => st.la a (lab a z), fun a z => ?_, by rw [List.length_set, st.len], fun j y q => ?_, fun j y q => ?_, fun j y q => ?_, fun j y q => ?_, fun j q => ?_, fun j y q => ?_⟩
  · obtain ⟨j, z⟩ := z
    have z' : if j = k then a ∈ S else g.ro j a := z
    split at z'
    · exact ⟨r.keep a z', st.lf a (by rw [lb a z']; exact fun z => nomatch z), if_pos z'⟩
    · obtain ⟨h1, h2, h3⟩ := st.ro a ⟨j, z'⟩
      exact ⟨h1, h2, labn a h3⟩
  · rcases getset q with ⟨_, q⟩ | ⟨ne, q⟩
    · cases q
    · exact st.d j y q
  · rcases getset q with ⟨_, q⟩ | ⟨ne, q⟩
    · cases q
    · obtain ⟨u, U, h1, h2, h3, h4⟩ := st.w j y q
      refine ⟨u, U, h1, h2, h3, fun a z => ?_⟩
      show (if a ∈ S then none else g.lab a) = some j
      rw [if_neg fun z2 => ne (by have := lb a z2; rw [h4 a z] at this; exact (Option.some.inj this).symm)]
      exact h4 a z
  · rcases getset q with ⟨_, q⟩ | ⟨ne, q⟩
    · cases q
    · obtain ⟨u, U, ⟨h1, h1'⟩, h2, h3, h4⟩ := st.p j y q
      refine ⟨u, U, ⟨h1, by rw [pi j (Ne.symm ne)]; exact h1'⟩, h2, h3, fun a z => ?_⟩
      show (if a ∈ S then none else g.lab a) = some j
      rw [if_neg fun z2 => ne (by have := lb a z2; rw [h4 a z] at this; exact (Option.some.inj this).symm)]
      exact h4 a z
  · rcases getset q with ⟨e, q2⟩ | ⟨ne, q2⟩
    · subst e
      cases q2
      exact ⟨v, S, ⟨hv, if_pos rfl⟩, r, nd, fun a z => by show (if k = k then a ∈ S else g.ro k a); rw [if_pos rfl]; exact z⟩
    · have q := q2
      obtain ⟨u, U, ⟨h1, h1'⟩, h2, h3, h4⟩ := st.k j y q
      exact ⟨u, U, ⟨h1, by rw [pi j (Ne.symm ne)]; exact h1'⟩, h2, h3, fun a z => by show (if j = k then a ∈ S else g.ro j a); rw [if_neg (Ne.symm ne)]; exact h4 a z⟩
  · rcases getset q with ⟨_, q⟩ | ⟨ne, q⟩
    · cases q
    · obtain ⟨u, h1, h1'⟩ := st.h j q
      exact ⟨u, h1, by rw [pi j (Ne.symm ne)]; exact h1'⟩
  · rcases getset q with ⟨_, q⟩ | ⟨ne, q⟩
    · cases q
    · exact st.x j y q
theorem framed_lock (st : Sta K g H σ sl) (lb : ∀ a ∈ S, g.lab a = some k) {a : Addr} (f : Framed g H a) : Framed (lockG g S k v) H a ∧ a ∉ S := by
  have ns : a ∉ S := fun z => by have := f.2.2; rw [lb a z] at this; cases this
  exact ⟨⟨f.1, f.2.1, by show (if a ∈ S then none else g.lab a) = none; rw [if_neg ns]; exact f.2.2⟩, ns⟩
def unl (k : Nat) (p : Bool) (s : SL) : Option SL := match s[k]? with
  | some (some (.k m)) => some (s.set k (some (if p then .p m else .w m)))
  | _ => none
/-- behind the walk -/
theorem Sta.unlock {g1 : G} {H1 : Hp} {σ1 : L2.St} {sl1 sl2 : SL} {p : Bool} (n : Nx g0 H0 g H) (st : Sta K g H σ sl) (hv : σ[k]? = some (some v)) (r : Rep K g.F H v m S) (lb : ∀ a ∈ S, g.lab a = some k) (hp : p = true → g.π k = some v)
    (n1 : Nx (lockG g S k v) H g1 H1) (st1 : Sta K g1 H1 σ1 sl1) (hu : unl k p sl1 = some sl2) :
    Nx g0 H0 (unlockG g g1 S k) H1 ∧ Sta K (unlockG g g1 S k) H1 σ1 sl2 ∧ (∀ {u : V} {t : TV} {U : List Addr}, RTV K g1 H1 σ1 u t U → Fresh (lockG g S k v) H U → RTV K (unlockG g g1 S k) H1 σ1 u t U) ∧ ∀ {U : List Addr}, Fresh (lockG g S k v) H U → Fresh g0 H0 U := by
  have fS : ∀ a ∈ S, Framed (lockG g S k v) H a := fun a z => ⟨r.keep a z, st.lf a (by rw [lb a z]; exact fun z => nomatch z), if_pos z⟩
  have ls : ∀ a ∈ S, g1.lab a = none := fun a z => (n1.out a (fS a z)).2.2
  have lF : ∀ a ∈ S, g1.F a = none := fun a z => (n1.out a (fS a z)).2.1
  have ln : ∀ a, a ∉ S → (unlockG g g1 S k).lab a = g1.lab a := fun a z => if_neg z
  have li : ∀ a ∈ S, (unlockG g g1 S k).lab a = some k := fun a z => if_pos z
  have ro1 : ∀ j a, g1.ro j a = if j = k then a ∈ S else g.ro j a := fun j a => by rw [n1.ro]; rfl
  have pi1 : ∀ j, g1.π j = if j = k then some v else g.π j := fun j => by rw [n1.pi]; rfl
  have gf : ∀ a, g.RO a → Framed g H a := st.ro
  obtain ⟨m1, e1, e2⟩ : ∃ m1, sl1[k]? = some (some (.k m1)) ∧ sl2 = sl1.set k (some (if p then .p m1 else .w m1)) := by
    unfold unl at hu
    split at hu
    · rename_i m1 e; cases hu; exact ⟨m1, e, rfl⟩
    · cases hu
  subst e2
  obtain ⟨u, U, ⟨h1, h1'⟩, h2, h3, h4⟩ := st1.k k m1 e1
  have eu : u = v := by
    rw [pi1, if_pos rfl] at h1'
    exact (Option.some.inj h1').symm
  subst eu
  have US : ∀ a ∈ U, a ∈ S := fun a z => by
    have := h4 a z
    rw [ro1, if_pos rfl] at this
    exact this
  have frd : ∀ a, Framed g0 H0 a → Framed g H a := fun a f => n.fr f
  have rtv : ∀ {w : V} {t : TV} {Z : List Addr}, RTV K g1 H1 σ1 w t Z → Fresh (lockG g S k u) H Z → RTV K (unlockG g g1 S k) H1 σ1 w t Z := fun {w t Z} q fr => by
    cases t with
    | d x => exact q
    | var i => exact q
    | x ds => exact q
    | c ds => exact q
    | t m =>
      refine ⟨q.1, q.2.1, fun a z => ⟨(q.2.2 a z).1, ?_, fun h => fr a z (framed_lock st lb (gf a h)).1⟩⟩
      rw [ln a fun z2 => fr a z (fS a z2)]
      exact (q.2.2 a z).2.1
    | sub pp i j m =>
      obtain ⟨v0, ⟨e, e'⟩, q, kv, c, hc⟩ := q
      refine ⟨v0, ⟨e, fun hpp => ?_⟩, ⟨q.1, q.2.1, fun a z => ⟨(q.2.2 a z).1, ?_, fun h => fr a z (framed_lock st lb (gf a h)).1⟩⟩, kv, c, hc⟩
      · have := e' hpp
        rw [pi1] at this
        split at this
        · exfalso
          rename_i ei
          subst ei
          rw [h1] at e
          cases e
          obtain ⟨a, S', ea, eb⟩ := q.1.root hc
          subst ea
          have hu : a ∈ U := by
            cases h2 with
            | lst _ _ => exact List.mem_cons_self
            | dK _ _ _ => exact List.mem_cons_self
            | dT _ _ _ => exact List.mem_cons_self
            | d hd =>
              have fa := (q.2.2 a (by rw [eb]; exact List.mem_cons_self)).1
              cases hd with
              | lst h _ => rw [h] at fa; cases fa
              | tup h _ => rw [h] at fa; cases fa
          exact fr a (by rw [eb]; exact List.mem_cons_self) (fS a (US a hu))
        · exact this
      · rw [ln a fun z2 => fr a z (fS a z2)]
        exact (q.2.2 a z).2.1
  refine ⟨⟨fun a o h => n1.ex a o (n.ex a o h), n.pi, n.ro, fun a f => ?_⟩, ⟨st1.ex, fun a z => ?_, fun a z => ?_, fun a z => ?_, by rw [List.length_set, st1.len], fun j y q => ?_, fun j y q => ?_, fun j y q => ?_, fun j y q => ?_, fun j q => ?_, fun j y q => ?_⟩, rtv, fun {Z} fr a z f => fr a z (framed_lock st lb (frd a f)).1⟩
  · obtain ⟨f1, f2⟩ := framed_lock st lb (frd a f)
    obtain ⟨k1, k2, k3⟩ := n1.out a f1
    exact ⟨k1.trans (n.out a f).1, k2, by rw [ln a f2]; exact k3⟩
  · by_cases q : a ∈ S
    · exact lF a q
    · rw [ln a q] at z; exact st1.lf a z
  · by_cases q : a ∈ S
    · rw [(n1.out a (fS a q)).1]; exact r.keep a q
    · rw [ln a q] at z; exact st1.la a z
  · obtain ⟨f1, f2⟩ := framed_lock st lb (gf a z)
    have := n1.fr f1
    exact ⟨this.1, this.2.1, by rw [ln a f2]; exact this.2.2⟩
  · rcases getset q with ⟨_, q⟩ | ⟨ne, q⟩
    · cases p <;> cases q
    · exact st1.d j y q
  · rcases getset q with ⟨e, q2⟩ | ⟨ne, q⟩
    · subst e
      cases p
      · cases q2
        exact ⟨u, U, h1, h2, h3, fun a z => li a (US a z)⟩
      · cases q2
    · obtain ⟨w, Z, k1, k2, k3, k4⟩ := st1.w j y q
      exact ⟨w, Z, k1, k2, k3, fun a z => by rw [ln a fun z2 => by have := ls a z2; rw [k4 a z] at this; cases this]; exact k4 a z⟩
  · rcases getset q with ⟨e, q2⟩ | ⟨ne, q⟩
    · subst e
      cases p
      · cases q2
      · cases q2
        exact ⟨u, U, ⟨h1, hp rfl⟩, h2, h3, fun a z => li a (US a z)⟩
    · obtain ⟨w, Z, ⟨k1, k1'⟩, k2, k3, k4⟩ := st1.p j y q
      exact ⟨w, Z, ⟨k1, by rw [pi1, if_neg (Ne.symm ne)] at k1'; exact k1'⟩, k2, k3, fun a z => by rw [ln a fun z2 => by have := ls a z2; rw [k4 a z] at this; cases this]; exact k4 a z⟩
  · rcases getset q with ⟨e, q⟩ | ⟨ne, q⟩
    · cases p <;> cases q
    · obtain ⟨w, Z, ⟨k1, k1'⟩, k2, k3, k4⟩ := st1.k j y q
      exact ⟨w, Z, ⟨k1, by rw [pi1, if_neg (Ne.symm ne)] at k1'; exact k1'⟩, k2, k3, fun a z => by have := k4 a z; rw [ro1, if_neg (Ne.symm ne)] at this; exact this⟩
  · rcases getset q with ⟨e, q⟩ | ⟨ne, q⟩
    · cases p <;> cases q
    · obtain ⟨w, k1, k1'⟩ := st1.h j q
      exact ⟨w, k1, by rw [pi1, if_neg (Ne.symm ne)] at k1'; exact k1'⟩
  · rcases getset q with ⟨e, q⟩ | ⟨ne, q⟩
    · cases p <;> cases q
    · exact st1.x j y q
end
end Y

/-! Layer Y, part J: for; what is walked; comprehensions. -/
namespace Y
open PySem PySem.Spec PyProof.Rows L2 Evl
def forGo (Ga : AG) (S : AS) : List D → SL → Option SR
  | [], s => some (.nx s)
  | x :: xs, s => (Ga (.d x) s).bind fun s1 => match S s1 with
    | some (.nx s2) => forGo Ga S xs s2
    | some (.ct s2) => forGo Ga S xs s2
    | some (.bk s2) => some (.nx s2)
    | r => r
def unlR (k : Nat) (p : Bool) : Option SR → Option SR
  | some (.nx s) => (unl k p s).map .nx
  | some (.rt t s) => (unl k p s).map (.rt t)
  | some (.ex xa s) => (unl k p s).map (.ex xa)
  | _ => none
/-- a walk with the slot that is walked locked -/
def lockd (lk : Option Nat) (F : SL → Option SR) (s : SL) : Option SR := match lk with
  | none => F s
  | some k => match s[k]? with
    | some (some (.w m)) => unlR k false (F (s.set k (some (.k m))))
    | some (some (.p m)) => unlR k true (F (s.set k (some (.k m))))
    | _ => none
def aFor (A : AI) (Ga : AG) (S : AS) : AS := fun s => sb (A s) fun p s1 => lockd p.2 (forGo Ga S p.1) s1
section
variable {X : Cx} {W : WX} {S : AS} {Ga : AG} {gt : TG} {body : List Stmt}
/-- the walk, from any ghost -/
theorem for_run {K : PySem.W.Frag} {g : G} {H : Hp} {σ : L2.St} {sl : SL} {J : It} {Z : List Addr} {ds : List D} {r : SR} {D : Ends} {tb : TS} (hb : ∀ D σ H, sL K W S D σ H → tb D σ H) (gr : GRel K Ga gt) (st : Sta K g H σ sl) (fz : ∀ a ∈ Z, Framed g H a) (ir : IRel K g H Z ds J) (e : forGo Ga S ds sl = some r) (k : SK K W D g H r) :
    ∃ Wk : Nat → Nat → L2.St → Hp → Prop, (∃ m, Wk 0 m σ H) ∧ ∀ i m σ H, Wk i m σ H → (J.stop i H ∧ D.nx σ H) ∨ (J.go i H ∧ ∃ N : L2.St → Hp → Prop, (∀ σ' H', N σ' H' → ∃ m', m' < m ∧ Wk (i + 1) m' σ' H') ∧ ∀ x H', J.yld i H x H' → gt x σ H' fun σ2 H2 => tb { D with nx := N, ct := N, bk := D.nx } σ2 H2) := by
  refine ⟨fun i m σ1 H1 => m = ds.length - i ∧ i ≤ ds.length ∧ ∃ g1 sl1, Nx g H g1 H1 ∧ Sta K g1 H1 σ1 sl1 ∧ forGo Ga S (ds.drop i) sl1 = some r, ⟨ds.length, by simp, Nat.zero_le _, g, sl, Nx.refl _ _, st, e⟩, ?_⟩
  rintro i m σ1 H1 ⟨rfl, hi, g1, sl1, n1, st1, e1⟩
  obtain ⟨i1, i2⟩ := ir i g1 H1 n1.ex st1.ex fun a z => (n1.out a (fz a z)).1
  by_cases hlt : i < ds.length
  · obtain ⟨go, yl⟩ := i1 hlt
    refine .inr ⟨go, fun σ' H' => ∃ g1 sl1, Nx g H g1 H' ∧ Sta K g1 H' σ' sl1 ∧ forGo Ga S (ds.drop (i + 1)) sl1 = some r, fun σ' H' z => ⟨ds.length - (i + 1), by omega, rfl, hlt, z⟩, fun x H2 y => ?_⟩
    obtain ⟨g2, d, n2, st2, ed, rd, ex2, _⟩ := st1.yld n1 (yl x H2 y)
    rw [List.drop_eq_getElem_cons hlt] at e1
    have ed' : ds[i] = d := by rw [List.getElem?_eq_getElem hlt] at ed; exact Option.some.inj ed
    rw [ed'] at e1
    unfold forGo at e1
    obtain ⟨s2, e2, e3⟩ := Option.bind_eq_some_iff.mp e1
    refine gr g H g2 H2 σ1 sl1 s2 x (.d d) [] _ n2 st2 ⟨rfl, rd⟩ (Fresh.nil _ _) e2 fun g3 H3 σ3 n3 st3 => hb _ _ _ ?_
    have k3 := SK.mono n3 k
    cases eS : S s2 with
    | none => rw [eS] at e3; cases e3
    | some q =>
      rw [eS] at e3
      cases q with
      | nx s4 => exact ⟨g3, s2, _, st3, eS, fun g4 H4 σ4 n4 st4 => ⟨g4, s4, n3.trans n4, st4, e3⟩⟩
      | ct s4 => exact ⟨g3, s2, _, st3, eS, fun g4 H4 σ4 n4 st4 => ⟨g4, s4, n3.trans n4, st4, e3⟩⟩
      | bk s4 => cases e3; exact ⟨g3, s2, _, st3, eS, fun g4 H4 σ4 n4 st4 => k g4 H4 σ4 (n3.trans n4) st4⟩
      | rt t s4 => cases e3; exact ⟨g3, s2, _, st3, eS, k3⟩
      | ex t s4 => cases e3; exact ⟨g3, s2, _, st3, eS, k3⟩
  · have ei : i = ds.length := by omega
    subst ei
    rw [List.drop_length] at e1
    cases e1
    exact .inl ⟨i2 rfl, k g1 H1 σ1 n1 st1⟩
theorem s_for {pos : Pos} {iter tg : Expr} {A : AI} (hp : PassesOwn (model X.prog X.w) X.A X.env X.xe) (hc : X.calm = true) (hi : PI X tg iter (iL X.K W A)) (hg : PG X tg gt) (gr : GRel X.K Ga gt) (hb : PSs X body (sL X.K W S))
    (hs : ∀ x, foldedSetIterable iter X.env x = pure x := by intro _; rfl) : PS X (.For tg iter body [] pos) (sL X.K W (aFor A Ga S)) :=
  PSm (ps_for hp hc hi hg hb hs) fun D σ H ⟨g, sl, r, st, e, k⟩ => by
    unfold aFor sb at e
    split at e
    · rename_i p s1 eA
      refine ⟨g, sl, _, st, eA, fun g1 H1 J Z n1 st1 lk ir => ?_⟩
      unfold lockd at e
      cases p with
      | mk ds lkd =>
      cases lkd with
      | none =>
        exact for_run (W := W) (fun _ _ _ z => z) gr st1 lk ir e (k.mono n1)
      | some q =>
        obtain ⟨v, m, hv, hw, rp, nd, lb⟩ := lk
        have main : ∀ (pp : Bool) (m' : MV), m' = m → (pp = true → g1.π q = some v) → unlR q pp (forGo Ga S ds (s1.set q (some (.k m')))) = some r → (tFor (fun σ H R => R J H) gt (sL X.K W S)) D σ H1 := by
          intro pp m' em hp' e2
          subst em
          have stL := st1.lock hv hw rp nd lb
          have zf : ∀ a ∈ Z, Framed (lockG g1 Z q v) H1 a := fun a z => ⟨rp.keep a z, st1.lf a (by rw [lb a z]; exact fun z => nomatch z), if_pos z⟩
          obtain ⟨rr, er, e3⟩ : ∃ rr, forGo Ga S ds (s1.set q (some (.k m'))) = some rr ∧ unlR q pp (some rr) = some r := by
            cases eq : forGo Ga S ds (s1.set q (some (.k m'))) with
            | none => rw [eq] at e2; cases e2
            | some rr => exact ⟨rr, rfl, by rw [eq] at e2; exact e2⟩
          refine for_run (W := W) (D := D) (fun _ _ _ z => z) gr stL zf (show IRel X.K (lockG g1 Z q v) H1 Z ds J from ir) er ?_
          cases rr with
          | bk s2 => cases e3
          | ct s2 => cases e3
          | nx s2 =>
            obtain ⟨s3, e4, rfl⟩ := Option.map_eq_some_iff.mp (show (unl q pp s2).map .nx = some r from e3)
            intro g2 H2 σ2 n2 st2
            obtain ⟨nn, stt, _⟩ := Sta.unlock n1 st1 hv rp lb hp' n2 st2 e4
            exact k _ H2 σ2 nn stt
          | rt t s2 =>
            obtain ⟨s3, e4, rfl⟩ := Option.map_eq_some_iff.mp (show (unl q pp s2).map (.rt t) = some r from e3)
            intro g2 H2 σ2 u U n2 st2 r2 f2
            obtain ⟨nn, stt, rt, fr⟩ := Sta.unlock n1 st1 hv rp lb hp' n2 st2 e4
            exact k _ H2 σ2 u U nn stt (rt r2 f2) (fr f2)
          | ex xa s2 =>
            obtain ⟨s3, e4, rfl⟩ := Option.map_eq_some_iff.mp (show (unl q pp s2).map (.ex xa) = some r from e3)
            intro g2 H2 σ2 cls d n2 st2 rx
            obtain ⟨nn, stt, _⟩ := Sta.unlock n1 st1 hv rp lb hp' n2 st2 e4
            exact k _ H2 σ2 cls d nn stt rx
        dsimp only at e
        split at e
        · rename_i m' e0
          refine main false m' (by unfold wAt at hw; rw [e0] at hw; exact Option.some.inj hw) (fun z => nomatch z) e
        · rename_i m' e0
          refine main true m' (by unfold wAt at hw; rw [e0] at hw; exact Option.some.inj hw) (fun _ => ?_) e
          obtain ⟨u, U, ⟨h1, h2⟩, _⟩ := st1.p q m' e0
          rw [hv] at h1; cases h1
          exact h2
        · cases e
    · rename_i xa s1 eA
      cases e
      exact ⟨g, sl, _, st, eA, k.x σ xa s1 rfl⟩
    · cases e
end
/-! ### what is walked -/
/-- a list, a tuple, a text; an owned list -/
def aIt (A : AE) : AI := fun s => bd (A s) fun t s1 => match t with
  | .d (.list ds) => some (.ok (ds, none) s1)
  | .d (.tuple ds) => some (.ok (ds, none) s1)
  | .d (.str z) => some (.ok (z.cps.toList.map fun c => .str ⟨#[c]⟩, none) s1)
  | .x ds => some (.ok (ds, none) s1)
  | .c ds => some (.ok (ds, none) s1)
  | .t m => match frz m with
    | some (.list ds) => some (.ok (ds, none) s1)
    | _ => none
  | .var i => match s1[i]? with
    | some (some (.w (.lst ms))) => (lvs ms).map fun ds => .ok (ds, some i) s1
    | some (some (.p (.lst ms))) => (lvs ms).map fun ds => .ok (ds, some i) s1
    | some (some (.k (.lst ms))) => (lvs ms).map fun ds => .ok (ds, none) s1
    | _ => none
  | _ => none
theorem pi_or {X : Cx} {tg e : Expr} {t u : TI} (h1 : PI X tg e t) (h2 : PI X tg e u) : PI X tg e (fun σ H R => t σ H R ∨ u σ H R) := ⟨fun pins s σ H R I h => h.elim (h1.run pins s σ H R I) (h2.run pins s σ H R I)⟩
section
variable {K : PySem.W.Frag} {g : G} {H : Hp}
theorem ir_list {S : List Addr} {a : Addr} {vs : List V} {ds : List D} (hq : ∀ (g1 : G) (H1 : Hp), Ex g.F g1.F → Ex g1.F H1 → (∀ a ∈ S, H1 a = H a) → SqL K H1 a vs) (r : RDs K g.F vs ds) : IRel K g H S ds (Itl K a) := by
  intro i g1 H1 e1 e2 h
  have q := hq g1 H1 e1 e2 h
  refine ⟨fun hi => ?_, fun hi => ⟨vs, q, by rw [hi, r.length]; exact Nat.le_refl _⟩⟩
  obtain ⟨v, h1, h2⟩ := r.get (List.getElem?_eq_getElem hi)
  refine ⟨⟨vs, v, q, h1⟩, fun x H2 ⟨e3, e4⟩ => .inl ⟨e3, ds[i], List.getElem?_eq_getElem hi, ?_⟩⟩
  have := e4 vs q
  rw [h1] at this
  cases this
  exact h2.mono e1
theorem ir_tup {S : List Addr} {a : Addr} {vs : List V} {ds : List D} (hq : SqT K g.F a vs) (r : RDs K g.F vs ds) : IRel K g H S ds (Itt K a) := by
  intro i g1 H1 e1 e2 h
  have q := ex_t e2 (ex_t e1 hq)
  refine ⟨fun hi => ?_, fun hi => ⟨vs, q, by rw [hi, r.length]; exact Nat.le_refl _⟩⟩
  obtain ⟨v, h1, h2⟩ := r.get (List.getElem?_eq_getElem hi)
  refine ⟨⟨vs, v, q, h1⟩, fun x H2 ⟨e3, e4⟩ => .inl ⟨e3, ds[i], List.getElem?_eq_getElem hi, ?_⟩⟩
  have := e4 vs q
  rw [h1] at this
  cases this
  exact h2.mono e1
theorem ir_str {S : List Addr} {z : Str} : IRel K g H S (z.cps.toList.map fun c => PyData.str ⟨#[c]⟩) (Its z) := by
  intro i g1 H1 e1 e2 h
  have hl : (z.cps.toList.map fun c => PyData.str ⟨#[c]⟩).length = z.cps.size := by simp
  rw [hl]
  refine ⟨fun hi => ⟨hi, fun x H2 ⟨e3, c, e4, e5⟩ => .inl ⟨e3, .str ⟨#[c]⟩, ?_, ?_⟩⟩, fun hi => Nat.le_of_eq hi.symm⟩
  · rw [List.getElem?_map, Array.getElem?_toList, e4]; rfl
  · subst e5; exact .str _
theorem ir_range {S : List Addr} {lo : Int} {n : Nat} : IRel K g H S ((List.range n).map fun i => PyData.int (lo + (i : Nat))) (Itr lo n) := by
  intro i g1 H1 e1 e2 h
  have hl : ((List.range n).map fun i => PyData.int (lo + (i : Nat))).length = n := by simp
  rw [hl]
  refine ⟨fun hi => ⟨hi, fun x H2 ⟨e3, e4⟩ => .inl ⟨e3, .int (lo + (i : Nat)), ?_, ?_⟩⟩, fun hi => Nat.le_of_eq hi.symm⟩
  · rw [List.getElem?_map, List.getElem?_range hi]; rfl
  · subst e4; exact .int _
theorem ir_rangeC {S : List Addr} {lo c : Int} {n : Nat} : IRel K g H S ((List.range n).map fun i => PyData.int (lo + (i : Nat) * c)) (Itc lo c n) := by
  intro i g1 H1 e1 e2 h
  have hl : ((List.range n).map fun i => PyData.int (lo + (i : Nat) * c)).length = n := by simp
  rw [hl]
  refine ⟨fun hi => ⟨hi, fun x H2 ⟨e3, e4⟩ => .inl ⟨e3, .int (lo + (i : Nat) * c), ?_, ?_⟩⟩, fun hi => Nat.le_of_eq hi.symm⟩
  · rw [List.getElem?_map, List.getElem?_range hi]; rfl
  · subst e4; exact .int _
end
section
variable {X : Cx} {W : WX} {tg e : Expr} {A : AE} {R : AA}
theorem i_it (h : PE X e (eL X.K W A)) : PI X tg e (iL X.K W (aIt A)) := PIm (pi_or (pi_list h) (pi_or (pi_tup h) (pi_str h))) fun σ H Q ⟨g, sl, r, st, e, k⟩ => by
  unfold aIt bd at e
  cases eA : A sl with
  | none => rw [eA] at e; cases e
  | some q =>
  rw [eA] at e
  cases q with
  | ex xa s1 =>
    cases e
    exact .inl ⟨g, sl, _, st, eA, k⟩
  | ok t s1 =>
  dsimp only at e
  split at e
  · cases e
    refine .inl ⟨g, sl, _, st, eA, fun g1 H1 v S n1 st1 r1 f1 => ?_⟩
    obtain ⟨_, r1⟩ := r1
    cases r1 with
    | lst h1 h2 => exact ⟨_, rfl, ⟨_, SqL.of (st1.ex _ _ h1)⟩, k g1 H1 _ [] n1 st1 (fun _ h => nomatch h) (ir_list (fun g2 H2 e1 e2 _ => SqL.of (e2 _ _ (e1 _ _ h1))) h2)⟩
  · cases e
    refine .inr (.inl ⟨g, sl, _, st, eA, fun g1 H1 v S n1 st1 r1 f1 => ?_⟩)
    obtain ⟨_, r1⟩ := r1
    cases r1 with
    | tup h1 h2 => exact ⟨_, rfl, ⟨_, SqT.of (st1.ex _ _ h1)⟩, k g1 H1 _ [] n1 st1 (fun _ h => nomatch h) (ir_tup (SqT.of h1) h2)⟩
  · cases e
    refine .inr (.inr ⟨g, sl, _, st, eA, fun g1 H1 v S n1 st1 r1 f1 => ?_⟩)
    obtain ⟨_, r1⟩ := r1
    cases r1
    exact ⟨_, rfl, k g1 H1 _ [] n1 st1 (fun _ h => nomatch h) ir_str⟩
  · cases e
    refine .inl ⟨g, sl, _, st, eA, fun g1 H1 v S n1 st1 r1 f1 => ?_⟩
    obtain ⟨_, a, vs, rfl, h1, h2⟩ := r1
    exact ⟨_, rfl, ⟨_, ex_l st1.ex h1⟩, k g1 H1 _ [] n1 st1 (fun _ h => nomatch h) (ir_list (fun g2 H2 e1 e2 _ => ex_l e2 (ex_l e1 h1)) h2)⟩
  · cases e
    refine .inr (.inl ⟨g, sl, _, st, eA, fun g1 H1 v S n1 st1 r1 f1 => ?_⟩)
    obtain ⟨_, a, vs, rfl, h1, h2⟩ := r1
    exact ⟨_, rfl, ⟨_, ex_t st1.ex h1⟩, k g1 H1 _ [] n1 st1 (fun _ h => nomatch h) (ir_tup h1 h2)⟩
  · split at e
    · rename_i m ds em
      cases e
      refine .inl ⟨g, sl, _, st, eA, fun g1 H1 v S n1 st1 r1 f1 => ?_⟩
      obtain ⟨n2, st2, q⟩ := st1.frzT n1 f1 r1 em
      cases q with
      | lst h1 h2 => exact ⟨_, rfl, ⟨_, SqL.of (st2.ex _ _ h1)⟩, k _ H1 _ [] n2 st2 (fun _ h => nomatch h) (ir_list (fun g2 H2 e1 e2 _ => SqL.of (e2 _ _ (e1 _ _ h1))) h2)⟩
    · cases e
  · rename_i i
    split at e
    · rename_i ms e2
      obtain ⟨ds, e3, rfl⟩ := Option.map_eq_some_iff.mp e
      refine .inl ⟨g, sl, _, st, eA, fun g1 H1 v S n1 st1 r1 f1 => ?_⟩
      obtain ⟨u, U, h1, h2, h3, h4⟩ := st1.w i _ e2
      rw [r1.2] at h1; cases h1
      cases h2 with
      | @lst a vs _ U' ha hr =>
        have hr0 := hr
        rw [lvs_eq e3] at hr
        refine ⟨_, rfl, ⟨_, SqL.of ha⟩, k g1 H1 _ (a :: U') n1 st1 ⟨_, _, r1.2, by unfold wAt; rw [e2], .lst ha hr0, h3, h4⟩ (ir_list (fun g2 H2 e1 e2 hh => SqL.of ((hh a List.mem_cons_self).trans ha)) hr.leaves.2)⟩
    · rename_i ms e2
      obtain ⟨ds, e3, rfl⟩ := Option.map_eq_some_iff.mp e
      refine .inl ⟨g, sl, _, st, eA, fun g1 H1 v S n1 st1 r1 f1 => ?_⟩
      obtain ⟨u, U, ⟨h1, _⟩, h2, h3, h4⟩ := st1.p i _ e2
      rw [r1.2] at h1; cases h1
      cases h2 with
      | @lst a vs _ U' ha hr =>
        have hr0 := hr
        rw [lvs_eq e3] at hr
        refine ⟨_, rfl, ⟨_, SqL.of ha⟩, k g1 H1 _ (a :: U') n1 st1 ⟨_, _, r1.2, by unfold wAt; rw [e2], .lst ha hr0, h3, h4⟩ (ir_list (fun g2 H2 e1 e2 hh => SqL.of ((hh a List.mem_cons_self).trans ha)) hr.leaves.2)⟩
    · rename_i ms e2
      obtain ⟨ds, e3, rfl⟩ := Option.map_eq_some_iff.mp e
      refine .inl ⟨g, sl, _, st, eA, fun g1 H1 v S n1 st1 r1 f1 => ?_⟩
      obtain ⟨u, U, ⟨h1, _⟩, h2, h3, h4⟩ := st1.k i _ e2
      rw [r1.2] at h1; cases h1
      cases h2 with
      | @lst a vs _ U' ha hr =>
        rw [lvs_eq e3] at hr
        exact ⟨_, rfl, ⟨_, SqL.of ha⟩, k g1 H1 _ (a :: U') n1 st1 (fun b hb => st1.ro b ⟨_, h4 b hb⟩) (ir_list (fun g2 H2 e1 e2 hh => SqL.of ((hh a List.mem_cons_self).trans ha)) hr.leaves.2)⟩
    · cases e
  · cases e
/-! range -/
def rng (lo : Int) (n : Nat) : List D := (List.range n).map fun i => PyData.int (lo + (i : Nat))
def aRng1 (R : AA) : AI := fun s => bd (R s) fun ts s1 => match ts with
  | [.d (.int j)] => if -(2 ^ 62) ≤ j ∧ j < 2 ^ 62 then some (.ok (rng 0 j.toNat, none) s1) else none
  | _ => none
def aRng2 (R : AA) : AI := fun s => bd (R s) fun ts s1 => match ts with
  | [.d (.int i), .d (.int j)] => if -(2 ^ 62) ≤ i ∧ i < 2 ^ 62 ∧ -(2 ^ 62) ≤ j ∧ j < 2 ^ 62 then some (.ok (rng i (j - i).toNat, none) s1) else none
  | _ => none
theorem run1I {ω α : Type} {K : PySem.W.Frag} {R : L2.St → G → Hp → ω → α → List Addr → Prop} {g : G} {H : Hp} {σ : L2.St} {sl : SL} {A : SL → Option (Res α)} {f : α → SL → Option (Res (List D × Option Nat))} {r : Res (List D × Option Nat)} {Q : ω → Hp → Prop} {RR : It → Hp → Prop} (st : Sta K g H σ sl) (h : bd (A sl) f = some r) (k : IK K W g H σ RR r)
    (hk : ∀ a s1 g1 H1 v S, f a s1 = some r → Nx g H g1 H1 → Sta K g1 H1 σ s1 → R σ g1 H1 v a S → Fresh g H S → Q v H1) : lft K R W A σ H Q :=
  run1 st h (fun xa s e => by subst e; exact k) hk
theorem i_range1 {a : Expr} {p pos : Pos} (hg : Gl X "range") (hm : X.mg "range" = none) (ha : PA X [a] (aL X.K W R)) (hs : starEach [a] X.env = [(false, eval a X.env)] := by rfl) : PI X tg (.Call (.Name "range" p) [a] [] pos) (iL X.K W (aRng1 R)) :=
  PIm (pi_range1 hg hm ha hs) fun σ H Q ⟨g, sl, r, st, e, k⟩ => run1I (R := RL X.K) st e k fun ts s1 g1 H1 vs S e1 n1 st1 r1 f1 => by
    split at e1
    · split at e1
      · rename_i j hj
        cases e1
        obtain ⟨v, rfl, _, r⟩ := r1.one
        cases r
        exact ⟨j, rfl, hj.1, hj.2, k g1 H1 _ [] n1 st1 (fun _ h => nomatch h) (ir_range (lo := 0))⟩
      · cases e1
    · cases e1
theorem i_range2 {a b : Expr} {p pos : Pos} (hg : Gl X "range") (hm : X.mg "range" = none) (ha : PA X [a, b] (aL X.K W R)) (hs : starEach [a, b] X.env = [(false, eval a X.env), (false, eval b X.env)] := by rfl) (hs2 : starEach [b] X.env = [(false, eval b X.env)] := by rfl) : PI X tg (.Call (.Name "range" p) [a, b] [] pos) (iL X.K W (aRng2 R)) :=
  PIm (pi_range2 hg hm ha hs hs2) fun σ H Q ⟨g, sl, r, st, e, k⟩ => run1I (R := RL X.K) st e k fun ts s1 g1 H1 vs S e1 n1 st1 r1 f1 => by
    split at e1
    · split at e1
      · rename_i i j hj
        cases e1
        obtain ⟨v, w, A, B, rfl, rfl, ⟨_, q1⟩, ⟨_, q2⟩, _⟩ := r1.two
        cases q1; cases q2
        exact ⟨i, j, rfl, hj, k g1 H1 _ [] n1 st1 (fun _ h => nomatch h) ir_range⟩
      · cases e1
    · cases e1
end
end Y

/-! Layer Y, part K: defs and calls. -/
namespace Y
open PySem PySem.Spec PyProof.Rows L2 Evl
/-- what a def answers: a value, what became of the trees it was handed -/
inductive FR where
  | ok (t : TV) (outs : SL) | ex (xa : XA) (outs : SL)
abbrev Den := List SV → Option FR
def outP : List SV → SL → SL
  | [], _ => []
  | a :: as, s => (match a, s with
    | .p _, some (.p m) :: _ => some (.p m)
    | _, _ => none) :: outP as s.tail
def start0 (N : Nat) (args : List SV) : SL := args.map some ++ List.replicate (N - args.length) none
/-- a def's body run (np parameters, N slots); exc: may an exception leave it? -/
def run (np N : Nat) (exc : Bool) (B : AS) : Den := fun args => if args.length = np then match B (start0 N args) with
  | some (.nx s) => some (.ok (.d .none) (outP args s))
  | some (.rt (.d x) s) => some (.ok (.d x) (outP args s))
  | some (.rt (.t m) s) => some (.ok (.t m) (outP args s))
  | some (.ex xa s) => if exc = true then some (.ex xa (outP args s)) else none
  | _ => none else none
def FK (K : PySem.W.Frag) (g : G) (H : Hp) (vs : List V) (Q : VK) (E : XK) : FR → Prop
  | .ok t outs => ∀ g' H' v S, Nx g H g' H' → Sta K g' H' (vs.map some) outs → RTV K g' H' (vs.map some) v t S → Fresh g H S → Q v H'
  | .ex xa outs => ∀ g' H' cls d, Nx g H g' H' → Sta K g' H' (vs.map some) outs → RX K g' cls d H' xa → E cls d H'
def liftV (K : PySem.W.Frag) (den : Den) : Sp := fun vs H Q E => ∃ g args r, Sta K g H (vs.map some) (args.map some) ∧ den args = some r ∧ FK K g H vs Q E r
section
variable {K : PySem.W.Frag} {g g' g0 : G} {H H' H0 : Hp} {σ : L2.St} {sl : SL}
theorem Sta.ext (st : Sta K g H σ sl) (n : Nat) : Sta K g H (σ ++ List.replicate n none) (sl ++ List.replicate n none) := by
  have lt : ∀ {i : Nat} {y : SV}, (sl ++ List.replicate n none)[i]? = some (some y) → sl[i]? = some (some y) ∧ (σ ++ List.replicate n none)[i]? = σ[i]? := fun {i y} h => by
    by_cases hi : i < sl.length
    · rw [List.getElem?_append_left hi] at h
      exact ⟨h, List.getElem?_append_left (by rw [st.len]; exact hi)⟩
    · rw [List.getElem?_append_right (by omega), List.getElem?_replicate] at h
      split at h <;> cases h
  refine ⟨st.ex, st.lf, st.la, st.ro, by simp [st.len], fun i y q => ?_, fun i y q => ?_, fun i y q => ?_, fun i y q => ?_, fun i q => ?_, fun i y q => ?_⟩
  all_goals
    obtain ⟨h1, h2⟩ := lt q
    rw [h2]
  · exact st.d i y h1
  · exact st.w i y h1
  · exact st.p i y h1
  · exact st.k i y h1
  · exact st.h i h1
  · exact st.x i y h1
theorem outP_get : ∀ {args : List SV} {s : SL} {i : Nat} {y : SV}, (outP args s)[i]? = some (some y) → ∃ m m0, y = .p m ∧ s[i]? = some (some (.p m)) ∧ args[i]? = some (.p m0)
  | [], s, i, y, h => by unfold outP at h; simp at h
  | a :: as, s, 0, y, h => by
    unfold outP at h
    rw [List.getElem?_cons_zero] at h
    have h' := Option.some.inj h
    split at h'
    · rename_i m0 m t
      cases h'
      exact ⟨m, m0, rfl, rfl, rfl⟩
    · cases h'
  | a :: as, s, i + 1, y, h => by
    unfold outP at h
    rw [List.getElem?_cons_succ] at h
    obtain ⟨m, m0, h1, h2, h3⟩ := outP_get h
    refine ⟨m, m0, h1, ?_, by simpa using h3⟩
    cases s with
    | nil => simp at h2
    | cons o t => simpa using h2
theorem outP_len : ∀ {args : List SV} {s : SL}, (outP args s).length = args.length
  | [], s => rfl
  | a :: as, s => by
    unfold outP
    rw [List.length_cons, List.length_cons, outP_len]
/-- behind the body: what became of the parameters' trees -/
theorem Sta.outs {vs : List V} {args : List SV} {σ' : L2.St} {s' : SL} (st0 : Sta K g H (vs.map some) (args.map some)) (n : Nx g H g' H') (st : Sta K g' H' σ' s') : Sta K g' H' (vs.map some) (outP args s') := by
  refine ⟨st.ex, st.lf, st.la, st.ro, by rw [st0.len, List.length_map, outP_len], fun i y q => ?_, fun i y q => ?_, fun i y q => ?_, fun i y q => ?_, fun i q => ?_, fun i y q => ?_⟩
  all_goals
    obtain ⟨m, m0, e, h1, h2⟩ := outP_get q
  · cases e
  · cases e
  · cases e
    obtain ⟨v, S, ⟨k1, k2⟩, k3⟩ := st.p i y h1
    obtain ⟨u, U, ⟨j1, j2⟩, _⟩ := st0.p i m0 (by rw [List.getElem?_map, h2]; rfl)
    rw [n.pi, j2] at k2
    cases k2
    exact ⟨v, S, ⟨j1, by rw [n.pi]; exact j2⟩, k3⟩
  · cases e
  · cases e
  · cases e
end
section
variable {P : Program} {w : World} {K : PySem.W.Frag} {mg : Str → Option Value} {base : Heap} {x qual : Str} {params : Arguments} {body : List Stmt} {scope : Scope} {f : Addr} {fd : FuncData} {N ps : List Str} {k : Nat}
theorem start_eq {N : List Str} {vs : List V} : L2.start N vs = vs.map some ++ List.replicate (N.length - vs.length) none := rfl
theorem body_sk {g : G} {H : Hp} {vs : List V} {args : List SV} {Q : VK} {E : XK} {W : WX} {B : AS} {np n : Nat} {exc : Bool} {r : FR} (hW : exc = true → ∀ cls d σ H', E cls d H' → W cls d σ H') (hN : N.length = n) (st : Sta K g H (vs.map some) (args.map some)) (e : run np n exc B args = some r) (k : FK K g H vs Q E r) :
    sL K W B { nx := fun _ H' => Q .non H', rt := Q } (L2.start N vs) H ∧ args.length = np ∧ vs.length = np := by
  unfold run at e
  split at e
  · rename_i hl
    have hvs : vs.length = args.length := by have := st.len; simpa using this
    refine ⟨?_, hl, hvs.trans hl⟩
    have st0 : Sta K g H (L2.start N vs) (start0 n args) := by
      rw [start_eq, hN, hvs]
      exact st.ext _
    cases eB : B (start0 n args) with
    | none => rw [eB] at e; cases e
    | some q =>
      rw [eB] at e
      refine ⟨g, _, q, st0, eB, ?_⟩
      cases q with
      | nx s =>
        cases e
        exact fun g' H' σ' n' st' => k g' H' .non [] n' (st.outs n' st') ⟨rfl, .non⟩ (Fresh.nil _ _)
      | bk s => cases e
      | ct s => cases e
      | rt t s =>
        cases t with
        | d x => cases e; exact fun g' H' σ' v S n' st' r f => k g' H' v S n' (st.outs n' st') r f
        | t m => cases e; exact fun g' H' σ' v S n' st' r f => k g' H' v S n' (st.outs n' st') r f
        | var i => cases e
        | x ds => cases e
        | c ds => cases e
        | sub p i j m => cases e
      | ex xa s =>
        dsimp only at e
        split at e
        · rename_i he
          cases e
          exact fun g' H' σ' cls d n' st' rx => hW he cls d σ' H' (k g' H' cls d n' (st.outs n' st') rx)
        · cases e
  · cases e
/-- a def that lets no exception out -/
theorem ok0 (F : FunD K x qual params body scope [] [] f fd) (S : FnScope N ps scope) {B : AS} (n : Nat) (hN : N.length = n)
    (hbody : ∀ (cdv : Value) (A : Around) (outer : List Env) (s : Shared) (H : Hp) (E : XK), Room k (A.deeper (envOfC qual scope s.heap.objs.size f cdv)) → PSs (cxOf CX0 P w K mg base N qual scope f cdv A outer s H E).nox body (sL K (fun _ _ _ _ => False) B)) :
    FnOk P w K mg base CX0 (k + 1) f fd ps (liftV K (run ps.length n false B)) := by
  refine F.ok S (fun vs H Q E ⟨g, args, r, st, e, k⟩ => (body_sk (W := fun _ _ _ _ => False) (exc := false) (fun z => by cases z) hN st e k).2.2) fun cdv A outer s H vs Q E hr h => ⟨_, (hbody cdv A outer s H E hr).nox, ?_⟩
  obtain ⟨g, args, r, st, e, k⟩ := h
  exact (body_sk (exc := false) (fun z => by cases z) hN st e k).1
/-- a def that may raise -/
theorem okX (F : FunD K x qual params body scope [] [] f fd) (S : FnScope N ps scope) {B : AS} (n : Nat) (hN : N.length = n)
    (hbody : ∀ (cdv : Value) (A : Around) (outer : List Env) (s : Shared) (H : Hp) (E : XK), Room k (A.deeper (envOfC qual scope s.heap.objs.size f cdv)) → PSs (cxOf (L2.CX P w) P w K mg base N qual scope f cdv A outer s H E) body (sL K (fun cls d _ H => E cls d H) B)) :
    FnOk P w K mg base (L2.CX P w) (k + 1) f fd ps (liftV K (run ps.length n true B)) := by
  refine F.ok S (fun vs H Q E ⟨g, args, r, st, e, k⟩ => (body_sk (W := fun cls d _ H => E cls d H) (fun _ _ _ _ _ z => z) hN st e k).2.2) fun cdv A outer s H vs Q E hr h => ⟨_, hbody cdv A outer s H E hr, ?_⟩
  obtain ⟨g, args, r, st, e, k⟩ := h
  exact (body_sk (fun _ _ _ _ _ z => z) hN st e k).1
end
/-! ### calls -/
/-- how an argument is handed over: as data, its slot's tree to be changed, to be read -/
inductive Mo where
  | f | m (i : Nat) | r (i : Nat)
def ctAt (s : SL) (i : Nat) : Option MV := match s[i]? with
  | some (some (.w m)) => some m
  | some (some (.p m)) => some m
  | some (some (.k m)) => some m
  | _ => none
/-- first: what is data -/
def argF1 (mo : Mo) (t : TV) (s : SL) : Option (D × SL) := match mo, t with
  | .f, .x _ => some (.none, s)
  | .f, t => fz s t
  | _, _ => some (.none, s)
def argF : List Mo → List TV → SL → Option (List D × SL)
  | [], [], s => some ([], s)
  | mo :: ms, t :: ts, s => (argF1 mo t s).bind fun r => (argF ms ts r.2).map fun q => (r.1 :: q.1, q.2)
  | _, _, _ => none
/-- then: the trees -/
def argM1 (s : SL) (mo : Mo) (t : TV) (x : D) : Option SV := match mo, t with
  | .m i, .var j => if i = j then (wAt s i).map .p else none
  | .r i, .var j => if i = j then (ctAt s i).map .k else none
  | .r _, .d y => some (.d y)
  | .r _, .x ds => some (.x ds)
  | .f, .x ds => some (.x ds)
  | .f, _ => some (.d x)
  | _, _ => none
def argM (s : SL) : List Mo → List TV → List D → Option (List SV)
  | [], [], [] => some []
  | mo :: ms, t :: ts, x :: xs => (argM1 s mo t x).bind fun a => (argM s ms ts xs).map (a :: ·)
  | _, _, _ => none
/-- what became of the trees, put back -/
def argB1 (mo : Mo) (o : Option SV) (s : SL) : Option SL := match mo with
  | .m i => match o with
    | some (.p m) => some (putAt s i m)
    | _ => none
  | _ => some s
def argB : List Mo → SL → SL → Option SL
  | [], _, s => some s
  | mo :: ms, o :: os, s => (argB1 mo o s).bind fun s1 => argB ms os s1
  | _, [], _ => none
def muIs : List Mo → List Nat
  | [] => []
  | .m i :: ms => i :: muIs ms
  | _ :: ms => muIs ms
def roIs : List Mo → List Nat
  | [] => []
  | .r i :: ms => i :: roIs ms
  | _ :: ms => roIs ms
def okMo (ms : List Mo) : Bool := decide (muIs ms).Nodup && (roIs ms).all fun i => !(muIs ms).contains i
def callT (exc : Bool) (den : Den) (ms : List Mo) (ts : List TV) (s1 : SL) : Option (Res TV) := (argF ms ts s1).bind fun p => (argM p.2 ms ts p.1).bind fun args => (den args).bind fun r => match r with
  | .ok t outs => (argB ms outs p.2).map fun s3 => .ok t s3
  | .ex xa outs => if exc = true then (argB ms outs p.2).map fun s3 => .ex xa s3 else none
/-- the child that was handed over, put back -/
def backC (N : Nat) (q : Sb) : Res TV → Option (Res TV)
  | .ok t s => (closeS N q.p q.i q.j q.m s).map (.ok t)
  | .ex xa s => (closeS N q.p q.i q.j q.m s).map (.ex xa)
def aCallG (exc : Bool) (den : Den) (ms : List Mo) (R : AA) : AE := fun s => bd (R s) fun ts s1 => match unsub s1.length ts with
  | none => callT exc den ms ts s1
  | some (ts', q) => (kid q.m q.j).bind fun c => (callT exc den ms ts' (s1 ++ [some (.w c)])).bind (backC s1.length q)
section
variable {K : PySem.W.Frag} {g g0 : G} {H H0 : Hp} {σ : L2.St}
/-- the arguments behind the first pass -/
structure ArgQ (K : PySem.W.Frag) (F : Hp) (σ : L2.St) (mo : Mo) (t : TV) (v : V) (y : D) : Prop where
  x : ∀ ds, t = .x ds → ∃ a ws, v = V.ref a ∧ SqL K F a ws ∧ RDs K F ws ds
  vr : ∀ i, t = .var i → σ[i]? = some (some v)
  d : ∀ z, t = .d z → RD K F v z
  f : mo = .f → (∀ ds, t ≠ .x ds) → RD K F v y
inductive ArgR (K : PySem.W.Frag) (F : Hp) (σ : L2.St) : List Mo → List TV → List V → List D → Prop
  | nil : ArgR K F σ [] [] [] []
  | cons {mo ms t ts v vs y xs} : ArgQ K F σ mo t v y → ArgR K F σ ms ts vs xs → ArgR K F σ (mo :: ms) (t :: ts) (v :: vs) (y :: xs)
theorem argF_ok : ∀ {ms : List Mo} {ts : List TV} {vs : List V} {S : List Addr} {g : G} {sl sl' : SL} {xs : List D}, Nx g0 H0 g H → Fresh g0 H0 S → Sta K g H σ sl → RTVs K g H σ vs ts S → argF ms ts sl = some (xs, sl') →
    ∃ g', Nx g0 H0 g' H ∧ Sta K g' H σ sl' ∧ Ex g.F g'.F ∧ ArgR K g'.F σ ms ts vs xs
  | [], [], vs, _, g, sl, sl', xs, n, f, st, r, h => by cases r; cases h; exact ⟨g, n, st, fun _ _ z => z, .nil⟩
  | [], _ :: _, _, _, _, _, _, _, n, f, st, r, h => by cases h
  | mo :: ms, [], _, _, _, _, _, _, n, f, st, r, h => by cases h
  | mo :: ms, t :: ts, [], _, g, sl, sl', xs, n, f, st, r, h => by cases r
  | mo :: ms, t :: ts, v :: vs, _, g, sl, sl', xs, n, f, st, r, h => by
    cases r with
    | @cons _ _ _ _ S1 S2 q r ap =>
    obtain ⟨⟨y, s1⟩, e0, h⟩ := Option.bind_eq_some_iff.mp h
    obtain ⟨⟨ys, s2⟩, e1, e2⟩ := Option.map_eq_some_iff.mp h
    cases e2
    have fr := fun a z => f a (List.mem_append_right _ z)
    obtain ⟨g1, n1, st1, ex1, kp, hf⟩ : ∃ g1, Nx g0 H0 g1 H ∧ Sta K g1 H σ s1 ∧ Ex g.F g1.F ∧ (∀ u tu U, RTV K g H σ u tu U → (∀ a ∈ S1, a ∉ U) → RTV K g1 H σ u tu U) ∧ (mo = .f → (∀ ds, t ≠ .x ds) → RD K g1.F v y) := by
      have triv : s1 = sl → (mo = .f → ∃ ds, t = .x ds) → ∃ g1, Nx g0 H0 g1 H ∧ Sta K g1 H σ s1 ∧ Ex g.F g1.F ∧ (∀ u tu U, RTV K g H σ u tu U → (∀ a ∈ S1, a ∉ U) → RTV K g1 H σ u tu U) ∧ (mo = .f → (∀ ds, t ≠ .x ds) → RD K g1.F v y) := fun e hm => by
        subst e
        exact ⟨g, n, st, fun _ _ z => z, fun _ _ _ q _ => q, fun hm' hx => let ⟨ds, e⟩ := hm hm'; absurd e (hx ds)⟩
      have fzz : fz sl t = some (y, s1) → ∃ g1, Nx g0 H0 g1 H ∧ Sta K g1 H σ s1 ∧ Ex g.F g1.F ∧ (∀ u tu U, RTV K g H σ u tu U → (∀ a ∈ S1, a ∉ U) → RTV K g1 H σ u tu U) ∧ (mo = .f → (∀ ds, t ≠ .x ds) → RD K g1.F v y) := fun e => by
        obtain ⟨g1, n1, st1, q1, kp, ex1⟩ := fz_keep n (fun a z => f a (List.mem_append_left _ z)) st q e
        exact ⟨g1, n1, st1, ex1, kp, fun _ _ => q1⟩
      cases mo with
      | m i => cases e0; exact triv rfl fun z => nomatch z
      | r i => cases e0; exact triv rfl fun z => nomatch z
      | f =>
        cases t with
        | x ds => cases e0; exact triv rfl fun _ => ⟨ds, rfl⟩
        | d z => exact fzz e0
        | t z => exact fzz e0
        | var z => exact fzz e0
        | c z => exact fzz e0
        | sub p i j m => exact fzz e0
    obtain ⟨g2, n2, st2, ex2, rr⟩ := argF_ok n1 fr st1 (RTVs.keep kp r ap) e1
    refine ⟨g2, n2, st2, fun a o z => ex2 a o (ex1 a o z), .cons ⟨fun ds e => ?_, fun i e => ?_, fun z e => ?_, fun h1 h2 => (hf h1 h2).mono ex2⟩ rr⟩
    · subst e; obtain ⟨_, a, ws, k1, k2, k3⟩ := q; exact ⟨a, ws, k1, ex_l ex2 (ex_l ex1 k2), (k3.mono ex1).mono ex2⟩
    · subst e; exact q.2
    · subst e; exact (q.2.mono ex1).mono ex2
/-- one argument as it is handed over -/
inductive ArgE (K : PySem.W.Frag) (F : Hp) (σ : L2.St) (s : SL) (mo : Mo) (v : V) : SV → Prop
  | d {x} : (∀ i, mo ≠ .m i) → RD K F v x → ArgE K F σ s mo v (.d x)
  | x {ds a ws} : (∀ i, mo ≠ .m i) → v = .ref a → SqL K F a ws → RDs K F ws ds → ArgE K F σ s mo v (.x ds)
  | p {i m} : mo = .m i → σ[i]? = some (some v) → wAt s i = some m → ArgE K F σ s mo v (.p m)
  | k {i m} : mo = .r i → σ[i]? = some (some v) → ctAt s i = some m → ArgE K F σ s mo v (.k m)
inductive ArgL (K : PySem.W.Frag) (F : Hp) (σ : L2.St) (s : SL) : List Mo → List V → List SV → Prop
  | nil : ArgL K F σ s [] [] []
  | cons {mo ms v vs a as} : ArgE K F σ s mo v a → ArgL K F σ s ms vs as → ArgL K F σ s (mo :: ms) (v :: vs) (a :: as)
theorem ArgL.length {F : Hp} {s : SL} : ∀ {ms : List Mo} {vs : List V} {as : List SV}, ArgL K F σ s ms vs as → vs.length = as.length ∧ ms.length = as.length
  | _, _, _, .nil => ⟨rfl, rfl⟩
  | _, _, _, .cons _ r => ⟨by rw [List.length_cons, List.length_cons, r.length.1], by rw [List.length_cons, List.length_cons, r.length.2]⟩
theorem ArgL.get {F : Hp} {s : SL} : ∀ {ms : List Mo} {vs : List V} {as : List SV} {j : Nat} {a : SV}, ArgL K F σ s ms vs as → as[j]? = some a → ∃ mo v, ms[j]? = some mo ∧ vs[j]? = some v ∧ ArgE K F σ s mo v a
  | _, _, _, _, _, .nil, h => by simp at h
  | _, _, _, 0, _, .cons e _, h => by simp at h; subst h; exact ⟨_, _, rfl, rfl, e⟩
  | _, _, _, j + 1, _, .cons _ r, h => by
    obtain ⟨mo, v, h1, h2, h3⟩ := ArgL.get (j := j) r (by simpa using h)
    exact ⟨mo, v, by simpa using h1, by simpa using h2, h3⟩
theorem argM1_ok {F : Hp} {s : SL} {mo : Mo} {t : TV} {v : V} {y : D} {a : SV} (q : ArgQ K F σ mo t v y) (h : argM1 s mo t y = some a) : ArgE K F σ s mo v a := by
  unfold argM1 at h
  split at h
  · split at h
    · rename_i e; subst e
      obtain ⟨m, e1, rfl⟩ := Option.map_eq_some_iff.mp h
      exact .p rfl (q.vr _ rfl) e1
    · cases h
  · split at h
    · rename_i e; subst e
      obtain ⟨m, e1, rfl⟩ := Option.map_eq_some_iff.mp h
      exact .k rfl (q.vr _ rfl) e1
    · cases h
  · cases h; exact .d (fun _ z => nomatch z) (q.d _ rfl)
  · cases h; obtain ⟨a, ws, h1, h2, h3⟩ := q.x _ rfl; exact .x (fun _ z => nomatch z) h1 h2 h3
  · cases h; obtain ⟨a, ws, h1, h2, h3⟩ := q.x _ rfl; exact .x (fun _ z => nomatch z) h1 h2 h3
  · rename_i hx
    cases h; exact .d (fun _ z => nomatch z) (q.f rfl fun ds e => hx ds e)
  · cases h
theorem argM_ok {F : Hp} {s : SL} : ∀ {ms : List Mo} {ts : List TV} {vs : List V} {xs : List D} {as : List SV}, ArgR K F σ ms ts vs xs → argM s ms ts xs = some as → ArgL K F σ s ms vs as
  | _, _, _, _, as, .nil, h => by cases h; exact .nil
  | _, _, _, _, as, .cons q r, h => by
    unfold argM at h
    obtain ⟨a, e1, h⟩ := Option.bind_eq_some_iff.mp h
    obtain ⟨q', e2, rfl⟩ := Option.map_eq_some_iff.mp h
    exact .cons (argM1_ok q e1) (argM_ok r e2)
/-! the slots that are handed over to be changed -/
def ixOf : List Mo → Nat → Option Nat
  | [], _ => none
  | .m i' :: ms, i => if i' = i then some 0 else (ixOf ms i).map (· + 1)
  | _ :: ms, i => (ixOf ms i).map (· + 1)
theorem ixOf_none : ∀ {ms : List Mo} {i : Nat}, i ∉ muIs ms → ixOf ms i = none
  | [], _, _ => rfl
  | .m i' :: ms, i, h => by
    unfold ixOf
    have h' : i ∉ i' :: muIs ms := h
    rw [if_neg (fun e : i' = i => h' (e ▸ List.mem_cons_self)), ixOf_none fun z => h' (List.mem_cons_of_mem _ z)]; rfl
  | .f :: ms, i, h => by unfold ixOf; rw [ixOf_none (show i ∉ muIs ms from h)]; rfl
  | .r _ :: ms, i, h => by unfold ixOf; rw [ixOf_none (show i ∉ muIs ms from h)]; rfl
theorem ixOf_get : ∀ {ms : List Mo} {i j : Nat}, ixOf ms i = some j → ms[j]? = some (.m i)
  | [], _, _, h => by cases h
  | .m i' :: ms, i, j, h => by
    unfold ixOf at h
    split at h
    · rename_i e; cases h; subst e; rfl
    · obtain ⟨j', e1, rfl⟩ := Option.map_eq_some_iff.mp h
      rw [List.getElem?_cons_succ]; exact ixOf_get e1
  | .f :: ms, i, j, h => by
    unfold ixOf at h
    obtain ⟨j', e1, rfl⟩ := Option.map_eq_some_iff.mp h
    rw [List.getElem?_cons_succ]; exact ixOf_get e1
  | .r _ :: ms, i, j, h => by
    unfold ixOf at h
    obtain ⟨j', e1, rfl⟩ := Option.map_eq_some_iff.mp h
    rw [List.getElem?_cons_succ]; exact ixOf_get e1
theorem mem_muIs : ∀ {ms : List Mo} {i j : Nat}, ms[j]? = some (.m i) → i ∈ muIs ms
  | [], _, _, h => by simp at h
  | mo :: ms, i, 0, h => by simp at h; subst h; exact List.mem_cons_self
  | mo :: ms, i, j + 1, h => by
    have := mem_muIs (ms := ms) (by simpa using h)
    cases mo with
    | m i' => exact List.mem_cons_of_mem _ this
    | f => exact this
    | r _ => exact this
theorem mem_roIs : ∀ {ms : List Mo} {i j : Nat}, ms[j]? = some (.r i) → i ∈ roIs ms
  | [], _, _, h => by simp at h
  | mo :: ms, i, 0, h => by simp at h; subst h; exact List.mem_cons_self
  | mo :: ms, i, j + 1, h => by
    have := mem_roIs (ms := ms) (by simpa using h)
    cases mo with
    | r i' => exact List.mem_cons_of_mem _ this
    | f => exact this
    | m _ => exact this
theorem ixOf_of : ∀ {ms : List Mo} {i j : Nat}, (muIs ms).Nodup → ms[j]? = some (.m i) → ixOf ms i = some j
  | [], _, _, _, h => by simp at h
  | .m i' :: ms, i, 0, _, h => by simp at h; unfold ixOf; rw [if_pos h]
  | .m i' :: ms, i, j + 1, nd, h => by
    have h' : ms[j]? = some (.m i) := by simpa using h
    have nd' : i' ∉ muIs ms ∧ (muIs ms).Nodup := List.nodup_cons.mp nd
    unfold ixOf
    rw [if_neg (fun e : i' = i => nd'.1 (e ▸ mem_muIs h')), ixOf_of nd'.2 h']; rfl
  | .f :: ms, i, 0, _, h => by simp at h
  | .f :: ms, i, j + 1, nd, h => by unfold ixOf; rw [ixOf_of (show (muIs ms).Nodup from nd) (by simpa using h)]; rfl
  | .r _ :: ms, i, 0, _, h => by simp at h
  | .r _ :: ms, i, j + 1, nd, h => by unfold ixOf; rw [ixOf_of (show (muIs ms).Nodup from nd) (by simpa using h)]; rfl
theorem putAt_ne {s : SL} {i j : Nat} {m : MV} (h : i ≠ j) : (putAt s i m)[j]? = s[j]? := by
  unfold putAt; split <;> exact List.getElem?_set_ne h
theorem putAt_len {s : SL} {i : Nat} {m : MV} : (putAt s i m).length = s.length := by unfold putAt; split <;> exact List.length_set
theorem putAt_get {s : SL} {i : Nat} {m : MV} : (putAt s i m)[i]? = (s[i]?).map fun o => some (match o with
    | some (.p _) => SV.p m
    | _ => .w m) := by
  unfold putAt
  by_cases hi : i < s.length
  · split
    · rename_i e
      rw [List.getElem?_set_self hi, e]; rfl
    · rename_i ne
      rw [List.getElem?_set_self hi]
      cases e : s[i]? with
      | none => exact absurd (List.getElem?_eq_none_iff.mp e) (by omega)
      | some o =>
        cases o with
        | none => rfl
        | some y => cases y <;> first | rfl | exact absurd e (ne _)
  · have : s[i]? = none := List.getElem?_eq_none_iff.mpr (by omega)
    split
    · rw [List.getElem?_eq_none (by rw [List.length_set]; omega), this]; rfl
    · rw [List.getElem?_eq_none (by rw [List.length_set]; omega), this]; rfl
theorem argB_get : ∀ {ms : List Mo} {outs : SL} {s s3 : SL}, argB ms outs s = some s3 → (muIs ms).Nodup →
    s3.length = s.length ∧ ∀ i, (ixOf ms i = none → s3[i]? = s[i]?) ∧ ∀ j, ixOf ms i = some j → ∃ m, outs[j]? = some (some (.p m)) ∧ s3[i]? = (putAt s i m)[i]?
  | [], outs, s, s3, h, _ => by
    cases h
    exact ⟨rfl, fun i => ⟨fun _ => rfl, fun j z => by cases z⟩⟩
  | mo :: ms, [], _, _, h, _ => by cases h
  | mo :: ms, o :: os, s, s3, h, nd => by
    obtain ⟨s1, e1, hB⟩ := Option.bind_eq_some_iff.mp h
    have other : (∀ i, ixOf (mo :: ms) i = (ixOf ms i).map (· + 1)) → (muIs ms).Nodup → s1 = s → s3.length = s.length ∧ ∀ i, (ixOf (mo :: ms) i = none → s3[i]? = s[i]?) ∧ ∀ j, ixOf (mo :: ms) i = some j → ∃ m, (o :: os)[j]? = some (some (.p m)) ∧ s3[i]? = (putAt s i m)[i]? := fun hx nd' e => by
      subst e
      obtain ⟨h1, h2⟩ := argB_get (ms := ms) (outs := os) hB nd'
      refine ⟨h1, fun i => ⟨fun z => (h2 i).1 ?_, fun j z => ?_⟩⟩
      · rw [hx] at z
        cases e : ixOf ms i with
        | none => rfl
        | some j => rw [e] at z; cases z
      · rw [hx] at z
        obtain ⟨j', e1, rfl⟩ := Option.map_eq_some_iff.mp z
        obtain ⟨m', k1, k2⟩ := (h2 i).2 j' e1
        exact ⟨m', by simpa using k1, k2⟩
    cases mo with
    | f => exact other (fun _ => rfl) nd (by cases e1; rfl)
    | r i0 => exact other (fun _ => rfl) nd (by cases e1; rfl)
    | m i0 =>
      have nd' : i0 ∉ muIs ms ∧ (muIs ms).Nodup := List.nodup_cons.mp nd
      obtain ⟨m, eo, es⟩ : ∃ m, o = some (.p m) ∧ s1 = putAt s i0 m := by
        cases o with
        | none => cases e1
        | some y => cases y with
          | p m => cases e1; exact ⟨m, rfl, rfl⟩
          | _ => cases e1
      subst eo es
      obtain ⟨h1, h2⟩ := argB_get (ms := ms) (outs := os) hB nd'.2
      refine ⟨h1.trans putAt_len, fun i => ⟨fun z => ?_, fun j z => ?_⟩⟩
      · unfold ixOf at z
        split at z
        · cases z
        · rename_i ne
          rw [(h2 i).1 (by cases e : ixOf ms i with
            | none => rfl
            | some j => rw [e] at z; cases z), putAt_ne ne]
      · unfold ixOf at z
        split at z
        · rename_i e; subst e; cases z
          exact ⟨m, rfl, (h2 i0).1 (ixOf_none nd'.1)⟩
        · rename_i ne
          obtain ⟨j', e1, rfl⟩ := Option.map_eq_some_iff.mp z
          obtain ⟨m', k1, k2⟩ := (h2 i).2 j' e1
          refine ⟨m', by simpa using k1, ?_⟩
          rw [k2, putAt_get, putAt_get, putAt_ne ne]
/-- the callee's ghost -/
def calG (K : PySem.W.Frag) (g : G) (H : Hp) (σ : L2.St) (s : SL) (ms : List Mo) (vs : List V) : G :=
  { F := g.F, lab := fun a => (g.lab a).bind (ixOf ms), π := fun j => vs[j]?, ro := fun j a => ∃ i v m U, ms[j]? = some (.r i) ∧ σ[i]? = some (some v) ∧ ctAt s i = some m ∧ Rep K g.F H v m U ∧ U.Nodup ∧ (∀ b ∈ U, g.F b = none ∧ (g.lab b = some i ∨ g.lab b = none)) ∧ a ∈ U }
/-- the caller's ghost behind the call -/
def retG (g g' : G) (ms : List Mo) : G :=
  { F := g'.F, lab := fun a => match g'.lab a with
      | some j => (match ms[j]? with
        | some (.m i) => some i
        | _ => none)
      | none => match g.lab a with
        | some i => if ixOf ms i = none then some i else none
        | none => none
    π := g.π, ro := g.ro }
theorem ct_ok {s : SL} {i : Nat} {m : MV} (st : Sta K g H σ s) (h : ctAt s i = some m) : ∃ v U, σ[i]? = some (some v) ∧ Rep K g.F H v m U ∧ U.Nodup ∧ ∀ b ∈ U, g.F b = none ∧ (g.lab b = some i ∨ g.lab b = none) := by
  unfold ctAt at h
  split at h
  · rename_i e; cases h
    obtain ⟨v, U, h1, h2, h3, h4⟩ := st.w i _ e
    exact ⟨v, U, h1, h2, h3, fun b hb => ⟨st.lf b (by rw [h4 b hb]; exact fun z => nomatch z), .inl (h4 b hb)⟩⟩
  · rename_i e; cases h
    obtain ⟨v, U, ⟨h1, _⟩, h2, h3, h4⟩ := st.p i _ e
    exact ⟨v, U, h1, h2, h3, fun b hb => ⟨st.lf b (by rw [h4 b hb]; exact fun z => nomatch z), .inl (h4 b hb)⟩⟩
  · rename_i e; cases h
    obtain ⟨v, U, ⟨h1, _⟩, h2, h3, h4⟩ := st.k i _ e
    exact ⟨v, U, h1, h2, h3, fun b hb => ⟨(st.ro b ⟨_, h4 b hb⟩).2.1, .inr (st.ro b ⟨_, h4 b hb⟩).2.2⟩⟩
  · cases h
theorem cal_lab {s : SL} {ms : List Mo} {vs : List V} {a : Addr} (h : (calG K g H σ s ms vs).lab a ≠ none) : g.lab a ≠ none := fun z => h (by
  show (g.lab a).bind (ixOf ms) = none
  rw [z]; rfl)
theorem cal_sta {s : SL} {ms : List Mo} {vs : List V} {as : List SV} (st : Sta K g H σ s) (ok : okMo ms = true) (al : ArgL K g.F σ s ms vs as) : Sta K (calG K g H σ s ms vs) H (vs.map some) (as.map some) := by
  have nd : (muIs ms).Nodup := of_decide_eq_true (Bool.and_eq_true_iff.mp ok).1
  have dis : ∀ i ∈ roIs ms, i ∉ muIs ms := fun i hi => by
    have := List.all_eq_true.mp (Bool.and_eq_true_iff.mp ok).2 i hi
    simpa using this
  have get : ∀ {j : Nat} {a : SV}, (as.map some)[j]? = some (some a) → ∃ mo v, ms[j]? = some mo ∧ (vs.map some)[j]? = some (some v) ∧ vs[j]? = some v ∧ ArgE K g.F σ s mo v a := fun {j a} h => by
    rw [List.getElem?_map] at h
    obtain ⟨a', h1, h2⟩ := Option.map_eq_some_iff.mp h
    cases h2
    obtain ⟨mo, v, k1, k2, k3⟩ := al.get h1
    exact ⟨mo, v, k1, by rw [List.getElem?_map, k2]; rfl, k2, k3⟩
  refine ⟨st.ex, fun a h => st.lf a (cal_lab h), fun a h => st.la a (cal_lab h), fun a h => ?_, by simp [al.length.1], fun j y q => ?_, fun j y q => ?_, fun j y q => ?_, fun j y q => ?_, fun j q => ?_, fun j y q => ?_⟩
  · obtain ⟨j, i, v, m, U, h1, h2, h3, h4, h5, h6, h7⟩ := h
    refine ⟨h4.keep a h7, (h6 a h7).1, ?_⟩
    show (g.lab a).bind (ixOf ms) = none
    rcases (h6 a h7).2 with e | e
    · rw [e]; exact ixOf_none (dis i (mem_roIs h1))
    · rw [e]; rfl
  · obtain ⟨mo, v, h1, h2, h3, e⟩ := get q
    cases e with
    | d _ r => exact ⟨v, h2, r⟩
  · obtain ⟨mo, v, h1, h2, h3, e⟩ := get q
    cases e
  · obtain ⟨mo, v, h1, h2, h3, e⟩ := get q
    cases e with
    | @p i m e1 e2 e3 =>
      subst e1
      obtain ⟨u, U, k1, k2, k3, k4⟩ := st.own e3
      rw [e2] at k1; cases k1
      refine ⟨v, U, ⟨h2, h3⟩, k2, k3, fun a ha => ?_⟩
      show (g.lab a).bind (ixOf ms) = some j
      rw [k4 a ha]
      exact ixOf_of nd h1
  · obtain ⟨mo, v, h1, h2, h3, e⟩ := get q
    cases e with
    | @k i m e1 e2 e3 =>
      subst e1
      obtain ⟨u, U, k1, k2, k3, k4⟩ := ct_ok st e3
      rw [e2] at k1; cases k1
      exact ⟨v, U, ⟨h2, h3⟩, k2, k3, fun a ha => ⟨i, v, y, U, h1, e2, e3, k2, k3, k4, ha⟩⟩
  · obtain ⟨mo, v, h1, h2, h3, e⟩ := get q
    cases e
  · obtain ⟨mo, v, h1, h2, h3, e⟩ := get q
    cases e with
    | @x ds a ws _ e1 e2 e3 => subst e1; exact ⟨a, ws, h2, e2, e3⟩
/-- what is framed for the caller, and what the callee is not handed, is framed for the callee -/
theorem cal_framed {s : SL} {ms : List Mo} {vs : List V} {a : Addr} (k : Keep (H a)) (hF : g.F a = none) (hl : ∀ i, g.lab a = some i → ixOf ms i = none) : Framed (calG K g H σ s ms vs) H a := by
  refine ⟨k, hF, ?_⟩
  show (g.lab a).bind (ixOf ms) = none
  cases e : g.lab a with
  | none => rfl
  | some i => exact hl i e
theorem ret_sta {s s3 : SL} {ms : List Mo} {vs : List V} {as : List SV} {outs : SL} {g' : G} {H' : Hp} (n : Nx g0 H0 g H) (st : Sta K g H σ s) (ok : okMo ms = true) (al : ArgL K g.F σ s ms vs as)
    (n' : Nx (calG K g H σ s ms vs) H g' H') (st' : Sta K g' H' (vs.map some) outs) (hB : argB ms outs s = some s3) : Nx g0 H0 (retG g g' ms) H' ∧ Sta K (retG g g' ms) H' σ s3 ∧
      (∀ {u : V} {t : TV} {U : List Addr} {σ' : L2.St}, OwnT t → RTV K g' H' σ' u t U → Fresh (calG K g H σ s ms vs) H U → RTV K (retG g g' ms) H' σ u t U ∧ Fresh g0 H0 U) := by
  have nd : (muIs ms).Nodup := of_decide_eq_true (Bool.and_eq_true_iff.mp ok).1
  obtain ⟨hl3, hg3⟩ := argB_get hB nd
  have lg : ∀ a, Framed g H a → Framed (calG K g H σ s ms vs) H a := fun a f => cal_framed f.1 f.2.1 fun i e => by rw [f.2.2] at e; cases e
  have lu : ∀ a i, g.lab a = some i → ixOf ms i = none → Framed (calG K g H σ s ms vs) H a := fun a i e hx => cal_framed (st.la a (by rw [e]; exact fun z => nomatch z)) (st.lf a (by rw [e]; exact fun z => nomatch z)) fun i' e' => by rw [e] at e'; cases e'; exact hx
  have ro : ∀ a, g.RO a → Framed g H a := st.ro
  have rlab : ∀ a, Framed g H a → (retG g g' ms).lab a = none := fun a f => by
    obtain ⟨_, _, h3⟩ := n'.out a (lg a f)
    show (match g'.lab a with
      | some j => (match ms[j]? with
        | some (.m i) => some i
        | _ => none)
      | none => match g.lab a with
        | some i => if ixOf ms i = none then some i else none
        | none => none) = none
    rw [h3, f.2.2]
  have rlu : ∀ a i, g.lab a = some i → ixOf ms i = none → (retG g g' ms).lab a = some i := fun a i e hx => by
    obtain ⟨_, _, h3⟩ := n'.out a (lu a i e hx)
    show (match g'.lab a with
      | some j => (match ms[j]? with
        | some (.m i) => some i
        | _ => none)
      | none => match g.lab a with
        | some i => if ixOf ms i = none then some i else none
        | none => none) = some i
    rw [h3, e]
    exact if_pos hx
  have rlm : ∀ a i j, g'.lab a = some j → ixOf ms i = some j → (retG g g' ms).lab a = some i := fun a i j e hx => by
    show (match g'.lab a with
      | some j => (match ms[j]? with
        | some (.m i) => some i
        | _ => none)
      | none => match g.lab a with
        | some i => if ixOf ms i = none then some i else none
        | none => none) = some i
    rw [e]
    dsimp only
    rw [ixOf_get hx]
  have rcase : ∀ a, (retG g g' ms).lab a ≠ none → g'.lab a ≠ none ∨ ∃ i, g.lab a = some i ∧ ixOf ms i = none := fun a h => by
    cases e : g'.lab a with
    | some j => exact .inl fun z => nomatch z
    | none =>
      right
      have h' : (match g'.lab a with
        | some j => (match ms[j]? with
          | some (.m i) => some i
          | _ => none)
        | none => match g.lab a with
          | some i => if ixOf ms i = none then some i else none
          | none => none) ≠ none := h
      rw [e] at h'
      cases e2 : g.lab a with
      | none => rw [e2] at h'; exact absurd rfl h'
      | some i =>
        rw [e2] at h'
        dsimp only at h'
        by_cases hx : ixOf ms i = none
        · exact ⟨i, rfl, hx⟩
        · rw [if_neg hx] at h'; exact absurd rfl h'
  -- a slot that was not handed over to be changed
  have same : ∀ {i : Nat} {v : V} {m : MV} {U : List Addr}, ixOf ms i = none → Rep K g.F H v m U → (∀ a ∈ U, g.lab a = some i) → Rep K g'.F H' v m U ∧ ∀ a ∈ U, (retG g g' ms).lab a = some i := fun {i v m U} hx r hU =>
    ⟨r.mono n'.ex fun a z => (n'.out a (lu a i (hU a z) hx)).1, fun a z => rlu a i (hU a z) hx⟩
  -- one that was
  have put : ∀ {i j : Nat} {m : MV} {o : SV}, ixOf ms i = some j → outs[j]? = some (some (.p m)) → ∃ v S, σ[i]? = some (some v) ∧ (∀ y, s[i]? = some (some (.p y)) → g.π i = some v) ∧ Rep K g'.F H' v m S ∧ S.Nodup ∧ ∀ a ∈ S, (retG g g' ms).lab a = some i := fun {i j m o} hx ho => by
    obtain ⟨v, S, ⟨k1, k2⟩, k3, k4, k5⟩ := st'.p j m ho
    have hj := (List.getElem?_eq_some_iff.mp ho).1
    have hva : vs.length = as.length := al.length.1
    have hjl : j < as.length := by
      have := (List.getElem?_eq_some_iff.mp k1).1
      simp at this
      omega
    obtain ⟨mo, v', e1, e2, e3⟩ := al.get (List.getElem?_eq_getElem hjl)
    rw [ixOf_get hx] at e1
    cases e1
    rw [List.getElem?_map, e2] at k1
    cases k1
    have hs : σ[i]? = some (some v) := by
      generalize as[j] = a at e3
      cases e3 with
      | p q1 q2 q3 => cases q1; exact q2
      | k q1 q2 q3 => cases q1
      | d q _ => exact absurd rfl (q i)
      | x q => exact absurd rfl (q i)
    refine ⟨v, S, hs, fun y hy => ?_, k3, k4, fun a z => rlm a i j (k5 a z) hx⟩
    obtain ⟨u, U, ⟨q1, q2⟩, _⟩ := st.p i y hy
    rw [hs] at q1; cases q1
    exact q2
  have slot : ∀ (i : Nat), (ixOf ms i = none ∧ s3[i]? = s[i]?) ∨ ∃ j m o, ixOf ms i = some j ∧ outs[j]? = some (some (.p m)) ∧ ((∃ y, s[i]? = some (some (.p y)) ∧ s3[i]? = some (some (.p m))) ∨ ((∀ y, s[i]? ≠ some (some (.p y))) ∧ (s[i]? = none ∧ s3[i]? = none ∨ s[i]? = some o ∧ s3[i]? = some (some (.w m))))) := fun i => by
    cases hx : ixOf ms i with
    | none => exact .inl ⟨rfl, (hg3 i).1 hx⟩
    | some j =>
      obtain ⟨m, k1, k2⟩ := (hg3 i).2 j hx
      rw [putAt_get] at k2
      right
      cases e : s[i]? with
      | none =>
        rw [e] at k2
        exact ⟨j, m, none, rfl, k1, .inr ⟨(fun y z => nomatch z), .inl ⟨rfl, k2⟩⟩⟩
      | some o =>
        rw [e] at k2
        refine ⟨j, m, o, rfl, k1, ?_⟩
        cases o with
        | none => exact .inr ⟨(fun y z => nomatch z), .inr ⟨rfl, k2⟩⟩
        | some y =>
          cases y with
          | p y => exact .inl ⟨y, rfl, k2⟩
          | d y => exact .inr ⟨(fun y z => nomatch z), .inr ⟨rfl, k2⟩⟩
          | w y => exact .inr ⟨(fun y z => nomatch z), .inr ⟨rfl, k2⟩⟩
          | k y => exact .inr ⟨(fun y z => nomatch z), .inr ⟨rfl, k2⟩⟩
          | h => exact .inr ⟨(fun y z => nomatch z), .inr ⟨rfl, k2⟩⟩
          | x y => exact .inr ⟨(fun y z => nomatch z), .inr ⟨rfl, k2⟩⟩
  have nop : ∀ {i : Nat} {y : SV}, s3[i]? = some (some y) → (∀ m, y ≠ .p m) → (∀ m, y ≠ .w m) → s[i]? = some (some y) := fun {i y} e np nw => by
    rcases slot i with ⟨_, h⟩ | ⟨j, m, o, _, _, ⟨y', _, h⟩ | ⟨_, ⟨_, h⟩ | ⟨_, h⟩⟩⟩
    · rw [← h]; exact e
    · rw [h] at e; cases e; exact absurd rfl (np m)
    · rw [h] at e; cases e
    · rw [h] at e; cases e; exact absurd rfl (nw m)
  refine ⟨⟨fun a o h => n'.ex a o (n.ex a o h), n.pi, n.ro, fun a f => ?_⟩, ⟨st'.ex, fun a h => ?_, fun a h => ?_, fun a h => ?_, by rw [hl3]; exact st.len, fun i y q => ?_, fun i y q => ?_, fun i y q => ?_, fun i y q => ?_, fun i q => ?_, fun i y q => ?_⟩, fun {u t U σ'} hv r f => ?_⟩
  · have f' := n.fr f
    obtain ⟨h1, h2, h3⟩ := n'.out a (lg a f')
    exact ⟨h1.trans (n.out a f).1, h2, rlab a f'⟩
  · rcases rcase a h with h | ⟨i, e, hx⟩
    · exact st'.lf a h
    · exact (n'.out a (lu a i e hx)).2.1
  · rcases rcase a h with h | ⟨i, e, hx⟩
    · exact st'.la a h
    · rw [(n'.out a (lu a i e hx)).1]; exact st.la a (by rw [e]; exact fun z => nomatch z)
  · have f := ro a h
    obtain ⟨h1, h2, _⟩ := n'.out a (lg a f)
    exact ⟨by rw [h1]; exact f.1, h2, rlab a f⟩
  · have e := nop q (fun _ z => nomatch z) (fun _ z => nomatch z)
    obtain ⟨v, h1, h2⟩ := st.d i y e
    exact ⟨v, h1, h2.mono n'.ex⟩
  · rcases slot i with ⟨hx, h⟩ | ⟨j, m, o, hx, ho, ⟨y', _, h⟩ | ⟨np, ⟨_, h⟩ | ⟨_, h⟩⟩⟩
    · rw [h] at q
      obtain ⟨v, U, h1, h2, h3, h4⟩ := st.w i y q
      obtain ⟨r1, r2⟩ := same hx h2 h4
      exact ⟨v, U, h1, r1, h3, r2⟩
    · rw [h] at q; cases q
    · rw [h] at q; cases q
    · rw [h] at q; cases q
      obtain ⟨v, S, k1, _, k3, k4, k5⟩ := put (o := .h) hx ho
      exact ⟨v, S, k1, k3, k4, k5⟩
  · rcases slot i with ⟨hx, h⟩ | ⟨j, m, o, hx, ho, ⟨y', e, h⟩ | ⟨np, ⟨_, h⟩ | ⟨_, h⟩⟩⟩
    · rw [h] at q
      obtain ⟨v, U, h1, h2, h3, h4⟩ := st.p i y q
      obtain ⟨r1, r2⟩ := same hx h2 h4
      exact ⟨v, U, h1, r1, h3, r2⟩
    · rw [h] at q; cases q
      obtain ⟨v, S, k1, k2, k3, k4, k5⟩ := put (o := .h) hx ho
      exact ⟨v, S, ⟨k1, k2 y' e⟩, k3, k4, k5⟩
    · rw [h] at q; cases q
    · rw [h] at q; cases q
  · have e := nop q (fun _ z => nomatch z) (fun _ z => nomatch z)
    obtain ⟨v, U, h1, h2, h3, h4⟩ := st.k i y e
    exact ⟨v, U, h1, h2.mono n'.ex fun a z => (n'.out a (lg a (ro a ⟨_, h4 a z⟩))).1, h3, h4⟩
  · have e := nop q (fun _ z => nomatch z) (fun _ z => nomatch z)
    exact st.h i e
  · have e := nop q (fun _ z => nomatch z) (fun _ z => nomatch z)
    obtain ⟨a, ws, h1, h2, h3⟩ := st.x i y e
    exact ⟨a, ws, h1, ex_l n'.ex h2, h3.mono n'.ex⟩
  · refine ⟨?_, fun a z f2 => f a z (lg a (n.fr f2))⟩
    cases t with
    | d x => exact r
    | var i => exact hv.elim
    | x ds => exact hv.elim
    | c ds => exact hv.elim
    | sub p i j m => exact hv.elim
    | t m =>
      refine ⟨r.1, r.2.1, fun a z => ⟨(r.2.2 a z).1, ?_, fun q => f a z (lg a (ro a q))⟩⟩
      show (match g'.lab a with
        | some j => (match ms[j]? with
          | some (.m i) => some i
          | _ => none)
        | none => match g.lab a with
          | some i => if ixOf ms i = none then some i else none
          | none => none) = none
      rw [(r.2.2 a z).2.1]
      dsimp only
      cases e : g.lab a with
      | none => rfl
      | some i =>
        dsimp only
        by_cases hx : ixOf ms i = none
        · exact absurd (lu a i e hx) (f a z)
        · exact if_neg hx
end
def DenOk (den : Den) : Prop := ∀ as t outs, den as = some (.ok t outs) → OwnT t
theorem run_ok {np N : Nat} {exc : Bool} {B : AS} : DenOk (run np N exc B) := by
  intro as t outs h
  unfold run at h
  split at h
  · split at h
    · cases h; trivial
    · cases h; trivial
    · cases h; trivial
    · split at h <;> cases h
    · cases h
  · cases h
section
variable {X : Cx} {W : WX} {pos : Pos} {e : Expr} {es : List Expr} {R : AA} {den : Den} {ms : List Mo}
theorem pairedImp {α β : Type} {R S : α → β → Prop} (f : ∀ x y, R x y → S x y) : ∀ {xs : List α} {ys : List β}, Paired R xs ys → Paired S xs ys
  | _, _, .nil => .nil
  | _, _, .cons h t => .cons (f _ _ h) (pairedImp f t)
theorem RX.mono {K : PySem.W.Frag} {g g' : G} {H : Hp} {cls : Value} {d : Option Addr} {xa : XA} (ex : Ex g.F g'.F) (r : RX K g cls d H xa) : RX K g' cls d H xa := by
  obtain ⟨r1, r2⟩ := r
  refine ⟨r1, ?_⟩
  cases e : xa.2 with
  | none => rw [e] at r2; exact r2
  | some fs =>
    rw [e] at r2
    obtain ⟨a, kvs, h1, h2, h3⟩ := r2
    exact ⟨a, kvs, h1, h2, pairedImp (fun p q h => ⟨h.1, h.2.mono ex⟩) h3⟩
theorem callT_ok {X : Cx} {den : Den} {ms : List Mo} {exc : Bool} (hd : DenOk den) (ok : okMo ms = true) {E : XK} {g0 g1 : G} {H0 H1 : Hp} {σ : L2.St} {s1 : SL} {vs : List V} {ts : List TV} {S : List Addr} {res : Res TV} {Q : VK} (n1 : Nx g0 H0 g1 H1) (st1 : Sta X.K g1 H1 σ s1) (r1 : RTVs X.K g1 H1 σ vs ts S) (f1 : Fresh g0 H0 S) (e1 : callT exc den ms ts s1 = some res)
    (kQ : ∀ t s, res = .ok t s → OwnT t → Kg X.K (RV X.K σ) σ Q g0 H0 t s) (kE : exc = true → ∀ xa s, res = .ex xa s → ∀ g H cls d, Nx g0 H0 g H → Sta X.K g H σ s → RX X.K g cls d H xa → E cls d H) : liftV X.K den vs H1 Q E := by
  obtain ⟨⟨xs, s2⟩, e2, e3⟩ := Option.bind_eq_some_iff.mp e1
  obtain ⟨as, e4, e5⟩ := Option.bind_eq_some_iff.mp e3
  obtain ⟨r, e6, e7⟩ := Option.bind_eq_some_iff.mp e5
  obtain ⟨g2, n2, st2, ex2, ar⟩ := argF_ok n1 f1 st1 r1 e2
  have al := argM_ok ar e4
  refine ⟨calG X.K g2 H1 σ s2 ms vs, as, r, cal_sta st2 ok al, e6, ?_⟩
  cases r with
  | ok t outs =>
    obtain ⟨s3, e8, rfl⟩ := Option.map_eq_some_iff.mp e7
    intro g' H' v U n' st' r' f'
    obtain ⟨n3, st3, cv⟩ := ret_sta n2 st2 ok al n' st' e8
    have ho := hd as t outs e6
    obtain ⟨r3, f3⟩ := cv ho r' f'
    exact kQ t s3 rfl ho _ H' v U n3 st3 r3 f3
  | ex xa outs =>
    dsimp only at e7
    split at e7
    · rename_i he
      obtain ⟨s3, e8, rfl⟩ := Option.map_eq_some_iff.mp e7
      intro g' H' cls d n' st' rx
      obtain ⟨n3, st3, _⟩ := ret_sta n2 st2 ok al n' st' e8
      exact kE he xa s3 rfl _ H' cls d n3 st3 rx
    · cases e7
theorem call_core {exc : Bool} (hd : DenOk den) (ok : okMo ms = true) {E : L2.St → XK} (hE : exc = true → ∀ σ cls d H, W cls d σ H → E σ cls d H) (σ : L2.St) (H : Hp) (Q : VK) (h : eL X.K W (aCallG exc den ms R) σ H Q) : aL X.K W R σ H fun vs H1 => liftV X.K den vs H1 Q (E σ) := by
  obtain ⟨g, sl, res, st, e, k⟩ := h
  refine run1 (R := RL X.K) st e k.x fun ts s1 g1 H1 vs S e1 n1 st1 r1 f1 => ?_
  split at e1
  · refine callT_ok (E := E σ) hd ok n1 st1 r1 f1 e1 (fun t s e _ => by subst e; exact k) fun he xa s e g2 H2 cls d n2 st2 rx => ?_
    subst e
    exact hE he σ cls d H2 (k g2 H2 cls d n2 st2 rx)
  · rename_i ts' q eq
    obtain ⟨c, e2, e3⟩ := Option.bind_eq_some_iff.mp e1
    obtain ⟨res', e4, e5⟩ := Option.bind_eq_some_iff.mp e3
    obtain ⟨vc, Z, U, rz, zS, uS, ap, rv⟩ := unsub_ok st1.len.symm r1 eq
    obtain ⟨g2, gb, T', n2, st2, fU, hT, rfl, _, fin⟩ := sub_open n1 (fun a z => f1 a (zS a z)) (fun a z => f1 a (uS a z)) ap st1 rz e2
    refine callT_ok (E := E σ) hd ok n2 st2 (rv T' hT) fU e4 (fun t s e o => ?_) fun he xa s e g3 H3 cls d n3 st3 rx => ?_
    · subst e
      obtain ⟨s4, e6, rfl⟩ := Option.map_eq_some_iff.mp e5
      exact sub_kg o e6 k fin
    · subst e
      obtain ⟨s4, e6, rfl⟩ := Option.map_eq_some_iff.mp e5
      obtain ⟨g4, n4, st4, _, ex⟩ := fin g3 H3 s s4 n3 st3 e6
      exact hE he σ cls d H3 (k g4 H3 cls d n4 st4 (rx.mono ex))
theorem passX {X : Cx} : Passes (L2.CX X.prog X.w) X E0 := fun _ _ _ _ _ _ _ c => by
  obtain ⟨_, _, _, _, _, _, _, _, _, _, _, _, z⟩ := c
  exact z.elim
/-! ### defs by name -/
structure OkAt (P : Program) (w : World) (K : PySem.W.Frag) (mg : Str → Option Value) (base : Heap) (CX : CXT) (k : Nat) (x : Str) (ps : List Str) (den : Den) (f : Addr) (fd : FuncData) : Prop where
  gl : mg x = some (.ref f)
  kp : PySem.W.keepIn K (.ref f) = true
  bi : Binds K fd ps []
  ok : FnOk P w K mg base CX k f fd ps (liftV K den)
def Ok (P : Program) (w : World) (K : PySem.W.Frag) (mg : Str → Option Value) (base : Heap) (CX : CXT) (k : Nat) (x : Str) (ps : List Str) (den : Den) : Prop := ∃ f fd, OkAt P w K mg base CX k x ps den f fd
theorem e_call {CX : CXT} {k : Nat} {ps : List Str} {x : Str} {px : Pos} (h : Ok X.prog X.w X.K X.mg X.base CX k x ps den) (hd : DenOk den) (ok : okMo ms = true) (hx : Passes CX X E0) (hr : Room k X.A) (hg : Gl X x)
    (ha : PA X (e :: es) (aL X.K W R)) (hdb : (x == ("__debug__" : Str)) = false := by decide) (he : starEach (e :: es) X.env = (false, eval e X.env) :: starEach es X.env := by rfl) (hpl : (backTo pos (starEach es X.env)).any (·.1) = false := by rfl) : PE X (.Call (.Name x px) (e :: es) [] pos) (eL X.K W (aCallG false den ms R)) :=
  let ⟨_, _, o⟩ := h
  PEm (pe_call o.ok hr hg o.gl o.kp o.bi .nil hx ha hdb he hpl) fun σ H Q q => by
    have := call_core (E := fun _ => E0) hd ok (fun z => by cases z) σ H Q q
    show aL X.K W R σ H fun vs H1 => liftV X.K den (vs ++ []) H1 Q E0
    have e : (fun vs H1 => liftV X.K den (vs ++ []) H1 Q E0) = fun vs H1 => liftV X.K den vs H1 Q E0 := by
      funext vs H1; rw [List.append_nil]
    rw [e]
    exact this
theorem e_callX {k : Nat} {ps : List Str} {x : Str} {px : Pos} (h : Ok X.prog X.w X.K X.mg X.base (L2.CX X.prog X.w) k x ps den) (hd : DenOk den) (ok : okMo ms = true) (tk : Takes X W) (hr : Room k X.A) (hg : Gl X x)
    (ha : PA X (e :: es) (aL X.K W R)) (hdb : (x == ("__debug__" : Str)) = false := by decide) (he : starEach (e :: es) X.env = (false, eval e X.env) :: starEach es X.env := by rfl) (hpl : (backTo pos (starEach es X.env)).any (·.1) = false := by rfl) : PE X (.Call (.Name x px) (e :: es) [] pos) (eL X.K W (aCallG true den ms R)) :=
  let ⟨_, _, o⟩ := h
  PEm (pe_callS o.ok hr hg o.gl o.kp o.bi (fun σ => passAt tk σ) ha hdb he hpl) fun σ H Q q => call_core (E := fun σ => WE W σ) hd ok (fun _ _ _ _ _ z => z) σ H Q q
end
/-- a def as the head tells it -/
structure DefAt (K : PySem.W.Frag) (mg : Str → Option Value) (x : Str) (st : Stmt) : Prop where
  fn : ∃ fd, FunD K x x (defArgs st) (defBody st) (defScope st) [] [] (He.ga K x) fd
  gl : mg x = some (.ref (He.ga K x))
theorem DefAt.ok {P : Program} {w : World} {K : PySem.W.Frag} {mg : Str → Option Value} {base : Heap} {x : Str} {st : Stmt} (h : DefAt K mg x st) {CX : CXT} {k : Nat} {ps : List Str} {den : Den}
    (hb : ∀ fd, FunD K x x (defArgs st) (defBody st) (defScope st) [] [] (He.ga K x) fd → Binds K fd ps [])
    (ho : ∀ fd, FunD K x x (defArgs st) (defBody st) (defScope st) [] [] (He.ga K x) fd → FnOk P w K mg base CX k (He.ga K x) fd ps (liftV K den)) : Ok P w K mg base CX k x ps den := by
  obtain ⟨fd, F⟩ := h.fn
  exact ⟨_, fd, h.gl, F.kp, hb fd F, ho fd F⟩
/-- the law's entry -/
theorem lift_law {K : PySem.W.Frag} {H : Hp} {a : Addr} {ns : List Int} {den : Den} (hS : SqL K H a (ns.map V.int)) (h : ∃ outs, den [.x (ns.map PyData.int)] = some (.ok (.d (.bool true)) outs)) : liftV K den [.ref a] H (fun v _ => v = .bl true) fun _ _ _ => False := by
  obtain ⟨outs, h⟩ := h
  have ir : ∀ ns : List Int, RDs K H (ns.map V.int) (ns.map PyData.int) := fun ns => by
    induction ns with
    | nil => exact .nil
    | cons i r ih => exact .cons (.int i) ih
  refine ⟨⟨H, fun _ => none, fun _ => none, fun _ _ => False⟩, _, _, ⟨fun _ _ e => e, fun a h => absurd rfl h, fun a h => absurd rfl h, fun a ⟨j, h⟩ => h.elim, rfl, fun i y q => ?_, fun i y q => ?_, fun i y q => ?_, fun i y q => ?_, fun i q => ?_, fun i y q => ?_⟩, h, fun g' H' v S n st r f => ?_⟩
  · cases i with
    | zero => simp at q
    | succ i => simp at q
  · cases i with
    | zero => simp at q
    | succ i => simp at q
  · cases i with
    | zero => simp at q
    | succ i => simp at q
  · cases i with
    | zero => simp at q
    | succ i => simp at q
  · cases i with
    | zero => simp at q
    | succ i => simp at q
  · cases i with
    | zero => simp at q; subst q; exact ⟨a, _, rfl, hS, ir ns⟩
    | succ i => simp at q
  · obtain ⟨_, r⟩ := r
    cases r
    rfl
end Y

/-! Layer Y, part L: list comprehensions. -/
namespace Y
open PySem PySem.Spec PyProof.Rows L2 Evl
def wipeA (dl : SL) : List Nat → SL
  | [] => dl
  | v :: vs => (wipeA dl vs).set v none
/-- the comprehension's names get back what they were, if it was data -/
def restA (s0 s : SL) : List Nat → SL
  | [] => s
  | v :: vs => match s0[v]? with
    | some (some (.d x)) => (restA s0 s vs).set v (some (.d x))
    | _ => restA s0 s vs
def lcGo (Ga : AG) (C : AT) (E : AE) (vs : List Nat) : List D → SL → Option (List MV × SL)
  | [], s => some ([], s)
  | x :: xs, s => (Ga (.d x) s).bind fun s1 => match C s1 with
    | some (.ok true s2) => match E s2 with
      | some (.ok t s3) => (toM s3 t).bind fun r => (lcGo Ga C E vs xs (wipeA r.2 vs)).map fun q => (r.1 :: q.1, q.2)
      | _ => none
    | some (.ok false s2) => lcGo Ga C E vs xs (wipeA s2 vs)
    | _ => none
/-- a walk with the slot that is walked locked -/
def lockL {α : Type} (lk : Option Nat) (F : SL → Option (α × SL)) (s : SL) : Option (α × SL) := match lk with
  | none => F s
  | some k => match s[k]? with
    | some (some (.w m)) => (F (s.set k (some (.k m)))).bind fun r => (unl k false r.2).map fun s' => (r.1, s')
    | some (some (.p m)) => (F (s.set k (some (.k m)))).bind fun r => (unl k true r.2).map fun s' => (r.1, s')
    | _ => none
def aLc (A : AI) (Ga : AG) (C : AT) (E : AE) (vs : List Nat) : AE := fun s => bd (A s) fun p s1 => if p.1.length ≤ sizeLine then (lockL p.2 (fun s => lcGo Ga C E vs p.1 (wipeA s vs)) s1).map fun r => .ok (.t (.lst r.1)) (restA s1 r.2 vs) else none
section
variable {K : PySem.W.Frag} {g g0 : G} {H H0 : Hp} {σ : L2.St} {sl : SL}
theorem Sta.wipe (st : Sta K g H σ sl) : ∀ vs : List Nat, Sta K g H (L2.wipe σ vs) (wipeA sl vs)
  | [] => st
  | v :: vs => (Sta.wipe st vs).setN
theorem wipe_get : ∀ (vs : List Nat) (σ : L2.St) (i : Nat), (L2.wipe σ vs)[i]? = if i ∈ vs then (σ[i]?).map (fun _ => none) else σ[i]?
  | [], σ, i => by simp [L2.wipe]
  | v :: vs, σ, i => by
    unfold L2.wipe
    by_cases e : v = i
    · subst e
      rw [List.getElem?_set, if_pos rfl, wipe_length, if_pos List.mem_cons_self]
      by_cases hl : v < σ.length
      · rw [if_pos hl, List.getElem?_eq_getElem hl]; rfl
      · rw [if_neg hl, List.getElem?_eq_none (by omega)]; rfl
    · rw [List.getElem?_set_ne e, wipe_get vs σ i]
      have : (i ∈ v :: vs) ↔ i ∈ vs := by
        constructor
        · intro h; rcases List.mem_cons.mp h with z | z
          · exact absurd z.symm e
          · exact z
        · exact List.mem_cons_of_mem _
      by_cases hi : i ∈ vs
      · rw [if_pos hi, if_pos (this.mpr hi)]
      · rw [if_neg hi, if_neg fun z => hi (this.mp z)]
theorem wipe_set {vs : List Nat} {j : Nat} {y : Option V} (h : j ∈ vs) : L2.wipe (σ.set j y) vs = L2.wipe σ vs := by
  apply List.ext_getElem?
  intro i
  rw [wipe_get, wipe_get]
  by_cases hi : i ∈ vs
  · rw [if_pos hi, if_pos hi]
    by_cases e : j = i
    · subst e
      rw [List.getElem?_set, if_pos rfl]
      by_cases hl : j < σ.length
      · rw [if_pos hl, List.getElem?_eq_getElem hl]; rfl
      · rw [if_neg hl, List.getElem?_eq_none (by omega)]
    · rw [List.getElem?_set_ne e]
  · rw [if_neg hi, if_neg hi, List.getElem?_set_ne (fun z : j = i => hi (by rw [← z]; exact h))]
theorem wipe_wipe {vs : List Nat} : L2.wipe (L2.wipe σ vs) vs = L2.wipe σ vs := by
  apply List.ext_getElem?
  intro i
  rw [wipe_get, wipe_get]
  by_cases hi : i ∈ vs
  · rw [if_pos hi, if_pos hi]; cases σ[i]? <;> rfl
  · rw [if_neg hi, if_neg hi]
/-- from the wiped state: a slot that holds something is none of the wiped ones -/
theorem Sta.unwipe {vs : List Nat} (st : Sta K g H (L2.wipe σ vs) sl) : Sta K g H σ sl := by
  have back : ∀ {i : Nat} {v : V}, (L2.wipe σ vs)[i]? = some (some v) → σ[i]? = some (some v) := fun {i v} h => by
    rw [wipe_get] at h
    split at h
    · cases e : σ[i]? with
      | none => rw [e] at h; cases h
      | some o => rw [e] at h; cases h
    · exact h
  have hl : σ.length = sl.length := by have := st.len; rwa [wipe_length] at this
  refine ⟨st.ex, st.lf, st.la, st.ro, hl, fun i y q => ?_, fun i y q => ?_, fun i y q => ?_, fun i y q => ?_, fun i q => ?_, fun i y q => ?_⟩
  · obtain ⟨v, h1, h2⟩ := st.d i y q; exact ⟨v, back h1, h2⟩
  · obtain ⟨v, S, h1, h2⟩ := st.w i y q; exact ⟨v, S, back h1, h2⟩
  · obtain ⟨v, S, ⟨h1, h1'⟩, h2⟩ := st.p i y q; exact ⟨v, S, ⟨back h1, h1'⟩, h2⟩
  · obtain ⟨v, S, ⟨h1, h1'⟩, h2⟩ := st.k i y q; exact ⟨v, S, ⟨back h1, h1'⟩, h2⟩
  · obtain ⟨v, h1, h2⟩ := st.h i q; exact ⟨v, back h1, h2⟩
  · obtain ⟨a, ws, h1, h2⟩ := st.x i y q; exact ⟨a, ws, back h1, h2⟩
theorem Sta.rest {s0 : SL} (st : Sta K g H σ sl) (hd : ∀ (i : Nat) x, s0[i]? = some (some (.d x)) → ∃ v, σ[i]? = some (some v) ∧ RD K g.F v x) : ∀ vs : List Nat, Sta K g H σ (restA s0 sl vs)
  | [] => st
  | v :: vs => by
    unfold restA
    split
    · rename_i x e
      obtain ⟨u, h1, h2⟩ := hd v x e
      have := (Sta.rest st hd vs).setD (i := v) h2
      rwa [set_set h1] at this
    · exact Sta.rest st hd vs
/-- an address that no slot holds is written -/
theorem Sta.outW {p : Addr} {o : HO} (st : Sta K g H σ sl) (hF : g.F p = none) (hl : g.lab p = none) (hr : ¬ g.RO p) : Sta K g (upd H p o) σ sl := by
  have re : ∀ {v : V} {m : MV} {S : List Addr}, Rep K g.F H v m S → (∀ a ∈ S, a ≠ p) → Rep K g.F (upd H p o) v m S := fun r h => r.mono (fun _ _ z => z) fun a z => upd_ne (h a z)
  refine ⟨fun a u e => ?_, st.lf, fun a z => ?_, fun a z => ?_, st.len, st.d, fun i y q => ?_, fun i y q => ?_, fun i y q => ?_, st.h, st.x⟩
  · rw [upd_ne fun z => by subst z; rw [hF] at e; cases e]; exact st.ex a u e
  · rw [upd_ne fun e => by subst e; exact z hl]; exact st.la a z
  · obtain ⟨h1, h2, h3⟩ := st.ro a z
    exact ⟨by rw [upd_ne fun e => by subst e; exact hr z]; exact h1, h2, h3⟩
  · obtain ⟨v, S, h1, h2, h3, h4⟩ := st.w i y q
    exact ⟨v, S, h1, re h2 (fun a z e => by subst e; rw [h4 _ z] at hl; cases hl), h3, h4⟩
  · obtain ⟨v, S, h1, h2, h3, h4⟩ := st.p i y q
    exact ⟨v, S, h1, re h2 (fun a z e => by subst e; rw [h4 _ z] at hl; cases hl), h3, h4⟩
  · obtain ⟨v, S, h1, h2, h3, h4⟩ := st.k i y q
    exact ⟨v, S, h1, re h2 (fun a z e => by subst e; exact hr ⟨_, h4 _ z⟩), h3, h4⟩
end
/-- a target within a comprehension stores to the comprehension's own names alone -/
theorem PTsm {X : Cx} {e : List Expr} {t t' : TT} (h : PTs X e t) (k : ∀ σ H Q, t' σ H Q → t σ H Q) : PTs X e t' := ⟨fun pins s σ H Q I q => h.run pins s σ H Q I (k σ H Q q)⟩
def GW (gt : TG) (vs : List Nat) : Prop := ∀ v (τ σ : L2.St) H Q, L2.wipe τ vs = L2.wipe σ vs → gt v τ H Q → gt v τ H fun σ2 H2 => L2.wipe σ2 vs = L2.wipe σ vs ∧ Q σ2 H2
def GsW (gt : TGs) (vs : List Nat) : Prop := ∀ v (τ σ : L2.St) H Q, L2.wipe τ vs = L2.wipe σ vs → gt v τ H Q → gt v τ H fun σ2 H2 => L2.wipe σ2 vs = L2.wipe σ vs ∧ Q σ2 H2
theorem gw_name {i : Nat} {vs : List Nat} (h : i ∈ vs) : GW (gName i) vs := fun v τ σ H Q e q => ⟨(wipe_set h).trans e, q⟩
theorem gw_nil {vs : List Nat} : GsW gNil vs := fun v τ σ H Q e ⟨q1, q2⟩ => ⟨q1, e, q2⟩
def GMono (gt : TG) : Prop := ∀ v σ H (Q Q' : L2.St → Hp → Prop), (∀ s h, Q s h → Q' s h) → gt v σ H Q → gt v σ H Q'
def GsMono (gt : TGs) : Prop := ∀ v σ H (Q Q' : L2.St → Hp → Prop), (∀ s h, Q s h → Q' s h) → gt v σ H Q → gt v σ H Q'
theorem mono_name {i : Nat} : GMono (gName i) := fun v σ H Q Q' k q => k _ _ q
theorem gm_nil : GsMono gNil := fun v σ H Q Q' k ⟨a, b⟩ => ⟨a, k _ _ b⟩
theorem gm_cons {t : TG} {u : TGs} (h1 : GMono t) (h2 : GsMono u) : GsMono (gCons t u) := fun v σ H Q Q' k ⟨x, r, e, q⟩ => ⟨x, r, e, h1 _ _ _ _ _ (fun s h q => h2 _ _ _ _ _ k q) q⟩
theorem gm_tup {K : PySem.W.Frag} {n : Nat} {u : TGs} (h : GsMono u) : GMono (gTup K n u) := fun v σ H Q Q' k ⟨a, xs, e, h1, h2, q⟩ => ⟨a, xs, e, h1, h2, h _ _ _ _ _ k q⟩
theorem gw_cons {t : TG} {u : TGs} {vs : List Nat} (h1 : GW t vs) (m1 : GMono t) (h2 : GsW u vs) : GsW (gCons t u) vs := fun v τ σ H Q e ⟨x, r, ev, q⟩ => ⟨x, r, ev, m1 _ _ _ _ _ (fun s h ⟨q1, q2⟩ => h2 r s σ h Q q1 q2) (h1 x τ σ H _ e q)⟩
theorem gw_tup {K : PySem.W.Frag} {n : Nat} {u : TGs} {vs : List Nat} (h : GsW u vs) : GW (gTup K n u) vs := fun v τ σ H Q e ⟨a, xs, ev, h1, h2, q⟩ => ⟨a, xs, ev, h1, h2, h xs τ σ H Q e q⟩
section
variable {X : Cx} {W : WX} {Ga : AG} {gt : TG} {C : AT} {E : AE} {vs : List Nat}
/-- the walk, from any ghost: tt, te are the parts' readings -/
theorem lc_run {K : PySem.W.Frag} {g : G} {H : Hp} {σ : L2.St} {sl sl' : SL} {J : It} {Z : List Addr} {ds : List D} {ms : List MV} {Q : VK} (gr : GRel K Ga gt) (gw : GW gt vs) (gm : GMono gt) (hsz : ds.length ≤ sizeLine)
    (st : Sta K g H (L2.wipe σ vs) sl) (fz : ∀ a ∈ Z, Framed g H a) (ir : IRel K g H Z ds J) (e : lcGo Ga C E vs ds sl = some (ms, sl'))
    (k : ∀ g' H' v S, Nx g H g' H' → Sta K g' H' (L2.wipe σ vs) sl' → RTV K g' H' σ v (.t (.lst ms)) S → Fresh g H S → Q v H') :
    ∀ Dd, H Dd = none → ∃ Wk : Nat → Nat → Hp → Prop, (∃ m, Wk 0 m (upd H Dd (.lst []))) ∧ ∀ i m H, Wk i m H → (J.stop i H ∧ Q (.ref Dd) H) ∨ (J.go i H ∧ ∃ N : Hp → Prop, (∀ H', N H' → ∃ m', m' < m ∧ Wk (i + 1) m' H') ∧ ∀ x H', J.yld i H x H' →
      gt x (L2.wipe σ vs) H' fun σ2 H2 => L2.wipe σ2 vs = L2.wipe σ vs ∧ tL K W C σ2 H2 fun b H3 => if b = true then eL K W E σ2 H3 fun y H4 => ∃ acc, H4 Dd = some (.lst acc) ∧ acc.length < sizeLine ∧ N (upd H4 Dd (.lst (acc ++ [y]))) else N H3) := by
  intro Dd hD
  let I : Nat → Hp → Prop := fun i H2 => ∃ g2 s2 ws acc rst Sa, Nx g H g2 H2 ∧ Sta K g2 H2 (L2.wipe σ vs) s2 ∧ (g2.F Dd = none ∧ g2.lab Dd = none ∧ ¬ g2.RO Dd) ∧ H2 Dd = some (.lst ws) ∧ Reps K g2.F H2 ws acc Sa ∧ Sa.Nodup ∧ (∀ a ∈ Sa, g2.F a = none ∧ g2.lab a = none ∧ ¬ g2.RO a) ∧ Dd ∉ Sa ∧ Fresh g H Sa ∧
    lcGo Ga C E vs (ds.drop i) s2 = some (rst, sl') ∧ ms = acc ++ rst ∧ acc.length ≤ i
  refine ⟨fun i m H2 => m = ds.length - i ∧ i ≤ ds.length ∧ I i H2, ⟨ds.length, by simp, Nat.zero_le _, ?_⟩, ?_⟩
  · obtain ⟨n', st', h1, h2, h3, h4⟩ := st.newT (o := .lst []) (Nx.refl g H) hD
    exact ⟨g, sl, [], [], ms, [], n', st', ⟨h1, h2, h3⟩, upd_same, .nil, List.nodup_nil, (fun _ h => nomatch h), (fun h => nomatch h), Fresh.nil _ _, e, rfl, Nat.le_refl _⟩
  rintro i m H2 ⟨rfl, hi, g2, s2, ws, acc, rst, Sa, n2, st2, ⟨hF, hL, hR⟩, hv, rs, nd, un, hDS, fr, e2, em, hac⟩
  obtain ⟨i1, i2⟩ := ir i g2 H2 n2.ex st2.ex fun a z => (n2.out a (fz a z)).1
  have fD : Framed g2 H2 Dd := ⟨keep_lst hv, hF, hL⟩
  have fS : ∀ a ∈ Sa, Framed g2 H2 a := fun a z => ⟨rs.keep a z, (un a z).1, (un a z).2.1⟩
  by_cases hlt : i < ds.length
  · obtain ⟨go, yl⟩ := i1 hlt
    refine .inr ⟨go, I (i + 1), fun H' z => ⟨ds.length - (i + 1), by omega, rfl, hlt, z⟩, fun x H3 y => ?_⟩
    obtain ⟨g3, d, n3', st3, ed, rd, ex3, n3⟩ := st2.yld n2 (yl x H3 y)
    rw [List.drop_eq_getElem_cons hlt] at e2
    have ed' : ds[i] = d := by rw [List.getElem?_eq_getElem hlt] at ed; exact Option.some.inj ed
    rw [ed'] at e2
    unfold lcGo at e2
    obtain ⟨s3, e3, e4⟩ := Option.bind_eq_some_iff.mp e2
    refine gm x _ _ _ _ (fun s h (z : L2.wipe s vs = L2.wipe σ vs ∧ (L2.wipe s vs = L2.wipe σ vs → _)) => ⟨z.1, z.2 z.1⟩) (gw x _ σ H3 _ wipe_wipe ?_)
    refine gr g2 H2 g3 H3 (L2.wipe σ vs) s2 s3 x (.d d) [] _ n3 st3 ⟨rfl, rd⟩ (Fresh.nil _ _) e3 fun g4 H4 σ4 n4 st4 ew => ?_
    cases eC : C s3 with
    | none => rw [eC] at e4; cases e4
    | some q =>
    rw [eC] at e4
    cases q with
    | ex xa s4 => cases e4
    | ok b s4 =>
    refine ⟨g4, s3, _, st4, eC, fun g5 H5 b' U n5 st5 r5 f5 => ?_⟩
    obtain ⟨rfl, rfl⟩ := r5
    have n25 := n4.trans n5
    cases b' with
    | false =>
      rw [if_neg (by decide)]
      have e5 : lcGo Ga C E vs (ds.drop (i + 1)) (wipeA s4 vs) = some (rst, sl') := e4
      have w5 := st5.wipe vs
      rw [ew] at w5
      obtain ⟨k1, k2, k3⟩ := n25.out Dd fD
      refine ⟨g5, wipeA s4 vs, ws, acc, rst, Sa, n2.trans n25, w5, ⟨k2, k3, fun z => hR (by unfold G.RO at z ⊢; rw [n25.ro] at z; exact z)⟩, k1.trans hv, rs.mono n25.ex fun a z => (n25.out a (fS a z)).1, nd, fun a z => ⟨(n25.out a (fS a z)).2.1, (n25.out a (fS a z)).2.2, fun q => (un a z).2.2 (by unfold G.RO at q ⊢; rw [n25.ro] at q; exact q)⟩, hDS, fr, e5, em, Nat.le_succ_of_le hac⟩
    | true =>
      rw [if_pos rfl]
      dsimp only at e4
      cases eE : E s4 with
      | none => rw [eE] at e4; cases e4
      | some q =>
      rw [eE] at e4
      cases q with
      | ex xa s5 => cases e4
      | ok t s5 =>
      obtain ⟨⟨m, s6⟩, e5, e6⟩ := Option.bind_eq_some_iff.mp e4
      obtain ⟨⟨rst', s7⟩, e7, e8⟩ := Option.map_eq_some_iff.mp e6
      cases e8
      refine ⟨g5, s4, _, st5, eE, fun g6 H6 y Uy n6 st6 r6 f6 => ?_⟩
      have n26 := n25.trans n6
      obtain ⟨g7, T, n7, st7, r7, sub, kp, ex7⟩ := toM_ok n26 (f6.back n25) st6 r6 e5
      have f7 : Fresh g2 H2 T := fun a z => (f6.back n25) a (sub a z)
      obtain ⟨k1, k2, k3⟩ := n7.out Dd fD
      have kR : ¬ g7.RO Dd := fun z => hR (by unfold G.RO at z ⊢; rw [n7.ro] at z; exact z)
      have DT : Dd ∉ T := fun z => f7 Dd z fD
      refine ⟨ws, k1.trans hv, by rw [rs.length]; omega, ?_⟩
      have hn : ∀ a, a ≠ Dd → upd H6 Dd (.lst (ws ++ [y])) a = H6 a := fun a z => upd_ne z
      have w7 := (st7.outW (o := .lst (ws ++ [y])) k2 k3 kR).wipe vs
      rw [ew] at w7
      refine ⟨g7, wipeA s6 vs, ws ++ [y], acc ++ [m], rst', Sa ++ (T ++ []), ⟨fun a o h => n7.ex a o (n2.ex a o h), n7.pi.trans n2.pi, n7.ro.trans n2.ro, fun a f => ?_⟩, w7, ⟨k2, k3, kR⟩, upd_same, Reps.app (rs.mono n7.ex fun a z => (hn a fun e => hDS (e ▸ z)).trans (n7.out a (fS a z)).1) (.cons (r7.1.mono (fun _ _ z => z) fun a z => hn a fun e => DT (e ▸ z)) .nil), ?_, fun a z => ?_, ?_, fun a z => ?_, e7, by rw [em, List.append_assoc]; rfl, by rw [List.length_append]; exact Nat.succ_le_succ hac⟩
      · have f2 := n2.fr f
        obtain ⟨j1, j2, j3⟩ := n7.out a f2
        exact ⟨(hn a fun e => f.1.1 (e ▸ hD)).trans (j1.trans (n2.out a f).1), j2, j3⟩
      · rw [List.append_nil]
        exact List.nodup_append.mpr ⟨nd, r7.2.1, fun a z b z2 e => f7 b z2 (e ▸ fS a z)⟩
      · rw [List.append_nil] at z
        rcases List.mem_append.mp z with z | z
        · exact ⟨(n7.out a (fS a z)).2.1, (n7.out a (fS a z)).2.2, fun q => (un a z).2.2 (by unfold G.RO at q ⊢; rw [n7.ro] at q; exact q)⟩
        · exact r7.2.2 a z
      · rw [List.append_nil]
        exact fun z => (List.mem_append.mp z).elim hDS DT
      · rw [List.append_nil] at z
        rcases List.mem_append.mp z with z | z
        · exact fr a z
        · exact (f7.back n2) a z
  · have ei : i = ds.length := by omega
    subst ei
    rw [List.drop_length] at e2
    cases e2
    rw [List.append_nil] at em
    subst em
    refine .inl ⟨i2 rfl, k g2 H2 (.ref Dd) (Dd :: Sa) n2 st2 ⟨.lst hv rs, List.nodup_cons.mpr ⟨hDS, nd⟩, fun a z => ?_⟩ fun a z => ?_⟩
    · rcases List.mem_cons.mp z with e | e
      · subst e; exact ⟨hF, hL, hR⟩
      · exact un a e
    · rcases List.mem_cons.mp z with e | e
      · subst e; exact fun z => z.1.1 hD
      · exact fr a e
theorem lc_lift {A : AI} (gr : GRel X.K Ga gt) (gw : GW gt vs) (gm : GMono gt) (σ : L2.St) (H : Hp) (Q : VK) (h : eL X.K W (aLc A Ga C E vs) σ H Q) : tLc (iL X.K W A) gt (tL X.K W C) (eL X.K W E) vs σ H Q := by
  obtain ⟨g, sl, r, st, e, k⟩ := h
  unfold aLc bd at e
  cases eA : A sl with
  | none => rw [eA] at e; cases e
  | some q =>
  rw [eA] at e
  cases q with
  | ex xa s1 => cases e; exact ⟨g, sl, _, st, eA, k⟩
  | ok p s1 =>
  dsimp only at e
  split at e
  · rename_i hsz
    obtain ⟨⟨ms, s2⟩, e1, rfl⟩ := Option.map_eq_some_iff.mp e
    refine ⟨g, sl, _, st, eA, fun g1 H1 J Z n1 st1 lk ir => ?_⟩
    unfold lockL at e1
    obtain ⟨ds, lkd⟩ := p
    cases lkd with
    | none =>
      refine lc_run (W := W) gr gw gm hsz (st1.wipe vs) lk ir e1 fun g' H' v S n' st' r' f' => ?_
      exact k g' H' v S (n1.trans n') ((st'.unwipe).rest (fun i x hx => let ⟨v, h1, h2⟩ := st1.d i x hx; ⟨v, h1, h2.mono n'.ex⟩) vs) r' (f'.back n1)
    | some q =>
      obtain ⟨v, m, hv, hw, rp, nd, lb⟩ := lk
      have main : ∀ (pp : Bool) (m' : MV) (s3 : SL), m' = m → (pp = true → g1.π q = some v) → lcGo Ga C E vs ds (wipeA (s1.set q (some (.k m'))) vs) = some (ms, s3) → unl q pp s3 = some s2 → tLc (fun σ H R => R J H) gt (tL X.K W C) (eL X.K W E) vs σ H1 Q := by
        intro pp m' s3 em hp' e2 e3
        subst em
        have stL := st1.lock hv hw rp nd lb
        have zf : ∀ a ∈ Z, Framed (lockG g1 Z q v) H1 a := fun a z => ⟨rp.keep a z, st1.lf a (by rw [lb a z]; exact fun z => nomatch z), if_pos z⟩
        refine lc_run (Q := Q) (W := W) gr gw gm hsz (stL.wipe vs) zf (show IRel X.K (lockG g1 Z q v) H1 Z ds J from ir) e2 fun g' H' u S n' st' r' f' => ?_
        obtain ⟨nn, stt, rt, fr⟩ := Sta.unlock n1 st1 hv rp lb hp' n' st'.unwipe e3
        have r2 := rt (u := u) (t := .t (.lst ms)) (U := S) r' f'
        exact k _ H' u S nn (stt.rest (fun i x hx => let ⟨v, h1, h2⟩ := st1.d i x hx; ⟨v, h1, h2.mono n'.ex⟩) vs) r2 (fr f')
      dsimp only at e1
      split at e1
      · rename_i m' e0
        obtain ⟨⟨ms', s3⟩, e2, e3⟩ := Option.bind_eq_some_iff.mp e1
        obtain ⟨s4, e4, e5⟩ := Option.map_eq_some_iff.mp e3
        cases e5
        exact main false m' s3 (by unfold wAt at hw; rw [e0] at hw; exact Option.some.inj hw) (fun z => nomatch z) e2 e4
      · rename_i m' e0
        obtain ⟨⟨ms', s3⟩, e2, e3⟩ := Option.bind_eq_some_iff.mp e1
        obtain ⟨s4, e4, e5⟩ := Option.map_eq_some_iff.mp e3
        cases e5
        refine main true m' s3 (by unfold wAt at hw; rw [e0] at hw; exact Option.some.inj hw) (fun _ => ?_) e2 e4
        obtain ⟨u, U, ⟨h1, h2⟩, _⟩ := st1.p q m' e0
        rw [hv] at h1; cases h1
        exact h2
      · cases e1
  · cases e
def aYes : AT := fun s => some (.ok true s)
theorem ts_nil : PTs X [] (tL X.K W aYes) := PTsm pts_nil fun σ H Q ⟨g, sl, r, st, e, k⟩ => by cases e; exact k g H true [] (Nx.refl _ _) st ⟨rfl, rfl⟩ (Fresh.nil _ _)
theorem ts_one {c : Expr} {C : AT} (h : PT X c (tL X.K W C)) : PTs X [c] (tL X.K W C) := pts_one h
theorem e_lc {pos : Pos} {elt tg iter : Expr} {ifs : List Expr} {scope : Scope} {own : List (Str × Nat)} {A : AI} (hc : X.calm = true) (hN : X.N.Nodup) (hi : PI X tg iter (iL X.K W A)) (ok : BlkOk X.N X.env.scope scope own)
    (hg : ∀ (s : Shared) (H : Hp) (C : Addr) (cl : List (Str × Addr)) (fp : List Addr), PG (X.blk s H scope (compEnvC scope cl C X.env) fp) tg gt) (gr : GRel X.K Ga gt) (gw : GW gt (own.map (·.2))) (gm : GMono gt)
    (ht : ∀ (s : Shared) (H : Hp) (C' : Addr) (cl : List (Str × Addr)) (fp : List Addr), PTs (X.blk s H scope (compEnvC scope cl C' X.env) fp) ifs (tL X.K W C))
    (he : ∀ (s : Shared) (H : Hp) (C : Addr) (cl : List (Str × Addr)) (fp : List Addr), PE (X.blk s H scope (compEnvC scope cl C X.env) fp) elt (eL X.K W E)) (hs : ∀ x, foldedSetIterable iter X.env x = pure x := by intro _; rfl) :
    PE X (.ListComp elt [⟨tg, iter, ifs, 0⟩] scope pos) (eL X.K W (aLc A Ga C E (own.map (·.2)))) := PEm (pe_lc hc hN hi ok hg ht he hs) (lc_lift gr gw gm)
theorem s_setLcG {i : Nat} {y : Str} {py pos spos : Pos} {elt tg iter : Expr} {ifs : List Expr} {scope : Scope} {own : List (Str × Nat)} {A : AI} {Gn : AG} (gn : GRel X.K Gn (gName i)) (hc : X.calm = true) (hN : X.N.Nodup) (hy : X.N[i]? = some y) (hyl : X.env.scope.names.lookup y = some .local)
    (hsw : swapsWith (.ListComp elt [⟨tg, iter, ifs, 0⟩] scope pos) (some (.Name y py)) spos.line X.env = pure true) (hi : PI X tg iter (iL X.K W A)) (ok : BlkOk X.N X.env.scope scope own)
    (hg : ∀ (s : Shared) (H : Hp) (C : Addr) (cl : List (Str × Addr)) (fp : List Addr), PG (X.blk s H scope (compEnvC scope cl C X.env) fp) tg gt) (gr : GRel X.K Ga gt) (gw : GW gt (own.map (·.2))) (gm : GMono gt)
    (ht : ∀ (s : Shared) (H : Hp) (C' : Addr) (cl : List (Str × Addr)) (fp : List Addr), PTs (X.blk s H scope (compEnvC scope cl C' X.env) fp) ifs (tL X.K W C))
    (he : ∀ (s : Shared) (H : Hp) (C : Addr) (cl : List (Str × Addr)) (fp : List Addr), PE (X.blk s H scope (compEnvC scope cl C X.env) fp) elt (eL X.K W E)) (hs : ∀ x, foldedSetIterable iter X.env x = pure x := by intro _; rfl) :
    PS X (.Assign [.Name y py] (.ListComp elt [⟨tg, iter, ifs, 0⟩] scope pos) spos) (sL X.K W (aAsg (aLc A Ga C E (own.map (·.2))) Gn)) :=
  PSm (ps_setLc hc hN hy hyl hsw hi ok hg ht he hs) fun D σ H ⟨g, sl, r, st, e, k⟩ => by
    refine lc_lift gr gw gm σ H _ (run1S (R := RV X.K) st e (k.x σ) fun t s1 g1 H1 v U e1 n1 st1 r1 f1 => ?_)
    obtain ⟨s2, e2, rfl⟩ := Option.map_eq_some_iff.mp e1
    exact gn g H g1 H1 σ s1 s2 v t U D.nx n1 st1 r1 f1 e2 fun g2 H2 σ2 n2 st2 => k g2 H2 σ2 n2 st2
end
end Y

/-! Layer Y, part M: isinstance, constants, stores by place, dicts. -/
namespace Y
open PySem PySem.Spec PyProof.Rows L2 Evl
theorem hxmS {K : PySem.W.Frag} {W : WX} {g g1 : G} {H H1 : Hp} {σ : L2.St} {r : SR} (h : ∀ xa s, r = .ex xa s → Kx K W g H σ xa s) (n : Nx g H g1 H1) : ∀ xa s, r = .ex xa s → Kx K W g1 H1 σ xa s := fun xa s e => (h xa s e).mono n
/-! ### isinstance of a built-in type -/
def isiM (n : String) : MV → Option Bool
  | .d .none => kitB "NoneType" n
  | .d (.bool _) => kitB "bool" n
  | .d (.int _) => kitB "int" n
  | .d (.str _) => kitB "str" n
  | .d (.list _) => kitB "list" n
  | .d (.tuple _) => kitB "tuple" n
  | .lst _ => kitB "list" n
  | .dK _ => kitB "dict" n
  | .dT _ => kitB "dict" n
  | _ => none
def aIsi (n : String) (A : AE) : AE := fun s => bd (A s) fun x s1 => ((vw s1 x).bind (isiM n)).map fun b => .ok (.d (.bool b)) s1
theorem tupTy {K : PySem.W.Frag} {H : Hp} {a : Addr} {vs : List V} (h : SqT K H a vs) : TyX K H (.ref a) (.type "tuple") := by
  rcases h with (h | ⟨o, h⟩) | ⟨o, its, n, h1, h2, _⟩
  · exact .base (.tup h)
  · exact .fTuple h
  · exact .kTuple h1 h2
theorem tyx_ok {K : PySem.W.Frag} {g : G} {H : Hp} {σ : L2.St} {sl : SL} {v : V} {t : TV} {S : List Addr} {n : String} {m : MV} {b : Bool} (st : Sta K g H σ sl) (r : RTV K g H σ v t S) (h1 : vw sl t = some m) (h2 : isiM n m = some b) : ∃ t, TyX K H v (.type t) ∧ kitB t n = some b := by
  obtain ⟨T, q⟩ := vw_ok st r h1
  cases q with
  | d q =>
    cases q with
    | non => exact ⟨_, .base .non, h2⟩
    | bl z => exact ⟨_, .base (.bl _), h2⟩
    | int z => exact ⟨_, .base (.int _), h2⟩
    | str z => exact ⟨_, .base (.str _), h2⟩
    | lst e1 e2 => exact ⟨_, .base (.lst (st.ex _ _ e1)), h2⟩
    | tup e1 e2 => exact ⟨_, .base (.tup (st.ex _ _ e1)), h2⟩
  | lst e1 e2 => exact ⟨_, .base (.lst e1), h2⟩
  | dK e1 e2 e3 => exact ⟨_, .base (.dK e1), h2⟩
  | dT e1 e2 e3 => exact ⟨_, .base (.dT e1), h2⟩
theorem e_isi {X : Cx} {W : WX} {pos p cp : Pos} {e : Expr} {A : AE} {c : Str} {n : String} (hg : Gl X "isinstance") (hm : X.mg "isinstance" = none) (hv : bootBuiltins "isinstance" = some (.builtin "isinstance")) (he : PE X e (eL X.K W A)) (hgc : Gl X c) (hmc : X.mg c = none) (hvc : bootBuiltins c = some (.type n)) (hnc : c ≠ "__name__" := by decide) (hdc : (c == ("__debug__" : Str)) = false := by decide)
    (hs : starEach [e, .Name c cp] X.env = (false, eval e X.env) :: starEach [.Name c cp] X.env := by rfl) (hpl : (backTo pos (starEach [.Name c cp] X.env)).any (·.1) = false := by rfl) (hs2 : starEach [.Name c cp] X.env = [(false, eval (.Name c cp) X.env)] := by rfl) :
    PE X (.Call (.Name "isinstance" p) [e, .Name c cp] [] pos) (eL X.K W (aIsi n A)) :=
  PEm (pe_callB (t := tCons (eL X.K W A) (tCons (tC (.ty n)) tNil)) call_isi hg hm hv (pa_cons he (pa_cons (pe_bltn hgc hmc hvc rfl hnc hdc) pa_nil hs2) hs) (by decide) (by decide) hs hpl) fun σ H Q ⟨g, sl, res, st, e, k⟩ =>
    run1 (R := RV X.K) st e k.x fun tx s1 g1 H1 v S e1 n1 st1 r1 f1 => by
      obtain ⟨b, e2, rfl⟩ := Option.map_eq_some_iff.mp e1
      obtain ⟨m, e3, e4⟩ := Option.bind_eq_some_iff.mp e2
      obtain ⟨t, ht, hk⟩ := tyx_ok st1 r1 e3 e4
      exact ⟨v, .ty n, .type t, .type n, b, rfl, .ty n, ht, kit_ty hk, Kg.scal k n1 st1 (.bl _)⟩
/-! ### the module's own names -/
section
variable {X : Cx} {W : WX} {pos : Pos}
theorem e_gI {x : Str} {i : Int} (h : ∃ t, X.mg x = some (.int i t)) (hg : Gl X x) (hd : (x == ("__debug__" : Str)) = false := by decide) : PE X (.Name x pos) (eL X.K W (aC (.int i))) :=
  let ⟨t, e⟩ := h
  e_const (pe_glob hg e (v := .int i) ⟨t, rfl⟩ hd) fun _ => .int i
theorem e_gS {x z : Str} (h : ∃ t, X.mg x = some (.str z t)) (hg : Gl X x) (hd : (x == ("__debug__" : Str)) = false := by decide) : PE X (.Name x pos) (eL X.K W (aC (.str z))) :=
  let ⟨t, e⟩ := h
  e_const (pe_glob hg e (v := .str z) ⟨t, rfl⟩ hd) fun _ => .str z
def aXT (ds : List D) : AE := fun s => some (.ok (.c ds) s)
theorem e_gT {x : Str} {zs : List Str} (h : ∃ a, X.mg x = some (.ref a) ∧ ∀ H, SqT X.K H a (zs.map V.str)) (hg : Gl X x) (hd : (x == ("__debug__" : Str)) = false := by decide) : PE X (.Name x pos) (eL X.K W (aXT (zs.map PyData.str))) :=
  let ⟨a, e, hq⟩ := h
  PEm (pe_glob hg e (v := .ref a) rfl hd) fun σ H Q ⟨g, sl, _, st, e, k⟩ => by cases e; exact k g H _ [] (Nx.refl _ _) st ⟨rfl, a, _, rfl, hq _, strs_rd zs⟩ (Fresh.nil _ _)
end
/-! ### xs[i] = v of an owned list -/
theorem Reps.set {K : PySem.W.Frag} {F H : Hp} : ∀ {vs : List V} {ms : List MV} {S : List Addr} {j : Nat} {u : V} {m : MV} {T : List Addr}, Reps K F H vs ms S → j < ms.length → Rep K F H u m T → ∃ A B C, S = A ++ (C ++ B) ∧ Reps K F H (vs.set j u) (ms.set j m) (A ++ (T ++ B))
  | _, _, _, j, _, _, _, .nil, h, _ => absurd h (Nat.not_lt_zero _)
  | _, _, _, 0, u, m, T, .cons (S := S) (T := S') r t, _, q => ⟨[], S', S, rfl, Reps.cons (S := T) (T := S') q t⟩
  | _, _, _, j + 1, u, m, T, .cons (S := S) (T := S') r t, h, q => by
    obtain ⟨A, B, C, e, rr⟩ := Reps.set (j := j) t (by simpa using h) q
    refine ⟨S ++ A, B, C, by rw [e, List.append_assoc], ?_⟩
    rw [List.append_assoc]
    exact .cons r rr
def aSetL (A O I : AE) : AS := fun s => sb (A s) fun tv s1 => sb (O s1) fun to s2 => sb (I s2) fun ti s3 => match ti with
  | .d (.int n) => (toM s3 tv).bind fun r => (pl r.2 to).bind fun q => match q.m with
    | .lst ms => (ixN ms.length n).map fun j => .nx (q.w (.lst (ms.set j r.1)))
    | _ => none
  | _ => none
theorem s_setL {X : Cx} {W : WX} {pos p2 : Pos} {e o i : Expr} {A O I : AE} (he : PE X e (eL X.K W A)) (ho : PE X o (eL X.K W O)) (hi : PE X i (eL X.K W I))
    (ha : ∀ v, assign (.Subscript o i p2) X.env v = (do
      let ov ← holding [v] (eval o X.env)
      let iv ← holding [v, ov] (eval i X.env)
      standAt p2
      holding [v, ov, iv] (setItem ov iv v)
      release [v, ov, iv] []) := by intro _; rfl)
    (hs : swapsWithSole [.Subscript o i p2] e pos.line X.env = pure false := by rfl) (hw : swappedStores [.Subscript o i p2] e X.env = pure none := by rfl)
    (h1 : (assignEach [.Subscript o i p2] X.env).map (·.2) = [assign (.Subscript o i p2) X.env] := by rfl) : PS X (.Assign [.Subscript o i p2] e pos) (sL X.K W (aSetL A O I)) :=
  PSm (ps_asg he (pg_sub ho hi set_list ha) hs hw h1) fun D σ H ⟨g, sl, r, st, e, k⟩ => run1S (R := RV X.K) st e (k.x σ) fun tv s1 g1 H1 v S e1 n1 st1 r1 f1 =>
    run1S (R := RV X.K) st1 e1 (hxmS (k.x σ) n1) fun to s2 g2 H2 o T e2 n2 st2 r2 f2 => run1S (R := RV X.K) st2 e2 (hxmS (k.x σ) (n1.trans n2)) fun ti s3 g3 H3 i U e3 n3 st3 r3 f3 => by
      split at e3
      · rename_i m
        obtain ⟨⟨mv, s4⟩, e4, e5⟩ := Option.bind_eq_some_iff.mp e3
        obtain ⟨q, e6, e7⟩ := Option.bind_eq_some_iff.mp e5
        split at e7
        · rename_i ms em
          obtain ⟨j, e8, rfl⟩ := Option.map_eq_some_iff.mp e7
          obtain ⟨_, r3⟩ := r3
          cases r3
          have nn := n1.trans (n2.trans n3)
          have rr := r1.mono (n2.trans n3)
          obtain ⟨g4, V, n4, st4, q4, sub, kp, ex⟩ := toM_ok nn f1 st3 rr e4
          have ap : ∀ a ∈ S, a ∉ T := r1.apart f2
          have hv : RTV X.K g4 H3 σ o to T := kp _ _ _ (r2.mono n3) ap
          have fV : Fresh g H V := fun a z => f1 a (sub a z)
          obtain ⟨g5, Z, n5, st5, eF, rp, nd, zt, fin⟩ := pl_root n4 (f2.back n1) st4 hv e6 fV (fun a z z2 => ap a (sub a z2) z) q4.2.2 (fun a z => q4.1.keep a z)
          rw [em] at rp
          cases rp with
          | @lst a vs _ U ha hr =>
            have h4 := (List.nodup_cons.mp nd).2
            have h3 : ∀ b ∈ U, b ∉ V := fun b z => zt b (List.mem_cons_of_mem _ z)
            have hj : j < ms.length := (ixN_seq e8).2.1
            obtain ⟨B1, B2, B3, eU, rs⟩ := Reps.set (u := v) (m := mv) hr hj q4.1
            subst eU
            have n12 := List.nodup_append.mp h4
            have n23 := List.nodup_append.mp n12.2.1
            obtain ⟨n6, st6⟩ := fin a _ (.lst (vs.set j v)) (.lst (ms.set j mv)) _ rfl (keep_lst rfl) (List.nodup_append.mpr ⟨n12.1, List.nodup_append.mpr ⟨q4.2.1, n23.2.1, fun x hx y hy e => h3 y (List.mem_append_right _ (List.mem_append_right _ hy)) (e ▸ hx)⟩, fun x hx y hy e => by
              subst e
              rcases List.mem_append.mp hy with hy | hy
              · exact h3 x (List.mem_append_left _ hx) hy
              · exact n12.2.2 x hx x (List.mem_append_right _ hy) rfl⟩) (fun b hb => by
              rcases List.mem_append.mp hb with hb | hb
              · exact .inl (List.mem_append_left _ hb)
              · rcases List.mem_append.mp hb with hb | hb
                · exact .inr hb
                · exact .inl (List.mem_append_right _ (List.mem_append_right _ hb))) fun H' h1 h2 => .lst h1 (rs.mono (fun _ _ z => z) h2)
            exact ⟨a, vs, m, j, rfl, rfl, ha, by rw [hr.length]; exact e8, k _ _ _ n6 st6⟩
        · cases e7
      · cases e3
/-! ### dicts: keys -/
def keyA : D → Option Key
  | .int i => some (.inl i)
  | .str x => some (.inr x)
  | _ => none
def keysA : List D → Option (List Key)
  | [] => some []
  | d :: r => (keyA d).bind fun k => (keysA r).map (k :: ·)
def keyT : D → Option (List Key)
  | .tuple ds => keysA ds
  | _ => none
def kD : Key → D
  | .inl i => .int i
  | .inr x => .str x
theorem keyA_kD (k : Key) : keyA (kD k) = some k := by cases k <;> rfl
theorem keysA_kD : ∀ ks : List Key, keysA (ks.map kD) = some ks
  | [] => rfl
  | k :: r => by
    show (keyA (kD k)).bind (fun k => (keysA (r.map kD)).map (k :: ·)) = _
    rw [keyA_kD, keysA_kD r]
    rfl
theorem keyA_eq {d : D} {k : Key} (h : keyA d = some k) : d = kD k := by
  cases d <;> first | (cases h; rfl) | cases h
theorem keysA_eq : ∀ {ds : List D} {ks : List Key}, keysA ds = some ks → ds = ks.map kD
  | [], _, h => by cases h; rfl
  | d :: r, ks, h => by
    have h' : (keyA d).bind (fun k => (keysA r).map (k :: ·)) = some ks := h
    cases e : keyA d with
    | none => rw [e] at h'; cases h'
    | some k =>
      rw [e] at h'
      have h2 : (keysA r).map (k :: ·) = some ks := h'
      cases e2 : keysA r with
      | none => rw [e2] at h2; cases h2
      | some ks2 =>
        rw [e2] at h2
        cases h2
        rw [List.map_cons, ← keyA_eq e, ← keysA_eq e2]
theorem keyT_eq {d : D} {ks : List Key} (h : keyT d = some ks) : d = .tuple (ks.map kD) := by
  cases d with
  | tuple ds => rw [keysA_eq (show keysA ds = some ks from h)]
  | _ => cases h
section
variable {K : PySem.W.Frag}
theorem rd_kD {F : Hp} {v : V} {k : Key} (r : RD K F v (kD k)) : v = kV k := by
  cases k with
  | inl i => cases r; rfl
  | inr x => cases r; rfl
theorem rds_kD {F : Hp} : ∀ {ks : List Key} {vs : List V}, RDs K F vs (ks.map kD) → vs = ks.map kV
  | [], _, .nil => rfl
  | k :: r, _, .cons h t => by rw [rd_kD h, rds_kD t, List.map_cons]
theorem kD_rd (F : Hp) (k : Key) : RD K F (kV k) (kD k) := by
  cases k with
  | inl i => exact .int i
  | inr x => exact .str x
theorem kDs_rd (F : Hp) : ∀ ks : List Key, RDs K F (ks.map kV) (ks.map kD)
  | [] => .nil
  | k :: r => .cons (kD_rd F k) (kDs_rd F r)
end
end Y

/-! Layer Y, part N: dicts. -/
namespace Y
open PySem PySem.Spec PyProof.Rows L2 Evl
section
variable {κ : Type} [DecidableEq κ]
def valM (kvs : List (κ × MV)) (k : κ) : Option MV := (kvs.find? fun kv => decide (kv.1 = k)).map (·.2)
def putM (kvs : List (κ × MV)) (k : κ) (m : MV) : List (κ × MV) :=
  if (kvs.any fun kv => decide (kv.1 = k)) = true then kvs.map (fun kv => if kv.1 = k then (kv.1, m) else kv) else kvs ++ [(k, m)]
variable {K : PySem.W.Frag} {F H : Hp}
theorem val_rel (k : κ) : ∀ {kws : List (κ × V)} {kvs : List (κ × MV)} {S : List Addr}, kws.map (·.1) = kvs.map (·.1) → Reps K F H (kws.map (·.2)) (kvs.map (·.2)) S → (valV kws k = none ∧ valM kvs k = none) ∨ ∃ v m T, valV kws k = some v ∧ valM kvs k = some m ∧ Rep K F H v m T
  | [], [], _, _, _ => .inl ⟨rfl, rfl⟩
  | [], _ :: _, _, h, _ => by cases h
  | _ :: _, [], _, h, _ => by cases h
  | p :: r, q :: t, _, h, rs => by
    rw [List.map_cons, List.map_cons] at h
    injection h with h1 h2
    rw [List.map_cons, List.map_cons] at rs
    cases rs with
    | @cons _ _ _ _ S1 S2 r1 r2 =>
      unfold valV valM
      rw [List.find?_cons, List.find?_cons]
      by_cases e : p.1 = k
      · rw [decide_eq_true e, decide_eq_true (h1 ▸ e)]
        exact .inr ⟨p.2, q.2, S1, rfl, rfl, r1⟩
      · rw [decide_eq_false e, decide_eq_false (h1 ▸ e)]
        exact val_rel k h2 r2
theorem any_rel (k : κ) : ∀ {kws : List (κ × V)} {kvs : List (κ × MV)}, kws.map (·.1) = kvs.map (·.1) → (kws.any fun kv => decide (kv.1 = k)) = kvs.any fun kv => decide (kv.1 = k)
  | [], [], _ => rfl
  | [], _ :: _, h => by cases h
  | _ :: _, [], h => by cases h
  | p :: r, q :: t, h => by
    rw [List.map_cons, List.map_cons] at h
    injection h with h1 h2
    rw [List.any_cons, List.any_cons, any_rel k h2, h1]
theorem map_none {α : Type} (k : κ) (m : α) : ∀ {kvs : List (κ × α)}, k ∉ kvs.map (·.1) → (kvs.map fun kv => if kv.1 = k then (kv.1, m) else kv) = kvs
  | [], _ => rfl
  | q :: t, h => by
    rw [List.map_cons] at h
    rw [List.map_cons, if_neg (fun e : q.1 = k => h (e ▸ List.mem_cons_self)), map_none k m fun z => h (List.mem_cons_of_mem _ z)]
theorem keys_map {α : Type} (k : κ) (m : α) : ∀ kvs : List (κ × α), (kvs.map fun kv => if kv.1 = k then (kv.1, m) else kv).map (·.1) = kvs.map (·.1)
  | [] => rfl
  | q :: t => by
    rw [List.map_cons, List.map_cons, List.map_cons, keys_map k m t]
    split <;> rfl
theorem map_rel (k : κ) {u : V} {m : MV} {T : List Addr} (rm : Rep K F H u m T) (ndT : T.Nodup) : ∀ {kws : List (κ × V)} {kvs : List (κ × MV)} {S : List Addr}, kws.map (·.1) = kvs.map (·.1) → (kvs.map (·.1)).Nodup → Reps K F H (kws.map (·.2)) (kvs.map (·.2)) S → S.Nodup → (∀ b ∈ S, b ∉ T) → k ∈ kvs.map (·.1) →
    ∃ U, Reps K F H ((kws.map fun kv => if kv.1 = k then (kv.1, u) else kv).map (·.2)) ((kvs.map fun kv => if kv.1 = k then (kv.1, m) else kv).map (·.2)) U ∧ U.Nodup ∧ ∀ b ∈ U, b ∈ S ∨ b ∈ T
  | [], [], _, _, _, _, _, _, h => nomatch h
  | [], _ :: _, _, h, _, _, _, _, _ => by cases h
  | _ :: _, [], _, h, _, _, _, _, _ => by cases h
  | p :: r, q :: t, _, h, nk, rs, ndS, dj, hk => by
    rw [List.map_cons, List.map_cons] at h
    injection h with h1 h2
    rw [List.map_cons] at nk
    have nk' := List.nodup_cons.mp nk
    rw [List.map_cons, List.map_cons] at rs
    cases rs with
    | @cons _ _ _ _ S1 S2 r1 r2 =>
      have n12 := List.nodup_append.mp ndS
      rw [List.map_cons, List.map_cons, List.map_cons, List.map_cons]
      by_cases e : q.1 = k
      · rw [if_pos (h1.trans e), if_pos e, map_none k m (e ▸ nk'.1), map_none k u (by rw [h2]; exact e ▸ nk'.1)]
        exact ⟨T ++ S2, .cons rm r2, List.nodup_append.mpr ⟨ndT, n12.2.1, fun a ha b hb z => dj b (List.mem_append_right _ hb) (z ▸ ha)⟩, fun b hb => (List.mem_append.mp hb).elim .inr fun z => .inl (List.mem_append_right _ z)⟩
      · rw [if_neg (fun z => e (h1 ▸ z)), if_neg e]
        have hk' : k ∈ t.map (·.1) := by
          rw [List.map_cons] at hk
          exact (List.mem_cons.mp hk).elim (fun z => absurd z.symm e) id
        obtain ⟨U, u1, u2, u3⟩ := map_rel k rm ndT h2 nk'.2 r2 n12.2.1 (fun b hb => dj b (List.mem_append_right _ hb)) hk'
        refine ⟨S1 ++ U, .cons r1 u1, List.nodup_append.mpr ⟨n12.1, u2, fun a ha b hb z => ?_⟩, fun b hb => ?_⟩
        · subst z
          rcases u3 a hb with z | z
          · exact n12.2.2 a ha a z rfl
          · exact dj a (List.mem_append_left _ ha) z
        · rcases List.mem_append.mp hb with z | z
          · exact .inl (List.mem_append_left _ z)
          · exact (u3 b z).imp (List.mem_append_right _) id
theorem any_mem {α : Type} {k : κ} {kvs : List (κ × α)} : (kvs.any fun kv => decide (kv.1 = k)) = true ↔ k ∈ kvs.map (·.1) := by
  rw [List.any_eq_true]
  constructor
  · rintro ⟨x, hx, e⟩
    exact (of_decide_eq_true e) ▸ List.mem_map_of_mem hx
  · intro h
    obtain ⟨x, hx, e⟩ := List.mem_map.mp h
    exact ⟨x, hx, decide_eq_true e⟩
theorem put_rel (k : κ) {u : V} {m : MV} {S T : List Addr} (rm : Rep K F H u m T) (ndT : T.Nodup) {kws : List (κ × V)} {kvs : List (κ × MV)} (h : kws.map (·.1) = kvs.map (·.1)) (nk : (kvs.map (·.1)).Nodup) (rs : Reps K F H (kws.map (·.2)) (kvs.map (·.2)) S) (ndS : S.Nodup) (dj : ∀ b ∈ S, b ∉ T) :
    (putK kws k u).map (·.1) = (putM kvs k m).map (·.1) ∧ ((putM kvs k m).map (·.1)).Nodup ∧ ∃ U, Reps K F H ((putK kws k u).map (·.2)) ((putM kvs k m).map (·.2)) U ∧ U.Nodup ∧ ∀ b ∈ U, b ∈ S ∨ b ∈ T := by
  unfold putK putM
  rw [any_rel k h]
  by_cases e : (kvs.any fun kv => decide (kv.1 = k)) = true
  · rw [if_pos e, if_pos e]
    refine ⟨?_, by rw [keys_map]; exact nk, map_rel k rm ndT h nk rs ndS dj (any_mem.mp e)⟩
    rw [keys_map, keys_map]; exact h
  · rw [if_neg e, if_neg e]
    refine ⟨by rw [List.map_append, List.map_append, h]; rfl, ?_, S ++ (T ++ []), ?_, ?_, fun b hb => ?_⟩
    · rw [List.map_append]
      refine List.nodup_append.mpr ⟨nk, by simp, fun a ha b hb z => e (any_mem.mpr ?_)⟩
      have : b = k := by simpa using hb
      rw [← this, ← z]; exact ha
    · rw [List.map_append, List.map_append]
      exact Reps.app rs (.cons rm .nil)
    · rw [List.append_nil]
      exact List.nodup_append.mpr ⟨ndS, ndT, fun a ha b hb z => dj a ha (z ▸ hb)⟩
    · rw [List.append_nil] at hb
      exact List.mem_append.mp hb
end
/-- what a dict has at a key; both kinds of dicts -/
def dGet (m : MV) (d : D) : Option (Option MV) := match m with
  | .dK kvs => (keyA d).map (valM kvs)
  | .dT kvs => (keyT d).map (valM kvs)
  | _ => none
theorem rd_kT {K : PySem.W.Frag} {F : Hp} {v : V} {ks : List Key} (r : RD K F v (.tuple (ks.map kD))) : ∃ b, v = .ref b ∧ F b = some (.tup (ks.map kV)) := by
  cases r with
  | tup h q =>
    rw [rds_kD q] at h
    exact ⟨_, rfl, h⟩
theorem dGet_ok {K : PySem.W.Frag} {F H : Hp} {v y : V} {m : MV} {d : D} {S : List Addr} {o : Option MV} (ex : Ex F H) (r : Rep K F H v m S) (ry : RD K F y d) (h : dGet m d = some o) : ∃ a, v = .ref a ∧ ((DGet H a y none ∧ o = none) ∨ ∃ u m' T, DGet H a y (some u) ∧ o = some m' ∧ Rep K F H u m' T) := by
  cases r with
  | d r => cases h
  | lst _ _ => cases h
  | @dK a kws kvs S ha hk rs =>
    obtain ⟨k, ek, eo⟩ := Option.map_eq_some_iff.mp (show (keyA d).map (valM kvs) = some o from h)
    rw [keyA_eq ek] at ry
    rw [rd_kD ry]
    refine ⟨a, rfl, ?_⟩
    rcases val_rel k hk.1 rs with ⟨h1, h2⟩ | ⟨u, m', T, h1, h2, h3⟩
    · exact .inl ⟨.inl ⟨kws, k, .inl ha, rfl, h1.symm⟩, eo.symm.trans h2⟩
    · exact .inr ⟨u, m', T, .inl ⟨kws, k, .inl ha, rfl, h1.symm⟩, eo.symm.trans h2, h3⟩
  | @dT a kws kvs S ha hk rs =>
    obtain ⟨k, ek, eo⟩ := Option.map_eq_some_iff.mp (show (keyT d).map (valM kvs) = some o from h)
    rw [keyT_eq ek] at ry
    obtain ⟨b, eb, hb⟩ := rd_kT ry
    subst eb
    refine ⟨a, rfl, ?_⟩
    rcases val_rel k hk.1 rs with ⟨h1, h2⟩ | ⟨u, m', T, h1, h2, h3⟩
    · exact .inl ⟨.inr ⟨kws, k, b, .inl ha, rfl, ex _ _ hb, h1.symm⟩, eo.symm.trans h2⟩
    · exact .inr ⟨u, m', T, .inr ⟨kws, k, b, .inl ha, rfl, ex _ _ hb, h1.symm⟩, eo.symm.trans h2, h3⟩
/-- d[k], where the value is data -/
def oDGet : O2 := fun s x y => match y with
  | .d d => (vw s x).bind fun m => match dGet m d with
    | some (some (.d z)) => some (.d z, s)
    | _ => none
  | _ => none
def oDIn (neg : Bool) : O2 := fun s y x => match y with
  | .d d => (vw s x).bind fun m => (dGet m d).map fun o => (.d (.bool (if neg then !o.isSome else o.isSome)), s)
  | _ => none
def rDGet : R2 := fun x y H Q => ∃ a v, x = .ref a ∧ DGet H a y (some v) ∧ Q v H
def rDIn : R2 := fun y x H Q => ∃ a o, x = .ref a ∧ DGet H a y o ∧ Q (.bl o.isSome) H
def rDNot : R2 := fun y x H Q => ∃ a o, x = .ref a ∧ DGet H a y o ∧ Q (.bl (!o.isSome)) H
section
variable {K : PySem.W.Frag}
theorem co_dget : Co2 K rDGet oDGet := by
  intro g0 H0 g H σ sl x y tx ty S T tv sl' Q n st rx fx ry fy ap h k
  unfold oDGet at h
  split at h
  · obtain ⟨m, e1, h⟩ := Option.bind_eq_some_iff.mp h
    split at h
    · rename_i z e2
      cases h
      obtain ⟨U, q⟩ := vw_ok st rx e1
      obtain ⟨a, rfl, ⟨_, h2⟩ | ⟨u, m', V, h1, h2, h3⟩⟩ := dGet_ok st.ex q ry.2 e2
      · cases h2
      · cases h2
        cases h3 with
        | d h3 => exact ⟨a, u, rfl, h1, k.scal n st h3⟩
    · cases h
  · cases h
theorem co_din : Co2 K rDIn (oDIn false) := by
  intro g0 H0 g H σ sl y x ty tx S T tv sl' Q n st ry fy rx fx ap h k
  unfold oDIn at h
  split at h
  · obtain ⟨m, e1, h⟩ := Option.bind_eq_some_iff.mp h
    obtain ⟨o, e2, e3⟩ := Option.map_eq_some_iff.mp h
    cases e3
    obtain ⟨U, q⟩ := vw_ok st rx e1
    obtain ⟨a, rfl, ⟨h1, h2⟩ | ⟨u, m', V, h1, h2, h3⟩⟩ := dGet_ok st.ex q ry.2 e2
    · subst h2; exact ⟨a, none, rfl, h1, k.scal n st (.bl _)⟩
    · subst h2; exact ⟨a, some u, rfl, h1, k.scal n st (.bl _)⟩
  · cases h
theorem co_dnot : Co2 K rDNot (oDIn true) := by
  intro g0 H0 g H σ sl y x ty tx S T tv sl' Q n st ry fy rx fx ap h k
  unfold oDIn at h
  split at h
  · obtain ⟨m, e1, h⟩ := Option.bind_eq_some_iff.mp h
    obtain ⟨o, e2, e3⟩ := Option.map_eq_some_iff.mp h
    cases e3
    obtain ⟨U, q⟩ := vw_ok st rx e1
    obtain ⟨a, rfl, ⟨h1, h2⟩ | ⟨u, m', V, h1, h2, h3⟩⟩ := dGet_ok st.ex q ry.2 e2
    · subst h2; exact ⟨a, none, rfl, h1, k.scal n st (.bl _)⟩
    · subst h2; exact ⟨a, some u, rfl, h1, k.scal n st (.bl _)⟩
  · cases h
end
section
variable {X : Cx} {W : WX} {pos : Pos} {a b : Expr} {A B : AE}
theorem e_dget (hu : X.A.units + 1 < cLine) (ha : PE X a (eL X.K W A)) (hb : PE X b (eL X.K W B)) (hs : NoSl b) : PE X (.Subscript a b pos) (eL X.K W (aOp oDGet A B)) := PEm (pe_dget hu ha hb hs) (op_lift co_dget)
theorem e_din (hu : X.A.units + 1 < cLine) (ha : PE X a (eL X.K W A)) (hb : PE X b (eL X.K W B)) (hm : behindInMarks .In b = false) : PE X (.Compare a [.In] [b] pos) (eL X.K W (aOp (oDIn false) A B)) := e_pc (pc_din hu ha hb) (op_lift co_din) hm
theorem e_dnotin (hu : X.A.units + 1 < cLine) (ha : PE X a (eL X.K W A)) (hb : PE X b (eL X.K W B)) (hm : behindInMarks .NotIn b = false) : PE X (.Compare a [.NotIn] [b] pos) (eL X.K W (aOp (oDIn true) A B)) := e_pc (pc_dnotin hu ha hb) (op_lift co_dnot) hm
theorem t_din (hu : X.A.units + 1 < cLine) (ha : PE X a (eL X.K W A)) (hb : PE X b (eL X.K W B)) (hm : behindInMarks .In b = false) : PT X (.Compare a [.In] [b] pos) (tL X.K W (aB (aOp (oDIn false) A B))) := t_pc (pc_din hu ha hb) (op_lift co_din) hm
theorem t_dnotin (hu : X.A.units + 1 < cLine) (ha : PE X a (eL X.K W A)) (hb : PE X b (eL X.K W B)) (hm : behindInMarks .NotIn b = false) : PT X (.Compare a [.NotIn] [b] pos) (tL X.K W (aB (aOp (oDIn true) A B))) := t_pc (pc_dnotin hu ha hb) (op_lift co_dnot) hm
/-! {} -/
def aDNew (t : Bool) : AE := fun s => some (.ok (.t (if t then .dT [] else .dK [])) s)
theorem e_dnewK : PE X (.Dict [] [] pos) (eL X.K W (aDNew false)) := PEm pe_dnewK fun σ H Q ⟨g, sl, res, st, e, k⟩ => by
  cases e
  intro p hp
  obtain ⟨n', st', h1, h2, h3, h4⟩ := st.newT (o := .dK []) (Nx.refl g H) hp
  exact k _ _ _ [p] n' st' ⟨.dK upd_same ⟨rfl, List.nodup_nil⟩ .nil, by simp, fun a z => by rw [List.mem_singleton.mp z]; exact ⟨h1, h2, h3⟩⟩ fun a z => by rw [List.mem_singleton.mp z]; exact h4
theorem e_dnewT : PE X (.Dict [] [] pos) (eL X.K W (aDNew true)) := PEm pe_dnewT fun σ H Q ⟨g, sl, res, st, e, k⟩ => by
  cases e
  intro p hp
  obtain ⟨n', st', h1, h2, h3, h4⟩ := st.newT (o := .dT []) (Nx.refl g H) hp
  exact k _ _ _ [p] n' st' ⟨.dT upd_same ⟨rfl, List.nodup_nil⟩ .nil, by simp, fun a z => by rw [List.mem_singleton.mp z]; exact ⟨h1, h2, h3⟩⟩ fun a z => by rw [List.mem_singleton.mp z]; exact h4
end
/-! d[k] = v -/
def dPut (m : MV) (d : D) (v : MV) : Option MV := match m with
  | .dK kvs => if kvs.length < sizeLine then (keyA d).map fun k => .dK (putM kvs k v) else none
  | .dT kvs => if kvs.length < sizeLine then (keyT d).map fun k => .dT (putM kvs k v) else none
  | _ => none
theorem dput_ok {K : PySem.W.Frag} {g0 g : G} {H0 H : Hp} {σ : L2.St} {sl : SL} {v u y : V} {x : TV} {S T : List Addr} {q : Pl} {mv m' : MV} {d : D} (n : Nx g0 H0 g H) (f : Fresh g0 H0 S) (st : Sta K g H σ sl) (rx : RTV K g H σ v x S) (ew : pl sl x = some q) (fT : Fresh g0 H0 T) (ap : ∀ a ∈ S, a ∉ T) (ru : RTV K g H σ u (.t mv) T) (ry : RD K g.F y d) (h : dPut q.m d mv = some m') :
    ∃ a H' g', v = .ref a ∧ DPut H a y u H' ∧ Nx g0 H0 g' H' ∧ Sta K g' H' σ (q.w m') := by
  obtain ⟨g1, Z, n1, st1, eF, rp, nd, dj, fin⟩ := pl_root n f st rx ew fT ap ru.2.2 (fun a z => ru.1.keep a z)
  cases em : q.m with
  | d z => rw [em] at h; cases h
  | lst z => rw [em] at h; cases h
  | dK kvs =>
    rw [em] at h rp
    cases rp with
    | @dK a kws kvs U ha hk rs =>
    have h' : (if kvs.length < sizeLine then (keyA d).map fun k => MV.dK (putM kvs k mv) else none) = some m' := h
    split at h'
    · rename_i hl
      obtain ⟨k, ek, rfl⟩ := Option.map_eq_some_iff.mp h'
      rw [keyA_eq ek] at ry
      rw [rd_kD ry]
      obtain ⟨h1, h2, U', h3, h4, h5⟩ := put_rel k ru.1 ru.2.1 hk.1 hk.2 rs (List.nodup_cons.mp nd).2 (fun b z => dj b (List.mem_cons_of_mem _ z))
      have hl' : kws.length < sizeLine := by
        have := congrArg List.length hk.1
        rw [List.length_map, List.length_map] at this
        rw [this]; exact hl
      obtain ⟨n2, st2⟩ := fin a U (.dK (putK kws k u)) (.dK (putM kvs k mv)) U' rfl (keep_dK rfl) h4 h5 fun H' e1 e2 => .dK e1 ⟨h1, h2⟩ (h3.mono (fun _ _ z => z) e2)
      exact ⟨a, _, _, rfl, .inl ⟨kws, k, ha, rfl, hl', rfl⟩, n2, st2⟩
    · cases h'
  | dT kvs =>
    rw [em] at h rp
    cases rp with
    | @dT a kws kvs U ha hk rs =>
    have h' : (if kvs.length < sizeLine then (keyT d).map fun k => MV.dT (putM kvs k mv) else none) = some m' := h
    split at h'
    · rename_i hl
      obtain ⟨k, ek, rfl⟩ := Option.map_eq_some_iff.mp h'
      rw [keyT_eq ek] at ry
      obtain ⟨b, eb, hb⟩ := rd_kT ry
      subst eb
      obtain ⟨h1, h2, U', h3, h4, h5⟩ := put_rel k ru.1 ru.2.1 hk.1 hk.2 rs (List.nodup_cons.mp nd).2 (fun b z => dj b (List.mem_cons_of_mem _ z))
      have hl' : kws.length < sizeLine := by
        have := congrArg List.length hk.1
        rw [List.length_map, List.length_map] at this
        rw [this]; exact hl
      obtain ⟨n2, st2⟩ := fin a U (.dT (putK kws k u)) (.dT (putM kvs k mv)) U' rfl (keep_dT rfl) h4 h5 fun H' e1 e2 => .dT e1 ⟨h1, h2⟩ (h3.mono (fun _ _ z => z) e2)
      exact ⟨a, _, _, rfl, .inr ⟨kws, k, b, ha, rfl, st.ex _ _ hb, hl', rfl⟩, n2, st2⟩
    · cases h'
def aDPut (A O I : AE) : AS := fun s => sb (A s) fun tv s1 => sb (O s1) fun to s2 => sb (I s2) fun ti s3 => match ti with
  | .d d => (toM s3 tv).bind fun r => (pl r.2 to).bind fun q => (dPut q.m d r.1).map fun m' => .nx (q.w m')
  | _ => none
theorem s_dput {X : Cx} {W : WX} {pos p2 : Pos} {o i value : Expr} {A O I : AE} (hu : X.A.units + 1 < cLine) (ho : PE X o (eL X.K W O)) (hi : PE X i (eL X.K W I)) (hv : PE X value (eL X.K W A)) (hs : swapsWith value (some (.Subscript o i p2)) pos.line X.env = pure false) :
    PS X (.Assign [.Subscript o i p2] value pos) (sL X.K W (aDPut A O I)) :=
  PSm (ps_dput hu ho hi hv hs) fun D σ H ⟨g, sl, r, st, e, k⟩ => run1S (R := RV X.K) st e (k.x σ) fun tv s1 g1 H1 v S e1 n1 st1 r1 f1 =>
    run1S (R := RV X.K) st1 e1 (hxmS (k.x σ) n1) fun to s2 g2 H2 o T e2 n2 st2 r2 f2 => run1S (R := RV X.K) st2 e2 (hxmS (k.x σ) (n1.trans n2)) fun ti s3 g3 H3 y U e3 n3 st3 r3 f3 => by
      split at e3
      · rename_i d
        obtain ⟨⟨mv, s4⟩, e4, e5⟩ := Option.bind_eq_some_iff.mp e3
        obtain ⟨q, ew, e6⟩ := Option.bind_eq_some_iff.mp e5
        obtain ⟨m', e7, rfl⟩ := Option.map_eq_some_iff.mp e6
        have nn := n1.trans (n2.trans n3)
        obtain ⟨g4, V, n4, st4, q4, sub, kp, ex⟩ := toM_ok nn f1 st3 (r1.mono (n2.trans n3)) e4
        have ap : ∀ a ∈ S, a ∉ T := r1.apart f2
        obtain ⟨a, H', g5, rfl, hp, n5, st5⟩ := dput_ok n4 (f2.back n1) st4 (kp _ _ _ (r2.mono n3) ap) ew (fun a z => f1 a (sub a z)) (fun a z z2 => ap a (sub a z2) z) q4 (r3.2.mono ex) e7
        exact ⟨a, H', rfl, hp, k _ _ _ n5 st5⟩
      · cases e3
/-! len(d) -/
def rLenB (K : PySem.W.Frag) : List V → Hp → VK → Prop := fun xs H Q => (∃ x n, xs = [x] ∧ LenV K x H n ∧ Q (.int n) H) ∨ (∃ a kvs, xs = [V.ref a] ∧ H a = some (.dK kvs) ∧ Q (.int kvs.length) H) ∨ rLenT xs H Q
theorem call_or {X : Cx} {v : Value} {r q : List V → Hp → VK → Prop} (h1 : CallR X v r) (h2 : CallR X v q) : CallR X v fun xs H Q => r xs H Q ∨ q xs H Q := fun pins s σ H xs us Q I rr h => h.elim (h1 pins s σ H xs us Q I rr) (h2 pins s σ H xs us Q I rr)
theorem call_lenB {X : Cx} : CallR X (.builtin "len") (rLenB X.K) := call_or call_len (call_or call_lenD call_len_dT)
def oLenA : O1 := fun sl ts => match ts with
  | [x] => match vw sl x with
    | some (.dK kvs) => some (.d (.int (kvs.length : Nat)), sl)
    | some (.dT kvs) => some (.d (.int (kvs.length : Nat)), sl)
    | _ => (lenA sl x).map fun n => (.d (.int (n : Nat)), sl)
  | _ => none
theorem co_lenA {K : PySem.W.Frag} : CoC K (rLenB K) oLenA := by
  intro g0 H0 g H σ sl vs ts S tv sl' Q n st rs f h k
  unfold oLenA at h
  split at h
  · rename_i x
    obtain ⟨v, rfl, r⟩ := rs.one
    split at h
    · rename_i kvs e
      cases h
      obtain ⟨T, q⟩ := vw_ok st r e
      cases q with
      | @dK a kws _ U ha hk rs' =>
        refine .inr (.inl ⟨a, kws, rfl, ha, ?_⟩)
        have := congrArg List.length hk.1
        rw [List.length_map, List.length_map] at this
        rw [this]
        exact k.scal n st (.int _)
    · rename_i kvs e
      cases h
      obtain ⟨T, q⟩ := vw_ok st r e
      cases q with
      | @dT a kws _ U ha hk rs' =>
        refine .inr (.inr ⟨a, kws, rfl, ha, ?_⟩)
        have := congrArg List.length hk.1
        rw [List.length_map, List.length_map] at this
        rw [this]
        exact k.scal n st (.int _)
    · exact .inl (co_len g0 H0 g H σ sl [v] [x] S tv sl' Q n st rs f h k)
  · cases h
end Y

/-! Layer Y, part O: enumerate over a tuple (at the model's level), zip, enumerate. -/
namespace PySem
open Sem (wp)
open AutoSeq1 (wpAny_loadPart')
theorem meets_enumerate_newT (l : Addr) (items : Array Value) (n : Nat) (dct : Option Addr) (sl : Array (Option Value)) :
    Meets (Builtin.«enumerate.__new__» ⟨[.type "enumerate", .ref l], []⟩) (fun _ R s => s.heap.get? l = some { cls := .type "tuple", dict := dct, data := .seq items n, slots := sl } ∧
      R (.ok (.ret (.ref (s.heap.push { cls := .type "tuple_iterator", data := .fields #[.ref l, .int 0 0] }).objs.size)))
        { s with heap := (s.heap.push { cls := .type "tuple_iterator", data := .fields #[.ref l, .int 0 0] }).push { cls := .type "enumerate", data := .fields #[.none, .bool false, .ref s.heap.objs.size, rawInt 0, .none, .none] } }) :=
  .of_wp fun prog w A R s h => by
    obtain ⟨hp, g, d, tk, os⟩ := s; obtain ⟨hl, h⟩ := h
    have hsub := sub_enumerate
    have hL : Heap.IsTuple (Shared.heap ⟨hp, g, d, tk, os⟩) l items := ⟨_, hl, rfl, n, rfl⟩
    wp_walk using wpAny_loadPart' hl
    refine wpAny_stack_any fun st => wpAny_pure ?_
    split
    · rename_i c _ _ _ _ _
      cases (c == Value.type "enumerate")
      · wp_walk using wpAny_loadPart' hl, wpAny_pyIter_tuple hL
        exact ⟨_, rfl, h⟩
      · wp_walk using wpAny_loadPart' hl, wpAny_pyIter_tuple hL
        exact ⟨_, rfl, h⟩
    · wp_walk using wpAny_loadPart' hl, wpAny_pyIter_tuple hL
      exact ⟨_, rfl, h⟩
section
variable {prog : Program} {w : World} {A : Around} {E : Value → Shared → Prop} {s : Shared}
theorem call_enumerate_tuple {l : Addr} {items : Array Value} {Q : Value → Shared → Prop} (hL : s.heap.IsTuple l items)
    (h : ∀ h', IsEnum h' (s.heap.objs.size + 1) s.heap.objs.size 0 .none → h'.IsTupleIter s.heap.objs.size l 0 → h'.objs.size = s.heap.objs.size + 2 →
      (∀ b o, s.heap.get? b = some o → h'.get? b = some o) → Q (.ref (s.heap.objs.size + 1)) { s with heap := h' }) :
    wpAny (model prog w) A (call (.type "enumerate") [.ref l]) Q E s := by
  obtain ⟨⟨c, dct, dt, sl⟩, hl, hc, n, hd⟩ := hL
  replace hc : c = .type "tuple" := hc
  replace hd : dt = .seq items n := hd
  subst hc hd
  refine callType_new F.called_enumerate (by decide) (F.typeCall_enumerate_1 _) (F.newCall_enumerate_1 _) (fun obj => F.args_object_init_2 obj _) F.entry_enumerate_new
    (meets_enumerate_newT l items n dct sl) ⟨hl, ?_⟩
  have hz : (s.heap.push { cls := .type "tuple_iterator", data := .fields #[.ref l, .int 0 0] }).objs.size = s.heap.objs.size + 1 := Heap.size_push ..
  show _ ∧ _
  rw [hz]
  have he : IsEnum ((s.heap.push { cls := .type "tuple_iterator", data := .fields #[.ref l, .int 0 0] }).push
      { cls := .type "enumerate", data := .fields #[.none, .bool false, .ref s.heap.objs.size, rawInt 0, .none, .none] }) (s.heap.objs.size + 1) s.heap.objs.size 0 .none := by
    have := Heap.get?_push_size (s.heap.push { cls := .type "tuple_iterator", data := .fields #[.ref l, .int 0 0] })
      (o := { cls := .type "enumerate", data := .fields #[.none, .bool false, .ref s.heap.objs.size, rawInt 0, .none, .none] }) rfl
    rw [hz] at this; exact this
  refine ⟨⟨_, he, rfl⟩, h _ he ⟨_, Heap.get?_push_of_some _ (Heap.get?_push_size _ rfl), rfl, rfl⟩ (by rw [Heap.size_push, hz]) fun b o x => Heap.get?_push_of_some _ (Heap.get?_push_of_some _ x)⟩
end
end PySem
namespace Y
open PySem PySem.Spec PyProof.Rows L2 Evl
def IteT (K : PySem.W.Frag) (a : Addr) : It :=
  ⟨fun i H => ∃ (xs : List V) (x : V), SqT K H a xs ∧ xs[i]? = some x, fun i H v H' => ∃ T x, v = .ref T ∧ H T = none ∧ H' = upd H T (.tup [.int (i : Nat), x]) ∧ ∀ xs, SqT K H a xs → xs[i]? = some x, fun i H => ∃ xs : List V, SqT K H a xs ∧ xs.length = i⟩
theorem turn_enumT {P : Program} {w : World} {K : PySem.W.Frag} {elts : List Expr} {kk : Nat} {tpos : Pos} (a e it : Addr) (hae : a ≠ e) (hai : a ≠ it) :
    Turn P w K (.Tuple elts kk tpos) (IteT K a) [e, it] e (fun i h => (∃ old, IsEnum h e it ((i : Nat) : Int) old) ∧ h.IsTupleIter it a i ∧ e ≠ it) where
  mem := by simp
  obj := fun i h st b hb => by
    obtain ⟨⟨old, he⟩, ⟨o, ho, hc, hd⟩, _⟩ := st
    have e' : b = e ∨ b = it := by simpa using hb
    rcases e' with z | z
    · rw [z]; exact ⟨_, he, fun v q => nomatch q⟩
    · rw [z]; exact ⟨o, ho, fun v q => by rw [hd] at q; cases q⟩
  keep := fun i h h' st k => let ⟨⟨old, he⟩, hi, hne⟩ := st; ⟨⟨old, k e (by simp) _ he⟩, hi.at fun o q => k it (by simp) o q, hne⟩
  item := by
    intro X hP hw hK hc i pins s σ H E I hf st hg
    subst hP hw hK
    obtain ⟨⟨old, he⟩, hit, hne⟩ := st
    obtain ⟨xs, x, hq, hx⟩ := hg
    obtain ⟨its, rv, p, hz⟩ := I.tuple hq
    obtain ⟨u, hu, ru⟩ := rv.get hx
    have hel : e < s.heap.objs.size := Heap.lt_size he
    have hil : it < s.heap.objs.size := by obtain ⟨_, q, _⟩ := hit; exact Heap.lt_size q
    have pt : s.heap.IsTuple a its.toArray := p
    have hil2 : i < its.toArray.size := by
      have := (List.getElem?_eq_some_iff.mp hu).1
      simpa using this
    have dd := Draws.tuple (prog := X.prog) (w := X.w) (A := X.A.in1) (I.ok.hd hc) it a hai its.toArray
    refine wpAny_pyNext_enum_itemD dd he ⟨hit, pt⟩ hil2 hne (by simp [Ne.symm hae, hne]) fun x' h' tk hP ho hst' hT hsz hk => ?_
    have ex : x' = u := by
      have : its.toArray[i]? = some u := by simpa using hu
      rw [this] at hP
      exact (Option.some.inj hP).symm
    subst ex
    refine ⟨_, rfl, wpAny_letOwnedTupleGo_enum (s := { s with heap := h', toks := tk + 1 }) ho fun h'' he' sb => ?_⟩
    have hT2 : h''.get? s.heap.objs.size = some { cls := .type "tuple", data := .seq #[.int i tk, x'] } := (sb.2 _ (Nat.ne_of_gt hel)).trans hT
    have new : ObjOk X.prog X.w (upd H s.heap.objs.size (.tup [.int (i : Nat), x])) h'' s.heap.objs.size (.tup [.int (i : Nat), x]) :=
      ⟨by show 2 ≤ sizeLine; decide, [.int i tk, x'], .cons ⟨_, rfl⟩ (.cons ru .nil), ⟨_, hT2, rfl, _, rfl⟩⟩
    have I1 : Inv X pins σ (upd H s.heap.objs.size (.tup [.int (i : Nat), x])) { s with heap := h'', toks := tk + 1 } :=
      I.turnedNew (ch := [e, it]) (fun b ob hb q => (sb.2 b (fun z => hb (by simp [z]))).trans (hk b ob (fun z => hb (by simp [z])) (fun z => hb (by simp [z])) q)) hf (Nat.le_refl _) new
    refine ⟨.ref s.heap.objs.size, _, I1, rfl, ⟨_, x, rfl, I.hok.fresh (Nat.le_refl _), rfl, fun ys hy => by rw [I.tuple_inj hy hq]; exact hx⟩, ⟨⟨x', ?_⟩, hst'.1.at fun o q => (sb.2 it (Ne.symm hne)).trans q, hne⟩, fun b hb => ?_⟩
    · have e1 : ((i + 1 : Nat) : Int) = (i : Int) + 1 := by omega
      rw [e1]; exact he'
    · have hb' : b < s.heap.objs.size := by
        have e' : b = e ∨ b = it := by simpa using hb
        rcases e' with z | z
        · rw [z]; exact hel
        · rw [z]; exact hil
      rw [upd_ne (Nat.ne_of_lt hb')]
      exact (hf b hb).1
  done := by
    intro X hP hw hK hc i pins s σ H E I hf st hg
    subst hP hw hK
    obtain ⟨⟨old, he⟩, hit, hne⟩ := st
    obtain ⟨xs, hq, hx⟩ := hg
    obtain ⟨its, rv, p, hz⟩ := I.tuple hq
    obtain ⟨f0, f1, f2, f3, f4, f5⟩ := hf it (by simp)
    have hl := rv.length
    have pt : s.heap.IsTuple a its.toArray := p
    have hs : i = its.toArray.size := by simp; omega
    have dd := Draws.tuple (prog := X.prog) (w := X.w) (A := X.A.in1) (I.ok.hd hc) it a hai its.toArray
    exact wpAny_pyNext_enum_endD dd he ⟨hs ▸ hit, pt⟩ fun h' eb => ⟨rfl, I.turned (t' := s.toks) (fun b o hb q => eb b o hb q) f0 f1 f3 f4 f5⟩
  self := fun A i s Q E st h => let ⟨⟨_, he⟩, _⟩ := st; wpAny_pyIter_enum he h
def iEnumT (K : PySem.W.Frag) (ta : TA) : TI := fun σ H R => ta σ H fun vs H1 => ∃ a xs, vs = [.ref a] ∧ SqT K H1 a xs ∧ R (IteT K a) H1
theorem pi_enumT {X : Cx} {e : Expr} {ta : TA} {p pos tpos : Pos} {elts : List Expr} {kk : Nat} (hg : Gl X "enumerate") (hm : X.mg "enumerate" = none) (ha : PA X [e] ta) (hs : starEach [e] X.env = [(false, eval e X.env)] := by rfl) :
    PI X (.Tuple elts kk tpos) (.Call (.Name "enumerate" p) [e] [] pos) (iEnumT X.K ta) := by
  refine ⟨fun pins s σ H R I h => ?_⟩
  refine Call_ (ld_blt I hg hm boot_enumerate (PyProof.Rows.callWith_type1 (thn (ha.run pos pins s σ H _ I h) fun us s1 ⟨vs, H1, I1, r1, q1⟩ => ?_) hs rfl))
  obtain ⟨a, xs, ex, hq, q⟩ := q1
  subst ex
  cases r1 with
  | cons r rr =>
    cases rr
    cases r
    obtain ⟨its, rv, p', hz⟩ := I1.tuple hq
    have pt : s1.heap.IsTuple a its.toArray := p'
    have hlt : a < s1.heap.objs.size := by obtain ⟨_, q, _⟩ := pt; exact Heap.lt_size q
    refine call_enumerate_tuple pt fun h' he hit hsz hk => wpAny_pyIter_enum he ?_
    have I2 : Inv X pins σ H1 { s1 with heap := h' } := I1.kept (t' := s1.toks) hk
    refine ⟨s1.heap.objs.size + 1, [s1.heap.objs.size + 1, s1.heap.objs.size], _, _, H1, rfl, I2, turn_enumT a (s1.heap.objs.size + 1) s1.heap.objs.size (Nat.ne_of_lt (Nat.lt_succ_of_lt hlt)) (Nat.ne_of_lt hlt), ⟨⟨.none, he⟩, hit, Nat.succ_ne_self _⟩, fun b hb => ?_, q⟩
    have e' : b = s1.heap.objs.size + 1 ∨ b = s1.heap.objs.size := by simpa using hb
    have hle : s1.heap.objs.size ≤ b := by
      rcases e' with z | z
      · rw [z]; exact Nat.le_add_right _ _
      · rw [z]; exact Nat.le_refl _
    exact I1.fpOk hle (I1.hok.fresh hle)
/-! ### enumerate, zip -/
def enumD (ds : List D) : List D := ds.zipIdx.map fun p => .tuple [.int (p.2 : Nat), p.1]
theorem enumD_get {ds : List D} {i : Nat} {d : D} (h : ds[i]? = some d) : (enumD ds)[i]? = some (.tuple [.int (i : Nat), d]) := by
  unfold enumD
  rw [List.getElem?_map, List.getElem?_zipIdx, h]
  simp
theorem enumD_len (ds : List D) : (enumD ds).length = ds.length := by unfold enumD; simp
section
variable {K : PySem.W.Frag} {g : G} {H : Hp}
theorem ir_enum {S : List Addr} {a : Addr} {vs : List V} {ds : List D} (hq : ∀ (g1 : G) (H1 : Hp), Ex g.F g1.F → Ex g1.F H1 → (∀ a ∈ S, H1 a = H a) → SqL K H1 a vs) (r : RDs K g.F vs ds) : IRel K g H S (enumD ds) (Ite K a) := by
  intro i g1 H1 e1 e2 h
  have q := hq g1 H1 e1 e2 h
  rw [enumD_len]
  refine ⟨fun hi => ?_, fun hi => ⟨vs, q, by rw [hi, r.length]; exact Nat.le_refl _⟩⟩
  obtain ⟨v, h1, h2⟩ := r.get (List.getElem?_eq_getElem hi)
  refine ⟨⟨vs, v, q, h1⟩, fun x H2 ⟨T, y, e3, e4, e5, e6⟩ => .inr (.inl ⟨T, _, [.int (i : Nat), ds[i]], e3, e4, e5, enumD_get (List.getElem?_eq_getElem hi), ?_⟩)⟩
  have := e6 vs q
  rw [h1] at this
  cases this
  exact .cons (.int _) (.cons (h2.mono e1) .nil)
theorem ir_enumT {S : List Addr} {a : Addr} {vs : List V} {ds : List D} (hq : SqT K g.F a vs) (r : RDs K g.F vs ds) : IRel K g H S (enumD ds) (IteT K a) := by
  intro i g1 H1 e1 e2 h
  have q := ex_t e2 (ex_t e1 hq)
  rw [enumD_len]
  refine ⟨fun hi => ?_, fun hi => ⟨vs, q, by rw [hi, r.length]⟩⟩
  obtain ⟨v, h1, h2⟩ := r.get (List.getElem?_eq_getElem hi)
  refine ⟨⟨vs, v, q, h1⟩, fun x H2 ⟨T, y, e3, e4, e5, e6⟩ => .inr (.inl ⟨T, _, [.int (i : Nat), ds[i]], e3, e4, e5, enumD_get (List.getElem?_eq_getElem hi), ?_⟩)⟩
  have := e6 vs q
  rw [h1] at this
  cases this
  exact .cons (.int _) (.cons (h2.mono e1) .nil)
end
def aEnum (R : AA) : AI := fun s => bd (R s) fun ts s1 => match ts with
  | [.d (.list ds)] => some (.ok (enumD ds, none) s1)
  | [.d (.tuple ds)] => some (.ok (enumD ds, none) s1)
  | [.x ds] => some (.ok (enumD ds, none) s1)
  | [.c ds] => some (.ok (enumD ds, none) s1)
  | [.t m] => match frz m with
    | some (.list ds) => some (.ok (enumD ds, none) s1)
    | _ => none
  | [.var i] => match s1[i]? with
    | some (some (.w (.lst ms))) => (lvs ms).map fun ds => .ok (enumD ds, some i) s1
    | some (some (.p (.lst ms))) => (lvs ms).map fun ds => .ok (enumD ds, some i) s1
    | some (some (.k (.lst ms))) => (lvs ms).map fun ds => .ok (enumD ds, none) s1
    | _ => none
  | _ => none
section
variable {X : Cx} {W : WX} {tg e : Expr} {A : AE} {R : AA}
theorem i_enum {p pos tpos : Pos} {elts : List Expr} {kk : Nat} (hg : Gl X "enumerate") (hm : X.mg "enumerate" = none) (ha : PA X [e] (aL X.K W R)) (hs : starEach [e] X.env = [(false, eval e X.env)] := by rfl) :
    PI X (.Tuple elts kk tpos) (.Call (.Name "enumerate" p) [e] [] pos) (iL X.K W (aEnum R)) := PIm (pi_or (pi_enum hg hm ha hs) (pi_enumT hg hm ha hs)) fun σ H Q ⟨g, sl, r, st, e, k⟩ => by
  unfold aEnum bd at e
  cases eA : R sl with
  | none => rw [eA] at e; cases e
  | some q =>
  rw [eA] at e
  cases q with
  | ex xa s1 =>
    cases e
    exact .inl ⟨g, sl, _, st, eA, k⟩
  | ok ts s1 =>
  dsimp only at e
  split at e
  · cases e
    refine .inl ⟨g, sl, _, st, eA, fun g1 H1 vs S n1 st1 r1 f1 => ?_⟩
    obtain ⟨v, rfl, _, r1⟩ := r1.one
    cases r1 with
    | lst h1 h2 => exact ⟨_, _, rfl, SqL.of (st1.ex _ _ h1), k g1 H1 _ [] n1 st1 (fun _ h => nomatch h) (ir_enum (fun g2 H2 e1 e2 _ => SqL.of (e2 _ _ (e1 _ _ h1))) h2)⟩
  · cases e
    refine .inr ⟨g, sl, _, st, eA, fun g1 H1 vs S n1 st1 r1 f1 => ?_⟩
    obtain ⟨v, rfl, _, r1⟩ := r1.one
    cases r1 with
    | tup h1 h2 => exact ⟨_, _, rfl, SqT.of (st1.ex _ _ h1), k g1 H1 _ [] n1 st1 (fun _ h => nomatch h) (ir_enumT (SqT.of h1) h2)⟩
  · cases e
    refine .inl ⟨g, sl, _, st, eA, fun g1 H1 vs S n1 st1 r1 f1 => ?_⟩
    obtain ⟨v, rfl, _, a, ws, rfl, h1, h2⟩ := r1.one
    exact ⟨_, _, rfl, ex_l st1.ex h1, k g1 H1 _ [] n1 st1 (fun _ h => nomatch h) (ir_enum (fun g2 H2 e1 e2 _ => ex_l e2 (ex_l e1 h1)) h2)⟩
  · cases e
    refine .inr ⟨g, sl, _, st, eA, fun g1 H1 vs S n1 st1 r1 f1 => ?_⟩
    obtain ⟨v, rfl, _, a, ws, rfl, h1, h2⟩ := r1.one
    exact ⟨_, _, rfl, ex_t st1.ex h1, k g1 H1 _ [] n1 st1 (fun _ h => nomatch h) (ir_enumT h1 h2)⟩
  · split at e
    · rename_i m ds em
      cases e
      refine .inl ⟨g, sl, _, st, eA, fun g1 H1 vs S n1 st1 r1 f1 => ?_⟩
      obtain ⟨v, rfl, rq⟩ := r1.one
      obtain ⟨n2, st2, q⟩ := st1.frzT n1 f1 rq em
      cases q with
      | lst h1 h2 => exact ⟨_, _, rfl, SqL.of (st2.ex _ _ h1), k _ H1 _ [] n2 st2 (fun _ h => nomatch h) (ir_enum (fun g2 H2 e1 e2 _ => SqL.of (e2 _ _ (e1 _ _ h1))) h2)⟩
    · cases e
  · rename_i i
    split at e
    · rename_i ms e2
      obtain ⟨ds, e3, rfl⟩ := Option.map_eq_some_iff.mp e
      refine .inl ⟨g, sl, _, st, eA, fun g1 H1 vs S n1 st1 r1 f1 => ?_⟩
      obtain ⟨v, rfl, rq⟩ := r1.one
      obtain ⟨u, U, h1, h2, h3, h4⟩ := st1.w i _ e2
      rw [rq.2] at h1; cases h1
      cases h2 with
      | @lst a vs _ U' ha hr =>
        have hr0 := hr
        rw [lvs_eq e3] at hr
        refine ⟨_, _, rfl, SqL.of ha, k g1 H1 _ (a :: U') n1 st1 ⟨_, _, rq.2, by unfold wAt; rw [e2], .lst ha hr0, h3, h4⟩ (ir_enum (fun g2 H2 e1 e2 hh => SqL.of ((hh a List.mem_cons_self).trans ha)) hr.leaves.2)⟩
    · rename_i ms e2
      obtain ⟨ds, e3, rfl⟩ := Option.map_eq_some_iff.mp e
      refine .inl ⟨g, sl, _, st, eA, fun g1 H1 vs S n1 st1 r1 f1 => ?_⟩
      obtain ⟨v, rfl, rq⟩ := r1.one
      obtain ⟨u, U, ⟨h1, _⟩, h2, h3, h4⟩ := st1.p i _ e2
      rw [rq.2] at h1; cases h1
      cases h2 with
      | @lst a vs _ U' ha hr =>
        have hr0 := hr
        rw [lvs_eq e3] at hr
        refine ⟨_, _, rfl, SqL.of ha, k g1 H1 _ (a :: U') n1 st1 ⟨_, _, rq.2, by unfold wAt; rw [e2], .lst ha hr0, h3, h4⟩ (ir_enum (fun g2 H2 e1 e2 hh => SqL.of ((hh a List.mem_cons_self).trans ha)) hr.leaves.2)⟩
    · rename_i ms e2
      obtain ⟨ds, e3, rfl⟩ := Option.map_eq_some_iff.mp e
      refine .inl ⟨g, sl, _, st, eA, fun g1 H1 vs S n1 st1 r1 f1 => ?_⟩
      obtain ⟨v, rfl, rq⟩ := r1.one
      obtain ⟨u, U, ⟨h1, _⟩, h2, h3, h4⟩ := st1.k i _ e2
      rw [rq.2] at h1; cases h1
      cases h2 with
      | @lst a vs _ U' ha hr =>
        rw [lvs_eq e3] at hr
        exact ⟨_, _, rfl, SqL.of ha, k g1 H1 _ (a :: U') n1 st1 (fun b hb => st1.ro b ⟨_, h4 b hb⟩) (ir_enum (fun g2 H2 e1 e2 hh => SqL.of ((hh a List.mem_cons_self).trans ha)) hr.leaves.2)⟩
    · cases e
  · cases e
end
/-! ### one expression by two rules; in, places by what stands there -/
theorem pe_or2 {X : Cx} {e : Expr} {t u : TE} (h1 : PE X e t) (h2 : PE X e u) : PE X e (fun σ H Q => t σ H Q ∨ u σ H Q) := ⟨fun pins s σ H Q I h => h.elim (h1.run pins s σ H Q I) (h2.run pins s σ H Q I)⟩
theorem pt_or2 {X : Cx} {e : Expr} {t u : TT} (h1 : PT X e t) (h2 : PT X e u) : PT X e (fun σ H Q => t σ H Q ∨ u σ H Q) := ⟨fun pins s σ H Q I h => h.elim (h1.run pins s σ H Q I) (h2.run pins s σ H Q I)⟩
theorem ps_or2 {X : Cx} {e : Stmt} {t u : TS} (h1 : PS X e t) (h2 : PS X e u) : PS X e (fun D σ H => t D σ H ∨ u D σ H) := ⟨fun pins s σ H D I h => h.elim (h1.run pins s σ H D I) (h2.run pins s σ H D I)⟩
/-- .. or a child that is one -/
def isDct (s : SL) (t : TV) : Bool := match vw s t with
  | some (.dK _) => true
  | some (.dT _) => true
  | _ => false
def inDct (s : SL) (t : TV) : Bool := match t with
  | .sub _ _ j m => match kid m j with
    | some (.dK _) => true
    | some (.dT _) => true
    | _ => false
  | t => isDct s t
/-- by what the second value is -/
def oIn2 (neg : Bool) : O2 := fun s x y => if inDct s y = true then vR (oDIn neg) s x y else vR (oIn neg) s x y
/-- by what the first value is -/
def oIxS : O2 := fun s x y => match oIx s x y with
  | some r => some r
  | none => oSubL s x y
def oIx1 : O2 := fun s x y => if isDct s x = true then oDGet s x y else oIxS s x y
def oIx2 : O2 := vL oIx1
theorem op_split {s : SL} {A B : AE} {o p q : O2} {r : Res TV} (h : aOp o A B s = some r) (ho : ∀ s x y, o s x y = p s x y ∨ o s x y = q s x y) : aOp p A B s = some r ∨ aOp q A B s = some r := by
  unfold aOp bd at h ⊢
  cases eA : A s with
  | none => rw [eA] at h; cases h
  | some a =>
    rw [eA] at h
    cases a with
    | ex xa s1 => exact .inl h
    | ok x s1 =>
      dsimp only at h ⊢
      cases eB : B s1 with
      | none => rw [eB] at h; cases h
      | some b =>
        rw [eB] at h
        cases b with
        | ex xa s2 => exact .inl h
        | ok y s2 =>
          dsimp only at h ⊢
          rcases ho s2 x y with e | e
          · left; rw [← e]; exact h
          · right; rw [← e]; exact h
section
variable {X : Cx} {W : WX} {pos : Pos} {a b : Expr} {A B : AE}
theorem split_eL {o p q : O2} (ho : ∀ s x y, o s x y = p s x y ∨ o s x y = q s x y) (σ : L2.St) (H : Hp) (Q : VK) (h : eL X.K W (aOp o A B) σ H Q) : eL X.K W (aOp p A B) σ H Q ∨ eL X.K W (aOp q A B) σ H Q := by
  obtain ⟨g, sl, r, st, e, k⟩ := h
  exact (op_split e ho).imp (fun e => ⟨g, sl, r, st, e, k⟩) fun e => ⟨g, sl, r, st, e, k⟩
theorem split_tL {o p q : O2} (ho : ∀ s x y, o s x y = p s x y ∨ o s x y = q s x y) (σ : L2.St) (H : Hp) (Q : Bool → Hp → Prop) (h : tL X.K W (aB (aOp o A B)) σ H Q) : tL X.K W (aB (aOp p A B)) σ H Q ∨ tL X.K W (aB (aOp q A B)) σ H Q := by
  obtain ⟨g, sl, r, st, e, k⟩ := h
  have : aB (aOp p A B) sl = some r ∨ aB (aOp q A B) sl = some r := by
    unfold aB at e ⊢
    cases eo : aOp o A B sl with
    | none => rw [eo] at e; cases e
    | some r' =>
      rcases op_split eo ho with h | h
      · left; rw [h, ← eo]; exact e
      · right; rw [h, ← eo]; exact e
  exact this.imp (fun e => ⟨g, sl, r, st, e, k⟩) fun e => ⟨g, sl, r, st, e, k⟩
theorem in_split (neg : Bool) : ∀ s x y, oIn2 neg s x y = vR (oDIn neg) s x y ∨ oIn2 neg s x y = vR (oIn neg) s x y := fun s x y => by
  unfold oIn2
  split
  · exact .inl rfl
  · exact .inr rfl
theorem co_ixS {K : PySem.W.Frag} : Co2 K (rIxA K) oIxS := by
  intro g0 H0 g H σ sl x y tx ty S T tv sl' Q n st rx fx ry fy ap h k
  unfold oIxS at h
  split at h
  · rename_i r e
    cases h
    exact co_Ix g0 H0 g H σ sl x y tx ty S T tv sl' Q n st rx fx ry fy ap e k
  · exact co_subL g0 H0 g H σ sl x y tx ty S T tv sl' Q n st rx fx ry fy ap h k
theorem ix_split : ∀ s x y, oIx2 s x y = vL oDGet s x y ∨ oIx2 s x y = vL oIxS s x y := fun s x y => by
  have one : ∀ s x y, oIx1 s x y = oDGet s x y ∨ oIx1 s x y = oIxS s x y := fun s x y => by
    unfold oIx1
    split
    · exact .inl rfl
    · exact .inr rfl
  unfold oIx2 vL
  split
  · rename_i p i j m
    cases e : kid m j with
    | none => exact .inl rfl
    | some c =>
      rcases one (s ++ [some (.w c)]) (.var s.length) y with h | h
      · left; show closeT _ _ _ _ _ _ = closeT _ _ _ _ _ _; rw [h]
      · right; show closeT _ _ _ _ _ _ = closeT _ _ _ _ _ _; rw [h]
  · exact one _ _ _
theorem e_dinV (hu : X.A.units + 1 < cLine) (ha : PE X a (eL X.K W A)) (hb : PE X b (eL X.K W B)) (hm : behindInMarks .In b = false) : PE X (.Compare a [.In] [b] pos) (eL X.K W (aOp (vR (oDIn false)) A B)) := e_pc (pc_din hu ha hb) (op_lift (co_vR co_din)) hm
theorem e_dnotinV (hu : X.A.units + 1 < cLine) (ha : PE X a (eL X.K W A)) (hb : PE X b (eL X.K W B)) (hm : behindInMarks .NotIn b = false) : PE X (.Compare a [.NotIn] [b] pos) (eL X.K W (aOp (vR (oDIn true)) A B)) := e_pc (pc_dnotin hu ha hb) (op_lift (co_vR co_dnot)) hm
theorem t_dinV (hu : X.A.units + 1 < cLine) (ha : PE X a (eL X.K W A)) (hb : PE X b (eL X.K W B)) (hm : behindInMarks .In b = false) : PT X (.Compare a [.In] [b] pos) (tL X.K W (aB (aOp (vR (oDIn false)) A B))) := t_pc (pc_din hu ha hb) (op_lift (co_vR co_din)) hm
theorem t_dnotinV (hu : X.A.units + 1 < cLine) (ha : PE X a (eL X.K W A)) (hb : PE X b (eL X.K W B)) (hm : behindInMarks .NotIn b = false) : PT X (.Compare a [.NotIn] [b] pos) (tL X.K W (aB (aOp (vR (oDIn true)) A B))) := t_pc (pc_dnotin hu ha hb) (op_lift (co_vR co_dnot)) hm
theorem e_in (hu : X.A.units + 65 < cLine) (ha : PE X a (eL X.K W A)) (hb : PE X b (eL X.K W B)) (hm : behindInMarks .In b = false := by rfl) : PE X (.Compare a [.In] [b] pos) (eL X.K W (aOp (oIn2 false) A B)) :=
  PEm (pe_or2 (e_dinV (by omega) ha hb hm) (e_cmp (op_In hu) (co_vR co_In) ha hb hm)) (split_eL (in_split false))
theorem e_notin (hu : X.A.units + 65 < cLine) (ha : PE X a (eL X.K W A)) (hb : PE X b (eL X.K W B)) (hm : behindInMarks .NotIn b = false := by rfl) : PE X (.Compare a [.NotIn] [b] pos) (eL X.K W (aOp (oIn2 true) A B)) :=
  PEm (pe_or2 (e_dnotinV (by omega) ha hb hm) (e_cmp (op_NotIn hu) (co_vR co_NotIn) ha hb hm)) (split_eL (in_split true))
theorem t_in (hu : X.A.units + 65 < cLine) (ha : PE X a (eL X.K W A)) (hb : PE X b (eL X.K W B)) (hm : behindInMarks .In b = false := by rfl) : PT X (.Compare a [.In] [b] pos) (tL X.K W (aB (aOp (oIn2 false) A B))) :=
  PTm (pt_or2 (t_dinV (by omega) ha hb hm) (t_cmp (op_In hu) (co_vR co_In) ha hb hm)) (split_tL (in_split false))
theorem t_notin (hu : X.A.units + 65 < cLine) (ha : PE X a (eL X.K W A)) (hb : PE X b (eL X.K W B)) (hm : behindInMarks .NotIn b = false := by rfl) : PT X (.Compare a [.NotIn] [b] pos) (tL X.K W (aB (aOp (oIn2 true) A B))) :=
  PTm (pt_or2 (t_dnotinV (by omega) ha hb hm) (t_cmp (op_NotIn hu) (co_vR co_NotIn) ha hb hm)) (split_tL (in_split true))
theorem e_sub (hu : X.A.units + 65 < cLine) (ha : PE X a (eL X.K W A)) (hb : PE X b (eL X.K W B)) (hs : NoSl b) (hs2 : PlainIx b) : PE X (.Subscript a b pos) (eL X.K W (aOp oIx2 A B)) :=
  PEm (pe_or2 (PEm (pe_dget (by omega) ha hb hs) (op_lift (co_vL co_dget))) (e_ix ix_A (co_vL co_ixS) ha hb hs2)) (split_eL ix_split)
end
/-- a store by place or by key -/
def aPut (A O I : AE) : AS := fun s => match aSetL A O I s with
  | some r => some r
  | none => aDPut A O I s
theorem s_put {X : Cx} {W : WX} {pos p2 : Pos} {e o i : Expr} {A O I : AE} (hu : X.A.units + 65 < cLine) (he : PE X e (eL X.K W A)) (ho : PE X o (eL X.K W O)) (hi : PE X i (eL X.K W I))
    (ha : ∀ v, assign (.Subscript o i p2) X.env v = (do
      let ov ← holding [v] (eval o X.env)
      let iv ← holding [v, ov] (eval i X.env)
      standAt p2
      holding [v, ov, iv] (setItem ov iv v)
      release [v, ov, iv] []) := by intro _; rfl)
    (hs0 : swapsWith e (some (.Subscript o i p2)) pos.line X.env = pure false := by rfl)
    (hs : swapsWithSole [.Subscript o i p2] e pos.line X.env = pure false := by rfl) (hw : swappedStores [.Subscript o i p2] e X.env = pure none := by rfl)
    (h1 : (assignEach [.Subscript o i p2] X.env).map (·.2) = [assign (.Subscript o i p2) X.env] := by rfl) : PS X (.Assign [.Subscript o i p2] e pos) (sL X.K W (aPut A O I)) :=
  PSm (ps_or2 (s_setL he ho hi ha hs hw h1) (s_dput (by omega) ho hi he hs0)) fun D σ H ⟨g, sl, r, st, e, k⟩ => by
    unfold aPut at e
    split at e
    · rename_i r' er
      cases e
      exact .inl ⟨g, sl, _, st, er, k⟩
    · exact .inr ⟨g, sl, _, st, e, k⟩
end Y

/-! Layer Y, part P: what the printed texts use besides. -/
namespace Y
open PySem PySem.Spec PyProof.Rows L2 Evl
theorem _root_.L2.Room.units1 {k : Nat} {A : Around} (r : L2.Room k A) : A.units + 65 < cLine := by have := r.un; omega
/-- a value frozen -/
def aFz (A : AE) : AE := fun s => bd (A s) fun t s1 => (fz s1 t).map fun r => .ok (.d r.1) r.2
section
variable {X : Cx} {W : WX} {e : Expr} {A : AE} {S : AS} {pos : Pos}
theorem e_fz (h : PE X e (eL X.K W A)) : PE X e (eL X.K W (aFz A)) := PEm h fun σ H Q ⟨g, sl, res, st, e, k⟩ => run1 (R := RV X.K) st e k.x fun tx s1 g1 H1 v U e1 n1 st1 r1 f1 => by
  obtain ⟨⟨x, s2⟩, h1, rfl⟩ := Option.map_eq_some_iff.mp e1
  obtain ⟨g2, n2, st2, q⟩ := fz_ok n1 f1 st1 r1 h1
  exact k g2 H1 v [] n2 st2 ⟨rfl, q⟩ (Fresh.nil _ _)
theorem ss_killE (is : List Nat) {sts : List Stmt} (h : PSs X sts (sL X.K W S)) : PSs X sts (sL X.K W (aSeq S (aKill is))) := PSsm h fun D σ H ⟨g, sl, r, st, e, k⟩ => by
  unfold aSeq at e
  cases eS : S sl with
  | none => rw [eS] at e; cases e
  | some q =>
    rw [eS] at e
    cases q with
    | nx s1 =>
      cases e
      exact ⟨g, sl, _, st, eS, fun g1 H1 σ1 n1 st1 => k g1 H1 σ1 n1 (st1.kill is)⟩
    | bk s1 => cases e; exact ⟨g, sl, _, st, eS, k⟩
    | ct s1 => cases e; exact ⟨g, sl, _, st, eS, k⟩
    | rt t s1 => cases e; exact ⟨g, sl, _, st, eS, k⟩
    | ex t s1 => cases e; exact ⟨g, sl, _, st, eS, k⟩
end
end Y

/-! Layer Y, part Q: sorted. -/
namespace Y
open PySem PySem.Spec PyProof.Rows L2 Evl
/-! ### sorted -/
theorem reads_alive {h : Heap} {v : Value} {d : D} {as : List Addr} (r : Reads h v d as) : ∀ a ∈ as, ∃ o, h.get? a = some o := by
  refine Reads.rec (h := h) (motive_1 := fun v d as _ => ∀ a ∈ as, ∃ o, h.get? a = some o) (motive_2 := fun vs ds as _ => ∀ a ∈ as, ∃ o, h.get? a = some o) ?_ ?_ ?_ ?_ ?_ ?_ ?_ ?_ ?_ r
  · intro a h; cases h
  · intro _ a h; cases h
  · intro _ _ a h; cases h
  · intro _ _ a h; cases h
  · intro a o vs n xs as h1 h2 h3 h4 ih b hb
    rcases List.mem_cons.mp hb with e | e
    · subst e; exact ⟨o, h1⟩
    · exact ih b e
  · intro a o vs n xs as h1 h2 h3 h4 ih b hb
    exact ih b hb
  · intro a o es n kvs as bs h1 h2 h3 h4 h5 i1 i2 b hb
    rcases List.mem_append.mp hb with e | e
    · rcases List.mem_cons.mp e with e | e
      · subst e; exact ⟨o, h1⟩
      · exact i1 b e
    · exact i2 b e
  · intro a h; cases h
  · intro v vs d ds as bs h1 h2 i1 i2 b hb
    rcases List.mem_append.mp hb with e | e
    · exact i1 b e
    · exact i2 b e
section
open PySem.W
variable {X : Cx}
theorem vals_each : ∀ {us : List Value} {bs : List (V × D)}, Vals (bs.map (·.1)) us → EachIs (fun u (b : V × D) => RelV b.1 u) us bs
  | [], [], _ => .nil
  | u :: us, b :: bs, .cons r t => .cons r (vals_each t)
theorem each_vals : ∀ {us : List Value} {bs : List (V × D)}, EachIs (fun u (b : V × D) => RelV b.1 u) us bs → Vals (bs.map (·.1)) us
  | [], [], _ => .nil
  | u :: us, b :: bs, .cons r t => .cons r (each_vals t)
theorem each_mem {α β : Type} {R S : α → β → Prop} : ∀ {us : List α} {bs : List β}, EachIs R us bs → (∀ u b, b ∈ bs → R u b → S u b) → EachIs S us bs
  | _, _, .nil, _ => .nil
  | _, _, .cons r t, k => .cons (k _ _ (List.mem_cons_self ..) r) (each_mem t fun u b hb => k u b (List.mem_cons_of_mem _ hb))
def rSortedD (K : PySem.W.Frag) : List V → Hp → VK → Prop := fun vs H Q => ∃ (a : Addr) (bs : List (V × D)), vs = [.ref a] ∧ SqL K H a (bs.map (·.1)) ∧ (∀ b ∈ bs, Dp K H b.1 b.2) ∧ AllAlike (bs.map (·.2)) ∧ Sortable (bs.map (·.2)) ∧ (∀ b ∈ bs, b.2.depth ≤ 60) ∧
  ∀ p, H p = none → Q (.ref p) (upd H p (.lst ((bs.mergeSort (dataLe false (fun b => b.2))).map (·.1))))
theorem cr_sortedD (hu : X.A.units + 65 < cLine) : CallR X (.builtin "sorted") (rSortedD X.K) := by
  intro pins s σ H vs us Q I r h
  obtain ⟨a, bs, rfl, hs, hd, hal, hk, hdp, q⟩ := h
  obtain ⟨its, rv, hl, hz⟩ := I.list hs
  rw [Vals.ref1 r]
  have e := vals_each rv
  have hlen : its.length = bs.length := e.length
  have er : EachIs (fun u (b : V × D) => ∃ as, Reads s.heap u b.2 as) its bs := each_mem e fun u b hb hr => Dp.reads I b.2 b.1 u (hd b hb) hr
  rw [List.length_map] at hz
  refine sorted_data (R := fun u (b : V × D) => RelV b.1 u) hl.isList e er hal hk hz (fun b hb => by have := hdp b hb; omega) fun out h1 h2 => ?_
  obtain ⟨ep, he'⟩ := PyProof.Rows.sortedAll_at s.heap its out.toArray
  have hz2 : ((bs.mergeSort (dataLe false (fun b => b.2))).map (·.1)).length ≤ sizeLine := by rw [List.length_map, List.length_mergeSort]; exact hz
  exact ⟨.ref _, upd H (s.heap.objs.size + 1) (.lst ((bs.mergeSort (dataLe false (fun b => b.2))).map (·.1))), I.laid (t' := s.toks) (fun _ _ => PyProof.Rows.sortedAll_old) (Nat.le_succ _) ⟨hz2, out, ep, each_vals h2, he'⟩, rfl, q _ (I.hok.fresh (Nat.le_succ _))⟩
end
def kT (ks : List Key) : D := .tuple (ks.map kD)
theorem kD_depth (k : Key) : (kD k).depth = 0 := by cases k <;> rfl
theorem kT_depth (ks : List Key) : (kT ks).depth ≤ 60 := by
  have : PyData.depthAll (ks.map kD) ≤ 0 := by
    induction ks with
    | nil => exact Nat.le_refl _
    | cons k r ih =>
      rw [List.map_cons, PyData.depthAll, kD_depth]
      exact Nat.max_le.mpr ⟨Nat.le_refl _, ih⟩
  unfold kT
  rw [PyData.depth]
  omega
theorem dp_kT {K : PySem.W.Frag} {H : Hp} {ks : List Key} {b : Addr} (h : H b = some (.tup (ks.map kV))) : Dp K H (.ref b) (kT ks) :=
  .tup (SqT.of h) (RDs.dp (K := K) (kDs_rd (K := K) H ks))
def IsKeysL (H : Hp) (ks : List (List Key)) (bs : List Addr) : Prop := Paired (fun k b => H b = some (.tup (k.map kV))) ks bs
section
open PySem.W
variable {X : Cx}
def rSortedDT : List V → Hp → VK → Prop := fun xs H Q => ∃ (d : Addr) (kvs : List (List Key × V)), xs = [V.ref d] ∧ Rd H d (.dT kvs) ∧ AllAlike (kvs.map fun p => kT p.1) ∧ Sortable (kvs.map fun p => kT p.1) ∧
  ∀ p bs, H p = none → IsKeysL H ((kvs.map (·.1)).mergeSort (dataLe false kT)) bs → Q (.ref p) (upd H p (.lst (bs.map V.ref)))
theorem each_refs : ∀ {bs : List (List Key × Addr)} {out : List Value}, EachIs (fun u (b : List Key × Addr) => u = Value.ref b.2) out bs → out = bs.map fun b => Value.ref b.2
  | _, _, .nil => rfl
  | _, _, .cons e t => by rw [List.map_cons, e, each_refs t]
theorem refs_each : ∀ bs : List (List Key × Addr), EachIs (fun u (b : List Key × Addr) => u = Value.ref b.2) (bs.map fun b => Value.ref b.2) bs
  | [] => .nil
  | _ :: r => .cons rfl (refs_each r)
theorem keysL_of {H : Hp} : ∀ {bs : List (List Key × Addr)}, (∀ b ∈ bs, H b.2 = some (.tup (b.1.map kV))) → IsKeysL H (bs.map (·.1)) (bs.map (·.2))
  | [], _ => .nil
  | b :: r, h => .cons (h b (List.mem_cons_self ..)) (keysL_of fun x hx => h x (List.mem_cons_of_mem _ hx))
theorem kt_keys {H : Hp} {kvs : List (List Key × V)} {xs : List (List Key × Addr × Value)} (r : KT H kvs xs) : kvs.map (·.1) = xs.map (·.1) ∧ ∀ x ∈ xs, H x.2.1 = some (.tup (x.1.map kV)) := by
  induction r with
  | nil => exact ⟨rfl, fun x h => absurd h List.not_mem_nil⟩
  | cons h t ih =>
    refine ⟨by rw [List.map_cons, List.map_cons, ih.1, h.1], fun x hx => ?_⟩
    rcases List.mem_cons.mp hx with e | e
    · subst e
      rw [← h.1]
      exact h.2.1
    · exact ih.2 x e
theorem cr_sortedDT (hc : X.calm = true) (hu : X.A.units + 65 < cLine) : CallR X (.builtin "sorted") rSortedDT := by
  intro pins s σ H xs us Q I r h
  obtain ⟨d, kvs, rfl, hd, hal, hk, q⟩ := h
  obtain ⟨u, rfl, rx⟩ := r.one
  cases rx
  obtain ⟨z, hs, ks, pr, o, es, ep, ho, hx, hdt, he, hn⟩ := (show ObjOk X.prog X.w H s.heap d (.dT kvs) from hd.ok I.hok)
  have l1 : es.size = ks.length := size_of_entries he
  have l2 : kvs.length = ks.length := Paired.length pr
  obtain ⟨kk, kh⟩ := kt_keys pr
  refine Calls.call_function_entry PyProof.Rows.kind_sorted PyProof.Rows.plain_sorted PyProof.Rows.entry_sorted (PyProof.Rows.args_sorted1 _) ?_
  unfold Builtin.«sorted»
  refine wpAny_bind (m := checkCount "sorted" 1 1 _) (wpAny_pure ?_)
  refine wpAny_bind (PySem.W.kdu_collect (A := X.A.in1) (kdl_raw hs hx hdt) (I.ok.hd hc) ho (by omega) fun h' tk acc hkp it => ?_)
  have hl : acc.toList.length = ks.length := by rw [Array.length_toList, it.1]; exact l1
  have ea : acc.toList = ks.map fun x => Value.ref x.2.1 := by
    apply List.ext_getElem?
    intro j
    rw [List.getElem?_map]
    cases hj : acc.toList[j]? with
    | none =>
      have h1 := List.getElem?_eq_none_iff.mp hj
      rw [List.getElem?_eq_none (by omega)]
      all_goals rfl
    | some v =>
      obtain ⟨en, hen, hv⟩ := it.2 j v (by rw [← Array.getElem?_toList]; exact hj)
      have qe := entry_at he j
      rw [hen] at qe
      cases hb : ks[j]? with
      | none =>
        rw [hb] at qe
        exact nomatch (show some en = none from qe)
      | some b =>
        rw [hb] at qe
        have e2 : en = entryOfKey (tupleKind (mixKind X.prog X.w)) b := Option.some.inj qe
        rw [hv, e2]
        all_goals rfl
  let bs : List (List Key × Addr) := ks.map fun x => (x.1, x.2.1)
  have eb : acc.toList = bs.map fun b => Value.ref b.2 := by rw [ea]; show _ = (ks.map fun x => (x.1, x.2.1)).map _; rw [List.map_map]; rfl
  have e1 : kvs.map (·.1) = bs.map (·.1) := by rw [kk]; show _ = (ks.map fun x => (x.1, x.2.1)).map _; rw [List.map_map]; rfl
  have hb : ∀ b ∈ bs, H b.2 = some (.tup (b.1.map kV)) := fun b hb => by
    obtain ⟨x, hx, rfl⟩ := List.mem_map.mp hb
    exact kh x hx
  have I1 : Inv X pins σ H { s with heap := h', toks := tk } := I.kept hkp
  refine wpAny_bind (wpAny_newList ?_ (by rw [hl]; omega))
  have hoL : (h'.push (seqObj "list" acc.toList.toArray 0)).get? h'.objs.size = some (seqObj "list" acc.toList.toArray 0) := Heap.get?_push_size _ rfl
  show wpAny _ _ _ _ _ { s with heap := h'.push (seqObj "list" acc.toList.toArray 0), toks := tk }
  have er : EachIs (fun u (b : List Key × Addr) => ∃ as, Reads (h'.push (seqObj "list" acc.toList.toArray 0)) u (kT b.1) as ∧ h'.objs.size ∉ as) acc.toList bs := by
    rw [eb]
    refine each_mem (refs_each bs) fun u b hbm eu => ?_
    subst eu
    obtain ⟨as, ra⟩ := Dp.reads I1 (kT b.1) (.ref b.2) (.ref b.2) (dp_kT (hb b hbm)) rfl
    refine ⟨as, PyProof.Rows.Reads.keeps (fun _ _ e => Heap.get?_push_of_some _ e) ra, fun hm => ?_⟩
    obtain ⟨o', ho'⟩ := reads_alive ra _ hm
    exact absurd (Heap.lt_size ho') (Nat.lt_irrefl _)
  have hlb : bs.length = ks.length := List.length_map _
  have ha2 : (kvs.map fun p => kT p.1) = bs.map fun b => kT b.1 := by
    have := congrArg (List.map kT) e1
    rw [List.map_map, List.map_map] at this
    exact this
  refine wpAny_bind (wpAny_holding (list_sort_data (R := fun u (b : List Key × Addr) => u = Value.ref b.2) (enc := fun b => kT b.1) (s := { s with heap := h'.push (seqObj "list" acc.toList.toArray 0), toks := tk }) hoL (eb ▸ refs_each bs) er (ha2 ▸ hal) (ha2 ▸ hk) (by omega)
    (fun b _ => by have := kT_depth b.1; show X.A.units + 1 + 1 + (kT b.1).depth < cLine; omega) fun out g1 g2 => ?_))
  have eo := each_refs g2
  obtain ⟨e', he'⟩ := PyProof.Rows.sortedHeap_at (vs := acc.toList) (out := out.toArray) hoL
  let sb := bs.mergeSort (dataLe false fun b => kT b.1)
  have hsb : ∀ b ∈ sb, H b.2 = some (.tup (b.1.map kV)) := fun b hm => hb b (List.mem_mergeSort.mp hm)
  have hso : sb.map (·.1) = (kvs.map (·.1)).mergeSort (dataLe false kT) := by
    rw [e1]
    exact List.map_mergeSort (fun _ _ _ _ => rfl)
  have hlen : ((sb.map (·.2)).map V.ref).length ≤ sizeLine := by
    rw [List.length_map, List.length_map]
    show (bs.mergeSort _).length ≤ _
    rw [List.length_mergeSort]
    omega
  have hv : Vals ((sb.map (·.2)).map V.ref) out := by
    rw [eo]
    have := vals_refs (sb.map (·.2))
    rw [show (sb.map (·.2)).map Value.ref = sb.map fun b => Value.ref b.2 by rw [List.map_map]; rfl] at this
    exact this
  refine wpAny_pure ⟨_, rfl, .ref h'.objs.size, upd H h'.objs.size (.lst ((sb.map (·.2)).map V.ref)), I1.laid (t' := tk) (fun b u e => ?_) (Nat.le_refl _)
    (show ObjOk X.prog X.w _ _ _ (.lst ((sb.map (·.2)).map V.ref)) from ⟨hlen, out, e', hv, he'⟩), rfl, q _ _ (I1.hok.fresh (Nat.le_refl _)) (hso ▸ keysL_of hsb)⟩
  have hb' : b < h'.objs.size := Heap.lt_size e
  rw [PyProof.Rows.sortedHeap_old (Nat.ne_of_lt hb') (by rw [size_push']; exact Nat.lt_succ_of_lt hb')]
  exact Heap.get?_push_of_some _ e
end

/-! ### at the layer -/
open PySem.W
def SrtOk (ds : List D) : Prop := AllAlike ds ∧ Sortable ds ∧ ∀ d ∈ ds, d.depth ≤ 60
noncomputable def srt (ds : List D) : List D := ds.mergeSort (dataLe false fun d => d)
open Classical in
noncomputable def srtL (ds : List D) (sl : SL) : Option (TV × SL) := if SrtOk ds then some (.t (.lst ((srt ds).map MV.d)), sl) else none
def intKs : List Key → Option (List Int)
  | [] => some []
  | .inl i :: r => (intKs r).map (i :: ·)
  | _ :: _ => none
def srtI (ns : List Int) : List Int := ns.mergeSort fun a b => decide (a ≤ b)
noncomputable def oSorted1 : O1 := fun sl ts => match ts with
  | [x] => match vw sl x with
    | some (.dT kvs) => srtL (kvs.map fun p => kT p.1) sl
    | some (.dK kvs) => (intKs (kvs.map (·.1))).bind fun ns => if ns.length < 64 then some (.t (.lst ((srtI ns).map fun i => MV.d (.int i))), sl) else none
    | _ => ((seqL sl x).bind lvs).bind fun ds => srtL ds sl
  | _ => none
noncomputable def oSorted : O1 := vA oSorted1
section
variable {K : PySem.W.Frag}
theorem RDs.len2 {F : Hp} : ∀ {vs : List V} {ds : List D}, RDs K F vs ds → ∀ b ∈ vs.zip ds, RD K F b.1 b.2
  | _, _, .nil, b, h => by cases h
  | _, _, .cons r t, b, h => by
    rw [List.zip_cons_cons] at h
    rcases List.mem_cons.mp h with e | e
    · subst e; exact r
    · exact RDs.len2 t b e
theorem rds_of {F : Hp} : ∀ {bs : List (V × D)}, (∀ b ∈ bs, RD K F b.1 b.2) → RDs K F (bs.map (·.1)) (bs.map (·.2))
  | [], _ => .nil
  | b :: r, h => .cons (h b (List.mem_cons_self ..)) (rds_of fun x hx => h x (List.mem_cons_of_mem _ hx))
theorem sort_snd (bs : List (V × D)) : (bs.mergeSort (dataLe false (fun b => b.2))).map (·.2) = (bs.map (·.2)).mergeSort (dataLe false (fun d => d)) :=
  List.map_mergeSort (fun _ _ _ _ => rfl)
/-- keys of tuples, taken in as data -/
theorem Sta.takeF {H : Hp} {σ : L2.St} {sl : SL} {g0 : G} {H0 : Hp} : ∀ {ks : List (List Key)} {bs : List Addr} {g : G}, Nx g0 H0 g H → Sta K g H σ sl → IsKeysL H ks bs → ∃ g', Nx g0 H0 g' H ∧ Sta K g' H σ sl ∧ RDs K g'.F (bs.map V.ref) (ks.map kT) ∧ Ex g.F g'.F
  | [], _, g, n, st, .nil => ⟨g, n, st, .nil, fun _ _ z => z⟩
  | k :: ks, b :: bs, g, n, st, .cons h t => by
    obtain ⟨g1, n1, st1, hb, ex1, _⟩ := st.tupF n h
    obtain ⟨g2, n2, st2, rs, ex2⟩ := Sta.takeF n1 st1 t
    exact ⟨g2, n2, st2, .cons (.tup (ex2 _ _ hb) (kDs_rd _ k)) rs, fun a o z => ex2 a o (ex1 a o z)⟩
def rSortI : List V → Hp → VK → Prop := fun xs H Q => ∃ (a : Addr) (kvs : List (Key × V)) (ks : List Int), xs = [.ref a] ∧ Rd H a (.dK kvs) ∧ kvs.map (·.1) = ks.map Sum.inl ∧ ks.length < 64 ∧
    ∀ (ys : List Int) (p : Addr), ys.Perm ks → ys.Pairwise (· ≤ ·) → H p = none → Q (.ref p) (upd H p (.lst (ys.map V.int)))
def rSortA (K : PySem.W.Frag) : List V → Hp → VK → Prop := fun xs H Q => rSortedD K xs H Q ∨ rSortedDT xs H Q ∨ rSortI xs H Q
theorem call_sortedA {X : Cx} (hu : X.A.units + 65 < cLine) (hc : X.calm = true := by rfl) : CallR X (.builtin "sorted") (rSortA X.K) := call_or (cr_sortedD hu) (call_or (cr_sortedDT hc hu) (call_sortedDI hc))
theorem srtL_ok {ds : List D} {sl s : SL} {tv : TV} (h : srtL ds sl = some (tv, s)) : SrtOk ds ∧ tv = .t (.lst ((srt ds).map MV.d)) ∧ s = sl := by
  unfold srtL at h
  split at h
  · rename_i h1; cases h; exact ⟨h1, rfl, rfl⟩
  · cases h
theorem intKs_eq : ∀ {ks : List Key} {ns : List Int}, intKs ks = some ns → ks = ns.map Sum.inl
  | [], _, h => by cases h; rfl
  | .inl i :: r, _, h => by
    obtain ⟨ms, h1, rfl⟩ := Option.map_eq_some_iff.mp (show (intKs r).map (i :: ·) = some _ from h)
    rw [List.map_cons, intKs_eq h1]
  | .inr _ :: _, _, h => by cases h
theorem srtI_uniq {ys ns : List Int} (h1 : ys.Perm ns) (h2 : ys.Pairwise (· ≤ ·)) : ys = srtI ns := by
  refine List.Perm.eq_of_pairwise (le := (· ≤ ·)) (fun a b _ _ h1 h2 => Int.le_antisymm h1 h2) h2 ?_ (h1.trans (List.mergeSort_perm _ _).symm)
  have := List.pairwise_mergeSort (le := fun a b : Int => decide (a ≤ b)) (fun a b c h1 h2 => decide_eq_true (Int.le_trans (of_decide_eq_true h1) (of_decide_eq_true h2))) (fun a b => by
    rcases Int.le_total a b with h | h
    · rw [decide_eq_true h]; rfl
    · rw [decide_eq_true h, Bool.or_true]) ns
  exact this.imp fun h => of_decide_eq_true h
theorem ints_rds (F : Hp) : ∀ ns : List Int, RDs K F (ns.map V.int) (ns.map PyData.int)
  | [] => .nil
  | i :: r => .cons (.int i) (ints_rds F r)
theorem co_sorted1 : CoC K (rSortA K) oSorted1 := by
  intro g0 H0 g H σ sl vs ts S tv sl' Q n st rs f h k
  unfold oSorted1 at h
  split at h
  · rename_i x
    obtain ⟨v, rfl, r⟩ := rs.one
    split at h
    · rename_i kvs e
      obtain ⟨ok, rfl, rfl⟩ := srtL_ok h
      obtain ⟨T, q⟩ := vw_ok st r e
      cases q with
      | @dT a kws _ U ha hk rs' =>
        have et : (kws.map fun p => kT p.1) = kvs.map fun p => kT p.1 := by
          have := congrArg (List.map kT) hk.1
          rw [List.map_map, List.map_map] at this
          exact this
        refine .inr (.inl ⟨a, kws, rfl, .inl ha, et ▸ ok.1, et ▸ ok.2.1, fun q bs hq hks => ?_⟩)
        obtain ⟨g1, n1, st1, rd, ex⟩ := Sta.takeF n st hks
        have es : ((kws.map (·.1)).mergeSort (dataLe false kT)).map kT = srt (kvs.map fun p => kT p.1) := by
          unfold srt
          rw [← et, show (kws.map fun p => kT p.1) = (kws.map (·.1)).map kT by rw [List.map_map]; rfl]
          exact List.map_mergeSort (fun _ _ _ _ => rfl)
        rw [es] at rd
        exact k.newL n1 st1 rd hq
    · rename_i kvs e
      obtain ⟨ns, e1, h⟩ := Option.bind_eq_some_iff.mp h
      split at h
      · rename_i hl
        cases h
        obtain ⟨T, q⟩ := vw_ok st r e
        cases q with
        | @dK a kws _ U ha hk rs' =>
          refine .inr (.inr ⟨a, kws, ns, rfl, .inl ha, hk.1.trans (intKs_eq e1), hl, fun ys p h1 h2 hp => ?_⟩)
          rw [srtI_uniq h1 h2]
          have k' : Kg K (RV K σ) σ Q g0 H0 (.t (.lst (((srtI ns).map PyData.int).map MV.d))) sl := by rw [List.map_map]; exact k
          exact k'.newL n st (ints_rds _ _) hp
      · cases h
    · obtain ⟨ds, e1, h⟩ := Option.bind_eq_some_iff.mp h
      obtain ⟨ms, e2, e3⟩ := Option.bind_eq_some_iff.mp e1
      obtain ⟨ok, rfl, rfl⟩ := srtL_ok h
      obtain ⟨a, ws, T, rfl, h1, h2⟩ := seqL_ok st r e2
      rw [lvs_eq e3] at h2
      have rd := h2.leaves.2
      have hl := rd.length
      have m1 : (ws.zip ds).map (·.1) = ws := List.map_fst_zip (by omega)
      have m2 : (ws.zip ds).map (·.2) = ds := List.map_snd_zip (by omega)
      refine .inl ⟨a, ws.zip ds, rfl, by rw [m1]; exact h1, fun b hb => dp_mono st.ex (RD.dp (rd.len2 b hb)), by rw [m2]; exact ok.1, by rw [m2]; exact ok.2.1, fun b hb => ok.2.2 b.2 (by rw [← m2]; exact List.mem_map_of_mem hb), fun q hq => ?_⟩
      have rr : RDs K g.F (((ws.zip ds).mergeSort (dataLe false (fun b => b.2))).map (·.1)) (srt ds) := by
        have := rds_of (K := K) (F := g.F) (bs := (ws.zip ds).mergeSort (dataLe false (fun b => b.2))) fun b hb => rd.len2 b (List.mem_mergeSort.mp hb)
        rw [sort_snd, m2] at this
        exact this
      exact k.newL n st rr hq
  · cases h
theorem co_sorted : CoC K (rSortA K) oSorted := co_vA co_sorted1
end
/-! bounds of // and ** as tests -/
def cDiv (i j : Int) : Bool := decide (0 < j) && decide (j < 1073741824)
theorem cDiv_ok : ∀ i j, cDiv i j = true → CDiv i j := fun i j h => by
  unfold cDiv at h
  rw [Bool.and_eq_true] at h
  exact ⟨of_decide_eq_true h.1, of_decide_eq_true h.2⟩
def cDivW (i j : Int) : Bool := decide (0 < j) && decide (j.natAbs.log2 < 9000)
theorem cDivW_ok : ∀ i j, cDivW i j = true → CDivW i j := fun i j h => by
  unfold cDivW at h
  rw [Bool.and_eq_true] at h
  exact ⟨of_decide_eq_true h.1, of_decide_eq_true h.2⟩
def cPow (i j : Int) : Bool := decide (0 ≤ j) && decide (j ≤ 1000000) && decide (i.natAbs < 2 ^ 64)
theorem cPow_ok : ∀ i j, cPow i j = true → CPow i j := fun i j h => by
  unfold cPow at h
  rw [Bool.and_eq_true, Bool.and_eq_true] at h
  exact ⟨of_decide_eq_true h.1.1, of_decide_eq_true h.1.2, of_decide_eq_true h.2⟩
end Y

/-! Layer Y, part R: <, min, max of data; dict.get. -/
namespace Y
open PySem PySem.Spec PyProof.Rows L2 Evl PySem.W
def rLtD (K : PySem.W.Frag) : R2 := fun x y H Q => ∃ d e, Dp K H x d ∧ Dp K H y e ∧ alike d e = true ∧ d ≠ .none ∧ d.depth ≤ 60 ∧ Q (.bl (dataLt d e)) H
theorem op_ltD {X : Cx} (hu : X.A.units + 65 < cLine) : OpR X (compareOp .Lt) (rLtD X.K) := by
  intro pins s σ H x y v u Q I rx ry h
  obtain ⟨d, e, hd, he, ha, hn, hz, q⟩ := h
  obtain ⟨as, r1⟩ := Dp.reads I d x v hd rx
  obtain ⟨bs, r2⟩ := Dp.reads I e y u he ry
  exact lt_data r1 r2 ha hn (by have := Nat.min_le_left d.depth e.depth; omega) ⟨.bl _, H, I, rfl, q⟩
def rLtA (K : PySem.W.Frag) : R2 := fun x y H Q => rLtS x y H Q ∨ rLtD K x y H Q
theorem op_LtA {X : Cx} (hu : X.A.units + 65 < cLine) : OpR X (compareOp .Lt) (rLtA X.K) := op_or op_Lt (op_ltD hu)
def nonB : D → Bool
  | .none => true
  | _ => false
def oLtA : O2 := fun s x y => match x, y with
  | .d (.int i), .d (.int j) => some (.d (.bool (decide (i < j))), s)
  | .d (.str i), .d (.str j) => some (.d (.bool (decide (i.cps.toList < j.cps.toList))), s)
  | x, y => (asD s x).bind fun d => (asD s y).bind fun e => if alike d e = true ∧ nonB d = false ∧ d.depth ≤ 60 then some (.d (.bool (dataLt d e)), s) else none
section
variable {K : PySem.W.Frag}
theorem co_LtA : Co2 K (rLtA K) oLtA := by
  intro g0 H0 g H σ sl x y tx ty S T tv sl' Q n st rx fx ry fy ap h k
  unfold oLtA at h
  split at h
  · rename_i i j
    exact .inl (co_Lt g0 H0 g H σ sl x y _ _ S T tv sl' Q n st rx fx ry fy ap (show oLtS sl (.d (.int i)) (.d (.int j)) = _ from h) k)
  · rename_i i j
    exact .inl (co_Lt g0 H0 g H σ sl x y _ _ S T tv sl' Q n st rx fx ry fy ap (show oLtS sl (.d (.str i)) (.d (.str j)) = _ from h) k)
  · obtain ⟨d, e1, h⟩ := Option.bind_eq_some_iff.mp h
    obtain ⟨e, e2, h⟩ := Option.bind_eq_some_iff.mp h
    split at h
    · rename_i hs
      cases h
      exact .inr ⟨d, e, asD_ok st rx e1, asD_ok st ry e2, hs.1, (fun z => by subst z; exact absurd hs.2.1 (by decide)), hs.2.2, k.scal n st (.bl _)⟩
    · cases h
end
/-! min, max of a list -/
section
variable {prog : Program} {w : World} {A : Around} {E : Value → Shared → Prop} {s : Shared}
theorem min_list_at {l : Addr} {vs : Array Value} {x : PyData} {xs : List PyData} {as : List Addr} {Q : Value → Shared → Prop} (hh : A.handled = none) (hl : s.heap.IsList l vs) (hr : ReadsAll s.heap vs.toList (x :: xs) as) (ha : AlikeAll (x :: xs)) (hu : A.units + 1 + PyData.depthAll (x :: xs) < cLine)
    (h : ∀ (i : Nat) v h' tk, vs[i]? = some v → (x :: xs).getD i .none = minD x xs → (∀ b o, s.heap.get? b = some o → h'.get? b = some o) → Q v { s with heap := h', toks := tk }) :
    wpAny (model prog w) A (call (.builtin "min") [.ref l]) Q E s := by
  have hn : vs.size = xs.length + 1 := readsAll_len hr
  refine call_min_walkH (iter_listW (A := A.in1) hh hl fun s₂ e W st hfp hw hk => ?_)
  refine ⟨_, _, _, _, _, _, _, s.heap, _, rfl, W, st, hfp, by omega, hw, hk, cmpIn_lt (A := A.in1) hr ha (by show A.units + 1 + _ < _; exact hu), fun v s' hP m => ?_⟩
  obtain ⟨h', tk, rfl, hk'⟩ := moved_old e rfl m
  have e1 : vs.size - 1 = xs.length := by omega
  have e2 := (argBest_fold dataLt PyData.none x xs xs.length (Nat.le_refl _)).2
  rw [List.take_length] at e2
  rw [e1] at hP
  exact h _ v h' tk hP (by unfold minD; rw [← e2]) hk'
theorem max_list_at {l : Addr} {vs : Array Value} {x : PyData} {xs : List PyData} {as : List Addr} {Q : Value → Shared → Prop} (hh : A.handled = none) (hl : s.heap.IsList l vs) (hr : ReadsAll s.heap vs.toList (x :: xs) as) (ha : AlikeAll (x :: xs)) (hu : A.units + 1 + PyData.depthAll (x :: xs) < cLine)
    (h : ∀ (i : Nat) v h' tk, vs[i]? = some v → (x :: xs).getD i .none = maxD x xs → (∀ b o, s.heap.get? b = some o → h'.get? b = some o) → Q v { s with heap := h', toks := tk }) :
    wpAny (model prog w) A (call (.builtin "max") [.ref l]) Q E s := by
  have hn : vs.size = xs.length + 1 := readsAll_len hr
  refine call_max_walkH (iter_listW (A := A.in1) hh hl fun s₂ e W st hfp hw hk => ?_)
  refine ⟨_, _, _, _, _, _, _, s.heap, _, rfl, W, st, hfp, by omega, hw, hk, cmpIn_gt (A := A.in1) hr ha (by show A.units + 1 + _ < _; exact hu), fun v s' hP m => ?_⟩
  obtain ⟨h', tk, rfl, hk'⟩ := moved_old e rfl m
  have e1 : vs.size - 1 = xs.length := by omega
  have e2 := (argBest_fold (fun y a => dataLt a y) PyData.none x xs xs.length (Nat.le_refl _)).2
  rw [List.take_length] at e2
  rw [e1] at hP
  exact h _ v h' tk hP (by unfold maxD; rw [← e2]) hk'
end
def rMinD (K : PySem.W.Frag) (f : D → List D → D) : List V → Hp → VK → Prop := fun xs H Q => ∃ (a : Addr) (vs : List V) (d : D) (ds : List D), xs = [.ref a] ∧ SqL K H a vs ∧ DpAll K H vs (d :: ds) ∧ AlikeAll (d :: ds) ∧ PyData.depthAll (d :: ds) ≤ 60 ∧
  ∀ (i : Nat) v, vs[i]? = some v → (d :: ds)[i]? = some (f d ds) → Q v H
section
variable {X : Cx}
theorem vals_at : ∀ {vs : List V} {us : List Value} {i : Nat} {u : Value}, Vals vs us → us[i]? = some u → ∃ v, vs[i]? = some v ∧ RelV v u
  | _, _, _, _, .nil, h => by simp at h
  | _, _, 0, _, .cons r t, h => by simp at h; subst h; exact ⟨_, rfl, r⟩
  | _, _, i + 1, _, .cons r t, h => by
    obtain ⟨v, h1, h2⟩ := vals_at (i := i) t (by simpa using h)
    exact ⟨v, by simpa using h1, h2⟩
theorem getD_at {d : D} {ds : List D} {i : Nat} {y : D} (hi : i < (d :: ds).length) (h : (d :: ds).getD i .none = y) : (d :: ds)[i]? = some y := by
  rw [List.getD_eq_getElem?_getD, List.getElem?_eq_getElem hi] at h
  rw [List.getElem?_eq_getElem hi]
  exact congrArg some h
theorem cr_minD (hc : X.calm = true) (hu : X.A.units + 65 < cLine) : CallR X (.builtin "min") (rMinD X.K minD) := by
  intro pins s σ H xs us Q I r h
  obtain ⟨a, vs, d, ds, rfl, hs, hd, ha, hz, q⟩ := h
  obtain ⟨its, rv, hl, _⟩ := I.list hs
  rw [Vals.ref1 r]
  obtain ⟨as, ra⟩ := Dp.readsAll I (d :: ds) vs its hd rv
  refine min_list_at (I.ok.hd hc) hl.isList ra ha (by omega) fun i v h' tk hv he hk => ?_
  have hlen := readsAll_len ra
  have hi : i < (d :: ds).length := by
    have := (Array.getElem?_eq_some_iff.mp hv).1
    rw [List.size_toArray] at this
    have h2 : its.length = (d :: ds).length := hlen
    omega
  obtain ⟨x, hx, rx⟩ := vals_at rv (show its[i]? = some v by simpa using hv)
  exact ⟨x, H, I.kept hk, rx, q i x hx (getD_at hi he)⟩
theorem cr_maxD (hc : X.calm = true) (hu : X.A.units + 65 < cLine) : CallR X (.builtin "max") (rMinD X.K maxD) := by
  intro pins s σ H xs us Q I r h
  obtain ⟨a, vs, d, ds, rfl, hs, hd, ha, hz, q⟩ := h
  obtain ⟨its, rv, hl, _⟩ := I.list hs
  rw [Vals.ref1 r]
  obtain ⟨as, ra⟩ := Dp.readsAll I (d :: ds) vs its hd rv
  refine max_list_at (I.ok.hd hc) hl.isList ra ha (by omega) fun i v h' tk hv he hk => ?_
  have hlen := readsAll_len ra
  have hi : i < (d :: ds).length := by
    have := (Array.getElem?_eq_some_iff.mp hv).1
    rw [List.size_toArray] at this
    have h2 : its.length = (d :: ds).length := hlen
    omega
  obtain ⟨x, hx, rx⟩ := vals_at rv (show its[i]? = some v by simpa using hv)
  exact ⟨x, H, I.kept hk, rx, q i x hx (getD_at hi he)⟩
end
open Classical in
noncomputable def oMinD (f : D → List D → D) : O1 := fun sl ts => match ts with
  | [x] => match (seqL sl x).bind lvs with
    | some (d :: ds) => if AlikeAll (d :: ds) ∧ PyData.depthAll (d :: ds) ≤ 60 then some (.d (f d ds), sl) else none
    | _ => none
  | _ => none
section
variable {K : PySem.W.Frag}
theorem co_minD {f : D → List D → D} : CoC K (rMinD K f) (oMinD f) := by
  intro g0 H0 g H σ sl vs ts S tv sl' Q n st rs fr h k
  unfold oMinD at h
  split at h
  · rename_i x
    obtain ⟨v, rfl, r⟩ := rs.one
    split at h
    · rename_i d ds e
      split at h
      · rename_i hs
        cases h
        obtain ⟨ms, e2, e3⟩ := Option.bind_eq_some_iff.mp e
        obtain ⟨a, ws, T, rfl, h1, h2⟩ := seqL_ok st r e2
        rw [lvs_eq e3] at h2
        have rd := h2.leaves.2
        refine ⟨a, ws, d, ds, rfl, h1, dpa_mono st.ex (RDs.dp rd), hs.1, hs.2, fun i v hv he => ?_⟩
        obtain ⟨u, hu, ru⟩ := rd.get he
        rw [hv] at hu; cases hu
        exact k.scal n st ru
      · cases h
    · cases h
  · cases h
theorem co_or {r q : List V → Hp → VK → Prop} {o p : O1} (h1 : CoC K r o) (h2 : CoC K q p) : CoC K (fun xs H Q => r xs H Q ∨ q xs H Q) (fun sl ts => match o sl ts with
    | some x => some x
    | none => p sl ts) := by
  intro g0 H0 g H σ sl vs ts S tv sl' Q n st rs fr h k
  dsimp only at h
  split at h
  · rename_i x e
    cases h
    exact .inl (h1 g0 H0 g H σ sl vs ts S tv sl' Q n st rs fr e k)
  · exact .inr (h2 g0 H0 g H σ sl vs ts S tv sl' Q n st rs fr h k)
end
noncomputable def oMin : O1 := fun sl ts => match oMin2 sl ts with
  | some x => some x
  | none => oMinD minD sl ts
noncomputable def oMax : O1 := fun sl ts => match oMax2 sl ts with
  | some x => some x
  | none => oMinD maxD sl ts
theorem call_minA {X : Cx} (hu : X.A.units + 65 < cLine) (hc : X.calm = true := by rfl) : CallR X (.builtin "min") (fun xs H Q => (∃ i j, xs = [.int i, .int j] ∧ Q (.int (if j < i then j else i)) H) ∨ rMinD X.K minD xs H Q) := call_or (call_min2 (X := X) hc) (cr_minD hc hu)
theorem call_maxA {X : Cx} (hu : X.A.units + 65 < cLine) (hc : X.calm = true := by rfl) : CallR X (.builtin "max") (fun xs H Q => (∃ i j, xs = [.int i, .int j] ∧ Q (.int (if j > i then j else i)) H) ∨ rMinD X.K maxD xs H Q) := call_or (call_max2 (X := X) hc) (cr_maxD hc hu)
theorem co_minA {K : PySem.W.Frag} : CoC K (fun xs H Q => (∃ i j, xs = [.int i, .int j] ∧ Q (.int (if j < i then j else i)) H) ∨ rMinD K minD xs H Q) oMin := co_or co_min2 co_minD
theorem co_maxA {K : PySem.W.Frag} : CoC K (fun xs H Q => (∃ i j, xs = [.int i, .int j] ∧ Q (.int (if j > i then j else i)) H) ∨ rMinD K maxD xs H Q) oMax := co_or co_max2 co_minD
/-! d.get(k), d.get(k, x) where what is found is data -/
def getR (m : MV) (d z : D) : Option D := match dGet m d with
  | some (some (.d x)) => some x
  | some none => some z
  | _ => none
def aGet2 (O A B : AE) : AE := fun s => bd (O s) fun x s1 => if isDct s1 x = true then bd (A s1) fun y s2 => bd (B s2) fun z s3 => match y, z with
  | .d d, .d e => ((vw s3 x).bind fun m => getR m d e).map fun r => .ok (.d r) s3
  | _, _ => none else none
def aGet1 (O A : AE) : AE := fun s => bd (O s) fun x s1 => if isDct s1 x = true then bd (A s1) fun y s2 => match y with
  | .d d => ((vw s2 x).bind fun m => getR m d .none).map fun r => .ok (.d r) s2
  | _ => none else none
theorem isDct_ok {K : PySem.W.Frag} {g : G} {H : Hp} {σ : L2.St} {sl : SL} {v : V} {t : TV} {S : List Addr} (st : Sta K g H σ sl) (r : RTV K g H σ v t S) (h : isDct sl t = true) : ∃ a, v = .ref a ∧ IsD H a := by
  unfold isDct at h
  split at h
  · rename_i e
    obtain ⟨T, q⟩ := vw_ok st r e
    cases q with
    | dK h1 _ _ => exact ⟨_, rfl, .inl ⟨_, .inl h1⟩⟩
  · rename_i e
    obtain ⟨T, q⟩ := vw_ok st r e
    cases q with
    | dT h1 _ _ => exact ⟨_, rfl, .inr ⟨_, .inl h1⟩⟩
  · cases h
section
variable {X : Cx} {W : WX} {o e f : Expr} {apos cpos : Pos} {O A B : AE}
theorem e_get2 (hu : X.A.units + 65 < cLine) (ho : PE X o (eL X.K W O)) (he : PE X e (eL X.K W A)) (hf : PE X f (eL X.K W B)) (m : M2 X o "get" apos e f cpos := by exact ⟨by rfl, by rfl, by rfl, by rfl⟩) : PE X (.Call (.Attribute o "get" apos) [e, f] [] cpos) (eL X.K W (aGet2 O A B)) :=
  PEm (pe_dget2 (by omega) ho he hf m) fun σ H Q ⟨g, sl, res, st, e, k⟩ => run1 (R := RV X.K) st e k.x fun tx s1 g1 H1 x S e1 n1 st1 r1 f1 => by
    split at e1
    · rename_i hd
      obtain ⟨a, rfl, hi⟩ := isDct_ok st1 r1 hd
      refine ⟨a, rfl, hi, run1 (R := RV X.K) st1 e1 (hxm k.x n1) fun ty s2 g2 H2 y T e2 n2 st2 r2 f2 => run1 (R := RV X.K) st2 e2 (hxm k.x (n1.trans n2)) fun tz s3 g3 H3 z U e3 n3 st3 r3 f3 => ?_⟩
      split at e3
      · rename_i d e'
        obtain ⟨r, e4, rfl⟩ := Option.map_eq_some_iff.mp e3
        obtain ⟨mv, e5, e6⟩ := Option.bind_eq_some_iff.mp e4
        obtain ⟨V', q⟩ := vw_ok st3 (r1.mono (n2.trans n3)) e5
        unfold getR at e6
        split at e6
        · rename_i x' e7
          cases e6
          obtain ⟨a', ea, ⟨_, h2⟩ | ⟨u, m', W', h1, h2, h3⟩⟩ := dGet_ok st3.ex q (r2.mono n3).2 e7
          · cases h2
          · cases ea; cases h2
            cases h3 with
            | d h3 => exact ⟨some u, h1, k.scal (n1.trans (n2.trans n3)) st3 h3⟩
        · rename_i e7
          cases e6
          obtain ⟨a', ea, ⟨h1, h2⟩ | ⟨u, m', W', h1, h2, h3⟩⟩ := dGet_ok st3.ex q (r2.mono n3).2 e7
          · cases ea
            exact ⟨none, h1, k.scal (n1.trans (n2.trans n3)) st3 r3.2⟩
          · cases h2
        · cases e6
      · cases e3
    · cases e1
theorem e_get1 (hu : X.A.units + 65 < cLine) (ho : PE X o (eL X.K W O)) (he : PE X e (eL X.K W A)) (m : M1 X o "get" apos e cpos := by exact ⟨by rfl, by rfl, by rfl, by rfl⟩) : PE X (.Call (.Attribute o "get" apos) [e] [] cpos) (eL X.K W (aGet1 O A)) :=
  PEm (pe_dget1 (by omega) ho he m) fun σ H Q ⟨g, sl, res, st, e, k⟩ => run1 (R := RV X.K) st e k.x fun tx s1 g1 H1 x S e1 n1 st1 r1 f1 => by
    split at e1
    · rename_i hd
      obtain ⟨a, rfl, hi⟩ := isDct_ok st1 r1 hd
      refine ⟨a, rfl, hi, run1 (R := RV X.K) st1 e1 (hxm k.x n1) fun ty s3 g3 H3 y T e3 n3 st3 r2 f2 => ?_⟩
      split at e3
      · rename_i d
        obtain ⟨r, e4, rfl⟩ := Option.map_eq_some_iff.mp e3
        obtain ⟨mv, e5, e6⟩ := Option.bind_eq_some_iff.mp e4
        obtain ⟨V', q⟩ := vw_ok st3 (r1.mono n3) e5
        unfold getR at e6
        split at e6
        · rename_i x' e7
          cases e6
          obtain ⟨a', ea, ⟨_, h2⟩ | ⟨u, m', W', h1, h2, h3⟩⟩ := dGet_ok st3.ex q r2.2 e7
          · cases h2
          · cases ea; cases h2
            cases h3 with
            | d h3 => exact ⟨some u, h1, k.scal (n1.trans n3) st3 h3⟩
        · rename_i e7
          cases e6
          obtain ⟨a', ea, ⟨h1, h2⟩ | ⟨u, m', W', h1, h2, h3⟩⟩ := dGet_ok st3.ex q r2.2 e7
          · cases ea
            exact ⟨none, h1, k.scal (n1.trans n3) st3 .non⟩
          · cases h2
        · cases e6
      · cases e3
    · cases e1
end
/-! int of a number, a truth value, a text -/
def oIntA : O1 := fun sl ts => match oInt sl ts with
  | some x => some x
  | none => oIntS sl ts
theorem call_intA {X : Cx} : CallR X (.type "int") (fun xs H Q => ((∃ i, xs = [.int i] ∧ Q (.int i) H) ∨ ∃ k, xs = [.bl k] ∧ Q (.int (if k then 1 else 0)) H) ∨ ∃ a n, xs = [.str a] ∧ PySem.intText? a = some n ∧ a.length ≤ 640 ∧ Q (.int n) H) := call_or call_int1 call_int_str
theorem co_intA {K : PySem.W.Frag} : CoC K (fun xs H Q => ((∃ i, xs = [.int i] ∧ Q (.int i) H) ∨ ∃ k, xs = [.bl k] ∧ Q (.int (if k then 1 else 0)) H) ∨ ∃ a n, xs = [.str a] ∧ PySem.intText? a = some n ∧ a.length ≤ 640 ∧ Q (.int n) H) oIntA := co_or co_int co_intS
end Y

set_option autoImplicit false
/-! Layer Y, part S: reading bodies by rewriting. -/
namespace Y
open PySem PySem.Spec PyProof.Rows L2 Evl PySem.W
section
variable {s s1 : SL} {A B O I : AE} {S T : AS} {C D' : AT} {R : AA} {L U : AO} {x y : TV} {o : O2} {p1 : O1} {om : OM}
theorem bd_okN {α β : Type} {a : α} {s : SL} {f : α → SL → Option (Res β)} : bd (some (.ok a s)) f = f a s := Eq.trans rfl rfl
theorem sb_okN {α : Type} {a : α} {s : SL} {f : α → SL → Option SR} : sb (some (.ok a s)) f = f a s := Eq.trans rfl rfl
def seqK (r : Option SR) (B : AS) : Option SR := match r with
  | some (.nx s1) => B s1
  | r => r
theorem aSeq_ap : aSeq S T s = seqK (S s) T := Eq.trans rfl rfl
theorem seqK_nx : seqK (some (.nx s)) T = T s := Eq.trans rfl rfl
theorem seqK_rt : seqK (some (.rt x s)) T = some (.rt x s) := Eq.trans rfl rfl
theorem seqK_bk : seqK (some (.bk s)) T = some (.bk s) := Eq.trans rfl rfl
theorem seqK_ct : seqK (some (.ct s)) T = some (.ct s) := Eq.trans rfl rfl
theorem seqK_none : seqK none T = none := Eq.trans rfl rfl
theorem aNext_ap : aNext s = some (.nx s) := Eq.trans rfl rfl
theorem aBrk_ap : aBrk s = some (.bk s) := Eq.trans rfl rfl
theorem aCont_ap : aCont s = some (.ct s) := Eq.trans rfl rfl
theorem aNever_ap : aNever s = none := Eq.trans rfl rfl
def nxR : Option SL → Option SR
  | some s => some (.nx s)
  | none => none
theorem nxR_some : nxR (some s) = some (.nx s) := Eq.trans rfl rfl
theorem nxR_none : nxR none = none := Eq.trans rfl rfl
theorem map_nx (r : Option SL) : r.map SR.nx = nxR r := by cases r <;> rfl
def asgK (Ga : AG) (t : TV) (s : SL) : Option SR := nxR (Ga t s)
theorem aAsg_ap {Ga : AG} : aAsg A Ga s = sb (A s) (asgK Ga) := by
  unfold aAsg asgK
  cases A s with
  | none => rfl
  | some r => cases r <;> first | rfl | exact map_nx _
theorem asgK_ap {Ga : AG} : asgK Ga x s = nxR (Ga x s) := Eq.trans rfl rfl
def dropK (t : TV) (s : SL) : Option SR := some (.nx s)
theorem aDrop_ap : aDrop A s = sb (A s) dropK := Eq.trans rfl rfl
theorem dropK_ap : dropK x s = some (.nx s) := Eq.trans rfl rfl
def ifK (S T : AS) (b : Bool) (s : SL) : Option SR := if b = true then S s else T s
theorem aIfS_ap : aIfS C S T s = sb (C s) (ifK S T) := Eq.trans rfl rfl
theorem ifK_t : ifK S T true s = S s := Eq.trans rfl rfl
theorem ifK_f : ifK S T false s = T s := Eq.trans rfl rfl
def rtR : Option (TV × SL) → Option SR
  | some (t, s) => some (.rt t s)
  | none => none
theorem rtR_some : rtR (some (x, s)) = some (.rt x s) := Eq.trans rfl rfl
def retK (t : TV) (s : SL) : Option SR := rtR (rtv s t)
theorem aRet_ap : aRet A s = sb (A s) retK := by
  unfold aRet retK
  have e : ∀ r : Option (TV × SL), (r.map fun r => SR.rt r.1 r.2) = rtR r := fun r => by cases r <;> rfl
  cases A s with
  | none => rfl
  | some r => cases r <;> first | rfl | exact e _
theorem retK_ap : retK x s = rtR (rtv s x) := Eq.trans rfl rfl
theorem aRetN_ap : aRetN s = some (.rt (.d .none) s) := Eq.trans rfl rfl
theorem aKill_ap {is : List Nat} : aKill is s = some (.nx (is.foldl (fun s i => s.set i none) s)) := Eq.trans rfl rfl
/-! values -/
def mapR : Option (TV × SL) → Option (Res TV)
  | some (t, s) => some (.ok t s)
  | none => none
theorem mapR_some : mapR (some (x, s)) = some (.ok x s) := Eq.trans rfl rfl
theorem mapR_none : mapR none = none := Eq.trans rfl rfl
theorem map_res (r : Option (TV × SL)) : (r.map fun r => Res.ok r.1 r.2) = mapR r := by cases r <;> rfl
theorem bd_fun {α β : Type} {f g : α → SL → Option (Res β)} (h : ∀ a s, f a s = g a s) (r : Option (Res α)) : bd r f = bd r g := by
  cases r with
  | none => rfl
  | some r => cases r <;> first | rfl | exact h _ _
theorem aC_ap {d : PyData} : aC d s = some (.ok (.d d) s) := Eq.trans rfl rfl
theorem aXT_ap {ds : List PyData} : aXT ds s = some (.ok (.c ds) s) := Eq.trans rfl rfl
def varK (i : Nat) (s : SL) : Option (Option SV) → Option (Res TV)
  | some (some (.d x)) => some (.ok (.d x) s)
  | some (some (.x ds)) => some (.ok (.x ds) s)
  | some (some (.w _)) => some (.ok (.var i) s)
  | some (some (.p _)) => some (.ok (.var i) s)
  | some (some (.k _)) => some (.ok (.var i) s)
  | _ => none
theorem aVar_ap {i : Nat} : aVar i s = varK i s s[i]? := by
  unfold aVar varK
  split <;> first | rfl | (rename_i h1; split <;> first | rfl | (rename_i h; simp_all))
theorem varK_d {i : Nat} {d : PyData} : varK i s (some (some (.d d))) = some (.ok (.d d) s) := Eq.trans rfl rfl
theorem varK_x {i : Nat} {ds : List PyData} : varK i s (some (some (.x ds))) = some (.ok (.x ds) s) := Eq.trans rfl rfl
theorem varK_w {i : Nat} {m : MV} : varK i s (some (some (.w m))) = some (.ok (.var i) s) := Eq.trans rfl rfl
theorem varK_p {i : Nat} {m : MV} : varK i s (some (some (.p m))) = some (.ok (.var i) s) := Eq.trans rfl rfl
theorem varK_k {i : Nat} {m : MV} : varK i s (some (some (.k m))) = some (.ok (.var i) s) := Eq.trans rfl rfl
def opK2 (o : O2) (x y : TV) (s : SL) : Option (Res TV) := mapR (o s x y)
def opK (o : O2) (B : AE) (x : TV) (s : SL) : Option (Res TV) := bd (B s) (opK2 o x)
theorem aOp_ap : aOp o A B s = bd (A s) (opK o B) := bd_fun (fun x s => bd_fun (fun y s => map_res _) _) _
theorem opK_ap : opK o B x s = bd (B s) (opK2 o x) := Eq.trans rfl rfl
theorem opK2_ap : opK2 o x y s = mapR (o s x y) := Eq.trans rfl rfl
def fzK (t : TV) (s : SL) : Option (Res TV) := (fz s t).map fun r => .ok (.d r.1) r.2
theorem aFz_ap : aFz A s = bd (A s) fzK := Eq.trans rfl rfl
theorem aUn_ap {f : Int → Int} : aUn f A s = bd (A s) (fun x s1 => match x with
  | .d (.int i) => some (.ok (.d (.int (f i))) s1)
  | _ => none) := rfl
/-! tests -/
def bK (t : TV) (s : SL) : Option (Res Bool) := match t with
  | .d (.bool b) => some (.ok b s)
  | _ => none
theorem aB_ap : aB A s = bd (A s) bK := Eq.trans rfl rfl
theorem bK_ap {b : Bool} : bK (.d (.bool b)) s = some (.ok b s) := Eq.trans rfl rfl
def andK (T : AT) (b : Bool) (s : SL) : Option (Res Bool) := if b = true then T s else some (.ok false s)
theorem aAnd_ap : aAnd C D' s = bd (C s) (andK D') := Eq.trans rfl rfl
theorem andK_t : andK D' true s = D' s := Eq.trans rfl rfl
theorem andK_f : andK D' false s = some (.ok false s) := Eq.trans rfl rfl
def orK (T : AT) (b : Bool) (s : SL) : Option (Res Bool) := if b = true then some (.ok true s) else T s
theorem aOr_ap : aOr C D' s = bd (C s) (orK D') := Eq.trans rfl rfl
theorem orK_t : orK D' true s = some (.ok true s) := Eq.trans rfl rfl
theorem orK_f : orK D' false s = D' s := Eq.trans rfl rfl
def notK (b : Bool) (s : SL) : Option (Res Bool) := some (.ok (!b) s)
theorem aNot_ap : aNot C s = bd (C s) notK := Eq.trans rfl rfl
theorem notK_ap {b : Bool} : notK b s = some (.ok (!b) s) := Eq.trans rfl rfl
def truK (t : TV) (s : SL) : Option (Res Bool) := (truA s t).map fun b => .ok b s
theorem aTru_ap : aTru A s = bd (A s) truK := Eq.trans rfl rfl
theorem truK_ap : truK x s = (truA s x).map fun b => .ok b s := Eq.trans rfl rfl
theorem aYes_ap : aYes s = some (.ok true s) := Eq.trans rfl rfl
def andVK (B : AE) (x : TV) (s : SL) : Option (Res TV) := match x with
  | .d (.bool b) => if b = true then B s else some (.ok (.d (.bool false)) s)
  | _ => none
theorem aAndV_ap : aAndV A B s = bd (A s) (andVK B) := Eq.trans rfl rfl
theorem andVK_t : andVK B (.d (.bool true)) s = B s := Eq.trans rfl rfl
theorem andVK_f : andVK B (.d (.bool false)) s = some (.ok (.d (.bool false)) s) := Eq.trans rfl rfl
def orVK (B : AE) (x : TV) (s : SL) : Option (Res TV) := match x with
  | .d (.bool b) => if b = true then some (.ok (.d (.bool true)) s) else B s
  | _ => none
theorem aOrV_ap : aOrV A B s = bd (A s) (orVK B) := Eq.trans rfl rfl
theorem orVK_t : orVK B (.d (.bool true)) s = some (.ok (.d (.bool true)) s) := Eq.trans rfl rfl
theorem orVK_f : orVK B (.d (.bool false)) s = B s := Eq.trans rfl rfl
def notVK (x : TV) (s : SL) : Option (Res TV) := match x with
  | .d (.bool b) => some (.ok (.d (.bool (!b))) s)
  | _ => none
theorem aNotV_ap : aNotV A s = bd (A s) notVK := Eq.trans rfl rfl
theorem notVK_ap {b : Bool} : notVK (.d (.bool b)) s = some (.ok (.d (.bool (!b))) s) := Eq.trans rfl rfl
def ifEK (A B : AE) (b : Bool) (s : SL) : Option (Res TV) := if b = true then A s else B s
theorem aIf_ap : aIf C A B s = bd (C s) (ifEK A B) := Eq.trans rfl rfl
theorem ifEK_t : ifEK A B true s = A s := Eq.trans rfl rfl
theorem ifEK_f : ifEK A B false s = B s := Eq.trans rfl rfl
/-! arguments -/
theorem aNil_ap : aNil s = some (.ok [] s) := Eq.trans rfl rfl
def consK2 (x : TV) (xs : List TV) (s : SL) : Option (Res (List TV)) := some (.ok (x :: xs) s)
def consK (R : AA) (x : TV) (s : SL) : Option (Res (List TV)) := bd (R s) (consK2 x)
theorem aCons_ap : aCons A R s = bd (A s) (consK R) := Eq.trans rfl rfl
theorem consK_ap : consK R x s = bd (R s) (consK2 x) := Eq.trans rfl rfl
theorem consK2_ap {xs : List TV} : consK2 x xs s = some (.ok (x :: xs) s) := Eq.trans rfl rfl
def cbK (o : O1) (xs : List TV) (s : SL) : Option (Res TV) := mapR (o s xs)
theorem aCB_ap : aCB p1 R s = bd (R s) (cbK p1) := bd_fun (fun x s => map_res _) _
theorem cbK_ap {xs : List TV} : cbK p1 xs s = mapR (p1 s xs) := Eq.trans rfl rfl
theorem aNoPart_ap : aNoPart s = some (.ok none s) := Eq.trans rfl rfl
def partK (x : TV) (s : SL) : Option (Res (Option Int)) := match x with
  | .d (.int i) => some (.ok (some i) s)
  | _ => none
theorem aPart_ap : aPart A s = bd (A s) partK := Eq.trans rfl rfl
theorem partK_ap {i : Int} : partK (.d (.int i)) s = some (.ok (some i) s) := Eq.trans rfl rfl
def slK3 (x : TV) (lo hi : Option Int) (s : SL) : Option (Res TV) := mapR (oSl s x lo hi)
def slK2 (U : AO) (x : TV) (lo : Option Int) (s : SL) : Option (Res TV) := bd (U s) (slK3 x lo)
def slK (L U : AO) (x : TV) (s : SL) : Option (Res TV) := bd (L s) (slK2 U x)
theorem aSl_ap : aSl A L U s = bd (A s) (slK L U) := bd_fun (fun x s => bd_fun (fun lo s => bd_fun (fun hi s => map_res _) _) _) _
theorem slK_ap : slK L U x s = bd (L s) (slK2 U x) := Eq.trans rfl rfl
theorem slK2_ap {lo : Option Int} : slK2 U x lo s = bd (U s) (slK3 x lo) := Eq.trans rfl rfl
theorem slK3_ap {lo hi : Option Int} : slK3 x lo hi s = mapR (oSl s x lo hi) := Eq.trans rfl rfl
/-! methods, stores -/
def bmK2 (o : OM) (x : TV) (xs : List TV) (s : SL) : Option (Res TV) := mapR (o s x xs)
def bmK (T : String) (o : OM) (R : AA) (x : TV) (s : SL) : Option (Res TV) := if tyA T s x = true then bd (R s) (bmK2 o x) else none
theorem aBM_ap {T : String} : aBM T om A R s = bd (A s) (bmK T om R) := bd_fun (fun x s => by
  show (if tyA T s x = true then bd (R s) _ else none) = if tyA T s x = true then bd (R s) (bmK2 om x) else none
  rw [bd_fun (fun xs s => map_res (om s x xs)) (R s)]
  rfl) _
theorem bmK_ap {T : String} : bmK T om R x s = if tyA T s x = true then bd (R s) (bmK2 om x) else none := Eq.trans rfl rfl
theorem bmK2_ap {xs : List TV} : bmK2 om x xs s = mapR (om s x xs) := Eq.trans rfl rfl
def bmK0 (T : String) (o : OM) (x : TV) (s : SL) : Option (Res TV) := if tyA T s x = true then mapR (o s x []) else none
theorem aBM0_ap {T : String} : aBM0 T om A s = bd (A s) (bmK0 T om) := bd_fun (fun x s => by
  show (if tyA T s x = true then (om s x []).map (fun r => Res.ok r.1 r.2) else none) = if tyA T s x = true then mapR (om s x []) else none
  rw [map_res]) _
theorem bmK0_ap {T : String} : bmK0 T om x s = if tyA T s x = true then mapR (om s x []) else none := Eq.trans rfl rfl
def setF (tv to ti : TV) (s : SL) : Option SR := match ti with
  | .d (.int n) => (toM s tv).bind fun r => (pl r.2 to).bind fun q => match q.m with
    | .lst ms => (ixN ms.length n).map fun j => .nx (q.w (.lst (ms.set j r.1)))
    | _ => none
  | _ => none
def dputF (tv to ti : TV) (s : SL) : Option SR := match ti with
  | .d d => (toM s tv).bind fun r => (pl r.2 to).bind fun q => (dPut q.m d r.1).map fun m' => .nx (q.w m')
  | _ => none
def putF (tv to ti : TV) (s : SL) : Option SR := match setF tv to ti s with
  | some r => some r
  | none => dputF tv to ti s
def putK2 (tv to ti : TV) (s : SL) : Option SR := putF tv to ti s
def putK1 (I : AE) (tv to : TV) (s : SL) : Option SR := sb (I s) (putK2 tv to)
def putK (O I : AE) (tv : TV) (s : SL) : Option SR := sb (O s) (putK1 I tv)
theorem aPut_ap : aPut A O I s = sb (A s) (putK O I) := by
  unfold aPut aSetL aDPut
  cases A s with
  | none => rfl
  | some r =>
    cases r with
    | ex xa s1 => rfl
    | ok tv s1 =>
      show _ = putK O I tv s1
      unfold putK
      dsimp only [sb]
      cases O s1 with
      | none => rfl
      | some r =>
        cases r with
        | ex xa s2 => rfl
        | ok to s2 =>
          unfold putK1
          dsimp only [sb]
          cases I s2 with
          | none => rfl
          | some r =>
            cases r with
            | ex xa s3 => rfl
            | ok ti s3 => rfl
theorem putK_ap {tv : TV} : putK O I tv s = sb (O s) (putK1 I tv) := Eq.trans rfl rfl
theorem putK1_ap {tv to : TV} : putK1 I tv to s = sb (I s) (putK2 tv to) := Eq.trans rfl rfl
theorem putK2_ap {tv to ti : TV} : putK2 tv to ti s = putF tv to ti s := Eq.trans rfl rfl
/-! loops, calls -/
def forK (Ga : AG) (S : AS) (p : List PyData × Option Nat) (s : SL) : Option SR := lockd p.2 (forGo Ga S p.1) s
theorem aFor_ap {J : AI} {Ga : AG} : aFor J Ga S s = sb (J s) (forK Ga S) := Eq.trans rfl rfl
theorem forK_n {Ga : AG} {ds : List PyData} : forK Ga S (ds, none) s = forGo Ga S ds s := Eq.trans rfl rfl
theorem forK_s {Ga : AG} {ds : List PyData} {i : Nat} : forK Ga S (ds, some i) s = lockd (some i) (forGo Ga S ds) s := Eq.trans rfl rfl
noncomputable def rngK1 (ts : List TV) (s : SL) : Option (Res (List PyData × Option Nat)) := match ts with
  | [.d (.int j)] => @ite _ (-(2 ^ 62) ≤ j ∧ j < 2 ^ 62) (Classical.propDecidable _) (some (.ok (rng 0 j.toNat, none) s)) none
  | _ => none
theorem aRng1_ap : aRng1 R s = bd (R s) rngK1 := bd_fun (fun ts s => by
  unfold rngK1
  split
  · rename_i j
    by_cases h : -(2 ^ 62) ≤ j ∧ j < 2 ^ 62
    · first | (rw [if_pos h]; done) | (rw [if_pos h, if_pos h]; done) | (rw [if_pos h]; dsimp only; rw [if_pos h])
    · first | (rw [if_neg h]; done) | (rw [if_neg h, if_neg h]; done) | (rw [if_neg h]; dsimp only; rw [if_neg h])
  · rename_i hne
    first
    | rfl
    | (split
       · rename_i e; exact absurd rfl (hne _)
       · rfl)) (R s)
theorem rngK1_ap {j : Int} (h : -(2 ^ 62) ≤ j ∧ j < 2 ^ 62) : rngK1 [.d (.int j)] s = some (.ok (rng 0 j.toNat, none) s) := if_pos h
noncomputable def rngK2 (ts : List TV) (s : SL) : Option (Res (List PyData × Option Nat)) := match ts with
  | [.d (.int i), .d (.int j)] => @ite _ (-(2 ^ 62) ≤ i ∧ i < 2 ^ 62 ∧ -(2 ^ 62) ≤ j ∧ j < 2 ^ 62) (Classical.propDecidable _) (some (.ok (rng i (j - i).toNat, none) s)) none
  | _ => none
theorem aRng2_ap : aRng2 R s = bd (R s) rngK2 := bd_fun (fun ts s => by
  unfold rngK2
  split
  · rename_i i j
    by_cases h : -(2 ^ 62) ≤ i ∧ i < 2 ^ 62 ∧ -(2 ^ 62) ≤ j ∧ j < 2 ^ 62
    · first | (rw [if_pos h]; done) | (rw [if_pos h, if_pos h]; done) | (rw [if_pos h]; dsimp only; rw [if_pos h])
    · first | (rw [if_neg h]; done) | (rw [if_neg h, if_neg h]; done) | (rw [if_neg h]; dsimp only; rw [if_neg h])
  · rename_i hne
    first
    | rfl
    | (split
       · rename_i e; exact absurd rfl (hne _ _)
       · rfl)) (R s)
theorem rngK2_ap {i j : Int} (h : -(2 ^ 62) ≤ i ∧ i < 2 ^ 62 ∧ -(2 ^ 62) ≤ j ∧ j < 2 ^ 62) : rngK2 [.d (.int i), .d (.int j)] s = some (.ok (rng i (j - i).toNat, none) s) := if_pos h
def itK (t : TV) (s : SL) : Option (Res (List PyData × Option Nat)) := aIt (fun _ => some (.ok t s)) s
theorem aIt_ap : aIt A s = bd (A s) itK := by
  unfold aIt
  cases A s with
  | none => rfl
  | some r => cases r <;> rfl
theorem itK_l {ds : List PyData} : itK (.d (.list ds)) s = some (.ok (ds, none) s) := Eq.trans rfl rfl
theorem itK_t {ds : List PyData} : itK (.d (.tuple ds)) s = some (.ok (ds, none) s) := Eq.trans rfl rfl
theorem itK_s {z : Str} : itK (.d (.str z)) s = some (.ok (z.cps.toList.map fun c => .str ⟨#[c]⟩, none) s) := Eq.trans rfl rfl
theorem itK_x {ds : List PyData} : itK (.x ds) s = some (.ok (ds, none) s) := Eq.trans rfl rfl
theorem itK_c {ds : List PyData} : itK (.c ds) s = some (.ok (ds, none) s) := Eq.trans rfl rfl
theorem itK_f {ds : List PyData} : itK (.t (.lst (ds.map MV.d))) s = some (.ok (ds, none) s) := by
  show (match frz (.lst (ds.map MV.d)) with
    | some (.list ds) => some (Res.ok (ds, none) s)
    | _ => none) = _
  rw [frz_lst]
def callK (exc : Bool) (den : Den) (ms : List Mo) (ts : List TV) (s1 : SL) : Option (Res TV) := match unsub s1.length ts with
  | none => callT exc den ms ts s1
  | some (ts', q) => (kid q.m q.j).bind fun c => (callT exc den ms ts' (s1 ++ [some (.w c)])).bind (backC s1.length q)
theorem aCallG_ap {exc : Bool} {den : Den} {ms : List Mo} : aCallG exc den ms R s = bd (R s) (callK exc den ms) := Eq.trans rfl rfl
end
/-! calls: the parts -/
theorem callT_ok0 {exc : Bool} {den : Den} {ms : List Mo} {ts : List TV} {s1 s2 s3 : SL} {xs : List PyData} {as : List SV} {t : TV} {outs : SL} (h1 : argF ms ts s1 = some (xs, s2)) (h2 : argM s2 ms ts xs = some as) (h3 : den as = some (.ok t outs)) (h4 : argB ms outs s2 = some s3) : callT exc den ms ts s1 = some (.ok t s3) := by
  unfold callT
  rw [h1]
  dsimp only [Option.bind]
  rw [h2]
  dsimp only [Option.bind]
  rw [h3]
  dsimp only
  rw [h4]
  rfl
theorem callK_ok {exc : Bool} {den : Den} {ms : List Mo} {ts : List TV} {s1 s2 s3 : SL} {xs : List PyData} {as : List SV} {t : TV} {outs : SL} (h0 : unsub s1.length ts = none) (h1 : argF ms ts s1 = some (xs, s2)) (h2 : argM s2 ms ts xs = some as) (h3 : den as = some (.ok t outs)) (h4 : argB ms outs s2 = some s3) : callK exc den ms ts s1 = some (.ok t s3) := by
  unfold callK
  rw [h0]
  exact callT_ok0 h1 h2 h3 h4
end Y

/-! Layer Y, part U: operators on concrete values. -/
namespace Y
open PySem PySem.Spec PyProof.Rows L2 Evl PySem.W
section
variable {s : SL} {i j n : Nat} {q : Int} {ms : List MV} {m : MV} {d e : PyData}
/-! places -/
def lf : Option MV → Option PyData
  | some (.d d) => some d
  | _ => none
theorem lf_d : lf (some (.d d)) = some d := Eq.trans rfl rfl
theorem lfAt_nat (n : Nat) : lfAt ms (n : Int) = lf ms[n]? := by
  unfold lfAt
  by_cases h : n < ms.length
  · rw [ixN_nat h]
    show (match ms[n]? with
      | some (.d d) => some d
      | _ => none) = lf ms[n]?
    unfold lf
    rfl
  · have e : ixN ms.length (n : Int) = none := by
      unfold ixN
      rw [if_pos (Int.natCast_nonneg n), if_neg (by omega)]
    rw [e, List.getElem?_eq_none (by omega)]
    rfl
theorem lfAt_lit (n : Nat) : lfAt ms (@OfNat.ofNat Int n instOfNat) = lf ms[n]? := lfAt_nat n
def stL (ms : List MV) (n : Int) (m : MV) : Option (List MV) := (ixN ms.length n).map fun j => ms.set j m
theorem stL_nat (n : Nat) (h : n < ms.length) : stL ms (n : Int) m = some (ms.set n m) := by
  unfold stL
  rw [ixN_nat h]
  rfl
theorem stL_lit (n : Nat) (h : n < ms.length) : stL ms (@OfNat.ofNat Int n instOfNat) m = some (ms.set n m) := stL_nat n h
def ixL (s : SL) (p : Bool) (i : Nat) (ms : List MV) (n : Int) : Option PyData → Option (TV × SL)
  | some d => some (.d d, s)
  | none => (ixN ms.length n).bind fun j => (ms[j]?).map fun _ => (.sub p i j (.lst ms), s.set i none)
theorem ixL_some {p : Bool} : ixL s p i ms q (some d) = some (.d d, s) := Eq.trans rfl rfl
def ixV (s : SL) (i : Nat) (n : Int) : Option (Option SV) → Option (TV × SL)
  | some (some (.w (.lst ms))) => ixL s false i ms n (lfAt ms n)
  | some (some (.p (.lst ms))) => ixL s true i ms n (lfAt ms n)
  | some (some (.k (.lst ms))) => (lfAt ms n).map fun d => (.d d, s)
  | _ => oIx2 s (.var i) (.d (.int n))
theorem oIx2_var : oIx2 s (.var i) (.d (.int q)) = ixV s i q s[i]? := by
  cases es : s[i]? with
  | none => rfl
  | some o =>
    cases o with
    | none => rfl
    | some v =>
      cases v with
      | d _ => rfl
      | h => rfl
      | x _ => rfl
      | w m =>
        cases m with
        | d _ => rfl
        | dK _ => rfl
        | dT _ => rfl
        | lst ms =>
          have ev : vw s (.var i) = some (.lst ms) := by unfold vw; dsimp only; rw [es]
          show oIx1 s (.var i) (.d (.int q)) = ixL s false i ms q (lfAt ms q)
          have e1 : isDct s (.var i) = false := by unfold isDct; rw [ev]
          have e2 : oIx s (.var i) (.d (.int q)) = (lfAt ms q).map fun d => (.d d, s) := by
            show (match seqTd s (.var i) with
              | some ds => (atI ds q).map fun d => (TV.d d, s)
              | none => ((seqL s (.var i)).bind fun ms => lfAt ms q).map fun d => (.d d, s)) = _
            have e3 : seqTd s (.var i) = none := by unfold seqTd; rw [ev]
            have e4 : seqL s (.var i) = some ms := by unfold seqL; dsimp only; rw [ev]
            rw [e3, e4]
            rfl
          unfold oIx1
          rw [e1]
          show oIxS s (.var i) (.d (.int q)) = _
          unfold oIxS
          rw [e2]
          cases el : lfAt ms q with
          | some d => rfl
          | none =>
            show oSubL s (.var i) (.d (.int q)) = _
            unfold oSubL
            have ew : wAt s i = some (.lst ms) := by unfold wAt; rw [es]
            have ep : isP s i = false := by unfold isP; rw [es]
            dsimp only
            rw [ew, ep]
            rfl
      | p m =>
        cases m with
        | d _ => rfl
        | dK _ => rfl
        | dT _ => rfl
        | lst ms =>
          have ev : vw s (.var i) = some (.lst ms) := by unfold vw; dsimp only; rw [es]
          show oIx1 s (.var i) (.d (.int q)) = ixL s true i ms q (lfAt ms q)
          have e1 : isDct s (.var i) = false := by unfold isDct; rw [ev]
          have e2 : oIx s (.var i) (.d (.int q)) = (lfAt ms q).map fun d => (.d d, s) := by
            show (match seqTd s (.var i) with
              | some ds => (atI ds q).map fun d => (TV.d d, s)
              | none => ((seqL s (.var i)).bind fun ms => lfAt ms q).map fun d => (.d d, s)) = _
            have e3 : seqTd s (.var i) = none := by unfold seqTd; rw [ev]
            have e4 : seqL s (.var i) = some ms := by unfold seqL; dsimp only; rw [ev]
            rw [e3, e4]
            rfl
          unfold oIx1
          rw [e1]
          show oIxS s (.var i) (.d (.int q)) = _
          unfold oIxS
          rw [e2]
          cases el : lfAt ms q with
          | some d => rfl
          | none =>
            show oSubL s (.var i) (.d (.int q)) = _
            unfold oSubL
            have ew : wAt s i = some (.lst ms) := by unfold wAt; rw [es]
            have ep : isP s i = true := by unfold isP; rw [es]
            dsimp only
            rw [ew, ep]
            rfl
      | k m =>
        cases m with
        | d _ => rfl
        | dK _ => rfl
        | dT _ => rfl
        | lst ms =>
          have ev : vw s (.var i) = some (.lst ms) := by unfold vw; dsimp only; rw [es]
          show oIx1 s (.var i) (.d (.int q)) = (lfAt ms q).map fun d => (.d d, s)
          have e1 : isDct s (.var i) = false := by unfold isDct; rw [ev]
          have e2 : oIx s (.var i) (.d (.int q)) = (lfAt ms q).map fun d => (.d d, s) := by
            show (match seqTd s (.var i) with
              | some ds => (atI ds q).map fun d => (TV.d d, s)
              | none => ((seqL s (.var i)).bind fun ms => lfAt ms q).map fun d => (.d d, s)) = _
            have e3 : seqTd s (.var i) = none := by unfold seqTd; rw [ev]
            have e4 : seqL s (.var i) = some ms := by unfold seqL; dsimp only; rw [ev]
            rw [e3, e4]
            rfl
          unfold oIx1
          rw [e1]
          show oIxS s (.var i) (.d (.int q)) = _
          unfold oIxS
          rw [e2]
          cases el : lfAt ms q with
          | some d => rfl
          | none =>
            show oSubL s (.var i) (.d (.int q)) = _
            unfold oSubL
            have ew : wAt s i = none := by unfold wAt; rw [es]
            dsimp only
            rw [ew]
            rfl
theorem ixV_w : ixV s i q (some (some (.w (.lst ms)))) = ixL s false i ms q (lfAt ms q) := Eq.trans rfl rfl
theorem ixV_p : ixV s i q (some (some (.p (.lst ms)))) = ixL s true i ms q (lfAt ms q) := Eq.trans rfl rfl
theorem ixV_k : ixV s i q (some (some (.k (.lst ms)))) = (lfAt ms q).map fun d => (.d d, s) := Eq.trans rfl rfl
/-- of a list that is data -/
theorem oIx2_l {ds : List PyData} : oIx2 s (.d (.list ds)) (.d (.int q)) = (atI ds q).map fun d => (.d d, s) := by
  have e2 : oIx s (.d (.list ds)) (.d (.int q)) = (atI ds q).map fun d => (.d d, s) := by
    show ((some (ds.map MV.d)).bind fun ms => lfAt ms q).map (fun d => (TV.d d, s)) = _
    show (lfAt (ds.map MV.d) q).map (fun d => (TV.d d, s)) = _
    rw [lfAt_map]
  show oIxS s (.d (.list ds)) (.d (.int q)) = _
  unfold oIxS
  rw [e2]
  cases atI ds q <;> rfl
theorem oIx2_t {ds : List PyData} : oIx2 s (.d (.tuple ds)) (.d (.int q)) = (atI ds q).map fun d => (.d d, s) := by
  show oIxS s (.d (.tuple ds)) (.d (.int q)) = _
  unfold oIxS
  show (match (atI ds q).map (fun d => (TV.d d, s)) with
    | some r => some r
    | none => oSubL s (.d (.tuple ds)) (.d (.int q))) = _
  cases atI ds q <;> rfl
theorem oIx2_s {z : Str} (h : z.length ≤ sizeLine) : oIx2 s (.d (.str z)) (.d (.int q)) = (atI z.cps.toList q).map fun c => (.d (.str ⟨#[c]⟩), s) := by
  show oIxS s (.d (.str z)) (.d (.int q)) = _
  unfold oIxS
  have e : oIx s (.d (.str z)) (.d (.int q)) = (atI z.cps.toList q).map fun c => (.d (.str ⟨#[c]⟩), s) := if_pos h
  rw [e]
  cases atI z.cps.toList q <;> rfl
theorem atI_nat {α : Type} {xs : List α} (n : Nat) : atI xs (n : Int) = xs[n]? := by
  unfold atI
  by_cases h : n < xs.length
  · rw [ixN_nat h]; rfl
  · have e : ixN xs.length (n : Int) = none := by
      unfold ixN
      rw [if_pos (Int.natCast_nonneg n), if_neg (by omega)]
    rw [e, List.getElem?_eq_none (by omega)]
    rfl
theorem atI_lit {α : Type} {xs : List α} (n : Nat) : atI xs (@OfNat.ofNat Int n instOfNat) = xs[n]? := atI_nat n
def putV (s : SL) (i : Nat) (n : Int) (d : PyData) : Option (Option SV) → Option SR
  | some (some (.w (.lst ms))) => nxR ((stL ms n (.d d)).map fun ms' => s.set i (some (.w (.lst ms'))))
  | some (some (.p (.lst ms))) => nxR ((stL ms n (.d d)).map fun ms' => s.set i (some (.p (.lst ms'))))
  | _ => putF (.d d) (.var i) (.d (.int n)) s
theorem putF_var : putF (.d d) (.var i) (.d (.int q)) s = putV s i q d s[i]? := by
  cases es : s[i]? with
  | none => rfl
  | some o =>
    cases o with
    | none => rfl
    | some v =>
      cases v with
      | d _ => rfl
      | h => rfl
      | x _ => rfl
      | k _ => rfl
      | w m =>
        cases m with
        | d _ => rfl
        | dK _ => rfl
        | dT _ => rfl
        | lst ms =>
          have ew : wAt s i = some (.lst ms) := by unfold wAt; rw [es]
          have ep : ∀ m, putAt s i m = s.set i (some (.w m)) := fun m => by unfold putAt; rw [es]
          have e1 : setF (.d d) (.var i) (.d (.int q)) s = (ixN ms.length q).map fun j => .nx (s.set i (some (.w (.lst (ms.set j (.d d)))))) := by
            show ((wAt s i).map fun m => Pl.mk s i m fun x => x).bind (fun q' => match q'.m with
              | .lst ms => (ixN ms.length q).map fun j => SR.nx (q'.w (.lst (ms.set j (.d d))))
              | _ => none) = _
            rw [ew]
            show (ixN ms.length q).map (fun j => SR.nx (putAt s i (.lst (ms.set j (.d d))))) = _
            congr 1
            funext j
            rw [ep]
          have e2 : dputF (.d d) (.var i) (.d (.int q)) s = none := by
            show ((wAt s i).map fun m => Pl.mk s i m fun x => x).bind (fun q' => (dPut q'.m (.int q) (.d d)).map fun m' => SR.nx (q'.w m')) = none
            rw [ew]
            rfl
          unfold putF
          rw [e1, e2]
          show _ = nxR (((ixN ms.length q).map fun j => ms.set j (.d d)).map fun ms' => s.set i (some (.w (.lst ms'))))
          cases ixN ms.length q <;> rfl
      | p m =>
        cases m with
        | d _ => rfl
        | dK _ => rfl
        | dT _ => rfl
        | lst ms =>
          have ew : wAt s i = some (.lst ms) := by unfold wAt; rw [es]
          have ep : ∀ m, putAt s i m = s.set i (some (.p m)) := fun m => by unfold putAt; rw [es]
          have e1 : setF (.d d) (.var i) (.d (.int q)) s = (ixN ms.length q).map fun j => .nx (s.set i (some (.p (.lst (ms.set j (.d d)))))) := by
            show ((wAt s i).map fun m => Pl.mk s i m fun x => x).bind (fun q' => match q'.m with
              | .lst ms => (ixN ms.length q).map fun j => SR.nx (q'.w (.lst (ms.set j (.d d))))
              | _ => none) = _
            rw [ew]
            show (ixN ms.length q).map (fun j => SR.nx (putAt s i (.lst (ms.set j (.d d))))) = _
            congr 1
            funext j
            rw [ep]
          have e2 : dputF (.d d) (.var i) (.d (.int q)) s = none := by
            show ((wAt s i).map fun m => Pl.mk s i m fun x => x).bind (fun q' => (dPut q'.m (.int q) (.d d)).map fun m' => SR.nx (q'.w m')) = none
            rw [ew]
            rfl
          unfold putF
          rw [e1, e2]
          show _ = nxR (((ixN ms.length q).map fun j => ms.set j (.d d)).map fun ms' => s.set i (some (.p (.lst ms'))))
          cases ixN ms.length q <;> rfl
theorem putV_w : putV s i q d (some (some (.w (.lst ms)))) = nxR ((stL ms q (.d d)).map fun ms' => s.set i (some (.w (.lst ms')))) := Eq.trans rfl rfl
theorem putV_p : putV s i q d (some (some (.p (.lst ms)))) = nxR ((stL ms q (.d d)).map fun ms' => s.set i (some (.p (.lst ms')))) := Eq.trans rfl rfl
/-! ==, <, len -/
theorem oEq_int {a b : Int} : oEq false s (.d (.int a)) (.d (.int b)) = some (.d (.bool (decide (a = b))), s) := by
  show (if SeqAt.shaped (.int a) = true ∧ SeqAt.shaped (.int b) = true then some (TV.d (.bool (a == b)), s) else none) = _
  rw [if_pos ⟨by first | rfl | decide, by first | rfl | decide⟩]
  rfl
theorem oNe_int {a b : Int} : oEq true s (.d (.int a)) (.d (.int b)) = some (.d (.bool (!decide (a = b))), s) := by
  show (if SeqAt.shaped (.int a) = true ∧ SeqAt.shaped (.int b) = true then some (TV.d (.bool (!(a == b))), s) else none) = _
  rw [if_pos ⟨by first | rfl | decide, by first | rfl | decide⟩]
  rfl
theorem oLtA_int {a b : Int} : oLtA s (.d (.int a)) (.d (.int b)) = some (.d (.bool (decide (a < b))), s) := Eq.trans rfl rfl
theorem oIntA_int {a : Int} : oIntA s [.d (.int a)] = some (.d (.int a), s) := Eq.trans rfl rfl
theorem oIntA_bool {a : Bool} : oIntA s [.d (.bool a)] = some (.d (.int (if a then 1 else 0)), s) := Eq.trans rfl rfl
theorem oLenV_l {ds : List PyData} : vA oLenA s [.d (.list ds)] = some (.d (.int (ds.length : Nat)), s) := by
  show (some (.d (.int ((ds.map MV.d).length : Nat)), s) : Option (TV × SL)) = _
  rw [List.length_map]
theorem oLenV_t {ds : List PyData} : vA oLenA s [.d (.tuple ds)] = some (.d (.int (ds.length : Nat)), s) := Eq.trans rfl rfl
theorem oI_ok {C : Int → Int → Bool} {f : Int → Int → Int} {a b : Int} (h : C a b = true) : oI C f s (.d (.int a)) (.d (.int b)) = some (.d (.int (f a b)), s) := if_pos h
theorem oI0_ap {f : Int → Int → Int} {a b : Int} : oI0 f s (.d (.int a)) (.d (.int b)) = some (.d (.int (f a b)), s) := Eq.trans rfl rfl
theorem oB0_ap {f : Int → Int → Bool} {a b : Int} : oB0 f s (.d (.int a)) (.d (.int b)) = some (.d (.bool (f a b)), s) := Eq.trans rfl rfl
theorem oAdd_int {a b : Int} : oAdd s (.d (.int a)) (.d (.int b)) = some (.d (.int (a + b)), s) := Eq.trans rfl rfl
theorem oAdd_str {a b : Str} (h : a.length + b.length ≤ sizeLine) : oAdd s (.d (.str a)) (.d (.str b)) = some (.d (.str (a ++ b)), s) := if_pos h
theorem oMul_int {a b : Int} (h : CMulB a b = true) : oMul s (.d (.int a)) (.d (.int b)) = some (.d (.int (a * b)), s) := if_pos h
theorem lfAt_0 {a0 : MV} {l : List MV} : lfAt (a0 :: l) 0 = lf (some a0) := lfAt_nat 0
theorem stL_0 {a0 : MV} {l : List MV} : stL (a0 :: l) 0 m = some (m :: l) := stL_nat 0 (by simp)
theorem atI_0 {α : Type} {a0 : α} {l : List α} : atI (a0 :: l) 0 = some a0 := Y.atI_nat 0
theorem lfAt_1 {a0 a1 : MV} {l : List MV} : lfAt (a0 :: a1 :: l) 1 = lf (some a1) := lfAt_nat 1
theorem stL_1 {a0 a1 : MV} {l : List MV} : stL (a0 :: a1 :: l) 1 m = some (a0 :: m :: l) := stL_nat 1 (by simp)
theorem atI_1 {α : Type} {a0 a1 : α} {l : List α} : atI (a0 :: a1 :: l) 1 = some a1 := Y.atI_nat 1
theorem lfAt_2 {a0 a1 a2 : MV} {l : List MV} : lfAt (a0 :: a1 :: a2 :: l) 2 = lf (some a2) := lfAt_nat 2
theorem stL_2 {a0 a1 a2 : MV} {l : List MV} : stL (a0 :: a1 :: a2 :: l) 2 m = some (a0 :: a1 :: m :: l) := stL_nat 2 (by simp)
theorem atI_2 {α : Type} {a0 a1 a2 : α} {l : List α} : atI (a0 :: a1 :: a2 :: l) 2 = some a2 := Y.atI_nat 2
theorem lfAt_3 {a0 a1 a2 a3 : MV} {l : List MV} : lfAt (a0 :: a1 :: a2 :: a3 :: l) 3 = lf (some a3) := lfAt_nat 3
theorem stL_3 {a0 a1 a2 a3 : MV} {l : List MV} : stL (a0 :: a1 :: a2 :: a3 :: l) 3 m = some (a0 :: a1 :: a2 :: m :: l) := stL_nat 3 (by simp)
theorem atI_3 {α : Type} {a0 a1 a2 a3 : α} {l : List α} : atI (a0 :: a1 :: a2 :: a3 :: l) 3 = some a3 := Y.atI_nat 3
theorem lfAt_4 {a0 a1 a2 a3 a4 : MV} {l : List MV} : lfAt (a0 :: a1 :: a2 :: a3 :: a4 :: l) 4 = lf (some a4) := lfAt_nat 4
theorem stL_4 {a0 a1 a2 a3 a4 : MV} {l : List MV} : stL (a0 :: a1 :: a2 :: a3 :: a4 :: l) 4 m = some (a0 :: a1 :: a2 :: a3 :: m :: l) := stL_nat 4 (by simp)
theorem atI_4 {α : Type} {a0 a1 a2 a3 a4 : α} {l : List α} : atI (a0 :: a1 :: a2 :: a3 :: a4 :: l) 4 = some a4 := Y.atI_nat 4
theorem lfAt_5 {a0 a1 a2 a3 a4 a5 : MV} {l : List MV} : lfAt (a0 :: a1 :: a2 :: a3 :: a4 :: a5 :: l) 5 = lf (some a5) := lfAt_nat 5
theorem stL_5 {a0 a1 a2 a3 a4 a5 : MV} {l : List MV} : stL (a0 :: a1 :: a2 :: a3 :: a4 :: a5 :: l) 5 m = some (a0 :: a1 :: a2 :: a3 :: a4 :: m :: l) := stL_nat 5 (by simp)
theorem atI_5 {α : Type} {a0 a1 a2 a3 a4 a5 : α} {l : List α} : atI (a0 :: a1 :: a2 :: a3 :: a4 :: a5 :: l) 5 = some a5 := Y.atI_nat 5
theorem lfAt_6 {a0 a1 a2 a3 a4 a5 a6 : MV} {l : List MV} : lfAt (a0 :: a1 :: a2 :: a3 :: a4 :: a5 :: a6 :: l) 6 = lf (some a6) := lfAt_nat 6
theorem stL_6 {a0 a1 a2 a3 a4 a5 a6 : MV} {l : List MV} : stL (a0 :: a1 :: a2 :: a3 :: a4 :: a5 :: a6 :: l) 6 m = some (a0 :: a1 :: a2 :: a3 :: a4 :: a5 :: m :: l) := stL_nat 6 (by simp)
theorem atI_6 {α : Type} {a0 a1 a2 a3 a4 a5 a6 : α} {l : List α} : atI (a0 :: a1 :: a2 :: a3 :: a4 :: a5 :: a6 :: l) 6 = some a6 := Y.atI_nat 6
theorem lfAt_7 {a0 a1 a2 a3 a4 a5 a6 a7 : MV} {l : List MV} : lfAt (a0 :: a1 :: a2 :: a3 :: a4 :: a5 :: a6 :: a7 :: l) 7 = lf (some a7) := lfAt_nat 7
theorem stL_7 {a0 a1 a2 a3 a4 a5 a6 a7 : MV} {l : List MV} : stL (a0 :: a1 :: a2 :: a3 :: a4 :: a5 :: a6 :: a7 :: l) 7 m = some (a0 :: a1 :: a2 :: a3 :: a4 :: a5 :: a6 :: m :: l) := stL_nat 7 (by simp)
theorem atI_7 {α : Type} {a0 a1 a2 a3 a4 a5 a6 a7 : α} {l : List α} : atI (a0 :: a1 :: a2 :: a3 :: a4 :: a5 :: a6 :: a7 :: l) 7 = some a7 := Y.atI_nat 7
theorem oMod_ok {a b : Int} (h : 0 < b) : oI (fun _ j => decide (0 < j)) (fun i j => i % j) s (.d (.int a)) (.d (.int b)) = some (.d (.int (a % b)), s) := if_pos (decide_eq_true h)
theorem oDiv_ok {a b : Int} (h : 0 < b) (h2 : b < 1073741824) : oI cDiv (fun i j => i / j) s (.d (.int a)) (.d (.int b)) = some (.d (.int (a / b)), s) := if_pos (by unfold cDiv; rw [decide_eq_true h, decide_eq_true h2]; rfl)
theorem oDivW_ok {a b : Int} (h : 0 < b) (h2 : b ≤ 10 ^ 18) : oI cDivW (fun i j => i / j) s (.d (.int a)) (.d (.int b)) = some (.d (.int (a / b)), s) := if_pos (by
  unfold cDivW
  have : b.natAbs.log2 < 9000 := by
    have h3 : b.natAbs < 2 ^ 60 := by omega
    have h4 : b.natAbs ≠ 0 := by omega
    have := (Nat.log2_lt h4).mpr h3
    omega
  rw [decide_eq_true h, decide_eq_true this]
  rfl)
theorem oMul_r {a b : Int} (h1 : -(2 ^ 64) < b) (h2 : b < 2 ^ 64) : oMul s (.d (.int a)) (.d (.int b)) = some (.d (.int (a * b)), s) := oMul_int (by unfold CMulB; rw [decide_eq_true h1, decide_eq_true h2, Bool.and_self, Bool.or_true])
end
end Y

/-! Layer Y, part V: texts by their signs; in. -/
namespace Y
open PySem PySem.Spec PyProof.Rows L2 Evl PySem.W TL
abbrev mk (l : List Nat) : Str := ⟨l.toArray⟩
section
variable {s : SL} {i : Nat} {l m : List Nat} {x y : Str} {ds : List PyData} {ms : List MV} {d : PyData}
theorem mk_tl (x : Str) : mk (tl x) = x := ext_tl rfl
theorem oAdd_mk (h : l.length + m.length ≤ 16777216) : oAdd s (.d (.str (mk l))) (.d (.str (mk m))) = some (.d (.str (mk (l ++ m))), s) := by
  have e : mk l ++ mk m = mk (l ++ m) := ext_tl (by rw [tl_append])
  rw [← e]
  exact oAdd_str (by rw [len_tl, len_tl]; exact h)
theorem oMul_mk {n : Int} (h1 : 2 ≤ n) (h2 : n ≤ 1000) (h3 : 1 ≤ l.length) (h4 : l.length ≤ 1000) : oMul s (.d (.str (mk l))) (.d (.int n)) = some (.d (.str (mk (List.replicate n.toNat l).flatten)), s) := by
  have e : mk (List.replicate n.toNat l).flatten = repS (mk l) n.toNat := ext_tl (repS_toList (mk l) n.toNat).symm
  rw [e]
  exact if_pos ⟨h1, h2, by rw [len_tl]; exact h3, by rw [len_tl]; exact h4⟩
theorem cut_hi (x : Str) (k : Nat) : tl (cutS x none (some (k : Int))) = (tl x).take k := by
  unfold cutS
  rw [HT.sIx_nat, HT.sIx_none]
  show ((tl x).drop 0).take (min k x.length - 0) = _
  rw [List.drop_zero, Nat.sub_zero, len_tl, List.take_eq_take_iff]
  omega
theorem cut_lo (x : Str) (k : Nat) : tl (cutS x (some (k : Int)) none) = (tl x).drop k := by
  unfold cutS
  rw [HT.sIx_nat, HT.sIx_none]
  show ((tl x).drop (min k x.length)).take (x.length - min k x.length) = _
  rw [len_tl]
  by_cases h : k ≤ (tl x).length
  · rw [Nat.min_eq_left h, List.take_of_length_le (by rw [List.length_drop]; omega)]
  · rw [Nat.min_eq_right (by omega), Nat.sub_self, List.take_zero, List.drop_eq_nil_of_le (by omega)]
theorem oSl_hi {n : Int} (h : l.length ≤ 16777216) (hn : 0 ≤ n) : oSl s (.d (.str (mk l))) none (some n) = some (.d (.str (mk (l.take n.toNat))), s) := by
  obtain ⟨k, rfl⟩ := Int.eq_ofNat_of_zero_le hn
  have e : mk (l.take (k : Int).toNat) = cutS (mk l) none (some (k : Int)) := ext_tl (by rw [cut_hi]; rfl)
  rw [e]
  exact if_pos (by rw [len_tl]; exact h)
theorem oSl_lo {n : Int} (h : l.length ≤ 16777216) (hn : 0 ≤ n) : oSl s (.d (.str (mk l))) (some n) none = some (.d (.str (mk (l.drop n.toNat))), s) := by
  obtain ⟨k, rfl⟩ := Int.eq_ofNat_of_zero_le hn
  have e : mk (l.drop (k : Int).toNat) = cutS (mk l) (some (k : Int)) none := ext_tl (by rw [cut_lo]; rfl)
  rw [e]
  exact if_pos (by rw [len_tl]; exact h)
theorem oIx2_mk {n : Int} {c : Nat} (h : x.length ≤ sizeLine) (hn : 0 ≤ n) (hc : (tl x)[n.toNat]? = some c) : oIx2 s (.d (.str x)) (.d (.int n)) = some (.d (.str (mk [c])), s) := by
  obtain ⟨k, rfl⟩ := Int.eq_ofNat_of_zero_le hn
  rw [oIx2_s h, Y.atI_nat, show x.cps.toList[k]? = some c from hc]
  rfl
/-! in -/
theorem oIn2_d {neg : Bool} (h1 : SeqAt.shaped d = true) (h2 : SeqAt.shaped (.list ds) = true) : oIn2 neg s (.d d) (.d (.list ds)) = some (.d (.bool (inD neg d ds)), s) := by
  show oIn neg s (.d d) (.d (.list ds)) = _
  show (some d).bind (fun d => match (some (PyData.list ds)) with
    | some (.list ds) => if SeqAt.shaped d = true ∧ SeqAt.shaped (.list ds) = true then some (TV.d (.bool (inD neg d ds)), s) else none
    | _ => none) = _
  exact if_pos ⟨h1, h2⟩
theorem oIn2_t {neg : Bool} (h1 : SeqAt.shaped d = true) (h2 : SeqAt.shaped (.list ds) = true) : oIn2 neg s (.d d) (.t (.lst (ds.map MV.d))) = some (.d (.bool (inD neg d ds)), s) := by
  show oIn neg s (.d d) (.t (.lst (ds.map MV.d))) = _
  show (some d).bind (fun d => match (frz (.lst (ds.map MV.d))) with
    | some (.list ds) => if SeqAt.shaped d = true ∧ SeqAt.shaped (.list ds) = true then some (TV.d (.bool (inD neg d ds)), s) else none
    | _ => none) = _
  rw [frz_lst]
  exact if_pos ⟨h1, h2⟩
def inV (s : SL) (neg : Bool) (d : PyData) (i : Nat) : Option (Option SV) → Option (TV × SL)
  | some (some (.w (.lst ms))) => (frz (.lst ms)).bind fun e => match e with
    | .list ds => if SeqAt.shaped d = true ∧ SeqAt.shaped (.list ds) = true then some (.d (.bool (inD neg d ds)), s) else none
    | _ => none
  | some (some (.p (.lst ms))) => (frz (.lst ms)).bind fun e => match e with
    | .list ds => if SeqAt.shaped d = true ∧ SeqAt.shaped (.list ds) = true then some (.d (.bool (inD neg d ds)), s) else none
    | _ => none
  | some (some (.k (.lst ms))) => (frz (.lst ms)).bind fun e => match e with
    | .list ds => if SeqAt.shaped d = true ∧ SeqAt.shaped (.list ds) = true then some (.d (.bool (inD neg d ds)), s) else none
    | _ => none
  | _ => oIn2 neg s (.d d) (.var i)
theorem oIn2_var {neg : Bool} : oIn2 neg s (.d d) (.var i) = inV s neg d i s[i]? := by
  have main : ∀ ms, vw s (.var i) = some (.lst ms) → oIn2 neg s (.d d) (.var i) = (frz (.lst ms)).bind fun e => match e with
    | .list ds => if SeqAt.shaped d = true ∧ SeqAt.shaped (.list ds) = true then some (.d (.bool (inD neg d ds)), s) else none
    | _ => none := fun ms ev => by
    have e1 : inDct s (.var i) = false := by show isDct s (.var i) = false; unfold isDct; rw [ev]
    have e2 : seqT s (.var i) = none := by show seqTd s (.var i) = none; unfold seqTd; rw [ev]
    have e3 : asD s (.var i) = frz (.lst ms) := by show (vw s (.var i)).bind frz = _; rw [ev]; rfl
    unfold oIn2
    rw [e1]
    show oIn neg s (.d d) (.var i) = _
    show (match seqT s (.var i) with
      | some ds => _
      | none => (asD s (.d d)).bind fun d => match asD s (.var i) with
        | some (.list ds) => if SeqAt.shaped d = true ∧ SeqAt.shaped (.list ds) = true then some (TV.d (.bool (inD neg d ds)), s) else none
        | _ => none) = _
    rw [e2, e3]
    show (match frz (.lst ms) with
        | some (.list ds) => if SeqAt.shaped d = true ∧ SeqAt.shaped (.list ds) = true then some (TV.d (.bool (inD neg d ds)), s) else none
        | _ => none) = _
    cases frz (.lst ms) with
    | none => rfl
    | some e => cases e <;> rfl
  cases es : s[i]? with
  | none => rfl
  | some o =>
    cases o with
    | none => rfl
    | some v =>
      cases v with
      | d _ => rfl
      | h => rfl
      | x _ => rfl
      | w m => cases m with
        | lst ms => exact main ms (by unfold vw; dsimp only; rw [es])
        | _ => rfl
      | p m => cases m with
        | lst ms => exact main ms (by unfold vw; dsimp only; rw [es])
        | _ => rfl
      | k m => cases m with
        | lst ms => exact main ms (by unfold vw; dsimp only; rw [es])
        | _ => rfl
theorem inV_w {neg : Bool} (h1 : SeqAt.shaped d = true) (h2 : SeqAt.shaped (.list ds) = true) : inV s neg d i (some (some (.w (.lst (ds.map MV.d))))) = some (.d (.bool (inD neg d ds)), s) := by
  unfold inV
  dsimp only
  rw [frz_lst]
  exact if_pos ⟨h1, h2⟩
theorem inV_p {neg : Bool} (h1 : SeqAt.shaped d = true) (h2 : SeqAt.shaped (.list ds) = true) : inV s neg d i (some (some (.p (.lst (ds.map MV.d))))) = some (.d (.bool (inD neg d ds)), s) := by
  unfold inV
  dsimp only
  rw [frz_lst]
  exact if_pos ⟨h1, h2⟩
/-! shapes -/
theorem strOk_of (h : ∀ c ∈ l, c < 200) : PyData.strOk (mk l) = true := by
  unfold PySem.PyData.strOk
  rw [Array.all_eq_true']
  intro c hc
  have := h c (by simpa using hc)
  exact decide_eq_true (by omega)
theorem lay_all (h : ∀ d ∈ ds, d.canLay0 = true) : PyData.canLayAll0 ds = true := by
  induction ds with
  | nil => rfl
  | cons a r ih => rw [PyData.canLayAll0, h a (List.mem_cons_self ..), ih fun d hd => h d (List.mem_cons_of_mem _ hd)]; rfl
theorem depth_all {n : Nat} (h : ∀ d ∈ ds, d.depth ≤ n) : PyData.depthAll ds ≤ n := by
  induction ds with
  | nil => exact Nat.zero_le _
  | cons a r ih =>
    rw [PyData.depthAll]
    exact Nat.max_le.mpr ⟨h a (List.mem_cons_self ..), ih fun d hd => h d (List.mem_cons_of_mem _ hd)⟩
theorem shaped_list (h1 : ∀ d ∈ ds, d.canLay0 = true) (h2 : ∀ d ∈ ds, d.depth ≤ 60) : SeqAt.shaped (.list ds) = true := by
  unfold SeqAt.shaped
  have := depth_all h2
  rw [PyData.canLay0, lay_all h1, PyData.depth]
  simp only [Bool.true_and, decide_eq_true_eq]
  omega
theorem shaped_str (h : ∀ c ∈ l, c < 200) : SeqAt.shaped (.str (mk l)) = true := by
  unfold SeqAt.shaped
  rw [PyData.canLay0, strOk_of h]
  rfl
abbrev strD (l : List Nat) : PyData := .str (mk l)
abbrev strsL (ls : List (List Nat)) : List PyData := ls.map strD
theorem shaped_strs {ls : List (List Nat)} (h : ∀ l ∈ ls, ∀ c ∈ l, c < 200) : SeqAt.shaped (.list (strsL ls)) = true := by
  refine shaped_list (fun d hd => ?_) fun d hd => ?_
  · obtain ⟨l, hl, rfl⟩ := List.mem_map.mp hd
    exact strOk_of (h l hl)
  · obtain ⟨l, hl, rfl⟩ := List.mem_map.mp hd
    exact Nat.zero_le _
theorem str_beq (x y : Str) : (x == y) = (tl x == tl y) := by
  rw [Bool.eq_iff_iff, beq_iff_eq, beq_iff_eq]
  exact ⟨fun h => h ▸ rfl, ext_tl⟩
theorem inD_strs {ls : List (List Nat)} : inD false (strD l) (strsL ls) = ls.contains l := by
  show (ls.map strD).any (fun z => PyData.eqv z (strD l)) = _
  rw [List.any_map]
  induction ls with
  | nil => rfl
  | cons a r ih =>
    rw [List.any_cons, List.contains_cons, ih]
    congr 1
    show (mk a == mk l) = (l == a)
    rw [str_beq, Bool.eq_iff_iff, beq_iff_eq, beq_iff_eq]
    exact ⟨Eq.symm, Eq.symm⟩
theorem inD_strsN {ls : List (List Nat)} : inD true (strD l) (strsL ls) = !ls.contains l := by
  rw [← inD_strs (l := l) (ls := ls)]
  rfl
/-! append -/
def apV (s : SL) (i : Nat) (m : MV) : Option (Option SV) → Option (TV × SL)
  | some (some (.w (.lst ms))) => if ms.length < sizeLine then some (.d .none, s.set i (some (.w (.lst (ms ++ [m]))))) else none
  | some (some (.p (.lst ms))) => if ms.length < sizeLine then some (.d .none, s.set i (some (.p (.lst (ms ++ [m]))))) else none
  | _ => none
theorem apV_all {t : TV} {m : MV} (ht : toM s t = some (m, s)) : mAppend s (.var i) [t] = apV s i m s[i]? := by
  show ((toM s t).bind fun r => (pl r.2 (.var i)).bind fun q => match q.m with
    | .lst ms => if ms.length < sizeLine then some (TV.d .none, q.w (.lst (ms ++ [r.1]))) else none
    | _ => none) = _
  rw [ht]
  show (((wAt s i).map fun m => Pl.mk s i m fun x => x).bind fun q => match q.m with
    | .lst ms => if ms.length < sizeLine then some (TV.d .none, q.w (.lst (ms ++ [m]))) else none
    | _ => none) = _
  cases es : s[i]? with
  | none => unfold wAt; rw [es]; rfl
  | some o =>
    cases o with
    | none => unfold wAt; rw [es]; rfl
    | some v =>
      cases v with
      | d _ => unfold wAt; rw [es]; rfl
      | h => unfold wAt; rw [es]; rfl
      | x _ => unfold wAt; rw [es]; rfl
      | k _ => unfold wAt; rw [es]; rfl
      | w m' =>
        have ew : wAt s i = some m' := by unfold wAt; rw [es]
        rw [ew]
        cases m' with
        | lst ms =>
          show (if ms.length < sizeLine then some (TV.d .none, putAt s i (.lst (ms ++ [m]))) else none) = if ms.length < sizeLine then some (TV.d .none, s.set i (some (.w (.lst (ms ++ [m]))))) else none
          unfold putAt
          rw [es]
        | _ => rfl
      | p m' =>
        have ew : wAt s i = some m' := by unfold wAt; rw [es]
        rw [ew]
        cases m' with
        | lst ms =>
          show (if ms.length < sizeLine then some (TV.d .none, putAt s i (.lst (ms ++ [m]))) else none) = if ms.length < sizeLine then some (TV.d .none, s.set i (some (.p (.lst (ms ++ [m]))))) else none
          unfold putAt
          rw [es]
        | _ => rfl
theorem mAppend_d : mAppend s (.var i) [.d d] = apV s i (.d d) s[i]? := apV_all rfl
theorem mAppend_t {m : MV} : mAppend s (.var i) [.t m] = apV s i m s[i]? := apV_all rfl
theorem apV_w {m : MV} : apV s i m (some (some (.w (.lst ms)))) = if ms.length < sizeLine then some (.d .none, s.set i (some (.w (.lst (ms ++ [m]))))) else none := Eq.trans rfl rfl
theorem apV_p {m : MV} : apV s i m (some (some (.p (.lst ms)))) = if ms.length < sizeLine then some (.d .none, s.set i (some (.p (.lst (ms ++ [m]))))) else none := Eq.trans rfl rfl
theorem oLst_nil : oLst s [] = some (.t (.lst []), s) := if_pos (Nat.zero_le _)
end
end Y

/-! Layer Y, part X: rules for loops. -/
namespace Y
open PySem PySem.Spec PyProof.Rows L2 Evl PySem.W TL
theorem forGo_inv {Ga : AG} {S : AS} (P : Nat → SL → Prop) {ds : List PyData} (step : ∀ (i : Nat) (d : PyData) (s : SL), ds[i]? = some d → P i s → ∃ s1 s2, Ga (.d d) s = some s1 ∧ (S s1 = some (.nx s2) ∨ S s1 = some (.ct s2)) ∧ P (i + 1) s2) : ∀ {s : SL}, P 0 s → ∃ s', forGo Ga S ds s = some (.nx s') ∧ P ds.length s' := by
  have main : ∀ (k i : Nat) (s : SL), ds.length - i = k → i ≤ ds.length → P i s → ∃ s', forGo Ga S (ds.drop i) s = some (.nx s') ∧ P ds.length s' := by
    intro k
    induction k with
    | zero =>
      intro i s hk hi h
      have : i = ds.length := by omega
      subst this
      rw [List.drop_length]
      exact ⟨s, rfl, h⟩
    | succ k ih =>
      intro i s hk hi h
      have hlt : i < ds.length := by omega
      obtain ⟨s1, s2, e1, e2, h2⟩ := step i ds[i] s (List.getElem?_eq_getElem hlt) h
      obtain ⟨s', e3, h3⟩ := ih (i + 1) s2 (by omega) hlt h2
      refine ⟨s', ?_, h3⟩
      rw [List.drop_eq_getElem_cons hlt]
      unfold forGo
      rw [e1]
      show (match S s1 with
        | some (.nx s2) => forGo Ga S (ds.drop (i + 1)) s2
        | some (.ct s2) => forGo Ga S (ds.drop (i + 1)) s2
        | some (.bk s2) => some (.nx s2)
        | r => r) = _
      rcases e2 with e2 | e2 <;> (rw [e2]; exact e3)
  intro s h
  have := main ds.length 0 s (by omega) (Nat.zero_le _) h
  rw [List.drop_zero] at this
  exact this
theorem rng_len (lo : Int) (n : Nat) : (rng lo n).length = n := by unfold rng; simp
theorem rng_get {lo : Int} {n i : Nat} {d : PyData} (h : (rng lo n)[i]? = some d) : d = .int (lo + (i : Nat)) ∧ i < n := by
  unfold rng at h
  rw [List.getElem?_map] at h
  obtain ⟨j, h1, rfl⟩ := Option.map_eq_some_iff.mp h
  obtain ⟨h2, h3⟩ := List.getElem?_eq_some_iff.mp h1
  rw [List.length_range] at h2
  rw [List.getElem_range] at h3
  subst h3
  exact ⟨rfl, h2⟩
theorem rng_get0 {n i : Nat} {d : PyData} (h : (rng 0 n)[i]? = some d) : d = .int (i : Nat) ∧ i < n := by
  obtain ⟨h1, h2⟩ := rng_get h
  rw [Int.zero_add] at h1
  exact ⟨h1, h2⟩
/-! comprehensions that change nothing -/
def lcR (s : SL) (vs : List Nat) : Option (List MV × SL) → Option (Res TV)
  | some (ms, s') => some (.ok (.t (.lst ms)) (restA s s' vs))
  | none => none
def lcK (Ga : AG) (C : AT) (E : AE) (vs : List Nat) (p : List PyData × Option Nat) (s1 : SL) : Option (Res TV) := if p.1.length ≤ sizeLine then lcR s1 vs (lockL p.2 (fun s => lcGo Ga C E vs p.1 (wipeA s vs)) s1) else none
theorem aLc_ap {J : AI} {Ga : AG} {C : AT} {E : AE} {vs : List Nat} {s : SL} : aLc J Ga C E vs s = bd (J s) (lcK Ga C E vs) := by
  unfold aLc
  refine bd_fun (fun p s => ?_) _
  show (if p.1.length ≤ sizeLine then (lockL p.2 (fun s => lcGo Ga C E vs p.1 (wipeA s vs)) s).map _ else none) = lcK Ga C E vs p s
  unfold lcK
  cases lockL p.2 (fun s => lcGo Ga C E vs p.1 (wipeA s vs)) s <;> rfl
theorem lcK_n {Ga : AG} {C : AT} {E : AE} {vs : List Nat} {ds : List PyData} {s : SL} (h : ds.length ≤ sizeLine) : lcK Ga C E vs (ds, none) s = lcR s vs (lcGo Ga C E vs ds (wipeA s vs)) := if_pos h
theorem lcGo_map {Ga : AG} {C : AT} {E : AE} {vs : List Nat} {p : PyData → Bool} {f : PyData → MV} (W : SL) : ∀ {ds : List PyData}, (∀ x ∈ ds, ∃ s1 s2, Ga (.d x) W = some s1 ∧ C s1 = some (.ok (p x) s2) ∧ (p x = true → ∃ t s3 s4, E s2 = some (.ok t s3) ∧ toM s3 t = some (f x, s4) ∧ wipeA s4 vs = W) ∧ (p x = false → wipeA s2 vs = W)) → lcGo Ga C E vs ds W = some ((ds.filter p).map f, W)
  | [], _ => rfl
  | x :: xs, h => by
    obtain ⟨s1, s2, e1, e2, h1, h2⟩ := h x (List.mem_cons_self ..)
    have ih := lcGo_map W (ds := xs) fun y hy => h y (List.mem_cons_of_mem _ hy)
    unfold lcGo
    rw [e1]
    show (match C s1 with
      | some (.ok true s2) => match E s2 with
        | some (.ok t s3) => (toM s3 t).bind fun r => (lcGo Ga C E vs xs (wipeA r.2 vs)).map fun q : List MV × SL => (r.1 :: q.1, q.2)
        | _ => none
      | some (.ok false s2) => lcGo Ga C E vs xs (wipeA s2 vs)
      | _ => none) = _
    rw [e2]
    cases hp : p x with
    | true =>
      obtain ⟨t, s3, s4, e3, e4, e5⟩ := h1 hp
      dsimp only
      rw [e3]
      dsimp only
      rw [e4, List.filter_cons, hp]
      show (lcGo Ga C E vs xs (wipeA s4 vs)).map (fun q : List MV × SL => (f x :: q.1, q.2)) = _
      rw [e5, ih]
      rfl
    | false =>
      dsimp only
      rw [h2 hp, ih, List.filter_cons, hp]
      rfl
theorem lcK_map {Ga : AG} {C : AT} {E : AE} {vs : List Nat} {ds : List PyData} {s : SL} (p : PyData → Bool) (f : PyData → MV) (hl : ds.length ≤ 16777216) (hr : restA s (wipeA s vs) vs = s) (h : ∀ x ∈ ds, ∃ s1 s2, Ga (.d x) (wipeA s vs) = some s1 ∧ C s1 = some (.ok (p x) s2) ∧ (p x = true → ∃ t s3 s4, E s2 = some (.ok t s3) ∧ toM s3 t = some (f x, s4) ∧ wipeA s4 vs = wipeA s vs) ∧ (p x = false → wipeA s2 vs = wipeA s vs)) :
    lcK Ga C E vs (ds, none) s = some (.ok (.t (.lst ((ds.filter p).map f))) s) := by
  rw [lcK_n (by rw [sizeLine_eq]; exact hl), lcGo_map (wipeA s vs) h]
  show some (Res.ok (TV.t (.lst ((ds.filter p).map f))) (restA s (wipeA s vs) vs)) = _
  rw [hr]
/-! while -/
theorem aWhile_inv {C : AT} {S : AS} (P : Nat → SL → Prop) (Q : SL → Prop) (step : ∀ n s, P n s → (∃ s', C s = some (.ok false s') ∧ Q s') ∨ ∃ s1 s2, C s = some (.ok true s1) ∧ (S s1 = some (.nx s2) ∨ S s1 = some (.ct s2)) ∧ ∃ m, m < n ∧ P m s2) {n : Nat} {s : SL} (h : P n s) : ∃ s', aWhile C S s = some (.nx s') ∧ Q s' := by
  have main : ∀ (n k : Nat) (s : SL), k < n → P k s → ∃ m s', whN C S m s = some (.nx s') ∧ Q s' := by
    intro n
    induction n with
    | zero => intro k s hk; exact absurd hk (Nat.not_lt_zero _)
    | succ n ih =>
      intro k s hk h
      rcases step k s h with ⟨s', e, q⟩ | ⟨s1, s2, e1, e2, m, hm, hp⟩
      · refine ⟨1, s', ?_, q⟩
        unfold whN
        rw [e]
      · obtain ⟨j, s', e3, q⟩ := ih m s2 (by omega) hp
        refine ⟨j + 1, s', ?_, q⟩
        unfold whN
        rw [e1]
        dsimp only
        rcases e2 with e2 | e2 <;> (rw [e2]; exact e3)
  obtain ⟨m, s', e, q⟩ := main (n + 1) n s (Nat.lt_succ_self n) h
  exact ⟨s', aWhile_of e, q⟩
end Y

/-! Layer Y, part W: what readings use again and again. -/
namespace Y
open PySem PySem.Spec PyProof.Rows L2 Evl PySem.W TL
theorem call_f1 {den : Den} {a : PyData} {t : TV} {s : SL} (h : den [.d a] = some (.ok t [none])) : callK false den [.f] [.d a] s = some (.ok t s) := by
  simp only [callK, unsub, Option.map_none, callT, argF, argF1, fz, Option.bind_some, Option.map_some, argM, argM1, h, argB, argB1]
theorem call_t1 {den : Den} {m : MV} {a : PyData} {t : TV} {s : SL} (e : frz m = some a) (h : den [.d a] = some (.ok t [none])) : callK false den [.f] [.t m] s = some (.ok t s) := by
  simp only [callK, unsub, Option.map_none, callT, argF, argF1, fz, Option.bind_some, Option.map_some, argM, argM1, e, h, argB, argB1]
theorem call_f2 {den : Den} {a b : PyData} {t : TV} {s : SL} (h : den [.d a, .d b] = some (.ok t [none, none])) : callK false den [.f, .f] [.d a, .d b] s = some (.ok t s) := by
  simp only [callK, unsub, Option.map_none, callT, argF, argF1, fz, Option.bind_some, Option.map_some, argM, argM1, h, argB, argB1]
theorem call_t2 {den : Den} {m n : MV} {a b : PyData} {t : TV} {s : SL} (e1 : frz m = some a) (e2 : frz n = some b) (h : den [.d a, .d b] = some (.ok t [none, none])) : callK false den [.f, .f] [.t m, .t n] s = some (.ok t s) := by
  simp only [callK, unsub, Option.map_none, callT, argF, argF1, fz, Option.bind_some, Option.map_some, argM, argM1, e1, e2, h, argB, argB1]
theorem call_x1 {den : Den} {a : List PyData} {t : TV} {s : SL} (h : den [.x a] = some (.ok t [none])) : callK false den [.f] [.x a] s = some (.ok t s) := by
  simp only [callK, unsub, Option.map_none, callT, argF, argF1, fz, Option.bind_some, Option.map_some, argM, argM1, h, argB, argB1]
theorem call_p0 {den : Den} {m m' : MV} {t : TV} {l : SL}  (h : den [.p m] = some (.ok t [some (.p m')])) : callK false den [.m 0] [.var 0] (some (.p m) :: l) = some (.ok t (some (.p m') :: l)) := by
  simp only [callK, unsub, Option.map_none, callT, argF, argF1, fz, Option.bind_some, Option.map_some, argM, argM1, wAt, List.getElem?_cons_zero, List.getElem?_cons_succ, if_true, h, argB, argB1, Y.putAt, List.set_cons_zero, List.set_cons_succ]
theorem call_p0f {den : Den} {m m' : MV} {a : PyData} {t : TV} {l : SL}  (h : den [.p m, .d a] = some (.ok t [some (.p m'), none])) : callK false den [.m 0, .f] [.var 0, .d a] (some (.p m) :: l) = some (.ok t (some (.p m') :: l)) := by
  simp only [callK, unsub, Option.map_none, callT, argF, argF1, fz, Option.bind_some, Option.map_some, argM, argM1, wAt, List.getElem?_cons_zero, List.getElem?_cons_succ, if_true, h, argB, argB1, Y.putAt, List.set_cons_zero, List.set_cons_succ]
theorem call_p0t {den : Den} {m m' na : MV} {a : PyData} {t : TV} {l : SL} (ea : frz na = some a) (h : den [.p m, .d a] = some (.ok t [some (.p m'), none])) : callK false den [.m 0, .f] [.var 0, .t na] (some (.p m) :: l) = some (.ok t (some (.p m') :: l)) := by
  simp only [callK, unsub, Option.map_none, callT, argF, argF1, fz, Option.bind_some, Option.map_some, argM, argM1, wAt, List.getElem?_cons_zero, List.getElem?_cons_succ, if_true, ea, h, argB, argB1, Y.putAt, List.set_cons_zero, List.set_cons_succ]
theorem call_p0ff {den : Den} {m m' : MV} {a b : PyData} {t : TV} {l : SL}  (h : den [.p m, .d a, .d b] = some (.ok t [some (.p m'), none, none])) : callK false den [.m 0, .f, .f] [.var 0, .d a, .d b] (some (.p m) :: l) = some (.ok t (some (.p m') :: l)) := by
  simp only [callK, unsub, Option.map_none, callT, argF, argF1, fz, Option.bind_some, Option.map_some, argM, argM1, wAt, List.getElem?_cons_zero, List.getElem?_cons_succ, if_true, h, argB, argB1, Y.putAt, List.set_cons_zero, List.set_cons_succ]
theorem call_p0ft {den : Den} {m m' nb : MV} {a b : PyData} {t : TV} {l : SL} (eb : frz nb = some b) (h : den [.p m, .d a, .d b] = some (.ok t [some (.p m'), none, none])) : callK false den [.m 0, .f, .f] [.var 0, .d a, .t nb] (some (.p m) :: l) = some (.ok t (some (.p m') :: l)) := by
  simp only [callK, unsub, Option.map_none, callT, argF, argF1, fz, Option.bind_some, Option.map_some, argM, argM1, wAt, List.getElem?_cons_zero, List.getElem?_cons_succ, if_true, eb, h, argB, argB1, Y.putAt, List.set_cons_zero, List.set_cons_succ]
theorem call_p0fff {den : Den} {m m' : MV} {a b c : PyData} {t : TV} {l : SL}  (h : den [.p m, .d a, .d b, .d c] = some (.ok t [some (.p m'), none, none, none])) : callK false den [.m 0, .f, .f, .f] [.var 0, .d a, .d b, .d c] (some (.p m) :: l) = some (.ok t (some (.p m') :: l)) := by
  simp only [callK, unsub, Option.map_none, callT, argF, argF1, fz, Option.bind_some, Option.map_some, argM, argM1, wAt, List.getElem?_cons_zero, List.getElem?_cons_succ, if_true, h, argB, argB1, Y.putAt, List.set_cons_zero, List.set_cons_succ]
theorem call_p0tf {den : Den} {m m' na : MV} {a b : PyData} {t : TV} {l : SL} (ea : frz na = some a) (h : den [.p m, .d a, .d b] = some (.ok t [some (.p m'), none, none])) : callK false den [.m 0, .f, .f] [.var 0, .t na, .d b] (some (.p m) :: l) = some (.ok t (some (.p m') :: l)) := by
  simp only [callK, unsub, Option.map_none, callT, argF, argF1, fz, Option.bind_some, Option.map_some, argM, argM1, wAt, List.getElem?_cons_zero, List.getElem?_cons_succ, if_true, ea, h, argB, argB1, Y.putAt, List.set_cons_zero, List.set_cons_succ]
theorem call_w0 {den : Den} {m m' : MV} {t : TV} {l : SL}  (h : den [.p m] = some (.ok t [some (.p m')])) : callK false den [.m 0] [.var 0] (some (.w m) :: l) = some (.ok t (some (.w m') :: l)) := by
  simp only [callK, unsub, Option.map_none, callT, argF, argF1, fz, Option.bind_some, Option.map_some, argM, argM1, wAt, List.getElem?_cons_zero, List.getElem?_cons_succ, if_true, h, argB, argB1, Y.putAt, List.set_cons_zero, List.set_cons_succ]
theorem call_w0f {den : Den} {m m' : MV} {a : PyData} {t : TV} {l : SL}  (h : den [.p m, .d a] = some (.ok t [some (.p m'), none])) : callK false den [.m 0, .f] [.var 0, .d a] (some (.w m) :: l) = some (.ok t (some (.w m') :: l)) := by
  simp only [callK, unsub, Option.map_none, callT, argF, argF1, fz, Option.bind_some, Option.map_some, argM, argM1, wAt, List.getElem?_cons_zero, List.getElem?_cons_succ, if_true, h, argB, argB1, Y.putAt, List.set_cons_zero, List.set_cons_succ]
theorem call_w0t {den : Den} {m m' na : MV} {a : PyData} {t : TV} {l : SL} (ea : frz na = some a) (h : den [.p m, .d a] = some (.ok t [some (.p m'), none])) : callK false den [.m 0, .f] [.var 0, .t na] (some (.w m) :: l) = some (.ok t (some (.w m') :: l)) := by
  simp only [callK, unsub, Option.map_none, callT, argF, argF1, fz, Option.bind_some, Option.map_some, argM, argM1, wAt, List.getElem?_cons_zero, List.getElem?_cons_succ, if_true, ea, h, argB, argB1, Y.putAt, List.set_cons_zero, List.set_cons_succ]
theorem call_w0ff {den : Den} {m m' : MV} {a b : PyData} {t : TV} {l : SL}  (h : den [.p m, .d a, .d b] = some (.ok t [some (.p m'), none, none])) : callK false den [.m 0, .f, .f] [.var 0, .d a, .d b] (some (.w m) :: l) = some (.ok t (some (.w m') :: l)) := by
  simp only [callK, unsub, Option.map_none, callT, argF, argF1, fz, Option.bind_some, Option.map_some, argM, argM1, wAt, List.getElem?_cons_zero, List.getElem?_cons_succ, if_true, h, argB, argB1, Y.putAt, List.set_cons_zero, List.set_cons_succ]
theorem call_w0ft {den : Den} {m m' nb : MV} {a b : PyData} {t : TV} {l : SL} (eb : frz nb = some b) (h : den [.p m, .d a, .d b] = some (.ok t [some (.p m'), none, none])) : callK false den [.m 0, .f, .f] [.var 0, .d a, .t nb] (some (.w m) :: l) = some (.ok t (some (.w m') :: l)) := by
  simp only [callK, unsub, Option.map_none, callT, argF, argF1, fz, Option.bind_some, Option.map_some, argM, argM1, wAt, List.getElem?_cons_zero, List.getElem?_cons_succ, if_true, eb, h, argB, argB1, Y.putAt, List.set_cons_zero, List.set_cons_succ]
theorem call_w0fff {den : Den} {m m' : MV} {a b c : PyData} {t : TV} {l : SL}  (h : den [.p m, .d a, .d b, .d c] = some (.ok t [some (.p m'), none, none, none])) : callK false den [.m 0, .f, .f, .f] [.var 0, .d a, .d b, .d c] (some (.w m) :: l) = some (.ok t (some (.w m') :: l)) := by
  simp only [callK, unsub, Option.map_none, callT, argF, argF1, fz, Option.bind_some, Option.map_some, argM, argM1, wAt, List.getElem?_cons_zero, List.getElem?_cons_succ, if_true, h, argB, argB1, Y.putAt, List.set_cons_zero, List.set_cons_succ]
theorem call_w0tf {den : Den} {m m' na : MV} {a b : PyData} {t : TV} {l : SL} (ea : frz na = some a) (h : den [.p m, .d a, .d b] = some (.ok t [some (.p m'), none, none])) : callK false den [.m 0, .f, .f] [.var 0, .t na, .d b] (some (.w m) :: l) = some (.ok t (some (.w m') :: l)) := by
  simp only [callK, unsub, Option.map_none, callT, argF, argF1, fz, Option.bind_some, Option.map_some, argM, argM1, wAt, List.getElem?_cons_zero, List.getElem?_cons_succ, if_true, ea, h, argB, argB1, Y.putAt, List.set_cons_zero, List.set_cons_succ]
theorem call_w1 {den : Den} {x : Option SV} {m m' : MV} {t : TV} {l : SL}  (h : den [.p m] = some (.ok t [some (.p m')])) : callK false den [.m 1] [.var 1] (x :: some (.w m) :: l) = some (.ok t (x :: some (.w m') :: l)) := by
  simp only [callK, unsub, Option.map_none, callT, argF, argF1, fz, Option.bind_some, Option.map_some, argM, argM1, wAt, List.getElem?_cons_zero, List.getElem?_cons_succ, if_true, h, argB, argB1, Y.putAt, List.set_cons_zero, List.set_cons_succ]
theorem call_w1f {den : Den} {x : Option SV} {m m' : MV} {a : PyData} {t : TV} {l : SL}  (h : den [.p m, .d a] = some (.ok t [some (.p m'), none])) : callK false den [.m 1, .f] [.var 1, .d a] (x :: some (.w m) :: l) = some (.ok t (x :: some (.w m') :: l)) := by
  simp only [callK, unsub, Option.map_none, callT, argF, argF1, fz, Option.bind_some, Option.map_some, argM, argM1, wAt, List.getElem?_cons_zero, List.getElem?_cons_succ, if_true, h, argB, argB1, Y.putAt, List.set_cons_zero, List.set_cons_succ]
theorem call_w1t {den : Den} {x : Option SV} {m m' na : MV} {a : PyData} {t : TV} {l : SL} (ea : frz na = some a) (h : den [.p m, .d a] = some (.ok t [some (.p m'), none])) : callK false den [.m 1, .f] [.var 1, .t na] (x :: some (.w m) :: l) = some (.ok t (x :: some (.w m') :: l)) := by
  simp only [callK, unsub, Option.map_none, callT, argF, argF1, fz, Option.bind_some, Option.map_some, argM, argM1, wAt, List.getElem?_cons_zero, List.getElem?_cons_succ, if_true, ea, h, argB, argB1, Y.putAt, List.set_cons_zero, List.set_cons_succ]
theorem call_w1ff {den : Den} {x : Option SV} {m m' : MV} {a b : PyData} {t : TV} {l : SL}  (h : den [.p m, .d a, .d b] = some (.ok t [some (.p m'), none, none])) : callK false den [.m 1, .f, .f] [.var 1, .d a, .d b] (x :: some (.w m) :: l) = some (.ok t (x :: some (.w m') :: l)) := by
  simp only [callK, unsub, Option.map_none, callT, argF, argF1, fz, Option.bind_some, Option.map_some, argM, argM1, wAt, List.getElem?_cons_zero, List.getElem?_cons_succ, if_true, h, argB, argB1, Y.putAt, List.set_cons_zero, List.set_cons_succ]
theorem call_w1ft {den : Den} {x : Option SV} {m m' nb : MV} {a b : PyData} {t : TV} {l : SL} (eb : frz nb = some b) (h : den [.p m, .d a, .d b] = some (.ok t [some (.p m'), none, none])) : callK false den [.m 1, .f, .f] [.var 1, .d a, .t nb] (x :: some (.w m) :: l) = some (.ok t (x :: some (.w m') :: l)) := by
  simp only [callK, unsub, Option.map_none, callT, argF, argF1, fz, Option.bind_some, Option.map_some, argM, argM1, wAt, List.getElem?_cons_zero, List.getElem?_cons_succ, if_true, eb, h, argB, argB1, Y.putAt, List.set_cons_zero, List.set_cons_succ]
theorem call_w1fff {den : Den} {x : Option SV} {m m' : MV} {a b c : PyData} {t : TV} {l : SL}  (h : den [.p m, .d a, .d b, .d c] = some (.ok t [some (.p m'), none, none, none])) : callK false den [.m 1, .f, .f, .f] [.var 1, .d a, .d b, .d c] (x :: some (.w m) :: l) = some (.ok t (x :: some (.w m') :: l)) := by
  simp only [callK, unsub, Option.map_none, callT, argF, argF1, fz, Option.bind_some, Option.map_some, argM, argM1, wAt, List.getElem?_cons_zero, List.getElem?_cons_succ, if_true, h, argB, argB1, Y.putAt, List.set_cons_zero, List.set_cons_succ]
theorem call_w1tf {den : Den} {x : Option SV} {m m' na : MV} {a b : PyData} {t : TV} {l : SL} (ea : frz na = some a) (h : den [.p m, .d a, .d b] = some (.ok t [some (.p m'), none, none])) : callK false den [.m 1, .f, .f] [.var 1, .t na, .d b] (x :: some (.w m) :: l) = some (.ok t (x :: some (.w m') :: l)) := by
  simp only [callK, unsub, Option.map_none, callT, argF, argF1, fz, Option.bind_some, Option.map_some, argM, argM1, wAt, List.getElem?_cons_zero, List.getElem?_cons_succ, if_true, ea, h, argB, argB1, Y.putAt, List.set_cons_zero, List.set_cons_succ]
theorem call_p1 {den : Den} {x : Option SV} {m m' : MV} {t : TV} {l : SL}  (h : den [.p m] = some (.ok t [some (.p m')])) : callK false den [.m 1] [.var 1] (x :: some (.p m) :: l) = some (.ok t (x :: some (.p m') :: l)) := by
  simp only [callK, unsub, Option.map_none, callT, argF, argF1, fz, Option.bind_some, Option.map_some, argM, argM1, wAt, List.getElem?_cons_zero, List.getElem?_cons_succ, if_true, h, argB, argB1, Y.putAt, List.set_cons_zero, List.set_cons_succ]
theorem call_p1f {den : Den} {x : Option SV} {m m' : MV} {a : PyData} {t : TV} {l : SL}  (h : den [.p m, .d a] = some (.ok t [some (.p m'), none])) : callK false den [.m 1, .f] [.var 1, .d a] (x :: some (.p m) :: l) = some (.ok t (x :: some (.p m') :: l)) := by
  simp only [callK, unsub, Option.map_none, callT, argF, argF1, fz, Option.bind_some, Option.map_some, argM, argM1, wAt, List.getElem?_cons_zero, List.getElem?_cons_succ, if_true, h, argB, argB1, Y.putAt, List.set_cons_zero, List.set_cons_succ]
theorem call_p1t {den : Den} {x : Option SV} {m m' na : MV} {a : PyData} {t : TV} {l : SL} (ea : frz na = some a) (h : den [.p m, .d a] = some (.ok t [some (.p m'), none])) : callK false den [.m 1, .f] [.var 1, .t na] (x :: some (.p m) :: l) = some (.ok t (x :: some (.p m') :: l)) := by
  simp only [callK, unsub, Option.map_none, callT, argF, argF1, fz, Option.bind_some, Option.map_some, argM, argM1, wAt, List.getElem?_cons_zero, List.getElem?_cons_succ, if_true, ea, h, argB, argB1, Y.putAt, List.set_cons_zero, List.set_cons_succ]
theorem call_p1ff {den : Den} {x : Option SV} {m m' : MV} {a b : PyData} {t : TV} {l : SL}  (h : den [.p m, .d a, .d b] = some (.ok t [some (.p m'), none, none])) : callK false den [.m 1, .f, .f] [.var 1, .d a, .d b] (x :: some (.p m) :: l) = some (.ok t (x :: some (.p m') :: l)) := by
  simp only [callK, unsub, Option.map_none, callT, argF, argF1, fz, Option.bind_some, Option.map_some, argM, argM1, wAt, List.getElem?_cons_zero, List.getElem?_cons_succ, if_true, h, argB, argB1, Y.putAt, List.set_cons_zero, List.set_cons_succ]
theorem call_p1ft {den : Den} {x : Option SV} {m m' nb : MV} {a b : PyData} {t : TV} {l : SL} (eb : frz nb = some b) (h : den [.p m, .d a, .d b] = some (.ok t [some (.p m'), none, none])) : callK false den [.m 1, .f, .f] [.var 1, .d a, .t nb] (x :: some (.p m) :: l) = some (.ok t (x :: some (.p m') :: l)) := by
  simp only [callK, unsub, Option.map_none, callT, argF, argF1, fz, Option.bind_some, Option.map_some, argM, argM1, wAt, List.getElem?_cons_zero, List.getElem?_cons_succ, if_true, eb, h, argB, argB1, Y.putAt, List.set_cons_zero, List.set_cons_succ]
theorem call_p1fff {den : Den} {x : Option SV} {m m' : MV} {a b c : PyData} {t : TV} {l : SL}  (h : den [.p m, .d a, .d b, .d c] = some (.ok t [some (.p m'), none, none, none])) : callK false den [.m 1, .f, .f, .f] [.var 1, .d a, .d b, .d c] (x :: some (.p m) :: l) = some (.ok t (x :: some (.p m') :: l)) := by
  simp only [callK, unsub, Option.map_none, callT, argF, argF1, fz, Option.bind_some, Option.map_some, argM, argM1, wAt, List.getElem?_cons_zero, List.getElem?_cons_succ, if_true, h, argB, argB1, Y.putAt, List.set_cons_zero, List.set_cons_succ]
theorem call_p1tf {den : Den} {x : Option SV} {m m' na : MV} {a b : PyData} {t : TV} {l : SL} (ea : frz na = some a) (h : den [.p m, .d a, .d b] = some (.ok t [some (.p m'), none, none])) : callK false den [.m 1, .f, .f] [.var 1, .t na, .d b] (x :: some (.p m) :: l) = some (.ok t (x :: some (.p m') :: l)) := by
  simp only [callK, unsub, Option.map_none, callT, argF, argF1, fz, Option.bind_some, Option.map_some, argM, argM1, wAt, List.getElem?_cons_zero, List.getElem?_cons_succ, if_true, ea, h, argB, argB1, Y.putAt, List.set_cons_zero, List.set_cons_succ]
theorem cutD_hi {α : Type} (xs : List α) (k : Nat) : Y.cutD xs none (some (k : Int)) = xs.take k := by
  unfold Y.cutD
  rw [HT.sIx_nat, HT.sIx_none]
  show (xs.drop 0).take (min k xs.length - 0) = _
  rw [List.drop_zero, Nat.sub_zero, List.take_eq_take_iff]
  omega
theorem cutD_lo {α : Type} (xs : List α) (k : Nat) : Y.cutD xs (some (k : Int)) none = xs.drop k := by
  unfold Y.cutD
  rw [HT.sIx_nat, HT.sIx_none]
  show (xs.drop (min k xs.length)).take (xs.length - min k xs.length) = _
  by_cases h : k ≤ xs.length
  · rw [Nat.min_eq_left h, List.take_of_length_le (by rw [List.length_drop]; omega)]
  · rw [Nat.min_eq_right (by omega), Nat.sub_self, List.take_zero, List.drop_eq_nil_of_le (by omega)]
theorem vw_k {s : SL} {i : Nat} {m : MV} (h : s[i]? = some (some (.k m))) : vw s (.var i) = some m := by
  unfold vw
  dsimp only
  rw [h]
theorem oSl_own {s : SL} {i : Nat} {ds : List PyData} {lo hi : Option Int} (h : vw s (.var i) = some (.lst (ds.map MV.d))) : oSl s (.var i) lo hi = some (.t (.lst ((Y.cutD ds lo hi).map MV.d)), s) := by
  show (match seqTd s (.var i) with
    | some ds => some (TV.d (.tuple (Y.cutD ds lo hi)), s)
    | none => ((seqL s (.var i)).bind lvs).map fun ds => (TV.t (.lst ((Y.cutD ds lo hi).map MV.d)), s)) = _
  have e0 : seqTd s (.var i) = none := by unfold seqTd; rw [h]
  have e1 : seqL s (.var i) = some (ds.map MV.d) := by unfold seqL; dsimp only; rw [h]
  rw [e0]
  show ((seqL s (.var i)).bind lvs).map _ = _
  rw [e1, Option.bind_some, lvs_map]
  rfl
theorem oSl_dl {s : SL} {ds : List PyData} {lo hi : Option Int} : oSl s (.d (.list ds)) lo hi = some (.t (.lst ((Y.cutD ds lo hi).map MV.d)), s) := by
  show ((some (ds.map MV.d)).bind lvs).map _ = _
  rw [Option.bind_some, lvs_map]
  rfl
theorem oIsN_none {s : SL} : oIsN false s (.d .none) (.d .none) = some (.d (.bool true), s) := Eq.trans rfl rfl
theorem oIsN_int {s : SL} {i : Int} : oIsN false s (.d (.int i)) (.d .none) = some (.d (.bool false), s) := Eq.trans rfl rfl
theorem lockd_w {s s' : SL} {i : Nat} {m : MV} {F : SL → Option SR} (h : s[i]? = some (some (.w m))) (e : F (s.set i (some (.k m))) = some (.nx s')) (h' : s'[i]? = some (some (.k m))) : lockd (some i) F s = some (.nx (s'.set i (some (.w m)))) := by
  show (match s[i]? with
    | some (some (.w m)) => unlR i false (F (s.set i (some (.k m))))
    | some (some (.p m)) => unlR i true (F (s.set i (some (.k m))))
    | _ => none) = _
  rw [h]
  show unlR i false (F (s.set i (some (.k m)))) = _
  rw [e]
  show (unl i false s').map SR.nx = _
  unfold unl
  rw [h']
  rfl
theorem truA_w {s : SL} {i : Nat} {ds : List PyData} (h : vw s (.var i) = some (.lst (ds.map MV.d))) : truA s (.var i) = some (!ds.isEmpty) := by
  have e1 : seqL s (.var i) = some (ds.map MV.d) := by unfold seqL; dsimp only; rw [h]
  show (match seqL s (.var i) with
    | some xs => some (!List.isEmpty xs)
    | none => (seqT s (.var i)).map fun xs => !List.isEmpty xs) = _
  rw [e1]
  cases ds <;> rfl
theorem vw_w {s : SL} {i : Nat} {m : MV} (h : s[i]? = some (some (.w m))) : vw s (.var i) = some m := by
  unfold vw
  dsimp only
  rw [h]
theorem oLenV_w {s : SL} {i : Nat} {ms : List MV} (h : s[i]? = some (some (.w (.lst ms)))) : vA oLenA s [.var i] = some (.d (.int (ms.length : Nat)), s) := by
  have ev := vw_w h
  show oLenA s [.var i] = _
  show (match vw s (.var i) with
    | some (.dK kvs) => some (TV.d (.int (kvs.length : Nat)), s)
    | some (.dT kvs) => some (TV.d (.int (kvs.length : Nat)), s)
    | _ => (lenA s (.var i)).map fun n => (TV.d (.int (n : Nat)), s)) = _
  rw [ev]
  show (lenA s (.var i)).map _ = _
  have e1 : seqT s (.var i) = none := by show seqTd s (.var i) = none; unfold seqTd; rw [ev]
  have e2 : seqL s (.var i) = some ms := by unfold seqL; dsimp only; rw [ev]
  unfold lenA
  dsimp only
  rw [e1, e2]
  rfl
theorem oLenV_tl {s : SL} {ds : List PyData} : vA oLenA s [.t (.lst (ds.map MV.d))] = some (.d (.int (ds.length : Nat)), s) := by
  show (some (.d (.int ((ds.map MV.d).length : Nat)), s) : Option (TV × SL)) = _
  rw [List.length_map]
theorem oTup_2 {s : SL} {x y : PyData} : oTup s [.d x, .d y] = some (.d (.tuple [x, y]), s) := if_pos (show 2 ≤ sizeLine by rw [sizeLine_eq]; omega)
theorem oTup_3 {s : SL} {x y z : PyData} : oTup s [.d x, .d y, .d z] = some (.d (.tuple [x, y, z]), s) := if_pos (show 3 ≤ sizeLine by rw [sizeLine_eq]; omega)
theorem strs_at {ps : List Str} {n : Nat} (h : n < ps.length) : (ps.map PyData.str)[n]? = some (.str ps[n]) := by rw [List.getElem?_map, List.getElem?_eq_getElem h]; rfl
theorem oAdd_dt {s : SL} {xs ys : List PyData} (h : xs.length + ys.length ≤ 16777216) : oAdd s (.d (.list xs)) (.t (.lst (ys.map MV.d))) = some (.t (.lst ((xs ++ ys).map MV.d)), s) := by
  show (lsD s (.d (.list xs))).bind (fun p => (lsD p.2 (.t (.lst (ys.map MV.d)))).bind fun q => if p.1.length + q.1.length ≤ sizeLine then some (TV.t (.lst ((p.1 ++ q.1).map MV.d)), q.2) else none) = _
  have e1 : lsD s (.d (.list xs)) = some (xs, s) := by unfold lsD; rw [show (seqM s (.d (.list xs))).bind lvs = some xs from lvs_map xs]
  have e2 : lsD s (.t (.lst (ys.map MV.d))) = some (ys, s) := by unfold lsD; rw [show (seqM s (.t (.lst (ys.map MV.d)))).bind lvs = some ys from lvs_map ys]
  rw [e1]
  show (lsD s (.t (.lst (ys.map MV.d)))).bind _ = _
  rw [e2]
  exact if_pos (by rw [sizeLine_eq]; exact h)
theorem oLst_1 {s : SL} {x : PyData} : oLst s [.d x] = some (.t (.lst [.d x]), s) := if_pos (show 1 ≤ sizeLine by rw [sizeLine_eq]; omega)
theorem oAdd_tt {s : SL} {xs ys : List PyData} (h : xs.length + ys.length ≤ 16777216) : oAdd s (.t (.lst (xs.map MV.d))) (.t (.lst (ys.map MV.d))) = some (.t (.lst ((xs ++ ys).map MV.d)), s) := by
  have e1 : ∀ zs : List PyData, lsD s (.t (.lst (zs.map MV.d))) = some (zs, s) := fun zs => by
    unfold lsD
    rw [show seqM s (.t (.lst (zs.map MV.d))) = some (zs.map MV.d) from rfl]
    show (match lvs (zs.map MV.d) with
      | some ds => some (ds, s)
      | none => _) = _
    rw [lvs_map]
  show (lsD s (.t (.lst (xs.map MV.d)))).bind (fun p => (lsD p.2 (.t (.lst (ys.map MV.d)))).bind fun q => if p.1.length + q.1.length ≤ sizeLine then some (TV.t (.lst ((p.1 ++ q.1).map MV.d)), q.2) else none) = _
  rw [e1, Option.bind_some]
  dsimp only
  rw [e1, Option.bind_some]
  dsimp only
  rw [if_pos (by rw [sizeLine_eq]; exact h)]
theorem rng_mem {n : Nat} {x : PyData} (h : x ∈ rng 0 n) : ∃ i, i < n ∧ x = .int (i : Nat) := by
  obtain ⟨i, h⟩ := List.getElem?_of_mem h
  obtain ⟨e, h2⟩ := rng_get0 h
  exact ⟨i, h2, e⟩
theorem mem_rng {n i : Nat} (h : i < n) : PyData.int (i : Nat) ∈ rng 0 n := by
  unfold rng
  exact List.mem_map.mpr ⟨i, List.mem_range.mpr h, by rw [Int.zero_add]⟩
theorem oAdd_tt1 {s : SL} {xs : List PyData} {y : PyData} (h : xs.length + [y].length ≤ 16777216) : oAdd s (.t (.lst (xs.map MV.d))) (.t (.lst [.d y])) = some (.t (.lst ((xs ++ [y]).map MV.d)), s) := oAdd_tt h
theorem oAdd_tt2 {s : SL} {xs : List PyData} {y z : PyData} (h : xs.length + [y, z].length ≤ 16777216) : oAdd s (.t (.lst (xs.map MV.d))) (.t (.lst [.d y, .d z])) = some (.t (.lst ((xs ++ [y, z]).map MV.d)), s) := oAdd_tt h
theorem aIsi_list {s : SL} {i : Nat} {ds : List PyData} (h : s[i]? = some (some (.d (.list ds)))) : aIsi "list" (aVar i) s = some (.ok (.d (.bool true)) s) := by
  have e : aVar i s = some (.ok (.d (.list ds)) s) := by
    unfold aVar
    rw [h]
  unfold aIsi
  rw [e]
  rfl
theorem snoc_ind {α : Type} {P : List α → Prop} (h0 : P []) (h1 : ∀ r a, P r → P (r ++ [a])) : ∀ l : List α, P l := fun l => by
  have : ∀ n (l : List α), l.length = n → P l := by
    intro n
    induction n with
    | zero => intro l h; rw [List.eq_nil_of_length_eq_zero h]; exact h0
    | succ n ih =>
      intro l h
      have hne : l ≠ [] := fun z => by rw [z] at h; cases h
      rw [← List.dropLast_concat_getLast hne]
      exact h1 _ _ (ih _ (by rw [List.length_dropLast]; omega))
  exact this _ l rfl
theorem len_ind {α : Type} {P : List α → Prop} (h : ∀ l, (∀ m : List α, m.length < l.length → P m) → P l) : ∀ l, P l := fun l => by
  have : ∀ (n : Nat) (l : List α), l.length < n → P l := by
    intro n
    induction n with
    | zero => intro l h; exact absurd h (Nat.not_lt_zero _)
    | succ n ih => intro l hl; exact h l fun m hm => ih m (by omega)
  exact this _ l (Nat.lt_succ_self _)
theorem fzK_w {s : SL} {i : Nat} {m : MV} {x : PyData} (h : s[i]? = some (some (.w m))) (hx : frz m = some x) : fzK (.var i) s = some (.ok (.d x) (s.set i (some (.d x)))) := by
  show (fz s (.var i)).map (fun r => Res.ok (TV.d r.1) r.2) = _
  have : fz s (.var i) = some (x, s.set i (some (.d x))) := by
    show (match s[i]? with
    | some (some (.d x)) => some (x, s)
    | _ => (wAt s i).bind fun m => (frz m).map fun x => (x, s.set i (some (.d x)))) = _
    rw [h]
    show (wAt s i).bind _ = _
    have : wAt s i = some m := by unfold wAt; rw [h]
    rw [this]
    show (frz m).map _ = _
    rw [hx]
    rfl
  rw [this]
  rfl
theorem eqvAll_map {α : Type} [DecidableEq α] (f : α → PyData) (hf : ∀ a b, PyData.eqv (f a) (f b) = decide (a = b)) : ∀ x y : List α, PyData.eqvAll (x.map f) (y.map f) = decide (x = y)
  | [], [] => rfl
  | [], _ :: _ => rfl
  | _ :: _, [] => rfl
  | a :: x, b :: y => by
    rw [List.map_cons, List.map_cons, PyData.eqvAll, hf, eqvAll_map f hf x y, Bool.eq_iff_iff, Bool.and_eq_true, decide_eq_true_eq, decide_eq_true_eq, decide_eq_true_eq, List.cons.injEq]
theorem frz_nil : frz (.lst []) = some (.list []) := frz_lst []
theorem oLst_2 {s : SL} {x y : PyData} : oLst s [.d x, .d y] = some (.t (.lst [.d x, .d y]), s) := if_pos (show 2 ≤ sizeLine by rw [sizeLine_eq]; omega)
theorem oIsB_is {s : SL} {a b : Bool} : oIsB false s (.d (.bool a)) (.d (.bool b)) = some (.d (.bool (a == b)), s) := Eq.trans rfl rfl
theorem oIsB_not {s : SL} {a b : Bool} : oIsB true s (.d (.bool a)) (.d (.bool b)) = some (.d (.bool (!(a == b))), s) := Eq.trans rfl rfl
theorem oEq_bool {s : SL} {a b : Bool} : oEq false s (.d (.bool a)) (.d (.bool b)) = some (.d (.bool (a == b)), s) := by
  cases a <;> cases b <;> rfl
theorem oNe_bool {s : SL} {a b : Bool} : oEq true s (.d (.bool a)) (.d (.bool b)) = some (.d (.bool (!(a == b))), s) := by
  cases a <;> cases b <;> rfl
theorem mulC2 {i j : Int} (h1 : 0 ≤ i) (h2 : i < 18446744073709551616) : CMulB i j = true := by
  unfold CMulB
  rw [decide_eq_true (show -(2 ^ 64) < i by omega), decide_eq_true (show i < 2 ^ 64 by omega)]
  rfl
theorem inF_strs (x : Str) (l : List Str) : inF (.str x) (l.map PyData.str) = (l.map tl).contains (tl x) := by
  unfold inF
  induction l with
  | nil => rfl
  | cons a r ih =>
    rw [List.map_cons, List.map_cons, List.any_cons, List.contains_cons, ih]
    congr 1
    show (a == x) = _
    rw [str_beq, Bool.eq_iff_iff, beq_iff_eq, beq_iff_eq]
    exact ⟨Eq.symm, Eq.symm⟩
theorem flat_strs (l : List Str) : (l.map PyData.str).all flatD = true := by
  rw [List.all_map]
  exact List.all_eq_true.mpr fun _ _ => rfl
theorem oIn2_tu {s : SL} {neg : Bool} {x : Str} {l : List Str} : oIn2 neg s (.d (.str x)) (.d (.tuple (l.map PyData.str))) = some (.d (.bool (if neg then !(l.map tl).contains (tl x) else (l.map tl).contains (tl x))), s) := by
  show (if flatD (.str x) = true ∧ (l.map PyData.str).all flatD = true then some (TV.d (.bool (if neg then !inF (.str x) (l.map PyData.str) else inF (.str x) (l.map PyData.str))), s) else none) = _
  rw [if_pos ⟨rfl, flat_strs l⟩, inF_strs]
theorem oIn2_c {s : SL} {neg : Bool} {x : Str} {l : List Str} : oIn2 neg s (.d (.str x)) (.c (l.map PyData.str)) = some (.d (.bool (if neg then !(l.map tl).contains (tl x) else (l.map tl).contains (tl x))), s) := by
  show (if flatD (.str x) = true ∧ (l.map PyData.str).all flatD = true then some (TV.d (.bool (if neg then !inF (.str x) (l.map PyData.str) else inF (.str x) (l.map PyData.str))), s) else none) = _
  rw [if_pos ⟨rfl, flat_strs l⟩, inF_strs]
theorem oIn2_s {s : SL} {neg : Bool} {u : Nat} {z : Str} : oIn2 neg s (.d (.str (mk [u]))) (.d (.str z)) = some (.d (.bool (if neg then !decide (u ∈ tl z) else decide (u ∈ tl z))), s) := Eq.trans rfl rfl
theorem oIx2_f {s : SL} {ms : List MV} {q : Int} {d : PyData} (h : lfAt ms q = some d) : oIx2 s (.t (.lst ms)) (.d (.int q)) = some (.d d, s) := by
  have e2 : oIx s (.t (.lst ms)) (.d (.int q)) = some (.d d, s) := by
    show (lfAt ms q).map (fun d => (TV.d d, s)) = _
    rw [h]
    rfl
  show oIxS s (.t (.lst ms)) (.d (.int q)) = _
  unfold oIxS
  rw [e2]
end Y

namespace Lw
open PySem PySem.Spec PyProof.Rows L2 Y
noncomputable section
def top (i : Nat) : Stmt := PySem.Challenge.pw_pactguild_k01_tokens_that_were_written.main.body.getD i (.Pass ⟨0, 0, 0, 0⟩)
abbrev c_DIGITS : Str := "0123456789"
abbrev c_MARKS : Str := "(){},;:|"
abbrev c_SMALL : Str := "abcdefghijklmnopqrstuvwxyz"
def c_WORDS_s : List Str := ["pact", "end", "choice", "both", "loop", "use"]
abbrev c_WORDS : List D := c_WORDS_s.map PyData.str
/-! ### _law_source(script): slots 0 script -/
abbrev s__law_source : Stmt := top 14
abbrev N__law_source : List Str := ["script"]
theorem sc__law_source : FnScope N__law_source ["script"] (defScope s__law_source) := ⟨rfl, rfl, rfl, by decide +kernel, rfl, by decide +kernel, by decide +kernel⟩
def b__law_source : AS := aRet (aCB oLst (aCons (aFz (aCB oList (aCons (aVar 0) (aNil)))) (aCons (aC (.int 0)) (aCons (aC (.int 0)) (aCons (aC (.int 7)) (aNil))))))
def den__law_source : Den := run 1 1 false b__law_source
theorem dok__law_source : DenOk den__law_source := run_ok
/-! ### _law_pick(source, many): slots 0 source, 1 many, 2 cell, 3 picked, 4 mixed -/
abbrev s__law_pick : Stmt := top 15
abbrev N__law_pick : List Str := ["source", "many", "cell", "picked", "mixed"]
theorem sc__law_pick : FnScope N__law_pick ["source", "many"] (defScope s__law_pick) := ⟨rfl, rfl, rfl, by decide +kernel, rfl, by decide +kernel, by decide +kernel⟩
def i__law_pick_0 : AS := aIfS (aAnd (aB (aOp (oEq false) (aOp oIx2 (aVar 0) (aC (.int 2))) (aC (.int 0)))) (aB (aOp oLtA (aOp oIx2 (aVar 0) (aC (.int 1))) (aCB (vA oLenA) (aCons (aOp oIx2 (aVar 0) (aC (.int 0))) (aNil)))))) (aSeq (aAsg (aOp oIx2 (aOp oIx2 (aVar 0) (aC (.int 0))) (aOp oIx2 (aVar 0) (aC (.int 1)))) (aNameF 2)) (aSeq (aPut (aOp oAdd (aOp oIx2 (aVar 0) (aC (.int 1))) (aC (.int 1))) (aVar 0) (aC (.int 1))) (aIfS (aB (aOp (oB0 fun i j => decide (j < i)) (aVar 2) (aOp (oI cPow fun i j => i ^ j.toNat) (aC (.int 10)) (aC (.int 18))))) (aPut (aOp (oI0 fun i j => i - j) (aVar 2) (aOp (oI cPow fun i j => i ^ j.toNat) (aC (.int 10)) (aC (.int 18)))) (aVar 0) (aC (.int 2))) (aPut (aOp (oI (fun _ j => decide (0 < j)) fun i j => i % j) (aCB oIntA (aCons (aOp oAdd (aOp oMul (aOp oIx2 (aVar 0) (aC (.int 3))) (aC (.int 16807))) (aVar 2)) (aNil))) (aC (.int 2147483647))) (aVar 0) (aC (.int 3)))))) (aNext)
def b__law_pick : AS := aSeq (i__law_pick_0) (aSeq (aKill [2]) (aSeq (aIfS (aB (aOp (oB0 fun i j => decide (j < i)) (aOp oIx2 (aVar 0) (aC (.int 2))) (aC (.int 0)))) (aSeq (aAsg (aOp (oI (fun _ j => decide (0 < j)) fun i j => i % j) (aCB oIntA (aCons (aOp oIx2 (aVar 0) (aC (.int 2))) (aNil))) (aVar 1)) (aNameF 3)) (aSeq (aPut (aOp (oI cDivW fun i j => i / j) (aOp oIx2 (aVar 0) (aC (.int 2))) (aVar 1)) (aVar 0) (aC (.int 2))) (aRet (aVar 3)))) (aNext)) (aSeq (aKill [3]) (aSeq (aPut (aOp (oI (fun _ j => decide (0 < j)) fun i j => i % j) (aCB oIntA (aCons (aOp oAdd (aOp oMul (aOp oIx2 (aVar 0) (aC (.int 3))) (aC (.int 48271))) (aC (.int 12345))) (aNil))) (aC (.int 2147483647))) (aVar 0) (aC (.int 3))) (aSeq (aAsg (aOp oMul (aOp oMul (aOp oAdd (aOp (oI (fun _ j => decide (0 < j)) fun i j => i % j) (aCB oIntA (aCons (aOp oIx2 (aVar 0) (aC (.int 3))) (aNil))) (aC (.int 46337))) (aC (.int 1))) (aOp oAdd (aOp (oI cDiv fun i j => i / j) (aOp oIx2 (aVar 0) (aC (.int 3))) (aC (.int 46337))) (aC (.int 7)))) (aC (.int 16807))) (aNameF 4)) (aRet (aOp (oI (fun _ j => decide (0 < j)) fun i j => i % j) (aOp (oI cDiv fun i j => i / j) (aOp (oI (fun _ j => decide (0 < j)) fun i j => i % j) (aCB oIntA (aCons (aVar 4) (aNil))) (aC (.int 2147483629))) (aC (.int 32))) (aVar 1))))))))
def den__law_pick : Den := run 2 5 false b__law_pick
theorem dok__law_pick : DenOk den__law_pick := run_ok
/-! ### _law_blank(source, least): slots 0 source, 1 least, 2 blank -/
abbrev s__law_blank : Stmt := top 19
abbrev N__law_blank : List Str := ["source", "least", "blank"]
theorem sc__law_blank : FnScope N__law_blank ["source", "least"] (defScope s__law_blank) := ⟨rfl, rfl, rfl, by decide +kernel, rfl, by decide +kernel, by decide +kernel⟩
def b__law_blank : AS := aSeq (aAsg (aOp oIx2 (aCB oLst (aCons (aC (.str "")) (aCons (aC (.str "")) (aCons (aC (.str " ")) (aCons (aC (.str "\n")) (aCons (aC (.str "  ")) (aCons (aC (.str " \n")) (aCons (aC (.str "\n ")) (aCons (aC (.str "\n\n")) (aCons (aC (.str "  \n ")) (aNil))))))))))) (aCallG false (den__law_pick) [.m 0, .f] (aCons (aVar 0) (aCons (aC (.int 9)) (aNil))))) (aNameF 2)) (aSeq (aIfS (aAnd (aB (aOp (oEq false) (aVar 2) (aC (.str "")))) (aB (aVar 1))) (aRet (aOp oIx2 (aCB oLst (aCons (aC (.str " ")) (aCons (aC (.str "\n")) (aNil)))) (aCallG false (den__law_pick) [.m 0, .f] (aCons (aVar 0) (aCons (aC (.int 2)) (aNil)))))) (aNext)) (aRet (aVar 2)))
def den__law_blank : Den := run 2 3 false b__law_blank
theorem dok__law_blank : DenOk den__law_blank := run_ok
/-! ### _law_spread(source, words): slots 0 source, 1 words, 2 signs, 3 text, 4 places, 5 k -/
abbrev s__law_spread : Stmt := top 20
abbrev N__law_spread : List Str := ["source", "words", "signs", "text", "places", "k"]
theorem sc__law_spread : FnScope N__law_spread ["source", "words"] (defScope s__law_spread) := ⟨rfl, rfl, rfl, by decide +kernel, rfl, by decide +kernel, by decide +kernel⟩
def f__law_spread_0 : AS := aSeq (aSeq (aAsg (aOp oAdd (aVar 3) (aCallG false (den__law_blank) [.m 0, .f] (aCons (aVar 0) (aCons (aAndV (aOp (oB0 fun i j => decide (j < i)) (aVar 5) (aC (.int 0))) (aAndV (aOp (oIn2 false) (aOp oIx2 (aOp oIx2 (aVar 1) (aVar 5)) (aC (.int 0))) (aVar 2)) (aOp (oIn2 false) (aOp oIx2 (aOp oIx2 (aVar 1) (aOp (oI0 fun i j => i - j) (aVar 5) (aC (.int 1)))) (aUn rNeg (aC (.int 1)))) (aVar 2)))) (aNil))))) (aNameF 3)) (aSeq (aDrop (aBM "list" mAppend (aVar 4) (aCons (aCB (vA oLenA) (aCons (aVar 3) (aNil))) (aNil)))) (aAsg (aOp oAdd (aVar 3) (aOp oIx2 (aVar 1) (aVar 5))) (aNameF 3)))) (aKill [5])
def b__law_spread : AS := aSeq (aAsg (aC (.str "abcdefghijklmnopqrstuvwxyz0123456789")) (aNameF 2)) (aSeq (aAsg (aCallG false (den__law_blank) [.m 0, .f] (aCons (aVar 0) (aCons (aC (.bool false)) (aNil)))) (aNameF 3)) (aSeq (aAsg (aCB oLst (aNil)) (aName 4)) (aSeq (aKill [5]) (aSeq (aFor (aRng1 (aCons (aCB (vA oLenA) (aCons (aVar 1) (aNil))) (aNil))) (aNameF 5) (f__law_spread_0)) (aSeq (aKill [5]) (aRet (aCB oTup (aCons (aOp oAdd (aVar 3) (aCallG false (den__law_blank) [.m 0, .f] (aCons (aVar 0) (aCons (aC (.bool false)) (aNil))))) (aCons (aVar 4) (aNil))))))))))
def den__law_spread : Den := run 2 6 false b__law_spread
theorem dok__law_spread : DenOk den__law_spread := run_ok
/-! ### _law_due(words, places): slots 0 words, 1 places, 2 tokens, 3 k, 4 kind -/
abbrev s__law_due : Stmt := top 22
abbrev N__law_due : List Str := ["words", "places", "tokens", "k", "kind"]
theorem sc__law_due : FnScope N__law_due ["words", "places"] (defScope s__law_due) := ⟨rfl, rfl, rfl, by decide +kernel, rfl, by decide +kernel, by decide +kernel⟩
def f__law_due_0 : AS := aSeq (aSeq (aAsg (aC (.str "name")) (aNameF 4)) (aSeq (aIfS (aB (aOp (oIn2 false) (aOp oIx2 (aVar 0) (aVar 3)) (aCB oTup (aCons (aC (.str "pact")) (aCons (aC (.str "end")) (aCons (aC (.str "choice")) (aCons (aC (.str "both")) (aCons (aC (.str "loop")) (aCons (aC (.str "use")) (aNil)))))))))) (aAsg (aC (.str "word")) (aNameF 4)) (aIfS (aB (aOp (oIn2 true) (aOp oIx2 (aOp oIx2 (aVar 0) (aVar 3)) (aC (.int 0))) (aC (.str "abcdefghijklmnopqrstuvwxyz")))) (aAsg (aC (.str "mark")) (aNameF 4)) (aNext))) (aDrop (aBM "list" mAppend (aVar 2) (aCons (aCB oTup (aCons (aVar 4) (aCons (aOp oIx2 (aVar 0) (aVar 3)) (aCons (aOp oIx2 (aVar 1) (aVar 3)) (aNil))))) (aNil)))))) (aKill [3, 4])
def b__law_due : AS := aSeq (aAsg (aCB oLst (aNil)) (aName 2)) (aSeq (aKill [3, 4]) (aSeq (aFor (aRng1 (aCons (aCB (vA oLenA) (aCons (aVar 0) (aNil))) (aNil))) (aNameF 3) (f__law_due_0)) (aSeq (aKill [3, 4]) (aRet (aVar 2)))))
def den__law_due : Den := run 2 5 false b__law_due
theorem dok__law_due : DenOk den__law_due := run_ok
/-! ### run_end(text, start): slots 0 text, 1 start, 2 end -/
abbrev s_run_end : Stmt := top 10
abbrev N_run_end : List Str := ["text", "start", "end"]
theorem sc_run_end : FnScope N_run_end ["text", "start"] (defScope s_run_end) := ⟨rfl, rfl, rfl, by decide +kernel, rfl, by decide +kernel, by decide +kernel⟩
def f_run_end_0 : AS := aAug 2 (aC (.int 1)) ipAdd
def b_run_end : AS := aSeq (aAsg (aVar 1) (aNameF 2)) (aSeq (aWhile (aAnd (aB (aOp oLtA (aVar 2) (aCB (vA oLenA) (aCons (aVar 0) (aNil))))) (aOr (aB (aOp (oIn2 false) (aOp oIx2 (aVar 0) (aVar 2)) (aC (.str c_SMALL)))) (aB (aOp (oIn2 false) (aOp oIx2 (aVar 0) (aVar 2)) (aC (.str c_DIGITS)))))) (f_run_end_0)) (aRet (aVar 2)))
def den_run_end : Den := run 2 3 false b_run_end
theorem dok_run_end : DenOk den_run_end := run_ok
/-! ### is_name_form(run): slots 0 run, 1 char -/
abbrev s_is_name_form : Stmt := top 9
abbrev N_is_name_form : List Str := ["run", "char"]
theorem sc_is_name_form : FnScope N_is_name_form ["run"] (defScope s_is_name_form) := ⟨rfl, rfl, rfl, by decide +kernel, rfl, by decide +kernel, by decide +kernel⟩
def b_is_name_form : AS := aSeq (aIfS (aOr (aB (aOp (oEq false) (aVar 0) (aC (.str "")))) (aOr (aB (aOp (oB0 fun i j => decide (j < i)) (aCB (vA oLenA) (aCons (aVar 0) (aNil))) (aC (.int 12)))) (aB (aOp (oIn2 true) (aOp oIx2 (aVar 0) (aC (.int 0))) (aC (.str c_SMALL)))))) (aRet (aC (.bool false))) (aNext)) (aRet (aOp (oEq false) (aLc (aIt (aVar 0)) (aNameF 1) (aAnd (aB (aOp (oIn2 true) (aVar 1) (aC (.str c_SMALL)))) (aB (aOp (oIn2 true) (aVar 1) (aC (.str c_DIGITS))))) (aVar 1) [1]) (aCB oLst (aNil))))
def den_is_name_form : Den := run 1 2 false b_is_name_form
theorem dok_is_name_form : DenOk den_is_name_form := run_ok
/-! ### run_token(run, start): slots 0 run, 1 start -/
abbrev s_run_token : Stmt := top 11
abbrev N_run_token : List Str := ["run", "start"]
theorem sc_run_token : FnScope N_run_token ["run", "start"] (defScope s_run_token) := ⟨rfl, rfl, rfl, by decide +kernel, rfl, by decide +kernel, by decide +kernel⟩
def b_run_token : AS := aSeq (aIfS (aNot (aB (aCallG false (den_is_name_form) [.f] (aCons (aVar 0) (aNil))))) (aNever) (aNext)) (aSeq (aIfS (aB (aOp (oIn2 false) (aVar 0) (aXT c_WORDS))) (aRet (aCB oTup (aCons (aC (.str "word")) (aCons (aVar 0) (aCons (aVar 1) (aNil)))))) (aNext)) (aRet (aCB oTup (aCons (aC (.str "name")) (aCons (aVar 0) (aCons (aVar 1) (aNil)))))))
def den_run_token : Den := run 2 2 false b_run_token
theorem dok_run_token : DenOk den_run_token := run_ok
/-! ### tokenize(text): slots 0 text, 1 found, 2 at, 3 char, 4 end -/
abbrev s_tokenize : Stmt := top 12
abbrev N_tokenize : List Str := ["text", "found", "at", "char", "end"]
theorem sc_tokenize : FnScope N_tokenize ["text"] (defScope s_tokenize) := ⟨rfl, rfl, rfl, by decide +kernel, rfl, by decide +kernel, by decide +kernel⟩
def i_tokenize_0 : AS := aIfS (aB (aOp (oEq false) (aSl (aVar 0) (aPart (aVar 2)) (aPart (aOp oAdd (aVar 2) (aC (.int 2))))) (aC (.str "->")))) (aSeq (aDrop (aBM "list" mAppend (aVar 1) (aCons (aCB oTup (aCons (aC (.str "mark")) (aCons (aC (.str "->")) (aCons (aVar 2) (aNil))))) (aNil)))) (aAug 2 (aC (.int 2)) ipAdd)) (aIfS (aB (aOp (oIn2 false) (aVar 3) (aC (.str c_MARKS)))) (aSeq (aDrop (aBM "list" mAppend (aVar 1) (aCons (aCB oTup (aCons (aC (.str "mark")) (aCons (aVar 3) (aCons (aVar 2) (aNil))))) (aNil)))) (aAug 2 (aC (.int 1)) ipAdd)) (aNever))
def i_tokenize_1 : AS := aIfS (aOr (aB (aOp (oIn2 false) (aVar 3) (aC (.str c_SMALL)))) (aB (aOp (oIn2 false) (aVar 3) (aC (.str c_DIGITS))))) (aSeq (aAsg (aCallG false (den_run_end) [.f, .f] (aCons (aVar 0) (aCons (aVar 2) (aNil)))) (aNameF 4)) (aSeq (aDrop (aBM "list" mAppend (aVar 1) (aCons (aCallG false (den_run_token) [.f, .f] (aCons (aSl (aVar 0) (aPart (aVar 2)) (aPart (aVar 4))) (aCons (aVar 2) (aNil)))) (aNil)))) (aAsg (aVar 4) (aNameF 2)))) (i_tokenize_0)
def i_tokenize_2 : AS := aIfS (aOr (aB (aOp (oEq false) (aVar 3) (aC (.str " ")))) (aB (aOp (oEq false) (aVar 3) (aC (.str "\n"))))) (aAug 2 (aC (.int 1)) ipAdd) (i_tokenize_1)
def f_tokenize_3 : AS := aSeq (aSeq (aAsg (aOp oIx2 (aVar 0) (aVar 2)) (aNameF 3)) (i_tokenize_2)) (aKill [3, 4])
def b_tokenize : AS := aSeq (aAsg (aCB oLst (aNil)) (aName 1)) (aSeq (aAsg (aC (.int 0)) (aNameF 2)) (aSeq (aKill [3, 4]) (aSeq (aWhile (aB (aOp oLtA (aVar 2) (aCB (vA oLenA) (aCons (aVar 0) (aNil))))) (f_tokenize_3)) (aSeq (aKill [2, 3, 4]) (aRet (aVar 1))))))
def den_tokenize : Den := run 1 5 false b_tokenize
theorem dok_tokenize : DenOk den_tokenize := run_ok
/-! ### _law_name(source, taken): slots 0 source, 1 taken, 2 letters, 3 name, 4 k, 5 spare, 6 one -/
abbrev s__law_name : Stmt := top 16
abbrev N__law_name : List Str := ["source", "taken", "letters", "name", "k", "spare", "one"]
theorem sc__law_name : FnScope N__law_name ["source", "taken"] (defScope s__law_name) := ⟨rfl, rfl, rfl, by decide +kernel, rfl, by decide +kernel, by decide +kernel⟩
def f__law_name_0 : AS := aAsg (aOp oAdd (aVar 3) (aOp oIx2 (aVar 2) (aCallG false (den__law_pick) [.m 0, .f] (aCons (aVar 0) (aCons (aC (.int 36)) (aNil)))))) (aNameF 3)
def b__law_name : AS := aSeq (aAsg (aC (.str "abcdefghijklmnopqrstuvwxyz0123456789")) (aNameF 2)) (aSeq (aAsg (aOp oIx2 (aVar 2) (aCallG false (den__law_pick) [.m 0, .f] (aCons (aVar 0) (aCons (aC (.int 26)) (aNil))))) (aNameF 3)) (aSeq (aFor (aRng1 (aCons (aOp oIx2 (aCB oLst (aCons (aC (.int 0)) (aCons (aC (.int 0)) (aCons (aC (.int 1)) (aCons (aC (.int 2)) (aCons (aCallG false (den__law_pick) [.m 0, .f] (aCons (aVar 0) (aCons (aC (.int 12)) (aNil)))) (aNil))))))) (aCallG false (den__law_pick) [.m 0, .f] (aCons (aVar 0) (aCons (aC (.int 5)) (aNil))))) (aNil))) (aNameF 4) (f__law_name_0)) (aSeq (aIfS (aOr (aB (aOp (oIn2 false) (aVar 3) (aVar 1))) (aB (aOp (oIn2 false) (aVar 3) (aCB oTup (aCons (aC (.str "pact")) (aCons (aC (.str "end")) (aCons (aC (.str "choice")) (aCons (aC (.str "both")) (aCons (aC (.str "loop")) (aCons (aC (.str "use")) (aNil))))))))))) (aSeq (aAsg (aLc (aRng1 (aCons (aOp oAdd (aCB (vA oLenA) (aCons (aVar 1) (aNil))) (aC (.int 1))) (aNil))) (aNameF 4) (aYes) (aOp oAdd (aC (.str "q")) (aCB oStr (aCons (aVar 4) (aNil)))) [4]) (aNameF 5)) (aRet (aOp oIx2 (aLc (aIt (aVar 5)) (aNameF 6) (aB (aOp (oIn2 true) (aVar 6) (aVar 1))) (aVar 6) [6]) (aC (.int 0))))) (aNext)) (aSeq (aKill [5]) (aRet (aVar 3))))))
def den__law_name : Den := run 2 7 false b__law_name
theorem dok__law_name : DenOk den__law_name := run_ok
/-! ### _law_token(source): slots 0 source, 1 kind, 2 word -/
abbrev s__law_token : Stmt := top 21
abbrev N__law_token : List Str := ["source", "kind", "word"]
theorem sc__law_token : FnScope N__law_token ["source"] (defScope s__law_token) := ⟨rfl, rfl, rfl, by decide +kernel, rfl, by decide +kernel, by decide +kernel⟩
def b__law_token : AS := aSeq (aAsg (aCallG false (den__law_pick) [.m 0, .f] (aCons (aVar 0) (aCons (aC (.int 5)) (aNil)))) (aNameF 1)) (aSeq (aIfS (aB (aOp (oEq false) (aVar 1) (aC (.int 0)))) (aRet (aOp oIx2 (aCB oLst (aCons (aC (.str "pact")) (aCons (aC (.str "end")) (aCons (aC (.str "choice")) (aCons (aC (.str "both")) (aCons (aC (.str "loop")) (aCons (aC (.str "use")) (aNil)))))))) (aCallG false (den__law_pick) [.m 0, .f] (aCons (aVar 0) (aCons (aC (.int 6)) (aNil)))))) (aNext)) (aSeq (aIfS (aB (aOp (oEq false) (aVar 1) (aC (.int 1)))) (aSeq (aAsg (aOp oIx2 (aCB oLst (aCons (aC (.str "pact")) (aCons (aC (.str "end")) (aCons (aC (.str "choice")) (aCons (aC (.str "both")) (aCons (aC (.str "loop")) (aCons (aC (.str "use")) (aNil)))))))) (aCallG false (den__law_pick) [.m 0, .f] (aCons (aVar 0) (aCons (aC (.int 6)) (aNil))))) (aNameF 2)) (aRet (aOp oIx2 (aCB oLst (aCons (aOp oAdd (aVar 2) (aC (.str "s"))) (aCons (aOp oAdd (aSl (aVar 2) (aNoPart) (aPart (aUn rNeg (aC (.int 1))))) (aC (.str "1"))) (aCons (aOp oAdd (aVar 2) (aVar 2)) (aCons (aOp oAdd (aC (.str "x")) (aVar 2)) (aCons (aSl (aVar 2) (aPart (aC (.int 1))) (aNoPart)) (aNil))))))) (aCallG false (den__law_pick) [.m 0, .f] (aCons (aVar 0) (aCons (aC (.int 5)) (aNil))))))) (aNext)) (aSeq (aKill [2]) (aSeq (aIfS (aB (aOp (oEq false) (aVar 1) (aC (.int 2)))) (aRet (aCallG false (den__law_name) [.m 0, .f] (aCons (aVar 0) (aCons (aCB oLst (aNil)) (aNil))))) (aNext)) (aRet (aOp oIx2 (aCB oLst (aCons (aC (.str "->")) (aCons (aC (.str "(")) (aCons (aC (.str ")")) (aCons (aC (.str "{")) (aCons (aC (.str "}")) (aCons (aC (.str ",")) (aCons (aC (.str ";")) (aCons (aC (.str ":")) (aCons (aC (.str "|")) (aNil))))))))))) (aCallG false (den__law_pick) [.m 0, .f] (aCons (aVar 0) (aCons (aC (.int 9)) (aNil))))))))))
def den__law_token : Den := run 1 3 false b__law_token
theorem dok__law_token : DenOk den__law_token := run_ok
/-! ### _law_same(actual, due): slots 0 actual, 1 due, 2 k -/
abbrev s__law_same : Stmt := top 18
abbrev N__law_same : List Str := ["actual", "due", "k"]
theorem sc__law_same : FnScope N__law_same ["actual", "due"] (defScope s__law_same) := ⟨rfl, rfl, rfl, by decide +kernel, rfl, by decide +kernel, by decide +kernel⟩
def f__law_same_0 (pr : Den) : AS := aSeq (aIfS (aNot (aB (aCallG false (pr) [.f, .f] (aCons (aOp oIx2 (aVar 0) (aVar 2)) (aCons (aOp oIx2 (aVar 1) (aVar 2)) (aNil)))))) (aRet (aC (.bool false))) (aNext)) (aKill [2])
def b__law_same (pr : Den) : AS := aSeq (aIfS (aB (aOp (oIsN false) (aVar 1) (aC .none))) (aRet (aOp (oIsN false) (aVar 0) (aC .none))) (aNext)) (aSeq (aIfS (aB (aIsi "bool" (aVar 1))) (aRet (aAndV (aIsi "bool" (aVar 0)) (aOp (oEq false) (aVar 0) (aVar 1)))) (aNext)) (aSeq (aIfS (aB (aIsi "int" (aVar 1))) (aRet (aAndV (aIsi "int" (aVar 0)) (aAndV (aNotV (aIsi "bool" (aVar 0))) (aOp (oEq false) (aVar 0) (aVar 1))))) (aNext)) (aSeq (aIfS (aB (aIsi "str" (aVar 1))) (aRet (aAndV (aIsi "str" (aVar 0)) (aOp (oEq false) (aVar 0) (aVar 1)))) (aNext)) (aSeq (aIfS (aOr (aB (aOp (oEq true) (aIsi "list" (aVar 1)) (aIsi "list" (aVar 0)))) (aB (aOp (oEq true) (aIsi "tuple" (aVar 1)) (aIsi "tuple" (aVar 0))))) (aRet (aC (.bool false))) (aNext)) (aSeq (aIfS (aB (aOp (oEq true) (aCB (vA oLenA) (aCons (aVar 0) (aNil))) (aCB (vA oLenA) (aCons (aVar 1) (aNil))))) (aRet (aC (.bool false))) (aNext)) (aSeq (aKill [2]) (aSeq (aFor (aRng1 (aCons (aCB (vA oLenA) (aCons (aVar 1) (aNil))) (aNil))) (aNameF 2) (f__law_same_0 pr)) (aSeq (aKill [2]) (aRet (aC (.bool true)))))))))))
def den__law_same : Nat → Den
  | 0 => run 2 3 false aNever
  | d + 1 => run 2 3 false (b__law_same (den__law_same d))
theorem dok__law_same : ∀ d, DenOk (den__law_same d)
  | 0 => run_ok
  | d + 1 => run_ok
/-! ### law(script): slots 0 script, 1 source, 2 k, 3 words, 4 text, 5 places, 6 due, 7 told, 8 j -/
abbrev s_law : Stmt := top 23
abbrev N_law : List Str := ["script", "source", "k", "words", "text", "places", "due", "told", "j"]
theorem sc_law : FnScope N_law ["script"] (defScope s_law) := ⟨rfl, rfl, rfl, by decide +kernel, rfl, by decide +kernel, by decide +kernel⟩
def f_law_0 : AS := aSeq (aSeq (aAsg (aLc (aRng1 (aCons (aCallG false (den__law_pick) [.m 1, .f] (aCons (aVar 1) (aCons (aC (.int 31)) (aNil)))) (aNil))) (aNameF 8) (aYes) (aCallG false (den__law_token) [.m 1] (aCons (aVar 1) (aNil))) [8]) (aNameF 3)) (aSeq (aAsg (aCallG false (den__law_spread) [.m 1, .f] (aCons (aVar 1) (aCons (aVar 3) (aNil)))) (aGTup 2 (aGCons (aNameF 4) (aGCons (aNameF 5) (aGNil))))) (aSeq (aAsg (aCallG false (den__law_due) [.f, .f] (aCons (aVar 3) (aCons (aVar 5) (aNil)))) (aNameF 6)) (aSeq (aAsg (aCallG false (den_tokenize) [.f] (aCons (aVar 4) (aNil))) (aName 7)) (aSeq (aIfS (aNot (aB (aCallG false (den__law_same 4) [.r 7, .f] (aCons (aVar 7) (aCons (aVar 6) (aNil)))))) (aRet (aC (.bool false))) (aNext)) (aSeq (aDrop (aBM "list" mAppend (aVar 7) (aCons (aCB oTup (aCons (aC (.str "mark")) (aCons (aC (.str ";")) (aCons (aC (.int 0)) (aNil))))) (aNil)))) (aIfS (aNot (aB (aCallG false (den__law_same 4) [.f, .f] (aCons (aCallG false (den_tokenize) [.f] (aCons (aVar 4) (aNil))) (aCons (aVar 6) (aNil)))))) (aRet (aC (.bool false))) (aNext)))))))) (aKill [2, 3, 4, 5, 6, 7])
def b_law : AS := aSeq (aAsg (aCallG false (den__law_source) [.f] (aCons (aVar 0) (aNil))) (aName 1)) (aSeq (aKill [2, 3, 4, 5, 6, 7]) (aSeq (aFor (aRng1 (aCons (aOp oAdd (aC (.int 5)) (aCB oMin (aCons (aC (.int 60)) (aCons (aCB (vA oLenA) (aCons (aVar 0) (aNil))) (aNil))))) (aNil))) (aNameF 2) (f_law_0)) (aSeq (aKill [2, 3, 4, 5, 6, 7]) (aRet (aC (.bool true))))))
def den_law : Den := run 1 9 false b_law
theorem dok_law : DenOk den_law := run_ok
theorem dv__law_source {P : Program} {w : World} {K : PySem.W.Frag} {mg : Str → Option Value} {base : Heap} (z_list : mg "list" = none) {f : Addr} {cdv : Value} {A : Around} {outer : List Env} {s : Shared} {H : Hp} {E : XK} (hr : Room 0 (A.deeper (envOfC "_law_source" (defScope s__law_source) s.heap.objs.size f cdv))) : PSs (cxOf CX0 P w K mg base N__law_source "_law_source" (defScope s__law_source) f cdv A outer s H E).nox (defBody s__law_source) (sL K (fun _ _ _ _ => False) b__law_source) := by
  exact (ss_one (s_ret (e_lst (a_cons (e_fz (e_callTy call_list_of co_list (by rfl) z_list (by decide +kernel) (a_cons (ev 0) a_nil))) (a_cons e_int (a_cons e_int (a_cons e_int a_nil)))))))
theorem dv__law_pick {P : Program} {w : World} {K : PySem.W.Frag} {mg : Str → Option Value} {base : Heap} (z_int : mg "int" = none) (z_len : mg "len" = none) {f : Addr} {cdv : Value} {A : Around} {outer : List Env} {s : Shared} {H : Hp} {E : XK} (hr : Room 0 (A.deeper (envOfC "_law_pick" (defScope s__law_pick) s.heap.objs.size f cdv))) : PSs (cxOf CX0 P w K mg base N__law_pick "_law_pick" (defScope s__law_pick) f cdv A outer s H E).nox (defBody s__law_pick) (sL K (fun _ _ _ _ => False) b__law_pick) := by
  exact (ss_cons (s_if (t_w (w_and (t_cmp (op_eqD hr.units) co_Eq (e_sub hr.units1 (ev 0) e_int (fun _ _ => rfl) (fun _ _ => rfl)) e_int (nomark _)) (w_and1 (t_cmp (op_LtA hr.units1) co_LtA (e_sub hr.units1 (ev 0) e_int (fun _ _ => rfl) (fun _ _ => rfl)) (e_callB call_lenB (co_vA co_lenA) (by rfl) z_len PySem.boot_len (a_cons (e_sub hr.units1 (ev 0) e_int (fun _ _ => rfl) (fun _ _ => rfl)) a_nil)) (nomark _))))) (ss_cons (s_setF (i := 2) sc__law_pick.nd rfl (Or.inl rfl) (e_sub hr.units1 (e_sub hr.units1 (ev 0) e_int (fun _ _ => rfl) (fun _ _ => rfl)) (e_sub hr.units1 (ev 0) e_int (fun _ _ => rfl) (fun _ _ => rfl)) (fun _ _ => rfl) (fun _ _ => rfl)))
    (ss_cons (s_put hr.units1 (e_op op_Add co_Add (e_sub hr.units1 (ev 0) e_int (fun _ _ => rfl) (fun _ _ => rfl)) e_int) (ev 0) e_int)
    (ss_one (s_if (t_cmp op_gt co_B0 (ev 2) (e_op op_pow (co_I cPow_ok) e_int e_int) (nomark _)) (ss_one (s_put hr.units1 (e_op op_sub co_I0 (ev 2) (e_op op_pow (co_I cPow_ok) e_int e_int)) (ev 0) e_int)) (ss_one (s_put hr.units1 (e_op op_mod (co_I hMod) (e_callTy call_intA co_intA (by rfl) z_int (by decide +kernel) (a_cons (e_op op_Add co_Add (e_op op_Mul co_Mul (e_sub hr.units1 (ev 0) e_int (fun _ _ => rfl) (fun _ _ => rfl)) e_int) (ev 2)) a_nil)) e_int) (ev 0) e_int)))))) ss_nil)
    (ss_kill [2] (ss_cons (s_if (t_cmp op_gt co_B0 (e_sub hr.units1 (ev 0) e_int (fun _ _ => rfl) (fun _ _ => rfl)) e_int (nomark _)) (ss_cons (s_setF (i := 3) sc__law_pick.nd rfl (Or.inl rfl) (e_op op_mod (co_I hMod) (e_callTy call_intA co_intA (by rfl) z_int (by decide +kernel) (a_cons (e_sub hr.units1 (ev 0) e_int (fun _ _ => rfl) (fun _ _ => rfl)) a_nil)) (ev 1)))
    (ss_cons (s_put hr.units1 (e_op op_fdivW (co_I cDivW_ok) (e_sub hr.units1 (ev 0) e_int (fun _ _ => rfl) (fun _ _ => rfl)) (ev 1)) (ev 0) e_int)
    (ss_one (s_ret (ev 3))))) ss_nil)
    (ss_kill [3] (ss_cons (s_put hr.units1 (e_op op_mod (co_I hMod) (e_callTy call_intA co_intA (by rfl) z_int (by decide +kernel) (a_cons (e_op op_Add co_Add (e_op op_Mul co_Mul (e_sub hr.units1 (ev 0) e_int (fun _ _ => rfl) (fun _ _ => rfl)) e_int) e_int) a_nil)) e_int) (ev 0) e_int)
    (ss_cons (s_setF (i := 4) sc__law_pick.nd rfl (Or.inl rfl) (e_op op_Mul co_Mul (e_op op_Mul co_Mul (e_op op_Add co_Add (e_op op_mod (co_I hMod) (e_callTy call_intA co_intA (by rfl) z_int (by decide +kernel) (a_cons (e_sub hr.units1 (ev 0) e_int (fun _ _ => rfl) (fun _ _ => rfl)) a_nil)) e_int) e_int) (e_op op_Add co_Add (e_op op_fdiv (co_I cDiv_ok) (e_sub hr.units1 (ev 0) e_int (fun _ _ => rfl) (fun _ _ => rfl)) e_int) e_int)) e_int))
    (ss_one (s_ret (e_op op_mod (co_I hMod) (e_op op_fdiv (co_I cDiv_ok) (e_op op_mod (co_I hMod) (e_callTy call_intA co_intA (by rfl) z_int (by decide +kernel) (a_cons (ev 4) a_nil)) e_int) e_int) (ev 1))))))))))
theorem dv__law_blank {P : Program} {w : World} {K : PySem.W.Frag} {mg : Str → Option Value} {base : Heap} (h__law_pick : Ok P w K mg base CX0 1 "_law_pick" ["source", "many"] (den__law_pick)) {f : Addr} {cdv : Value} {A : Around} {outer : List Env} {s : Shared} {H : Hp} {E : XK} (hr : Room 1 (A.deeper (envOfC "_law_blank" (defScope s__law_blank) s.heap.objs.size f cdv))) : PSs (cxOf CX0 P w K mg base N__law_blank "_law_blank" (defScope s__law_blank) f cdv A outer s H E).nox (defBody s__law_blank) (sL K (fun _ _ _ _ => False) b__law_blank) := by
  exact (ss_cons (s_setF (i := 2) sc__law_blank.nd rfl (Or.inl rfl) (e_sub hr.units1 (e_lst (a_cons e_str (a_cons e_str (a_cons e_str (a_cons e_str (a_cons e_str (a_cons e_str (a_cons e_str (a_cons e_str (a_cons e_str a_nil)))))))))) (e_call (ms := [.m 0, .f]) h__law_pick dok__law_pick rfl pass0 (hr.mono (by decide)) (by rfl) (a_cons (ev 0) (a_cons e_int a_nil))) (fun _ _ => rfl) (fun _ _ => rfl)))
    (ss_cons (s_if (t_w (w_and (t_cmp (op_eqD hr.units) co_Eq (ev 2) e_str (nomark _)) (w_and1 (t_val (ev 1))))) (ss_one (s_ret (e_sub hr.units1 (e_lst (a_cons e_str (a_cons e_str a_nil))) (e_call (ms := [.m 0, .f]) h__law_pick dok__law_pick rfl pass0 (hr.mono (by decide)) (by rfl) (a_cons (ev 0) (a_cons e_int a_nil))) (fun _ _ => rfl) (fun _ _ => rfl)))) ss_nil)
    (ss_one (s_ret (ev 2)))))
theorem dv__law_spread {P : Program} {w : World} {K : PySem.W.Frag} {mg : Str → Option Value} {base : Heap} (z_len : mg "len" = none) (z_range : mg "range" = none) (h__law_blank : Ok P w K mg base CX0 2 "_law_blank" ["source", "least"] (den__law_blank)) {f : Addr} {cdv : Value} {A : Around} {outer : List Env} {s : Shared} {H : Hp} {E : XK} (hr : Room 2 (A.deeper (envOfC "_law_spread" (defScope s__law_spread) s.heap.objs.size f cdv))) : PSs (cxOf CX0 P w K mg base N__law_spread "_law_spread" (defScope s__law_spread) f cdv A outer s H E).nox (defBody s__law_spread) (sL K (fun _ _ _ _ => False) b__law_spread) := by
  exact (ss_cons (s_setF (i := 2) sc__law_spread.nd rfl (Or.inl rfl) e_str)
    (ss_cons (s_setF (i := 3) sc__law_spread.nd rfl (Or.inl rfl) (e_call (ms := [.m 0, .f]) h__law_blank dok__law_blank rfl pass0 (hr.mono (by decide)) (by rfl) (a_cons (ev 0) (a_cons e_bl a_nil))))
    (ss_cons (s_set (i := 4) sc__law_spread.nd rfl (Or.inl rfl) (e_lst a_nil))
    (ss_kill [5] (ss_cons (s_for (gt := gName 5) PassesOwn.never rfl (i_range1 (by rfl) z_range (a_cons (e_callB call_lenB (co_vA co_lenA) (by rfl) z_len PySem.boot_len (a_cons (ev 1) a_nil)) a_nil)) (pg_name (i := 5) sc__law_spread.nd rfl (Or.inl rfl)) gr_nameF (ss_killE [5] (ss_cons (s_setF (i := 3) sc__law_spread.nd rfl (Or.inl rfl) (e_op op_Add co_Add (ev 3) (e_call (ms := [.m 0, .f]) h__law_blank dok__law_blank rfl pass0 (hr.mono (by decide)) (by rfl) (a_cons (ev 0) (a_cons (e_and (e_cmp op_gt co_B0 (ev 5) e_int (nomark _)) (e_and (e_in hr.units1 (e_sub hr.units1 (e_sub hr.units1 (ev 1) (ev 5) (fun _ _ => rfl) (fun _ _ => rfl)) e_int (fun _ _ => rfl) (fun _ _ => rfl)) (ev 2)) (e_one (e_in hr.units1 (e_sub hr.units1 (e_sub hr.units1 (ev 1) (e_op op_sub co_I0 (ev 5) e_int) (fun _ _ => rfl) (fun _ _ => rfl)) (e_neg e_int) (fun _ _ => rfl) (fun _ _ => rfl)) (ev 2))))) a_nil)))))
    (ss_cons (s_expr (e_bm PySem.F.plainAttrs_list PySem.F.slot_list_append PySem.F.type_list_append mt_append co_append (ev 4) (a_cons (e_callB call_lenB (co_vA co_lenA) (by rfl) z_len PySem.boot_len (a_cons (ev 3) a_nil)) a_nil)))
    (ss_one (s_setF (i := 3) sc__law_spread.nd rfl (Or.inl rfl) (e_op op_Add co_Add (ev 3) (e_sub hr.units1 (ev 1) (ev 5) (fun _ _ => rfl) (fun _ _ => rfl)))))))))
    (ss_kill [5] (ss_one (s_ret (e_tup (a_cons (e_op op_Add co_Add (ev 3) (e_call (ms := [.m 0, .f]) h__law_blank dok__law_blank rfl pass0 (hr.mono (by decide)) (by rfl) (a_cons (ev 0) (a_cons e_bl a_nil)))) (a_cons (ev 4) a_nil)))))))))))
theorem dv__law_due {P : Program} {w : World} {K : PySem.W.Frag} {mg : Str → Option Value} {base : Heap} (z_len : mg "len" = none) (z_range : mg "range" = none) {f : Addr} {cdv : Value} {A : Around} {outer : List Env} {s : Shared} {H : Hp} {E : XK} (hr : Room 0 (A.deeper (envOfC "_law_due" (defScope s__law_due) s.heap.objs.size f cdv))) : PSs (cxOf CX0 P w K mg base N__law_due "_law_due" (defScope s__law_due) f cdv A outer s H E).nox (defBody s__law_due) (sL K (fun _ _ _ _ => False) b__law_due) := by
  exact (ss_cons (s_set (i := 2) sc__law_due.nd rfl (Or.inl rfl) (e_lst a_nil))
    (ss_kill [3, 4] (ss_cons (s_for (gt := gName 3) PassesOwn.never rfl (i_range1 (by rfl) z_range (a_cons (e_callB call_lenB (co_vA co_lenA) (by rfl) z_len PySem.boot_len (a_cons (ev 0) a_nil)) a_nil)) (pg_name (i := 3) sc__law_due.nd rfl (Or.inl rfl)) gr_nameF (ss_killE [3, 4] (ss_cons (s_setF (i := 4) sc__law_due.nd rfl (Or.inl rfl) e_str)
    (ss_cons (s_if (t_in hr.units1 (e_sub hr.units1 (ev 0) (ev 3) (fun _ _ => rfl) (fun _ _ => rfl)) (e_tup (a_cons e_str (a_cons e_str (a_cons e_str (a_cons e_str (a_cons e_str (a_cons e_str a_nil)))))))) (ss_one (s_setF (i := 4) sc__law_due.nd rfl (Or.inl rfl) e_str)) (ss_one (s_if (t_notin hr.units1 (e_sub hr.units1 (e_sub hr.units1 (ev 0) (ev 3) (fun _ _ => rfl) (fun _ _ => rfl)) e_int (fun _ _ => rfl) (fun _ _ => rfl)) e_str) (ss_one (s_setF (i := 4) sc__law_due.nd rfl (Or.inl rfl) e_str)) ss_nil)))
    (ss_one (s_expr (e_bm PySem.F.plainAttrs_list PySem.F.slot_list_append PySem.F.type_list_append mt_append co_append (ev 2) (a_cons (e_tup (a_cons (ev 4) (a_cons (e_sub hr.units1 (ev 0) (ev 3) (fun _ _ => rfl) (fun _ _ => rfl)) (a_cons (e_sub hr.units1 (ev 1) (ev 3) (fun _ _ => rfl) (fun _ _ => rfl)) a_nil)))) a_nil))))))))
    (ss_kill [3, 4] (ss_one (s_ret (ev 2)))))))
theorem dv_run_end {P : Program} {w : World} {K : PySem.W.Frag} {mg : Str → Option Value} {base : Heap} (c_SMALL_h : ∃ t, mg "SMALL" = some (.str c_SMALL t)) (c_DIGITS_h : ∃ t, mg "DIGITS" = some (.str c_DIGITS t)) (z_len : mg "len" = none) {f : Addr} {cdv : Value} {A : Around} {outer : List Env} {s : Shared} {H : Hp} {E : XK} (hr : Room 0 (A.deeper (envOfC "run_end" (defScope s_run_end) s.heap.objs.size f cdv))) : PSs (cxOf CX0 P w K mg base N_run_end "run_end" (defScope s_run_end) f cdv A outer s H E).nox (defBody s_run_end) (sL K (fun _ _ _ _ => False) b_run_end) := by
  exact (ss_cons (s_setF (i := 2) sc_run_end.nd rfl (Or.inl rfl) (ev 1))
    (ss_cons (s_while PassesOwn.never (t_w (w_and (t_cmp (op_LtA hr.units1) co_LtA (ev 2) (e_callB call_lenB (co_vA co_lenA) (by rfl) z_len PySem.boot_len (a_cons (ev 0) a_nil)) (nomark _)) (w_and1 (t_w (w_or (t_in hr.units1 (e_sub hr.units1 (ev 0) (ev 2) (fun _ _ => rfl) (fun _ _ => rfl)) (e_gS c_SMALL_h (by rfl))) (w_or1 (t_in hr.units1 (e_sub hr.units1 (ev 0) (ev 2) (fun _ _ => rfl) (fun _ _ => rfl)) (e_gS c_DIGITS_h (by rfl))))))))) (ss_one (s_aug (i := 2) sc_run_end.nd rfl (Or.inl rfl) ip_add co_ipAdd e_int)))
    (ss_one (s_ret (ev 2)))))
theorem dv_is_name_form {P : Program} {w : World} {K : PySem.W.Frag} {mg : Str → Option Value} {base : Heap} (c_SMALL_h : ∃ t, mg "SMALL" = some (.str c_SMALL t)) (c_DIGITS_h : ∃ t, mg "DIGITS" = some (.str c_DIGITS t)) (c_LONGEST_h : ∃ t, mg "LONGEST" = some (.int 12 t)) (z_len : mg "len" = none) {f : Addr} {cdv : Value} {A : Around} {outer : List Env} {s : Shared} {H : Hp} {E : XK} (hr : Room 0 (A.deeper (envOfC "is_name_form" (defScope s_is_name_form) s.heap.objs.size f cdv))) : PSs (cxOf CX0 P w K mg base N_is_name_form "is_name_form" (defScope s_is_name_form) f cdv A outer s H E).nox (defBody s_is_name_form) (sL K (fun _ _ _ _ => False) b_is_name_form) := by
  exact (ss_cons (s_if (t_w (w_or (t_cmp (op_eqD hr.units) co_Eq (ev 0) e_str (nomark _)) (w_or (t_cmp op_gt co_B0 (e_callB call_lenB (co_vA co_lenA) (by rfl) z_len PySem.boot_len (a_cons (ev 0) a_nil)) (e_gI c_LONGEST_h (by rfl)) (nomark _)) (w_or1 (t_notin hr.units1 (e_sub hr.units1 (ev 0) e_int (fun _ _ => rfl) (fun _ _ => rfl)) (e_gS c_SMALL_h (by rfl))))))) (ss_one (s_ret e_bl)) ss_nil)
    (ss_one (s_ret (e_cmp (op_eqD hr.units) co_Eq (e_lc (own := [("char", 1)]) (gt := gName 1) rfl sc_is_name_form.nd (i_it (ev 0)) (blkOk_by (own := [("char", 1)]) (N := N_is_name_form) (sc := defScope s_is_name_form) (by decide +kernel)) (fun _ _ _ _ _ => (pg_name (i := 1) sc_is_name_form.nd rfl (Or.inl rfl))) gr_nameF (gw_name (by decide)) mono_name (fun _ _ _ _ _ => (ts_one (t_w (w_and (t_notin hr.units1 (ev 1) (e_gS c_SMALL_h (by rfl))) (w_and1 (t_notin hr.units1 (ev 1) (e_gS c_DIGITS_h (by rfl)))))))) (fun _ _ _ _ _ => (ev 1))) (e_lst a_nil) (nomark _)))))
theorem dv_run_token {P : Program} {w : World} {K : PySem.W.Frag} {mg : Str → Option Value} {base : Heap} (c_WORDS_h : ∃ a, mg "WORDS" = some (.ref a) ∧ ∀ H, SqT K H a (c_WORDS_s.map V.str)) (h_is_name_form : Ok P w K mg base CX0 1 "is_name_form" ["run"] (den_is_name_form)) {f : Addr} {cdv : Value} {A : Around} {outer : List Env} {s : Shared} {H : Hp} {E : XK} (hr : Room 1 (A.deeper (envOfC "run_token" (defScope s_run_token) s.heap.objs.size f cdv))) : PSs (cxOf CX0 P w K mg base N_run_token "run_token" (defScope s_run_token) f cdv A outer s H E).nox (defBody s_run_token) (sL K (fun _ _ _ _ => False) b_run_token) := by
  exact (ss_cons (s_if (t_not (t_val (e_call (ms := [.f]) h_is_name_form dok_is_name_form rfl pass0 (hr.mono (by decide)) (by rfl) (a_cons (ev 0) a_nil)))) (ss_one s_never) ss_nil)
    (ss_cons (s_if (t_in hr.units1 (ev 0) (e_gT c_WORDS_h (by rfl))) (ss_one (s_ret (e_tup (a_cons e_str (a_cons (ev 0) (a_cons (ev 1) a_nil)))))) ss_nil)
    (ss_one (s_ret (e_tup (a_cons e_str (a_cons (ev 0) (a_cons (ev 1) a_nil))))))))
theorem dv_tokenize {P : Program} {w : World} {K : PySem.W.Frag} {mg : Str → Option Value} {base : Heap} (c_SMALL_h : ∃ t, mg "SMALL" = some (.str c_SMALL t)) (c_DIGITS_h : ∃ t, mg "DIGITS" = some (.str c_DIGITS t)) (c_MARKS_h : ∃ t, mg "MARKS" = some (.str c_MARKS t)) (z_len : mg "len" = none) (h_run_token : Ok P w K mg base CX0 2 "run_token" ["run", "start"] (den_run_token)) (h_run_end : Ok P w K mg base CX0 1 "run_end" ["text", "start"] (den_run_end)) {f : Addr} {cdv : Value} {A : Around} {outer : List Env} {s : Shared} {H : Hp} {E : XK} (hr : Room 2 (A.deeper (envOfC "tokenize" (defScope s_tokenize) s.heap.objs.size f cdv))) : PSs (cxOf CX0 P w K mg base N_tokenize "tokenize" (defScope s_tokenize) f cdv A outer s H E).nox (defBody s_tokenize) (sL K (fun _ _ _ _ => False) b_tokenize) := by
  exact (ss_cons (s_set (i := 1) sc_tokenize.nd rfl (Or.inl rfl) (e_lst a_nil))
    (ss_cons (s_setF (i := 2) sc_tokenize.nd rfl (Or.inl rfl) e_int)
    (ss_kill [3, 4] (ss_cons (s_while PassesOwn.never (t_cmp (op_LtA hr.units1) co_LtA (ev 2) (e_callB call_lenB (co_vA co_lenA) (by rfl) z_len PySem.boot_len (a_cons (ev 0) a_nil)) (nomark _)) (ss_killE [3, 4] (ss_cons (s_setF (i := 3) sc_tokenize.nd rfl (Or.inl rfl) (e_sub hr.units1 (ev 0) (ev 2) (fun _ _ => rfl) (fun _ _ => rfl)))
    (ss_one (s_if (t_w (w_or (t_cmp (op_eqD hr.units) co_Eq (ev 3) e_str (nomark _)) (w_or1 (t_cmp (op_eqD hr.units) co_Eq (ev 3) e_str (nomark _))))) (ss_one (s_aug (i := 2) sc_tokenize.nd rfl (Or.inl rfl) ip_add co_ipAdd e_int)) (ss_one (s_if (t_w (w_or (t_in hr.units1 (ev 3) (e_gS c_SMALL_h (by rfl))) (w_or1 (t_in hr.units1 (ev 3) (e_gS c_DIGITS_h (by rfl)))))) (ss_cons (s_setF (i := 4) sc_tokenize.nd rfl (Or.inl rfl) (e_call (ms := [.f, .f]) h_run_end dok_run_end rfl pass0 (hr.mono (by decide)) (by rfl) (a_cons (ev 0) (a_cons (ev 2) a_nil))))
    (ss_cons (s_expr (e_bm PySem.F.plainAttrs_list PySem.F.slot_list_append PySem.F.type_list_append mt_append co_append (ev 1) (a_cons (e_call (ms := [.f, .f]) h_run_token dok_run_token rfl pass0 (hr.mono (by decide)) (by rfl) (a_cons (e_slice (ev 0) (o_some (ev 2)) (o_some (ev 4))) (a_cons (ev 2) a_nil))) a_nil)))
    (ss_one (s_setF (i := 2) sc_tokenize.nd rfl (Or.inl rfl) (ev 4))))) (ss_one (s_if (t_cmp (op_eqD hr.units) co_Eq (e_slice (ev 0) (o_some (ev 2)) (o_some (e_op op_Add co_Add (ev 2) e_int))) e_str (nomark _)) (ss_cons (s_expr (e_bm PySem.F.plainAttrs_list PySem.F.slot_list_append PySem.F.type_list_append mt_append co_append (ev 1) (a_cons (e_tup (a_cons e_str (a_cons e_str (a_cons (ev 2) a_nil)))) a_nil)))
    (ss_one (s_aug (i := 2) sc_tokenize.nd rfl (Or.inl rfl) ip_add co_ipAdd e_int))) (ss_one (s_if (t_in hr.units1 (ev 3) (e_gS c_MARKS_h (by rfl))) (ss_cons (s_expr (e_bm PySem.F.plainAttrs_list PySem.F.slot_list_append PySem.F.type_list_append mt_append co_append (ev 1) (a_cons (e_tup (a_cons e_str (a_cons (ev 3) (a_cons (ev 2) a_nil)))) a_nil)))
    (ss_one (s_aug (i := 2) sc_tokenize.nd rfl (Or.inl rfl) ip_add co_ipAdd e_int))) (ss_one s_never))))))))))))
    (ss_kill [2, 3, 4] (ss_one (s_ret (ev 1))))))))
theorem dv__law_name {P : Program} {w : World} {K : PySem.W.Frag} {mg : Str → Option Value} {base : Heap} (z_len : mg "len" = none) (z_range : mg "range" = none) (z_str : mg "str" = none) (h__law_pick : Ok P w K mg base CX0 1 "_law_pick" ["source", "many"] (den__law_pick)) {f : Addr} {cdv : Value} {A : Around} {outer : List Env} {s : Shared} {H : Hp} {E : XK} (hr : Room 1 (A.deeper (envOfC "_law_name" (defScope s__law_name) s.heap.objs.size f cdv))) : PSs (cxOf CX0 P w K mg base N__law_name "_law_name" (defScope s__law_name) f cdv A outer s H E).nox (defBody s__law_name) (sL K (fun _ _ _ _ => False) b__law_name) := by
  exact (ss_cons (s_setF (i := 2) sc__law_name.nd rfl (Or.inl rfl) e_str)
    (ss_cons (s_setF (i := 3) sc__law_name.nd rfl (Or.inl rfl) (e_sub hr.units1 (ev 2) (e_call (ms := [.m 0, .f]) h__law_pick dok__law_pick rfl pass0 (hr.mono (by decide)) (by rfl) (a_cons (ev 0) (a_cons e_int a_nil))) (fun _ _ => rfl) (fun _ _ => rfl)))
    (ss_cons (s_for (gt := gName 4) PassesOwn.never rfl (i_range1 (by rfl) z_range (a_cons (e_sub hr.units1 (e_lst (a_cons e_int (a_cons e_int (a_cons e_int (a_cons e_int (a_cons (e_call (ms := [.m 0, .f]) h__law_pick dok__law_pick rfl pass0 (hr.mono (by decide)) (by rfl) (a_cons (ev 0) (a_cons e_int a_nil))) a_nil)))))) (e_call (ms := [.m 0, .f]) h__law_pick dok__law_pick rfl pass0 (hr.mono (by decide)) (by rfl) (a_cons (ev 0) (a_cons e_int a_nil))) (fun _ _ => rfl) (fun _ _ => rfl)) a_nil)) (pg_name (i := 4) sc__law_name.nd rfl (Or.inl rfl)) gr_nameF (ss_one (s_setF (i := 3) sc__law_name.nd rfl (Or.inl rfl) (e_op op_Add co_Add (ev 3) (e_sub hr.units1 (ev 2) (e_call (ms := [.m 0, .f]) h__law_pick dok__law_pick rfl pass0 (hr.mono (by decide)) (by rfl) (a_cons (ev 0) (a_cons e_int a_nil))) (fun _ _ => rfl) (fun _ _ => rfl))))))
    (ss_cons (s_if (t_w (w_or (t_in hr.units1 (ev 3) (ev 1)) (w_or1 (t_in hr.units1 (ev 3) (e_tup (a_cons e_str (a_cons e_str (a_cons e_str (a_cons e_str (a_cons e_str (a_cons e_str a_nil))))))))))) (ss_cons (s_setLcG (i := 5) (own := [("k", 4)]) (gt := gName 4) gr_nameF rfl sc__law_name.nd rfl rfl (sw_true rfl rfl rfl (by decide +kernel)) (i_range1 (by rfl) z_range (a_cons (e_op op_Add co_Add (e_callB call_lenB (co_vA co_lenA) (by rfl) z_len PySem.boot_len (a_cons (ev 1) a_nil)) e_int) a_nil)) (blkOk_by (own := [("k", 4)]) (N := N__law_name) (sc := defScope s__law_name) (by decide +kernel)) (fun _ _ _ _ _ => (pg_name (i := 4) sc__law_name.nd rfl (Or.inl rfl))) gr_nameF (gw_name (by decide)) mono_name (fun _ _ _ _ _ => ts_nil) (fun _ _ _ _ _ => (e_op op_Add co_Add e_str (e_callTy call_str_int co_str (by rfl) z_str (by decide +kernel) (a_cons (ev 4) a_nil)))))
    (ss_one (s_ret (e_sub hr.units1 (e_lc (own := [("one", 6)]) (gt := gName 6) rfl sc__law_name.nd (i_it (ev 5)) (blkOk_by (own := [("one", 6)]) (N := N__law_name) (sc := defScope s__law_name) (by decide +kernel)) (fun _ _ _ _ _ => (pg_name (i := 6) sc__law_name.nd rfl (Or.inl rfl))) gr_nameF (gw_name (by decide)) mono_name (fun _ _ _ _ _ => (ts_one (t_notin hr.units1 (ev 6) (ev 1)))) (fun _ _ _ _ _ => (ev 6))) e_int (fun _ _ => rfl) (fun _ _ => rfl))))) ss_nil)
    (ss_kill [5] (ss_one (s_ret (ev 3))))))))
theorem dv__law_token {P : Program} {w : World} {K : PySem.W.Frag} {mg : Str → Option Value} {base : Heap} (h__law_pick : Ok P w K mg base CX0 1 "_law_pick" ["source", "many"] (den__law_pick)) (h__law_name : Ok P w K mg base CX0 2 "_law_name" ["source", "taken"] (den__law_name)) {f : Addr} {cdv : Value} {A : Around} {outer : List Env} {s : Shared} {H : Hp} {E : XK} (hr : Room 2 (A.deeper (envOfC "_law_token" (defScope s__law_token) s.heap.objs.size f cdv))) : PSs (cxOf CX0 P w K mg base N__law_token "_law_token" (defScope s__law_token) f cdv A outer s H E).nox (defBody s__law_token) (sL K (fun _ _ _ _ => False) b__law_token) := by
  exact (ss_cons (s_setF (i := 1) sc__law_token.nd rfl (Or.inl rfl) (e_call (ms := [.m 0, .f]) h__law_pick dok__law_pick rfl pass0 (hr.mono (by decide)) (by rfl) (a_cons (ev 0) (a_cons e_int a_nil))))
    (ss_cons (s_if (t_cmp (op_eqD hr.units) co_Eq (ev 1) e_int (nomark _)) (ss_one (s_ret (e_sub hr.units1 (e_lst (a_cons e_str (a_cons e_str (a_cons e_str (a_cons e_str (a_cons e_str (a_cons e_str a_nil))))))) (e_call (ms := [.m 0, .f]) h__law_pick dok__law_pick rfl pass0 (hr.mono (by decide)) (by rfl) (a_cons (ev 0) (a_cons e_int a_nil))) (fun _ _ => rfl) (fun _ _ => rfl)))) ss_nil)
    (ss_cons (s_if (t_cmp (op_eqD hr.units) co_Eq (ev 1) e_int (nomark _)) (ss_cons (s_setF (i := 2) sc__law_token.nd rfl (Or.inl rfl) (e_sub hr.units1 (e_lst (a_cons e_str (a_cons e_str (a_cons e_str (a_cons e_str (a_cons e_str (a_cons e_str a_nil))))))) (e_call (ms := [.m 0, .f]) h__law_pick dok__law_pick rfl pass0 (hr.mono (by decide)) (by rfl) (a_cons (ev 0) (a_cons e_int a_nil))) (fun _ _ => rfl) (fun _ _ => rfl)))
    (ss_one (s_ret (e_sub hr.units1 (e_lst (a_cons (e_op op_Add co_Add (ev 2) e_str) (a_cons (e_op op_Add co_Add (e_slice (ev 2) o_none (o_some (e_neg e_int))) e_str) (a_cons (e_op op_Add co_Add (ev 2) (ev 2)) (a_cons (e_op op_Add co_Add e_str (ev 2)) (a_cons (e_slice (ev 2) (o_some e_int) o_none) a_nil)))))) (e_call (ms := [.m 0, .f]) h__law_pick dok__law_pick rfl pass0 (hr.mono (by decide)) (by rfl) (a_cons (ev 0) (a_cons e_int a_nil))) (fun _ _ => rfl) (fun _ _ => rfl))))) ss_nil)
    (ss_kill [2] (ss_cons (s_if (t_cmp (op_eqD hr.units) co_Eq (ev 1) e_int (nomark _)) (ss_one (s_ret (e_call (ms := [.m 0, .f]) h__law_name dok__law_name rfl pass0 (hr.mono (by decide)) (by rfl) (a_cons (ev 0) (a_cons (e_lst a_nil) a_nil))))) ss_nil)
    (ss_one (s_ret (e_sub hr.units1 (e_lst (a_cons e_str (a_cons e_str (a_cons e_str (a_cons e_str (a_cons e_str (a_cons e_str (a_cons e_str (a_cons e_str (a_cons e_str a_nil)))))))))) (e_call (ms := [.m 0, .f]) h__law_pick dok__law_pick rfl pass0 (hr.mono (by decide)) (by rfl) (a_cons (ev 0) (a_cons e_int a_nil))) (fun _ _ => rfl) (fun _ _ => rfl)))))))))
theorem dv__law_same {P : Program} {w : World} {K : PySem.W.Frag} {mg : Str → Option Value} {base : Heap} (z_len : mg "len" = none) (z_range : mg "range" = none) (z_isinstance : mg "isinstance" = none) (z_list : mg "list" = none) (z_tuple : mg "tuple" = none) (z_str : mg "str" = none) (z_int : mg "int" = none) (z_bool : mg "bool" = none) {pr : Den} {d : Nat} (hpr : DenOk pr) (h__law_same : Ok P w K mg base CX0 (1 + d) "_law_same" ["actual", "due"] pr) {f : Addr} {cdv : Value} {A : Around} {outer : List Env} {s : Shared} {H : Hp} {E : XK} (hr : Room (1 + d) (A.deeper (envOfC "_law_same" (defScope s__law_same) s.heap.objs.size f cdv))) : PSs (cxOf CX0 P w K mg base N__law_same "_law_same" (defScope s__law_same) f cdv A outer s H E).nox (defBody s__law_same) (sL K (fun _ _ _ _ => False) (b__law_same pr)) :=
  (ss_cons (s_if (t_cmp op_isN co_isN (ev 1) e_non (nomark _)) (ss_one (s_ret (e_cmp op_isN co_isN (ev 0) e_non (nomark _)))) ss_nil)
    (ss_cons (s_if (t_val (e_isi (by rfl) z_isinstance boot_isinstance (ev 1) (by rfl) z_bool (by decide +kernel))) (ss_one (s_ret (e_and (e_isi (by rfl) z_isinstance boot_isinstance (ev 0) (by rfl) z_bool (by decide +kernel)) (e_one (e_cmp (op_eqD hr.units) co_Eq (ev 0) (ev 1) (nomark _)))))) ss_nil)
    (ss_cons (s_if (t_val (e_isi (by rfl) z_isinstance boot_isinstance (ev 1) (by rfl) z_int (by decide +kernel))) (ss_one (s_ret (e_and (e_isi (by rfl) z_isinstance boot_isinstance (ev 0) (by rfl) z_int (by decide +kernel)) (e_and (e_not (e_isi (by rfl) z_isinstance boot_isinstance (ev 0) (by rfl) z_bool (by decide +kernel))) (e_one (e_cmp (op_eqD hr.units) co_Eq (ev 0) (ev 1) (nomark _))))))) ss_nil)
    (ss_cons (s_if (t_val (e_isi (by rfl) z_isinstance boot_isinstance (ev 1) (by rfl) z_str (by decide +kernel))) (ss_one (s_ret (e_and (e_isi (by rfl) z_isinstance boot_isinstance (ev 0) (by rfl) z_str (by decide +kernel)) (e_one (e_cmp (op_eqD hr.units) co_Eq (ev 0) (ev 1) (nomark _)))))) ss_nil)
    (ss_cons (s_if (t_w (w_or (t_cmp (op_neD hr.units) co_Ne (e_isi (by rfl) z_isinstance boot_isinstance (ev 1) (by rfl) z_list (by decide +kernel)) (e_isi (by rfl) z_isinstance boot_isinstance (ev 0) (by rfl) z_list (by decide +kernel)) (nomark _)) (w_or1 (t_cmp (op_neD hr.units) co_Ne (e_isi (by rfl) z_isinstance boot_isinstance (ev 1) (by rfl) z_tuple (by decide +kernel)) (e_isi (by rfl) z_isinstance boot_isinstance (ev 0) (by rfl) z_tuple (by decide +kernel)) (nomark _))))) (ss_one (s_ret e_bl)) ss_nil)
    (ss_cons (s_if (t_cmp (op_neD hr.units) co_Ne (e_callB call_lenB (co_vA co_lenA) (by rfl) z_len PySem.boot_len (a_cons (ev 0) a_nil)) (e_callB call_lenB (co_vA co_lenA) (by rfl) z_len PySem.boot_len (a_cons (ev 1) a_nil)) (nomark _)) (ss_one (s_ret e_bl)) ss_nil)
    (ss_kill [2] (ss_cons (s_for (gt := gName 2) PassesOwn.never rfl (i_range1 (by rfl) z_range (a_cons (e_callB call_lenB (co_vA co_lenA) (by rfl) z_len PySem.boot_len (a_cons (ev 1) a_nil)) a_nil)) (pg_name (i := 2) sc__law_same.nd rfl (Or.inl rfl)) gr_nameF (ss_killE [2] (ss_one (s_if (t_not (t_val (e_call (ms := [.f, .f]) h__law_same hpr rfl pass0 (hr.mono (Nat.le_refl _)) (by rfl) (a_cons (e_sub hr.units1 (ev 0) (ev 2) (fun _ _ => rfl) (fun _ _ => rfl)) (a_cons (e_sub hr.units1 (ev 1) (ev 2) (fun _ _ => rfl) (fun _ _ => rfl)) a_nil))))) (ss_one (s_ret e_bl)) ss_nil))))
    (ss_kill [2] (ss_one (s_ret e_bl)))))))))))
theorem dv_law {P : Program} {w : World} {K : PySem.W.Frag} {mg : Str → Option Value} {base : Heap} (z_len : mg "len" = none) (z_min : mg "min" = none) (z_range : mg "range" = none) (h_tokenize : Ok P w K mg base CX0 3 "tokenize" ["text"] (den_tokenize)) (h__law_same : Ok P w K mg base CX0 5 "_law_same" ["actual", "due"] (den__law_same 4)) (h__law_due : Ok P w K mg base CX0 1 "_law_due" ["words", "places"] (den__law_due)) (h__law_spread : Ok P w K mg base CX0 3 "_law_spread" ["source", "words"] (den__law_spread)) (h__law_pick : Ok P w K mg base CX0 1 "_law_pick" ["source", "many"] (den__law_pick)) (h__law_token : Ok P w K mg base CX0 3 "_law_token" ["source"] (den__law_token)) (h__law_source : Ok P w K mg base CX0 1 "_law_source" ["script"] (den__law_source)) {f : Addr} {cdv : Value} {A : Around} {outer : List Env} {s : Shared} {H : Hp} {E : XK} (hr : Room 5 (A.deeper (envOfC "law" (defScope s_law) s.heap.objs.size f cdv))) : PSs (cxOf CX0 P w K mg base N_law "law" (defScope s_law) f cdv A outer s H E).nox (defBody s_law) (sL K (fun _ _ _ _ => False) b_law) := by
  exact (ss_cons (s_set (i := 1) sc_law.nd rfl (Or.inr rfl) (e_call (ms := [.f]) h__law_source dok__law_source rfl pass0 (hr.mono (by decide)) (by rfl) (a_cons (ev 0) a_nil)))
    (ss_kill [2, 3, 4, 5, 6, 7] (ss_cons (s_for (gt := gName 2) PassesOwn.never rfl (i_range1 (by rfl) z_range (a_cons (e_op op_Add co_Add e_int (e_callB (call_minA hr.units1) co_minA (by rfl) z_min (by decide +kernel) (a_cons e_int (a_cons (e_callB call_lenB (co_vA co_lenA) (by rfl) z_len PySem.boot_len (a_cons (ev 0) a_nil)) a_nil)))) a_nil)) (pg_name (i := 2) sc_law.nd rfl (Or.inl rfl)) gr_nameF (ss_killE [2, 3, 4, 5, 6, 7] (ss_cons (s_setLcG (i := 3) (own := [("j", 8)]) (gt := gName 8) gr_nameF rfl sc_law.nd rfl rfl (sw_true rfl rfl rfl (by decide +kernel)) (i_range1 (by rfl) z_range (a_cons (e_call (ms := [.m 1, .f]) h__law_pick dok__law_pick rfl pass0 (hr.mono (by decide)) (by rfl) (a_cons (ev 1) (a_cons e_int a_nil))) a_nil)) (blkOk_by (own := [("j", 8)]) (N := N_law) (sc := defScope s_law) (by decide +kernel)) (fun _ _ _ _ _ => (pg_name (i := 8) sc_law.nd rfl (Or.inl rfl))) gr_nameF (gw_name (by decide)) mono_name (fun _ _ _ _ _ => ts_nil) (fun _ _ _ _ _ => (e_call (ms := [.m 1]) h__law_token dok__law_token rfl pass0 (hr.mono (by decide)) (by rfl) (a_cons (ev 1) a_nil))))
    (ss_cons (s_asg (gt := gTup _ 2 (gCons (gName 4) (gCons (gName 5) (gNil)))) (pg_tup rfl (pgs_cons (pg_name (i := 4) sc_law.nd rfl (Or.inl rfl)) (pgs_cons (pg_name (i := 5) sc_law.nd rfl (Or.inl rfl)) pgs_nil))) (gr_tup (gr_cons gr_nameF (gr_cons gr_nameF gr_nil))) (e_call (ms := [.m 1, .f]) h__law_spread dok__law_spread rfl pass0 (hr.mono (by decide)) (by rfl) (a_cons (ev 1) (a_cons (ev 3) a_nil))))
    (ss_cons (s_setF (i := 6) sc_law.nd rfl (Or.inl rfl) (e_call (ms := [.f, .f]) h__law_due dok__law_due rfl pass0 (hr.mono (by decide)) (by rfl) (a_cons (ev 3) (a_cons (ev 5) a_nil))))
    (ss_cons (s_set (i := 7) sc_law.nd rfl (Or.inl rfl) (e_call (ms := [.f]) h_tokenize dok_tokenize rfl pass0 (hr.mono (by decide)) (by rfl) (a_cons (ev 4) a_nil)))
    (ss_cons (s_if (t_not (t_val (e_call (ms := [.r 7, .f]) h__law_same (dok__law_same _) rfl pass0 (hr.mono (by decide)) (by rfl) (a_cons (ev 7) (a_cons (ev 6) a_nil))))) (ss_one (s_ret e_bl)) ss_nil)
    (ss_cons (s_expr (e_bm PySem.F.plainAttrs_list PySem.F.slot_list_append PySem.F.type_list_append mt_append co_append (ev 7) (a_cons (e_tup (a_cons e_str (a_cons e_str (a_cons e_int a_nil)))) a_nil)))
    (ss_one (s_if (t_not (t_val (e_call (ms := [.f, .f]) h__law_same (dok__law_same _) rfl pass0 (hr.mono (by decide)) (by rfl) (a_cons (e_call (ms := [.f]) h_tokenize dok_tokenize rfl pass0 (hr.mono (by decide)) (by rfl) (a_cons (ev 4) a_nil)) (a_cons (ev 6) a_nil))))) (ss_one (s_ret e_bl)) ss_nil))))))))))
    (ss_kill [2, 3, 4, 5, 6, 7] (ss_one (s_ret e_bl))))))
end
end Lw

namespace Lw
open PySem PySem.Spec PyProof.Rows L2 Y PySem.W TL
/-! ### the generator's state, family A -/
def stM (cells : List Int) (pos cur seed : Int) : MV := .lst [.d (.list (cells.map PyData.int)), .d (.int pos), .d (.int cur), .d (.int seed)]
def IsSt (m : MV) : Prop := ∃ cells pos cur seed, m = stM cells pos cur seed ∧ 0 ≤ pos ∧ 0 ≤ cur ∧ 0 ≤ seed ∧ seed < 2147483647 ∧ cells.length ≤ 1000
theorem rd__law_source (ns : List Int) (h : ns.length ≤ 63) : ∃ m, IsSt m ∧ den__law_source [.x (ns.map PyData.int)] = some (.ok (.t m) [none]) := by
  refine ⟨stM ns 0 0 7, ⟨ns, 0, 0, 7, rfl, by decide, by decide, by decide, by decide, by omega⟩, ?_⟩
  unfold den__law_source Y.run start0 b__law_source
  simp only [aSeq_ap, seqK_nx, seqK_rt, seqK_bk, seqK_ct, seqK_none, aNext_ap, aBrk_ap, aCont_ap, aAsg_ap, asgK_ap, nxR_some, aDrop_ap, dropK_ap, aIfS_ap, ifK_t, ifK_f, aRet_ap, retK_ap, rtR_some, aRetN_ap, aKill_ap, List.foldl_cons, List.foldl_nil, sb_okN, bd_okN, mapR_some, aC_ap, aXT_ap, aVar_ap, varK_d, varK_x, varK_w, varK_p, varK_k, aOp_ap, opK_ap, opK2_ap, aFz_ap, aUn_ap, aB_ap, bK_ap, aAnd_ap, andK_t, andK_f, aOr_ap, orK_t, orK_f, aNot_ap, notK_ap, aTru_ap, truK_ap, aYes_ap, aAndV_ap, andVK_t, andVK_f, aOrV_ap, orVK_t, orVK_f, aNotV_ap, notVK_ap, aIf_ap, ifEK_t, ifEK_f, aNil_ap, aCons_ap, consK_ap, consK2_ap, aCB_ap, cbK_ap, aNoPart_ap, aPart_ap, partK_ap, aSl_ap, slK_ap, slK2_ap, slK3_ap, aBM_ap, bmK_ap, bmK2_ap, aBM0_ap, bmK0_ap, aPut_ap, putK_ap, putK1_ap, putK2_ap, aFor_ap, forK_n, aRng1_ap, aRng2_ap, aIt_ap, itK_l, itK_t, itK_s, itK_x, itK_c, itK_f, aCallG_ap, List.getElem?_cons_zero, List.getElem?_cons_succ, List.set_cons_zero, List.set_cons_succ, List.length_cons, List.length_nil, Nat.zero_add, Nat.reduceAdd, Option.map_some, Option.map_none, Option.bind_some, Option.bind_none, List.map_cons, List.map_nil, aName, aNameF, fz, rtv, wAt, toM, vw, frz_lst, frz_d, lvs_map, oIx2_var, ixV_w, ixV_p, ixV_k, ixL_some, lfAt_nat, lf_d, oIx2_l, oIx2_t, Y.atI_nat, putF_var, putV_w, putV_p, oEq_int, oNe_int, oLtA_int, oIntA_int, oIntA_bool, oLenV_l, oLenV_t, oI0_ap, oB0_ap, oAdd_int, rNeg, lfAt_0, stL_0, Y.atI_0, lfAt_1, stL_1, Y.atI_1, lfAt_2, stL_2, Y.atI_2, lfAt_3, stL_3, Y.atI_3, lfAt_4, stL_4, Y.atI_4, lfAt_5, stL_5, Y.atI_5, lfAt_6, stL_6, Y.atI_6, lfAt_7, stL_7, Y.atI_7, Nat.reduceLeDiff, Int.reduceLT, Int.reduceLE, List.cons_append, List.nil_append, decide_true, decide_false, if_true, if_false, sizeLine_eq, aLc_ap, List.append_nil, Nat.sub_self, List.replicate_zero, oList, itemsD, seqT, seqTd, seqL, fzK, oLst, mvs]
  rfl
theorem pow18 : cPow 10 18 = true := by decide
theorem oGt_int {s : SL} {a b : Int} : (oB0 fun i j => decide (j < i)) s (.d (.int a)) (.d (.int b)) = some (.d (.bool (decide (b < a))), s) := Eq.trans rfl rfl
theorem pick_fill {cells : List Int} {pos cur seed many : Int} (hp : 0 ≤ pos) (hc : 0 ≤ cur) (hs : 0 ≤ seed) (hs1 : seed < 2147483647) (hn : cells.length ≤ 1000) : ∃ pos' cur' seed' o, 0 ≤ pos' ∧ 0 ≤ cur' ∧ 0 ≤ seed' ∧ seed' < 2147483647 ∧
    i__law_pick_0 [some (.p (stM cells pos cur seed)), some (.d (.int many)), none, none, none] = some (.nx [some (.p (stM cells pos' cur' seed')), some (.d (.int many)), o, none, none]) := by
  obtain ⟨n, rfl⟩ := Int.eq_ofNat_of_zero_le hp
  unfold i__law_pick_0 stM
  by_cases h0 : cur = 0
  · by_cases hl : (n : Int) < (cells.length : Int)
    · have hn2 : n < cells.length := by omega
      have e := List.getElem?_eq_getElem hn2
      by_cases hb : (10 : Int) ^ (18 : Int).toNat < cells[n]
      · refine ⟨(n : Int) + 1, cells[n] - 10 ^ (18 : Int).toNat, seed, some (.d (.int cells[n])), by omega, by omega, hs, hs1, ?_⟩
        simp only [aSeq_ap, seqK_nx, seqK_rt, seqK_bk, seqK_ct, seqK_none, aNext_ap, aBrk_ap, aCont_ap, aAsg_ap, asgK_ap, nxR_some, aDrop_ap, dropK_ap, aIfS_ap, ifK_t, ifK_f, aRet_ap, retK_ap, rtR_some, aRetN_ap, aKill_ap, List.foldl_cons, List.foldl_nil, sb_okN, bd_okN, mapR_some, aC_ap, aXT_ap, aVar_ap, varK_d, varK_x, varK_w, varK_p, varK_k, aOp_ap, opK_ap, opK2_ap, aFz_ap, aUn_ap, aB_ap, bK_ap, aAnd_ap, andK_t, andK_f, aOr_ap, orK_t, orK_f, aNot_ap, notK_ap, aTru_ap, truK_ap, aYes_ap, aAndV_ap, andVK_t, andVK_f, aOrV_ap, orVK_t, orVK_f, aNotV_ap, notVK_ap, aIf_ap, ifEK_t, ifEK_f, aNil_ap, aCons_ap, consK_ap, consK2_ap, aCB_ap, cbK_ap, aNoPart_ap, aPart_ap, partK_ap, aSl_ap, slK_ap, slK2_ap, slK3_ap, aBM_ap, bmK_ap, bmK2_ap, aBM0_ap, bmK0_ap, aPut_ap, putK_ap, putK1_ap, putK2_ap, aFor_ap, forK_n, aRng1_ap, aRng2_ap, aIt_ap, itK_l, itK_t, itK_s, itK_x, itK_c, itK_f, aCallG_ap, List.getElem?_cons_zero, List.getElem?_cons_succ, List.set_cons_zero, List.set_cons_succ, List.length_cons, List.length_nil, Nat.zero_add, Nat.reduceAdd, Option.map_some, Option.map_none, Option.bind_some, Option.bind_none, List.map_cons, List.map_nil, aName, aNameF, fz, rtv, wAt, toM, vw, frz_lst, frz_d, lvs_map, oIx2_var, ixV_w, ixV_p, ixV_k, ixL_some, lfAt_nat, lf_d, oIx2_l, oIx2_t, Y.atI_nat, putF_var, putV_w, putV_p, oEq_int, oNe_int, oLtA_int, oIntA_int, oIntA_bool, oLenV_l, oLenV_t, oI0_ap, oB0_ap, oAdd_int, rNeg, lfAt_0, stL_0, Y.atI_0, lfAt_1, stL_1, Y.atI_1, lfAt_2, stL_2, Y.atI_2, lfAt_3, stL_3, Y.atI_3, lfAt_4, stL_4, Y.atI_4, lfAt_5, stL_5, Y.atI_5, lfAt_6, stL_6, Y.atI_6, lfAt_7, stL_7, Y.atI_7, Nat.reduceLeDiff, Int.reduceLT, Int.reduceLE, List.cons_append, List.nil_append, decide_true, decide_false, if_true, if_false, sizeLine_eq, aLc_ap, decide_eq_true h0, List.length_map, decide_eq_true hl, List.getElem?_map, e, oI_ok pow18, decide_eq_true hb]
      · have g0 : 0 ≤ (seed * 16807 + cells[n]) % 2147483647 := Int.emod_nonneg _ (by decide)
        have g1 : (seed * 16807 + cells[n]) % 2147483647 < 2147483647 := Int.emod_lt_of_pos _ (by decide)
        refine ⟨(n : Int) + 1, cur, (seed * 16807 + cells[n]) % 2147483647, some (.d (.int cells[n])), by omega, hc, g0, g1, ?_⟩
        simp only [aSeq_ap, seqK_nx, seqK_rt, seqK_bk, seqK_ct, seqK_none, aNext_ap, aBrk_ap, aCont_ap, aAsg_ap, asgK_ap, nxR_some, aDrop_ap, dropK_ap, aIfS_ap, ifK_t, ifK_f, aRet_ap, retK_ap, rtR_some, aRetN_ap, aKill_ap, List.foldl_cons, List.foldl_nil, sb_okN, bd_okN, mapR_some, aC_ap, aXT_ap, aVar_ap, varK_d, varK_x, varK_w, varK_p, varK_k, aOp_ap, opK_ap, opK2_ap, aFz_ap, aUn_ap, aB_ap, bK_ap, aAnd_ap, andK_t, andK_f, aOr_ap, orK_t, orK_f, aNot_ap, notK_ap, aTru_ap, truK_ap, aYes_ap, aAndV_ap, andVK_t, andVK_f, aOrV_ap, orVK_t, orVK_f, aNotV_ap, notVK_ap, aIf_ap, ifEK_t, ifEK_f, aNil_ap, aCons_ap, consK_ap, consK2_ap, aCB_ap, cbK_ap, aNoPart_ap, aPart_ap, partK_ap, aSl_ap, slK_ap, slK2_ap, slK3_ap, aBM_ap, bmK_ap, bmK2_ap, aBM0_ap, bmK0_ap, aPut_ap, putK_ap, putK1_ap, putK2_ap, aFor_ap, forK_n, aRng1_ap, aRng2_ap, aIt_ap, itK_l, itK_t, itK_s, itK_x, itK_c, itK_f, aCallG_ap, List.getElem?_cons_zero, List.getElem?_cons_succ, List.set_cons_zero, List.set_cons_succ, List.length_cons, List.length_nil, Nat.zero_add, Nat.reduceAdd, Option.map_some, Option.map_none, Option.bind_some, Option.bind_none, List.map_cons, List.map_nil, aName, aNameF, fz, rtv, wAt, toM, vw, frz_lst, frz_d, lvs_map, oIx2_var, ixV_w, ixV_p, ixV_k, ixL_some, lfAt_nat, lf_d, oIx2_l, oIx2_t, Y.atI_nat, putF_var, putV_w, putV_p, oEq_int, oNe_int, oLtA_int, oIntA_int, oIntA_bool, oLenV_l, oLenV_t, oI0_ap, oB0_ap, oAdd_int, rNeg, lfAt_0, stL_0, Y.atI_0, lfAt_1, stL_1, Y.atI_1, lfAt_2, stL_2, Y.atI_2, lfAt_3, stL_3, Y.atI_3, lfAt_4, stL_4, Y.atI_4, lfAt_5, stL_5, Y.atI_5, lfAt_6, stL_6, Y.atI_6, lfAt_7, stL_7, Y.atI_7, Nat.reduceLeDiff, Int.reduceLT, Int.reduceLE, List.cons_append, List.nil_append, decide_true, decide_false, if_true, if_false, sizeLine_eq, aLc_ap, decide_eq_true h0, List.length_map, decide_eq_true hl, List.getElem?_map, e, oI_ok pow18, decide_eq_false hb, oMul_r, oMod_ok, Int.reduceNeg, Int.reducePow]
    · refine ⟨n, cur, seed, none, by omega, hc, hs, hs1, ?_⟩
      simp only [aSeq_ap, seqK_nx, seqK_rt, seqK_bk, seqK_ct, seqK_none, aNext_ap, aBrk_ap, aCont_ap, aAsg_ap, asgK_ap, nxR_some, aDrop_ap, dropK_ap, aIfS_ap, ifK_t, ifK_f, aRet_ap, retK_ap, rtR_some, aRetN_ap, aKill_ap, List.foldl_cons, List.foldl_nil, sb_okN, bd_okN, mapR_some, aC_ap, aXT_ap, aVar_ap, varK_d, varK_x, varK_w, varK_p, varK_k, aOp_ap, opK_ap, opK2_ap, aFz_ap, aUn_ap, aB_ap, bK_ap, aAnd_ap, andK_t, andK_f, aOr_ap, orK_t, orK_f, aNot_ap, notK_ap, aTru_ap, truK_ap, aYes_ap, aAndV_ap, andVK_t, andVK_f, aOrV_ap, orVK_t, orVK_f, aNotV_ap, notVK_ap, aIf_ap, ifEK_t, ifEK_f, aNil_ap, aCons_ap, consK_ap, consK2_ap, aCB_ap, cbK_ap, aNoPart_ap, aPart_ap, partK_ap, aSl_ap, slK_ap, slK2_ap, slK3_ap, aBM_ap, bmK_ap, bmK2_ap, aBM0_ap, bmK0_ap, aPut_ap, putK_ap, putK1_ap, putK2_ap, aFor_ap, forK_n, aRng1_ap, aRng2_ap, aIt_ap, itK_l, itK_t, itK_s, itK_x, itK_c, itK_f, aCallG_ap, List.getElem?_cons_zero, List.getElem?_cons_succ, List.set_cons_zero, List.set_cons_succ, List.length_cons, List.length_nil, Nat.zero_add, Nat.reduceAdd, Option.map_some, Option.map_none, Option.bind_some, Option.bind_none, List.map_cons, List.map_nil, aName, aNameF, fz, rtv, wAt, toM, vw, frz_lst, frz_d, lvs_map, oIx2_var, ixV_w, ixV_p, ixV_k, ixL_some, lfAt_nat, lf_d, oIx2_l, oIx2_t, Y.atI_nat, putF_var, putV_w, putV_p, oEq_int, oNe_int, oLtA_int, oIntA_int, oIntA_bool, oLenV_l, oLenV_t, oI0_ap, oB0_ap, oAdd_int, rNeg, lfAt_0, stL_0, Y.atI_0, lfAt_1, stL_1, Y.atI_1, lfAt_2, stL_2, Y.atI_2, lfAt_3, stL_3, Y.atI_3, lfAt_4, stL_4, Y.atI_4, lfAt_5, stL_5, Y.atI_5, lfAt_6, stL_6, Y.atI_6, lfAt_7, stL_7, Y.atI_7, Nat.reduceLeDiff, Int.reduceLT, Int.reduceLE, List.cons_append, List.nil_append, decide_true, decide_false, if_true, if_false, sizeLine_eq, aLc_ap, decide_eq_true h0, List.length_map, decide_eq_false hl]
  · refine ⟨n, cur, seed, none, by omega, hc, hs, hs1, ?_⟩
    simp only [aSeq_ap, seqK_nx, seqK_rt, seqK_bk, seqK_ct, seqK_none, aNext_ap, aBrk_ap, aCont_ap, aAsg_ap, asgK_ap, nxR_some, aDrop_ap, dropK_ap, aIfS_ap, ifK_t, ifK_f, aRet_ap, retK_ap, rtR_some, aRetN_ap, aKill_ap, List.foldl_cons, List.foldl_nil, sb_okN, bd_okN, mapR_some, aC_ap, aXT_ap, aVar_ap, varK_d, varK_x, varK_w, varK_p, varK_k, aOp_ap, opK_ap, opK2_ap, aFz_ap, aUn_ap, aB_ap, bK_ap, aAnd_ap, andK_t, andK_f, aOr_ap, orK_t, orK_f, aNot_ap, notK_ap, aTru_ap, truK_ap, aYes_ap, aAndV_ap, andVK_t, andVK_f, aOrV_ap, orVK_t, orVK_f, aNotV_ap, notVK_ap, aIf_ap, ifEK_t, ifEK_f, aNil_ap, aCons_ap, consK_ap, consK2_ap, aCB_ap, cbK_ap, aNoPart_ap, aPart_ap, partK_ap, aSl_ap, slK_ap, slK2_ap, slK3_ap, aBM_ap, bmK_ap, bmK2_ap, aBM0_ap, bmK0_ap, aPut_ap, putK_ap, putK1_ap, putK2_ap, aFor_ap, forK_n, aRng1_ap, aRng2_ap, aIt_ap, itK_l, itK_t, itK_s, itK_x, itK_c, itK_f, aCallG_ap, List.getElem?_cons_zero, List.getElem?_cons_succ, List.set_cons_zero, List.set_cons_succ, List.length_cons, List.length_nil, Nat.zero_add, Nat.reduceAdd, Option.map_some, Option.map_none, Option.bind_some, Option.bind_none, List.map_cons, List.map_nil, aName, aNameF, fz, rtv, wAt, toM, vw, frz_lst, frz_d, lvs_map, oIx2_var, ixV_w, ixV_p, ixV_k, ixL_some, lfAt_nat, lf_d, oIx2_l, oIx2_t, Y.atI_nat, putF_var, putV_w, putV_p, oEq_int, oNe_int, oLtA_int, oIntA_int, oIntA_bool, oLenV_l, oLenV_t, oI0_ap, oB0_ap, oAdd_int, rNeg, lfAt_0, stL_0, Y.atI_0, lfAt_1, stL_1, Y.atI_1, lfAt_2, stL_2, Y.atI_2, lfAt_3, stL_3, Y.atI_3, lfAt_4, stL_4, Y.atI_4, lfAt_5, stL_5, Y.atI_5, lfAt_6, stL_6, Y.atI_6, lfAt_7, stL_7, Y.atI_7, Nat.reduceLeDiff, Int.reduceLT, Int.reduceLE, List.cons_append, List.nil_append, decide_true, decide_false, if_true, if_false, sizeLine_eq, aLc_ap, decide_eq_false h0]
theorem rd__law_pick {m : MV} {many : Int} (hm : IsSt m) (h1 : 0 < many) (h2 : many ≤ 1000000) : ∃ r m', 0 ≤ r ∧ r < many ∧ IsSt m' ∧ den__law_pick [.p m, .d (.int many)] = some (.ok (.d (.int r)) [some (.p m'), none]) := by
  obtain ⟨cells, pos, cur, seed, rfl, hp, hc, hs, hs1, hn⟩ := hm
  obtain ⟨pos', cur', seed', o, hp', hc', hs', hs1', e⟩ := pick_fill (many := many) hp hc hs hs1 hn
  have fin : ∀ {r : Int} {m' : MV} {s' : SL}, b__law_pick [some (.p (stM cells pos cur seed)), some (.d (.int many)), none, none, none] = some (.rt (.d (.int r)) (some (.p m') :: s')) → den__law_pick [.p (stM cells pos cur seed), .d (.int many)] = some (.ok (.d (.int r)) [some (.p m'), none]) := fun e => by
    have hs : start0 5 [.p (stM cells pos cur seed), .d (.int many)] = [some (.p (stM cells pos cur seed)), some (.d (.int many)), none, none, none] := rfl
    unfold den__law_pick Y.run
    rw [hs, e]
    rfl
  have hmod : ∀ i : Int, 0 ≤ i % many ∧ i % many < many := fun i => ⟨Int.emod_nonneg _ (by omega), Int.emod_lt_of_pos _ h1⟩
  by_cases hz : 0 < cur'
  · refine ⟨cur' % many, stM cells pos' (cur' / many) seed', (hmod _).1, (hmod _).2, ⟨cells, pos', cur' / many, seed', rfl, hp', Int.ediv_nonneg hc' (by omega), hs', hs1', hn⟩, fin (s' := [some (.d (.int many)), none, some (.d (.int (cur' % many))), none]) ?_⟩
    unfold b__law_pick
    simp only [aSeq_ap, e, seqK_nx]
    unfold stM
    simp only [aSeq_ap, seqK_nx, seqK_rt, seqK_bk, seqK_ct, seqK_none, aNext_ap, aBrk_ap, aCont_ap, aAsg_ap, asgK_ap, nxR_some, aDrop_ap, dropK_ap, aIfS_ap, ifK_t, ifK_f, aRet_ap, retK_ap, rtR_some, aRetN_ap, aKill_ap, List.foldl_cons, List.foldl_nil, sb_okN, bd_okN, mapR_some, aC_ap, aXT_ap, aVar_ap, varK_d, varK_x, varK_w, varK_p, varK_k, aOp_ap, opK_ap, opK2_ap, aFz_ap, aUn_ap, aB_ap, bK_ap, aAnd_ap, andK_t, andK_f, aOr_ap, orK_t, orK_f, aNot_ap, notK_ap, aTru_ap, truK_ap, aYes_ap, aAndV_ap, andVK_t, andVK_f, aOrV_ap, orVK_t, orVK_f, aNotV_ap, notVK_ap, aIf_ap, ifEK_t, ifEK_f, aNil_ap, aCons_ap, consK_ap, consK2_ap, aCB_ap, cbK_ap, aNoPart_ap, aPart_ap, partK_ap, aSl_ap, slK_ap, slK2_ap, slK3_ap, aBM_ap, bmK_ap, bmK2_ap, aBM0_ap, bmK0_ap, aPut_ap, putK_ap, putK1_ap, putK2_ap, aFor_ap, forK_n, aRng1_ap, aRng2_ap, aIt_ap, itK_l, itK_t, itK_s, itK_x, itK_c, itK_f, aCallG_ap, List.getElem?_cons_zero, List.getElem?_cons_succ, List.set_cons_zero, List.set_cons_succ, List.length_cons, List.length_nil, Nat.zero_add, Nat.reduceAdd, Option.map_some, Option.map_none, Option.bind_some, Option.bind_none, List.map_cons, List.map_nil, aName, aNameF, fz, rtv, wAt, toM, vw, frz_lst, frz_d, lvs_map, oIx2_var, ixV_w, ixV_p, ixV_k, ixL_some, lfAt_nat, lf_d, oIx2_l, oIx2_t, Y.atI_nat, putF_var, putV_w, putV_p, oEq_int, oNe_int, oLtA_int, oIntA_int, oIntA_bool, oLenV_l, oLenV_t, oI0_ap, oB0_ap, oAdd_int, rNeg, lfAt_0, stL_0, Y.atI_0, lfAt_1, stL_1, Y.atI_1, lfAt_2, stL_2, Y.atI_2, lfAt_3, stL_3, Y.atI_3, lfAt_4, stL_4, Y.atI_4, lfAt_5, stL_5, Y.atI_5, lfAt_6, stL_6, Y.atI_6, lfAt_7, stL_7, Y.atI_7, Nat.reduceLeDiff, Int.reduceLT, Int.reduceLE, List.cons_append, List.nil_append, decide_true, decide_false, if_true, if_false, sizeLine_eq, aLc_ap, decide_eq_true hz, oMod_ok h1, oDivW_ok h1 (show many ≤ 10 ^ 18 by omega)]
  · have g0 : 0 ≤ (seed' * 48271 + 12345) % 2147483647 := Int.emod_nonneg _ (by decide)
    have g1 : (seed' * 48271 + 12345) % 2147483647 < 2147483647 := Int.emod_lt_of_pos _ (by decide)
    generalize hg : (seed' * 48271 + 12345) % 2147483647 = g at g0 g1
    have hcm : CMulB (g % 46337 + 1) (g / 46337 + 7) = true := mulC2 (by omega) (by omega)
    refine ⟨((g % 46337 + 1) * (g / 46337 + 7) * 16807) % 2147483629 / 32 % many, stM cells pos' cur' g, (hmod _).1, (hmod _).2, ⟨cells, pos', cur', g, rfl, hp', hc', g0, g1, hn⟩, fin (s' := [some (.d (.int many)), none, none, some (.d (.int ((g % 46337 + 1) * (g / 46337 + 7) * 16807)))]) ?_⟩
    unfold b__law_pick
    simp only [aSeq_ap, e, seqK_nx]
    unfold stM
    simp only [aSeq_ap, seqK_nx, seqK_rt, seqK_bk, seqK_ct, seqK_none, aNext_ap, aBrk_ap, aCont_ap, aAsg_ap, asgK_ap, nxR_some, aDrop_ap, dropK_ap, aIfS_ap, ifK_t, ifK_f, aRet_ap, retK_ap, rtR_some, aRetN_ap, aKill_ap, List.foldl_cons, List.foldl_nil, sb_okN, bd_okN, mapR_some, aC_ap, aXT_ap, aVar_ap, varK_d, varK_x, varK_w, varK_p, varK_k, aOp_ap, opK_ap, opK2_ap, aFz_ap, aUn_ap, aB_ap, bK_ap, aAnd_ap, andK_t, andK_f, aOr_ap, orK_t, orK_f, aNot_ap, notK_ap, aTru_ap, truK_ap, aYes_ap, aAndV_ap, andVK_t, andVK_f, aOrV_ap, orVK_t, orVK_f, aNotV_ap, notVK_ap, aIf_ap, ifEK_t, ifEK_f, aNil_ap, aCons_ap, consK_ap, consK2_ap, aCB_ap, cbK_ap, aNoPart_ap, aPart_ap, partK_ap, aSl_ap, slK_ap, slK2_ap, slK3_ap, aBM_ap, bmK_ap, bmK2_ap, aBM0_ap, bmK0_ap, aPut_ap, putK_ap, putK1_ap, putK2_ap, aFor_ap, forK_n, aRng1_ap, aRng2_ap, aIt_ap, itK_l, itK_t, itK_s, itK_x, itK_c, itK_f, aCallG_ap, List.getElem?_cons_zero, List.getElem?_cons_succ, List.set_cons_zero, List.set_cons_succ, List.length_cons, List.length_nil, Nat.zero_add, Nat.reduceAdd, Option.map_some, Option.map_none, Option.bind_some, Option.bind_none, List.map_cons, List.map_nil, aName, aNameF, fz, rtv, wAt, toM, vw, frz_lst, frz_d, lvs_map, oIx2_var, ixV_w, ixV_p, ixV_k, ixL_some, lfAt_nat, lf_d, oIx2_l, oIx2_t, Y.atI_nat, putF_var, putV_w, putV_p, oEq_int, oNe_int, oLtA_int, oIntA_int, oIntA_bool, oLenV_l, oLenV_t, oI0_ap, oB0_ap, oAdd_int, rNeg, lfAt_0, stL_0, Y.atI_0, lfAt_1, stL_1, Y.atI_1, lfAt_2, stL_2, Y.atI_2, lfAt_3, stL_3, Y.atI_3, lfAt_4, stL_4, Y.atI_4, lfAt_5, stL_5, Y.atI_5, lfAt_6, stL_6, Y.atI_6, lfAt_7, stL_7, Y.atI_7, Nat.reduceLeDiff, Int.reduceLT, Int.reduceLE, List.cons_append, List.nil_append, decide_true, decide_false, if_true, if_false, sizeLine_eq, aLc_ap, decide_eq_false hz, oMod_ok, oMul_r, oMul_int hcm, oDiv_ok, Int.reduceNeg, Int.reducePow, hg, h1]

end Lw

namespace Lw
open PySem PySem.Spec PyProof.Rows L2 Y PySem.W TL
/-! ### names -/
def sgN (c : Nat) : Bool := (decide (48 ≤ c) && decide (c ≤ 57)) || (decide (97 ≤ c) && decide (c ≤ 122))
def wordsL : List (List Nat) := [[112, 97, 99, 116], [101, 110, 100], [99, 104, 111, 105, 99, 101], [98, 111, 116, 104], [108, 111, 111, 112], [117, 115, 101]]
structure NameL (l : List Nat) : Prop where
  len : l.length ≤ 12
  hd : ∃ c r, l = c :: r ∧ 97 ≤ c ∧ c ≤ 122
  sg : ∀ c ∈ l, sgN c = true
  nw : l ∉ wordsL
theorem sgN_low {c : Nat} (h : sgN c = true) : c < 200 := by
  unfold sgN at h
  simp only [Bool.or_eq_true, Bool.and_eq_true, decide_eq_true_eq] at h
  omega
theorem NameL.low {l : List Nat} (h : NameL l) : ∀ c ∈ l, c < 200 := fun c hc => sgN_low (h.sg c hc)
def lowB (c : Nat) : Bool := decide (97 ≤ c) && decide (c ≤ 122)
theorem lowB_sgN {c : Nat} (h : lowB c = true) : sgN c = true := by
  unfold sgN
  unfold lowB at h
  rw [h, Bool.or_true]
theorem ix_const {z : Str} {P : Nat → Bool} (h : (tl z).all P = true) {r : Int} (h1 : r.toNat < (tl z).length) : ∃ n, (tl z)[r.toNat]? = some n ∧ P n = true :=
  ⟨(tl z)[r.toNat], List.getElem?_eq_getElem h1, List.all_eq_true.mp h _ (List.getElem_mem h1)⟩
theorem not_mem_of {l : List Nat} {ls : List (List Nat)} (h : ls.contains l = false) : l ∉ ls := fun m => by
  rw [List.contains_iff_mem.mpr m] at h; cases h
theorem nodup_len {α : Type} [DecidableEq α] : ∀ {L B : List α}, L.Nodup → (∀ x ∈ L, x ∈ B) → L.length ≤ B.length
  | [], _, _, _ => Nat.zero_le _
  | x :: r, B, h, s => by
    have hx := s x (List.mem_cons_self ..)
    obtain ⟨h1, h2⟩ := List.nodup_cons.mp h
    have := nodup_len (L := r) (B := B.erase x) h2 fun y hy => by
      have ne : y ≠ x := fun z => h1 (z ▸ hy)
      exact (List.mem_erase_of_ne ne).mpr (s y (List.mem_cons_of_mem _ hy))
    rw [List.length_erase_of_mem hx] at this
    have pos : 0 < B.length := List.length_pos_of_mem hx
    rw [List.length_cons]
    omega
theorem spare_name {j : Nat} (h : j ≤ 1000) : NameL (113 :: numL j) := by
  have l4 : (numL j).length ≤ 4 := numL_len (by decide) (by omega)
  refine ⟨by rw [List.length_cons]; omega, ⟨113, _, rfl, by decide, by decide⟩, fun x hx => ?_, fun m => ?_⟩
  · rcases List.mem_cons.mp hx with g | g
    · rw [g]; rfl
    · have := numL_digits j x g
      unfold sgN
      simp only [Bool.or_eq_true, Bool.and_eq_true, decide_eq_true_eq]
      exact .inl this
  · have z : ∀ w ∈ wordsL, 113 ∉ w := by decide
    exact z _ m (List.mem_cons_self ..)
theorem spare_nodup (n : Nat) : ((List.range n).map fun j => 113 :: numL j).Nodup := by
  rw [List.nodup_iff_pairwise_ne, List.pairwise_map]
  refine List.Pairwise.imp ?_ (List.nodup_iff_pairwise_ne.mp List.nodup_range)
  intro a b hab e
  injection e with _ e
  exact hab (numL_inj e)
abbrev ltrs : Str := "abcdefghijklmnopqrstuvwxyz0123456789"
theorem ltrs_len : (tl ltrs).length = 36 := by decide +kernel
theorem ltrs_sg : (tl ltrs).all sgN = true := by decide +kernel
theorem ltrs_low : ((tl ltrs).take 26).all lowB = true := by decide +kernel
theorem ltrs_sz : ltrs.length ≤ sizeLine := by decide +kernel
theorem ix_low {r : Int} (h0 : 0 ≤ r) (h1 : r < 26) : ∃ n, (tl ltrs)[r.toNat]? = some n ∧ lowB n = true := by
  have hl : r.toNat < (tl ltrs).length := by rw [ltrs_len]; omega
  refine ⟨(tl ltrs)[r.toNat], List.getElem?_eq_getElem hl, ?_⟩
  have ht : r.toNat < ((tl ltrs).take 26).length := by rw [List.length_take, ltrs_len]; omega
  have := List.all_eq_true.mp ltrs_low _ (List.getElem_mem ht)
  rw [List.getElem_take] at this
  exact this
abbrev wordsS : List Str := ["pact", "end", "choice", "both", "loop", "use"]
theorem wordsS_tl : wordsS.map tl = wordsL := by decide +kernel
theorem q_mk : ("q" : Str) = mk [113] := ext_tl (by decide +kernel)
theorem oStr_nat {s : SL} {n : Nat} (h : n ≤ 999999999) : oStr s [.d (.int (n : Nat))] = some (.d (.str (mk (numL n))), s) := by
  have e : (toString ((n : Nat) : Int) : Str) = mk (numL n) := ext_tl (by have := tl_num n; exact this)
  show (if ((n : Nat) : Int).natAbs.log2 < 1920 then some (TV.d (.str (toString ((n : Nat) : Int))), s) else none) = _
  rw [if_pos (Nat.lt_of_lt_of_le (PySem.Flt.log2_lt_of (k := 64) (by decide) (by omega)) (by decide)), e]
def NlP (tk : PyData) (i : Nat) (s : SL) : Prop := ∃ (m : MV) (l : List Nat) (o : Option SV), (o = none ∨ ∃ x, o = some (.d x)) ∧ IsSt m ∧ l.length = i + 1 ∧ (∃ x r, l = x :: r ∧ 97 ≤ x ∧ x ≤ 122) ∧ (∀ x ∈ l, sgN x = true) ∧ s = [some (.p m), some (.d tk), some (.d (.str ltrs)), some (.d (strD l)), o, none, none]
theorem name_loop {tk : PyData} {m : MV} {n0 v : Nat} (hm : IsSt m) (hv : v ≤ 11) (p0 : lowB n0 = true) : ∃ s', forGo (aNameF 4) f__law_name_0 (rng 0 v) [some (.p m), some (.d tk), some (.d (.str ltrs)), some (.d (strD [n0])), none, none, none] = some (.nx s') ∧ NlP tk v s' := by
  obtain ⟨s', e, h⟩ := forGo_inv (Ga := aNameF 4) (S := f__law_name_0) (NlP tk) (ds := rng 0 v) (fun i d s hd hp => by
    obtain ⟨rfl, hi⟩ := rng_get0 hd
    obtain ⟨m, l, o, _, im, h1, h2, h3, rfl⟩ := hp
    obtain ⟨p, m', a0, a1, i1, e1⟩ := rd__law_pick im (many := 36) (by omega) (by omega)
    obtain ⟨n1, g1, p1⟩ := ix_const ltrs_sg (r := p) (by rw [ltrs_len]; omega)
    have c1 : l.length + [n1].length ≤ 16777216 := by show l.length + 1 ≤ _; omega
    refine ⟨_, [some (.p m'), some (.d tk), some (.d (.str ltrs)), some (.d (strD (l ++ [n1]))), some (.d (.int (i : Nat))), none, none], rfl, .inl ?_, m', l ++ [n1], some (.d (.int (i : Nat))), .inr ⟨_, rfl⟩, i1, by rw [List.length_append, h1]; rfl, ?_, ?_, rfl⟩
    · unfold f__law_name_0
      simp only [aSeq_ap, seqK_nx, seqK_rt, seqK_bk, seqK_ct, seqK_none, aNext_ap, aBrk_ap, aCont_ap, aAsg_ap, asgK_ap, nxR_some, aDrop_ap, dropK_ap, aIfS_ap, ifK_t, ifK_f, aRet_ap, retK_ap, rtR_some, aRetN_ap, aKill_ap, List.foldl_cons, List.foldl_nil, sb_okN, bd_okN, mapR_some, aC_ap, aXT_ap, aVar_ap, varK_d, varK_x, varK_w, varK_p, varK_k, aOp_ap, opK_ap, opK2_ap, aFz_ap, aUn_ap, aB_ap, bK_ap, aAnd_ap, andK_t, andK_f, aOr_ap, orK_t, orK_f, aNot_ap, notK_ap, aTru_ap, truK_ap, aYes_ap, aAndV_ap, andVK_t, andVK_f, aOrV_ap, orVK_t, orVK_f, aNotV_ap, notVK_ap, aIf_ap, ifEK_t, ifEK_f, aNil_ap, aCons_ap, consK_ap, consK2_ap, aCB_ap, cbK_ap, aNoPart_ap, aPart_ap, partK_ap, aSl_ap, slK_ap, slK2_ap, slK3_ap, aBM_ap, bmK_ap, bmK2_ap, aBM0_ap, bmK0_ap, aPut_ap, putK_ap, putK1_ap, putK2_ap, aFor_ap, forK_n, aRng1_ap, aRng2_ap, aIt_ap, itK_l, itK_t, itK_s, itK_x, itK_c, itK_f, aCallG_ap, List.getElem?_cons_zero, List.getElem?_cons_succ, List.set_cons_zero, List.set_cons_succ, List.length_cons, List.length_nil, Nat.zero_add, Nat.reduceAdd, Option.map_some, Option.map_none, Option.bind_some, Option.bind_none, List.map_cons, List.map_nil, aName, aNameF, fz, rtv, wAt, toM, vw, frz_lst, frz_d, lvs_map, oIx2_var, ixV_w, ixV_p, ixV_k, ixL_some, lfAt_nat, lf_d, oIx2_l, oIx2_t, Y.atI_nat, putF_var, putV_w, putV_p, oEq_int, oNe_int, oLtA_int, oIntA_int, oIntA_bool, oLenV_l, oLenV_t, oI0_ap, oB0_ap, oAdd_int, rNeg, lfAt_0, stL_0, Y.atI_0, lfAt_1, stL_1, Y.atI_1, lfAt_2, stL_2, Y.atI_2, lfAt_3, stL_3, Y.atI_3, lfAt_4, stL_4, Y.atI_4, lfAt_5, stL_5, Y.atI_5, lfAt_6, stL_6, Y.atI_6, lfAt_7, stL_7, Y.atI_7, Nat.reduceLeDiff, Int.reduceLT, Int.reduceLE, List.cons_append, List.nil_append, decide_true, decide_false, if_true, if_false, sizeLine_eq, aLc_ap, call_p0f e1, oIx2_mk ltrs_sz a0 g1, oAdd_mk c1]
    · obtain ⟨x, r, rfl, q⟩ := h2
      exact ⟨x, r ++ [n1], rfl, q⟩
    · intro x hx
      rcases List.mem_append.mp hx with h | h
      · exact h3 x h
      · rw [List.mem_singleton.mp h]; exact p1) (s := [some (.p m), some (.d tk), some (.d (.str ltrs)), some (.d (strD [n0])), none, none, none]) ⟨m, [n0], none, .inl rfl, hm, rfl, ⟨n0, [], rfl, by unfold lowB at p0; simpa using p0⟩, fun x hx => by rw [List.mem_singleton.mp hx]; exact lowB_sgN p0, rfl⟩
  rw [rng_len] at h
  exact ⟨s', e, h⟩
noncomputable def spF : PyData → MV
  | .int j => .d (strD (113 :: numL j.toNat))
  | _ => .d .none
theorem spF_map (n : Nat) : ((rng 0 n).filter fun _ => true).map spF = (strsL ((List.range n).map fun j => 113 :: numL j)).map MV.d := by
  rw [List.filter_eq_self.mpr fun _ _ => rfl]
  unfold rng strsL
  rw [List.map_map, List.map_map, List.map_map]
  refine List.map_congr_left fun j _ => ?_
  show spF (.int (0 + (j : Nat))) = _
  rw [Int.zero_add]
  rfl
theorem inD_not (tk : List (List Nat)) (w : List Nat) : inD true (strD w) (strsL tk) = !tk.contains w := inD_strsN
theorem spare_first (tk : List (List Nat)) : ∃ j, j ≤ tk.length ∧ 113 :: numL j ∉ tk ∧ lfAt (((strsL ((List.range (tk.length + 1)).map fun j => 113 :: numL j)).filter fun d => inD true d (strsL tk)).map MV.d) 0 = some (strD (113 :: numL j)) := by
  have e : (strsL ((List.range (tk.length + 1)).map fun j => 113 :: numL j)).filter (fun d => inD true d (strsL tk)) = strsL (((List.range (tk.length + 1)).map fun j => 113 :: numL j).filter fun w => !tk.contains w) := by
    unfold strsL
    rw [List.filter_map]
    congr 1
    refine List.filter_congr fun w _ => ?_
    exact inD_not tk w
  rw [e]
  cases ew : (((List.range (tk.length + 1)).map fun j => 113 :: numL j).filter fun l => !tk.contains l) with
  | nil =>
    exfalso
    have := nodup_len (spare_nodup (tk.length + 1)) (B := tk) fun x hx => by
      have z := List.filter_eq_nil_iff.mp ew x hx
      simpa using z
    rw [List.length_map, List.length_range] at this
    omega
  | cons w r =>
    have hw := List.mem_filter.mp (show w ∈ _ by rw [ew]; exact List.mem_cons_self ..)
    obtain ⟨j, hj, rfl⟩ := List.mem_map.mp hw.1
    have hj := List.mem_range.mp hj
    refine ⟨j, by omega, fun m => (by have z := hw.2; rw [List.contains_iff_mem.mpr m] at z; cases z), ?_⟩
    exact lfAt_nat 0
theorem rd__law_name {m : MV} {tk : List (List Nat)} (hm : IsSt m) (htk : tk.length ≤ 900) (hlow : ∀ l ∈ tk, ∀ c ∈ l, c < 200) : ∃ l m', NameL l ∧ l ∉ tk ∧ IsSt m' ∧ den__law_name [.p m, .d (.list (strsL tk))] = some (.ok (.d (strD l)) [some (.p m'), none]) := by
  obtain ⟨r, m1, r0, r1, i1, e1⟩ := rd__law_pick hm (many := 26) (by omega) (by omega)
  obtain ⟨r12, m2, a0, a1, i2, e2⟩ := rd__law_pick i1 (many := 12) (by omega) (by omega)
  obtain ⟨r5, m3, b0, b1, i3, e3⟩ := rd__law_pick i2 (many := 5) (by omega) (by omega)
  obtain ⟨n0, g0, p0⟩ := ix_low r0 r1
  obtain ⟨v, hv, iv⟩ : ∃ v : Nat, v ≤ 11 ∧ ∀ s : SL, oIx2 s (.t (.lst [.d (.int 0), .d (.int 0), .d (.int 1), .d (.int 2), .d (.int r12)])) (.d (.int r5)) = some (.d (.int (v : Nat)), s) := by
    have : r5 = 0 ∨ r5 = 1 ∨ r5 = 2 ∨ r5 = 3 ∨ r5 = 4 := by omega
    rcases this with rfl | rfl | rfl | rfl | rfl
    · exact ⟨0, by omega, fun s => oIx2_f rfl⟩
    · exact ⟨0, by omega, fun s => oIx2_f rfl⟩
    · exact ⟨1, by omega, fun s => oIx2_f rfl⟩
    · exact ⟨2, by omega, fun s => oIx2_f rfl⟩
    · exact ⟨r12.toNat, by omega, fun s => by rw [Int.toNat_of_nonneg a0]; exact oIx2_f rfl⟩
  obtain ⟨s', el, m4, l, o, ho, i4, h1, h2, h3, rfl⟩ := name_loop (tk := .list (strsL tk)) i3 hv p0
  have el5 : ∀ (s : SL) (a b c d e : PyData), oLst s [.d a, .d b, .d c, .d d, .d e] = some (.t (.lst [.d a, .d b, .d c, .d d, .d e]), s) := fun s a b c d e => if_pos (show 5 ≤ sizeLine by rw [sizeLine_eq]; omega)
  have et6 : ∀ (s : SL) (a b c d e f : PyData), oTup s [.d a, .d b, .d c, .d d, .d e, .d f] = some (.d (.tuple [a, b, c, d, e, f]), s) := fun s a b c d e f => if_pos (show 6 ≤ sizeLine by rw [sizeLine_eq]; omega)
  have hr : ∀ s, rngK1 [.d (.int (v : Nat))] s = some (.ok (rng 0 v, none) s) := fun s => rngK1_ap (by omega)
  have llow : ∀ c ∈ l, c < 200 := fun c hc => sgN_low (h3 c hc)
  have hin := fun s : SL => oIn2_d (s := s) (neg := false) (shaped_str llow) (shaped_strs hlow)
  have hw : ∀ s : SL, oIn2 false s (.d (strD l)) (.d (.tuple [.str "pact", .str "end", .str "choice", .str "both", .str "loop", .str "use"])) = some (.d (.bool (wordsL.contains l)), s) := fun s => by
    have := oIn2_tu (s := s) (neg := false) (x := mk l) (l := wordsS)
    rw [wordsS_tl] at this
    exact this
  have hs : start0 7 [.p m, .d (.list (strsL tk))] = [some (.p m), some (.d (.list (strsL tk))), none, none, none, none, none] := rfl
  unfold den__law_name Y.run
  rw [hs]
  by_cases ht : tk.contains l = true ∨ wordsL.contains l = true
  · obtain ⟨j, hj, hnot, hw0⟩ := spare_first tk
    have hr2 : ∀ s, rngK1 [.d (.int ((tk.length : Nat) + 1))] s = some (.ok (rng 0 (tk.length + 1), none) s) := fun s => by
      have := rngK1_ap (s := s) (j := ((tk.length : Nat) : Int) + 1) (by omega)
      rw [show (((tk.length : Nat) : Int) + 1).toNat = tk.length + 1 by omega] at this
      exact this
    have hb : b__law_name [some (.p m), some (.d (.list (strsL tk))), none, none, none, none, none] = some (.rt (.d (strD (113 :: numL j))) [some (.p m4), some (.d (.list (strsL tk))), some (.d (.str ltrs)), some (.d (strD l)), o, some (.d (.list (strsL ((List.range (tk.length + 1)).map fun j => 113 :: numL j)))), none]) := by
      unfold b__law_name
      cases t1 : tk.contains l with
      | true =>
        simp only [aSeq_ap, seqK_nx, seqK_rt, seqK_bk, seqK_ct, seqK_none, aNext_ap, aBrk_ap, aCont_ap, aAsg_ap, asgK_ap, nxR_some, aDrop_ap, dropK_ap, aIfS_ap, ifK_t, ifK_f, aRet_ap, retK_ap, rtR_some, aRetN_ap, aKill_ap, List.foldl_cons, List.foldl_nil, sb_okN, bd_okN, mapR_some, aC_ap, aXT_ap, aVar_ap, varK_d, varK_x, varK_w, varK_p, varK_k, aOp_ap, opK_ap, opK2_ap, aFz_ap, aUn_ap, aB_ap, bK_ap, aAnd_ap, andK_t, andK_f, aOr_ap, orK_t, orK_f, aNot_ap, notK_ap, aTru_ap, truK_ap, aYes_ap, aAndV_ap, andVK_t, andVK_f, aOrV_ap, orVK_t, orVK_f, aNotV_ap, notVK_ap, aIf_ap, ifEK_t, ifEK_f, aNil_ap, aCons_ap, consK_ap, consK2_ap, aCB_ap, cbK_ap, aNoPart_ap, aPart_ap, partK_ap, aSl_ap, slK_ap, slK2_ap, slK3_ap, aBM_ap, bmK_ap, bmK2_ap, aBM0_ap, bmK0_ap, aPut_ap, putK_ap, putK1_ap, putK2_ap, aFor_ap, forK_n, aRng1_ap, aRng2_ap, aIt_ap, itK_l, itK_t, itK_s, itK_x, itK_c, itK_f, aCallG_ap, List.getElem?_cons_zero, List.getElem?_cons_succ, List.set_cons_zero, List.set_cons_succ, List.length_cons, List.length_nil, Nat.zero_add, Nat.reduceAdd, Option.map_some, Option.map_none, Option.bind_some, Option.bind_none, List.map_cons, List.map_nil, aName, aNameF, fz, rtv, wAt, toM, vw, frz_lst, frz_d, lvs_map, oIx2_var, ixV_w, ixV_p, ixV_k, ixL_some, lfAt_nat, lf_d, oIx2_l, oIx2_t, Y.atI_nat, putF_var, putV_w, putV_p, oEq_int, oNe_int, oLtA_int, oIntA_int, oIntA_bool, oLenV_l, oLenV_t, oI0_ap, oB0_ap, oAdd_int, rNeg, lfAt_0, stL_0, Y.atI_0, lfAt_1, stL_1, Y.atI_1, lfAt_2, stL_2, Y.atI_2, lfAt_3, stL_3, Y.atI_3, lfAt_4, stL_4, Y.atI_4, lfAt_5, stL_5, Y.atI_5, lfAt_6, stL_6, Y.atI_6, lfAt_7, stL_7, Y.atI_7, Nat.reduceLeDiff, Int.reduceLT, Int.reduceLE, List.cons_append, List.nil_append, decide_true, decide_false, if_true, if_false, sizeLine_eq, aLc_ap, call_p0f e1, oIx2_mk ltrs_sz r0 g0, call_p0f e2, call_p0f e3, el5, iv, hr, el, hin, inD_strs, t1, List.length_map, hr2]
        rw [lcK_map (fun _ => true) spF (by rw [rng_len]; omega) (by rcases ho with rfl | ⟨x, rfl⟩ <;> rfl) (fun x hx => by
          obtain ⟨j, hj, rfl⟩ := rng_mem hx
          have l4 : (numL j).length ≤ 4 := numL_len (by decide) (by omega)
          refine ⟨_, [some (.p m4), some (.d (.list (strsL tk))), some (.d (.str ltrs)), some (.d (strD l)), some (.d (.int (j : Nat))), none, none], rfl, rfl, fun _ => ⟨.d (strD (113 :: numL j)), [some (.p m4), some (.d (.list (strsL tk))), some (.d (.str ltrs)), some (.d (strD l)), some (.d (.int (j : Nat))), none, none], [some (.p m4), some (.d (.list (strsL tk))), some (.d (.str ltrs)), some (.d (strD l)), some (.d (.int (j : Nat))), none, none], ?_, rfl, rfl⟩, fun z => by cases z⟩
          have c1 : [113].length + (numL j).length ≤ 16777216 := by show 1 + _ ≤ _; omega
          show aOp oAdd (aC (.str "q")) (aCB oStr (aCons (aVar 4) aNil)) [some (.p m4), some (.d (.list (strsL tk))), some (.d (.str ltrs)), some (.d (strD l)), some (.d (.int (j : Nat))), none, none] = _
          simp only [aSeq_ap, seqK_nx, seqK_rt, seqK_bk, seqK_ct, seqK_none, aNext_ap, aBrk_ap, aCont_ap, aAsg_ap, asgK_ap, nxR_some, aDrop_ap, dropK_ap, aIfS_ap, ifK_t, ifK_f, aRet_ap, retK_ap, rtR_some, aRetN_ap, aKill_ap, List.foldl_cons, List.foldl_nil, sb_okN, bd_okN, mapR_some, aC_ap, aXT_ap, aVar_ap, varK_d, varK_x, varK_w, varK_p, varK_k, aOp_ap, opK_ap, opK2_ap, aFz_ap, aUn_ap, aB_ap, bK_ap, aAnd_ap, andK_t, andK_f, aOr_ap, orK_t, orK_f, aNot_ap, notK_ap, aTru_ap, truK_ap, aYes_ap, aAndV_ap, andVK_t, andVK_f, aOrV_ap, orVK_t, orVK_f, aNotV_ap, notVK_ap, aIf_ap, ifEK_t, ifEK_f, aNil_ap, aCons_ap, consK_ap, consK2_ap, aCB_ap, cbK_ap, aNoPart_ap, aPart_ap, partK_ap, aSl_ap, slK_ap, slK2_ap, slK3_ap, aBM_ap, bmK_ap, bmK2_ap, aBM0_ap, bmK0_ap, aPut_ap, putK_ap, putK1_ap, putK2_ap, aFor_ap, forK_n, aRng1_ap, aRng2_ap, aIt_ap, itK_l, itK_t, itK_s, itK_x, itK_c, itK_f, aCallG_ap, List.getElem?_cons_zero, List.getElem?_cons_succ, List.set_cons_zero, List.set_cons_succ, List.length_cons, List.length_nil, Nat.zero_add, Nat.reduceAdd, Option.map_some, Option.map_none, Option.bind_some, Option.bind_none, List.map_cons, List.map_nil, aName, aNameF, fz, rtv, wAt, toM, vw, frz_lst, frz_d, lvs_map, oIx2_var, ixV_w, ixV_p, ixV_k, ixL_some, lfAt_nat, lf_d, oIx2_l, oIx2_t, Y.atI_nat, putF_var, putV_w, putV_p, oEq_int, oNe_int, oLtA_int, oIntA_int, oIntA_bool, oLenV_l, oLenV_t, oI0_ap, oB0_ap, oAdd_int, rNeg, lfAt_0, stL_0, Y.atI_0, lfAt_1, stL_1, Y.atI_1, lfAt_2, stL_2, Y.atI_2, lfAt_3, stL_3, Y.atI_3, lfAt_4, stL_4, Y.atI_4, lfAt_5, stL_5, Y.atI_5, lfAt_6, stL_6, Y.atI_6, lfAt_7, stL_7, Y.atI_7, Nat.reduceLeDiff, Int.reduceLT, Int.reduceLE, List.cons_append, List.nil_append, decide_true, decide_false, if_true, if_false, sizeLine_eq, aLc_ap, oStr_nat (show j ≤ 999999999 by omega), q_mk, oAdd_mk c1])]
        simp only [aSeq_ap, seqK_nx, seqK_rt, seqK_bk, seqK_ct, seqK_none, aNext_ap, aBrk_ap, aCont_ap, aAsg_ap, asgK_ap, nxR_some, aDrop_ap, dropK_ap, aIfS_ap, ifK_t, ifK_f, aRet_ap, retK_ap, rtR_some, aRetN_ap, aKill_ap, List.foldl_cons, List.foldl_nil, sb_okN, bd_okN, mapR_some, aC_ap, aXT_ap, aVar_ap, varK_d, varK_x, varK_w, varK_p, varK_k, aOp_ap, opK_ap, opK2_ap, aFz_ap, aUn_ap, aB_ap, bK_ap, aAnd_ap, andK_t, andK_f, aOr_ap, orK_t, orK_f, aNot_ap, notK_ap, aTru_ap, truK_ap, aYes_ap, aAndV_ap, andVK_t, andVK_f, aOrV_ap, orVK_t, orVK_f, aNotV_ap, notVK_ap, aIf_ap, ifEK_t, ifEK_f, aNil_ap, aCons_ap, consK_ap, consK2_ap, aCB_ap, cbK_ap, aNoPart_ap, aPart_ap, partK_ap, aSl_ap, slK_ap, slK2_ap, slK3_ap, aBM_ap, bmK_ap, bmK2_ap, aBM0_ap, bmK0_ap, aPut_ap, putK_ap, putK1_ap, putK2_ap, aFor_ap, forK_n, aRng1_ap, aRng2_ap, aIt_ap, itK_l, itK_t, itK_s, itK_x, itK_c, itK_f, aCallG_ap, List.getElem?_cons_zero, List.getElem?_cons_succ, List.set_cons_zero, List.set_cons_succ, List.length_cons, List.length_nil, Nat.zero_add, Nat.reduceAdd, Option.map_some, Option.map_none, Option.bind_some, Option.bind_none, List.map_cons, List.map_nil, aName, aNameF, fz, rtv, wAt, toM, vw, frz_lst, frz_d, lvs_map, oIx2_var, ixV_w, ixV_p, ixV_k, ixL_some, lfAt_nat, lf_d, oIx2_l, oIx2_t, Y.atI_nat, putF_var, putV_w, putV_p, oEq_int, oNe_int, oLtA_int, oIntA_int, oIntA_bool, oLenV_l, oLenV_t, oI0_ap, oB0_ap, oAdd_int, rNeg, lfAt_0, stL_0, Y.atI_0, lfAt_1, stL_1, Y.atI_1, lfAt_2, stL_2, Y.atI_2, lfAt_3, stL_3, Y.atI_3, lfAt_4, stL_4, Y.atI_4, lfAt_5, stL_5, Y.atI_5, lfAt_6, stL_6, Y.atI_6, lfAt_7, stL_7, Y.atI_7, Nat.reduceLeDiff, Int.reduceLT, Int.reduceLE, List.cons_append, List.nil_append, decide_true, decide_false, if_true, if_false, sizeLine_eq, aLc_ap, spF_map]
        rw [lcK_map (fun d => inD true d (strsL tk)) MV.d (by rw [List.length_map, List.length_map, List.length_range]; omega) rfl (fun x hx => by
          obtain ⟨w, hw, rfl⟩ := List.mem_map.mp hx
          obtain ⟨j, hj, rfl⟩ := List.mem_map.mp hw
          have hj := List.mem_range.mp hj
          have lw := (spare_name (j := j) (by omega)).low
          refine ⟨_, [some (.p m4), some (.d (.list (strsL tk))), some (.d (.str ltrs)), some (.d (strD l)), o, some (.d (.list (strsL ((List.range (tk.length + 1)).map fun j => 113 :: numL j)))), some (.d (strD (113 :: numL j)))], rfl, ?_, fun _ => ⟨.d (strD (113 :: numL j)), [some (.p m4), some (.d (.list (strsL tk))), some (.d (.str ltrs)), some (.d (strD l)), o, some (.d (.list (strsL ((List.range (tk.length + 1)).map fun j => 113 :: numL j)))), some (.d (strD (113 :: numL j)))], [some (.p m4), some (.d (.list (strsL tk))), some (.d (.str ltrs)), some (.d (strD l)), o, some (.d (.list (strsL ((List.range (tk.length + 1)).map fun j => 113 :: numL j)))), some (.d (strD (113 :: numL j)))], rfl, rfl, rfl⟩, fun _ => rfl⟩
          show aB (aOp (oIn2 true) (aVar 6) (aVar 1)) [some (.p m4), some (.d (.list (strsL tk))), some (.d (.str ltrs)), some (.d (strD l)), o, some (.d (.list (strsL ((List.range (tk.length + 1)).map fun j => 113 :: numL j)))), some (.d (strD (113 :: numL j)))] = _
          simp only [aSeq_ap, seqK_nx, seqK_rt, seqK_bk, seqK_ct, seqK_none, aNext_ap, aBrk_ap, aCont_ap, aAsg_ap, asgK_ap, nxR_some, aDrop_ap, dropK_ap, aIfS_ap, ifK_t, ifK_f, aRet_ap, retK_ap, rtR_some, aRetN_ap, aKill_ap, List.foldl_cons, List.foldl_nil, sb_okN, bd_okN, mapR_some, aC_ap, aXT_ap, aVar_ap, varK_d, varK_x, varK_w, varK_p, varK_k, aOp_ap, opK_ap, opK2_ap, aFz_ap, aUn_ap, aB_ap, bK_ap, aAnd_ap, andK_t, andK_f, aOr_ap, orK_t, orK_f, aNot_ap, notK_ap, aTru_ap, truK_ap, aYes_ap, aAndV_ap, andVK_t, andVK_f, aOrV_ap, orVK_t, orVK_f, aNotV_ap, notVK_ap, aIf_ap, ifEK_t, ifEK_f, aNil_ap, aCons_ap, consK_ap, consK2_ap, aCB_ap, cbK_ap, aNoPart_ap, aPart_ap, partK_ap, aSl_ap, slK_ap, slK2_ap, slK3_ap, aBM_ap, bmK_ap, bmK2_ap, aBM0_ap, bmK0_ap, aPut_ap, putK_ap, putK1_ap, putK2_ap, aFor_ap, forK_n, aRng1_ap, aRng2_ap, aIt_ap, itK_l, itK_t, itK_s, itK_x, itK_c, itK_f, aCallG_ap, List.getElem?_cons_zero, List.getElem?_cons_succ, List.set_cons_zero, List.set_cons_succ, List.length_cons, List.length_nil, Nat.zero_add, Nat.reduceAdd, Option.map_some, Option.map_none, Option.bind_some, Option.bind_none, List.map_cons, List.map_nil, aName, aNameF, fz, rtv, wAt, toM, vw, frz_lst, frz_d, lvs_map, oIx2_var, ixV_w, ixV_p, ixV_k, ixL_some, lfAt_nat, lf_d, oIx2_l, oIx2_t, Y.atI_nat, putF_var, putV_w, putV_p, oEq_int, oNe_int, oLtA_int, oIntA_int, oIntA_bool, oLenV_l, oLenV_t, oI0_ap, oB0_ap, oAdd_int, rNeg, lfAt_0, stL_0, Y.atI_0, lfAt_1, stL_1, Y.atI_1, lfAt_2, stL_2, Y.atI_2, lfAt_3, stL_3, Y.atI_3, lfAt_4, stL_4, Y.atI_4, lfAt_5, stL_5, Y.atI_5, lfAt_6, stL_6, Y.atI_6, lfAt_7, stL_7, Y.atI_7, Nat.reduceLeDiff, Int.reduceLT, Int.reduceLE, List.cons_append, List.nil_append, decide_true, decide_false, if_true, if_false, sizeLine_eq, aLc_ap, oIn2_d (shaped_str lw) (shaped_strs hlow)])]
        simp only [aSeq_ap, seqK_nx, seqK_rt, seqK_bk, seqK_ct, seqK_none, aNext_ap, aBrk_ap, aCont_ap, aAsg_ap, asgK_ap, nxR_some, aDrop_ap, dropK_ap, aIfS_ap, ifK_t, ifK_f, aRet_ap, retK_ap, rtR_some, aRetN_ap, aKill_ap, List.foldl_cons, List.foldl_nil, sb_okN, bd_okN, mapR_some, aC_ap, aXT_ap, aVar_ap, varK_d, varK_x, varK_w, varK_p, varK_k, aOp_ap, opK_ap, opK2_ap, aFz_ap, aUn_ap, aB_ap, bK_ap, aAnd_ap, andK_t, andK_f, aOr_ap, orK_t, orK_f, aNot_ap, notK_ap, aTru_ap, truK_ap, aYes_ap, aAndV_ap, andVK_t, andVK_f, aOrV_ap, orVK_t, orVK_f, aNotV_ap, notVK_ap, aIf_ap, ifEK_t, ifEK_f, aNil_ap, aCons_ap, consK_ap, consK2_ap, aCB_ap, cbK_ap, aNoPart_ap, aPart_ap, partK_ap, aSl_ap, slK_ap, slK2_ap, slK3_ap, aBM_ap, bmK_ap, bmK2_ap, aBM0_ap, bmK0_ap, aPut_ap, putK_ap, putK1_ap, putK2_ap, aFor_ap, forK_n, aRng1_ap, aRng2_ap, aIt_ap, itK_l, itK_t, itK_s, itK_x, itK_c, itK_f, aCallG_ap, List.getElem?_cons_zero, List.getElem?_cons_succ, List.set_cons_zero, List.set_cons_succ, List.length_cons, List.length_nil, Nat.zero_add, Nat.reduceAdd, Option.map_some, Option.map_none, Option.bind_some, Option.bind_none, List.map_cons, List.map_nil, aName, aNameF, fz, rtv, wAt, toM, vw, frz_lst, frz_d, lvs_map, oIx2_var, ixV_w, ixV_p, ixV_k, ixL_some, lfAt_nat, lf_d, oIx2_l, oIx2_t, Y.atI_nat, putF_var, putV_w, putV_p, oEq_int, oNe_int, oLtA_int, oIntA_int, oIntA_bool, oLenV_l, oLenV_t, oI0_ap, oB0_ap, oAdd_int, rNeg, lfAt_0, stL_0, Y.atI_0, lfAt_1, stL_1, Y.atI_1, lfAt_2, stL_2, Y.atI_2, lfAt_3, stL_3, Y.atI_3, lfAt_4, stL_4, Y.atI_4, lfAt_5, stL_5, Y.atI_5, lfAt_6, stL_6, Y.atI_6, lfAt_7, stL_7, Y.atI_7, Nat.reduceLeDiff, Int.reduceLT, Int.reduceLE, List.cons_append, List.nil_append, decide_true, decide_false, if_true, if_false, sizeLine_eq, aLc_ap, oIx2_f hw0]
  
      | false =>
        have t2 : wordsL.contains l = true := ht.resolve_left (by rw [t1]; decide)
        simp only [aSeq_ap, seqK_nx, seqK_rt, seqK_bk, seqK_ct, seqK_none, aNext_ap, aBrk_ap, aCont_ap, aAsg_ap, asgK_ap, nxR_some, aDrop_ap, dropK_ap, aIfS_ap, ifK_t, ifK_f, aRet_ap, retK_ap, rtR_some, aRetN_ap, aKill_ap, List.foldl_cons, List.foldl_nil, sb_okN, bd_okN, mapR_some, aC_ap, aXT_ap, aVar_ap, varK_d, varK_x, varK_w, varK_p, varK_k, aOp_ap, opK_ap, opK2_ap, aFz_ap, aUn_ap, aB_ap, bK_ap, aAnd_ap, andK_t, andK_f, aOr_ap, orK_t, orK_f, aNot_ap, notK_ap, aTru_ap, truK_ap, aYes_ap, aAndV_ap, andVK_t, andVK_f, aOrV_ap, orVK_t, orVK_f, aNotV_ap, notVK_ap, aIf_ap, ifEK_t, ifEK_f, aNil_ap, aCons_ap, consK_ap, consK2_ap, aCB_ap, cbK_ap, aNoPart_ap, aPart_ap, partK_ap, aSl_ap, slK_ap, slK2_ap, slK3_ap, aBM_ap, bmK_ap, bmK2_ap, aBM0_ap, bmK0_ap, aPut_ap, putK_ap, putK1_ap, putK2_ap, aFor_ap, forK_n, aRng1_ap, aRng2_ap, aIt_ap, itK_l, itK_t, itK_s, itK_x, itK_c, itK_f, aCallG_ap, List.getElem?_cons_zero, List.getElem?_cons_succ, List.set_cons_zero, List.set_cons_succ, List.length_cons, List.length_nil, Nat.zero_add, Nat.reduceAdd, Option.map_some, Option.map_none, Option.bind_some, Option.bind_none, List.map_cons, List.map_nil, aName, aNameF, fz, rtv, wAt, toM, vw, frz_lst, frz_d, lvs_map, oIx2_var, ixV_w, ixV_p, ixV_k, ixL_some, lfAt_nat, lf_d, oIx2_l, oIx2_t, Y.atI_nat, putF_var, putV_w, putV_p, oEq_int, oNe_int, oLtA_int, oIntA_int, oIntA_bool, oLenV_l, oLenV_t, oI0_ap, oB0_ap, oAdd_int, rNeg, lfAt_0, stL_0, Y.atI_0, lfAt_1, stL_1, Y.atI_1, lfAt_2, stL_2, Y.atI_2, lfAt_3, stL_3, Y.atI_3, lfAt_4, stL_4, Y.atI_4, lfAt_5, stL_5, Y.atI_5, lfAt_6, stL_6, Y.atI_6, lfAt_7, stL_7, Y.atI_7, Nat.reduceLeDiff, Int.reduceLT, Int.reduceLE, List.cons_append, List.nil_append, decide_true, decide_false, if_true, if_false, sizeLine_eq, aLc_ap, call_p0f e1, oIx2_mk ltrs_sz r0 g0, call_p0f e2, call_p0f e3, el5, iv, hr, el, hin, inD_strs, t1, hw, et6, t2, List.length_map, hr2]
        rw [lcK_map (fun _ => true) spF (by rw [rng_len]; omega) (by rcases ho with rfl | ⟨x, rfl⟩ <;> rfl) (fun x hx => by
          obtain ⟨j, hj, rfl⟩ := rng_mem hx
          have l4 : (numL j).length ≤ 4 := numL_len (by decide) (by omega)
          refine ⟨_, [some (.p m4), some (.d (.list (strsL tk))), some (.d (.str ltrs)), some (.d (strD l)), some (.d (.int (j : Nat))), none, none], rfl, rfl, fun _ => ⟨.d (strD (113 :: numL j)), [some (.p m4), some (.d (.list (strsL tk))), some (.d (.str ltrs)), some (.d (strD l)), some (.d (.int (j : Nat))), none, none], [some (.p m4), some (.d (.list (strsL tk))), some (.d (.str ltrs)), some (.d (strD l)), some (.d (.int (j : Nat))), none, none], ?_, rfl, rfl⟩, fun z => by cases z⟩
          have c1 : [113].length + (numL j).length ≤ 16777216 := by show 1 + _ ≤ _; omega
          show aOp oAdd (aC (.str "q")) (aCB oStr (aCons (aVar 4) aNil)) [some (.p m4), some (.d (.list (strsL tk))), some (.d (.str ltrs)), some (.d (strD l)), some (.d (.int (j : Nat))), none, none] = _
          simp only [aSeq_ap, seqK_nx, seqK_rt, seqK_bk, seqK_ct, seqK_none, aNext_ap, aBrk_ap, aCont_ap, aAsg_ap, asgK_ap, nxR_some, aDrop_ap, dropK_ap, aIfS_ap, ifK_t, ifK_f, aRet_ap, retK_ap, rtR_some, aRetN_ap, aKill_ap, List.foldl_cons, List.foldl_nil, sb_okN, bd_okN, mapR_some, aC_ap, aXT_ap, aVar_ap, varK_d, varK_x, varK_w, varK_p, varK_k, aOp_ap, opK_ap, opK2_ap, aFz_ap, aUn_ap, aB_ap, bK_ap, aAnd_ap, andK_t, andK_f, aOr_ap, orK_t, orK_f, aNot_ap, notK_ap, aTru_ap, truK_ap, aYes_ap, aAndV_ap, andVK_t, andVK_f, aOrV_ap, orVK_t, orVK_f, aNotV_ap, notVK_ap, aIf_ap, ifEK_t, ifEK_f, aNil_ap, aCons_ap, consK_ap, consK2_ap, aCB_ap, cbK_ap, aNoPart_ap, aPart_ap, partK_ap, aSl_ap, slK_ap, slK2_ap, slK3_ap, aBM_ap, bmK_ap, bmK2_ap, aBM0_ap, bmK0_ap, aPut_ap, putK_ap, putK1_ap, putK2_ap, aFor_ap, forK_n, aRng1_ap, aRng2_ap, aIt_ap, itK_l, itK_t, itK_s, itK_x, itK_c, itK_f, aCallG_ap, List.getElem?_cons_zero, List.getElem?_cons_succ, List.set_cons_zero, List.set_cons_succ, List.length_cons, List.length_nil, Nat.zero_add, Nat.reduceAdd, Option.map_some, Option.map_none, Option.bind_some, Option.bind_none, List.map_cons, List.map_nil, aName, aNameF, fz, rtv, wAt, toM, vw, frz_lst, frz_d, lvs_map, oIx2_var, ixV_w, ixV_p, ixV_k, ixL_some, lfAt_nat, lf_d, oIx2_l, oIx2_t, Y.atI_nat, putF_var, putV_w, putV_p, oEq_int, oNe_int, oLtA_int, oIntA_int, oIntA_bool, oLenV_l, oLenV_t, oI0_ap, oB0_ap, oAdd_int, rNeg, lfAt_0, stL_0, Y.atI_0, lfAt_1, stL_1, Y.atI_1, lfAt_2, stL_2, Y.atI_2, lfAt_3, stL_3, Y.atI_3, lfAt_4, stL_4, Y.atI_4, lfAt_5, stL_5, Y.atI_5, lfAt_6, stL_6, Y.atI_6, lfAt_7, stL_7, Y.atI_7, Nat.reduceLeDiff, Int.reduceLT, Int.reduceLE, List.cons_append, List.nil_append, decide_true, decide_false, if_true, if_false, sizeLine_eq, aLc_ap, oStr_nat (show j ≤ 999999999 by omega), q_mk, oAdd_mk c1])]
        simp only [aSeq_ap, seqK_nx, seqK_rt, seqK_bk, seqK_ct, seqK_none, aNext_ap, aBrk_ap, aCont_ap, aAsg_ap, asgK_ap, nxR_some, aDrop_ap, dropK_ap, aIfS_ap, ifK_t, ifK_f, aRet_ap, retK_ap, rtR_some, aRetN_ap, aKill_ap, List.foldl_cons, List.foldl_nil, sb_okN, bd_okN, mapR_some, aC_ap, aXT_ap, aVar_ap, varK_d, varK_x, varK_w, varK_p, varK_k, aOp_ap, opK_ap, opK2_ap, aFz_ap, aUn_ap, aB_ap, bK_ap, aAnd_ap, andK_t, andK_f, aOr_ap, orK_t, orK_f, aNot_ap, notK_ap, aTru_ap, truK_ap, aYes_ap, aAndV_ap, andVK_t, andVK_f, aOrV_ap, orVK_t, orVK_f, aNotV_ap, notVK_ap, aIf_ap, ifEK_t, ifEK_f, aNil_ap, aCons_ap, consK_ap, consK2_ap, aCB_ap, cbK_ap, aNoPart_ap, aPart_ap, partK_ap, aSl_ap, slK_ap, slK2_ap, slK3_ap, aBM_ap, bmK_ap, bmK2_ap, aBM0_ap, bmK0_ap, aPut_ap, putK_ap, putK1_ap, putK2_ap, aFor_ap, forK_n, aRng1_ap, aRng2_ap, aIt_ap, itK_l, itK_t, itK_s, itK_x, itK_c, itK_f, aCallG_ap, List.getElem?_cons_zero, List.getElem?_cons_succ, List.set_cons_zero, List.set_cons_succ, List.length_cons, List.length_nil, Nat.zero_add, Nat.reduceAdd, Option.map_some, Option.map_none, Option.bind_some, Option.bind_none, List.map_cons, List.map_nil, aName, aNameF, fz, rtv, wAt, toM, vw, frz_lst, frz_d, lvs_map, oIx2_var, ixV_w, ixV_p, ixV_k, ixL_some, lfAt_nat, lf_d, oIx2_l, oIx2_t, Y.atI_nat, putF_var, putV_w, putV_p, oEq_int, oNe_int, oLtA_int, oIntA_int, oIntA_bool, oLenV_l, oLenV_t, oI0_ap, oB0_ap, oAdd_int, rNeg, lfAt_0, stL_0, Y.atI_0, lfAt_1, stL_1, Y.atI_1, lfAt_2, stL_2, Y.atI_2, lfAt_3, stL_3, Y.atI_3, lfAt_4, stL_4, Y.atI_4, lfAt_5, stL_5, Y.atI_5, lfAt_6, stL_6, Y.atI_6, lfAt_7, stL_7, Y.atI_7, Nat.reduceLeDiff, Int.reduceLT, Int.reduceLE, List.cons_append, List.nil_append, decide_true, decide_false, if_true, if_false, sizeLine_eq, aLc_ap, spF_map]
        rw [lcK_map (fun d => inD true d (strsL tk)) MV.d (by rw [List.length_map, List.length_map, List.length_range]; omega) rfl (fun x hx => by
          obtain ⟨w, hw, rfl⟩ := List.mem_map.mp hx
          obtain ⟨j, hj, rfl⟩ := List.mem_map.mp hw
          have hj := List.mem_range.mp hj
          have lw := (spare_name (j := j) (by omega)).low
          refine ⟨_, [some (.p m4), some (.d (.list (strsL tk))), some (.d (.str ltrs)), some (.d (strD l)), o, some (.d (.list (strsL ((List.range (tk.length + 1)).map fun j => 113 :: numL j)))), some (.d (strD (113 :: numL j)))], rfl, ?_, fun _ => ⟨.d (strD (113 :: numL j)), [some (.p m4), some (.d (.list (strsL tk))), some (.d (.str ltrs)), some (.d (strD l)), o, some (.d (.list (strsL ((List.range (tk.length + 1)).map fun j => 113 :: numL j)))), some (.d (strD (113 :: numL j)))], [some (.p m4), some (.d (.list (strsL tk))), some (.d (.str ltrs)), some (.d (strD l)), o, some (.d (.list (strsL ((List.range (tk.length + 1)).map fun j => 113 :: numL j)))), some (.d (strD (113 :: numL j)))], rfl, rfl, rfl⟩, fun _ => rfl⟩
          show aB (aOp (oIn2 true) (aVar 6) (aVar 1)) [some (.p m4), some (.d (.list (strsL tk))), some (.d (.str ltrs)), some (.d (strD l)), o, some (.d (.list (strsL ((List.range (tk.length + 1)).map fun j => 113 :: numL j)))), some (.d (strD (113 :: numL j)))] = _
          simp only [aSeq_ap, seqK_nx, seqK_rt, seqK_bk, seqK_ct, seqK_none, aNext_ap, aBrk_ap, aCont_ap, aAsg_ap, asgK_ap, nxR_some, aDrop_ap, dropK_ap, aIfS_ap, ifK_t, ifK_f, aRet_ap, retK_ap, rtR_some, aRetN_ap, aKill_ap, List.foldl_cons, List.foldl_nil, sb_okN, bd_okN, mapR_some, aC_ap, aXT_ap, aVar_ap, varK_d, varK_x, varK_w, varK_p, varK_k, aOp_ap, opK_ap, opK2_ap, aFz_ap, aUn_ap, aB_ap, bK_ap, aAnd_ap, andK_t, andK_f, aOr_ap, orK_t, orK_f, aNot_ap, notK_ap, aTru_ap, truK_ap, aYes_ap, aAndV_ap, andVK_t, andVK_f, aOrV_ap, orVK_t, orVK_f, aNotV_ap, notVK_ap, aIf_ap, ifEK_t, ifEK_f, aNil_ap, aCons_ap, consK_ap, consK2_ap, aCB_ap, cbK_ap, aNoPart_ap, aPart_ap, partK_ap, aSl_ap, slK_ap, slK2_ap, slK3_ap, aBM_ap, bmK_ap, bmK2_ap, aBM0_ap, bmK0_ap, aPut_ap, putK_ap, putK1_ap, putK2_ap, aFor_ap, forK_n, aRng1_ap, aRng2_ap, aIt_ap, itK_l, itK_t, itK_s, itK_x, itK_c, itK_f, aCallG_ap, List.getElem?_cons_zero, List.getElem?_cons_succ, List.set_cons_zero, List.set_cons_succ, List.length_cons, List.length_nil, Nat.zero_add, Nat.reduceAdd, Option.map_some, Option.map_none, Option.bind_some, Option.bind_none, List.map_cons, List.map_nil, aName, aNameF, fz, rtv, wAt, toM, vw, frz_lst, frz_d, lvs_map, oIx2_var, ixV_w, ixV_p, ixV_k, ixL_some, lfAt_nat, lf_d, oIx2_l, oIx2_t, Y.atI_nat, putF_var, putV_w, putV_p, oEq_int, oNe_int, oLtA_int, oIntA_int, oIntA_bool, oLenV_l, oLenV_t, oI0_ap, oB0_ap, oAdd_int, rNeg, lfAt_0, stL_0, Y.atI_0, lfAt_1, stL_1, Y.atI_1, lfAt_2, stL_2, Y.atI_2, lfAt_3, stL_3, Y.atI_3, lfAt_4, stL_4, Y.atI_4, lfAt_5, stL_5, Y.atI_5, lfAt_6, stL_6, Y.atI_6, lfAt_7, stL_7, Y.atI_7, Nat.reduceLeDiff, Int.reduceLT, Int.reduceLE, List.cons_append, List.nil_append, decide_true, decide_false, if_true, if_false, sizeLine_eq, aLc_ap, oIn2_d (shaped_str lw) (shaped_strs hlow)])]
        simp only [aSeq_ap, seqK_nx, seqK_rt, seqK_bk, seqK_ct, seqK_none, aNext_ap, aBrk_ap, aCont_ap, aAsg_ap, asgK_ap, nxR_some, aDrop_ap, dropK_ap, aIfS_ap, ifK_t, ifK_f, aRet_ap, retK_ap, rtR_some, aRetN_ap, aKill_ap, List.foldl_cons, List.foldl_nil, sb_okN, bd_okN, mapR_some, aC_ap, aXT_ap, aVar_ap, varK_d, varK_x, varK_w, varK_p, varK_k, aOp_ap, opK_ap, opK2_ap, aFz_ap, aUn_ap, aB_ap, bK_ap, aAnd_ap, andK_t, andK_f, aOr_ap, orK_t, orK_f, aNot_ap, notK_ap, aTru_ap, truK_ap, aYes_ap, aAndV_ap, andVK_t, andVK_f, aOrV_ap, orVK_t, orVK_f, aNotV_ap, notVK_ap, aIf_ap, ifEK_t, ifEK_f, aNil_ap, aCons_ap, consK_ap, consK2_ap, aCB_ap, cbK_ap, aNoPart_ap, aPart_ap, partK_ap, aSl_ap, slK_ap, slK2_ap, slK3_ap, aBM_ap, bmK_ap, bmK2_ap, aBM0_ap, bmK0_ap, aPut_ap, putK_ap, putK1_ap, putK2_ap, aFor_ap, forK_n, aRng1_ap, aRng2_ap, aIt_ap, itK_l, itK_t, itK_s, itK_x, itK_c, itK_f, aCallG_ap, List.getElem?_cons_zero, List.getElem?_cons_succ, List.set_cons_zero, List.set_cons_succ, List.length_cons, List.length_nil, Nat.zero_add, Nat.reduceAdd, Option.map_some, Option.map_none, Option.bind_some, Option.bind_none, List.map_cons, List.map_nil, aName, aNameF, fz, rtv, wAt, toM, vw, frz_lst, frz_d, lvs_map, oIx2_var, ixV_w, ixV_p, ixV_k, ixL_some, lfAt_nat, lf_d, oIx2_l, oIx2_t, Y.atI_nat, putF_var, putV_w, putV_p, oEq_int, oNe_int, oLtA_int, oIntA_int, oIntA_bool, oLenV_l, oLenV_t, oI0_ap, oB0_ap, oAdd_int, rNeg, lfAt_0, stL_0, Y.atI_0, lfAt_1, stL_1, Y.atI_1, lfAt_2, stL_2, Y.atI_2, lfAt_3, stL_3, Y.atI_3, lfAt_4, stL_4, Y.atI_4, lfAt_5, stL_5, Y.atI_5, lfAt_6, stL_6, Y.atI_6, lfAt_7, stL_7, Y.atI_7, Nat.reduceLeDiff, Int.reduceLT, Int.reduceLE, List.cons_append, List.nil_append, decide_true, decide_false, if_true, if_false, sizeLine_eq, aLc_ap, oIx2_f hw0]
  
    rw [hb]
    exact ⟨113 :: numL j, m4, spare_name (by omega), hnot, i4, rfl⟩
  · have t1 : tk.contains l = false := by cases g : tk.contains l with
      | false => rfl
      | true => exact absurd (.inl g) ht
    have t2 : wordsL.contains l = false := by cases g : wordsL.contains l with
      | false => rfl
      | true => exact absurd (.inr g) ht
    have hb : b__law_name [some (.p m), some (.d (.list (strsL tk))), none, none, none, none, none] = some (.rt (.d (strD l)) [some (.p m4), some (.d (.list (strsL tk))), some (.d (.str ltrs)), some (.d (strD l)), o, none, none]) := by
      unfold b__law_name
      simp only [aSeq_ap, seqK_nx, seqK_rt, seqK_bk, seqK_ct, seqK_none, aNext_ap, aBrk_ap, aCont_ap, aAsg_ap, asgK_ap, nxR_some, aDrop_ap, dropK_ap, aIfS_ap, ifK_t, ifK_f, aRet_ap, retK_ap, rtR_some, aRetN_ap, aKill_ap, List.foldl_cons, List.foldl_nil, sb_okN, bd_okN, mapR_some, aC_ap, aXT_ap, aVar_ap, varK_d, varK_x, varK_w, varK_p, varK_k, aOp_ap, opK_ap, opK2_ap, aFz_ap, aUn_ap, aB_ap, bK_ap, aAnd_ap, andK_t, andK_f, aOr_ap, orK_t, orK_f, aNot_ap, notK_ap, aTru_ap, truK_ap, aYes_ap, aAndV_ap, andVK_t, andVK_f, aOrV_ap, orVK_t, orVK_f, aNotV_ap, notVK_ap, aIf_ap, ifEK_t, ifEK_f, aNil_ap, aCons_ap, consK_ap, consK2_ap, aCB_ap, cbK_ap, aNoPart_ap, aPart_ap, partK_ap, aSl_ap, slK_ap, slK2_ap, slK3_ap, aBM_ap, bmK_ap, bmK2_ap, aBM0_ap, bmK0_ap, aPut_ap, putK_ap, putK1_ap, putK2_ap, aFor_ap, forK_n, aRng1_ap, aRng2_ap, aIt_ap, itK_l, itK_t, itK_s, itK_x, itK_c, itK_f, aCallG_ap, List.getElem?_cons_zero, List.getElem?_cons_succ, List.set_cons_zero, List.set_cons_succ, List.length_cons, List.length_nil, Nat.zero_add, Nat.reduceAdd, Option.map_some, Option.map_none, Option.bind_some, Option.bind_none, List.map_cons, List.map_nil, aName, aNameF, fz, rtv, wAt, toM, vw, frz_lst, frz_d, lvs_map, oIx2_var, ixV_w, ixV_p, ixV_k, ixL_some, lfAt_nat, lf_d, oIx2_l, oIx2_t, Y.atI_nat, putF_var, putV_w, putV_p, oEq_int, oNe_int, oLtA_int, oIntA_int, oIntA_bool, oLenV_l, oLenV_t, oI0_ap, oB0_ap, oAdd_int, rNeg, lfAt_0, stL_0, Y.atI_0, lfAt_1, stL_1, Y.atI_1, lfAt_2, stL_2, Y.atI_2, lfAt_3, stL_3, Y.atI_3, lfAt_4, stL_4, Y.atI_4, lfAt_5, stL_5, Y.atI_5, lfAt_6, stL_6, Y.atI_6, lfAt_7, stL_7, Y.atI_7, Nat.reduceLeDiff, Int.reduceLT, Int.reduceLE, List.cons_append, List.nil_append, decide_true, decide_false, if_true, if_false, sizeLine_eq, aLc_ap, call_p0f e1, oIx2_mk ltrs_sz r0 g0, call_p0f e2, call_p0f e3, el5, iv, hr, el, hin, inD_strs, t1, hw, et6, t2]
    rw [hb]
    exact ⟨l, m4, ⟨by omega, h2, h3, not_mem_of t2⟩, not_mem_of t1, i4, rfl⟩

end Lw

namespace Lw
open PySem PySem.Spec PyProof.Rows L2 Y PySem.W TL
/-! ### words, layouts -/
def blk (c : Nat) : Bool := c == 32 || c == 10
def marksL : List (List Nat) := [[45, 62], [40], [41], [123], [125], [44], [59], [58], [124]]
def RunW (w : List Nat) : Prop := (∃ x r, w = x :: r ∧ 97 ≤ x ∧ x ≤ 122) ∧ (∀ x ∈ w, sgN x = true) ∧ w.length ≤ 12
def TokW (w : List Nat) : Prop := RunW w ∨ w ∈ marksL
def kindL (w : List Nat) : Str := if wordsL.contains w then "word" else if marksL.contains w then "mark" else "name"
theorem blk_low {c : Nat} (h : blk c = true) : c < 200 := by
  unfold blk at h
  simp only [Bool.or_eq_true, beq_iff_eq] at h
  omega
def BlkB (l : List Nat) : Bool := l.all blk && decide (l.length ≤ 4)
theorem rd__law_blank {m : MV} {least : Bool} (hm : IsSt m) : ∃ b m', (∀ x ∈ b, blk x = true) ∧ b.length ≤ 4 ∧ (least = true → b ≠ []) ∧ IsSt m' ∧ den__law_blank [.p m, .d (.bool least)] = some (.ok (.d (strD b)) [some (.p m'), none]) := by
  obtain ⟨r, m1, r0, r1, i1, e1⟩ := rd__law_pick hm (many := 9) (by omega) (by omega)
  obtain ⟨q, m2, q0, q1, i2, e2⟩ := rd__law_pick i1 (many := 2) (by omega) (by omega)
  have el9 : ∀ (s : SL) (a b c d e f g h i : PyData), oLst s [.d a, .d b, .d c, .d d, .d e, .d f, .d g, .d h, .d i] = some (.t (.lst [.d a, .d b, .d c, .d d, .d e, .d f, .d g, .d h, .d i]), s) := fun s a b c d e f g h i => if_pos (show 9 ≤ sizeLine by rw [sizeLine_eq]; omega)
  obtain ⟨z, hz, hz4, iz⟩ : ∃ z : Str, (∀ x ∈ tl z, blk x = true) ∧ (tl z).length ≤ 4 ∧ ∀ s : SL, oIx2 s (.t (.lst [.d (.str ""), .d (.str ""), .d (.str " "), .d (.str "\n"), .d (.str "  "), .d (.str " \n"), .d (.str "\n "), .d (.str "\n\n"), .d (.str "  \n ")])) (.d (.int r)) = some (.d (.str z), s) := by
    have : r = 0 ∨ r = 1 ∨ r = 2 ∨ r = 3 ∨ r = 4 ∨ r = 5 ∨ r = 6 ∨ r = 7 ∨ r = 8 := by omega
    rcases this with rfl | rfl | rfl | rfl | rfl | rfl | rfl | rfl | rfl <;> exact ⟨_, by decide +kernel, by decide +kernel, fun s => oIx2_f rfl⟩
  obtain ⟨z2, hz2, hz24, hne, iz2⟩ : ∃ z : Str, (∀ x ∈ tl z, blk x = true) ∧ (tl z).length ≤ 4 ∧ tl z ≠ [] ∧ ∀ s : SL, oIx2 s (.t (.lst [.d (.str " "), .d (.str "\n")])) (.d (.int q)) = some (.d (.str z), s) := by
    have : q = 0 ∨ q = 1 := by omega
    rcases this with rfl | rfl <;> exact ⟨_, by decide +kernel, by decide +kernel, by decide +kernel, fun s => oIx2_f rfl⟩
  have he : ∀ s : SL, oEq false s (.d (.str z)) (.d (.str "")) = some (.d (.bool (decide (tl z = []))), s) := fun s => by
    have s1 : SeqAt.shaped (.str z) = true := by
      rw [← Y.mk_tl z]; exact shaped_str fun c hc => blk_low (hz c hc)
    have s2 : SeqAt.shaped (.str "") = true := by decide +kernel
    show (if SeqAt.shaped (.str z) = true ∧ SeqAt.shaped (.str "") = true then some (TV.d (.bool (z == ("" : Str))), s) else none) = _
    rw [if_pos ⟨s1, s2⟩, str_beq, show tl ("" : Str) = [] by decide +kernel]
    congr 4
    rw [Bool.eq_iff_iff, beq_iff_eq, decide_eq_true_eq]
  have hs : start0 3 [.p m, .d (.bool least)] = [some (.p m), some (.d (.bool least)), none] := rfl
  unfold den__law_blank Y.run
  rw [hs]
  by_cases h0 : tl z = [] ∧ least = true
  · obtain ⟨h0, rfl⟩ := h0
    have hb : b__law_blank [some (.p m), some (.d (.bool true)), none] = some (.rt (.d (.str z2)) [some (.p m2), some (.d (.bool true)), some (.d (.str z))]) := by
      unfold b__law_blank
      simp only [aSeq_ap, seqK_nx, seqK_rt, seqK_bk, seqK_ct, seqK_none, aNext_ap, aBrk_ap, aCont_ap, aAsg_ap, asgK_ap, nxR_some, aDrop_ap, dropK_ap, aIfS_ap, ifK_t, ifK_f, aRet_ap, retK_ap, rtR_some, aRetN_ap, aKill_ap, List.foldl_cons, List.foldl_nil, sb_okN, bd_okN, mapR_some, aC_ap, aXT_ap, aVar_ap, varK_d, varK_x, varK_w, varK_p, varK_k, aOp_ap, opK_ap, opK2_ap, aFz_ap, aUn_ap, aB_ap, bK_ap, aAnd_ap, andK_t, andK_f, aOr_ap, orK_t, orK_f, aNot_ap, notK_ap, aTru_ap, truK_ap, aYes_ap, aAndV_ap, andVK_t, andVK_f, aOrV_ap, orVK_t, orVK_f, aNotV_ap, notVK_ap, aIf_ap, ifEK_t, ifEK_f, aNil_ap, aCons_ap, consK_ap, consK2_ap, aCB_ap, cbK_ap, aNoPart_ap, aPart_ap, partK_ap, aSl_ap, slK_ap, slK2_ap, slK3_ap, aBM_ap, bmK_ap, bmK2_ap, aBM0_ap, bmK0_ap, aPut_ap, putK_ap, putK1_ap, putK2_ap, aFor_ap, forK_n, aRng1_ap, aRng2_ap, aIt_ap, itK_l, itK_t, itK_s, itK_x, itK_c, itK_f, aCallG_ap, List.getElem?_cons_zero, List.getElem?_cons_succ, List.set_cons_zero, List.set_cons_succ, List.length_cons, List.length_nil, Nat.zero_add, Nat.reduceAdd, Option.map_some, Option.map_none, Option.bind_some, Option.bind_none, List.map_cons, List.map_nil, aName, aNameF, fz, rtv, wAt, toM, vw, frz_lst, frz_d, lvs_map, oIx2_var, ixV_w, ixV_p, ixV_k, ixL_some, lfAt_nat, lf_d, oIx2_l, oIx2_t, Y.atI_nat, putF_var, putV_w, putV_p, oEq_int, oNe_int, oLtA_int, oIntA_int, oIntA_bool, oLenV_l, oLenV_t, oI0_ap, oB0_ap, oAdd_int, rNeg, lfAt_0, stL_0, Y.atI_0, lfAt_1, stL_1, Y.atI_1, lfAt_2, stL_2, Y.atI_2, lfAt_3, stL_3, Y.atI_3, lfAt_4, stL_4, Y.atI_4, lfAt_5, stL_5, Y.atI_5, lfAt_6, stL_6, Y.atI_6, lfAt_7, stL_7, Y.atI_7, Nat.reduceLeDiff, Int.reduceLT, Int.reduceLE, List.cons_append, List.nil_append, decide_true, decide_false, if_true, if_false, sizeLine_eq, aLc_ap, call_p0f e1, el9, iz, he, decide_eq_true h0, call_p0f e2, oLst_2, iz2]
    rw [hb]
    exact ⟨tl z2, m2, hz2, hz24, fun _ => hne, i2, by rw [show strD (tl z2) = .str z2 by unfold strD; rw [Y.mk_tl]]; rfl⟩
  · have hb : b__law_blank [some (.p m), some (.d (.bool least)), none] = some (.rt (.d (.str z)) [some (.p m1), some (.d (.bool least)), some (.d (.str z))]) := by
      unfold b__law_blank
      by_cases h1 : tl z = []
      · have : least = false := by cases least with
          | false => rfl
          | true => exact absurd ⟨h1, rfl⟩ h0
        subst this
        simp only [aSeq_ap, seqK_nx, seqK_rt, seqK_bk, seqK_ct, seqK_none, aNext_ap, aBrk_ap, aCont_ap, aAsg_ap, asgK_ap, nxR_some, aDrop_ap, dropK_ap, aIfS_ap, ifK_t, ifK_f, aRet_ap, retK_ap, rtR_some, aRetN_ap, aKill_ap, List.foldl_cons, List.foldl_nil, sb_okN, bd_okN, mapR_some, aC_ap, aXT_ap, aVar_ap, varK_d, varK_x, varK_w, varK_p, varK_k, aOp_ap, opK_ap, opK2_ap, aFz_ap, aUn_ap, aB_ap, bK_ap, aAnd_ap, andK_t, andK_f, aOr_ap, orK_t, orK_f, aNot_ap, notK_ap, aTru_ap, truK_ap, aYes_ap, aAndV_ap, andVK_t, andVK_f, aOrV_ap, orVK_t, orVK_f, aNotV_ap, notVK_ap, aIf_ap, ifEK_t, ifEK_f, aNil_ap, aCons_ap, consK_ap, consK2_ap, aCB_ap, cbK_ap, aNoPart_ap, aPart_ap, partK_ap, aSl_ap, slK_ap, slK2_ap, slK3_ap, aBM_ap, bmK_ap, bmK2_ap, aBM0_ap, bmK0_ap, aPut_ap, putK_ap, putK1_ap, putK2_ap, aFor_ap, forK_n, aRng1_ap, aRng2_ap, aIt_ap, itK_l, itK_t, itK_s, itK_x, itK_c, itK_f, aCallG_ap, List.getElem?_cons_zero, List.getElem?_cons_succ, List.set_cons_zero, List.set_cons_succ, List.length_cons, List.length_nil, Nat.zero_add, Nat.reduceAdd, Option.map_some, Option.map_none, Option.bind_some, Option.bind_none, List.map_cons, List.map_nil, aName, aNameF, fz, rtv, wAt, toM, vw, frz_lst, frz_d, lvs_map, oIx2_var, ixV_w, ixV_p, ixV_k, ixL_some, lfAt_nat, lf_d, oIx2_l, oIx2_t, Y.atI_nat, putF_var, putV_w, putV_p, oEq_int, oNe_int, oLtA_int, oIntA_int, oIntA_bool, oLenV_l, oLenV_t, oI0_ap, oB0_ap, oAdd_int, rNeg, lfAt_0, stL_0, Y.atI_0, lfAt_1, stL_1, Y.atI_1, lfAt_2, stL_2, Y.atI_2, lfAt_3, stL_3, Y.atI_3, lfAt_4, stL_4, Y.atI_4, lfAt_5, stL_5, Y.atI_5, lfAt_6, stL_6, Y.atI_6, lfAt_7, stL_7, Y.atI_7, Nat.reduceLeDiff, Int.reduceLT, Int.reduceLE, List.cons_append, List.nil_append, decide_true, decide_false, if_true, if_false, sizeLine_eq, aLc_ap, call_p0f e1, el9, iz, he, decide_eq_true h1]
      · simp only [aSeq_ap, seqK_nx, seqK_rt, seqK_bk, seqK_ct, seqK_none, aNext_ap, aBrk_ap, aCont_ap, aAsg_ap, asgK_ap, nxR_some, aDrop_ap, dropK_ap, aIfS_ap, ifK_t, ifK_f, aRet_ap, retK_ap, rtR_some, aRetN_ap, aKill_ap, List.foldl_cons, List.foldl_nil, sb_okN, bd_okN, mapR_some, aC_ap, aXT_ap, aVar_ap, varK_d, varK_x, varK_w, varK_p, varK_k, aOp_ap, opK_ap, opK2_ap, aFz_ap, aUn_ap, aB_ap, bK_ap, aAnd_ap, andK_t, andK_f, aOr_ap, orK_t, orK_f, aNot_ap, notK_ap, aTru_ap, truK_ap, aYes_ap, aAndV_ap, andVK_t, andVK_f, aOrV_ap, orVK_t, orVK_f, aNotV_ap, notVK_ap, aIf_ap, ifEK_t, ifEK_f, aNil_ap, aCons_ap, consK_ap, consK2_ap, aCB_ap, cbK_ap, aNoPart_ap, aPart_ap, partK_ap, aSl_ap, slK_ap, slK2_ap, slK3_ap, aBM_ap, bmK_ap, bmK2_ap, aBM0_ap, bmK0_ap, aPut_ap, putK_ap, putK1_ap, putK2_ap, aFor_ap, forK_n, aRng1_ap, aRng2_ap, aIt_ap, itK_l, itK_t, itK_s, itK_x, itK_c, itK_f, aCallG_ap, List.getElem?_cons_zero, List.getElem?_cons_succ, List.set_cons_zero, List.set_cons_succ, List.length_cons, List.length_nil, Nat.zero_add, Nat.reduceAdd, Option.map_some, Option.map_none, Option.bind_some, Option.bind_none, List.map_cons, List.map_nil, aName, aNameF, fz, rtv, wAt, toM, vw, frz_lst, frz_d, lvs_map, oIx2_var, ixV_w, ixV_p, ixV_k, ixL_some, lfAt_nat, lf_d, oIx2_l, oIx2_t, Y.atI_nat, putF_var, putV_w, putV_p, oEq_int, oNe_int, oLtA_int, oIntA_int, oIntA_bool, oLenV_l, oLenV_t, oI0_ap, oB0_ap, oAdd_int, rNeg, lfAt_0, stL_0, Y.atI_0, lfAt_1, stL_1, Y.atI_1, lfAt_2, stL_2, Y.atI_2, lfAt_3, stL_3, Y.atI_3, lfAt_4, stL_4, Y.atI_4, lfAt_5, stL_5, Y.atI_5, lfAt_6, stL_6, Y.atI_6, lfAt_7, stL_7, Y.atI_7, Nat.reduceLeDiff, Int.reduceLT, Int.reduceLE, List.cons_append, List.nil_append, decide_true, decide_false, if_true, if_false, sizeLine_eq, aLc_ap, call_p0f e1, el9, iz, he, decide_eq_false h1]
    rw [hb]
    exact ⟨tl z, m1, hz, hz4, fun hl h1 => h0 ⟨h1, hl⟩, i1, by rw [show strD (tl z) = .str z by unfold strD; rw [Y.mk_tl]]; rfl⟩
def wordsW : List Str := ["pact", "end", "choice", "both", "loop", "use"]
theorem wordsW_run : ∀ z ∈ wordsW, ∀ w ∈ [tl z, tl z ++ [115], (tl z).dropLast ++ [49], tl z ++ tl z, 120 :: tl z, (tl z).drop 1], w ≠ [] ∧ w.all sgN = true ∧ w.length ≤ 12 ∧ (w.take 1).all lowB = true := by decide +kernel
theorem run_of {w : List Nat} (h : w ≠ [] ∧ w.all sgN = true ∧ w.length ≤ 12 ∧ (w.take 1).all lowB = true) : RunW w := by
  obtain ⟨h1, h2, h3, h4⟩ := h
  cases w with
  | nil => exact absurd rfl h1
  | cons x r =>
    have : lowB x = true := List.all_eq_true.mp h4 x (by simp)
    unfold lowB at this
    simp only [Bool.and_eq_true, decide_eq_true_eq] at this
    exact ⟨⟨x, r, rfl, this⟩, fun y hy => List.all_eq_true.mp h2 y hy, h3⟩
def marksS : List Str := ["->", "(", ")", "{", "}", ",", ";", ":", "|"]
theorem marks_in : ∀ z ∈ marksS, tl z ∈ marksL := by decide +kernel
theorem oSl_m1 {s : SL} {l : List Nat} (h : l.length ≤ 16777216) : oSl s (.d (.str (mk l))) none (some (-1)) = some (.d (.str (mk l.dropLast)), s) := by
  have e : HT.sIx (mk l).length (mk l).length (some (-1)) = (mk l).length - 1 := by
    show (if (-1 : Int) < 0 then ((-1 : Int) + ((mk l).length : Int)).toNat else min (-1 : Int).toNat (mk l).length) = _
    rw [if_pos (by decide)]
    omega
  have e2 : cutS (mk l) none (some (-1)) = mk l.dropLast := ext_tl (by
    unfold cutS
    rw [e, HT.sIx_none]
    show ((tl (mk l)).drop 0).take ((mk l).length - 1 - 0) = _
    rw [List.drop_zero, Nat.sub_zero, len_tl, List.dropLast_eq_take])
  rw [← e2]
  exact if_pos (by rw [sizeLine_eq, len_tl]; exact h)
theorem rd__law_token {m : MV} (hm : IsSt m) : ∃ w m', TokW w ∧ IsSt m' ∧ den__law_token [.p m] = some (.ok (.d (strD w)) [some (.p m')]) := by
  obtain ⟨r, m1, r0, r1, i1, e1⟩ := rd__law_pick hm (many := 5) (by omega) (by omega)
  have el6 : ∀ (s : SL) (a b c d e f : PyData), oLst s [.d a, .d b, .d c, .d d, .d e, .d f] = some (.t (.lst [.d a, .d b, .d c, .d d, .d e, .d f]), s) := fun s a b c d e f => if_pos (show 6 ≤ sizeLine by rw [sizeLine_eq]; omega)
  have el5 : ∀ (s : SL) (a b c d e : PyData), oLst s [.d a, .d b, .d c, .d d, .d e] = some (.t (.lst [.d a, .d b, .d c, .d d, .d e]), s) := fun s a b c d e => if_pos (show 5 ≤ sizeLine by rw [sizeLine_eq]; omega)
  have el9 : ∀ (s : SL) (a b c d e f g h i : PyData), oLst s [.d a, .d b, .d c, .d d, .d e, .d f, .d g, .d h, .d i] = some (.t (.lst [.d a, .d b, .d c, .d d, .d e, .d f, .d g, .d h, .d i]), s) := fun s a b c d e f g h i => if_pos (show 9 ≤ sizeLine by rw [sizeLine_eq]; omega)
  obtain ⟨q, m2, q0, q1, i2, e2⟩ := rd__law_pick i1 (many := 6) (by omega) (by omega)
  obtain ⟨t, m3, t0, t1, i3, e3⟩ := rd__law_pick i2 (many := 5) (by omega) (by omega)
  obtain ⟨nl, m4, hn, _, i4, e4⟩ := rd__law_name (tk := []) i1 (Nat.zero_le _) (fun _ h => nomatch h)
  obtain ⟨u, m5, u0, u1, i5, e5⟩ := rd__law_pick i1 (many := 9) (by omega) (by omega)
  obtain ⟨z, hz, iz⟩ : ∃ z ∈ wordsW, ∀ s : SL, oIx2 s (.t (.lst [.d (.str "pact"), .d (.str "end"), .d (.str "choice"), .d (.str "both"), .d (.str "loop"), .d (.str "use")])) (.d (.int q)) = some (.d (.str z), s) := by
    have : q = 0 ∨ q = 1 ∨ q = 2 ∨ q = 3 ∨ q = 4 ∨ q = 5 := by omega
    rcases this with rfl | rfl | rfl | rfl | rfl | rfl <;> exact ⟨_, by unfold wordsW; simp only [List.mem_cons, true_or, or_true], fun s => oIx2_f rfl⟩
  obtain ⟨z2, hz2, iz2⟩ : ∃ z ∈ marksS, ∀ s : SL, oIx2 s (.t (.lst [.d (.str "->"), .d (.str "("), .d (.str ")"), .d (.str "{"), .d (.str "}"), .d (.str ","), .d (.str ";"), .d (.str ":"), .d (.str "|")])) (.d (.int u)) = some (.d (.str z), s) := by
    have : u = 0 ∨ u = 1 ∨ u = 2 ∨ u = 3 ∨ u = 4 ∨ u = 5 ∨ u = 6 ∨ u = 7 ∨ u = 8 := by omega
    rcases this with rfl | rfl | rfl | rfl | rfl | rfl | rfl | rfl | rfl <;> exact ⟨_, by unfold marksS; simp only [List.mem_cons, true_or, or_true], fun s => oIx2_f rfl⟩
  have wz := fun w hw => run_of (wordsW_run z hz w hw)
  have lz := (wz (tl z) (by simp)).2.2
  have c1 : (tl z).length + [115].length ≤ 16777216 := by show _ + 1 ≤ _; omega
  have c2 : (tl z).dropLast.length + [49].length ≤ 16777216 := by rw [List.length_dropLast]; show _ + 1 ≤ _; omega
  have c3 : (tl z).length + (tl z).length ≤ 16777216 := by omega
  have c4 : [120].length + (tl z).length ≤ 16777216 := by show 1 + _ ≤ _; omega
  have c5 : (tl z).length ≤ 16777216 := by omega
  have s115 : ("s" : Str) = mk [115] := ext_tl (by decide +kernel)
  have s49 : ("1" : Str) = mk [49] := ext_tl (by decide +kernel)
  have s120 : ("x" : Str) = mk [120] := ext_tl (by decide +kernel)
  have d10 : decide ((1 : Int) = 0) = false := rfl
  have d20 : decide ((2 : Int) = 0) = false := rfl
  have d21 : decide ((2 : Int) = 1) = false := rfl
  have hs : start0 3 [.p m] = [some (.p m), none, none] := rfl
  unfold den__law_token Y.run
  rw [hs]
  have : r = 0 ∨ r = 1 ∨ r = 2 ∨ r = 3 ∨ r = 4 := by omega
  by_cases g0 : r = 0
  · subst g0
    have hb : b__law_token [some (.p m), none, none] = some (.rt (.d (.str z)) [some (.p m2), some (.d (.int 0)), none]) := by
      unfold b__law_token
      simp only [aSeq_ap, seqK_nx, seqK_rt, seqK_bk, seqK_ct, seqK_none, aNext_ap, aBrk_ap, aCont_ap, aAsg_ap, asgK_ap, nxR_some, aDrop_ap, dropK_ap, aIfS_ap, ifK_t, ifK_f, aRet_ap, retK_ap, rtR_some, aRetN_ap, aKill_ap, List.foldl_cons, List.foldl_nil, sb_okN, bd_okN, mapR_some, aC_ap, aXT_ap, aVar_ap, varK_d, varK_x, varK_w, varK_p, varK_k, aOp_ap, opK_ap, opK2_ap, aFz_ap, aUn_ap, aB_ap, bK_ap, aAnd_ap, andK_t, andK_f, aOr_ap, orK_t, orK_f, aNot_ap, notK_ap, aTru_ap, truK_ap, aYes_ap, aAndV_ap, andVK_t, andVK_f, aOrV_ap, orVK_t, orVK_f, aNotV_ap, notVK_ap, aIf_ap, ifEK_t, ifEK_f, aNil_ap, aCons_ap, consK_ap, consK2_ap, aCB_ap, cbK_ap, aNoPart_ap, aPart_ap, partK_ap, aSl_ap, slK_ap, slK2_ap, slK3_ap, aBM_ap, bmK_ap, bmK2_ap, aBM0_ap, bmK0_ap, aPut_ap, putK_ap, putK1_ap, putK2_ap, aFor_ap, forK_n, aRng1_ap, aRng2_ap, aIt_ap, itK_l, itK_t, itK_s, itK_x, itK_c, itK_f, aCallG_ap, List.getElem?_cons_zero, List.getElem?_cons_succ, List.set_cons_zero, List.set_cons_succ, List.length_cons, List.length_nil, Nat.zero_add, Nat.reduceAdd, Option.map_some, Option.map_none, Option.bind_some, Option.bind_none, List.map_cons, List.map_nil, aName, aNameF, fz, rtv, wAt, toM, vw, frz_lst, frz_d, lvs_map, oIx2_var, ixV_w, ixV_p, ixV_k, ixL_some, lfAt_nat, lf_d, oIx2_l, oIx2_t, Y.atI_nat, putF_var, putV_w, putV_p, oEq_int, oNe_int, oLtA_int, oIntA_int, oIntA_bool, oLenV_l, oLenV_t, oI0_ap, oB0_ap, oAdd_int, rNeg, lfAt_0, stL_0, Y.atI_0, lfAt_1, stL_1, Y.atI_1, lfAt_2, stL_2, Y.atI_2, lfAt_3, stL_3, Y.atI_3, lfAt_4, stL_4, Y.atI_4, lfAt_5, stL_5, Y.atI_5, lfAt_6, stL_6, Y.atI_6, lfAt_7, stL_7, Y.atI_7, Nat.reduceLeDiff, Int.reduceLT, Int.reduceLE, List.cons_append, List.nil_append, decide_true, decide_false, if_true, if_false, sizeLine_eq, aLc_ap, call_p0f e1, el6, call_p0f e2, iz]
    rw [hb]
    exact ⟨tl z, m2, .inl (wz _ (by simp)), i2, by rw [show strD (tl z) = .str z by unfold strD; rw [Y.mk_tl]]; rfl⟩
  by_cases g1 : r = 1
  · subst g1
    obtain ⟨w, hw, iw⟩ : ∃ w, RunW w ∧ ∀ s : SL, oIx2 s (.t (.lst [.d (strD (tl z ++ [115])), .d (strD ((tl z).dropLast ++ [49])), .d (strD (tl z ++ tl z)), .d (strD (120 :: tl z)), .d (strD ((tl z).drop (1 : Int).toNat))])) (.d (.int t)) = some (.d (strD w), s) := by
      have : t = 0 ∨ t = 1 ∨ t = 2 ∨ t = 3 ∨ t = 4 := by omega
      rcases this with rfl | rfl | rfl | rfl | rfl
      · exact ⟨_, wz _ (by simp), fun s => oIx2_f rfl⟩
      · exact ⟨_, wz _ (by simp), fun s => oIx2_f rfl⟩
      · exact ⟨_, wz _ (by simp), fun s => oIx2_f rfl⟩
      · exact ⟨_, wz (120 :: tl z) (by simp), fun s => oIx2_f rfl⟩
      · exact ⟨_, wz ((tl z).drop 1) (by simp), fun s => oIx2_f rfl⟩
    rw [← Y.mk_tl z] at iz
    have hb : b__law_token [some (.p m), none, none] = some (.rt (.d (strD w)) [some (.p m3), some (.d (.int 1)), some (.d (.str (mk (tl z))))]) := by
      unfold b__law_token
      simp only [aSeq_ap, seqK_nx, seqK_rt, seqK_bk, seqK_ct, seqK_none, aNext_ap, aBrk_ap, aCont_ap, aAsg_ap, asgK_ap, nxR_some, aDrop_ap, dropK_ap, aIfS_ap, ifK_t, ifK_f, aRet_ap, retK_ap, rtR_some, aRetN_ap, aKill_ap, List.foldl_cons, List.foldl_nil, sb_okN, bd_okN, mapR_some, aC_ap, aXT_ap, aVar_ap, varK_d, varK_x, varK_w, varK_p, varK_k, aOp_ap, opK_ap, opK2_ap, aFz_ap, aUn_ap, aB_ap, bK_ap, aAnd_ap, andK_t, andK_f, aOr_ap, orK_t, orK_f, aNot_ap, notK_ap, aTru_ap, truK_ap, aYes_ap, aAndV_ap, andVK_t, andVK_f, aOrV_ap, orVK_t, orVK_f, aNotV_ap, notVK_ap, aIf_ap, ifEK_t, ifEK_f, aNil_ap, aCons_ap, consK_ap, consK2_ap, aCB_ap, cbK_ap, aNoPart_ap, aPart_ap, partK_ap, aSl_ap, slK_ap, slK2_ap, slK3_ap, aBM_ap, bmK_ap, bmK2_ap, aBM0_ap, bmK0_ap, aPut_ap, putK_ap, putK1_ap, putK2_ap, aFor_ap, forK_n, aRng1_ap, aRng2_ap, aIt_ap, itK_l, itK_t, itK_s, itK_x, itK_c, itK_f, aCallG_ap, List.getElem?_cons_zero, List.getElem?_cons_succ, List.set_cons_zero, List.set_cons_succ, List.length_cons, List.length_nil, Nat.zero_add, Nat.reduceAdd, Option.map_some, Option.map_none, Option.bind_some, Option.bind_none, List.map_cons, List.map_nil, aName, aNameF, fz, rtv, wAt, toM, vw, frz_lst, frz_d, lvs_map, oIx2_var, ixV_w, ixV_p, ixV_k, ixL_some, lfAt_nat, lf_d, oIx2_l, oIx2_t, Y.atI_nat, putF_var, putV_w, putV_p, oEq_int, oNe_int, oLtA_int, oIntA_int, oIntA_bool, oLenV_l, oLenV_t, oI0_ap, oB0_ap, oAdd_int, rNeg, lfAt_0, stL_0, Y.atI_0, lfAt_1, stL_1, Y.atI_1, lfAt_2, stL_2, Y.atI_2, lfAt_3, stL_3, Y.atI_3, lfAt_4, stL_4, Y.atI_4, lfAt_5, stL_5, Y.atI_5, lfAt_6, stL_6, Y.atI_6, lfAt_7, stL_7, Y.atI_7, Nat.reduceLeDiff, Int.reduceLT, Int.reduceLE, List.cons_append, List.nil_append, decide_true, decide_false, if_true, if_false, sizeLine_eq, aLc_ap, call_p0f e1, el6, call_p0f e2, iz, s115, oAdd_mk c1, oSl_m1 c5, s49, oAdd_mk c2, oAdd_mk c3, s120, oAdd_mk c4, oSl_lo c5, el5, call_p0f e3, iw, d10]
    rw [hb]
    exact ⟨w, m3, .inl hw, i3, rfl⟩
  by_cases g2 : r = 2
  · subst g2
    obtain ⟨x, rr, e, h5, h6⟩ := hn.hd
    have hb : b__law_token [some (.p m), none, none] = some (.rt (.d (strD nl)) [some (.p m4), some (.d (.int 2)), none]) := by
      unfold b__law_token
      simp only [aSeq_ap, seqK_nx, seqK_rt, seqK_bk, seqK_ct, seqK_none, aNext_ap, aBrk_ap, aCont_ap, aAsg_ap, asgK_ap, nxR_some, aDrop_ap, dropK_ap, aIfS_ap, ifK_t, ifK_f, aRet_ap, retK_ap, rtR_some, aRetN_ap, aKill_ap, List.foldl_cons, List.foldl_nil, sb_okN, bd_okN, mapR_some, aC_ap, aXT_ap, aVar_ap, varK_d, varK_x, varK_w, varK_p, varK_k, aOp_ap, opK_ap, opK2_ap, aFz_ap, aUn_ap, aB_ap, bK_ap, aAnd_ap, andK_t, andK_f, aOr_ap, orK_t, orK_f, aNot_ap, notK_ap, aTru_ap, truK_ap, aYes_ap, aAndV_ap, andVK_t, andVK_f, aOrV_ap, orVK_t, orVK_f, aNotV_ap, notVK_ap, aIf_ap, ifEK_t, ifEK_f, aNil_ap, aCons_ap, consK_ap, consK2_ap, aCB_ap, cbK_ap, aNoPart_ap, aPart_ap, partK_ap, aSl_ap, slK_ap, slK2_ap, slK3_ap, aBM_ap, bmK_ap, bmK2_ap, aBM0_ap, bmK0_ap, aPut_ap, putK_ap, putK1_ap, putK2_ap, aFor_ap, forK_n, aRng1_ap, aRng2_ap, aIt_ap, itK_l, itK_t, itK_s, itK_x, itK_c, itK_f, aCallG_ap, List.getElem?_cons_zero, List.getElem?_cons_succ, List.set_cons_zero, List.set_cons_succ, List.length_cons, List.length_nil, Nat.zero_add, Nat.reduceAdd, Option.map_some, Option.map_none, Option.bind_some, Option.bind_none, List.map_cons, List.map_nil, aName, aNameF, fz, rtv, wAt, toM, vw, frz_lst, frz_d, lvs_map, oIx2_var, ixV_w, ixV_p, ixV_k, ixL_some, lfAt_nat, lf_d, oIx2_l, oIx2_t, Y.atI_nat, putF_var, putV_w, putV_p, oEq_int, oNe_int, oLtA_int, oIntA_int, oIntA_bool, oLenV_l, oLenV_t, oI0_ap, oB0_ap, oAdd_int, rNeg, lfAt_0, stL_0, Y.atI_0, lfAt_1, stL_1, Y.atI_1, lfAt_2, stL_2, Y.atI_2, lfAt_3, stL_3, Y.atI_3, lfAt_4, stL_4, Y.atI_4, lfAt_5, stL_5, Y.atI_5, lfAt_6, stL_6, Y.atI_6, lfAt_7, stL_7, Y.atI_7, Nat.reduceLeDiff, Int.reduceLT, Int.reduceLE, List.cons_append, List.nil_append, decide_true, decide_false, if_true, if_false, sizeLine_eq, aLc_ap, call_p0f e1, oLst_nil, call_p0t frz_nil e4, d20, d21]
    rw [hb]
    exact ⟨nl, m4, .inl ⟨⟨x, rr, e, h5, h6⟩, hn.sg, hn.len⟩, i4, rfl⟩
  · have hb : b__law_token [some (.p m), none, none] = some (.rt (.d (.str z2)) [some (.p m5), some (.d (.int r)), none]) := by
      unfold b__law_token
      simp only [aSeq_ap, seqK_nx, seqK_rt, seqK_bk, seqK_ct, seqK_none, aNext_ap, aBrk_ap, aCont_ap, aAsg_ap, asgK_ap, nxR_some, aDrop_ap, dropK_ap, aIfS_ap, ifK_t, ifK_f, aRet_ap, retK_ap, rtR_some, aRetN_ap, aKill_ap, List.foldl_cons, List.foldl_nil, sb_okN, bd_okN, mapR_some, aC_ap, aXT_ap, aVar_ap, varK_d, varK_x, varK_w, varK_p, varK_k, aOp_ap, opK_ap, opK2_ap, aFz_ap, aUn_ap, aB_ap, bK_ap, aAnd_ap, andK_t, andK_f, aOr_ap, orK_t, orK_f, aNot_ap, notK_ap, aTru_ap, truK_ap, aYes_ap, aAndV_ap, andVK_t, andVK_f, aOrV_ap, orVK_t, orVK_f, aNotV_ap, notVK_ap, aIf_ap, ifEK_t, ifEK_f, aNil_ap, aCons_ap, consK_ap, consK2_ap, aCB_ap, cbK_ap, aNoPart_ap, aPart_ap, partK_ap, aSl_ap, slK_ap, slK2_ap, slK3_ap, aBM_ap, bmK_ap, bmK2_ap, aBM0_ap, bmK0_ap, aPut_ap, putK_ap, putK1_ap, putK2_ap, aFor_ap, forK_n, aRng1_ap, aRng2_ap, aIt_ap, itK_l, itK_t, itK_s, itK_x, itK_c, itK_f, aCallG_ap, List.getElem?_cons_zero, List.getElem?_cons_succ, List.set_cons_zero, List.set_cons_succ, List.length_cons, List.length_nil, Nat.zero_add, Nat.reduceAdd, Option.map_some, Option.map_none, Option.bind_some, Option.bind_none, List.map_cons, List.map_nil, aName, aNameF, fz, rtv, wAt, toM, vw, frz_lst, frz_d, lvs_map, oIx2_var, ixV_w, ixV_p, ixV_k, ixL_some, lfAt_nat, lf_d, oIx2_l, oIx2_t, Y.atI_nat, putF_var, putV_w, putV_p, oEq_int, oNe_int, oLtA_int, oIntA_int, oIntA_bool, oLenV_l, oLenV_t, oI0_ap, oB0_ap, oAdd_int, rNeg, lfAt_0, stL_0, Y.atI_0, lfAt_1, stL_1, Y.atI_1, lfAt_2, stL_2, Y.atI_2, lfAt_3, stL_3, Y.atI_3, lfAt_4, stL_4, Y.atI_4, lfAt_5, stL_5, Y.atI_5, lfAt_6, stL_6, Y.atI_6, lfAt_7, stL_7, Y.atI_7, Nat.reduceLeDiff, Int.reduceLT, Int.reduceLE, List.cons_append, List.nil_append, decide_true, decide_false, if_true, if_false, sizeLine_eq, aLc_ap, call_p0f e1, decide_eq_false g0, decide_eq_false g1, decide_eq_false g2, el9, call_p0f e5, iz2]
    rw [hb]
    exact ⟨tl z2, m5, .inr (marks_in z2 hz2), i5, by rw [show strD (tl z2) = .str z2 by unfold strD; rw [Y.mk_tl]]; rfl⟩

end Lw

namespace Lw
open PySem PySem.Spec PyProof.Rows L2 Y PySem.W TL
/-! ### spreading words -/
abbrev Items := List (List Nat × List Nat)
def outT (is : Items) : List Nat := (is.map fun i => i.1 ++ i.2).flatten
/-- the words with their places -/
def wordsAt : Nat → Items → List (List Nat × Nat)
  | _, [] => []
  | n, i :: r => (i.2, n + i.1.length) :: wordsAt (n + i.1.length + i.2.length) r
def ItemOk (prev : Option (List Nat)) (i : List Nat × List Nat) : Prop := (∀ x ∈ i.1, blk x = true) ∧ TokW i.2 ∧ i.1.length ≤ 8 ∧ ∀ w, prev = some w → RunW w → RunW i.2 → i.1 ≠ []
def ItemsOk : Option (List Nat) → Items → Prop
  | _, [] => True
  | p, i :: r => ItemOk p i ∧ ItemsOk (some i.2) r
def lastW : Option (List Nat) → Items → Option (List Nat)
  | p, [] => p
  | _, i :: r => lastW (some i.2) r
theorem items_snoc {it : List Nat × List Nat} : ∀ {p : Option (List Nat)} {is : Items}, ItemsOk p is → ItemOk (lastW p is) it → ItemsOk p (is ++ [it])
  | _, [], _, h => ⟨h, trivial⟩
  | _, i :: r, h, g => ⟨h.1, items_snoc h.2 g⟩
theorem lastW_snoc {it : List Nat × List Nat} : ∀ {p : Option (List Nat)} {is : Items}, lastW p (is ++ [it]) = some it.2
  | _, [] => rfl
  | _, i :: r => lastW_snoc (is := r)
theorem outT_snoc (is : Items) (it : List Nat × List Nat) : outT (is ++ [it]) = outT is ++ (it.1 ++ it.2) := by
  unfold outT
  rw [List.map_append, List.flatten_append]
  simp
theorem outT_cons (it : List Nat × List Nat) (is : Items) : outT (it :: is) = it.1 ++ it.2 ++ outT is := by
  unfold outT
  rw [List.map_cons, List.flatten_cons]
theorem wordsAt_snoc (it : List Nat × List Nat) : ∀ (n : Nat) (is : Items), wordsAt n (is ++ [it]) = wordsAt n is ++ [(it.2, n + (outT is).length + it.1.length)]
  | n, [] => by
    show [(it.2, n + it.1.length)] = [(it.2, n + (outT []).length + it.1.length)]
    rfl
  | n, i :: r => by
    show (i.2, n + i.1.length) :: wordsAt _ (r ++ [it]) = (i.2, n + i.1.length) :: (wordsAt _ r ++ _)
    rw [wordsAt_snoc it _ r, outT_cons]
    congr 4
    rw [List.length_append, List.length_append]
    omega
theorem wordsAt_fst : ∀ (n : Nat) (is : Items), (wordsAt n is).map (·.1) = is.map (·.2)
  | _, [] => rfl
  | n, i :: r => by
    show i.2 :: (wordsAt _ r).map (·.1) = i.2 :: r.map (·.2)
    rw [wordsAt_fst _ r]
theorem tok_len {w : List Nat} (h : TokW w) : w.length ≤ 12 := by
  rcases h with h | h
  · exact h.2.2
  · have : ∀ w ∈ marksL, w.length ≤ 12 := by decide
    exact this _ h
theorem tok_low {w : List Nat} (h : TokW w) : ∀ c ∈ w, c < 200 := by
  rcases h with h | h
  · exact fun c hc => sgN_low (h.2.1 c hc)
  · have : ∀ w ∈ marksL, ∀ c ∈ w, c < 200 := by decide
    exact this _ h
theorem tok_ne {w : List Nat} (h : TokW w) : w ≠ [] := by
  rcases h with h | h
  · obtain ⟨x, r, e, _⟩ := h.1
    rw [e]
    exact List.cons_ne_nil _ _
  · have : ∀ w ∈ marksL, w ≠ [] := by decide
    exact this _ h
theorem out_len : ∀ {p : Option (List Nat)} {is : Items}, ItemsOk p is → (outT is).length ≤ 20 * is.length
  | _, [], _ => Nat.le_refl _
  | _, i :: r, h => by
    have ih := out_len h.2
    have h1 := h.1.2.2.1
    have h2 := tok_len h.1.2.1
    rw [outT_cons, List.length_append, List.length_append, List.length_cons]
    omega
theorem ltrs_tl : tl ltrs = [97, 98, 99, 100, 101, 102, 103, 104, 105, 106, 107, 108, 109, 110, 111, 112, 113, 114, 115, 116, 117, 118, 119, 120, 121, 122, 48, 49, 50, 51, 52, 53, 54, 55, 56, 57] := by decide +kernel
theorem ltrs_iff (x : Nat) : decide (x ∈ tl ltrs) = sgN x := by
  rw [ltrs_tl, Bool.eq_iff_iff]
  unfold sgN
  simp only [List.mem_cons, List.not_mem_nil, or_false, decide_eq_true_eq, Bool.and_eq_true, Bool.or_eq_true]
  omega
theorem run_mark {w : List Nat} (h : RunW w) : w ∉ marksL := fun m => by
  have : ∀ w ∈ marksL, ∀ x ∈ w, sgN x = false := by decide
  obtain ⟨x, r, e, _⟩ := h.1
  have h1 := this w m x (by rw [e]; exact List.mem_cons_self ..)
  rw [h.2.1 x (by rw [e]; exact List.mem_cons_self ..)] at h1
  cases h1
noncomputable def isRun (w : List Nat) : Bool := !marksL.contains w
theorem tok_sgn {w : List Nat} (h : TokW w) : ∀ x ∈ w, sgN x = isRun w := fun x hx => by
  unfold isRun
  rcases h with h | h
  · rw [h.2.1 x hx]
    cases g : marksL.contains w with
    | false => rfl
    | true => exact absurd (List.contains_iff_mem.mp g) (run_mark h)
  · have : ∀ w ∈ marksL, ∀ x ∈ w, sgN x = false := by decide
    rw [this w h x hx, List.contains_iff_mem.mpr h]
    rfl
theorem isRun_of {w : List Nat} (h : RunW w) : isRun w = true := by
  unfold isRun
  cases g : marksL.contains w with
  | false => rfl
  | true => exact absurd (List.contains_iff_mem.mp g) (run_mark h)
theorem oLenV_s {s : SL} {l : List Nat} (h : l.length ≤ 16777216) : vA oLenA s [.d (.str (mk l))] = some (.d (.int (l.length : Nat)), s) := by
  have e : lenA s (.d (.str (mk l))) = some l.length := if_pos (by rw [sizeLine_eq, len_tl]; exact h)
  show (lenA s (.d (.str (mk l)))).map (fun n => (TV.d (.int (n : Nat)), s)) = _
  rw [e]
  rfl
theorem atI_m1 {α : Type} {xs : List α} {c : α} (h : xs.getLast? = some c) : atI xs (-1) = some c := by
  have hn : 0 < xs.length := by cases xs with
    | nil => cases h
    | cons a r => exact Nat.succ_pos _
  have e : ixN xs.length (-1) = some (xs.length - 1) := by
    unfold ixN
    rw [if_neg (by decide), if_pos (by omega)]
    congr 1
    omega
  unfold atI
  rw [e, Option.bind_some]
  rw [List.getLast?_eq_getElem?] at h
  exact h
theorem oIx2_last {s : SL} {l : List Nat} {c : Nat} (hl : l.length ≤ 16777216) (h : l.getLast? = some c) : oIx2 s (.d (.str (mk l))) (.d (.int (-1))) = some (.d (.str (mk [c])), s) := by
  rw [oIx2_s (z := mk l) (by rw [sizeLine_eq, len_tl]; exact hl), atI_m1 (xs := (mk l).cps.toList) (c := c) h]
  rfl
theorem last_mem {w : List Nat} (h : w ≠ []) : ∃ c, w.getLast? = some c ∧ c ∈ w := ⟨w.getLast h, List.getLast?_eq_some_getLast h, List.getLast_mem h⟩
theorem head_mem {w : List Nat} (h : w ≠ []) : ∃ c, w[0]? = some c ∧ c ∈ w := by
  cases w with
  | nil => exact absurd rfl h
  | cons x r => exact ⟨x, rfl, List.mem_cons_self ..⟩
theorem lastW_take : ∀ {p : Option (List Nat)} {is : Items}, is ≠ [] → lastW p is = (is.map (·.2)).getLast?
  | _, [], h => absurd rfl h
  | _, [i], _ => rfl
  | p, i :: j :: r, _ => by
    show lastW (some j.2) r = _
    have := lastW_take (p := p) (is := j :: r) (List.cons_ne_nil _ _)
    rw [show lastW p (j :: r) = lastW (some j.2) r from rfl] at this
    rw [this]
    show _ = (i.2 :: j.2 :: r.map (·.2)).getLast?
    rw [List.getLast?_cons_cons]
    rfl
theorem wordD_at {ws : List (List Nat)} {k : Nat} {w : List Nat} (h : ws[k]? = some w) : (strsL ws)[k]? = some (strD w) := by rw [List.getElem?_map, h]; rfl
/-- what is asked of the blank ahead of the k-th word -/
noncomputable def need (ws : List (List Nat)) (k : Nat) : Bool := match ws[k]?, ws[k - 1]? with
  | some w, some v => decide (0 < k) && (isRun w && isRun v)
  | _, _ => false
def needA : AE := (aAndV (aOp (oB0 fun i j => decide (j < i)) (aVar 5) (aC (.int 0))) (aAndV (aOp (oIn2 false) (aOp oIx2 (aOp oIx2 (aVar 1) (aVar 5)) (aC (.int 0))) (aVar 2)) (aOp (oIn2 false) (aOp oIx2 (aOp oIx2 (aVar 1) (aOp (oI0 fun i j => i - j) (aVar 5) (aC (.int 1)))) (aUn rNeg (aC (.int 1)))) (aVar 2))))
theorem f_spread_eq : f__law_spread_0 = aSeq (aSeq (aAsg (aOp oAdd (aVar 3) (aCallG false (den__law_blank) [.m 0, .f] (aCons (aVar 0) (aCons needA (aNil))))) (aNameF 3)) (aSeq (aDrop (aBM "list" mAppend (aVar 4) (aCons (aCB (vA oLenA) (aCons (aVar 3) (aNil))) (aNil)))) (aAsg (aOp oAdd (aVar 3) (aOp oIx2 (aVar 1) (aVar 5))) (aNameF 3)))) (aKill [5]) := rfl
theorem need_rd {p0 p3 p4 : Option SV} {ws : List (List Nat)} {k : Nat} (hk : k < ws.length) (hl : ws.length ≤ 60) (hw : ∀ w ∈ ws, TokW w) :
  needA [p0, some (.d (.list (strsL ws))), some (.d (.str ltrs)), p3, p4, some (.d (.int (k : Nat)))] = some (.ok (.d (.bool (need ws k))) [p0, some (.d (.list (strsL ws))), some (.d (.str ltrs)), p3, p4, some (.d (.int (k : Nat)))]) := by
  unfold needA
  have e := List.getElem?_eq_getElem hk
  have ew := hw _ (List.getElem_mem hk)
  have hk1 : k - 1 < ws.length := by omega
  have e1 := List.getElem?_eq_getElem hk1
  have ev := hw _ (List.getElem_mem hk1)
  obtain ⟨c, hc, mc⟩ := head_mem (tok_ne ew)
  obtain ⟨d, hd, md⟩ := last_mem (tok_ne ev)
  have hn : need ws k = (decide (0 < k) && (isRun ws[k] && isRun ws[k - 1])) := by unfold need; rw [e, e1]
  have z1 : (mk ws[k]).length ≤ sizeLine := by rw [sizeLine_eq, len_tl]; have := tok_len ew; show ws[k].length ≤ _; omega
  have z2 : (ws[k - 1]).length ≤ 16777216 := by have := tok_len ev; omega
  have i0 : ∀ s : SL, oIx2 s (.d (.str (mk ws[k]))) (.d (.int 0)) = some (.d (.str (mk [c])), s) := fun s => oIx2_mk z1 (by omega) hc
  have dk : decide ((0 : Int) < ((k : Nat) : Int)) = decide (0 < k) := by rw [decide_eq_decide]; omega
  rw [hn]
  by_cases h0 : 0 < k
  · have hk2 : ((k : Nat) : Int) - 1 = ((k - 1 : Nat) : Int) := by omega
    rw [decide_eq_true h0] at dk ⊢
    rw [Bool.true_and]
    cases hr : isRun ws[k] with
    | false =>
      simp only [aSeq_ap, seqK_nx, seqK_rt, seqK_bk, seqK_ct, seqK_none, aNext_ap, aBrk_ap, aCont_ap, aAsg_ap, asgK_ap, nxR_some, aDrop_ap, dropK_ap, aIfS_ap, ifK_t, ifK_f, aRet_ap, retK_ap, rtR_some, aRetN_ap, aKill_ap, List.foldl_cons, List.foldl_nil, sb_okN, bd_okN, mapR_some, aC_ap, aXT_ap, aVar_ap, varK_d, varK_x, varK_w, varK_p, varK_k, aOp_ap, opK_ap, opK2_ap, aFz_ap, aUn_ap, aB_ap, bK_ap, aAnd_ap, andK_t, andK_f, aOr_ap, orK_t, orK_f, aNot_ap, notK_ap, aTru_ap, truK_ap, aYes_ap, aAndV_ap, andVK_t, andVK_f, aOrV_ap, orVK_t, orVK_f, aNotV_ap, notVK_ap, aIf_ap, ifEK_t, ifEK_f, aNil_ap, aCons_ap, consK_ap, consK2_ap, aCB_ap, cbK_ap, aNoPart_ap, aPart_ap, partK_ap, aSl_ap, slK_ap, slK2_ap, slK3_ap, aBM_ap, bmK_ap, bmK2_ap, aBM0_ap, bmK0_ap, aPut_ap, putK_ap, putK1_ap, putK2_ap, aFor_ap, forK_n, aRng1_ap, aRng2_ap, aIt_ap, itK_l, itK_t, itK_s, itK_x, itK_c, itK_f, aCallG_ap, List.getElem?_cons_zero, List.getElem?_cons_succ, List.set_cons_zero, List.set_cons_succ, List.length_cons, List.length_nil, Nat.zero_add, Nat.reduceAdd, Option.map_some, Option.map_none, Option.bind_some, Option.bind_none, List.map_cons, List.map_nil, aName, aNameF, fz, rtv, wAt, toM, vw, frz_lst, frz_d, lvs_map, oIx2_var, ixV_w, ixV_p, ixV_k, ixL_some, lfAt_nat, lf_d, oIx2_l, oIx2_t, Y.atI_nat, putF_var, putV_w, putV_p, oEq_int, oNe_int, oLtA_int, oIntA_int, oIntA_bool, oLenV_l, oLenV_t, oI0_ap, oB0_ap, oAdd_int, rNeg, lfAt_0, stL_0, Y.atI_0, lfAt_1, stL_1, Y.atI_1, lfAt_2, stL_2, Y.atI_2, lfAt_3, stL_3, Y.atI_3, lfAt_4, stL_4, Y.atI_4, lfAt_5, stL_5, Y.atI_5, lfAt_6, stL_6, Y.atI_6, lfAt_7, stL_7, Y.atI_7, Nat.reduceLeDiff, Int.reduceLT, Int.reduceLE, List.cons_append, List.nil_append, decide_true, decide_false, if_true, if_false, sizeLine_eq, aLc_ap, Bool.false_eq_true, oGt_int, dk, wordD_at e, i0, oIn2_s, ltrs_iff, tok_sgn ew c mc, hr, Bool.false_and]
    | true =>
      simp only [aSeq_ap, seqK_nx, seqK_rt, seqK_bk, seqK_ct, seqK_none, aNext_ap, aBrk_ap, aCont_ap, aAsg_ap, asgK_ap, nxR_some, aDrop_ap, dropK_ap, aIfS_ap, ifK_t, ifK_f, aRet_ap, retK_ap, rtR_some, aRetN_ap, aKill_ap, List.foldl_cons, List.foldl_nil, sb_okN, bd_okN, mapR_some, aC_ap, aXT_ap, aVar_ap, varK_d, varK_x, varK_w, varK_p, varK_k, aOp_ap, opK_ap, opK2_ap, aFz_ap, aUn_ap, aB_ap, bK_ap, aAnd_ap, andK_t, andK_f, aOr_ap, orK_t, orK_f, aNot_ap, notK_ap, aTru_ap, truK_ap, aYes_ap, aAndV_ap, andVK_t, andVK_f, aOrV_ap, orVK_t, orVK_f, aNotV_ap, notVK_ap, aIf_ap, ifEK_t, ifEK_f, aNil_ap, aCons_ap, consK_ap, consK2_ap, aCB_ap, cbK_ap, aNoPart_ap, aPart_ap, partK_ap, aSl_ap, slK_ap, slK2_ap, slK3_ap, aBM_ap, bmK_ap, bmK2_ap, aBM0_ap, bmK0_ap, aPut_ap, putK_ap, putK1_ap, putK2_ap, aFor_ap, forK_n, aRng1_ap, aRng2_ap, aIt_ap, itK_l, itK_t, itK_s, itK_x, itK_c, itK_f, aCallG_ap, List.getElem?_cons_zero, List.getElem?_cons_succ, List.set_cons_zero, List.set_cons_succ, List.length_cons, List.length_nil, Nat.zero_add, Nat.reduceAdd, Option.map_some, Option.map_none, Option.bind_some, Option.bind_none, List.map_cons, List.map_nil, aName, aNameF, fz, rtv, wAt, toM, vw, frz_lst, frz_d, lvs_map, oIx2_var, ixV_w, ixV_p, ixV_k, ixL_some, lfAt_nat, lf_d, oIx2_l, oIx2_t, Y.atI_nat, putF_var, putV_w, putV_p, oEq_int, oNe_int, oLtA_int, oIntA_int, oIntA_bool, oLenV_l, oLenV_t, oI0_ap, oB0_ap, oAdd_int, rNeg, lfAt_0, stL_0, Y.atI_0, lfAt_1, stL_1, Y.atI_1, lfAt_2, stL_2, Y.atI_2, lfAt_3, stL_3, Y.atI_3, lfAt_4, stL_4, Y.atI_4, lfAt_5, stL_5, Y.atI_5, lfAt_6, stL_6, Y.atI_6, lfAt_7, stL_7, Y.atI_7, Nat.reduceLeDiff, Int.reduceLT, Int.reduceLE, List.cons_append, List.nil_append, decide_true, decide_false, if_true, if_false, sizeLine_eq, aLc_ap, Bool.false_eq_true, oGt_int, dk, wordD_at e, i0, oIn2_s, ltrs_iff, tok_sgn ew c mc, hr, Bool.true_and, hk2, wordD_at e1, oIx2_last z2 hd, tok_sgn ev d md]
  · rw [decide_eq_false h0] at dk ⊢
    simp only [aSeq_ap, seqK_nx, seqK_rt, seqK_bk, seqK_ct, seqK_none, aNext_ap, aBrk_ap, aCont_ap, aAsg_ap, asgK_ap, nxR_some, aDrop_ap, dropK_ap, aIfS_ap, ifK_t, ifK_f, aRet_ap, retK_ap, rtR_some, aRetN_ap, aKill_ap, List.foldl_cons, List.foldl_nil, sb_okN, bd_okN, mapR_some, aC_ap, aXT_ap, aVar_ap, varK_d, varK_x, varK_w, varK_p, varK_k, aOp_ap, opK_ap, opK2_ap, aFz_ap, aUn_ap, aB_ap, bK_ap, aAnd_ap, andK_t, andK_f, aOr_ap, orK_t, orK_f, aNot_ap, notK_ap, aTru_ap, truK_ap, aYes_ap, aAndV_ap, andVK_t, andVK_f, aOrV_ap, orVK_t, orVK_f, aNotV_ap, notVK_ap, aIf_ap, ifEK_t, ifEK_f, aNil_ap, aCons_ap, consK_ap, consK2_ap, aCB_ap, cbK_ap, aNoPart_ap, aPart_ap, partK_ap, aSl_ap, slK_ap, slK2_ap, slK3_ap, aBM_ap, bmK_ap, bmK2_ap, aBM0_ap, bmK0_ap, aPut_ap, putK_ap, putK1_ap, putK2_ap, aFor_ap, forK_n, aRng1_ap, aRng2_ap, aIt_ap, itK_l, itK_t, itK_s, itK_x, itK_c, itK_f, aCallG_ap, List.getElem?_cons_zero, List.getElem?_cons_succ, List.set_cons_zero, List.set_cons_succ, List.length_cons, List.length_nil, Nat.zero_add, Nat.reduceAdd, Option.map_some, Option.map_none, Option.bind_some, Option.bind_none, List.map_cons, List.map_nil, aName, aNameF, fz, rtv, wAt, toM, vw, frz_lst, frz_d, lvs_map, oIx2_var, ixV_w, ixV_p, ixV_k, ixL_some, lfAt_nat, lf_d, oIx2_l, oIx2_t, Y.atI_nat, putF_var, putV_w, putV_p, oEq_int, oNe_int, oLtA_int, oIntA_int, oIntA_bool, oLenV_l, oLenV_t, oI0_ap, oB0_ap, oAdd_int, rNeg, lfAt_0, stL_0, Y.atI_0, lfAt_1, stL_1, Y.atI_1, lfAt_2, stL_2, Y.atI_2, lfAt_3, stL_3, Y.atI_3, lfAt_4, stL_4, Y.atI_4, lfAt_5, stL_5, Y.atI_5, lfAt_6, stL_6, Y.atI_6, lfAt_7, stL_7, Y.atI_7, Nat.reduceLeDiff, Int.reduceLT, Int.reduceLE, List.cons_append, List.nil_append, decide_true, decide_false, if_true, if_false, sizeLine_eq, aLc_ap, Bool.false_eq_true, oGt_int, dk, Bool.false_and]
def pendOk (i : Nat) (is : Items) (pd : List Nat) : Prop := (∀ x ∈ pd, blk x = true) ∧ pd.length ≤ 4 ∧ (i = 0 ∨ pd = [])
def SpP (ws : List (List Nat)) (i : Nat) (s : SL) : Prop := ∃ (m : MV) (is : Items) (pd : List Nat), IsSt m ∧ is.map (·.2) = ws.take i ∧ ItemsOk none is ∧ pendOk i is pd ∧ s = [some (.p m), some (.d (.list (strsL ws))), some (.d (.str ltrs)), some (.d (strD (outT is ++ pd))), some (.w (.lst (((wordsAt 0 is).map fun t => PyData.int (t.2 : Nat)).map MV.d))), none]
theorem sp_step {ws : List (List Nat)} {k : Nat} {m m' : MV} {is : Items} {pd b : List Nat} {w : List Nat} (hk : ws[k]? = some w) (hl : ws.length ≤ 60) (hw : ∀ w ∈ ws, TokW w) (lo : (outT is).length ≤ 1300) (lp : pd.length ≤ 4) (lb : b.length ≤ 4) (lw : is.length ≤ 60)
  (e : den__law_blank [.p m, .d (.bool (need ws k))] = some (.ok (.d (strD b)) [some (.p m'), none])) :
  f__law_spread_0 [some (.p m), some (.d (.list (strsL ws))), some (.d (.str ltrs)), some (.d (strD (outT is ++ pd))), some (.w (.lst (((wordsAt 0 is).map fun t => PyData.int (t.2 : Nat)).map MV.d))), some (.d (.int (k : Nat)))] =
    some (.nx [some (.p m'), some (.d (.list (strsL ws))), some (.d (.str ltrs)), some (.d (strD (outT (is ++ [(pd ++ b, w)])))), some (.w (.lst (((wordsAt 0 (is ++ [(pd ++ b, w)])).map fun t => PyData.int (t.2 : Nat)).map MV.d))), none]) := by
  have hk2 := (List.getElem?_eq_some_iff.mp hk).1
  have tw := tok_len (hw w (List.mem_of_getElem? hk))
  have c1 : (outT is ++ pd).length + b.length ≤ 16777216 := by rw [List.length_append]; omega
  have c2 : (outT is ++ pd ++ b).length ≤ 16777216 := by rw [List.length_append, List.length_append]; omega
  have c3 : (outT is ++ pd ++ b).length + w.length ≤ 16777216 := by rw [List.length_append, List.length_append]; omega
  have wl : (wordsAt 0 is).length = is.length := by
    have := congrArg List.length (wordsAt_fst 0 is)
    rwa [List.length_map, List.length_map] at this
  have hn : ((wordsAt 0 is).map fun t => PyData.int (t.2 : Nat)).length < 16777216 := by rw [List.length_map, wl]; omega
  have ea : outT is ++ pd ++ b ++ w = outT (is ++ [(pd ++ b, w)]) := by
    rw [outT_snoc]
    simp only [List.append_assoc]
  have ep : ((wordsAt 0 is).map fun t => PyData.int (t.2 : Nat)).map MV.d ++ [MV.d (.int ((outT is ++ pd ++ b).length : Nat))] = ((wordsAt 0 (is ++ [(pd ++ b, w)])).map fun t => PyData.int (t.2 : Nat)).map MV.d := by
    rw [wordsAt_snoc, List.map_append, List.map_append]
    have : ((outT is ++ pd ++ b).length : Nat) = 0 + (outT is).length + (pd ++ b).length := by
      rw [List.length_append, List.length_append, List.length_append]
      omega
    rw [this]
    rfl
  have hnd := need_rd (p0 := some (.p m)) (p3 := some (.d (strD (outT is ++ pd)))) (p4 := some (.w (.lst (((wordsAt 0 is).map fun t => PyData.int (t.2 : Nat)).map MV.d)))) hk2 hl hw
  rw [f_spread_eq]
  simp only [aSeq_ap, seqK_nx, seqK_rt, seqK_bk, seqK_ct, seqK_none, aNext_ap, aBrk_ap, aCont_ap, aAsg_ap, asgK_ap, nxR_some, aDrop_ap, dropK_ap, aIfS_ap, ifK_t, ifK_f, aRet_ap, retK_ap, rtR_some, aRetN_ap, aKill_ap, List.foldl_cons, List.foldl_nil, sb_okN, bd_okN, mapR_some, aC_ap, aXT_ap, aVar_ap, varK_d, varK_x, varK_w, varK_p, varK_k, aOp_ap, opK_ap, opK2_ap, aFz_ap, aUn_ap, aB_ap, bK_ap, aAnd_ap, andK_t, andK_f, aOr_ap, orK_t, orK_f, aNot_ap, notK_ap, aTru_ap, truK_ap, aYes_ap, aAndV_ap, andVK_t, andVK_f, aOrV_ap, orVK_t, orVK_f, aNotV_ap, notVK_ap, aIf_ap, ifEK_t, ifEK_f, aNil_ap, aCons_ap, consK_ap, consK2_ap, aCB_ap, cbK_ap, aNoPart_ap, aPart_ap, partK_ap, aSl_ap, slK_ap, slK2_ap, slK3_ap, aBM_ap, bmK_ap, bmK2_ap, aBM0_ap, bmK0_ap, aPut_ap, putK_ap, putK1_ap, putK2_ap, aFor_ap, forK_n, aRng1_ap, aRng2_ap, aIt_ap, itK_l, itK_t, itK_s, itK_x, itK_c, itK_f, aCallG_ap, List.getElem?_cons_zero, List.getElem?_cons_succ, List.set_cons_zero, List.set_cons_succ, List.length_cons, List.length_nil, Nat.zero_add, Nat.reduceAdd, Option.map_some, Option.map_none, Option.bind_some, Option.bind_none, List.map_cons, List.map_nil, aName, aNameF, fz, rtv, wAt, toM, vw, frz_lst, frz_d, lvs_map, oIx2_var, ixV_w, ixV_p, ixV_k, ixL_some, lfAt_nat, lf_d, oIx2_l, oIx2_t, Y.atI_nat, putF_var, putV_w, putV_p, oEq_int, oNe_int, oLtA_int, oIntA_int, oIntA_bool, oLenV_l, oLenV_t, oI0_ap, oB0_ap, oAdd_int, rNeg, lfAt_0, stL_0, Y.atI_0, lfAt_1, stL_1, Y.atI_1, lfAt_2, stL_2, Y.atI_2, lfAt_3, stL_3, Y.atI_3, lfAt_4, stL_4, Y.atI_4, lfAt_5, stL_5, Y.atI_5, lfAt_6, stL_6, Y.atI_6, lfAt_7, stL_7, Y.atI_7, Nat.reduceLeDiff, Int.reduceLT, Int.reduceLE, List.cons_append, List.nil_append, decide_true, decide_false, if_true, if_false, sizeLine_eq, aLc_ap, Bool.false_eq_true, hnd, call_p0f e, oAdd_mk c1, oLenV_s c2, tyA, beq_self_eq_true, mAppend_d, apV_w, List.length_map (f := MV.d), if_pos hn, ep, wordD_at hk, oAdd_mk c3, ea]
theorem spread_loop {ws : List (List Nat)} {m : MV} {b0 : List Nat} (hm : IsSt m) (hl : ws.length ≤ 60) (hw : ∀ w ∈ ws, TokW w) (hb : ∀ x ∈ b0, blk x = true) (lb : b0.length ≤ 4) :
  ∃ s', forGo (aNameF 5) f__law_spread_0 (rng 0 ws.length) [some (.p m), some (.d (.list (strsL ws))), some (.d (.str ltrs)), some (.d (strD b0)), some (.w (.lst [])), none] = some (.nx s') ∧ SpP ws ws.length s' := by
  obtain ⟨s', e, h⟩ := forGo_inv (Ga := aNameF 5) (S := f__law_spread_0) (SpP ws) (ds := rng 0 ws.length) (fun i d s hd hp => by
    obtain ⟨rfl, hi⟩ := rng_get0 hd
    obtain ⟨m, is, pd, im, h1, h2, ⟨h3, h4, h5⟩, rfl⟩ := hp
    have ew := List.getElem?_eq_getElem hi
    have hlen : is.length = i := by
      have := congrArg List.length h1
      rw [List.length_map, List.length_take] at this
      omega
    obtain ⟨b, m', b1, b2, b3, im', eb⟩ := rd__law_blank (least := need ws i) im
    have lo := out_len h2
    refine ⟨_, _, rfl, .inl (sp_step ew hl hw (by omega) h4 b2 (by omega) eb), m', is ++ [(pd ++ b, ws[i])], [], im', ?_, items_snoc h2 ⟨?_, hw _ (List.getElem_mem hi), ?_, ?_⟩, ⟨(fun _ h => nomatch h), Nat.zero_le _, .inr rfl⟩, ?_⟩
    · rw [List.map_append, h1, List.take_add_one, ew]
      rfl
    · intro x hx
      rcases List.mem_append.mp hx with h | h
      · exact h3 x h
      · exact b1 x h
    · rw [List.length_append]
      omega
    · intro v hv rv rw'
      by_cases h0 : i = 0
      · subst h0
        have : is = [] := List.eq_nil_of_length_eq_zero hlen
        subst this
        cases hv
      · have hpd : pd = [] := h5.resolve_left h0
        have hne : is ≠ [] := fun z => by subst z; exact h0 hlen.symm
        have hk1 : i - 1 < ws.length := by omega
        have e1 := List.getElem?_eq_getElem hk1
        have hlast : v = ws[i - 1] := by
          rw [lastW_take hne, h1, List.getLast?_eq_getElem?, List.length_take, Nat.min_eq_left (by omega), List.getElem?_take, if_pos (by omega), e1] at hv
          exact (Option.some.inj hv).symm
        have hn : need ws i = true := by
          unfold need
          rw [ew, e1]
          dsimp only
          rw [decide_eq_true (show 0 < i by omega), isRun_of rw', ← hlast, isRun_of rv]
          rfl
        have := b3 hn
        rw [hpd, List.nil_append]
        exact this
    · rw [List.append_nil]) (s := [some (.p m), some (.d (.list (strsL ws))), some (.d (.str ltrs)), some (.d (strD b0)), some (.w (.lst [])), none]) ⟨m, [], b0, hm, rfl, trivial, ⟨hb, lb, .inl rfl⟩, rfl⟩
  rw [rng_len] at h
  exact ⟨s', e, h⟩
theorem oTup_dw {s : SL} {x : PyData} {i : Nat} {ds : List PyData} (h : s[i]? = some (some (.w (.lst (ds.map MV.d))))) : oTup s [.d x, .var i] = some (.d (.tuple [x, .list ds]), s.set i (some (.d (.list ds)))) := by
  have ef : fz s (.var i) = some (.list ds, s.set i (some (.d (.list ds)))) := by
    show (match s[i]? with
    | some (some (.d x)) => some (x, s)
    | _ => (wAt s i).bind fun m => (frz m).map fun x => (x, s.set i (some (.d x)))) = _
    rw [h]
    show (wAt s i).bind _ = _
    have : wAt s i = some (.lst (ds.map MV.d)) := by unfold wAt; rw [h]
    rw [this]
    show (frz (.lst (ds.map MV.d))).map _ = _
    rw [frz_lst]
    rfl
  show (if 2 ≤ sizeLine then (fzs s [.d x, .var i]).map fun r => (TV.d (.tuple r.1), r.2) else none) = _
  rw [if_pos (by rw [sizeLine_eq]; omega)]
  have e1 : fzs s [.var i] = some ([.list ds], s.set i (some (.d (.list ds)))) := by
    unfold fzs
    rw [ef]
    rfl
  have e2 : fzs s [.d x, .var i] = some ([x, .list ds], s.set i (some (.d (.list ds)))) := by
    show (fz s (.d x)).bind (fun r => (fzs r.2 [.var i]).map fun q => (r.1 :: q.1, q.2)) = _
    show (fzs s [.var i]).map (fun q => (x :: q.1, q.2)) = _
    rw [e1]
    rfl
  rw [e2]
  rfl
theorem rd__law_spread {m : MV} {ws : List (List Nat)} (hm : IsSt m) (hl : ws.length ≤ 60) (hw : ∀ w ∈ ws, TokW w) : ∃ is b m', is.map (·.2) = ws ∧ ItemsOk none is ∧ (∀ x ∈ b, blk x = true) ∧ b.length ≤ 8 ∧ IsSt m' ∧
    den__law_spread [.p m, .d (.list (strsL ws))] = some (.ok (.d (.tuple [strD (outT is ++ b), .list ((wordsAt 0 is).map fun t => .int (t.2 : Nat))])) [some (.p m'), none]) := by
  obtain ⟨b0, m1, h1, h2, _, i1, e1⟩ := rd__law_blank (least := false) hm
  obtain ⟨s', el, m2, is, pd, i2, g1, g2, ⟨g3, g4, _⟩, rfl⟩ := spread_loop i1 hl hw h1 h2
  obtain ⟨b, m3, k1, k2, _, i3, e3⟩ := rd__law_blank (least := false) i2
  rw [List.take_length] at g1
  have hlen : is.length = ws.length := by rw [← g1, List.length_map]
  have lo := out_len g2
  have hr : ∀ s, rngK1 [.d (.int (ws.length : Nat))] s = some (.ok (rng 0 ws.length, none) s) := fun s => rngK1_ap (by omega)
  have c1 : (outT is ++ pd).length + b.length ≤ 16777216 := by rw [List.length_append]; omega
  refine ⟨is, pd ++ b, m3, g1, g2, fun x hx => (List.mem_append.mp hx).elim (g3 x) (k1 x), by rw [List.length_append]; omega, i3, ?_⟩
  have hb : b__law_spread [some (.p m), some (.d (.list (strsL ws))), none, none, none, none] = some (.rt (.d (.tuple [strD (outT is ++ (pd ++ b)), .list ((wordsAt 0 is).map fun t => .int (t.2 : Nat))])) [some (.p m3), some (.d (.list (strsL ws))), some (.d (.str ltrs)), some (.d (strD (outT is ++ pd))), some (.d (.list ((wordsAt 0 is).map fun t => .int (t.2 : Nat)))), none]) := by
    unfold b__law_spread
    simp only [aSeq_ap, seqK_nx, seqK_rt, seqK_bk, seqK_ct, seqK_none, aNext_ap, aBrk_ap, aCont_ap, aAsg_ap, asgK_ap, nxR_some, aDrop_ap, dropK_ap, aIfS_ap, ifK_t, ifK_f, aRet_ap, retK_ap, rtR_some, aRetN_ap, aKill_ap, List.foldl_cons, List.foldl_nil, sb_okN, bd_okN, mapR_some, aC_ap, aXT_ap, aVar_ap, varK_d, varK_x, varK_w, varK_p, varK_k, aOp_ap, opK_ap, opK2_ap, aFz_ap, aUn_ap, aB_ap, bK_ap, aAnd_ap, andK_t, andK_f, aOr_ap, orK_t, orK_f, aNot_ap, notK_ap, aTru_ap, truK_ap, aYes_ap, aAndV_ap, andVK_t, andVK_f, aOrV_ap, orVK_t, orVK_f, aNotV_ap, notVK_ap, aIf_ap, ifEK_t, ifEK_f, aNil_ap, aCons_ap, consK_ap, consK2_ap, aCB_ap, cbK_ap, aNoPart_ap, aPart_ap, partK_ap, aSl_ap, slK_ap, slK2_ap, slK3_ap, aBM_ap, bmK_ap, bmK2_ap, aBM0_ap, bmK0_ap, aPut_ap, putK_ap, putK1_ap, putK2_ap, aFor_ap, forK_n, aRng1_ap, aRng2_ap, aIt_ap, itK_l, itK_t, itK_s, itK_x, itK_c, itK_f, aCallG_ap, List.getElem?_cons_zero, List.getElem?_cons_succ, List.set_cons_zero, List.set_cons_succ, List.length_cons, List.length_nil, Nat.zero_add, Nat.reduceAdd, Option.map_some, Option.map_none, Option.bind_some, Option.bind_none, List.map_cons, List.map_nil, aName, aNameF, fz, rtv, wAt, toM, vw, frz_lst, frz_d, lvs_map, oIx2_var, ixV_w, ixV_p, ixV_k, ixL_some, lfAt_nat, lf_d, oIx2_l, oIx2_t, Y.atI_nat, putF_var, putV_w, putV_p, oEq_int, oNe_int, oLtA_int, oIntA_int, oIntA_bool, oLenV_l, oLenV_t, oI0_ap, oB0_ap, oAdd_int, rNeg, lfAt_0, stL_0, Y.atI_0, lfAt_1, stL_1, Y.atI_1, lfAt_2, stL_2, Y.atI_2, lfAt_3, stL_3, Y.atI_3, lfAt_4, stL_4, Y.atI_4, lfAt_5, stL_5, Y.atI_5, lfAt_6, stL_6, Y.atI_6, lfAt_7, stL_7, Y.atI_7, Nat.reduceLeDiff, Int.reduceLT, Int.reduceLE, List.cons_append, List.nil_append, decide_true, decide_false, if_true, if_false, sizeLine_eq, aLc_ap, Bool.false_eq_true, call_p0f e1, oLst_nil, List.length_map, hr, el, call_p0f e3, oAdd_mk c1]
    rw [oTup_dw (ds := (wordsAt 0 is).map fun t => PyData.int (t.2 : Nat)) rfl]
    simp only [aSeq_ap, seqK_nx, seqK_rt, seqK_bk, seqK_ct, seqK_none, aNext_ap, aBrk_ap, aCont_ap, aAsg_ap, asgK_ap, nxR_some, aDrop_ap, dropK_ap, aIfS_ap, ifK_t, ifK_f, aRet_ap, retK_ap, rtR_some, aRetN_ap, aKill_ap, List.foldl_cons, List.foldl_nil, sb_okN, bd_okN, mapR_some, aC_ap, aXT_ap, aVar_ap, varK_d, varK_x, varK_w, varK_p, varK_k, aOp_ap, opK_ap, opK2_ap, aFz_ap, aUn_ap, aB_ap, bK_ap, aAnd_ap, andK_t, andK_f, aOr_ap, orK_t, orK_f, aNot_ap, notK_ap, aTru_ap, truK_ap, aYes_ap, aAndV_ap, andVK_t, andVK_f, aOrV_ap, orVK_t, orVK_f, aNotV_ap, notVK_ap, aIf_ap, ifEK_t, ifEK_f, aNil_ap, aCons_ap, consK_ap, consK2_ap, aCB_ap, cbK_ap, aNoPart_ap, aPart_ap, partK_ap, aSl_ap, slK_ap, slK2_ap, slK3_ap, aBM_ap, bmK_ap, bmK2_ap, aBM0_ap, bmK0_ap, aPut_ap, putK_ap, putK1_ap, putK2_ap, aFor_ap, forK_n, aRng1_ap, aRng2_ap, aIt_ap, itK_l, itK_t, itK_s, itK_x, itK_c, itK_f, aCallG_ap, List.getElem?_cons_zero, List.getElem?_cons_succ, List.set_cons_zero, List.set_cons_succ, List.length_cons, List.length_nil, Nat.zero_add, Nat.reduceAdd, Option.map_some, Option.map_none, Option.bind_some, Option.bind_none, List.map_cons, List.map_nil, aName, aNameF, fz, rtv, wAt, toM, vw, frz_lst, frz_d, lvs_map, oIx2_var, ixV_w, ixV_p, ixV_k, ixL_some, lfAt_nat, lf_d, oIx2_l, oIx2_t, Y.atI_nat, putF_var, putV_w, putV_p, oEq_int, oNe_int, oLtA_int, oIntA_int, oIntA_bool, oLenV_l, oLenV_t, oI0_ap, oB0_ap, oAdd_int, rNeg, lfAt_0, stL_0, Y.atI_0, lfAt_1, stL_1, Y.atI_1, lfAt_2, stL_2, Y.atI_2, lfAt_3, stL_3, Y.atI_3, lfAt_4, stL_4, Y.atI_4, lfAt_5, stL_5, Y.atI_5, lfAt_6, stL_6, Y.atI_6, lfAt_7, stL_7, Y.atI_7, Nat.reduceLeDiff, Int.reduceLT, Int.reduceLE, List.cons_append, List.nil_append, decide_true, decide_false, if_true, if_false, sizeLine_eq, aLc_ap, Bool.false_eq_true, List.append_assoc]
  have hs : start0 6 [.p m, .d (.list (strsL ws))] = [some (.p m), some (.d (.list (strsL ws))), none, none, none, none] := rfl
  unfold den__law_spread Y.run
  rw [hs, hb]
  rfl

end Lw

namespace Lw
open PySem PySem.Spec PyProof.Rows L2 Y PySem.W TL
/-! ### what is due -/
def tokD (t : List Nat × Nat) : PyData := .tuple [.str (kindL t.1), .str (mk t.1), .int (t.2 : Nat)]
theorem low_tl : tl ("abcdefghijklmnopqrstuvwxyz" : Str) = [97, 98, 99, 100, 101, 102, 103, 104, 105, 106, 107, 108, 109, 110, 111, 112, 113, 114, 115, 116, 117, 118, 119, 120, 121, 122] := by decide +kernel
theorem low_iff (x : Nat) : decide (x ∈ tl ("abcdefghijklmnopqrstuvwxyz" : Str)) = lowB x := by
  rw [low_tl, Bool.eq_iff_iff]
  unfold lowB
  simp only [List.mem_cons, List.not_mem_nil, or_false, decide_eq_true_eq, Bool.and_eq_true]
  omega
theorem tok_head {w : List Nat} (h : TokW w) : ∃ c, w[0]? = some c ∧ lowB c = isRun w := by
  rcases h with h | h
  · rw [isRun_of h]
    obtain ⟨x, r, e, h1, h2⟩ := h.1
    exact ⟨x, by rw [e]; rfl, by unfold lowB; rw [decide_eq_true h1, decide_eq_true h2]; rfl⟩
  · have : ∀ w ∈ marksL, ∃ c, w[0]? = some c ∧ lowB c = false := by
      intro w hw
      simp only [marksL, List.mem_cons, List.not_mem_nil, or_false] at hw
      rcases hw with rfl | rfl | rfl | rfl | rfl | rfl | rfl | rfl | rfl <;> exact ⟨_, rfl, by decide⟩
    obtain ⟨c, h1, h2⟩ := this w h
    refine ⟨c, h1, ?_⟩
    rw [h2]
    unfold isRun
    rw [List.contains_iff_mem.mpr h]
    rfl
theorem words_not_mark : ∀ w ∈ wordsL, marksL.contains w = false := by decide
theorem due_step {ts : List (List Nat × Nat)} {k : Nat} {t : List Nat × Nat} (hk : ts[k]? = some t) (hl : ts.length ≤ 1000) (tw : TokW t.1) :
  f__law_due_0 [some (.d (.list (strsL (ts.map (·.1))))), some (.d (.list (ts.map fun t => .int (t.2 : Nat)))), some (.w (.lst (((ts.take k).map tokD).map MV.d))), some (.d (.int (k : Nat))), none] =
    some (.nx [some (.d (.list (strsL (ts.map (·.1))))), some (.d (.list (ts.map fun t => .int (t.2 : Nat)))), some (.w (.lst (((ts.take (k + 1)).map tokD).map MV.d))), none, none]) := by
  have h1 : (strsL (ts.map (·.1)))[k]? = some (strD t.1) := by rw [List.getElem?_map, List.getElem?_map, hk]; rfl
  have h2 : (ts.map fun t => PyData.int (t.2 : Nat))[k]? = some (.int (t.2 : Nat)) := by rw [List.getElem?_map, hk]; rfl
  obtain ⟨c, hc, hlc⟩ := tok_head tw
  have z1 : (mk t.1).length ≤ sizeLine := by rw [sizeLine_eq, len_tl]; have := tok_len tw; show t.1.length ≤ _; omega
  have i0 : ∀ s : SL, oIx2 s (.d (.str (mk t.1))) (.d (.int 0)) = some (.d (.str (mk [c])), s) := fun s => oIx2_mk z1 (by omega) hc
  have hw : ∀ s : SL, oIn2 false s (.d (strD t.1)) (.d (.tuple [.str "pact", .str "end", .str "choice", .str "both", .str "loop", .str "use"])) = some (.d (.bool (wordsL.contains t.1)), s) := fun s => by
    have := oIn2_tu (s := s) (neg := false) (x := mk t.1) (l := wordsS)
    rw [wordsS_tl] at this
    exact this
  have et6 : ∀ (s : SL) (a b c d e f : PyData), oTup s [.d a, .d b, .d c, .d d, .d e, .d f] = some (.d (.tuple [a, b, c, d, e, f]), s) := fun s a b c d e f => if_pos (show 6 ≤ sizeLine by rw [sizeLine_eq]; omega)
  have hn : ((ts.take k).map tokD).length < 16777216 := by rw [List.length_map, List.length_take]; omega
  have hin : ∀ s : SL, oIn2 true s (.d (.str (mk [c]))) (.d (.str "abcdefghijklmnopqrstuvwxyz")) = some (.d (.bool (!isRun t.1)), s) := fun s => by
    rw [oIn2_s, low_iff, hlc, if_pos rfl]
  have fin : ∀ z : Str, z = kindL t.1 → ((ts.take k).map tokD).map MV.d ++ [MV.d (.tuple [.str z, .str (mk t.1), .int (t.2 : Nat)])] = ((ts.take (k + 1)).map tokD).map MV.d := fun z ez => by
    rw [List.take_add_one, hk, List.map_append, List.map_append, ez]
    rfl
  unfold f__law_due_0
  cases g : wordsL.contains t.1 with
  | true =>
    have ek : ("word" : Str) = kindL t.1 := by unfold kindL; rw [if_pos g]
    simp only [aSeq_ap, seqK_nx, seqK_rt, seqK_bk, seqK_ct, seqK_none, aNext_ap, aBrk_ap, aCont_ap, aAsg_ap, asgK_ap, nxR_some, aDrop_ap, dropK_ap, aIfS_ap, ifK_t, ifK_f, aRet_ap, retK_ap, rtR_some, aRetN_ap, aKill_ap, List.foldl_cons, List.foldl_nil, sb_okN, bd_okN, mapR_some, aC_ap, aXT_ap, aVar_ap, varK_d, varK_x, varK_w, varK_p, varK_k, aOp_ap, opK_ap, opK2_ap, aFz_ap, aUn_ap, aB_ap, bK_ap, aAnd_ap, andK_t, andK_f, aOr_ap, orK_t, orK_f, aNot_ap, notK_ap, aTru_ap, truK_ap, aYes_ap, aAndV_ap, andVK_t, andVK_f, aOrV_ap, orVK_t, orVK_f, aNotV_ap, notVK_ap, aIf_ap, ifEK_t, ifEK_f, aNil_ap, aCons_ap, consK_ap, consK2_ap, aCB_ap, cbK_ap, aNoPart_ap, aPart_ap, partK_ap, aSl_ap, slK_ap, slK2_ap, slK3_ap, aBM_ap, bmK_ap, bmK2_ap, aBM0_ap, bmK0_ap, aPut_ap, putK_ap, putK1_ap, putK2_ap, aFor_ap, forK_n, aRng1_ap, aRng2_ap, aIt_ap, itK_l, itK_t, itK_s, itK_x, itK_c, itK_f, aCallG_ap, List.getElem?_cons_zero, List.getElem?_cons_succ, List.set_cons_zero, List.set_cons_succ, List.length_cons, List.length_nil, Nat.zero_add, Nat.reduceAdd, Option.map_some, Option.map_none, Option.bind_some, Option.bind_none, List.map_cons, List.map_nil, aName, aNameF, fz, rtv, wAt, toM, vw, frz_lst, frz_d, lvs_map, oIx2_var, ixV_w, ixV_p, ixV_k, ixL_some, lfAt_nat, lf_d, oIx2_l, oIx2_t, Y.atI_nat, putF_var, putV_w, putV_p, oEq_int, oNe_int, oLtA_int, oIntA_int, oIntA_bool, oLenV_l, oLenV_t, oI0_ap, oB0_ap, oAdd_int, rNeg, lfAt_0, stL_0, Y.atI_0, lfAt_1, stL_1, Y.atI_1, lfAt_2, stL_2, Y.atI_2, lfAt_3, stL_3, Y.atI_3, lfAt_4, stL_4, Y.atI_4, lfAt_5, stL_5, Y.atI_5, lfAt_6, stL_6, Y.atI_6, lfAt_7, stL_7, Y.atI_7, Nat.reduceLeDiff, Int.reduceLT, Int.reduceLE, List.cons_append, List.nil_append, decide_true, decide_false, if_true, if_false, sizeLine_eq, aLc_ap, Bool.false_eq_true, h1, hw, et6, g, h2, oTup_3, tyA, beq_self_eq_true, mAppend_d, apV_w, List.length_map (f := MV.d), if_pos hn, fin _ ek]
  | false =>
    cases r : isRun t.1 with
    | true =>
      have r' : marksL.contains t.1 = false := by unfold isRun at r; simpa using r
      have ek : ("name" : Str) = kindL t.1 := by unfold kindL; rw [if_neg (by rw [g]; decide), if_neg (by rw [r']; decide)]
      simp only [aSeq_ap, seqK_nx, seqK_rt, seqK_bk, seqK_ct, seqK_none, aNext_ap, aBrk_ap, aCont_ap, aAsg_ap, asgK_ap, nxR_some, aDrop_ap, dropK_ap, aIfS_ap, ifK_t, ifK_f, aRet_ap, retK_ap, rtR_some, aRetN_ap, aKill_ap, List.foldl_cons, List.foldl_nil, sb_okN, bd_okN, mapR_some, aC_ap, aXT_ap, aVar_ap, varK_d, varK_x, varK_w, varK_p, varK_k, aOp_ap, opK_ap, opK2_ap, aFz_ap, aUn_ap, aB_ap, bK_ap, aAnd_ap, andK_t, andK_f, aOr_ap, orK_t, orK_f, aNot_ap, notK_ap, aTru_ap, truK_ap, aYes_ap, aAndV_ap, andVK_t, andVK_f, aOrV_ap, orVK_t, orVK_f, aNotV_ap, notVK_ap, aIf_ap, ifEK_t, ifEK_f, aNil_ap, aCons_ap, consK_ap, consK2_ap, aCB_ap, cbK_ap, aNoPart_ap, aPart_ap, partK_ap, aSl_ap, slK_ap, slK2_ap, slK3_ap, aBM_ap, bmK_ap, bmK2_ap, aBM0_ap, bmK0_ap, aPut_ap, putK_ap, putK1_ap, putK2_ap, aFor_ap, forK_n, aRng1_ap, aRng2_ap, aIt_ap, itK_l, itK_t, itK_s, itK_x, itK_c, itK_f, aCallG_ap, List.getElem?_cons_zero, List.getElem?_cons_succ, List.set_cons_zero, List.set_cons_succ, List.length_cons, List.length_nil, Nat.zero_add, Nat.reduceAdd, Option.map_some, Option.map_none, Option.bind_some, Option.bind_none, List.map_cons, List.map_nil, aName, aNameF, fz, rtv, wAt, toM, vw, frz_lst, frz_d, lvs_map, oIx2_var, ixV_w, ixV_p, ixV_k, ixL_some, lfAt_nat, lf_d, oIx2_l, oIx2_t, Y.atI_nat, putF_var, putV_w, putV_p, oEq_int, oNe_int, oLtA_int, oIntA_int, oIntA_bool, oLenV_l, oLenV_t, oI0_ap, oB0_ap, oAdd_int, rNeg, lfAt_0, stL_0, Y.atI_0, lfAt_1, stL_1, Y.atI_1, lfAt_2, stL_2, Y.atI_2, lfAt_3, stL_3, Y.atI_3, lfAt_4, stL_4, Y.atI_4, lfAt_5, stL_5, Y.atI_5, lfAt_6, stL_6, Y.atI_6, lfAt_7, stL_7, Y.atI_7, Nat.reduceLeDiff, Int.reduceLT, Int.reduceLE, List.cons_append, List.nil_append, decide_true, decide_false, if_true, if_false, sizeLine_eq, aLc_ap, Bool.false_eq_true, h1, hw, et6, g, i0, hin, r, Bool.not_true, h2, oTup_3, tyA, beq_self_eq_true, mAppend_d, apV_w, List.length_map (f := MV.d), if_pos hn, fin _ ek]
    | false =>
      have r' : marksL.contains t.1 = true := by unfold isRun at r; simpa using r
      have ek : ("mark" : Str) = kindL t.1 := by unfold kindL; rw [if_neg (by rw [g]; decide), if_pos r']
      simp only [aSeq_ap, seqK_nx, seqK_rt, seqK_bk, seqK_ct, seqK_none, aNext_ap, aBrk_ap, aCont_ap, aAsg_ap, asgK_ap, nxR_some, aDrop_ap, dropK_ap, aIfS_ap, ifK_t, ifK_f, aRet_ap, retK_ap, rtR_some, aRetN_ap, aKill_ap, List.foldl_cons, List.foldl_nil, sb_okN, bd_okN, mapR_some, aC_ap, aXT_ap, aVar_ap, varK_d, varK_x, varK_w, varK_p, varK_k, aOp_ap, opK_ap, opK2_ap, aFz_ap, aUn_ap, aB_ap, bK_ap, aAnd_ap, andK_t, andK_f, aOr_ap, orK_t, orK_f, aNot_ap, notK_ap, aTru_ap, truK_ap, aYes_ap, aAndV_ap, andVK_t, andVK_f, aOrV_ap, orVK_t, orVK_f, aNotV_ap, notVK_ap, aIf_ap, ifEK_t, ifEK_f, aNil_ap, aCons_ap, consK_ap, consK2_ap, aCB_ap, cbK_ap, aNoPart_ap, aPart_ap, partK_ap, aSl_ap, slK_ap, slK2_ap, slK3_ap, aBM_ap, bmK_ap, bmK2_ap, aBM0_ap, bmK0_ap, aPut_ap, putK_ap, putK1_ap, putK2_ap, aFor_ap, forK_n, aRng1_ap, aRng2_ap, aIt_ap, itK_l, itK_t, itK_s, itK_x, itK_c, itK_f, aCallG_ap, List.getElem?_cons_zero, List.getElem?_cons_succ, List.set_cons_zero, List.set_cons_succ, List.length_cons, List.length_nil, Nat.zero_add, Nat.reduceAdd, Option.map_some, Option.map_none, Option.bind_some, Option.bind_none, List.map_cons, List.map_nil, aName, aNameF, fz, rtv, wAt, toM, vw, frz_lst, frz_d, lvs_map, oIx2_var, ixV_w, ixV_p, ixV_k, ixL_some, lfAt_nat, lf_d, oIx2_l, oIx2_t, Y.atI_nat, putF_var, putV_w, putV_p, oEq_int, oNe_int, oLtA_int, oIntA_int, oIntA_bool, oLenV_l, oLenV_t, oI0_ap, oB0_ap, oAdd_int, rNeg, lfAt_0, stL_0, Y.atI_0, lfAt_1, stL_1, Y.atI_1, lfAt_2, stL_2, Y.atI_2, lfAt_3, stL_3, Y.atI_3, lfAt_4, stL_4, Y.atI_4, lfAt_5, stL_5, Y.atI_5, lfAt_6, stL_6, Y.atI_6, lfAt_7, stL_7, Y.atI_7, Nat.reduceLeDiff, Int.reduceLT, Int.reduceLE, List.cons_append, List.nil_append, decide_true, decide_false, if_true, if_false, sizeLine_eq, aLc_ap, Bool.false_eq_true, h1, hw, et6, g, i0, hin, r, Bool.not_false, h2, oTup_3, tyA, beq_self_eq_true, mAppend_d, apV_w, List.length_map (f := MV.d), if_pos hn, fin _ ek]
theorem rd__law_due {ts : List (List Nat × Nat)} (hl : ts.length ≤ 1000) (tw : ∀ t ∈ ts, TokW t.1) : den__law_due [.d (.list (strsL (ts.map (·.1)))), .d (.list (ts.map fun t => .int (t.2 : Nat)))] = some (.ok (.t (.lst ((ts.map tokD).map MV.d))) [none, none]) := by
  obtain ⟨s', e, hs⟩ := forGo_inv (Ga := aNameF 3) (S := f__law_due_0) (ds := rng 0 ts.length) (fun i s => s = [some (.d (.list (strsL (ts.map (·.1))))), some (.d (.list (ts.map fun t => .int (t.2 : Nat)))), some (.w (.lst (((ts.take i).map tokD).map MV.d))), none, none]) (fun i d s hd hp => by
    obtain ⟨rfl, hi⟩ := rng_get0 hd
    subst hp
    have et := List.getElem?_eq_getElem hi
    exact ⟨_, _, rfl, .inl (due_step et hl (tw _ (List.getElem_mem hi))), rfl⟩) (s := [some (.d (.list (strsL (ts.map (·.1))))), some (.d (.list (ts.map fun t => .int (t.2 : Nat)))), some (.w (.lst [])), none, none]) rfl
  rw [rng_len, List.take_length] at hs
  rw [hs] at e
  have hr : ∀ s, rngK1 [.d (.int (ts.length : Nat))] s = some (.ok (rng 0 ts.length, none) s) := fun s => rngK1_ap (by omega)
  have hb : b__law_due [some (.d (.list (strsL (ts.map (·.1))))), some (.d (.list (ts.map fun t => .int (t.2 : Nat)))), none, none, none] = some (.rt (.t (.lst ((ts.map tokD).map MV.d))) [some (.d (.list (strsL (ts.map (·.1))))), some (.d (.list (ts.map fun t => .int (t.2 : Nat)))), none, none, none]) := by
    unfold b__law_due
    simp only [aSeq_ap, seqK_nx, seqK_rt, seqK_bk, seqK_ct, seqK_none, aNext_ap, aBrk_ap, aCont_ap, aAsg_ap, asgK_ap, nxR_some, aDrop_ap, dropK_ap, aIfS_ap, ifK_t, ifK_f, aRet_ap, retK_ap, rtR_some, aRetN_ap, aKill_ap, List.foldl_cons, List.foldl_nil, sb_okN, bd_okN, mapR_some, aC_ap, aXT_ap, aVar_ap, varK_d, varK_x, varK_w, varK_p, varK_k, aOp_ap, opK_ap, opK2_ap, aFz_ap, aUn_ap, aB_ap, bK_ap, aAnd_ap, andK_t, andK_f, aOr_ap, orK_t, orK_f, aNot_ap, notK_ap, aTru_ap, truK_ap, aYes_ap, aAndV_ap, andVK_t, andVK_f, aOrV_ap, orVK_t, orVK_f, aNotV_ap, notVK_ap, aIf_ap, ifEK_t, ifEK_f, aNil_ap, aCons_ap, consK_ap, consK2_ap, aCB_ap, cbK_ap, aNoPart_ap, aPart_ap, partK_ap, aSl_ap, slK_ap, slK2_ap, slK3_ap, aBM_ap, bmK_ap, bmK2_ap, aBM0_ap, bmK0_ap, aPut_ap, putK_ap, putK1_ap, putK2_ap, aFor_ap, forK_n, aRng1_ap, aRng2_ap, aIt_ap, itK_l, itK_t, itK_s, itK_x, itK_c, itK_f, aCallG_ap, List.getElem?_cons_zero, List.getElem?_cons_succ, List.set_cons_zero, List.set_cons_succ, List.length_cons, List.length_nil, Nat.zero_add, Nat.reduceAdd, Option.map_some, Option.map_none, Option.bind_some, Option.bind_none, List.map_cons, List.map_nil, aName, aNameF, fz, rtv, wAt, toM, vw, frz_lst, frz_d, lvs_map, oIx2_var, ixV_w, ixV_p, ixV_k, ixL_some, lfAt_nat, lf_d, oIx2_l, oIx2_t, Y.atI_nat, putF_var, putV_w, putV_p, oEq_int, oNe_int, oLtA_int, oIntA_int, oIntA_bool, oLenV_l, oLenV_t, oI0_ap, oB0_ap, oAdd_int, rNeg, lfAt_0, stL_0, Y.atI_0, lfAt_1, stL_1, Y.atI_1, lfAt_2, stL_2, Y.atI_2, lfAt_3, stL_3, Y.atI_3, lfAt_4, stL_4, Y.atI_4, lfAt_5, stL_5, Y.atI_5, lfAt_6, stL_6, Y.atI_6, lfAt_7, stL_7, Y.atI_7, Nat.reduceLeDiff, Int.reduceLT, Int.reduceLE, List.cons_append, List.nil_append, decide_true, decide_false, if_true, if_false, sizeLine_eq, aLc_ap, Bool.false_eq_true, oLst_nil, List.length_map, hr, e]
  have hs : start0 5 [.d (.list (strsL (ts.map (·.1)))), .d (.list (ts.map fun t => .int (t.2 : Nat)))] = [some (.d (.list (strsL (ts.map (·.1))))), some (.d (.list (ts.map fun t => .int (t.2 : Nat)))), none, none, none] := rfl
  unfold den__law_due Y.run
  rw [hs, hb]
  rfl

end Lw

namespace Lw
open PySem PySem.Spec PyProof.Rows L2 Y PySem.W TL
/-! ### the program: names, runs -/
theorem aug_add {s : SL} {i : Nat} {a b : Int} (h : s[i]? = some (some (.d (.int a)))) : aAug i (aC (.int b)) ipAdd s = some (.nx (s.set i (some (.d (.int (a + b)))))) := by
  unfold aAug
  rw [h]
  rfl
theorem small_iff (x : Nat) : decide (x ∈ tl c_SMALL) = lowB x := low_iff x
theorem digits_tl : tl c_DIGITS = [48, 49, 50, 51, 52, 53, 54, 55, 56, 57] := by decide +kernel
theorem digits_iff (x : Nat) : decide (x ∈ tl c_DIGITS) = (decide (48 ≤ x) && decide (x ≤ 57)) := by
  rw [digits_tl, Bool.eq_iff_iff]
  simp only [List.mem_cons, List.not_mem_nil, or_false, decide_eq_true_eq, Bool.and_eq_true]
  omega
theorem sgN_or (x : Nat) : (lowB x || (decide (48 ≤ x) && decide (x ≤ 57))) = sgN x := by
  unfold lowB sgN
  rw [Bool.or_comm]
theorem oEq_str {s : SL} {l m : List Nat} (h1 : ∀ c ∈ l, c < 200) (h2 : ∀ c ∈ m, c < 200) : oEq false s (.d (.str (mk l))) (.d (.str (mk m))) = some (.d (.bool (decide (l = m))), s) := by
  show (if SeqAt.shaped (.str (mk l)) = true ∧ SeqAt.shaped (.str (mk m)) = true then some (TV.d (.bool (mk l == mk m)), s) else none) = _
  rw [if_pos ⟨shaped_str h1, shaped_str h2⟩, str_beq]
  congr 4
  rw [Bool.eq_iff_iff, beq_iff_eq, decide_eq_true_eq]
theorem itK_mk {s : SL} {l : List Nat} : itK (.d (.str (mk l))) s = some (.ok (l.map fun c => .str (mk [c]), none) s) := itK_s
theorem rd_is_name_form {w : List Nat} (hw : RunW w) : den_is_name_form [.d (strD w)] = some (.ok (.d (.bool true)) [none]) := by
  obtain ⟨⟨x, r, e, h1, h2⟩, hs, hl⟩ := hw
  have low : ∀ c ∈ w, c < 200 := fun c hc => sgN_low (hs c hc)
  have z1 : (mk w).length ≤ sizeLine := by rw [sizeLine_eq, len_tl]; show w.length ≤ _; omega
  have hx : w[0]? = some x := by rw [e]; rfl
  have i0 : ∀ s : SL, oIx2 s (.d (.str (mk w))) (.d (.int 0)) = some (.d (.str (mk [x])), s) := fun s => oIx2_mk z1 (by omega) hx
  have e0 : ("" : Str) = mk [] := ext_tl (by decide +kernel)
  have hne : decide (w = []) = false := by rw [e]; rfl
  have d12 : decide ((12 : Int) < ((w.length : Nat) : Int)) = false := decide_eq_false (by omega)
  have lx : lowB x = true := by unfold lowB; rw [decide_eq_true h1, decide_eq_true h2]; rfl
  have nl : ∀ c ∈ ([] : List Nat), c < 200 := fun _ h => nomatch h
  have hl2 : w.length ≤ 16777216 := by omega
  have en : ∀ s : SL, oEq false s (.t (.lst [])) (.t (.lst [])) = some (.d (.bool true), s) := fun s => by
    have e1 : asD s (.t (.lst [])) = some (.list []) := frz_lst []
    unfold oEq
    rw [e1, Option.bind_some, Option.bind_some, if_pos ⟨by decide +kernel, by decide +kernel⟩]
    rfl
  have hb : b_is_name_form [some (.d (strD w)), none] = some (.rt (.d (.bool true)) [some (.d (strD w)), none]) := by
    unfold b_is_name_form
    simp only [aSeq_ap, seqK_nx, seqK_rt, seqK_bk, seqK_ct, seqK_none, aNext_ap, aBrk_ap, aCont_ap, aAsg_ap, asgK_ap, nxR_some, aDrop_ap, dropK_ap, aIfS_ap, ifK_t, ifK_f, aRet_ap, retK_ap, rtR_some, aRetN_ap, aKill_ap, List.foldl_cons, List.foldl_nil, sb_okN, bd_okN, mapR_some, aC_ap, aXT_ap, aVar_ap, varK_d, varK_x, varK_w, varK_p, varK_k, aOp_ap, opK_ap, opK2_ap, aFz_ap, aUn_ap, aB_ap, bK_ap, aAnd_ap, andK_t, andK_f, aOr_ap, orK_t, orK_f, aNot_ap, notK_ap, aTru_ap, truK_ap, aYes_ap, aAndV_ap, andVK_t, andVK_f, aOrV_ap, orVK_t, orVK_f, aNotV_ap, notVK_ap, aIf_ap, ifEK_t, ifEK_f, aNil_ap, aCons_ap, consK_ap, consK2_ap, aCB_ap, cbK_ap, aNoPart_ap, aPart_ap, partK_ap, aSl_ap, slK_ap, slK2_ap, slK3_ap, aBM_ap, bmK_ap, bmK2_ap, aBM0_ap, bmK0_ap, aPut_ap, putK_ap, putK1_ap, putK2_ap, aFor_ap, forK_n, aRng1_ap, aRng2_ap, aIt_ap, itK_l, itK_t, itK_s, itK_x, itK_c, itK_f, aCallG_ap, List.getElem?_cons_zero, List.getElem?_cons_succ, List.set_cons_zero, List.set_cons_succ, List.length_cons, List.length_nil, Nat.zero_add, Nat.reduceAdd, Option.map_some, Option.map_none, Option.bind_some, Option.bind_none, List.map_cons, List.map_nil, aName, aNameF, fz, rtv, wAt, toM, vw, frz_lst, frz_d, lvs_map, oIx2_var, ixV_w, ixV_p, ixV_k, ixL_some, lfAt_nat, lf_d, oIx2_l, oIx2_t, Y.atI_nat, putF_var, putV_w, putV_p, oEq_int, oNe_int, oLtA_int, oIntA_int, oIntA_bool, oLenV_l, oLenV_t, oI0_ap, oB0_ap, oAdd_int, rNeg, lfAt_0, stL_0, Y.atI_0, lfAt_1, stL_1, Y.atI_1, lfAt_2, stL_2, Y.atI_2, lfAt_3, stL_3, Y.atI_3, lfAt_4, stL_4, Y.atI_4, lfAt_5, stL_5, Y.atI_5, lfAt_6, stL_6, Y.atI_6, lfAt_7, stL_7, Y.atI_7, Nat.reduceLeDiff, Int.reduceLT, Int.reduceLE, List.cons_append, List.nil_append, decide_true, decide_false, if_true, if_false, sizeLine_eq, aLc_ap, Bool.false_eq_true, e0, oEq_str low nl, hne, oLenV_s hl2, oGt_int, d12, i0, oIn2_s, small_iff, lx, Bool.not_true, itK_mk]
    rw [lcK_map (fun _ => false) MV.d (by rw [List.length_map]; exact hl2) rfl (fun y hy => by
      obtain ⟨c, hc, rfl⟩ := List.mem_map.mp hy
      refine ⟨_, [some (.d (strD w)), some (.d (.str (mk [c])))], rfl, ?_, fun z => (by cases z), fun _ => rfl⟩
      have sc := hs c hc
      rw [← sgN_or] at sc
      show aAnd _ _ [some (.d (strD w)), some (.d (.str (mk [c])))] = _
      cases g : lowB c with
      | true => simp only [aSeq_ap, seqK_nx, seqK_rt, seqK_bk, seqK_ct, seqK_none, aNext_ap, aBrk_ap, aCont_ap, aAsg_ap, asgK_ap, nxR_some, aDrop_ap, dropK_ap, aIfS_ap, ifK_t, ifK_f, aRet_ap, retK_ap, rtR_some, aRetN_ap, aKill_ap, List.foldl_cons, List.foldl_nil, sb_okN, bd_okN, mapR_some, aC_ap, aXT_ap, aVar_ap, varK_d, varK_x, varK_w, varK_p, varK_k, aOp_ap, opK_ap, opK2_ap, aFz_ap, aUn_ap, aB_ap, bK_ap, aAnd_ap, andK_t, andK_f, aOr_ap, orK_t, orK_f, aNot_ap, notK_ap, aTru_ap, truK_ap, aYes_ap, aAndV_ap, andVK_t, andVK_f, aOrV_ap, orVK_t, orVK_f, aNotV_ap, notVK_ap, aIf_ap, ifEK_t, ifEK_f, aNil_ap, aCons_ap, consK_ap, consK2_ap, aCB_ap, cbK_ap, aNoPart_ap, aPart_ap, partK_ap, aSl_ap, slK_ap, slK2_ap, slK3_ap, aBM_ap, bmK_ap, bmK2_ap, aBM0_ap, bmK0_ap, aPut_ap, putK_ap, putK1_ap, putK2_ap, aFor_ap, forK_n, aRng1_ap, aRng2_ap, aIt_ap, itK_l, itK_t, itK_s, itK_x, itK_c, itK_f, aCallG_ap, List.getElem?_cons_zero, List.getElem?_cons_succ, List.set_cons_zero, List.set_cons_succ, List.length_cons, List.length_nil, Nat.zero_add, Nat.reduceAdd, Option.map_some, Option.map_none, Option.bind_some, Option.bind_none, List.map_cons, List.map_nil, aName, aNameF, fz, rtv, wAt, toM, vw, frz_lst, frz_d, lvs_map, oIx2_var, ixV_w, ixV_p, ixV_k, ixL_some, lfAt_nat, lf_d, oIx2_l, oIx2_t, Y.atI_nat, putF_var, putV_w, putV_p, oEq_int, oNe_int, oLtA_int, oIntA_int, oIntA_bool, oLenV_l, oLenV_t, oI0_ap, oB0_ap, oAdd_int, rNeg, lfAt_0, stL_0, Y.atI_0, lfAt_1, stL_1, Y.atI_1, lfAt_2, stL_2, Y.atI_2, lfAt_3, stL_3, Y.atI_3, lfAt_4, stL_4, Y.atI_4, lfAt_5, stL_5, Y.atI_5, lfAt_6, stL_6, Y.atI_6, lfAt_7, stL_7, Y.atI_7, Nat.reduceLeDiff, Int.reduceLT, Int.reduceLE, List.cons_append, List.nil_append, decide_true, decide_false, if_true, if_false, sizeLine_eq, aLc_ap, Bool.false_eq_true, oIn2_s, small_iff, g, Bool.not_true]
      | false =>
        rw [g, Bool.false_or] at sc
        simp only [aSeq_ap, seqK_nx, seqK_rt, seqK_bk, seqK_ct, seqK_none, aNext_ap, aBrk_ap, aCont_ap, aAsg_ap, asgK_ap, nxR_some, aDrop_ap, dropK_ap, aIfS_ap, ifK_t, ifK_f, aRet_ap, retK_ap, rtR_some, aRetN_ap, aKill_ap, List.foldl_cons, List.foldl_nil, sb_okN, bd_okN, mapR_some, aC_ap, aXT_ap, aVar_ap, varK_d, varK_x, varK_w, varK_p, varK_k, aOp_ap, opK_ap, opK2_ap, aFz_ap, aUn_ap, aB_ap, bK_ap, aAnd_ap, andK_t, andK_f, aOr_ap, orK_t, orK_f, aNot_ap, notK_ap, aTru_ap, truK_ap, aYes_ap, aAndV_ap, andVK_t, andVK_f, aOrV_ap, orVK_t, orVK_f, aNotV_ap, notVK_ap, aIf_ap, ifEK_t, ifEK_f, aNil_ap, aCons_ap, consK_ap, consK2_ap, aCB_ap, cbK_ap, aNoPart_ap, aPart_ap, partK_ap, aSl_ap, slK_ap, slK2_ap, slK3_ap, aBM_ap, bmK_ap, bmK2_ap, aBM0_ap, bmK0_ap, aPut_ap, putK_ap, putK1_ap, putK2_ap, aFor_ap, forK_n, aRng1_ap, aRng2_ap, aIt_ap, itK_l, itK_t, itK_s, itK_x, itK_c, itK_f, aCallG_ap, List.getElem?_cons_zero, List.getElem?_cons_succ, List.set_cons_zero, List.set_cons_succ, List.length_cons, List.length_nil, Nat.zero_add, Nat.reduceAdd, Option.map_some, Option.map_none, Option.bind_some, Option.bind_none, List.map_cons, List.map_nil, aName, aNameF, fz, rtv, wAt, toM, vw, frz_lst, frz_d, lvs_map, oIx2_var, ixV_w, ixV_p, ixV_k, ixL_some, lfAt_nat, lf_d, oIx2_l, oIx2_t, Y.atI_nat, putF_var, putV_w, putV_p, oEq_int, oNe_int, oLtA_int, oIntA_int, oIntA_bool, oLenV_l, oLenV_t, oI0_ap, oB0_ap, oAdd_int, rNeg, lfAt_0, stL_0, Y.atI_0, lfAt_1, stL_1, Y.atI_1, lfAt_2, stL_2, Y.atI_2, lfAt_3, stL_3, Y.atI_3, lfAt_4, stL_4, Y.atI_4, lfAt_5, stL_5, Y.atI_5, lfAt_6, stL_6, Y.atI_6, lfAt_7, stL_7, Y.atI_7, Nat.reduceLeDiff, Int.reduceLT, Int.reduceLE, List.cons_append, List.nil_append, decide_true, decide_false, if_true, if_false, sizeLine_eq, aLc_ap, Bool.false_eq_true, oIn2_s, small_iff, g, Bool.not_false, digits_iff, sc, Bool.not_true])]
    have ef : (List.map MV.d (List.filter (fun x => false) (List.map (fun c => PyData.str (mk [c])) w))) = [] := by
      rw [List.filter_eq_nil_iff.mpr fun _ _ => Bool.false_ne_true]
      rfl
    simp only [aSeq_ap, seqK_nx, seqK_rt, seqK_bk, seqK_ct, seqK_none, aNext_ap, aBrk_ap, aCont_ap, aAsg_ap, asgK_ap, nxR_some, aDrop_ap, dropK_ap, aIfS_ap, ifK_t, ifK_f, aRet_ap, retK_ap, rtR_some, aRetN_ap, aKill_ap, List.foldl_cons, List.foldl_nil, sb_okN, bd_okN, mapR_some, aC_ap, aXT_ap, aVar_ap, varK_d, varK_x, varK_w, varK_p, varK_k, aOp_ap, opK_ap, opK2_ap, aFz_ap, aUn_ap, aB_ap, bK_ap, aAnd_ap, andK_t, andK_f, aOr_ap, orK_t, orK_f, aNot_ap, notK_ap, aTru_ap, truK_ap, aYes_ap, aAndV_ap, andVK_t, andVK_f, aOrV_ap, orVK_t, orVK_f, aNotV_ap, notVK_ap, aIf_ap, ifEK_t, ifEK_f, aNil_ap, aCons_ap, consK_ap, consK2_ap, aCB_ap, cbK_ap, aNoPart_ap, aPart_ap, partK_ap, aSl_ap, slK_ap, slK2_ap, slK3_ap, aBM_ap, bmK_ap, bmK2_ap, aBM0_ap, bmK0_ap, aPut_ap, putK_ap, putK1_ap, putK2_ap, aFor_ap, forK_n, aRng1_ap, aRng2_ap, aIt_ap, itK_l, itK_t, itK_s, itK_x, itK_c, itK_f, aCallG_ap, List.getElem?_cons_zero, List.getElem?_cons_succ, List.set_cons_zero, List.set_cons_succ, List.length_cons, List.length_nil, Nat.zero_add, Nat.reduceAdd, Option.map_some, Option.map_none, Option.bind_some, Option.bind_none, List.map_cons, List.map_nil, aName, aNameF, fz, rtv, wAt, toM, vw, frz_lst, frz_d, lvs_map, oIx2_var, ixV_w, ixV_p, ixV_k, ixL_some, lfAt_nat, lf_d, oIx2_l, oIx2_t, Y.atI_nat, putF_var, putV_w, putV_p, oEq_int, oNe_int, oLtA_int, oIntA_int, oIntA_bool, oLenV_l, oLenV_t, oI0_ap, oB0_ap, oAdd_int, rNeg, lfAt_0, stL_0, Y.atI_0, lfAt_1, stL_1, Y.atI_1, lfAt_2, stL_2, Y.atI_2, lfAt_3, stL_3, Y.atI_3, lfAt_4, stL_4, Y.atI_4, lfAt_5, stL_5, Y.atI_5, lfAt_6, stL_6, Y.atI_6, lfAt_7, stL_7, Y.atI_7, Nat.reduceLeDiff, Int.reduceLT, Int.reduceLE, List.cons_append, List.nil_append, decide_true, decide_false, if_true, if_false, sizeLine_eq, aLc_ap, Bool.false_eq_true, ef, oLst_nil, en]
  have hs : start0 2 [.d (strD w)] = [some (.d (strD w)), none] := rfl
  unfold den_is_name_form Y.run
  rw [hs, hb]
  rfl
theorem wordsC_tl : c_WORDS_s.map tl = wordsL := by decide +kernel
theorem rd_run_token {w : List Nat} {n : Nat} (hw : RunW w) : den_run_token [.d (strD w), .d (.int (n : Nat))] = some (.ok (.d (tokD (w, n))) [none, none]) := by
  have hin : ∀ s : SL, oIn2 false s (.d (strD w)) (.c c_WORDS) = some (.d (.bool (wordsL.contains w)), s) := fun s => by
    have := oIn2_c (s := s) (neg := false) (x := mk w) (l := c_WORDS_s)
    rw [wordsC_tl] at this
    exact this
  have nm : marksL.contains w = false := by
    cases g : marksL.contains w with
    | false => rfl
    | true => exact absurd (List.contains_iff_mem.mp g) (run_mark hw)
  have hb : b_run_token [some (.d (strD w)), some (.d (.int (n : Nat)))] = some (.rt (.d (tokD (w, n))) [some (.d (strD w)), some (.d (.int (n : Nat)))]) := by
    unfold b_run_token
    cases g : wordsL.contains w with
    | true =>
      have ek : PyData.tuple [.str "word", strD w, .int (n : Nat)] = tokD (w, n) := by unfold tokD kindL; rw [if_pos g]
      simp only [aSeq_ap, seqK_nx, seqK_rt, seqK_bk, seqK_ct, seqK_none, aNext_ap, aBrk_ap, aCont_ap, aAsg_ap, asgK_ap, nxR_some, aDrop_ap, dropK_ap, aIfS_ap, ifK_t, ifK_f, aRet_ap, retK_ap, rtR_some, aRetN_ap, aKill_ap, List.foldl_cons, List.foldl_nil, sb_okN, bd_okN, mapR_some, aC_ap, aXT_ap, aVar_ap, varK_d, varK_x, varK_w, varK_p, varK_k, aOp_ap, opK_ap, opK2_ap, aFz_ap, aUn_ap, aB_ap, bK_ap, aAnd_ap, andK_t, andK_f, aOr_ap, orK_t, orK_f, aNot_ap, notK_ap, aTru_ap, truK_ap, aYes_ap, aAndV_ap, andVK_t, andVK_f, aOrV_ap, orVK_t, orVK_f, aNotV_ap, notVK_ap, aIf_ap, ifEK_t, ifEK_f, aNil_ap, aCons_ap, consK_ap, consK2_ap, aCB_ap, cbK_ap, aNoPart_ap, aPart_ap, partK_ap, aSl_ap, slK_ap, slK2_ap, slK3_ap, aBM_ap, bmK_ap, bmK2_ap, aBM0_ap, bmK0_ap, aPut_ap, putK_ap, putK1_ap, putK2_ap, aFor_ap, forK_n, aRng1_ap, aRng2_ap, aIt_ap, itK_l, itK_t, itK_s, itK_x, itK_c, itK_f, aCallG_ap, List.getElem?_cons_zero, List.getElem?_cons_succ, List.set_cons_zero, List.set_cons_succ, List.length_cons, List.length_nil, Nat.zero_add, Nat.reduceAdd, Option.map_some, Option.map_none, Option.bind_some, Option.bind_none, List.map_cons, List.map_nil, aName, aNameF, fz, rtv, wAt, toM, vw, frz_lst, frz_d, lvs_map, oIx2_var, ixV_w, ixV_p, ixV_k, ixL_some, lfAt_nat, lf_d, oIx2_l, oIx2_t, Y.atI_nat, putF_var, putV_w, putV_p, oEq_int, oNe_int, oLtA_int, oIntA_int, oIntA_bool, oLenV_l, oLenV_t, oI0_ap, oB0_ap, oAdd_int, rNeg, lfAt_0, stL_0, Y.atI_0, lfAt_1, stL_1, Y.atI_1, lfAt_2, stL_2, Y.atI_2, lfAt_3, stL_3, Y.atI_3, lfAt_4, stL_4, Y.atI_4, lfAt_5, stL_5, Y.atI_5, lfAt_6, stL_6, Y.atI_6, lfAt_7, stL_7, Y.atI_7, Nat.reduceLeDiff, Int.reduceLT, Int.reduceLE, List.cons_append, List.nil_append, decide_true, decide_false, if_true, if_false, sizeLine_eq, aLc_ap, Bool.false_eq_true, call_f1 (rd_is_name_form hw), Bool.not_true, hin, g, oTup_3, ek]
    | false =>
      have ek : PyData.tuple [.str "name", strD w, .int (n : Nat)] = tokD (w, n) := by unfold tokD kindL; rw [if_neg (by rw [g]; decide), if_neg (by rw [nm]; decide)]
      simp only [aSeq_ap, seqK_nx, seqK_rt, seqK_bk, seqK_ct, seqK_none, aNext_ap, aBrk_ap, aCont_ap, aAsg_ap, asgK_ap, nxR_some, aDrop_ap, dropK_ap, aIfS_ap, ifK_t, ifK_f, aRet_ap, retK_ap, rtR_some, aRetN_ap, aKill_ap, List.foldl_cons, List.foldl_nil, sb_okN, bd_okN, mapR_some, aC_ap, aXT_ap, aVar_ap, varK_d, varK_x, varK_w, varK_p, varK_k, aOp_ap, opK_ap, opK2_ap, aFz_ap, aUn_ap, aB_ap, bK_ap, aAnd_ap, andK_t, andK_f, aOr_ap, orK_t, orK_f, aNot_ap, notK_ap, aTru_ap, truK_ap, aYes_ap, aAndV_ap, andVK_t, andVK_f, aOrV_ap, orVK_t, orVK_f, aNotV_ap, notVK_ap, aIf_ap, ifEK_t, ifEK_f, aNil_ap, aCons_ap, consK_ap, consK2_ap, aCB_ap, cbK_ap, aNoPart_ap, aPart_ap, partK_ap, aSl_ap, slK_ap, slK2_ap, slK3_ap, aBM_ap, bmK_ap, bmK2_ap, aBM0_ap, bmK0_ap, aPut_ap, putK_ap, putK1_ap, putK2_ap, aFor_ap, forK_n, aRng1_ap, aRng2_ap, aIt_ap, itK_l, itK_t, itK_s, itK_x, itK_c, itK_f, aCallG_ap, List.getElem?_cons_zero, List.getElem?_cons_succ, List.set_cons_zero, List.set_cons_succ, List.length_cons, List.length_nil, Nat.zero_add, Nat.reduceAdd, Option.map_some, Option.map_none, Option.bind_some, Option.bind_none, List.map_cons, List.map_nil, aName, aNameF, fz, rtv, wAt, toM, vw, frz_lst, frz_d, lvs_map, oIx2_var, ixV_w, ixV_p, ixV_k, ixL_some, lfAt_nat, lf_d, oIx2_l, oIx2_t, Y.atI_nat, putF_var, putV_w, putV_p, oEq_int, oNe_int, oLtA_int, oIntA_int, oIntA_bool, oLenV_l, oLenV_t, oI0_ap, oB0_ap, oAdd_int, rNeg, lfAt_0, stL_0, Y.atI_0, lfAt_1, stL_1, Y.atI_1, lfAt_2, stL_2, Y.atI_2, lfAt_3, stL_3, Y.atI_3, lfAt_4, stL_4, Y.atI_4, lfAt_5, stL_5, Y.atI_5, lfAt_6, stL_6, Y.atI_6, lfAt_7, stL_7, Y.atI_7, Nat.reduceLeDiff, Int.reduceLT, Int.reduceLE, List.cons_append, List.nil_append, decide_true, decide_false, if_true, if_false, sizeLine_eq, aLc_ap, Bool.false_eq_true, call_f1 (rd_is_name_form hw), Bool.not_true, hin, g, oTup_3, ek]
  have hs : start0 2 [.d (strD w), .d (.int (n : Nat))] = [some (.d (strD w)), some (.d (.int (n : Nat)))] := rfl
  unfold den_run_token Y.run
  rw [hs, hb]
  rfl

end Lw

namespace Lw
open PySem PySem.Spec PyProof.Rows L2 Y PySem.W TL
/-! ### run_end -/
def condE : AT := aAnd (aB (aOp oLtA (aVar 2) (aCB (vA oLenA) (aCons (aVar 0) aNil)))) (aOr (aB (aOp (oIn2 false) (aOp oIx2 (aVar 0) (aVar 2)) (aC (.str c_SMALL)))) (aB (aOp (oIn2 false) (aOp oIx2 (aVar 0) (aVar 2)) (aC (.str c_DIGITS)))))
theorem condE_rd {l : List Nat} {a i : Nat} (hl : l.length ≤ 10000) : condE [some (.d (strD l)), some (.d (.int (a : Nat))), some (.d (.int (i : Nat)))] = some (.ok (match l[i]? with
    | some c => sgN c
    | none => false) [some (.d (strD l)), some (.d (.int (a : Nat))), some (.d (.int (i : Nat)))]) := by
  have hl2 : l.length ≤ 16777216 := by omega
  have z1 : (mk l).length ≤ sizeLine := by rw [sizeLine_eq, len_tl]; exact hl2
  unfold condE
  by_cases h : i < l.length
  · have d1 : decide (((i : Nat) : Int) < ((l.length : Nat) : Int)) = true := decide_eq_true (by omega)
    have e := List.getElem?_eq_getElem h
    have i0 : ∀ s : SL, oIx2 s (.d (.str (mk l))) (.d (.int (i : Nat))) = some (.d (.str (mk [l[i]])), s) := fun s => oIx2_mk z1 (by omega) (by rw [Int.toNat_natCast]; exact e)
    rw [e]
    dsimp only
    rw [← sgN_or]
    cases g : lowB l[i] with
    | true => simp only [aSeq_ap, seqK_nx, seqK_rt, seqK_bk, seqK_ct, seqK_none, aNext_ap, aBrk_ap, aCont_ap, aAsg_ap, asgK_ap, nxR_some, aDrop_ap, dropK_ap, aIfS_ap, ifK_t, ifK_f, aRet_ap, retK_ap, rtR_some, aRetN_ap, aKill_ap, List.foldl_cons, List.foldl_nil, sb_okN, bd_okN, mapR_some, aC_ap, aXT_ap, aVar_ap, varK_d, varK_x, varK_w, varK_p, varK_k, aOp_ap, opK_ap, opK2_ap, aFz_ap, aUn_ap, aB_ap, bK_ap, aAnd_ap, andK_t, andK_f, aOr_ap, orK_t, orK_f, aNot_ap, notK_ap, aTru_ap, truK_ap, aYes_ap, aAndV_ap, andVK_t, andVK_f, aOrV_ap, orVK_t, orVK_f, aNotV_ap, notVK_ap, aIf_ap, ifEK_t, ifEK_f, aNil_ap, aCons_ap, consK_ap, consK2_ap, aCB_ap, cbK_ap, aNoPart_ap, aPart_ap, partK_ap, aSl_ap, slK_ap, slK2_ap, slK3_ap, aBM_ap, bmK_ap, bmK2_ap, aBM0_ap, bmK0_ap, aPut_ap, putK_ap, putK1_ap, putK2_ap, aFor_ap, forK_n, aRng1_ap, aRng2_ap, aIt_ap, itK_l, itK_t, itK_s, itK_x, itK_c, itK_f, aCallG_ap, List.getElem?_cons_zero, List.getElem?_cons_succ, List.set_cons_zero, List.set_cons_succ, List.length_cons, List.length_nil, Nat.zero_add, Nat.reduceAdd, Option.map_some, Option.map_none, Option.bind_some, Option.bind_none, List.map_cons, List.map_nil, aName, aNameF, fz, rtv, wAt, toM, vw, frz_lst, frz_d, lvs_map, oIx2_var, ixV_w, ixV_p, ixV_k, ixL_some, lfAt_nat, lf_d, oIx2_l, oIx2_t, Y.atI_nat, putF_var, putV_w, putV_p, oEq_int, oNe_int, oLtA_int, oIntA_int, oIntA_bool, oLenV_l, oLenV_t, oI0_ap, oB0_ap, oAdd_int, rNeg, lfAt_0, stL_0, Y.atI_0, lfAt_1, stL_1, Y.atI_1, lfAt_2, stL_2, Y.atI_2, lfAt_3, stL_3, Y.atI_3, lfAt_4, stL_4, Y.atI_4, lfAt_5, stL_5, Y.atI_5, lfAt_6, stL_6, Y.atI_6, lfAt_7, stL_7, Y.atI_7, Nat.reduceLeDiff, Int.reduceLT, Int.reduceLE, List.cons_append, List.nil_append, decide_true, decide_false, if_true, if_false, sizeLine_eq, aLc_ap, Bool.false_eq_true, oLenV_s hl2, d1, i0, oIn2_s, small_iff, g, Bool.true_or]
    | false => simp only [aSeq_ap, seqK_nx, seqK_rt, seqK_bk, seqK_ct, seqK_none, aNext_ap, aBrk_ap, aCont_ap, aAsg_ap, asgK_ap, nxR_some, aDrop_ap, dropK_ap, aIfS_ap, ifK_t, ifK_f, aRet_ap, retK_ap, rtR_some, aRetN_ap, aKill_ap, List.foldl_cons, List.foldl_nil, sb_okN, bd_okN, mapR_some, aC_ap, aXT_ap, aVar_ap, varK_d, varK_x, varK_w, varK_p, varK_k, aOp_ap, opK_ap, opK2_ap, aFz_ap, aUn_ap, aB_ap, bK_ap, aAnd_ap, andK_t, andK_f, aOr_ap, orK_t, orK_f, aNot_ap, notK_ap, aTru_ap, truK_ap, aYes_ap, aAndV_ap, andVK_t, andVK_f, aOrV_ap, orVK_t, orVK_f, aNotV_ap, notVK_ap, aIf_ap, ifEK_t, ifEK_f, aNil_ap, aCons_ap, consK_ap, consK2_ap, aCB_ap, cbK_ap, aNoPart_ap, aPart_ap, partK_ap, aSl_ap, slK_ap, slK2_ap, slK3_ap, aBM_ap, bmK_ap, bmK2_ap, aBM0_ap, bmK0_ap, aPut_ap, putK_ap, putK1_ap, putK2_ap, aFor_ap, forK_n, aRng1_ap, aRng2_ap, aIt_ap, itK_l, itK_t, itK_s, itK_x, itK_c, itK_f, aCallG_ap, List.getElem?_cons_zero, List.getElem?_cons_succ, List.set_cons_zero, List.set_cons_succ, List.length_cons, List.length_nil, Nat.zero_add, Nat.reduceAdd, Option.map_some, Option.map_none, Option.bind_some, Option.bind_none, List.map_cons, List.map_nil, aName, aNameF, fz, rtv, wAt, toM, vw, frz_lst, frz_d, lvs_map, oIx2_var, ixV_w, ixV_p, ixV_k, ixL_some, lfAt_nat, lf_d, oIx2_l, oIx2_t, Y.atI_nat, putF_var, putV_w, putV_p, oEq_int, oNe_int, oLtA_int, oIntA_int, oIntA_bool, oLenV_l, oLenV_t, oI0_ap, oB0_ap, oAdd_int, rNeg, lfAt_0, stL_0, Y.atI_0, lfAt_1, stL_1, Y.atI_1, lfAt_2, stL_2, Y.atI_2, lfAt_3, stL_3, Y.atI_3, lfAt_4, stL_4, Y.atI_4, lfAt_5, stL_5, Y.atI_5, lfAt_6, stL_6, Y.atI_6, lfAt_7, stL_7, Y.atI_7, Nat.reduceLeDiff, Int.reduceLT, Int.reduceLE, List.cons_append, List.nil_append, decide_true, decide_false, if_true, if_false, sizeLine_eq, aLc_ap, Bool.false_eq_true, oLenV_s hl2, d1, i0, oIn2_s, small_iff, g, Bool.false_or, digits_iff]
  · have d1 : decide (((i : Nat) : Int) < ((l.length : Nat) : Int)) = false := decide_eq_false (by omega)
    rw [List.getElem?_eq_none (by omega)]
    simp only [aSeq_ap, seqK_nx, seqK_rt, seqK_bk, seqK_ct, seqK_none, aNext_ap, aBrk_ap, aCont_ap, aAsg_ap, asgK_ap, nxR_some, aDrop_ap, dropK_ap, aIfS_ap, ifK_t, ifK_f, aRet_ap, retK_ap, rtR_some, aRetN_ap, aKill_ap, List.foldl_cons, List.foldl_nil, sb_okN, bd_okN, mapR_some, aC_ap, aXT_ap, aVar_ap, varK_d, varK_x, varK_w, varK_p, varK_k, aOp_ap, opK_ap, opK2_ap, aFz_ap, aUn_ap, aB_ap, bK_ap, aAnd_ap, andK_t, andK_f, aOr_ap, orK_t, orK_f, aNot_ap, notK_ap, aTru_ap, truK_ap, aYes_ap, aAndV_ap, andVK_t, andVK_f, aOrV_ap, orVK_t, orVK_f, aNotV_ap, notVK_ap, aIf_ap, ifEK_t, ifEK_f, aNil_ap, aCons_ap, consK_ap, consK2_ap, aCB_ap, cbK_ap, aNoPart_ap, aPart_ap, partK_ap, aSl_ap, slK_ap, slK2_ap, slK3_ap, aBM_ap, bmK_ap, bmK2_ap, aBM0_ap, bmK0_ap, aPut_ap, putK_ap, putK1_ap, putK2_ap, aFor_ap, forK_n, aRng1_ap, aRng2_ap, aIt_ap, itK_l, itK_t, itK_s, itK_x, itK_c, itK_f, aCallG_ap, List.getElem?_cons_zero, List.getElem?_cons_succ, List.set_cons_zero, List.set_cons_succ, List.length_cons, List.length_nil, Nat.zero_add, Nat.reduceAdd, Option.map_some, Option.map_none, Option.bind_some, Option.bind_none, List.map_cons, List.map_nil, aName, aNameF, fz, rtv, wAt, toM, vw, frz_lst, frz_d, lvs_map, oIx2_var, ixV_w, ixV_p, ixV_k, ixL_some, lfAt_nat, lf_d, oIx2_l, oIx2_t, Y.atI_nat, putF_var, putV_w, putV_p, oEq_int, oNe_int, oLtA_int, oIntA_int, oIntA_bool, oLenV_l, oLenV_t, oI0_ap, oB0_ap, oAdd_int, rNeg, lfAt_0, stL_0, Y.atI_0, lfAt_1, stL_1, Y.atI_1, lfAt_2, stL_2, Y.atI_2, lfAt_3, stL_3, Y.atI_3, lfAt_4, stL_4, Y.atI_4, lfAt_5, stL_5, Y.atI_5, lfAt_6, stL_6, Y.atI_6, lfAt_7, stL_7, Y.atI_7, Nat.reduceLeDiff, Int.reduceLT, Int.reduceLE, List.cons_append, List.nil_append, decide_true, decide_false, if_true, if_false, sizeLine_eq, aLc_ap, Bool.false_eq_true, oLenV_s hl2, d1]
theorem rd_run_end {l w b : List Nat} {a : Nat} (e : l.drop a = w ++ b) (ha : a ≤ l.length) (hl : l.length ≤ 10000) (hw : ∀ x ∈ w, sgN x = true) (hb : ∀ x, b[0]? = some x → sgN x = false) : den_run_end [.d (strD l), .d (.int (a : Nat))] = some (.ok (.d (.int ((a + w.length : Nat) : Int))) [none, none]) := by
  have at' : ∀ i, l[a + i]? = (w ++ b)[i]? := fun i => by rw [← e, List.getElem?_drop]
  obtain ⟨s', ew, hs⟩ := aWhile_inv (C := condE) (S := f_run_end_0) (fun n s => ∃ i, i ≤ w.length ∧ n = w.length - i ∧ s = [some (.d (strD l)), some (.d (.int (a : Nat))), some (.d (.int ((a + i : Nat) : Int)))]) (fun s => s = [some (.d (strD l)), some (.d (.int (a : Nat))), some (.d (.int ((a + w.length : Nat) : Int)))]) (fun n s hp => by
    obtain ⟨i, hi, rfl, rfl⟩ := hp
    have hc := condE_rd (l := l) (a := a) (i := a + i) hl
    rw [at'] at hc
    by_cases h : i < w.length
    · have ei : (w ++ b)[i]? = some w[i] := by rw [List.getElem?_append_left h, List.getElem?_eq_getElem h]
      rw [ei] at hc
      dsimp only at hc
      rw [hw _ (List.getElem_mem h)] at hc
      refine .inr ⟨_, [some (.d (strD l)), some (.d (.int (a : Nat))), some (.d (.int ((a + (i + 1) : Nat) : Int)))], hc, .inl ?_, w.length - (i + 1), by omega, i + 1, h, rfl, rfl⟩
      unfold f_run_end_0
      rw [aug_add (a := ((a + i : Nat) : Int)) rfl]
      rfl
    · have : i = w.length := by omega
      subst this
      have ei : (w ++ b)[w.length]? = b[0]? := by rw [List.getElem?_append_right (Nat.le_refl _), Nat.sub_self]
      rw [ei] at hc
      refine .inl ⟨_, ?_, rfl⟩
      cases g : b[0]? with
      | none => rw [g] at hc; exact hc
      | some x =>
        rw [g] at hc
        dsimp only at hc
        rw [hb x g] at hc
        exact hc) (n := w.length) (s := [some (.d (strD l)), some (.d (.int (a : Nat))), some (.d (.int (a : Nat)))]) ⟨0, Nat.zero_le _, rfl, rfl⟩
  subst hs
  unfold condE at ew
  have hb : b_run_end [some (.d (strD l)), some (.d (.int (a : Nat))), none] = some (.rt (.d (.int ((a + w.length : Nat) : Int))) [some (.d (strD l)), some (.d (.int (a : Nat))), some (.d (.int ((a + w.length : Nat) : Int)))]) := by
    unfold b_run_end
    simp only [aSeq_ap, seqK_nx, seqK_rt, seqK_bk, seqK_ct, seqK_none, aNext_ap, aBrk_ap, aCont_ap, aAsg_ap, asgK_ap, nxR_some, aDrop_ap, dropK_ap, aIfS_ap, ifK_t, ifK_f, aRet_ap, retK_ap, rtR_some, aRetN_ap, aKill_ap, List.foldl_cons, List.foldl_nil, sb_okN, bd_okN, mapR_some, aC_ap, aXT_ap, aVar_ap, varK_d, varK_x, varK_w, varK_p, varK_k, aOp_ap, opK_ap, opK2_ap, aFz_ap, aUn_ap, aB_ap, bK_ap, aAnd_ap, andK_t, andK_f, aOr_ap, orK_t, orK_f, aNot_ap, notK_ap, aTru_ap, truK_ap, aYes_ap, aAndV_ap, andVK_t, andVK_f, aOrV_ap, orVK_t, orVK_f, aNotV_ap, notVK_ap, aIf_ap, ifEK_t, ifEK_f, aNil_ap, aCons_ap, consK_ap, consK2_ap, aCB_ap, cbK_ap, aNoPart_ap, aPart_ap, partK_ap, aSl_ap, slK_ap, slK2_ap, slK3_ap, aBM_ap, bmK_ap, bmK2_ap, aBM0_ap, bmK0_ap, aPut_ap, putK_ap, putK1_ap, putK2_ap, aFor_ap, forK_n, aRng1_ap, aRng2_ap, aIt_ap, itK_l, itK_t, itK_s, itK_x, itK_c, itK_f, aCallG_ap, List.getElem?_cons_zero, List.getElem?_cons_succ, List.set_cons_zero, List.set_cons_succ, List.length_cons, List.length_nil, Nat.zero_add, Nat.reduceAdd, Option.map_some, Option.map_none, Option.bind_some, Option.bind_none, List.map_cons, List.map_nil, aName, aNameF, fz, rtv, wAt, toM, vw, frz_lst, frz_d, lvs_map, oIx2_var, ixV_w, ixV_p, ixV_k, ixL_some, lfAt_nat, lf_d, oIx2_l, oIx2_t, Y.atI_nat, putF_var, putV_w, putV_p, oEq_int, oNe_int, oLtA_int, oIntA_int, oIntA_bool, oLenV_l, oLenV_t, oI0_ap, oB0_ap, oAdd_int, rNeg, lfAt_0, stL_0, Y.atI_0, lfAt_1, stL_1, Y.atI_1, lfAt_2, stL_2, Y.atI_2, lfAt_3, stL_3, Y.atI_3, lfAt_4, stL_4, Y.atI_4, lfAt_5, stL_5, Y.atI_5, lfAt_6, stL_6, Y.atI_6, lfAt_7, stL_7, Y.atI_7, Nat.reduceLeDiff, Int.reduceLT, Int.reduceLE, List.cons_append, List.nil_append, decide_true, decide_false, if_true, if_false, sizeLine_eq, aLc_ap, Bool.false_eq_true, ew]
  have hs : start0 3 [.d (strD l), .d (.int (a : Nat))] = [some (.d (strD l)), some (.d (.int (a : Nat))), none] := rfl
  unfold den_run_end Y.run
  rw [hs, hb]
  rfl
/-! ### tokenize -/
theorem items_weak : ∀ {p : Option (List Nat)} {is : Items}, ItemsOk p is → ItemsOk none is
  | _, [], _ => trivial
  | _, i :: r, h => ⟨⟨h.1.1, h.1.2.1, h.1.2.2.1, fun _ z => by cases z⟩, h.2⟩
theorem blk_not {x : Nat} (h : blk x = true) : sgN x = false := by
  unfold blk at h
  simp only [Bool.or_eq_true, beq_iff_eq] at h
  rcases h with rfl | rfl <;> rfl
theorem stop_head {w : List Nat} {r : Items} {b : List Nat} (hw : RunW w) (h : ItemsOk (some w) r) (hb : ∀ x ∈ b, blk x = true) : ∀ x, (outT r ++ b)[0]? = some x → sgN x = false := fun x hx => by
  cases r with
  | nil => exact blk_not (hb x (List.mem_of_getElem? hx))
  | cons it r =>
    obtain ⟨⟨h1, h2, h3, h4⟩, _⟩ := h
    rw [outT_cons, List.append_assoc, List.append_assoc] at hx
    by_cases hc : it.1 = []
    · rw [hc, List.nil_append] at hx
      have hr : ¬ RunW it.2 := fun g => h4 w rfl hw g hc
      have hm : it.2 ∈ marksL := h2.resolve_left hr
      obtain ⟨c, e1, e2⟩ := head_mem (tok_ne h2)
      rw [List.getElem?_append_left (List.length_pos_iff.mpr (tok_ne h2)), e1] at hx
      cases hx
      have : ∀ w ∈ marksL, ∀ x ∈ w, sgN x = false := by decide
      exact this _ hm _ e2
    · rw [List.getElem?_append_left (List.length_pos_iff.mpr hc)] at hx
      exact blk_not (h1 x (List.mem_of_getElem? hx))
theorem oSl_mid {s : SL} {l : List Nat} {a n : Nat} (h : l.length ≤ 16777216) : oSl s (.d (.str (mk l))) (some ((a : Nat) : Int)) (some ((a + n : Nat) : Int)) = some (.d (.str (mk ((l.drop a).take n))), s) := by
  have e2 : cutS (mk l) (some ((a : Nat) : Int)) (some ((a + n : Nat) : Int)) = mk ((l.drop a).take n) := ext_tl (by
    unfold cutS
    rw [HT.sIx_nat, HT.sIx_nat]
    show (l.drop (min a (mk l).length)).take (min (a + n) (mk l).length - min a (mk l).length) = (l.drop a).take n
    rw [len_tl]
    show (l.drop (min a l.length)).take (min (a + n) l.length - min a l.length) = (l.drop a).take n
    by_cases h1 : a ≤ l.length
    · rw [Nat.min_eq_left h1]
      by_cases h2 : a + n ≤ l.length
      · rw [Nat.min_eq_left h2]
        congr 1
        omega
      · rw [Nat.min_eq_right (by omega), List.take_of_length_le (by rw [List.length_drop]; omega), List.take_of_length_le (by rw [List.length_drop]; omega)]
    · rw [show min a l.length = l.length by omega, List.drop_eq_nil_of_le (Nat.le_refl _), List.drop_eq_nil_of_le (show l.length ≤ a by omega), List.take_nil, List.take_nil])
  rw [← e2]
  exact if_pos (by rw [sizeLine_eq, len_tl]; exact h)
theorem space_mk : (" " : Str) = mk [32] := ext_tl (by decide +kernel)
theorem nl_mk : ("\n" : Str) = mk [10] := ext_tl (by decide +kernel)
theorem arrow_mk : ("->" : Str) = mk [45, 62] := ext_tl (by decide +kernel)
theorem marks_tl : tl c_MARKS = [40, 41, 123, 125, 44, 59, 58, 124] := by decide +kernel
abbrev tokM (ts : List (List Nat × Nat)) : List MV := (ts.map tokD).map MV.d
/-- a blank -/
theorem tk_blank {l : List Nat} {f : List MV} {a x : Nat} (hx : l[a]? = some x) (hb : blk x = true) (hl : l.length ≤ 10000) :
  f_tokenize_3 [some (.d (strD l)), some (.w (.lst f)), some (.d (.int (a : Nat))), none, none] = some (.nx [some (.d (strD l)), some (.w (.lst f)), some (.d (.int ((a + 1 : Nat) : Int))), none, none]) := by
  have z1 : (mk l).length ≤ sizeLine := by rw [sizeLine_eq, len_tl]; show l.length ≤ _; omega
  have i0 : ∀ s : SL, oIx2 s (.d (.str (mk l))) (.d (.int (a : Nat))) = some (.d (.str (mk [x])), s) := fun s => oIx2_mk z1 (by omega) (by rw [Int.toNat_natCast]; exact hx)
  have lx : ∀ c ∈ [x], c < 200 := fun c hc => by rw [List.mem_singleton.mp hc]; exact blk_low hb
  have l32 : ∀ c ∈ [32], c < 200 := by decide
  have l10 : ∀ c ∈ [10], c < 200 := by decide
  have au : aAug 2 (aC (.int 1)) ipAdd [some (.d (strD l)), some (.w (.lst f)), some (.d (.int (a : Nat))), some (.d (.str (mk [x]))), none] = some (.nx [some (.d (strD l)), some (.w (.lst f)), some (.d (.int ((a + 1 : Nat) : Int))), some (.d (.str (mk [x]))), none]) := by
    rw [aug_add (a := ((a : Nat) : Int)) rfl]
    rfl
  unfold f_tokenize_3 i_tokenize_2
  unfold blk at hb
  by_cases h32 : x = 32
  · subst h32
    simp only [aSeq_ap, seqK_nx, seqK_rt, seqK_bk, seqK_ct, seqK_none, aNext_ap, aBrk_ap, aCont_ap, aAsg_ap, asgK_ap, nxR_some, aDrop_ap, dropK_ap, aIfS_ap, ifK_t, ifK_f, aRet_ap, retK_ap, rtR_some, aRetN_ap, aKill_ap, List.foldl_cons, List.foldl_nil, sb_okN, bd_okN, mapR_some, aC_ap, aXT_ap, aVar_ap, varK_d, varK_x, varK_w, varK_p, varK_k, aOp_ap, opK_ap, opK2_ap, aFz_ap, aUn_ap, aB_ap, bK_ap, aAnd_ap, andK_t, andK_f, aOr_ap, orK_t, orK_f, aNot_ap, notK_ap, aTru_ap, truK_ap, aYes_ap, aAndV_ap, andVK_t, andVK_f, aOrV_ap, orVK_t, orVK_f, aNotV_ap, notVK_ap, aIf_ap, ifEK_t, ifEK_f, aNil_ap, aCons_ap, consK_ap, consK2_ap, aCB_ap, cbK_ap, aNoPart_ap, aPart_ap, partK_ap, aSl_ap, slK_ap, slK2_ap, slK3_ap, aBM_ap, bmK_ap, bmK2_ap, aBM0_ap, bmK0_ap, aPut_ap, putK_ap, putK1_ap, putK2_ap, aFor_ap, forK_n, aRng1_ap, aRng2_ap, aIt_ap, itK_l, itK_t, itK_s, itK_x, itK_c, itK_f, aCallG_ap, List.getElem?_cons_zero, List.getElem?_cons_succ, List.set_cons_zero, List.set_cons_succ, List.length_cons, List.length_nil, Nat.zero_add, Nat.reduceAdd, Option.map_some, Option.map_none, Option.bind_some, Option.bind_none, List.map_cons, List.map_nil, aName, aNameF, fz, rtv, wAt, toM, vw, frz_lst, frz_d, lvs_map, oIx2_var, ixV_w, ixV_p, ixV_k, ixL_some, lfAt_nat, lf_d, oIx2_l, oIx2_t, Y.atI_nat, putF_var, putV_w, putV_p, oEq_int, oNe_int, oLtA_int, oIntA_int, oIntA_bool, oLenV_l, oLenV_t, oI0_ap, oB0_ap, oAdd_int, rNeg, lfAt_0, stL_0, Y.atI_0, lfAt_1, stL_1, Y.atI_1, lfAt_2, stL_2, Y.atI_2, lfAt_3, stL_3, Y.atI_3, lfAt_4, stL_4, Y.atI_4, lfAt_5, stL_5, Y.atI_5, lfAt_6, stL_6, Y.atI_6, lfAt_7, stL_7, Y.atI_7, Nat.reduceLeDiff, Int.reduceLT, Int.reduceLE, List.cons_append, List.nil_append, decide_true, decide_false, if_true, if_false, sizeLine_eq, aLc_ap, Bool.false_eq_true, i0, space_mk, oEq_str l32 l32, au]
  · have h10 : x = 10 := by simpa [h32] using hb
    subst h10
    have d1 : decide (([10] : List Nat) = [32]) = false := rfl
    simp only [aSeq_ap, seqK_nx, seqK_rt, seqK_bk, seqK_ct, seqK_none, aNext_ap, aBrk_ap, aCont_ap, aAsg_ap, asgK_ap, nxR_some, aDrop_ap, dropK_ap, aIfS_ap, ifK_t, ifK_f, aRet_ap, retK_ap, rtR_some, aRetN_ap, aKill_ap, List.foldl_cons, List.foldl_nil, sb_okN, bd_okN, mapR_some, aC_ap, aXT_ap, aVar_ap, varK_d, varK_x, varK_w, varK_p, varK_k, aOp_ap, opK_ap, opK2_ap, aFz_ap, aUn_ap, aB_ap, bK_ap, aAnd_ap, andK_t, andK_f, aOr_ap, orK_t, orK_f, aNot_ap, notK_ap, aTru_ap, truK_ap, aYes_ap, aAndV_ap, andVK_t, andVK_f, aOrV_ap, orVK_t, orVK_f, aNotV_ap, notVK_ap, aIf_ap, ifEK_t, ifEK_f, aNil_ap, aCons_ap, consK_ap, consK2_ap, aCB_ap, cbK_ap, aNoPart_ap, aPart_ap, partK_ap, aSl_ap, slK_ap, slK2_ap, slK3_ap, aBM_ap, bmK_ap, bmK2_ap, aBM0_ap, bmK0_ap, aPut_ap, putK_ap, putK1_ap, putK2_ap, aFor_ap, forK_n, aRng1_ap, aRng2_ap, aIt_ap, itK_l, itK_t, itK_s, itK_x, itK_c, itK_f, aCallG_ap, List.getElem?_cons_zero, List.getElem?_cons_succ, List.set_cons_zero, List.set_cons_succ, List.length_cons, List.length_nil, Nat.zero_add, Nat.reduceAdd, Option.map_some, Option.map_none, Option.bind_some, Option.bind_none, List.map_cons, List.map_nil, aName, aNameF, fz, rtv, wAt, toM, vw, frz_lst, frz_d, lvs_map, oIx2_var, ixV_w, ixV_p, ixV_k, ixL_some, lfAt_nat, lf_d, oIx2_l, oIx2_t, Y.atI_nat, putF_var, putV_w, putV_p, oEq_int, oNe_int, oLtA_int, oIntA_int, oIntA_bool, oLenV_l, oLenV_t, oI0_ap, oB0_ap, oAdd_int, rNeg, lfAt_0, stL_0, Y.atI_0, lfAt_1, stL_1, Y.atI_1, lfAt_2, stL_2, Y.atI_2, lfAt_3, stL_3, Y.atI_3, lfAt_4, stL_4, Y.atI_4, lfAt_5, stL_5, Y.atI_5, lfAt_6, stL_6, Y.atI_6, lfAt_7, stL_7, Y.atI_7, Nat.reduceLeDiff, Int.reduceLT, Int.reduceLE, List.cons_append, List.nil_append, decide_true, decide_false, if_true, if_false, sizeLine_eq, aLc_ap, Bool.false_eq_true, i0, space_mk, nl_mk, oEq_str l10 l32, d1, oEq_str l10 l10, au]
/-- a run -/
theorem tk_run {l w rest : List Nat} {ts : List (List Nat × Nat)} {a : Nat} (e : l.drop a = w ++ rest) (hw : RunW w) (hr : ∀ x, rest[0]? = some x → sgN x = false) (hl : l.length ≤ 10000) (ht : ts.length ≤ 10000) :
  f_tokenize_3 [some (.d (strD l)), some (.w (.lst (tokM ts))), some (.d (.int (a : Nat))), none, none] = some (.nx [some (.d (strD l)), some (.w (.lst (tokM (ts ++ [(w, a)])))), some (.d (.int ((a + w.length : Nat) : Int))), none, none]) := by
  obtain ⟨x, hx0, hxm⟩ := head_mem (tok_ne (.inl hw))
  have hx : l[a]? = some x := by
    have : (l.drop a)[0]? = (w ++ rest)[0]? := by rw [e]
    rw [List.getElem?_drop, Nat.add_zero, List.getElem?_append_left (List.length_pos_iff.mpr (tok_ne (.inl hw))), hx0] at this
    exact this
  have ha : a ≤ l.length := by have := (List.getElem?_eq_some_iff.mp hx).1; omega
  have z1 : (mk l).length ≤ sizeLine := by rw [sizeLine_eq, len_tl]; show l.length ≤ _; omega
  have z2 : l.length ≤ 16777216 := by omega
  have i0 : ∀ s : SL, oIx2 s (.d (.str (mk l))) (.d (.int (a : Nat))) = some (.d (.str (mk [x])), s) := fun s => oIx2_mk z1 (by omega) (by rw [Int.toNat_natCast]; exact hx)
  have sx := hw.2.1 x hxm
  have lx : ∀ c ∈ [x], c < 200 := fun c hc => by rw [List.mem_singleton.mp hc]; exact sgN_low sx
  have l32 : ∀ c ∈ [32], c < 200 := by decide
  have l10 : ∀ c ∈ [10], c < 200 := by decide
  have n32 : decide ([x] = [32]) = false := decide_eq_false fun z => by
    injection z with z _; subst z; cases sx
  have n10 : decide ([x] = [10]) = false := decide_eq_false fun z => by
    injection z with z _; subst z; cases sx
  have hend := rd_run_end e ha hl hw.2.1 hr
  have hcut : (l.drop a).take w.length = w := by rw [e, List.take_left']; rfl
  have hsl : ∀ s : SL, oSl s (.d (.str (mk l))) (some ((a : Nat) : Int)) (some ((a + w.length : Nat) : Int)) = some (.d (strD w), s) := fun s => by rw [oSl_mid z2, hcut]
  have hn : (ts.map tokD).length < 16777216 := by rw [List.length_map]; omega
  have ep : tokM ts ++ [MV.d (tokD (w, a))] = tokM (ts ++ [(w, a)]) := by simp
  have rs := sgN_or x
  rw [sx] at rs
  unfold f_tokenize_3 i_tokenize_2 i_tokenize_1
  cases g : lowB x with
  | true =>
    simp only [aSeq_ap, seqK_nx, seqK_rt, seqK_bk, seqK_ct, seqK_none, aNext_ap, aBrk_ap, aCont_ap, aAsg_ap, asgK_ap, nxR_some, aDrop_ap, dropK_ap, aIfS_ap, ifK_t, ifK_f, aRet_ap, retK_ap, rtR_some, aRetN_ap, aKill_ap, List.foldl_cons, List.foldl_nil, sb_okN, bd_okN, mapR_some, aC_ap, aXT_ap, aVar_ap, varK_d, varK_x, varK_w, varK_p, varK_k, aOp_ap, opK_ap, opK2_ap, aFz_ap, aUn_ap, aB_ap, bK_ap, aAnd_ap, andK_t, andK_f, aOr_ap, orK_t, orK_f, aNot_ap, notK_ap, aTru_ap, truK_ap, aYes_ap, aAndV_ap, andVK_t, andVK_f, aOrV_ap, orVK_t, orVK_f, aNotV_ap, notVK_ap, aIf_ap, ifEK_t, ifEK_f, aNil_ap, aCons_ap, consK_ap, consK2_ap, aCB_ap, cbK_ap, aNoPart_ap, aPart_ap, partK_ap, aSl_ap, slK_ap, slK2_ap, slK3_ap, aBM_ap, bmK_ap, bmK2_ap, aBM0_ap, bmK0_ap, aPut_ap, putK_ap, putK1_ap, putK2_ap, aFor_ap, forK_n, aRng1_ap, aRng2_ap, aIt_ap, itK_l, itK_t, itK_s, itK_x, itK_c, itK_f, aCallG_ap, List.getElem?_cons_zero, List.getElem?_cons_succ, List.set_cons_zero, List.set_cons_succ, List.length_cons, List.length_nil, Nat.zero_add, Nat.reduceAdd, Option.map_some, Option.map_none, Option.bind_some, Option.bind_none, List.map_cons, List.map_nil, aName, aNameF, fz, rtv, wAt, toM, vw, frz_lst, frz_d, lvs_map, oIx2_var, ixV_w, ixV_p, ixV_k, ixL_some, lfAt_nat, lf_d, oIx2_l, oIx2_t, Y.atI_nat, putF_var, putV_w, putV_p, oEq_int, oNe_int, oLtA_int, oIntA_int, oIntA_bool, oLenV_l, oLenV_t, oI0_ap, oB0_ap, oAdd_int, rNeg, lfAt_0, stL_0, Y.atI_0, lfAt_1, stL_1, Y.atI_1, lfAt_2, stL_2, Y.atI_2, lfAt_3, stL_3, Y.atI_3, lfAt_4, stL_4, Y.atI_4, lfAt_5, stL_5, Y.atI_5, lfAt_6, stL_6, Y.atI_6, lfAt_7, stL_7, Y.atI_7, Nat.reduceLeDiff, Int.reduceLT, Int.reduceLE, List.cons_append, List.nil_append, decide_true, decide_false, if_true, if_false, sizeLine_eq, aLc_ap, Bool.false_eq_true, i0, space_mk, nl_mk, oEq_str lx l32, n32, oEq_str lx l10, n10, oIn2_s, small_iff, g, call_f2 hend, hsl, call_f2 (rd_run_token hw), tyA, beq_self_eq_true, mAppend_d, apV_w, List.length_map (f := MV.d), if_pos hn, ep]
  | false =>
    rw [g, Bool.false_or] at rs
    simp only [aSeq_ap, seqK_nx, seqK_rt, seqK_bk, seqK_ct, seqK_none, aNext_ap, aBrk_ap, aCont_ap, aAsg_ap, asgK_ap, nxR_some, aDrop_ap, dropK_ap, aIfS_ap, ifK_t, ifK_f, aRet_ap, retK_ap, rtR_some, aRetN_ap, aKill_ap, List.foldl_cons, List.foldl_nil, sb_okN, bd_okN, mapR_some, aC_ap, aXT_ap, aVar_ap, varK_d, varK_x, varK_w, varK_p, varK_k, aOp_ap, opK_ap, opK2_ap, aFz_ap, aUn_ap, aB_ap, bK_ap, aAnd_ap, andK_t, andK_f, aOr_ap, orK_t, orK_f, aNot_ap, notK_ap, aTru_ap, truK_ap, aYes_ap, aAndV_ap, andVK_t, andVK_f, aOrV_ap, orVK_t, orVK_f, aNotV_ap, notVK_ap, aIf_ap, ifEK_t, ifEK_f, aNil_ap, aCons_ap, consK_ap, consK2_ap, aCB_ap, cbK_ap, aNoPart_ap, aPart_ap, partK_ap, aSl_ap, slK_ap, slK2_ap, slK3_ap, aBM_ap, bmK_ap, bmK2_ap, aBM0_ap, bmK0_ap, aPut_ap, putK_ap, putK1_ap, putK2_ap, aFor_ap, forK_n, aRng1_ap, aRng2_ap, aIt_ap, itK_l, itK_t, itK_s, itK_x, itK_c, itK_f, aCallG_ap, List.getElem?_cons_zero, List.getElem?_cons_succ, List.set_cons_zero, List.set_cons_succ, List.length_cons, List.length_nil, Nat.zero_add, Nat.reduceAdd, Option.map_some, Option.map_none, Option.bind_some, Option.bind_none, List.map_cons, List.map_nil, aName, aNameF, fz, rtv, wAt, toM, vw, frz_lst, frz_d, lvs_map, oIx2_var, ixV_w, ixV_p, ixV_k, ixL_some, lfAt_nat, lf_d, oIx2_l, oIx2_t, Y.atI_nat, putF_var, putV_w, putV_p, oEq_int, oNe_int, oLtA_int, oIntA_int, oIntA_bool, oLenV_l, oLenV_t, oI0_ap, oB0_ap, oAdd_int, rNeg, lfAt_0, stL_0, Y.atI_0, lfAt_1, stL_1, Y.atI_1, lfAt_2, stL_2, Y.atI_2, lfAt_3, stL_3, Y.atI_3, lfAt_4, stL_4, Y.atI_4, lfAt_5, stL_5, Y.atI_5, lfAt_6, stL_6, Y.atI_6, lfAt_7, stL_7, Y.atI_7, Nat.reduceLeDiff, Int.reduceLT, Int.reduceLE, List.cons_append, List.nil_append, decide_true, decide_false, if_true, if_false, sizeLine_eq, aLc_ap, Bool.false_eq_true, i0, space_mk, nl_mk, oEq_str lx l32, n32, oEq_str lx l10, n10, oIn2_s, small_iff, g, digits_iff, rs, call_f2 hend, hsl, call_f2 (rd_run_token hw), tyA, beq_self_eq_true, mAppend_d, apV_w, List.length_map (f := MV.d), if_pos hn, ep]
/-- a mark -/
theorem tk_mark {l w rest : List Nat} {ts : List (List Nat × Nat)} {a : Nat} (e : l.drop a = w ++ rest) (hw : w ∈ marksL) (hlow : ∀ c ∈ l, c < 200) (hl : l.length ≤ 10000) (ht : ts.length ≤ 10000) :
  f_tokenize_3 [some (.d (strD l)), some (.w (.lst (tokM ts))), some (.d (.int (a : Nat))), none, none] = some (.nx [some (.d (strD l)), some (.w (.lst (tokM (ts ++ [(w, a)])))), some (.d (.int ((a + w.length : Nat) : Int))), none, none]) := by
  obtain ⟨x, hx0, hxm⟩ := head_mem (tok_ne (.inr hw))
  have hx : l[a]? = some x := by
    have : (l.drop a)[0]? = (w ++ rest)[0]? := by rw [e]
    rw [List.getElem?_drop, Nat.add_zero, List.getElem?_append_left (List.length_pos_iff.mpr (tok_ne (.inr hw))), hx0] at this
    exact this
  have z1 : (mk l).length ≤ sizeLine := by rw [sizeLine_eq, len_tl]; show l.length ≤ _; omega
  have z2 : l.length ≤ 16777216 := by omega
  have i0 : ∀ s : SL, oIx2 s (.d (.str (mk l))) (.d (.int (a : Nat))) = some (.d (.str (mk [x])), s) := fun s => oIx2_mk z1 (by omega) (by rw [Int.toNat_natCast]; exact hx)
  have facts : ∀ w ∈ marksL, ∀ x, w[0]? = some x → lowB x = false ∧ (decide (48 ≤ x) && decide (x ≤ 57)) = false ∧ x ≠ 32 ∧ x ≠ 10 ∧ x < 200 ∧ (w = [45, 62] ∨ (w = [x] ∧ x ≠ 45 ∧ x ∈ [40, 41, 123, 125, 44, 59, 58, 124])) := by
    intro w hw x hx
    simp only [marksL, List.mem_cons, List.not_mem_nil, or_false] at hw
    rcases hw with rfl | rfl | rfl | rfl | rfl | rfl | rfl | rfl | rfl <;> (cases hx; decide)
  obtain ⟨f1, f2, f3, f4, f5, f6⟩ := facts w hw x hx0
  have lx : ∀ c ∈ [x], c < 200 := fun c hc => by rw [List.mem_singleton.mp hc]; exact f5
  have l32 : ∀ c ∈ [32], c < 200 := by decide
  have l10 : ∀ c ∈ [10], c < 200 := by decide
  have lar : ∀ c ∈ [45, 62], c < 200 := by decide
  have n32 : decide ([x] = [32]) = false := decide_eq_false fun z => by injection z with z _; exact f3 z
  have n10 : decide ([x] = [10]) = false := decide_eq_false fun z => by injection z with z _; exact f4 z
  have lsl : ∀ c ∈ (l.drop a).take 2, c < 200 := fun c hc => hlow c (List.mem_of_mem_drop (List.mem_of_mem_take hc))
  have hc2 : ((a : Nat) : Int) + 2 = ((a + 2 : Nat) : Int) := by omega
  have hsl : ∀ s : SL, oSl s (.d (.str (mk l))) (some ((a : Nat) : Int)) (some ((a + 2 : Nat) : Int)) = some (.d (strD ((l.drop a).take 2)), s) := fun s => oSl_mid z2
  have hn : (ts.map tokD).length < 16777216 := by rw [List.length_map]; omega
  have ep : tokM ts ++ [MV.d (tokD (w, a))] = tokM (ts ++ [(w, a)]) := by simp
  have nw : wordsL.contains w = false := by
    cases g : wordsL.contains w with
    | false => rfl
    | true => have := words_not_mark w (List.contains_iff_mem.mp g); rw [List.contains_iff_mem.mpr hw] at this; cases this
  have ek : PyData.tuple [.str "mark", strD w, .int (a : Nat)] = tokD (w, a) := by unfold tokD kindL; rw [if_neg (by rw [nw]; decide), if_pos (List.contains_iff_mem.mpr hw)]
  have au1 : ∀ (f : List MV) (p : SV), aAug 2 (aC (.int 1)) ipAdd [some (.d (strD l)), some (.w (.lst f)), some (.d (.int (a : Nat))), some p, none] = some (.nx [some (.d (strD l)), some (.w (.lst f)), some (.d (.int ((a + 1 : Nat) : Int))), some p, none]) := fun f p => by
    rw [aug_add (a := ((a : Nat) : Int)) rfl]
    rfl
  have au2 : ∀ (f : List MV) (p : SV), aAug 2 (aC (.int 2)) ipAdd [some (.d (strD l)), some (.w (.lst f)), some (.d (.int (a : Nat))), some p, none] = some (.nx [some (.d (strD l)), some (.w (.lst f)), some (.d (.int ((a + 2 : Nat) : Int))), some p, none]) := fun f p => by
    rw [aug_add (a := ((a : Nat) : Int)) rfl]
    rfl
  have oM : ∀ s : SL, oIn2 false s (.d (.str (mk [x]))) (.d (.str c_MARKS)) = some (.d (.bool (decide (x ∈ [40, 41, 123, 125, 44, 59, 58, 124]))), s) := fun s => by
    rw [oIn2_s, marks_tl]
    rfl
  unfold f_tokenize_3 i_tokenize_2 i_tokenize_1 i_tokenize_0
  rcases f6 with rfl | ⟨hwx, h45, hmem⟩
  · have hcut : (l.drop a).take 2 = [45, 62] := by rw [e]; rfl
    simp only [aSeq_ap, seqK_nx, seqK_rt, seqK_bk, seqK_ct, seqK_none, aNext_ap, aBrk_ap, aCont_ap, aAsg_ap, asgK_ap, nxR_some, aDrop_ap, dropK_ap, aIfS_ap, ifK_t, ifK_f, aRet_ap, retK_ap, rtR_some, aRetN_ap, aKill_ap, List.foldl_cons, List.foldl_nil, sb_okN, bd_okN, mapR_some, aC_ap, aXT_ap, aVar_ap, varK_d, varK_x, varK_w, varK_p, varK_k, aOp_ap, opK_ap, opK2_ap, aFz_ap, aUn_ap, aB_ap, bK_ap, aAnd_ap, andK_t, andK_f, aOr_ap, orK_t, orK_f, aNot_ap, notK_ap, aTru_ap, truK_ap, aYes_ap, aAndV_ap, andVK_t, andVK_f, aOrV_ap, orVK_t, orVK_f, aNotV_ap, notVK_ap, aIf_ap, ifEK_t, ifEK_f, aNil_ap, aCons_ap, consK_ap, consK2_ap, aCB_ap, cbK_ap, aNoPart_ap, aPart_ap, partK_ap, aSl_ap, slK_ap, slK2_ap, slK3_ap, aBM_ap, bmK_ap, bmK2_ap, aBM0_ap, bmK0_ap, aPut_ap, putK_ap, putK1_ap, putK2_ap, aFor_ap, forK_n, aRng1_ap, aRng2_ap, aIt_ap, itK_l, itK_t, itK_s, itK_x, itK_c, itK_f, aCallG_ap, List.getElem?_cons_zero, List.getElem?_cons_succ, List.set_cons_zero, List.set_cons_succ, List.length_cons, List.length_nil, Nat.zero_add, Nat.reduceAdd, Option.map_some, Option.map_none, Option.bind_some, Option.bind_none, List.map_cons, List.map_nil, aName, aNameF, fz, rtv, wAt, toM, vw, frz_lst, frz_d, lvs_map, oIx2_var, ixV_w, ixV_p, ixV_k, ixL_some, lfAt_nat, lf_d, oIx2_l, oIx2_t, Y.atI_nat, putF_var, putV_w, putV_p, oEq_int, oNe_int, oLtA_int, oIntA_int, oIntA_bool, oLenV_l, oLenV_t, oI0_ap, oB0_ap, oAdd_int, rNeg, lfAt_0, stL_0, Y.atI_0, lfAt_1, stL_1, Y.atI_1, lfAt_2, stL_2, Y.atI_2, lfAt_3, stL_3, Y.atI_3, lfAt_4, stL_4, Y.atI_4, lfAt_5, stL_5, Y.atI_5, lfAt_6, stL_6, Y.atI_6, lfAt_7, stL_7, Y.atI_7, Nat.reduceLeDiff, Int.reduceLT, Int.reduceLE, List.cons_append, List.nil_append, decide_true, decide_false, if_true, if_false, sizeLine_eq, aLc_ap, Bool.false_eq_true, i0, space_mk, nl_mk, oEq_str lx l32, n32, oEq_str lx l10, n10, oIn2_s, small_iff, f1, digits_iff, f2, hc2, hsl, hcut, arrow_mk, oEq_str lar lar, oTup_3, ek, tyA, beq_self_eq_true, mAppend_d, apV_w, List.length_map (f := MV.d), if_pos hn, ep, au2]
  · subst hwx
    have hcut : decide ((l.drop a).take 2 = [45, 62]) = false := decide_eq_false fun z => by
      rw [e] at z
      injection z with z _
      exact h45 z
    simp only [aSeq_ap, seqK_nx, seqK_rt, seqK_bk, seqK_ct, seqK_none, aNext_ap, aBrk_ap, aCont_ap, aAsg_ap, asgK_ap, nxR_some, aDrop_ap, dropK_ap, aIfS_ap, ifK_t, ifK_f, aRet_ap, retK_ap, rtR_some, aRetN_ap, aKill_ap, List.foldl_cons, List.foldl_nil, sb_okN, bd_okN, mapR_some, aC_ap, aXT_ap, aVar_ap, varK_d, varK_x, varK_w, varK_p, varK_k, aOp_ap, opK_ap, opK2_ap, aFz_ap, aUn_ap, aB_ap, bK_ap, aAnd_ap, andK_t, andK_f, aOr_ap, orK_t, orK_f, aNot_ap, notK_ap, aTru_ap, truK_ap, aYes_ap, aAndV_ap, andVK_t, andVK_f, aOrV_ap, orVK_t, orVK_f, aNotV_ap, notVK_ap, aIf_ap, ifEK_t, ifEK_f, aNil_ap, aCons_ap, consK_ap, consK2_ap, aCB_ap, cbK_ap, aNoPart_ap, aPart_ap, partK_ap, aSl_ap, slK_ap, slK2_ap, slK3_ap, aBM_ap, bmK_ap, bmK2_ap, aBM0_ap, bmK0_ap, aPut_ap, putK_ap, putK1_ap, putK2_ap, aFor_ap, forK_n, aRng1_ap, aRng2_ap, aIt_ap, itK_l, itK_t, itK_s, itK_x, itK_c, itK_f, aCallG_ap, List.getElem?_cons_zero, List.getElem?_cons_succ, List.set_cons_zero, List.set_cons_succ, List.length_cons, List.length_nil, Nat.zero_add, Nat.reduceAdd, Option.map_some, Option.map_none, Option.bind_some, Option.bind_none, List.map_cons, List.map_nil, aName, aNameF, fz, rtv, wAt, toM, vw, frz_lst, frz_d, lvs_map, oIx2_var, ixV_w, ixV_p, ixV_k, ixL_some, lfAt_nat, lf_d, oIx2_l, oIx2_t, Y.atI_nat, putF_var, putV_w, putV_p, oEq_int, oNe_int, oLtA_int, oIntA_int, oIntA_bool, oLenV_l, oLenV_t, oI0_ap, oB0_ap, oAdd_int, rNeg, lfAt_0, stL_0, Y.atI_0, lfAt_1, stL_1, Y.atI_1, lfAt_2, stL_2, Y.atI_2, lfAt_3, stL_3, Y.atI_3, lfAt_4, stL_4, Y.atI_4, lfAt_5, stL_5, Y.atI_5, lfAt_6, stL_6, Y.atI_6, lfAt_7, stL_7, Y.atI_7, Nat.reduceLeDiff, Int.reduceLT, Int.reduceLE, List.cons_append, List.nil_append, decide_true, decide_false, if_true, if_false, sizeLine_eq, aLc_ap, Bool.false_eq_true, i0, space_mk, nl_mk, oEq_str lx l32, n32, oEq_str lx l10, n10, oIn2_s, small_iff, f1, digits_iff, f2, hc2, hsl, hcut, arrow_mk, oEq_str lsl lar, oM, decide_eq_true hmem, oTup_3, ek, tyA, beq_self_eq_true, mAppend_d, apV_w, List.length_map (f := MV.d), if_pos hn, ep, au1]
def condT : AT := aB (aOp oLtA (aVar 2) (aCB (vA oLenA) (aCons (aVar 0) aNil)))
theorem condT_rd {l : List Nat} {f : List MV} {a : Nat} (hl : l.length ≤ 10000) : condT [some (.d (strD l)), some (.w (.lst f)), some (.d (.int (a : Nat))), none, none] = some (.ok (decide (a < l.length)) [some (.d (strD l)), some (.w (.lst f)), some (.d (.int (a : Nat))), none, none]) := by
  have hl2 : l.length ≤ 16777216 := by omega
  have d1 : decide (((a : Nat) : Int) < ((l.length : Nat) : Int)) = decide (a < l.length) := by rw [decide_eq_decide]; omega
  unfold condT
  simp only [aSeq_ap, seqK_nx, seqK_rt, seqK_bk, seqK_ct, seqK_none, aNext_ap, aBrk_ap, aCont_ap, aAsg_ap, asgK_ap, nxR_some, aDrop_ap, dropK_ap, aIfS_ap, ifK_t, ifK_f, aRet_ap, retK_ap, rtR_some, aRetN_ap, aKill_ap, List.foldl_cons, List.foldl_nil, sb_okN, bd_okN, mapR_some, aC_ap, aXT_ap, aVar_ap, varK_d, varK_x, varK_w, varK_p, varK_k, aOp_ap, opK_ap, opK2_ap, aFz_ap, aUn_ap, aB_ap, bK_ap, aAnd_ap, andK_t, andK_f, aOr_ap, orK_t, orK_f, aNot_ap, notK_ap, aTru_ap, truK_ap, aYes_ap, aAndV_ap, andVK_t, andVK_f, aOrV_ap, orVK_t, orVK_f, aNotV_ap, notVK_ap, aIf_ap, ifEK_t, ifEK_f, aNil_ap, aCons_ap, consK_ap, consK2_ap, aCB_ap, cbK_ap, aNoPart_ap, aPart_ap, partK_ap, aSl_ap, slK_ap, slK2_ap, slK3_ap, aBM_ap, bmK_ap, bmK2_ap, aBM0_ap, bmK0_ap, aPut_ap, putK_ap, putK1_ap, putK2_ap, aFor_ap, forK_n, aRng1_ap, aRng2_ap, aIt_ap, itK_l, itK_t, itK_s, itK_x, itK_c, itK_f, aCallG_ap, List.getElem?_cons_zero, List.getElem?_cons_succ, List.set_cons_zero, List.set_cons_succ, List.length_cons, List.length_nil, Nat.zero_add, Nat.reduceAdd, Option.map_some, Option.map_none, Option.bind_some, Option.bind_none, List.map_cons, List.map_nil, aName, aNameF, fz, rtv, wAt, toM, vw, frz_lst, frz_d, lvs_map, oIx2_var, ixV_w, ixV_p, ixV_k, ixL_some, lfAt_nat, lf_d, oIx2_l, oIx2_t, Y.atI_nat, putF_var, putV_w, putV_p, oEq_int, oNe_int, oLtA_int, oIntA_int, oIntA_bool, oLenV_l, oLenV_t, oI0_ap, oB0_ap, oAdd_int, rNeg, lfAt_0, stL_0, Y.atI_0, lfAt_1, stL_1, Y.atI_1, lfAt_2, stL_2, Y.atI_2, lfAt_3, stL_3, Y.atI_3, lfAt_4, stL_4, Y.atI_4, lfAt_5, stL_5, Y.atI_5, lfAt_6, stL_6, Y.atI_6, lfAt_7, stL_7, Y.atI_7, Nat.reduceLeDiff, Int.reduceLT, Int.reduceLE, List.cons_append, List.nil_append, decide_true, decide_false, if_true, if_false, sizeLine_eq, aLc_ap, Bool.false_eq_true, oLenV_s hl2, d1]
theorem out_low : ∀ {p : Option (List Nat)} {is : Items}, ItemsOk p is → ∀ c ∈ outT is, c < 200
  | _, [], _, c, h => nomatch h
  | _, i :: r, h, c, hc => by
    rw [outT_cons] at hc
    rcases List.mem_append.mp hc with hc | hc
    · rcases List.mem_append.mp hc with hc | hc
      · exact blk_low (h.1.1 c hc)
      · exact tok_low h.1.2.1 c hc
    · exact out_low h.2 c hc
theorem drop_step {l : List Nat} {a : Nat} {u v : List Nat} (e : l.drop a = u ++ v) : l.drop (a + u.length) = v := by
  rw [← List.drop_drop, e, List.drop_left']
  rfl
theorem tk_whole {is : Items} {b : List Nat} (hi : ItemsOk none is) (hb : ∀ x ∈ b, blk x = true) (hl : (outT is ++ b).length ≤ 10000) (hn : is.length ≤ 60) :
  ∃ n : Nat, aWhile condT f_tokenize_3 [some (.d (strD (outT is ++ b))), some (.w (.lst [])), some (.d (.int ((0 : Nat) : Int))), none, none] = some (.nx [some (.d (strD (outT is ++ b))), some (.w (.lst (tokM (wordsAt 0 is)))), some (.d (.int (n : Nat))), none, none]) := by
  have hlow : ∀ c ∈ outT is ++ b, c < 200 := fun c hc => (List.mem_append.mp hc).elim (out_low hi c) fun h => blk_low (hb c h)
  have wl : ∀ (n : Nat) (js : Items), (wordsAt n js).length = js.length := fun n js => by
    have := congrArg List.length (wordsAt_fst n js)
    rwa [List.length_map, List.length_map] at this
  obtain ⟨s', e, n, rfl⟩ := aWhile_inv (C := condT) (S := f_tokenize_3) (fun n s => ∃ (a : Nat) (js : Items) (c : List Nat) (ts : List (List Nat × Nat)), n = (outT is ++ b).length - a ∧ a ≤ (outT is ++ b).length ∧ ItemsOk none js ∧ (∀ x ∈ c, blk x = true) ∧ (outT is ++ b).drop a = outT js ++ c ∧ ts ++ wordsAt a js = wordsAt 0 is ∧ s = [some (.d (strD (outT is ++ b))), some (.w (.lst (tokM ts))), some (.d (.int (a : Nat))), none, none])
    (fun s => ∃ n : Nat, s = [some (.d (strD (outT is ++ b))), some (.w (.lst (tokM (wordsAt 0 is)))), some (.d (.int (n : Nat))), none, none]) (fun n s hp => by
    obtain ⟨a, js, c, ts, rfl, ha, hj, hc, e, ht, rfl⟩ := hp
    have hcond := condT_rd (l := outT is ++ b) (f := tokM ts) (a := a) hl
    have tl' : ts.length ≤ 60 := by
      have := congrArg List.length ht
      rw [List.length_append, wl, wl] at this
      omega
    by_cases h : a < (outT is ++ b).length
    · rw [decide_eq_true h] at hcond
      refine .inr ?_
      cases js with
      | nil =>
        have e' : (outT is ++ b).drop a = c := e
        cases c with
        | nil =>
          have := congrArg List.length e'
          rw [List.length_drop, List.length_nil] at this
          omega
        | cons x c =>
          have hx : (outT is ++ b)[a]? = some x := by
            have := List.getElem?_drop (xs := outT is ++ b) (i := a) (j := 0)
            rw [e', Nat.add_zero] at this
            exact this.symm
          exact ⟨_, _, hcond, .inl (tk_blank hx (hc x (List.mem_cons_self ..)) hl), (outT is ++ b).length - (a + 1), by omega, a + 1, [], c, ts, rfl, h, trivial, fun y hy => hc y (List.mem_cons_of_mem _ hy), drop_step (u := [x]) e', ht, rfl⟩
      | cons it r =>
        obtain ⟨d, w⟩ := it
        obtain ⟨⟨g1, g2, g3, g4⟩, hr⟩ := hj
        have g1 : ∀ x ∈ d, blk x = true := g1
        have g2 : TokW w := g2
        have g3 : d.length ≤ 8 := g3
        rw [outT_cons, List.append_assoc, List.append_assoc] at e
        cases d with
        | cons x d =>
          have hx : (outT is ++ b)[a]? = some x := by
            have := List.getElem?_drop (xs := outT is ++ b) (i := a) (j := 0)
            rw [e, Nat.add_zero] at this
            exact this.symm
          refine ⟨_, _, hcond, .inl (tk_blank hx (g1 x (List.mem_cons_self ..)) hl), (outT is ++ b).length - (a + 1), by omega, a + 1, (d, w) :: r, c, ts, rfl, h, ⟨⟨fun y hy => g1 y (List.mem_cons_of_mem _ hy), g2, by rw [List.length_cons] at g3; show d.length ≤ 8; omega, fun _ z => by cases z⟩, hr⟩, hc, ?_, ?_, rfl⟩
          · rw [outT_cons, List.append_assoc, List.append_assoc]
            exact drop_step (u := [x]) e
          · rw [← ht]
            congr 1
            show (w, a + 1 + d.length) :: wordsAt (a + 1 + d.length + w.length) r = (w, a + (d.length + 1)) :: wordsAt (a + (d.length + 1) + w.length) r
            rw [show a + 1 + d.length = a + (d.length + 1) by omega]
        | nil =>
          have e : (outT is ++ b).drop a = w ++ (outT r ++ c) := e
          have hlt : 0 < w.length := List.length_pos_iff.mpr (tok_ne g2)
          have hle : a + w.length ≤ (outT is ++ b).length := by
            have := congrArg List.length e
            rw [List.length_drop] at this
            have e9 : (w ++ (outT r ++ c)).length = w.length + (outT r ++ c).length := List.length_append
            omega
          have ht2 : (ts ++ [(w, a)]) ++ wordsAt (a + w.length) r = wordsAt 0 is := by
            rw [← ht, List.append_assoc]
            rfl
          rcases g2 with gr | gm
          · exact ⟨_, _, hcond, .inl (tk_run e gr (stop_head gr hr hc) hl (by omega)), (outT is ++ b).length - (a + w.length), by omega, a + w.length, r, c, ts ++ [(w, a)], rfl, hle, items_weak hr, hc, drop_step e, ht2, rfl⟩
          · exact ⟨_, _, hcond, .inl (tk_mark e gm hlow hl (by omega)), (outT is ++ b).length - (a + w.length), by omega, a + w.length, r, c, ts ++ [(w, a)], rfl, hle, items_weak hr, hc, drop_step e, ht2, rfl⟩
    · rw [decide_eq_false h] at hcond
      refine .inl ⟨_, hcond, a, ?_⟩
      have e0 : outT js ++ c = [] := by rw [← e]; exact List.drop_eq_nil_of_le (by omega)
      have hj0 : js = [] := by
        cases js with
        | nil => rfl
        | cons it r =>
          exfalso
          have := congrArg List.length e0
          rw [outT_cons, List.length_append, List.length_append, List.length_append, List.length_nil] at this
          have := List.length_pos_iff.mpr (tok_ne hj.1.2.1)
          omega
      subst hj0
      have : ts = wordsAt 0 is := by rw [← ht]; exact (List.append_nil _).symm
      rw [this]) (n := (outT is ++ b).length) (s := [some (.d (strD (outT is ++ b))), some (.w (.lst [])), some (.d (.int ((0 : Nat) : Int))), none, none]) ⟨0, is, b, [], rfl, Nat.zero_le _, hi, hb, rfl, rfl, rfl⟩
  exact ⟨n, e⟩
theorem rd_tokenize {is : Items} {b : List Nat} (hi : ItemsOk none is) (hb : ∀ x ∈ b, blk x = true) (hl : (outT is ++ b).length ≤ 10000) (hn : is.length ≤ 60) : den_tokenize [.d (strD (outT is ++ b))] = some (.ok (.t (.lst (tokM (wordsAt 0 is)))) [none]) := by
  obtain ⟨n, e⟩ := tk_whole hi hb hl hn
  have e : aWhile condT f_tokenize_3 [some (.d (strD (outT is ++ b))), some (.w (.lst [])), some (.d (.int 0)), none, none] = some (.nx [some (.d (strD (outT is ++ b))), some (.w (.lst (tokM (wordsAt 0 is)))), some (.d (.int (n : Nat))), none, none]) := e
  unfold condT at e
  have hb2 : b_tokenize [some (.d (strD (outT is ++ b))), none, none, none, none] = some (.rt (.t (.lst (tokM (wordsAt 0 is)))) [some (.d (strD (outT is ++ b))), none, none, none, none]) := by
    unfold b_tokenize
    simp only [aSeq_ap, seqK_nx, seqK_rt, seqK_bk, seqK_ct, seqK_none, aNext_ap, aBrk_ap, aCont_ap, aAsg_ap, asgK_ap, nxR_some, aDrop_ap, dropK_ap, aIfS_ap, ifK_t, ifK_f, aRet_ap, retK_ap, rtR_some, aRetN_ap, aKill_ap, List.foldl_cons, List.foldl_nil, sb_okN, bd_okN, mapR_some, aC_ap, aXT_ap, aVar_ap, varK_d, varK_x, varK_w, varK_p, varK_k, aOp_ap, opK_ap, opK2_ap, aFz_ap, aUn_ap, aB_ap, bK_ap, aAnd_ap, andK_t, andK_f, aOr_ap, orK_t, orK_f, aNot_ap, notK_ap, aTru_ap, truK_ap, aYes_ap, aAndV_ap, andVK_t, andVK_f, aOrV_ap, orVK_t, orVK_f, aNotV_ap, notVK_ap, aIf_ap, ifEK_t, ifEK_f, aNil_ap, aCons_ap, consK_ap, consK2_ap, aCB_ap, cbK_ap, aNoPart_ap, aPart_ap, partK_ap, aSl_ap, slK_ap, slK2_ap, slK3_ap, aBM_ap, bmK_ap, bmK2_ap, aBM0_ap, bmK0_ap, aPut_ap, putK_ap, putK1_ap, putK2_ap, aFor_ap, forK_n, aRng1_ap, aRng2_ap, aIt_ap, itK_l, itK_t, itK_s, itK_x, itK_c, itK_f, aCallG_ap, List.getElem?_cons_zero, List.getElem?_cons_succ, List.set_cons_zero, List.set_cons_succ, List.length_cons, List.length_nil, Nat.zero_add, Nat.reduceAdd, Option.map_some, Option.map_none, Option.bind_some, Option.bind_none, List.map_cons, List.map_nil, aName, aNameF, fz, rtv, wAt, toM, vw, frz_lst, frz_d, lvs_map, oIx2_var, ixV_w, ixV_p, ixV_k, ixL_some, lfAt_nat, lf_d, oIx2_l, oIx2_t, Y.atI_nat, putF_var, putV_w, putV_p, oEq_int, oNe_int, oLtA_int, oIntA_int, oIntA_bool, oLenV_l, oLenV_t, oI0_ap, oB0_ap, oAdd_int, rNeg, lfAt_0, stL_0, Y.atI_0, lfAt_1, stL_1, Y.atI_1, lfAt_2, stL_2, Y.atI_2, lfAt_3, stL_3, Y.atI_3, lfAt_4, stL_4, Y.atI_4, lfAt_5, stL_5, Y.atI_5, lfAt_6, stL_6, Y.atI_6, lfAt_7, stL_7, Y.atI_7, Nat.reduceLeDiff, Int.reduceLT, Int.reduceLE, List.cons_append, List.nil_append, decide_true, decide_false, if_true, if_false, sizeLine_eq, aLc_ap, Bool.false_eq_true, oLst_nil, e]
  have hs : start0 5 [.d (strD (outT is ++ b))] = [some (.d (strD (outT is ++ b))), none, none, none, none] := rfl
  unfold den_tokenize Y.run
  rw [hs, hb2]
  rfl

end Lw

namespace Lw
open PySem PySem.Spec PyProof.Rows L2 Y PySem.W TL
/-! ### _law_same -/
theorem isi_d {n : String} {s : SL} {i : Nat} {d : PyData} {b : Bool} (h : s[i]? = some (some (.d d))) (hb : isiM n (.d d) = some b) : aIsi n (aVar i) s = some (.ok (.d (.bool b)) s) := by
  have e : aVar i s = some (.ok (.d d) s) := by
    unfold aVar
    rw [h]
  unfold aIsi
  rw [e]
  show ((isiM n (.d d)).map fun b => Res.ok (TV.d (.bool b)) s) = _
  rw [hb]
  rfl
theorem isi_k {n : String} {s : SL} {i : Nat} {m : MV} {b : Bool} (h : s[i]? = some (some (.k m))) (hb : isiM n m = some b) : aIsi n (aVar i) s = some (.ok (.d (.bool b)) s) := by
  have e : aVar i s = some (.ok (.var i) s) := by
    unfold aVar
    rw [h]
  have ev : vw s (.var i) = some m := vw_k h
  unfold aIsi
  rw [e]
  show (((vw s (.var i)).bind (isiM n)).map fun b => Res.ok (TV.d (.bool b)) s) = _
  rw [ev, Option.bind_some, hb]
  rfl
theorem oIsN_str {s : SL} {x : Str} : oIsN false s (.d (.str x)) (.d .none) = some (.d (.bool false), s) := Eq.trans rfl rfl
theorem oIsN_lst {s : SL} {x : List PyData} : oIsN false s (.d (.list x)) (.d .none) = some (.d (.bool false), s) := Eq.trans rfl rfl
theorem oIsN_tup {s : SL} {x : List PyData} : oIsN false s (.d (.tuple x)) (.d .none) = some (.d (.bool false), s) := Eq.trans rfl rfl
theorem nex (n : Nat) : (!decide (((n : Nat) : Int) = ((n : Nat) : Int))) = false := by rw [decide_eq_true rfl]; rfl
theorem oLenV_vw {s : SL} {i : Nat} {ms : List MV} (ev : vw s (.var i) = some (.lst ms)) : vA oLenA s [.var i] = some (.d (.int (ms.length : Nat)), s) := by
  show oLenA s [.var i] = _
  show (match vw s (.var i) with
    | some (.dK kvs) => some (TV.d (.int (kvs.length : Nat)), s)
    | some (.dT kvs) => some (TV.d (.int (kvs.length : Nat)), s)
    | _ => (lenA s (.var i)).map fun n => (TV.d (.int (n : Nat)), s)) = _
  rw [ev]
  show (lenA s (.var i)).map _ = _
  have e1 : seqT s (.var i) = none := by show seqTd s (.var i) = none; unfold seqTd; rw [ev]
  have e2 : seqL s (.var i) = some ms := by unfold seqL; dsimp only; rw [ev]
  unfold lenA
  dsimp only
  rw [e1, e2]
  rfl
theorem same_str {pr : Den} {x : Str} (hx : PyData.strOk x = true) : b__law_same pr [some (.d (.str x)), some (.d (.str x)), none] = some (.rt (.d (.bool true)) [some (.d (.str x)), some (.d (.str x)), none]) := by
  have e1 := isi_d (n := "bool") (s := [some (.d (.str x)), some (.d (.str x)), none]) (i := 1) (d := .str x) (b := false) rfl rfl
  have e2 := isi_d (n := "int") (s := [some (.d (.str x)), some (.d (.str x)), none]) (i := 1) (d := .str x) (b := false) rfl rfl
  have e3 := isi_d (n := "str") (s := [some (.d (.str x)), some (.d (.str x)), none]) (i := 1) (d := .str x) (b := true) rfl rfl
  have e4 := isi_d (n := "str") (s := [some (.d (.str x)), some (.d (.str x)), none]) (i := 0) (d := .str x) (b := true) rfl rfl
  have sh : SeqAt.shaped (.str x) = true := by unfold SeqAt.shaped; rw [PyData.canLay0, hx]; rfl
  have eq : ∀ s : SL, oEq false s (.d (.str x)) (.d (.str x)) = some (.d (.bool true), s) := fun s => by
    show (if SeqAt.shaped (.str x) = true ∧ SeqAt.shaped (.str x) = true then some (TV.d (.bool (x == x)), s) else none) = _
    rw [if_pos ⟨sh, sh⟩, beq_self_eq_true]
  unfold b__law_same
  simp only [aSeq_ap, seqK_nx, seqK_rt, seqK_bk, seqK_ct, seqK_none, aNext_ap, aBrk_ap, aCont_ap, aAsg_ap, asgK_ap, nxR_some, aDrop_ap, dropK_ap, aIfS_ap, ifK_t, ifK_f, aRet_ap, retK_ap, rtR_some, aRetN_ap, aKill_ap, List.foldl_cons, List.foldl_nil, sb_okN, bd_okN, mapR_some, aC_ap, aXT_ap, aVar_ap, varK_d, varK_x, varK_w, varK_p, varK_k, aOp_ap, opK_ap, opK2_ap, aFz_ap, aUn_ap, aB_ap, bK_ap, aAnd_ap, andK_t, andK_f, aOr_ap, orK_t, orK_f, aNot_ap, notK_ap, aTru_ap, truK_ap, aYes_ap, aAndV_ap, andVK_t, andVK_f, aOrV_ap, orVK_t, orVK_f, aNotV_ap, notVK_ap, aIf_ap, ifEK_t, ifEK_f, aNil_ap, aCons_ap, consK_ap, consK2_ap, aCB_ap, cbK_ap, aNoPart_ap, aPart_ap, partK_ap, aSl_ap, slK_ap, slK2_ap, slK3_ap, aBM_ap, bmK_ap, bmK2_ap, aBM0_ap, bmK0_ap, aPut_ap, putK_ap, putK1_ap, putK2_ap, aFor_ap, forK_n, aRng1_ap, aRng2_ap, aIt_ap, itK_l, itK_t, itK_s, itK_x, itK_c, itK_f, aCallG_ap, List.getElem?_cons_zero, List.getElem?_cons_succ, List.set_cons_zero, List.set_cons_succ, List.length_cons, List.length_nil, Nat.zero_add, Nat.reduceAdd, Option.map_some, Option.map_none, Option.bind_some, Option.bind_none, List.map_cons, List.map_nil, aName, aNameF, fz, rtv, wAt, toM, vw, frz_lst, frz_d, lvs_map, oIx2_var, ixV_w, ixV_p, ixV_k, ixL_some, lfAt_nat, lf_d, oIx2_l, oIx2_t, Y.atI_nat, putF_var, putV_w, putV_p, oEq_int, oNe_int, oLtA_int, oIntA_int, oIntA_bool, oLenV_l, oLenV_t, oI0_ap, oB0_ap, oAdd_int, rNeg, lfAt_0, stL_0, Y.atI_0, lfAt_1, stL_1, Y.atI_1, lfAt_2, stL_2, Y.atI_2, lfAt_3, stL_3, Y.atI_3, lfAt_4, stL_4, Y.atI_4, lfAt_5, stL_5, Y.atI_5, lfAt_6, stL_6, Y.atI_6, lfAt_7, stL_7, Y.atI_7, Nat.reduceLeDiff, Int.reduceLT, Int.reduceLE, List.cons_append, List.nil_append, decide_true, decide_false, if_true, if_false, sizeLine_eq, aLc_ap, Bool.false_eq_true, oIsN_str, e1, e2, e3, e4, eq]
theorem same_int {pr : Den} {x : Int} : b__law_same pr [some (.d (.int x)), some (.d (.int x)), none] = some (.rt (.d (.bool true)) [some (.d (.int x)), some (.d (.int x)), none]) := by
  have e1 := isi_d (n := "bool") (s := [some (.d (.int x)), some (.d (.int x)), none]) (i := 1) (d := .int x) (b := false) rfl rfl
  have e2 := isi_d (n := "int") (s := [some (.d (.int x)), some (.d (.int x)), none]) (i := 1) (d := .int x) (b := true) rfl rfl
  have e3 := isi_d (n := "int") (s := [some (.d (.int x)), some (.d (.int x)), none]) (i := 0) (d := .int x) (b := true) rfl rfl
  have e4 := isi_d (n := "bool") (s := [some (.d (.int x)), some (.d (.int x)), none]) (i := 0) (d := .int x) (b := false) rfl rfl
  unfold b__law_same
  have dx : decide (x = x) = true := decide_eq_true rfl
  simp only [aSeq_ap, seqK_nx, seqK_rt, seqK_bk, seqK_ct, seqK_none, aNext_ap, aBrk_ap, aCont_ap, aAsg_ap, asgK_ap, nxR_some, aDrop_ap, dropK_ap, aIfS_ap, ifK_t, ifK_f, aRet_ap, retK_ap, rtR_some, aRetN_ap, aKill_ap, List.foldl_cons, List.foldl_nil, sb_okN, bd_okN, mapR_some, aC_ap, aXT_ap, aVar_ap, varK_d, varK_x, varK_w, varK_p, varK_k, aOp_ap, opK_ap, opK2_ap, aFz_ap, aUn_ap, aB_ap, bK_ap, aAnd_ap, andK_t, andK_f, aOr_ap, orK_t, orK_f, aNot_ap, notK_ap, aTru_ap, truK_ap, aYes_ap, aAndV_ap, andVK_t, andVK_f, aOrV_ap, orVK_t, orVK_f, aNotV_ap, notVK_ap, aIf_ap, ifEK_t, ifEK_f, aNil_ap, aCons_ap, consK_ap, consK2_ap, aCB_ap, cbK_ap, aNoPart_ap, aPart_ap, partK_ap, aSl_ap, slK_ap, slK2_ap, slK3_ap, aBM_ap, bmK_ap, bmK2_ap, aBM0_ap, bmK0_ap, aPut_ap, putK_ap, putK1_ap, putK2_ap, aFor_ap, forK_n, aRng1_ap, aRng2_ap, aIt_ap, itK_l, itK_t, itK_s, itK_x, itK_c, itK_f, aCallG_ap, List.getElem?_cons_zero, List.getElem?_cons_succ, List.set_cons_zero, List.set_cons_succ, List.length_cons, List.length_nil, Nat.zero_add, Nat.reduceAdd, Option.map_some, Option.map_none, Option.bind_some, Option.bind_none, List.map_cons, List.map_nil, aName, aNameF, fz, rtv, wAt, toM, vw, frz_lst, frz_d, lvs_map, oIx2_var, ixV_w, ixV_p, ixV_k, ixL_some, lfAt_nat, lf_d, oIx2_l, oIx2_t, Y.atI_nat, putF_var, putV_w, putV_p, oEq_int, oNe_int, oLtA_int, oIntA_int, oIntA_bool, oLenV_l, oLenV_t, oI0_ap, oB0_ap, oAdd_int, rNeg, lfAt_0, stL_0, Y.atI_0, lfAt_1, stL_1, Y.atI_1, lfAt_2, stL_2, Y.atI_2, lfAt_3, stL_3, Y.atI_3, lfAt_4, stL_4, Y.atI_4, lfAt_5, stL_5, Y.atI_5, lfAt_6, stL_6, Y.atI_6, lfAt_7, stL_7, Y.atI_7, Nat.reduceLeDiff, Int.reduceLT, Int.reduceLE, List.cons_append, List.nil_append, decide_true, decide_false, if_true, if_false, sizeLine_eq, aLc_ap, Bool.false_eq_true, oIsN_int, e1, e2, e3, e4, Bool.not_false, dx]
theorem same_list {pr : Den} {ds : List PyData} (hl : ds.length ≤ 10000) (hp : ∀ d ∈ ds, pr [.d d, .d d] = some (.ok (.d (.bool true)) [none, none])) : b__law_same pr [some (.d (.list ds)), some (.d (.list ds)), none] = some (.rt (.d (.bool true)) [some (.d (.list ds)), some (.d (.list ds)), none]) := by
  have e1 := isi_d (n := "bool") (s := [some (.d (.list ds)), some (.d (.list ds)), none]) (i := 1) (d := (.list ds)) (b := false) rfl rfl
  have e2 := isi_d (n := "int") (s := [some (.d (.list ds)), some (.d (.list ds)), none]) (i := 1) (d := (.list ds)) (b := false) rfl rfl
  have e3 := isi_d (n := "str") (s := [some (.d (.list ds)), some (.d (.list ds)), none]) (i := 1) (d := (.list ds)) (b := false) rfl rfl
  have e4 := isi_d (n := "list") (s := [some (.d (.list ds)), some (.d (.list ds)), none]) (i := 1) (d := (.list ds)) (b := true) rfl rfl
  have e5 := isi_d (d := .list ds) (n := "list") (s := [some (.d (.list ds)), some (.d (.list ds)), none]) (i := 0) (b := true) rfl rfl
  have e6 := isi_d (n := "tuple") (s := [some (.d (.list ds)), some (.d (.list ds)), none]) (i := 1) (d := (.list ds)) (b := false) rfl rfl
  have e7 := isi_d (d := .list ds) (n := "tuple") (s := [some (.d (.list ds)), some (.d (.list ds)), none]) (i := 0) (b := false) rfl rfl
  have hr : ∀ s, rngK1 [.d (.int (ds.length : Nat))] s = some (.ok (rng 0 ds.length, none) s) := fun s => rngK1_ap (by omega)
  obtain ⟨s', ef, hs⟩ := forGo_inv (Ga := aNameF 2) (S := f__law_same_0 pr) (ds := rng 0 ds.length) (fun i s => s = [some (.d (.list ds)), some (.d (.list ds)), none]) (fun i d s hd h => by
    obtain ⟨rfl, hi⟩ := rng_get0 hd
    subst h
    have et := List.getElem?_eq_getElem hi
    refine ⟨_, _, rfl, .inl ?_, rfl⟩
    show f__law_same_0 pr [some (.d (.list ds)), some (.d (.list ds)), some (.d (.int (i : Nat)))] = _
    unfold f__law_same_0
    simp only [aSeq_ap, seqK_nx, seqK_rt, seqK_bk, seqK_ct, seqK_none, aNext_ap, aBrk_ap, aCont_ap, aAsg_ap, asgK_ap, nxR_some, aDrop_ap, dropK_ap, aIfS_ap, ifK_t, ifK_f, aRet_ap, retK_ap, rtR_some, aRetN_ap, aKill_ap, List.foldl_cons, List.foldl_nil, sb_okN, bd_okN, mapR_some, aC_ap, aXT_ap, aVar_ap, varK_d, varK_x, varK_w, varK_p, varK_k, aOp_ap, opK_ap, opK2_ap, aFz_ap, aUn_ap, aB_ap, bK_ap, aAnd_ap, andK_t, andK_f, aOr_ap, orK_t, orK_f, aNot_ap, notK_ap, aTru_ap, truK_ap, aYes_ap, aAndV_ap, andVK_t, andVK_f, aOrV_ap, orVK_t, orVK_f, aNotV_ap, notVK_ap, aIf_ap, ifEK_t, ifEK_f, aNil_ap, aCons_ap, consK_ap, consK2_ap, aCB_ap, cbK_ap, aNoPart_ap, aPart_ap, partK_ap, aSl_ap, slK_ap, slK2_ap, slK3_ap, aBM_ap, bmK_ap, bmK2_ap, aBM0_ap, bmK0_ap, aPut_ap, putK_ap, putK1_ap, putK2_ap, aFor_ap, forK_n, aRng1_ap, aRng2_ap, aIt_ap, itK_l, itK_t, itK_s, itK_x, itK_c, itK_f, aCallG_ap, List.getElem?_cons_zero, List.getElem?_cons_succ, List.set_cons_zero, List.set_cons_succ, List.length_cons, List.length_nil, Nat.zero_add, Nat.reduceAdd, Option.map_some, Option.map_none, Option.bind_some, Option.bind_none, List.map_cons, List.map_nil, aName, aNameF, fz, rtv, wAt, toM, vw, frz_lst, frz_d, lvs_map, oIx2_var, ixV_w, ixV_p, ixV_k, ixL_some, lfAt_nat, lf_d, oIx2_l, oIx2_t, Y.atI_nat, putF_var, putV_w, putV_p, oEq_int, oNe_int, oLtA_int, oIntA_int, oIntA_bool, oLenV_l, oLenV_t, oI0_ap, oB0_ap, oAdd_int, rNeg, lfAt_0, stL_0, Y.atI_0, lfAt_1, stL_1, Y.atI_1, lfAt_2, stL_2, Y.atI_2, lfAt_3, stL_3, Y.atI_3, lfAt_4, stL_4, Y.atI_4, lfAt_5, stL_5, Y.atI_5, lfAt_6, stL_6, Y.atI_6, lfAt_7, stL_7, Y.atI_7, Nat.reduceLeDiff, Int.reduceLT, Int.reduceLE, List.cons_append, List.nil_append, decide_true, decide_false, if_true, if_false, sizeLine_eq, aLc_ap, Bool.false_eq_true, List.getElem?_map, et, call_f2 (hp _ (List.getElem_mem hi)), Bool.not_true]) (s := [some (.d (.list ds)), some (.d (.list ds)), none]) rfl
  subst hs
  unfold b__law_same
  simp only [aSeq_ap, seqK_nx, seqK_rt, seqK_bk, seqK_ct, seqK_none, aNext_ap, aBrk_ap, aCont_ap, aAsg_ap, asgK_ap, nxR_some, aDrop_ap, dropK_ap, aIfS_ap, ifK_t, ifK_f, aRet_ap, retK_ap, rtR_some, aRetN_ap, aKill_ap, List.foldl_cons, List.foldl_nil, sb_okN, bd_okN, mapR_some, aC_ap, aXT_ap, aVar_ap, varK_d, varK_x, varK_w, varK_p, varK_k, aOp_ap, opK_ap, opK2_ap, aFz_ap, aUn_ap, aB_ap, bK_ap, aAnd_ap, andK_t, andK_f, aOr_ap, orK_t, orK_f, aNot_ap, notK_ap, aTru_ap, truK_ap, aYes_ap, aAndV_ap, andVK_t, andVK_f, aOrV_ap, orVK_t, orVK_f, aNotV_ap, notVK_ap, aIf_ap, ifEK_t, ifEK_f, aNil_ap, aCons_ap, consK_ap, consK2_ap, aCB_ap, cbK_ap, aNoPart_ap, aPart_ap, partK_ap, aSl_ap, slK_ap, slK2_ap, slK3_ap, aBM_ap, bmK_ap, bmK2_ap, aBM0_ap, bmK0_ap, aPut_ap, putK_ap, putK1_ap, putK2_ap, aFor_ap, forK_n, aRng1_ap, aRng2_ap, aIt_ap, itK_l, itK_t, itK_s, itK_x, itK_c, itK_f, aCallG_ap, List.getElem?_cons_zero, List.getElem?_cons_succ, List.set_cons_zero, List.set_cons_succ, List.length_cons, List.length_nil, Nat.zero_add, Nat.reduceAdd, Option.map_some, Option.map_none, Option.bind_some, Option.bind_none, List.map_cons, List.map_nil, aName, aNameF, fz, rtv, wAt, toM, vw, frz_lst, frz_d, lvs_map, oIx2_var, ixV_w, ixV_p, ixV_k, ixL_some, lfAt_nat, lf_d, oIx2_l, oIx2_t, Y.atI_nat, putF_var, putV_w, putV_p, oEq_int, oNe_int, oLtA_int, oIntA_int, oIntA_bool, oLenV_l, oLenV_t, oI0_ap, oB0_ap, oAdd_int, rNeg, lfAt_0, stL_0, Y.atI_0, lfAt_1, stL_1, Y.atI_1, lfAt_2, stL_2, Y.atI_2, lfAt_3, stL_3, Y.atI_3, lfAt_4, stL_4, Y.atI_4, lfAt_5, stL_5, Y.atI_5, lfAt_6, stL_6, Y.atI_6, lfAt_7, stL_7, Y.atI_7, Nat.reduceLeDiff, Int.reduceLT, Int.reduceLE, List.cons_append, List.nil_append, decide_true, decide_false, if_true, if_false, sizeLine_eq, aLc_ap, Bool.false_eq_true, oIsN_lst, e1, e2, e3, e4, e5, e6, e7, oNe_bool, beq_self_eq_true, Bool.not_true, List.length_map, hr, ef]
theorem same_tup {pr : Den} {ds : List PyData} (hl : ds.length ≤ 10000) (hp : ∀ d ∈ ds, pr [.d d, .d d] = some (.ok (.d (.bool true)) [none, none])) : b__law_same pr [some (.d (.tuple ds)), some (.d (.tuple ds)), none] = some (.rt (.d (.bool true)) [some (.d (.tuple ds)), some (.d (.tuple ds)), none]) := by
  have e1 := isi_d (n := "bool") (s := [some (.d (.tuple ds)), some (.d (.tuple ds)), none]) (i := 1) (d := (.tuple ds)) (b := false) rfl rfl
  have e2 := isi_d (n := "int") (s := [some (.d (.tuple ds)), some (.d (.tuple ds)), none]) (i := 1) (d := (.tuple ds)) (b := false) rfl rfl
  have e3 := isi_d (n := "str") (s := [some (.d (.tuple ds)), some (.d (.tuple ds)), none]) (i := 1) (d := (.tuple ds)) (b := false) rfl rfl
  have e4 := isi_d (n := "list") (s := [some (.d (.tuple ds)), some (.d (.tuple ds)), none]) (i := 1) (d := (.tuple ds)) (b := false) rfl rfl
  have e5 := isi_d (d := .tuple ds) (n := "list") (s := [some (.d (.tuple ds)), some (.d (.tuple ds)), none]) (i := 0) (b := false) rfl rfl
  have e6 := isi_d (n := "tuple") (s := [some (.d (.tuple ds)), some (.d (.tuple ds)), none]) (i := 1) (d := (.tuple ds)) (b := true) rfl rfl
  have e7 := isi_d (d := .tuple ds) (n := "tuple") (s := [some (.d (.tuple ds)), some (.d (.tuple ds)), none]) (i := 0) (b := true) rfl rfl
  have hr : ∀ s, rngK1 [.d (.int (ds.length : Nat))] s = some (.ok (rng 0 ds.length, none) s) := fun s => rngK1_ap (by omega)
  obtain ⟨s', ef, hs⟩ := forGo_inv (Ga := aNameF 2) (S := f__law_same_0 pr) (ds := rng 0 ds.length) (fun i s => s = [some (.d (.tuple ds)), some (.d (.tuple ds)), none]) (fun i d s hd h => by
    obtain ⟨rfl, hi⟩ := rng_get0 hd
    subst h
    have et := List.getElem?_eq_getElem hi
    refine ⟨_, _, rfl, .inl ?_, rfl⟩
    show f__law_same_0 pr [some (.d (.tuple ds)), some (.d (.tuple ds)), some (.d (.int (i : Nat)))] = _
    unfold f__law_same_0
    simp only [aSeq_ap, seqK_nx, seqK_rt, seqK_bk, seqK_ct, seqK_none, aNext_ap, aBrk_ap, aCont_ap, aAsg_ap, asgK_ap, nxR_some, aDrop_ap, dropK_ap, aIfS_ap, ifK_t, ifK_f, aRet_ap, retK_ap, rtR_some, aRetN_ap, aKill_ap, List.foldl_cons, List.foldl_nil, sb_okN, bd_okN, mapR_some, aC_ap, aXT_ap, aVar_ap, varK_d, varK_x, varK_w, varK_p, varK_k, aOp_ap, opK_ap, opK2_ap, aFz_ap, aUn_ap, aB_ap, bK_ap, aAnd_ap, andK_t, andK_f, aOr_ap, orK_t, orK_f, aNot_ap, notK_ap, aTru_ap, truK_ap, aYes_ap, aAndV_ap, andVK_t, andVK_f, aOrV_ap, orVK_t, orVK_f, aNotV_ap, notVK_ap, aIf_ap, ifEK_t, ifEK_f, aNil_ap, aCons_ap, consK_ap, consK2_ap, aCB_ap, cbK_ap, aNoPart_ap, aPart_ap, partK_ap, aSl_ap, slK_ap, slK2_ap, slK3_ap, aBM_ap, bmK_ap, bmK2_ap, aBM0_ap, bmK0_ap, aPut_ap, putK_ap, putK1_ap, putK2_ap, aFor_ap, forK_n, aRng1_ap, aRng2_ap, aIt_ap, itK_l, itK_t, itK_s, itK_x, itK_c, itK_f, aCallG_ap, List.getElem?_cons_zero, List.getElem?_cons_succ, List.set_cons_zero, List.set_cons_succ, List.length_cons, List.length_nil, Nat.zero_add, Nat.reduceAdd, Option.map_some, Option.map_none, Option.bind_some, Option.bind_none, List.map_cons, List.map_nil, aName, aNameF, fz, rtv, wAt, toM, vw, frz_lst, frz_d, lvs_map, oIx2_var, ixV_w, ixV_p, ixV_k, ixL_some, lfAt_nat, lf_d, oIx2_l, oIx2_t, Y.atI_nat, putF_var, putV_w, putV_p, oEq_int, oNe_int, oLtA_int, oIntA_int, oIntA_bool, oLenV_l, oLenV_t, oI0_ap, oB0_ap, oAdd_int, rNeg, lfAt_0, stL_0, Y.atI_0, lfAt_1, stL_1, Y.atI_1, lfAt_2, stL_2, Y.atI_2, lfAt_3, stL_3, Y.atI_3, lfAt_4, stL_4, Y.atI_4, lfAt_5, stL_5, Y.atI_5, lfAt_6, stL_6, Y.atI_6, lfAt_7, stL_7, Y.atI_7, Nat.reduceLeDiff, Int.reduceLT, Int.reduceLE, List.cons_append, List.nil_append, decide_true, decide_false, if_true, if_false, sizeLine_eq, aLc_ap, Bool.false_eq_true, List.getElem?_map, et, call_f2 (hp _ (List.getElem_mem hi)), Bool.not_true]) (s := [some (.d (.tuple ds)), some (.d (.tuple ds)), none]) rfl
  subst hs
  unfold b__law_same
  simp only [aSeq_ap, seqK_nx, seqK_rt, seqK_bk, seqK_ct, seqK_none, aNext_ap, aBrk_ap, aCont_ap, aAsg_ap, asgK_ap, nxR_some, aDrop_ap, dropK_ap, aIfS_ap, ifK_t, ifK_f, aRet_ap, retK_ap, rtR_some, aRetN_ap, aKill_ap, List.foldl_cons, List.foldl_nil, sb_okN, bd_okN, mapR_some, aC_ap, aXT_ap, aVar_ap, varK_d, varK_x, varK_w, varK_p, varK_k, aOp_ap, opK_ap, opK2_ap, aFz_ap, aUn_ap, aB_ap, bK_ap, aAnd_ap, andK_t, andK_f, aOr_ap, orK_t, orK_f, aNot_ap, notK_ap, aTru_ap, truK_ap, aYes_ap, aAndV_ap, andVK_t, andVK_f, aOrV_ap, orVK_t, orVK_f, aNotV_ap, notVK_ap, aIf_ap, ifEK_t, ifEK_f, aNil_ap, aCons_ap, consK_ap, consK2_ap, aCB_ap, cbK_ap, aNoPart_ap, aPart_ap, partK_ap, aSl_ap, slK_ap, slK2_ap, slK3_ap, aBM_ap, bmK_ap, bmK2_ap, aBM0_ap, bmK0_ap, aPut_ap, putK_ap, putK1_ap, putK2_ap, aFor_ap, forK_n, aRng1_ap, aRng2_ap, aIt_ap, itK_l, itK_t, itK_s, itK_x, itK_c, itK_f, aCallG_ap, List.getElem?_cons_zero, List.getElem?_cons_succ, List.set_cons_zero, List.set_cons_succ, List.length_cons, List.length_nil, Nat.zero_add, Nat.reduceAdd, Option.map_some, Option.map_none, Option.bind_some, Option.bind_none, List.map_cons, List.map_nil, aName, aNameF, fz, rtv, wAt, toM, vw, frz_lst, frz_d, lvs_map, oIx2_var, ixV_w, ixV_p, ixV_k, ixL_some, lfAt_nat, lf_d, oIx2_l, oIx2_t, Y.atI_nat, putF_var, putV_w, putV_p, oEq_int, oNe_int, oLtA_int, oIntA_int, oIntA_bool, oLenV_l, oLenV_t, oI0_ap, oB0_ap, oAdd_int, rNeg, lfAt_0, stL_0, Y.atI_0, lfAt_1, stL_1, Y.atI_1, lfAt_2, stL_2, Y.atI_2, lfAt_3, stL_3, Y.atI_3, lfAt_4, stL_4, Y.atI_4, lfAt_5, stL_5, Y.atI_5, lfAt_6, stL_6, Y.atI_6, lfAt_7, stL_7, Y.atI_7, Nat.reduceLeDiff, Int.reduceLT, Int.reduceLE, List.cons_append, List.nil_append, decide_true, decide_false, if_true, if_false, sizeLine_eq, aLc_ap, Bool.false_eq_true, oIsN_tup, e1, e2, e3, e4, e5, e6, e7, oNe_bool, beq_self_eq_true, Bool.not_true, List.length_map, hr, ef]
theorem same_own {pr : Den} {ds : List PyData} (hl : ds.length ≤ 10000) (hp : ∀ d ∈ ds, pr [.d d, .d d] = some (.ok (.d (.bool true)) [none, none])) : b__law_same pr [some (.k (.lst (ds.map MV.d))), some (.d (.list ds)), none] = some (.rt (.d (.bool true)) [some (.k (.lst (ds.map MV.d))), some (.d (.list ds)), none]) := by
  have e1 := isi_d (n := "bool") (s := [some (.k (.lst (ds.map MV.d))), some (.d (.list ds)), none]) (i := 1) (d := (.list ds)) (b := false) rfl rfl
  have e2 := isi_d (n := "int") (s := [some (.k (.lst (ds.map MV.d))), some (.d (.list ds)), none]) (i := 1) (d := (.list ds)) (b := false) rfl rfl
  have e3 := isi_d (n := "str") (s := [some (.k (.lst (ds.map MV.d))), some (.d (.list ds)), none]) (i := 1) (d := (.list ds)) (b := false) rfl rfl
  have e4 := isi_d (n := "list") (s := [some (.k (.lst (ds.map MV.d))), some (.d (.list ds)), none]) (i := 1) (d := (.list ds)) (b := true) rfl rfl
  have e5 := isi_k (m := .lst (ds.map MV.d)) (n := "list") (s := [some (.k (.lst (ds.map MV.d))), some (.d (.list ds)), none]) (i := 0) (b := true) rfl rfl
  have e6 := isi_d (n := "tuple") (s := [some (.k (.lst (ds.map MV.d))), some (.d (.list ds)), none]) (i := 1) (d := (.list ds)) (b := false) rfl rfl
  have e7 := isi_k (m := .lst (ds.map MV.d)) (n := "tuple") (s := [some (.k (.lst (ds.map MV.d))), some (.d (.list ds)), none]) (i := 0) (b := false) rfl rfl
  have hr : ∀ s, rngK1 [.d (.int (ds.length : Nat))] s = some (.ok (rng 0 ds.length, none) s) := fun s => rngK1_ap (by omega)
  obtain ⟨s', ef, hs⟩ := forGo_inv (Ga := aNameF 2) (S := f__law_same_0 pr) (ds := rng 0 ds.length) (fun i s => s = [some (.k (.lst (ds.map MV.d))), some (.d (.list ds)), none]) (fun i d s hd h => by
    obtain ⟨rfl, hi⟩ := rng_get0 hd
    subst h
    have et := List.getElem?_eq_getElem hi
    refine ⟨_, _, rfl, .inl ?_, rfl⟩
    show f__law_same_0 pr [some (.k (.lst (ds.map MV.d))), some (.d (.list ds)), some (.d (.int (i : Nat)))] = _
    unfold f__law_same_0
    simp only [aSeq_ap, seqK_nx, seqK_rt, seqK_bk, seqK_ct, seqK_none, aNext_ap, aBrk_ap, aCont_ap, aAsg_ap, asgK_ap, nxR_some, aDrop_ap, dropK_ap, aIfS_ap, ifK_t, ifK_f, aRet_ap, retK_ap, rtR_some, aRetN_ap, aKill_ap, List.foldl_cons, List.foldl_nil, sb_okN, bd_okN, mapR_some, aC_ap, aXT_ap, aVar_ap, varK_d, varK_x, varK_w, varK_p, varK_k, aOp_ap, opK_ap, opK2_ap, aFz_ap, aUn_ap, aB_ap, bK_ap, aAnd_ap, andK_t, andK_f, aOr_ap, orK_t, orK_f, aNot_ap, notK_ap, aTru_ap, truK_ap, aYes_ap, aAndV_ap, andVK_t, andVK_f, aOrV_ap, orVK_t, orVK_f, aNotV_ap, notVK_ap, aIf_ap, ifEK_t, ifEK_f, aNil_ap, aCons_ap, consK_ap, consK2_ap, aCB_ap, cbK_ap, aNoPart_ap, aPart_ap, partK_ap, aSl_ap, slK_ap, slK2_ap, slK3_ap, aBM_ap, bmK_ap, bmK2_ap, aBM0_ap, bmK0_ap, aPut_ap, putK_ap, putK1_ap, putK2_ap, aFor_ap, forK_n, aRng1_ap, aRng2_ap, aIt_ap, itK_l, itK_t, itK_s, itK_x, itK_c, itK_f, aCallG_ap, List.getElem?_cons_zero, List.getElem?_cons_succ, List.set_cons_zero, List.set_cons_succ, List.length_cons, List.length_nil, Nat.zero_add, Nat.reduceAdd, Option.map_some, Option.map_none, Option.bind_some, Option.bind_none, List.map_cons, List.map_nil, aName, aNameF, fz, rtv, wAt, toM, vw, frz_lst, frz_d, lvs_map, oIx2_var, ixV_w, ixV_p, ixV_k, ixL_some, lfAt_nat, lf_d, oIx2_l, oIx2_t, Y.atI_nat, putF_var, putV_w, putV_p, oEq_int, oNe_int, oLtA_int, oIntA_int, oIntA_bool, oLenV_l, oLenV_t, oI0_ap, oB0_ap, oAdd_int, rNeg, lfAt_0, stL_0, Y.atI_0, lfAt_1, stL_1, Y.atI_1, lfAt_2, stL_2, Y.atI_2, lfAt_3, stL_3, Y.atI_3, lfAt_4, stL_4, Y.atI_4, lfAt_5, stL_5, Y.atI_5, lfAt_6, stL_6, Y.atI_6, lfAt_7, stL_7, Y.atI_7, Nat.reduceLeDiff, Int.reduceLT, Int.reduceLE, List.cons_append, List.nil_append, decide_true, decide_false, if_true, if_false, sizeLine_eq, aLc_ap, Bool.false_eq_true, List.getElem?_map, et, call_f2 (hp _ (List.getElem_mem hi)), Bool.not_true]) (s := [some (.k (.lst (ds.map MV.d))), some (.d (.list ds)), none]) rfl
  subst hs
  have hlen : vA oLenA [some (SV.k (.lst (ds.map MV.d))), some (.d (.list ds)), none] [.var 0] = some (.d (.int (ds.length : Nat)), [some (SV.k (.lst (ds.map MV.d))), some (.d (.list ds)), none]) := by
    rw [oLenV_vw (ms := ds.map MV.d) (vw_k rfl), List.length_map]
  unfold b__law_same
  simp only [aSeq_ap, seqK_nx, seqK_rt, seqK_bk, seqK_ct, seqK_none, aNext_ap, aBrk_ap, aCont_ap, aAsg_ap, asgK_ap, nxR_some, aDrop_ap, dropK_ap, aIfS_ap, ifK_t, ifK_f, aRet_ap, retK_ap, rtR_some, aRetN_ap, aKill_ap, List.foldl_cons, List.foldl_nil, sb_okN, bd_okN, mapR_some, aC_ap, aXT_ap, aVar_ap, varK_d, varK_x, varK_w, varK_p, varK_k, aOp_ap, opK_ap, opK2_ap, aFz_ap, aUn_ap, aB_ap, bK_ap, aAnd_ap, andK_t, andK_f, aOr_ap, orK_t, orK_f, aNot_ap, notK_ap, aTru_ap, truK_ap, aYes_ap, aAndV_ap, andVK_t, andVK_f, aOrV_ap, orVK_t, orVK_f, aNotV_ap, notVK_ap, aIf_ap, ifEK_t, ifEK_f, aNil_ap, aCons_ap, consK_ap, consK2_ap, aCB_ap, cbK_ap, aNoPart_ap, aPart_ap, partK_ap, aSl_ap, slK_ap, slK2_ap, slK3_ap, aBM_ap, bmK_ap, bmK2_ap, aBM0_ap, bmK0_ap, aPut_ap, putK_ap, putK1_ap, putK2_ap, aFor_ap, forK_n, aRng1_ap, aRng2_ap, aIt_ap, itK_l, itK_t, itK_s, itK_x, itK_c, itK_f, aCallG_ap, List.getElem?_cons_zero, List.getElem?_cons_succ, List.set_cons_zero, List.set_cons_succ, List.length_cons, List.length_nil, Nat.zero_add, Nat.reduceAdd, Option.map_some, Option.map_none, Option.bind_some, Option.bind_none, List.map_cons, List.map_nil, aName, aNameF, fz, rtv, wAt, toM, vw, frz_lst, frz_d, lvs_map, oIx2_var, ixV_w, ixV_p, ixV_k, ixL_some, lfAt_nat, lf_d, oIx2_l, oIx2_t, Y.atI_nat, putF_var, putV_w, putV_p, oEq_int, oNe_int, oLtA_int, oIntA_int, oIntA_bool, oLenV_l, oLenV_t, oI0_ap, oB0_ap, oAdd_int, rNeg, lfAt_0, stL_0, Y.atI_0, lfAt_1, stL_1, Y.atI_1, lfAt_2, stL_2, Y.atI_2, lfAt_3, stL_3, Y.atI_3, lfAt_4, stL_4, Y.atI_4, lfAt_5, stL_5, Y.atI_5, lfAt_6, stL_6, Y.atI_6, lfAt_7, stL_7, Y.atI_7, Nat.reduceLeDiff, Int.reduceLT, Int.reduceLE, List.cons_append, List.nil_append, decide_true, decide_false, if_true, if_false, sizeLine_eq, aLc_ap, Bool.false_eq_true, oIsN_lst, e1, e2, e3, e4, e5, e6, e7, oNe_bool, beq_self_eq_true, Bool.not_true, List.length_map, hr, ef, hlen]
theorem same2_str {n : Nat} {x : Str} (hx : PyData.strOk x = true) : den__law_same (n + 1) [.d (.str x), .d (.str x)] = some (.ok (.d (.bool true)) [none, none]) := by
  have hs : start0 3 [.d (.str x), .d (.str x)] = [some (.d (.str x)), some (.d (.str x)), none] := rfl
  show Y.run 2 3 false (b__law_same (den__law_same n)) [.d (.str x), .d (.str x)] = _
  unfold Y.run
  rw [hs, same_str hx]
  rfl
theorem same2_int {n : Nat} {x : Int} : den__law_same (n + 1) [.d (.int x), .d (.int x)] = some (.ok (.d (.bool true)) [none, none]) := by
  have hs : start0 3 [.d (.int x), .d (.int x)] = [some (.d (.int x)), some (.d (.int x)), none] := rfl
  show Y.run 2 3 false (b__law_same (den__law_same n)) [.d (.int x), .d (.int x)] = _
  unfold Y.run
  rw [hs, same_int]
  rfl
theorem same2_tup {n : Nat} {ds : List PyData} (hl : ds.length ≤ 10000) (hp : ∀ d ∈ ds, den__law_same n [.d d, .d d] = some (.ok (.d (.bool true)) [none, none])) : den__law_same (n + 1) [.d (.tuple ds), .d (.tuple ds)] = some (.ok (.d (.bool true)) [none, none]) := by
  have hs : start0 3 [.d (.tuple ds), .d (.tuple ds)] = [some (.d (.tuple ds)), some (.d (.tuple ds)), none] := rfl
  show Y.run 2 3 false (b__law_same (den__law_same n)) [.d (.tuple ds), .d (.tuple ds)] = _
  unfold Y.run
  rw [hs, same_tup hl hp]
  rfl
theorem same2_list {n : Nat} {ds : List PyData} (hl : ds.length ≤ 10000) (hp : ∀ d ∈ ds, den__law_same n [.d d, .d d] = some (.ok (.d (.bool true)) [none, none])) : den__law_same (n + 1) [.d (.list ds), .d (.list ds)] = some (.ok (.d (.bool true)) [none, none]) := by
  have hs : start0 3 [.d (.list ds), .d (.list ds)] = [some (.d (.list ds)), some (.d (.list ds)), none] := rfl
  show Y.run 2 3 false (b__law_same (den__law_same n)) [.d (.list ds), .d (.list ds)] = _
  unfold Y.run
  rw [hs, same_list hl hp]
  rfl
theorem same2_own {n : Nat} {ds : List PyData} (hl : ds.length ≤ 10000) (hp : ∀ d ∈ ds, den__law_same n [.d d, .d d] = some (.ok (.d (.bool true)) [none, none])) : den__law_same (n + 1) [.k (.lst (ds.map MV.d)), .d (.list ds)] = some (.ok (.d (.bool true)) [none, none]) := by
  have hs : start0 3 [.k (.lst (ds.map MV.d)), .d (.list ds)] = [some (.k (.lst (ds.map MV.d))), some (.d (.list ds)), none] := rfl
  show Y.run 2 3 false (b__law_same (den__law_same n)) [.k (.lst (ds.map MV.d)), .d (.list ds)] = _
  unfold Y.run
  rw [hs, same_own hl hp]
  rfl
theorem kind_ok (w : List Nat) : PyData.strOk (kindL w) = true := by
  unfold kindL
  split
  · decide +kernel
  · split <;> decide +kernel
theorem same_tok {n : Nat} {t : List Nat × Nat} (h : TokW t.1) : den__law_same (n + 2) [.d (tokD t), .d (tokD t)] = some (.ok (.d (.bool true)) [none, none]) := same2_tup (by show 3 ≤ _; omega) fun d hd => by
  simp only [List.mem_cons, List.not_mem_nil, or_false] at hd
  rcases hd with rfl | rfl | rfl
  · exact same2_str (kind_ok _)
  · exact same2_str (strOk_of (tok_low h))
  · exact same2_int

end Lw

namespace Lw
open PySem PySem.Spec PyProof.Rows L2 Y PySem.W TL
/-! ### the law -/
theorem lcGo_inv {Ga : AG} {C : AT} {E : AE} {vs : List Nat} {ds : List PyData} (P : Nat → List MV → SL → Prop) (step : ∀ (i : Nat) (d : PyData) (ms : List MV) (W : SL), ds[i]? = some d → P i ms W → ∃ s1 s2 t s3 m s4, Ga (.d d) W = some s1 ∧ C s1 = some (.ok true s2) ∧ E s2 = some (.ok t s3) ∧ toM s3 t = some (m, s4) ∧ P (i + 1) (ms ++ [m]) (wipeA s4 vs)) {W : SL} (h0 : P 0 [] W) :
    ∃ ms W', lcGo Ga C E vs ds W = some (ms, W') ∧ P ds.length ms W' := by
  have main : ∀ (k i : Nat) (ms : List MV) (W : SL), ds.length - i = k → i ≤ ds.length → P i ms W → ∃ ms2 W', lcGo Ga C E vs (ds.drop i) W = some (ms2, W') ∧ P ds.length (ms ++ ms2) W' := by
    intro k
    induction k with
    | zero =>
      intro i ms W hk hi h
      have : i = ds.length := by omega
      subst this
      rw [List.drop_length]
      exact ⟨[], W, rfl, by rw [List.append_nil]; exact h⟩
    | succ k ih =>
      intro i ms W hk hi h
      have hlt : i < ds.length := by omega
      obtain ⟨s1, s2, t, s3, m, s4, e1, e2, e3, e4, h2⟩ := step i ds[i] ms W (List.getElem?_eq_getElem hlt) h
      obtain ⟨ms2, W', e5, h3⟩ := ih (i + 1) _ _ (by omega) hlt h2
      refine ⟨m :: ms2, W', ?_, by rw [List.append_assoc] at h3; exact h3⟩
      rw [List.drop_eq_getElem_cons hlt]
      unfold lcGo
      rw [e1]
      show (match C s1 with
        | some (.ok true s2) => match E s2 with
          | some (.ok t s3) => (toM s3 t).bind fun r => (lcGo Ga C E vs (ds.drop (i + 1)) (wipeA r.2 vs)).map fun q : List MV × SL => (r.1 :: q.1, q.2)
          | _ => none
        | some (.ok false s2) => lcGo Ga C E vs (ds.drop (i + 1)) (wipeA s2 vs)
        | _ => none) = _
      rw [e2]
      dsimp only
      rw [e3]
      dsimp only
      rw [e4]
      show (lcGo Ga C E vs (ds.drop (i + 1)) (wipeA s4 vs)).map (fun q : List MV × SL => (m :: q.1, q.2)) = _
      rw [e5]
      rfl
  obtain ⟨ms, W', e, h⟩ := main ds.length 0 [] W (by omega) (Nat.zero_le _) h0
  rw [List.drop_zero] at e
  exact ⟨ms, W', e, h⟩
theorem lcK_of {Ga : AG} {C : AT} {E : AE} {vs : List Nat} {ds : List PyData} {s W : SL} {ms : List MV} (hl : ds.length ≤ 16777216) (e : lcGo Ga C E vs ds (wipeA s vs) = some (ms, W)) : lcK Ga C E vs (ds, none) s = some (.ok (.t (.lst ms)) (restA s W vs)) := by
  rw [lcK_n (by rw [sizeLine_eq]; exact hl), e]
  rfl
theorem call_rf {den : Den} {i : Nat} {m : MV} {b : PyData} {t : TV} {s : SL} (hm : ctAt s i = some m) (h : den [.k m, .d b] = some (.ok t [none, none])) : callK false den [.r i, .f] [.var i, .d b] s = some (.ok t s) := by
  simp only [callK, unsub, Option.map_none, callT, argF, argF1, fz, Option.bind_some, Option.map_some, argM, argM1, if_true, hm, h, argB, argB1]
theorem call_tf {den : Den} {m : MV} {a b : PyData} {t : TV} {s : SL} (e : frz m = some a) (h : den [.d a, .d b] = some (.ok t [none, none])) : callK false den [.f, .f] [.t m, .d b] s = some (.ok t s) := by
  simp only [callK, unsub, Option.map_none, callT, argF, argF1, fz, Option.bind_some, Option.map_some, argM, argM1, e, h, argB, argB1]
theorem words_made {x : SV} {m : MV} {k : PyData} {n : Nat} (hm : IsSt m) (hn : n ≤ 60) : ∃ ws m', (∀ w ∈ ws, TokW w) ∧ ws.length = n ∧ IsSt m' ∧
  lcK (aNameF 8) aYes (aCallG false den__law_token [.m 1] (aCons (aVar 1) aNil)) [8] (rng 0 n, none) [some x, some (.w m), some (.d k), none, none, none, none, none, none] = some (.ok (.t (.lst ((strsL ws).map MV.d))) [some x, some (.w m'), some (.d k), none, none, none, none, none, none]) := by
  obtain ⟨ms, W, e, ws, m', h1, h2, i1, rfl, rfl⟩ := lcGo_inv (Ga := aNameF 8) (C := aYes) (E := aCallG false den__law_token [.m 1] (aCons (aVar 1) aNil)) (vs := [8]) (ds := rng 0 n) (fun i ms W => ∃ ws m', (∀ w ∈ ws, TokW w) ∧ ws.length = i ∧ IsSt m' ∧ ms = (strsL ws).map MV.d ∧ W = [some x, some (.w m'), some (.d k), none, none, none, none, none, none]) (fun i d ms W hd hp => by
    obtain ⟨ws, m1, h1, h2, i1, rfl, rfl⟩ := hp
    obtain ⟨w, m2, tw, i2, e2⟩ := rd__law_token i1
    refine ⟨_, [some x, some (.w m1), some (.d k), none, none, none, none, none, some (.d d)], .d (strD w), [some x, some (.w m2), some (.d k), none, none, none, none, none, some (.d d)], .d (strD w), [some x, some (.w m2), some (.d k), none, none, none, none, none, some (.d d)], rfl, rfl, ?_, rfl, ws ++ [w], m2, fun v hv => ?_, by rw [List.length_append, h2]; rfl, i2, by simp, rfl⟩
    · simp only [aSeq_ap, seqK_nx, seqK_rt, seqK_bk, seqK_ct, seqK_none, aNext_ap, aBrk_ap, aCont_ap, aAsg_ap, asgK_ap, nxR_some, aDrop_ap, dropK_ap, aIfS_ap, ifK_t, ifK_f, aRet_ap, retK_ap, rtR_some, aRetN_ap, aKill_ap, List.foldl_cons, List.foldl_nil, sb_okN, bd_okN, mapR_some, aC_ap, aXT_ap, aVar_ap, varK_d, varK_x, varK_w, varK_p, varK_k, aOp_ap, opK_ap, opK2_ap, aFz_ap, aUn_ap, aB_ap, bK_ap, aAnd_ap, andK_t, andK_f, aOr_ap, orK_t, orK_f, aNot_ap, notK_ap, aTru_ap, truK_ap, aYes_ap, aAndV_ap, andVK_t, andVK_f, aOrV_ap, orVK_t, orVK_f, aNotV_ap, notVK_ap, aIf_ap, ifEK_t, ifEK_f, aNil_ap, aCons_ap, consK_ap, consK2_ap, aCB_ap, cbK_ap, aNoPart_ap, aPart_ap, partK_ap, aSl_ap, slK_ap, slK2_ap, slK3_ap, aBM_ap, bmK_ap, bmK2_ap, aBM0_ap, bmK0_ap, aPut_ap, putK_ap, putK1_ap, putK2_ap, aFor_ap, forK_n, aRng1_ap, aRng2_ap, aIt_ap, itK_l, itK_t, itK_s, itK_x, itK_c, itK_f, aCallG_ap, List.getElem?_cons_zero, List.getElem?_cons_succ, List.set_cons_zero, List.set_cons_succ, List.length_cons, List.length_nil, Nat.zero_add, Nat.reduceAdd, Option.map_some, Option.map_none, Option.bind_some, Option.bind_none, List.map_cons, List.map_nil, aName, aNameF, fz, rtv, wAt, toM, vw, frz_lst, frz_d, lvs_map, oIx2_var, ixV_w, ixV_p, ixV_k, ixL_some, lfAt_nat, lf_d, oIx2_l, oIx2_t, Y.atI_nat, putF_var, putV_w, putV_p, oEq_int, oNe_int, oLtA_int, oIntA_int, oIntA_bool, oLenV_l, oLenV_t, oI0_ap, oB0_ap, oAdd_int, rNeg, lfAt_0, stL_0, Y.atI_0, lfAt_1, stL_1, Y.atI_1, lfAt_2, stL_2, Y.atI_2, lfAt_3, stL_3, Y.atI_3, lfAt_4, stL_4, Y.atI_4, lfAt_5, stL_5, Y.atI_5, lfAt_6, stL_6, Y.atI_6, lfAt_7, stL_7, Y.atI_7, Nat.reduceLeDiff, Int.reduceLT, Int.reduceLE, List.cons_append, List.nil_append, decide_true, decide_false, if_true, if_false, sizeLine_eq, aLc_ap, Bool.false_eq_true, call_w1 e2]
    · rcases List.mem_append.mp hv with h | h
      · exact h1 v h
      · rw [List.mem_singleton.mp h]; exact tw) (W := [some x, some (.w m), some (.d k), none, none, none, none, none, none]) ⟨[], m, (fun _ h => nomatch h), rfl, hm, rfl, rfl⟩
  rw [rng_len] at h2
  refine ⟨ws, m', h1, h2, i1, ?_⟩
  rw [lcK_of (W := [some x, some (.w m'), some (.d k), none, none, none, none, none, none]) (by rw [rng_len]; omega) e]
  rfl
theorem law_step {x : SV} {m : MV} {k : PyData} (hm : IsSt m) : ∃ m', IsSt m' ∧
  f_law_0 [some x, some (.w m), some (.d k), none, none, none, none, none, none] = some (.nx [some x, some (.w m'), none, none, none, none, none, none, none]) := by
  obtain ⟨q, m1, q0, q1, i1, e1⟩ := rd__law_pick hm (many := 31) (by omega) (by omega)
  obtain ⟨n, rfl⟩ := Int.eq_ofNat_of_zero_le q0
  obtain ⟨ws, m2, hw, hlen, i2, e2⟩ := words_made (x := x) (k := k) (n := n) i1 (by omega)
  obtain ⟨is, b, m3, g1, g2, g3, g4, i3, e3⟩ := rd__law_spread i2 (ws := ws) (by omega) hw
  have il : is.length = n := by rw [← hlen, ← g1, List.length_map]
  have lo := out_len g2
  have hl : (outT is ++ b).length ≤ 10000 := by rw [List.length_append]; omega
  have wa : (wordsAt 0 is).map (·.1) = ws := by rw [wordsAt_fst, g1]
  have wl : (wordsAt 0 is).length = n := by rw [← List.length_map (f := (·.1)), wa, hlen]
  have tok : ∀ t ∈ wordsAt 0 is, TokW t.1 := fun t ht => hw _ (by rw [← wa]; exact List.mem_map.mpr ⟨t, ht, rfl⟩)
  have ed := rd__law_due (ts := wordsAt 0 is) (by omega) tok
  rw [wa] at ed
  have et := rd_tokenize g2 g3 hl (by omega)
  have all : ∀ d ∈ (wordsAt 0 is).map tokD, den__law_same 3 [.d d, .d d] = some (.ok (.d (.bool true)) [none, none]) := fun d hd => by
    obtain ⟨t, ht, rfl⟩ := List.mem_map.mp hd
    exact same_tok (n := 1) (tok t ht)
  have es := same2_own (n := 3) (ds := (wordsAt 0 is).map tokD) (by rw [List.length_map]; omega) all
  have es2 := same2_list (n := 3) (ds := (wordsAt 0 is).map tokD) (by rw [List.length_map]; omega) all
  have hr : ∀ s, rngK1 [.d (.int (n : Nat))] s = some (.ok (rng 0 n, none) s) := fun s => rngK1_ap (by omega)
  have hg : ∀ (s : SL) (a b : PyData), aGTup 2 (aGCons (aNameF 4) (aGCons (aNameF 5) aGNil)) (.d (.tuple [a, b])) s = some ((s.set 4 (some (.d a))).set 5 (some (.d b))) := fun s a b => rfl
  have hn : ((wordsAt 0 is).map tokD).length < 16777216 := by rw [List.length_map]; omega
  refine ⟨m3, i3, ?_⟩
  unfold f_law_0
  simp only [aSeq_ap, seqK_nx, seqK_rt, seqK_bk, seqK_ct, seqK_none, aNext_ap, aBrk_ap, aCont_ap, aAsg_ap, asgK_ap, nxR_some, aDrop_ap, dropK_ap, aIfS_ap, ifK_t, ifK_f, aRet_ap, retK_ap, rtR_some, aRetN_ap, aKill_ap, List.foldl_cons, List.foldl_nil, sb_okN, bd_okN, mapR_some, aC_ap, aXT_ap, aVar_ap, varK_d, varK_x, varK_w, varK_p, varK_k, aOp_ap, opK_ap, opK2_ap, aFz_ap, aUn_ap, aB_ap, bK_ap, aAnd_ap, andK_t, andK_f, aOr_ap, orK_t, orK_f, aNot_ap, notK_ap, aTru_ap, truK_ap, aYes_ap, aAndV_ap, andVK_t, andVK_f, aOrV_ap, orVK_t, orVK_f, aNotV_ap, notVK_ap, aIf_ap, ifEK_t, ifEK_f, aNil_ap, aCons_ap, consK_ap, consK2_ap, aCB_ap, cbK_ap, aNoPart_ap, aPart_ap, partK_ap, aSl_ap, slK_ap, slK2_ap, slK3_ap, aBM_ap, bmK_ap, bmK2_ap, aBM0_ap, bmK0_ap, aPut_ap, putK_ap, putK1_ap, putK2_ap, aFor_ap, forK_n, aRng1_ap, aRng2_ap, aIt_ap, itK_l, itK_t, itK_s, itK_x, itK_c, itK_f, aCallG_ap, List.getElem?_cons_zero, List.getElem?_cons_succ, List.set_cons_zero, List.set_cons_succ, List.length_cons, List.length_nil, Nat.zero_add, Nat.reduceAdd, Option.map_some, Option.map_none, Option.bind_some, Option.bind_none, List.map_cons, List.map_nil, aName, aNameF, fz, rtv, wAt, toM, vw, frz_lst, frz_d, lvs_map, oIx2_var, ixV_w, ixV_p, ixV_k, ixL_some, lfAt_nat, lf_d, oIx2_l, oIx2_t, Y.atI_nat, putF_var, putV_w, putV_p, oEq_int, oNe_int, oLtA_int, oIntA_int, oIntA_bool, oLenV_l, oLenV_t, oI0_ap, oB0_ap, oAdd_int, rNeg, lfAt_0, stL_0, Y.atI_0, lfAt_1, stL_1, Y.atI_1, lfAt_2, stL_2, Y.atI_2, lfAt_3, stL_3, Y.atI_3, lfAt_4, stL_4, Y.atI_4, lfAt_5, stL_5, Y.atI_5, lfAt_6, stL_6, Y.atI_6, lfAt_7, stL_7, Y.atI_7, Nat.reduceLeDiff, Int.reduceLT, Int.reduceLE, List.cons_append, List.nil_append, decide_true, decide_false, if_true, if_false, sizeLine_eq, aLc_ap, Bool.false_eq_true, call_w1f e1, hr, e2, call_w1f e3, hg, call_f2 ed, call_f1 et]
  rw [call_rf (m := .lst (tokM (wordsAt 0 is))) rfl es]
  simp only [aSeq_ap, seqK_nx, seqK_rt, seqK_bk, seqK_ct, seqK_none, aNext_ap, aBrk_ap, aCont_ap, aAsg_ap, asgK_ap, nxR_some, aDrop_ap, dropK_ap, aIfS_ap, ifK_t, ifK_f, aRet_ap, retK_ap, rtR_some, aRetN_ap, aKill_ap, List.foldl_cons, List.foldl_nil, sb_okN, bd_okN, mapR_some, aC_ap, aXT_ap, aVar_ap, varK_d, varK_x, varK_w, varK_p, varK_k, aOp_ap, opK_ap, opK2_ap, aFz_ap, aUn_ap, aB_ap, bK_ap, aAnd_ap, andK_t, andK_f, aOr_ap, orK_t, orK_f, aNot_ap, notK_ap, aTru_ap, truK_ap, aYes_ap, aAndV_ap, andVK_t, andVK_f, aOrV_ap, orVK_t, orVK_f, aNotV_ap, notVK_ap, aIf_ap, ifEK_t, ifEK_f, aNil_ap, aCons_ap, consK_ap, consK2_ap, aCB_ap, cbK_ap, aNoPart_ap, aPart_ap, partK_ap, aSl_ap, slK_ap, slK2_ap, slK3_ap, aBM_ap, bmK_ap, bmK2_ap, aBM0_ap, bmK0_ap, aPut_ap, putK_ap, putK1_ap, putK2_ap, aFor_ap, forK_n, aRng1_ap, aRng2_ap, aIt_ap, itK_l, itK_t, itK_s, itK_x, itK_c, itK_f, aCallG_ap, List.getElem?_cons_zero, List.getElem?_cons_succ, List.set_cons_zero, List.set_cons_succ, List.length_cons, List.length_nil, Nat.zero_add, Nat.reduceAdd, Option.map_some, Option.map_none, Option.bind_some, Option.bind_none, List.map_cons, List.map_nil, aName, aNameF, fz, rtv, wAt, toM, vw, frz_lst, frz_d, lvs_map, oIx2_var, ixV_w, ixV_p, ixV_k, ixL_some, lfAt_nat, lf_d, oIx2_l, oIx2_t, Y.atI_nat, putF_var, putV_w, putV_p, oEq_int, oNe_int, oLtA_int, oIntA_int, oIntA_bool, oLenV_l, oLenV_t, oI0_ap, oB0_ap, oAdd_int, rNeg, lfAt_0, stL_0, Y.atI_0, lfAt_1, stL_1, Y.atI_1, lfAt_2, stL_2, Y.atI_2, lfAt_3, stL_3, Y.atI_3, lfAt_4, stL_4, Y.atI_4, lfAt_5, stL_5, Y.atI_5, lfAt_6, stL_6, Y.atI_6, lfAt_7, stL_7, Y.atI_7, Nat.reduceLeDiff, Int.reduceLT, Int.reduceLE, List.cons_append, List.nil_append, decide_true, decide_false, if_true, if_false, sizeLine_eq, aLc_ap, Bool.false_eq_true, Bool.not_true, oTup_3, tyA, vw, beq_self_eq_true, mAppend_d, apV_w, List.length_map (f := MV.d), if_pos hn, call_f1 et]
  rw [call_tf (frz_lst _) es2]
  simp only [aSeq_ap, seqK_nx, seqK_rt, seqK_bk, seqK_ct, seqK_none, aNext_ap, aBrk_ap, aCont_ap, aAsg_ap, asgK_ap, nxR_some, aDrop_ap, dropK_ap, aIfS_ap, ifK_t, ifK_f, aRet_ap, retK_ap, rtR_some, aRetN_ap, aKill_ap, List.foldl_cons, List.foldl_nil, sb_okN, bd_okN, mapR_some, aC_ap, aXT_ap, aVar_ap, varK_d, varK_x, varK_w, varK_p, varK_k, aOp_ap, opK_ap, opK2_ap, aFz_ap, aUn_ap, aB_ap, bK_ap, aAnd_ap, andK_t, andK_f, aOr_ap, orK_t, orK_f, aNot_ap, notK_ap, aTru_ap, truK_ap, aYes_ap, aAndV_ap, andVK_t, andVK_f, aOrV_ap, orVK_t, orVK_f, aNotV_ap, notVK_ap, aIf_ap, ifEK_t, ifEK_f, aNil_ap, aCons_ap, consK_ap, consK2_ap, aCB_ap, cbK_ap, aNoPart_ap, aPart_ap, partK_ap, aSl_ap, slK_ap, slK2_ap, slK3_ap, aBM_ap, bmK_ap, bmK2_ap, aBM0_ap, bmK0_ap, aPut_ap, putK_ap, putK1_ap, putK2_ap, aFor_ap, forK_n, aRng1_ap, aRng2_ap, aIt_ap, itK_l, itK_t, itK_s, itK_x, itK_c, itK_f, aCallG_ap, List.getElem?_cons_zero, List.getElem?_cons_succ, List.set_cons_zero, List.set_cons_succ, List.length_cons, List.length_nil, Nat.zero_add, Nat.reduceAdd, Option.map_some, Option.map_none, Option.bind_some, Option.bind_none, List.map_cons, List.map_nil, aName, aNameF, fz, rtv, wAt, toM, vw, frz_lst, frz_d, lvs_map, oIx2_var, ixV_w, ixV_p, ixV_k, ixL_some, lfAt_nat, lf_d, oIx2_l, oIx2_t, Y.atI_nat, putF_var, putV_w, putV_p, oEq_int, oNe_int, oLtA_int, oIntA_int, oIntA_bool, oLenV_l, oLenV_t, oI0_ap, oB0_ap, oAdd_int, rNeg, lfAt_0, stL_0, Y.atI_0, lfAt_1, stL_1, Y.atI_1, lfAt_2, stL_2, Y.atI_2, lfAt_3, stL_3, Y.atI_3, lfAt_4, stL_4, Y.atI_4, lfAt_5, stL_5, Y.atI_5, lfAt_6, stL_6, Y.atI_6, lfAt_7, stL_7, Y.atI_7, Nat.reduceLeDiff, Int.reduceLT, Int.reduceLE, List.cons_append, List.nil_append, decide_true, decide_false, if_true, if_false, sizeLine_eq, aLc_ap, Bool.false_eq_true, Bool.not_true]
theorem law_true (ns : List Int) (hn : ns.length ≤ 63) : ∃ outs, den_law [.x (ns.map PyData.int)] = some (.ok (.d (.bool true)) outs) := by
  obtain ⟨m0, i0, e0⟩ := rd__law_source ns hn
  have hlen : vA oLenA [some (.x (ns.map PyData.int)), some (.w m0), none, none, none, none, none, none, none] [.x (ns.map PyData.int)] = some (.d (.int (ns.length : Nat)), [some (.x (ns.map PyData.int)), some (.w m0), none, none, none, none, none, none, none]) := by
    show (some (.d (.int (((ns.map PyData.int).map MV.d).length : Nat)), _) : Option (TV × SL)) = _
    rw [List.length_map, List.length_map]
  have hmin : ∀ (s : SL) (a b : Int), oMin s [.d (.int a), .d (.int b)] = some (.d (.int (if b < a then b else a)), s) := fun s a b => rfl
  obtain ⟨n, hn2, en⟩ : ∃ n : Nat, n ≤ 100 ∧ (5 : Int) + (if ((ns.length : Nat) : Int) < 60 then ((ns.length : Nat) : Int) else 60) = (n : Nat) := by
    by_cases h : ((ns.length : Nat) : Int) < 60
    · exact ⟨5 + ns.length, by omega, by rw [if_pos h]; omega⟩
    · exact ⟨65, by omega, by rw [if_neg h]; rfl⟩
  have hr : ∀ s, rngK1 [.d (.int (n : Nat))] s = some (.ok (rng 0 n, none) s) := fun s => rngK1_ap (by omega)
  obtain ⟨s', el, m', i', rfl⟩ := forGo_inv (Ga := aNameF 2) (S := f_law_0) (ds := rng 0 n) (fun _ s => ∃ m', IsSt m' ∧ s = [some (.x (ns.map PyData.int)), some (.w m'), none, none, none, none, none, none, none]) (fun i d s _ hp => by
    obtain ⟨m1, i1, rfl⟩ := hp
    obtain ⟨m2, i2, e⟩ := law_step (x := .x (ns.map PyData.int)) (k := d) i1
    exact ⟨_, _, rfl, .inl e, m2, i2, rfl⟩) (s := [some (.x (ns.map PyData.int)), some (.w m0), none, none, none, none, none, none, none]) ⟨m0, i0, rfl⟩
  have hb : b_law [some (.x (ns.map PyData.int)), none, none, none, none, none, none, none, none] = some (.rt (.d (.bool true)) [some (.x (ns.map PyData.int)), some (.w m'), none, none, none, none, none, none, none]) := by
    unfold b_law
    simp only [aSeq_ap, seqK_nx, seqK_rt, seqK_bk, seqK_ct, seqK_none, aNext_ap, aBrk_ap, aCont_ap, aAsg_ap, asgK_ap, nxR_some, aDrop_ap, dropK_ap, aIfS_ap, ifK_t, ifK_f, aRet_ap, retK_ap, rtR_some, aRetN_ap, aKill_ap, List.foldl_cons, List.foldl_nil, sb_okN, bd_okN, mapR_some, aC_ap, aXT_ap, aVar_ap, varK_d, varK_x, varK_w, varK_p, varK_k, aOp_ap, opK_ap, opK2_ap, aFz_ap, aUn_ap, aB_ap, bK_ap, aAnd_ap, andK_t, andK_f, aOr_ap, orK_t, orK_f, aNot_ap, notK_ap, aTru_ap, truK_ap, aYes_ap, aAndV_ap, andVK_t, andVK_f, aOrV_ap, orVK_t, orVK_f, aNotV_ap, notVK_ap, aIf_ap, ifEK_t, ifEK_f, aNil_ap, aCons_ap, consK_ap, consK2_ap, aCB_ap, cbK_ap, aNoPart_ap, aPart_ap, partK_ap, aSl_ap, slK_ap, slK2_ap, slK3_ap, aBM_ap, bmK_ap, bmK2_ap, aBM0_ap, bmK0_ap, aPut_ap, putK_ap, putK1_ap, putK2_ap, aFor_ap, forK_n, aRng1_ap, aRng2_ap, aIt_ap, itK_l, itK_t, itK_s, itK_x, itK_c, itK_f, aCallG_ap, List.getElem?_cons_zero, List.getElem?_cons_succ, List.set_cons_zero, List.set_cons_succ, List.length_cons, List.length_nil, Nat.zero_add, Nat.reduceAdd, Option.map_some, Option.map_none, Option.bind_some, Option.bind_none, List.map_cons, List.map_nil, aName, aNameF, fz, rtv, wAt, toM, vw, frz_lst, frz_d, lvs_map, oIx2_var, ixV_w, ixV_p, ixV_k, ixL_some, lfAt_nat, lf_d, oIx2_l, oIx2_t, Y.atI_nat, putF_var, putV_w, putV_p, oEq_int, oNe_int, oLtA_int, oIntA_int, oIntA_bool, oLenV_l, oLenV_t, oI0_ap, oB0_ap, oAdd_int, rNeg, lfAt_0, stL_0, Y.atI_0, lfAt_1, stL_1, Y.atI_1, lfAt_2, stL_2, Y.atI_2, lfAt_3, stL_3, Y.atI_3, lfAt_4, stL_4, Y.atI_4, lfAt_5, stL_5, Y.atI_5, lfAt_6, stL_6, Y.atI_6, lfAt_7, stL_7, Y.atI_7, Nat.reduceLeDiff, Int.reduceLT, Int.reduceLE, List.cons_append, List.nil_append, decide_true, decide_false, if_true, if_false, sizeLine_eq, aLc_ap, Bool.false_eq_true, call_x1 e0, hlen, hmin, en, hr, el]
  have hs : start0 9 [.x (ns.map PyData.int)] = [some (.x (ns.map PyData.int)), none, none, none, none, none, none, none, none] := rfl
  refine ⟨[none], ?_⟩
  unfold den_law Y.run
  rw [hs, hb]
  rfl

end Lw

namespace Lw
open PySem PySem.Spec PyProof.Rows L2 Y
noncomputable section
theorem ok__law_source {P : Program} {w : World} {K : PySem.W.Frag} {mg : Str → Option Value} {base : Heap} (D : DefAt K mg "_law_source" s__law_source) (z_list : mg "list" = none) : Ok P w K mg base CX0 1 "_law_source" ["script"] den__law_source :=
  D.ok (fun fd F => F.bindsN fun _ _ _ _ _ _ us hl => match us, hl with | [_], _ => rfl) fun fd F => ok0 F sc__law_source 1 rfl (fun cdv A outer s H E hr => dv__law_source z_list hr)
theorem ok__law_pick {P : Program} {w : World} {K : PySem.W.Frag} {mg : Str → Option Value} {base : Heap} (D : DefAt K mg "_law_pick" s__law_pick) (z_int : mg "int" = none) (z_len : mg "len" = none) : Ok P w K mg base CX0 1 "_law_pick" ["source", "many"] den__law_pick :=
  D.ok (fun fd F => F.bindsN fun _ _ _ _ _ _ us hl => match us, hl with | [_, _], _ => rfl) fun fd F => ok0 F sc__law_pick 5 rfl (fun cdv A outer s H E hr => dv__law_pick z_int z_len hr)
theorem ok__law_blank {P : Program} {w : World} {K : PySem.W.Frag} {mg : Str → Option Value} {base : Heap} (D : DefAt K mg "_law_blank" s__law_blank) (h__law_pick : Ok P w K mg base CX0 1 "_law_pick" ["source", "many"] (den__law_pick)) : Ok P w K mg base CX0 2 "_law_blank" ["source", "least"] den__law_blank :=
  D.ok (fun fd F => F.bindsN fun _ _ _ _ _ _ us hl => match us, hl with | [_, _], _ => rfl) fun fd F => ok0 F sc__law_blank 3 rfl (fun cdv A outer s H E hr => dv__law_blank h__law_pick hr)
theorem ok__law_spread {P : Program} {w : World} {K : PySem.W.Frag} {mg : Str → Option Value} {base : Heap} (D : DefAt K mg "_law_spread" s__law_spread) (z_len : mg "len" = none) (z_range : mg "range" = none) (h__law_blank : Ok P w K mg base CX0 2 "_law_blank" ["source", "least"] (den__law_blank)) : Ok P w K mg base CX0 3 "_law_spread" ["source", "words"] den__law_spread :=
  D.ok (fun fd F => F.bindsN fun _ _ _ _ _ _ us hl => match us, hl with | [_, _], _ => rfl) fun fd F => ok0 F sc__law_spread 6 rfl (fun cdv A outer s H E hr => dv__law_spread z_len z_range h__law_blank hr)
theorem ok__law_due {P : Program} {w : World} {K : PySem.W.Frag} {mg : Str → Option Value} {base : Heap} (D : DefAt K mg "_law_due" s__law_due) (z_len : mg "len" = none) (z_range : mg "range" = none) : Ok P w K mg base CX0 1 "_law_due" ["words", "places"] den__law_due :=
  D.ok (fun fd F => F.bindsN fun _ _ _ _ _ _ us hl => match us, hl with | [_, _], _ => rfl) fun fd F => ok0 F sc__law_due 5 rfl (fun cdv A outer s H E hr => dv__law_due z_len z_range hr)
theorem ok_run_end {P : Program} {w : World} {K : PySem.W.Frag} {mg : Str → Option Value} {base : Heap} (D : DefAt K mg "run_end" s_run_end) (c_SMALL_h : ∃ t, mg "SMALL" = some (.str c_SMALL t)) (c_DIGITS_h : ∃ t, mg "DIGITS" = some (.str c_DIGITS t)) (z_len : mg "len" = none) : Ok P w K mg base CX0 1 "run_end" ["text", "start"] den_run_end :=
  D.ok (fun fd F => F.bindsN fun _ _ _ _ _ _ us hl => match us, hl with | [_, _], _ => rfl) fun fd F => ok0 F sc_run_end 3 rfl (fun cdv A outer s H E hr => dv_run_end c_SMALL_h c_DIGITS_h z_len hr)
theorem ok_is_name_form {P : Program} {w : World} {K : PySem.W.Frag} {mg : Str → Option Value} {base : Heap} (D : DefAt K mg "is_name_form" s_is_name_form) (c_SMALL_h : ∃ t, mg "SMALL" = some (.str c_SMALL t)) (c_DIGITS_h : ∃ t, mg "DIGITS" = some (.str c_DIGITS t)) (c_LONGEST_h : ∃ t, mg "LONGEST" = some (.int 12 t)) (z_len : mg "len" = none) : Ok P w K mg base CX0 1 "is_name_form" ["run"] den_is_name_form :=
  D.ok (fun fd F => F.bindsN fun _ _ _ _ _ _ us hl => match us, hl with | [_], _ => rfl) fun fd F => ok0 F sc_is_name_form 2 rfl (fun cdv A outer s H E hr => dv_is_name_form c_SMALL_h c_DIGITS_h c_LONGEST_h z_len hr)
theorem ok_run_token {P : Program} {w : World} {K : PySem.W.Frag} {mg : Str → Option Value} {base : Heap} (D : DefAt K mg "run_token" s_run_token) (c_WORDS_h : ∃ a, mg "WORDS" = some (.ref a) ∧ ∀ H, SqT K H a (c_WORDS_s.map V.str)) (h_is_name_form : Ok P w K mg base CX0 1 "is_name_form" ["run"] (den_is_name_form)) : Ok P w K mg base CX0 2 "run_token" ["run", "start"] den_run_token :=
  D.ok (fun fd F => F.bindsN fun _ _ _ _ _ _ us hl => match us, hl with | [_, _], _ => rfl) fun fd F => ok0 F sc_run_token 2 rfl (fun cdv A outer s H E hr => dv_run_token c_WORDS_h h_is_name_form hr)
theorem ok_tokenize {P : Program} {w : World} {K : PySem.W.Frag} {mg : Str → Option Value} {base : Heap} (D : DefAt K mg "tokenize" s_tokenize) (c_SMALL_h : ∃ t, mg "SMALL" = some (.str c_SMALL t)) (c_DIGITS_h : ∃ t, mg "DIGITS" = some (.str c_DIGITS t)) (c_MARKS_h : ∃ t, mg "MARKS" = some (.str c_MARKS t)) (z_len : mg "len" = none) (h_run_token : Ok P w K mg base CX0 2 "run_token" ["run", "start"] (den_run_token)) (h_run_end : Ok P w K mg base CX0 1 "run_end" ["text", "start"] (den_run_end)) : Ok P w K mg base CX0 3 "tokenize" ["text"] den_tokenize :=
  D.ok (fun fd F => F.bindsN fun _ _ _ _ _ _ us hl => match us, hl with | [_], _ => rfl) fun fd F => ok0 F sc_tokenize 5 rfl (fun cdv A outer s H E hr => dv_tokenize c_SMALL_h c_DIGITS_h c_MARKS_h z_len h_run_token h_run_end hr)
theorem ok__law_name {P : Program} {w : World} {K : PySem.W.Frag} {mg : Str → Option Value} {base : Heap} (D : DefAt K mg "_law_name" s__law_name) (z_len : mg "len" = none) (z_range : mg "range" = none) (z_str : mg "str" = none) (h__law_pick : Ok P w K mg base CX0 1 "_law_pick" ["source", "many"] (den__law_pick)) : Ok P w K mg base CX0 2 "_law_name" ["source", "taken"] den__law_name :=
  D.ok (fun fd F => F.bindsN fun _ _ _ _ _ _ us hl => match us, hl with | [_, _], _ => rfl) fun fd F => ok0 F sc__law_name 7 rfl (fun cdv A outer s H E hr => dv__law_name z_len z_range z_str h__law_pick hr)
theorem ok__law_token {P : Program} {w : World} {K : PySem.W.Frag} {mg : Str → Option Value} {base : Heap} (D : DefAt K mg "_law_token" s__law_token) (h__law_pick : Ok P w K mg base CX0 1 "_law_pick" ["source", "many"] (den__law_pick)) (h__law_name : Ok P w K mg base CX0 2 "_law_name" ["source", "taken"] (den__law_name)) : Ok P w K mg base CX0 3 "_law_token" ["source"] den__law_token :=
  D.ok (fun fd F => F.bindsN fun _ _ _ _ _ _ us hl => match us, hl with | [_], _ => rfl) fun fd F => ok0 F sc__law_token 3 rfl (fun cdv A outer s H E hr => dv__law_token h__law_pick h__law_name hr)
theorem ok__law_same {P : Program} {w : World} {K : PySem.W.Frag} {mg : Str → Option Value} {base : Heap} (D : DefAt K mg "_law_same" s__law_same) (z_len : mg "len" = none) (z_range : mg "range" = none) (z_isinstance : mg "isinstance" = none) (z_list : mg "list" = none) (z_tuple : mg "tuple" = none) (z_str : mg "str" = none) (z_int : mg "int" = none) (z_bool : mg "bool" = none) : ∀ d : Nat, Ok P w K mg base CX0 (1 + d) "_law_same" ["actual", "due"] (den__law_same d)
  | 0 => D.ok (fun fd F => F.bindsN fun _ _ _ _ _ _ us hl => match us, hl with | [_, _], _ => rfl) fun fd F => ok0 F sc__law_same 3 rfl (fun cdv A outer s H E hr => ss_never)
  | d + 1 => D.ok (fun fd F => F.bindsN fun _ _ _ _ _ _ us hl => match us, hl with | [_, _], _ => rfl) fun fd F => ok0 F sc__law_same 3 rfl (fun cdv A outer s H E hr => dv__law_same z_len z_range z_isinstance z_list z_tuple z_str z_int z_bool (dok__law_same d) (ok__law_same D z_len z_range z_isinstance z_list z_tuple z_str z_int z_bool d) hr)
def d__law_source : He.DefD := ⟨("_law_source", none), "_law_source", "_law_source", defArgs s__law_source, defBody s__law_source, defScope s__law_source, [], []⟩
def d__law_pick : He.DefD := ⟨("_law_pick", none), "_law_pick", "_law_pick", defArgs s__law_pick, defBody s__law_pick, defScope s__law_pick, [], []⟩
def d__law_blank : He.DefD := ⟨("_law_blank", none), "_law_blank", "_law_blank", defArgs s__law_blank, defBody s__law_blank, defScope s__law_blank, [], []⟩
def d__law_spread : He.DefD := ⟨("_law_spread", none), "_law_spread", "_law_spread", defArgs s__law_spread, defBody s__law_spread, defScope s__law_spread, [], []⟩
def d__law_due : He.DefD := ⟨("_law_due", none), "_law_due", "_law_due", defArgs s__law_due, defBody s__law_due, defScope s__law_due, [], []⟩
def d_run_end : He.DefD := ⟨("run_end", none), "run_end", "run_end", defArgs s_run_end, defBody s_run_end, defScope s_run_end, [], []⟩
def d_is_name_form : He.DefD := ⟨("is_name_form", none), "is_name_form", "is_name_form", defArgs s_is_name_form, defBody s_is_name_form, defScope s_is_name_form, [], []⟩
def d_run_token : He.DefD := ⟨("run_token", none), "run_token", "run_token", defArgs s_run_token, defBody s_run_token, defScope s_run_token, [], []⟩
def d_tokenize : He.DefD := ⟨("tokenize", none), "tokenize", "tokenize", defArgs s_tokenize, defBody s_tokenize, defScope s_tokenize, [], []⟩
def d__law_name : He.DefD := ⟨("_law_name", none), "_law_name", "_law_name", defArgs s__law_name, defBody s__law_name, defScope s__law_name, [], []⟩
def d__law_token : He.DefD := ⟨("_law_token", none), "_law_token", "_law_token", defArgs s__law_token, defBody s__law_token, defScope s__law_token, [], []⟩
def d__law_same : He.DefD := ⟨("_law_same", none), "_law_same", "_law_same", defArgs s__law_same, defBody s__law_same, defScope s__law_same, [], []⟩
def d_law : He.DefD := ⟨("law", none), "law", "law", defArgs s_law, defBody s_law, defScope s_law, [], []⟩
def fnL : List He.DefD := [d__law_source, d__law_pick, d__law_blank, d__law_spread, d__law_due, d_run_end, d_is_name_form, d_run_token, d_tokenize, d__law_name, d__law_token, d__law_same, d_law]
def faL : List He.Fa := [.glo "_law_source", .glo "_law_pick", .glo "_law_blank", .glo "_law_spread", .glo "_law_due", .glo "run_end", .glo "is_name_form", .glo "run_token", .glo "tokenize", .glo "_law_name", .glo "_law_token", .glo "_law_same", .glo "law", .free "list", .free "int", .free "len", .free "range", .free "str", .free "isinstance", .free "tuple", .free "bool", .free "min", .str "SMALL" c_SMALL, .str "DIGITS" c_DIGITS, .int "LONGEST" 12, .glo "WORDS", .str "MARKS" c_MARKS]
def exL (K : PySem.W.Frag) : Bool := He.tupB K "WORDS" (c_WORDS_s.map He.Dv.str)
abbrev hR : PySem.W.OpenRow := PySem.W.OpenLaw.row PySem.Challenge.rw_pactguild_k01_tokens_that_were_written
abbrev hK : PySem.W.Hook := He.hookX 4 faL fnL [] [] exL
def hOb (s : PySem.W.SharedT) : He.AlX := He.obsX 4 faL fnL [] [] exL (HandSHeadRun.getT s)
theorem hOb_eq (s : PySem.W.SharedT) : hOb s = hK.obs s.abs := He.obsX_eq (HandSHeadRun.getT_eq s)
def lo0 : List Str := ["PactError", "SourceError", "WORDS", "MARKS", "SMALL", "DIGITS", "LONGEST", "is_name_form", "run_end", "run_token", "tokenize", "_law_source", "_law_pick", "_law_name", "_law_names", "_law_same", "_law_blank", "_law_spread", "_law_token", "_law_due"]
abbrev hLo : List Str := ["PactError", "SourceError", "WORDS", "MARKS", "SMALL", "DIGITS", "LONGEST", "is_name_form", "run_end", "run_token", "tokenize", "_law_source", "_law_pick", "_law_name", "_law_names", "_law_same", "_law_blank", "_law_spread", "_law_token", "_law_due"]
theorem hRun (w : World) : HandSHeadRun.RunEq hR (PySem.W.view hR.prog [23]) hK hOb 5000 hLo w := by
  intro os
  kernel_rfl
theorem hFacts {P : Program} {w : World} {K : PySem.W.Frag} {h : Heap} {mg : Str → Option Value} {f : Addr} (X : K.In h) (G : h.Ns mainGlobals mg) (hfa : mg ("law" : Str) = some (.ref f)) (c : He.SaysX faL fnL [] [] exL w h K) : ∃ fd : FuncData, (∀ (s : Shared) (v : Value), BindsTo s fd ⟨[v], []⟩ [("script", v)]) ∧ ∀ base : Heap, K.In base → base.Ns mainGlobals mg → FnOk P w K mg base CX0 6 f fd ["script"] (liftV K den_law) := by
  have cd := c.t.d
  have D__law_source : DefAt K mg "_law_source" s__law_source := ⟨cd.def_ 0 (d := d__law_source) rfl, He.glo_ok X G (cd.fact 0 (f := .glo "_law_source") rfl)⟩
  have D__law_pick : DefAt K mg "_law_pick" s__law_pick := ⟨cd.def_ 1 (d := d__law_pick) rfl, He.glo_ok X G (cd.fact 1 (f := .glo "_law_pick") rfl)⟩
  have D__law_blank : DefAt K mg "_law_blank" s__law_blank := ⟨cd.def_ 2 (d := d__law_blank) rfl, He.glo_ok X G (cd.fact 2 (f := .glo "_law_blank") rfl)⟩
  have D__law_spread : DefAt K mg "_law_spread" s__law_spread := ⟨cd.def_ 3 (d := d__law_spread) rfl, He.glo_ok X G (cd.fact 3 (f := .glo "_law_spread") rfl)⟩
  have D__law_due : DefAt K mg "_law_due" s__law_due := ⟨cd.def_ 4 (d := d__law_due) rfl, He.glo_ok X G (cd.fact 4 (f := .glo "_law_due") rfl)⟩
  have D_run_end : DefAt K mg "run_end" s_run_end := ⟨cd.def_ 5 (d := d_run_end) rfl, He.glo_ok X G (cd.fact 5 (f := .glo "run_end") rfl)⟩
  have D_is_name_form : DefAt K mg "is_name_form" s_is_name_form := ⟨cd.def_ 6 (d := d_is_name_form) rfl, He.glo_ok X G (cd.fact 6 (f := .glo "is_name_form") rfl)⟩
  have D_run_token : DefAt K mg "run_token" s_run_token := ⟨cd.def_ 7 (d := d_run_token) rfl, He.glo_ok X G (cd.fact 7 (f := .glo "run_token") rfl)⟩
  have D_tokenize : DefAt K mg "tokenize" s_tokenize := ⟨cd.def_ 8 (d := d_tokenize) rfl, He.glo_ok X G (cd.fact 8 (f := .glo "tokenize") rfl)⟩
  have D__law_name : DefAt K mg "_law_name" s__law_name := ⟨cd.def_ 9 (d := d__law_name) rfl, He.glo_ok X G (cd.fact 9 (f := .glo "_law_name") rfl)⟩
  have D__law_token : DefAt K mg "_law_token" s__law_token := ⟨cd.def_ 10 (d := d__law_token) rfl, He.glo_ok X G (cd.fact 10 (f := .glo "_law_token") rfl)⟩
  have D__law_same : DefAt K mg "_law_same" s__law_same := ⟨cd.def_ 11 (d := d__law_same) rfl, He.glo_ok X G (cd.fact 11 (f := .glo "_law_same") rfl)⟩
  have z_list := He.free_ok X G (cd.fact 13 (f := .free "list") rfl)
  have z_int := He.free_ok X G (cd.fact 14 (f := .free "int") rfl)
  have z_len := He.free_ok X G (cd.fact 15 (f := .free "len") rfl)
  have z_range := He.free_ok X G (cd.fact 16 (f := .free "range") rfl)
  have z_str := He.free_ok X G (cd.fact 17 (f := .free "str") rfl)
  have z_isinstance := He.free_ok X G (cd.fact 18 (f := .free "isinstance") rfl)
  have z_tuple := He.free_ok X G (cd.fact 19 (f := .free "tuple") rfl)
  have z_bool := He.free_ok X G (cd.fact 20 (f := .free "bool") rfl)
  have z_min := He.free_ok X G (cd.fact 21 (f := .free "min") rfl)
  have c_SMALL_h := He.str_ok X G (cd.fact 22 (f := .str "SMALL" c_SMALL) rfl)
  have c_DIGITS_h := He.str_ok X G (cd.fact 23 (f := .str "DIGITS" c_DIGITS) rfl)
  have c_LONGEST_h := He.int_ok X G (cd.fact 24 (f := .int "LONGEST" 12) rfl)
  have c_WORDS_h : ∃ a, mg "WORDS" = some (.ref a) ∧ ∀ H, SqT K H a (c_WORDS_s.map V.str) := ⟨_, He.glo_ok X G (cd.fact 25 (f := .glo "WORDS") rfl), fun H => by have := He.tupB_ok c.more H; rw [List.map_map] at this; exact this⟩
  have c_MARKS_h := He.str_ok X G (cd.fact 26 (f := .str "MARKS" c_MARKS) rfl)
  obtain ⟨fd, F⟩ := cd.def_ 12 (d := d_law) rfl
  have e := hfa.symm.trans (He.glo_ok X G (cd.fact 12 (f := .glo "law") rfl))
  cases e
  have b := FunD.bindsA (ps := ["script"]) F fun _ _ _ _ _ _ us hl => match us, hl with | [_], _ => rfl
  refine ⟨fd, fun s v => b s [v] rfl, fun base _ _ => ?_⟩
  have h__law_source := ok__law_source (P := P) (w := w) (base := base) D__law_source z_list
  have h__law_pick := ok__law_pick (P := P) (w := w) (base := base) D__law_pick z_int z_len
  have h__law_blank := ok__law_blank (P := P) (w := w) (base := base) D__law_blank h__law_pick
  have h__law_spread := ok__law_spread (P := P) (w := w) (base := base) D__law_spread z_len z_range h__law_blank
  have h__law_due := ok__law_due (P := P) (w := w) (base := base) D__law_due z_len z_range
  have h_run_end := ok_run_end (P := P) (w := w) (base := base) D_run_end c_SMALL_h c_DIGITS_h z_len
  have h_is_name_form := ok_is_name_form (P := P) (w := w) (base := base) D_is_name_form c_SMALL_h c_DIGITS_h c_LONGEST_h z_len
  have h_run_token := ok_run_token (P := P) (w := w) (base := base) D_run_token c_WORDS_h h_is_name_form
  have h_tokenize := ok_tokenize (P := P) (w := w) (base := base) D_tokenize c_SMALL_h c_DIGITS_h c_MARKS_h z_len h_run_token h_run_end
  have h__law_name := ok__law_name (P := P) (w := w) (base := base) D__law_name z_len z_range z_str h__law_pick
  have h__law_token := ok__law_token (P := P) (w := w) (base := base) D__law_token h__law_pick h__law_name
  have h__law_same := ok__law_same (P := P) (w := w) (base := base) D__law_same z_len z_range z_isinstance z_list z_tuple z_str z_int z_bool 4
  exact ok0 F sc_law 9 rfl (fun cdv A outer s H E hr => dv_law z_len z_min z_range h_tokenize h__law_same h__law_due h__law_spread h__law_pick h__law_token h__law_source hr)
end
end Lw
open PySem PySem.W PySem.Calls PyProof.Rows
theorem PySem.Challenge.cw_pactguild_k01_tokens_that_were_written_holds : PySem.Challenge.rw_pactguild_k01_tokens_that_were_written.Holds := by
  w_on; o_law
  refine HandSHeadRun.head_any (r := OpenLaw.row PySem.Challenge.rw_pactguild_k01_tokens_that_were_written) (q := view (OpenLaw.row PySem.Challenge.rw_pactguild_k01_tokens_that_were_written).prog [23]) (H := Lw.hK) (ob := Lw.hOb) (M := 5000) (loose := Lw.hLo) (d := HandSHeadRun.topDef (OpenLaw.row PySem.Challenge.rw_pactguild_k01_tokens_that_were_written).prog 23) (kwd := []) Lw.hOb_eq
    (by kernel_rfl) (fun s => by kernel_rfl) Lw.hRun (by kernel_rfl) (by kernel_rfl) (by kernel_rfl) (by rfl) (by first | assumption | decide +kernel) (by decide +kernel) ⟨rfl, rfl, rfl, rfl, rfl, by decide +kernel⟩ ?hw ?hc
  case hw => w_witness2
  case hc =>
    refine L2.walk_ofE (l := PySem.Challenge.rw_pactguild_k01_tokens_that_were_written) (n := 63) (k := 6) (x := "script") (CX := L2.CX0) rfl (by decide) (by kernel_rfl) ⟨rfl, by decide, by decide⟩ ?F (fun _ _ _ _ z => z)
    intro w mg fa h Y G hmg0
    obtain ⟨K, KX, c⟩ := Y
    have hmg : mg ("law" : PySem.Str) = some (.ref fa) := by
      have e : (HandSHeadRun.topDef (OpenLaw.row PySem.Challenge.rw_pactguild_k01_tokens_that_were_written).prog 23).name = ("law" : PySem.Str) := by kernel_rfl
      rw [← e]
      exact hmg0
    obtain ⟨fd, hb, hF⟩ := Lw.hFacts (P := (PySem.Challenge.rw_pactguild_k01_tokens_that_were_written).prog) (w := w) KX G hmg c
    exact ⟨K, fd, _, KX, hb, fun H a ns hl _ hS => Y.lift_law hS (Lw.law_true ns hl), hF⟩

