import PyProof.Rows.All
import Wide.All
import OpenK.AllK
import Wide.FinOn
import HandS.ForMost
import HandS.ForExc
import HandS.Evl
import HandS.Walk
import HandS.Style
import HandS.IsInst
import HandS.Flow
import HandS.WideBits
import HandS.EndBits
import PySem.Challenge.RW_grouporder_k03_whole_costs
set_option Elab.async false
set_option linter.all false
set_option maxRecDepth 100000
set_option maxHeartbeats 4000000
/-! The data logic: big-step rules over data (D), heap-free for the user. S: the shared heap (data never change there), H: the heap, with the lists that a slot owns. -/
namespace DL
open PySem PySem.Spec PyProof.Rows L2
open Evl (Ex)

/-! ### growth -/
structure Gr (S H S' H' : Hp) : Prop where
  ss : Ex S S'
  s : Ex S' H'
  h : Ex H H'
  new : ∀ a o, S' a = some o → S a = some o ∨ H a = none

theorem Gr.rfl' {S H : Hp} (e : Ex S H) : Gr S H S H := ⟨Ex.refl _, e, Ex.refl _, fun _ _ h => .inl h⟩
theorem Gr.trans {S H S1 H1 S2 H2 : Hp} (a : Gr S H S1 H1) (b : Gr S1 H1 S2 H2) : Gr S H S2 H2 := by
  refine ⟨a.ss.trans b.ss, b.s, a.h.trans b.h, fun x o h => ?_⟩
  rcases b.new x o h with q | q
  · exact a.new x o q
  · exact .inr (Evl.fresh_back a.h q)
theorem Ex.upd2 {S H : Hp} {p : Addr} {o : HO} (e : Ex S H) : Ex (upd S p o) (upd H p o) := fun a u h => by
  by_cases z : a = p
  · subst z; rw [upd_same] at h ⊢; exact h
  · rw [upd_ne z] at h ⊢; exact e a u h
theorem Gr.fresh {S H : Hp} {p : Addr} {o : HO} (e : Ex S H) (h : H p = none) : Gr S H (upd S p o) (upd H p o) := by
  refine ⟨Ex.new (Evl.fresh_back e h), Ex.upd2 e, Ex.new h, fun a u q => ?_⟩
  by_cases z : a = p
  · subst z; exact .inr h
  · rw [upd_ne z] at q; exact .inl q
theorem Gr.freshH {S H : Hp} {p : Addr} {o : HO} (e : Ex S H) (h : H p = none) : Gr S H S (upd H p o) :=
  ⟨Ex.refl _, e.trans (Ex.new h), Ex.new h, fun _ _ q => .inl q⟩
theorem Gr.none {S H S' H' : Hp} (g : Gr S H S' H') {p : Addr} {o : HO} (hs : S p = .none) (hh : H p = some o) : S' p = .none := by
  cases e : S' p with
  | none => rfl
  | some u =>
    rcases g.new p u e with q | q
    · rw [hs] at q; cases q
    · rw [hh] at q; cases q

/-! ### data -/
inductive D where
  | non | bl (b : Bool) | int (i : Int) | str (x : Str) | lst (ds : List D) | tup (ds : List D)
  /-- an empty dict -/
  | dic
  /-- a value that is told as it is: a def, a class, an object -/
  | ob (v : V)
mutual
inductive Rp (K : PySem.W.Frag) (H : Hp) : V → D → Prop
  | non : Rp K H .non .non
  | bl (b : Bool) : Rp K H (.bl b) (.bl b)
  | int (i : Int) : Rp K H (.int i) (.int i)
  | str (x : Str) : Rp K H (.str x) (.str x)
  | lst {a : Addr} {xs : List V} {ds : List D} : SqL K H a xs → RpAll K H xs ds → Rp K H (.ref a) (.lst ds)
  | tup {a : Addr} {xs : List V} {ds : List D} : SqT K H a xs → RpAll K H xs ds → Rp K H (.ref a) (.tup ds)
  | dic {a : Addr} : H a = some (.dK []) → Rp K H (.ref a) .dic
  | ob (v : V) : Rp K H v (.ob v)
inductive RpAll (K : PySem.W.Frag) (H : Hp) : List V → List D → Prop
  | nil : RpAll K H [] []
  | cons {v : V} {vs : List V} {d : D} {ds : List D} : Rp K H v d → RpAll K H vs ds → RpAll K H (v :: vs) (d :: ds)
end
/-! ### data stay -/
section
variable {K : PySem.W.Frag} {S S' : Hp}
mutual
theorem dp_ex (e : Ex S S') : ∀ (d : D) (v : V), Rp K S v d → Rp K S' v d
  | .non, _, h => by cases h; exact .non
  | .bl b, _, h => by cases h; exact .bl b
  | .int i, _, h => by cases h; exact .int i
  | .str x, _, h => by cases h; exact .str x
  | .lst ds, _, h => by
    cases h with
    | lst hs ha => exact .lst (Evl.ex_l e hs) (dpAll_ex e ds _ ha)
  | .tup ds, _, h => by
    cases h with
    | tup hs ha => exact .tup (Evl.ex_t e hs) (dpAll_ex e ds _ ha)
  | .dic, _, h => by
    cases h with
    | dic z => exact .dic (e _ _ z)
  | .ob w, _, h => by
    cases h
    exact .ob _
theorem dpAll_ex (e : Ex S S') : ∀ (ds : List D) (vs : List V), RpAll K S vs ds → RpAll K S' vs ds
  | [], _, h => by cases h; exact .nil
  | d :: ds, _, h => by
    cases h with
    | cons h1 h2 => exact .cons (dp_ex e d _ h1) (dpAll_ex e ds _ h2)
end
end
section
variable {K : PySem.W.Frag} {S S' : Hp} {v : V} {vs : List V} {d : D} {ds : List D}
theorem da_length : ∀ {vs : List V} {ds : List D}, RpAll K S vs ds → vs.length = ds.length
  | _, _, .nil => rfl
  | _, _, .cons _ t => by simp [da_length t]
theorem da_get : ∀ {vs : List V} {ds : List D} {i : Nat} {d : D}, RpAll K S vs ds → ds[i]? = some d → ∃ v, vs[i]? = some v ∧ Rp K S v d
  | _, _, _, _, .nil, e => by simp at e
  | _, _, 0, _, .cons h _, e => by simp at e; subst e; exact ⟨_, rfl, h⟩
  | _, _, i + 1, d, .cons _ t, e => by
    obtain ⟨v, h1, h2⟩ := da_get (i := i) (d := d) t (by simpa using e)
    exact ⟨v, by simpa using h1, h2⟩
theorem da_getV : ∀ {vs : List V} {ds : List D} {i : Nat} {v : V}, RpAll K S vs ds → vs[i]? = some v → ∃ d, ds[i]? = some d ∧ Rp K S v d
  | _, _, _, _, .nil, e => by simp at e
  | _, _, 0, _, .cons h _, e => by simp at e; subst e; exact ⟨_, rfl, h⟩
  | _, _, i + 1, d, .cons _ t, e => by
    obtain ⟨v, h1, h2⟩ := da_getV (i := i) t (by simpa using e)
    exact ⟨v, by simpa using h1, h2⟩
theorem da_app : ∀ {vs : List V} {ds : List D} {us : List V} {es : List D}, RpAll K S vs ds → RpAll K S us es → RpAll K S (vs ++ us) (ds ++ es)
  | _, _, _, _, .nil, h => h
  | _, _, _, _, .cons a t, h => .cons a (da_app t h)
theorem da_set : ∀ {vs : List V} {ds : List D} (i : Nat), RpAll K S vs ds → Rp K S v d → RpAll K S (vs.set i v) (ds.set i d)
  | _, _, _, .nil, _ => .nil
  | _, _, 0, .cons _ t, h => .cons h t
  | _, _, i + 1, .cons a t, h => .cons a (da_set i t h)
theorem da_drop : ∀ {vs : List V} {ds : List D} (i : Nat), RpAll K S vs ds → RpAll K S (vs.drop i) (ds.drop i)
  | _, _, 0, h => h
  | _, _, _ + 1, .nil => .nil
  | _, _, i + 1, .cons _ t => da_drop i t
theorem da_take : ∀ {vs : List V} {ds : List D} (i : Nat), RpAll K S vs ds → RpAll K S (vs.take i) (ds.take i)
  | _, _, 0, _ => .nil
  | _, _, _ + 1, .nil => .nil
  | _, _, i + 1, .cons a t => .cons a (da_take i t)
theorem da_rev : ∀ {vs : List V} {ds : List D}, RpAll K S vs ds → RpAll K S vs.reverse ds.reverse
  | _, _, .nil => .nil
  | _, _, .cons a t => by
    rw [List.reverse_cons, List.reverse_cons]
    exact da_app (da_rev t) (.cons a .nil)
theorem da_cut {vs : List V} {ds : List D} (h : RpAll K S vs ds) (lo hi : Option Int) :
    RpAll K S (cutV vs lo hi) ((ds.drop (HT.sIx ds.length 0 lo)).take (HT.sIx ds.length ds.length hi - HT.sIx ds.length 0 lo)) := by
  unfold cutV
  rw [da_length h]
  exact da_take _ (da_drop _ h)
theorem dp_int {i : Int} (h : Rp K S v (.int i)) : v = .int i := by cases h; rfl
theorem dp_bool {b : Bool} (h : Rp K S v (.bl b)) : v = .bl b := by cases h; rfl
theorem dp_str {x : Str} (h : Rp K S v (.str x)) : v = .str x := by cases h; rfl
theorem dp_none (h : Rp K S v .non) : v = .non := by cases h; rfl
theorem dp_ob {w : V} (h : Rp K S v (.ob w)) : v = w := by cases h; rfl
theorem dp_list (h : Rp K S v (.lst ds)) : ∃ a xs, v = .ref a ∧ SqL K S a xs ∧ RpAll K S xs ds := by cases h with | lst a b => exact ⟨_, _, rfl, a, b⟩
theorem dp_tuple (h : Rp K S v (.tup ds)) : ∃ a xs, v = .ref a ∧ SqT K S a xs ∧ RpAll K S xs ds := by cases h with | tup a b => exact ⟨_, _, rfl, a, b⟩
theorem dpAll_ints : ∀ {ns : List Int} {vs : List V}, RpAll K S vs (ns.map D.int) → vs = ns.map V.int
  | [], _, h => by cases h; rfl
  | n :: r, _, h => by
    cases h with
    | cons h1 h2 => rw [dp_int h1, dpAll_ints h2]; rfl
theorem ints_dpAll : ∀ {ns : List Int}, RpAll K S (ns.map V.int) (ns.map D.int)
  | [] => .nil
  | n :: r => .cons (.int n) ints_dpAll
theorem dpAll_bools : ∀ {ns : List Bool} {vs : List V}, RpAll K S vs (ns.map D.bl) → vs = ns.map V.bl
  | [], _, h => by cases h; rfl
  | n :: r, _, h => by
    cases h with
    | cons h1 h2 => rw [dp_bool h1, dpAll_bools h2]; rfl
/-- flat data: the same in any heap -/
def flatD : D → Bool
  | .non | .bl _ | .int _ | .str _ | .ob _ => true
  | _ => false
theorem dp_flat (S' : Hp) (f : flatD d = true) (h : Rp K S v d) : Rp K S' v d := by
  cases h with
  | non => exact .non
  | bl b => exact .bl b
  | int i => exact .int i
  | str x => exact .str x
  | lst _ _ => cases f
  | tup _ _ => cases f
  | dic _ => cases f
  | ob _ => exact .ob _
theorem dpAll_flat (S' : Hp) : ∀ {vs : List V} {ds : List D}, ds.all flatD = true → RpAll K S vs ds → RpAll K S' vs ds
  | _, _, _, .nil => .nil
  | _, _, f, .cons h t => by
    rw [List.all_cons, Bool.and_eq_true] at f
    exact .cons (dp_flat S' f.1 h) (dpAll_flat S' f.2 t)
end

/-! ### owned things: trees whose lists and tuples no one else holds -/
inductive O where
  | dat (d : D) | lst (os : List O) | tup (os : List O)
mutual
/-- v is the tree o, its own objects at fp -/
inductive RpO (K : PySem.W.Frag) (S H : Hp) : V → O → List Addr → Prop
  | dat {v : V} {d : D} : Rp K S v d → RpO K S H v (.dat d) []
  | lst {p : Addr} {vs : List V} {os : List O} {fp : List Addr} : H p = some (.lst vs) → RpOs K S H vs os fp → p ∉ fp → RpO K S H (.ref p) (.lst os) (p :: fp)
  | tup {p : Addr} {vs : List V} {os : List O} {fp : List Addr} : H p = some (.tup vs) → RpOs K S H vs os fp → p ∉ fp → RpO K S H (.ref p) (.tup os) (p :: fp)
inductive RpOs (K : PySem.W.Frag) (S H : Hp) : List V → List O → List Addr → Prop
  | nil : RpOs K S H [] [] []
  | cons {v : V} {vs : List V} {o : O} {os : List O} {f1 f2 : List Addr} : RpO K S H v o f1 → RpOs K S H vs os f2 → (∀ a ∈ f1, a ∉ f2) → RpOs K S H (v :: vs) (o :: os) (f1 ++ f2)
end
mutual
def O.toD : O → D
  | .dat d => d
  | .lst os => .lst (O.toDs os)
  | .tup os => .tup (O.toDs os)
def O.toDs : List O → List D
  | [] => []
  | o :: os => O.toD o :: O.toDs os
end
theorem toDs_dat : ∀ ds : List D, O.toDs (ds.map O.dat) = ds
  | [] => rfl
  | d :: ds => by rw [List.map_cons, O.toDs, O.toD, toDs_dat ds]
section
variable {K : PySem.W.Frag} {S S' H H' : Hp}
mutual
theorem rpO_mono (es : Ex S S') : ∀ (o : O) (v : V) (fp : List Addr), (∀ a ∈ fp, ∀ u, H a = some u → H' a = some u) → RpO K S H v o fp → RpO K S' H' v o fp
  | .dat d, _, _, _, h => by
    cases h with
    | dat h => exact .dat (dp_ex es d _ h)
  | .lst os, _, _, k, h => by
    cases h with
    | lst h1 h2 h3 => exact .lst (k _ (by simp) _ h1) (rpOs_mono es os _ _ (fun a ha => k a (by simp [ha])) h2) h3
  | .tup os, _, _, k, h => by
    cases h with
    | tup h1 h2 h3 => exact .tup (k _ (by simp) _ h1) (rpOs_mono es os _ _ (fun a ha => k a (by simp [ha])) h2) h3
theorem rpOs_mono (es : Ex S S') : ∀ (os : List O) (vs : List V) (fp : List Addr), (∀ a ∈ fp, ∀ u, H a = some u → H' a = some u) → RpOs K S H vs os fp → RpOs K S' H' vs os fp
  | [], _, _, _, h => by cases h; exact .nil
  | o :: os, _, _, k, h => by
    cases h with
    | cons h1 h2 h3 => exact .cons (rpO_mono es o _ _ (fun a ha => k a (by simp [ha])) h1) (rpOs_mono es os _ _ (fun a ha => k a (by simp [ha])) h2) h3
end
mutual
theorem rpO_uniq : ∀ (o : O) (v : V) (fp fq : List Addr), RpO K S H v o fp → RpO K S H v o fq → fp = fq
  | .dat d, _, _, _, h, h' => by cases h; cases h'; rfl
  | .lst os, _, _, _, h, h' => by
    cases h with
    | lst h1 h2 _ =>
      cases h' with
      | lst h1' h2' _ =>
        rw [h1] at h1'
        cases h1'
        rw [rpOs_uniq os _ _ _ h2 h2']
  | .tup os, _, _, _, h, h' => by
    cases h with
    | tup h1 h2 _ =>
      cases h' with
      | tup h1' h2' _ =>
        rw [h1] at h1'
        cases h1'
        rw [rpOs_uniq os _ _ _ h2 h2']
theorem rpOs_uniq : ∀ (os : List O) (vs : List V) (fp fq : List Addr), RpOs K S H vs os fp → RpOs K S H vs os fq → fp = fq
  | [], _, _, _, h, h' => by cases h; cases h'; rfl
  | o :: os, _, _, _, h, h' => by
    cases h with
    | cons h1 h2 _ =>
      cases h' with
      | cons h1' h2' _ => rw [rpO_uniq o _ _ _ h1 h1', rpOs_uniq os _ _ _ h2 h2']
end
mutual
/-- the owned objects are given to the shared part -/
theorem rpO_rp (es : Ex S S') : ∀ (o : O) (v : V) (fp : List Addr), (∀ a ∈ fp, S' a = H a) → RpO K S H v o fp → Rp K S' v o.toD
  | .dat d, _, _, _, h => by
    cases h with
    | dat h => exact dp_ex es d _ h
  | .lst os, _, _, k, h => by
    cases h with
    | lst h1 h2 h3 =>
      rw [O.toD]
      exact .lst (.inl (.inl ((k _ (by simp)).trans h1))) (rpOs_rp es os _ _ (fun a ha => k a (by simp [ha])) h2)
  | .tup os, _, _, k, h => by
    cases h with
    | tup h1 h2 h3 =>
      rw [O.toD]
      exact .tup (.inl (.inl ((k _ (by simp)).trans h1))) (rpOs_rp es os _ _ (fun a ha => k a (by simp [ha])) h2)
theorem rpOs_rp (es : Ex S S') : ∀ (os : List O) (vs : List V) (fp : List Addr), (∀ a ∈ fp, S' a = H a) → RpOs K S H vs os fp → RpAll K S' vs (O.toDs os)
  | [], _, _, _, h => by cases h; rw [O.toDs]; exact .nil
  | o :: os, _, _, k, h => by
    cases h with
    | cons h1 h2 h3 =>
      rw [O.toDs]
      exact .cons (rpO_rp es o _ _ (fun a ha => k a (by simp [ha])) h1) (rpOs_rp es os _ _ (fun a ha => k a (by simp [ha])) h2)
end
mutual
theorem rpO_in : ∀ (o : O) (v : V) (fp : List Addr), RpO K S H v o fp → ∀ a ∈ fp, ∃ u, H a = some u
  | .dat d, _, _, h, a, ha => by cases h; simp at ha
  | .lst os, _, _, h, a, ha => by
    cases h with
    | lst h1 h2 h3 =>
      rcases List.mem_cons.mp ha with e | e
      · subst e; exact ⟨_, h1⟩
      · exact rpOs_in os _ _ h2 a e
  | .tup os, _, _, h, a, ha => by
    cases h with
    | tup h1 h2 h3 =>
      rcases List.mem_cons.mp ha with e | e
      · subst e; exact ⟨_, h1⟩
      · exact rpOs_in os _ _ h2 a e
theorem rpOs_in : ∀ (os : List O) (vs : List V) (fp : List Addr), RpOs K S H vs os fp → ∀ a ∈ fp, ∃ u, H a = some u
  | [], _, _, h, a, ha => by cases h; simp at ha
  | o :: os, _, _, h, a, ha => by
    cases h with
    | cons h1 h2 h3 =>
      rcases List.mem_append.mp ha with e | e
      · exact rpO_in o _ _ h1 a e
      · exact rpOs_in os _ _ h2 a e
end
theorem rpOs_dat : ∀ {vs : List V} {ds : List D}, RpAll K S vs ds → RpOs K S H vs (ds.map O.dat) []
  | _, _, .nil => .nil
  | _, _, .cons h t => .cons (f1 := []) (.dat h) (rpOs_dat t) (by simp)
theorem dat_rpOs : ∀ {ds : List D} {vs : List V} {fp : List Addr}, RpOs K S H vs (ds.map O.dat) fp → fp = [] ∧ RpAll K S vs ds
  | [], _, _, h => by cases h; exact ⟨rfl, .nil⟩
  | d :: ds, _, _, h => by
    cases h with
    | cons h1 h2 _ =>
      cases h1 with
      | dat h1 =>
        obtain ⟨rfl, h3⟩ := dat_rpOs h2
        exact ⟨rfl, .cons h1 h3⟩
end
/-- the part of a tree at a path -/
def O.get : O → List Nat → Option O
  | o, [] => some o
  | .lst os, k :: r => (os[k]?).bind fun o => O.get o r
  | .tup os, k :: r => (os[k]?).bind fun o => O.get o r
  | .dat _, _ :: _ => none
def O.put : O → List Nat → O → O
  | _, [], n => n
  | .lst os, k :: r, n => match os[k]? with
    | some o => .lst (os.set k (O.put o r n))
    | none => .lst os
  | .tup os, k :: r, n => match os[k]? with
    | some o => .tup (os.set k (O.put o r n))
    | none => .tup os
  | .dat d, _ :: _, _ => .dat d
/-- the value at a path -/
inductive PathV (H : Hp) : V → List Nat → V → Prop
  | nil {v : V} : PathV H v [] v
  | lst {p : Addr} {vs : List V} {k : Nat} {r : List Nat} {u w : V} : H p = some (.lst vs) → vs[k]? = some u → PathV H u r w → PathV H (.ref p) (k :: r) w
  | tup {p : Addr} {vs : List V} {k : Nat} {r : List Nat} {u w : V} : H p = some (.tup vs) → vs[k]? = some u → PathV H u r w → PathV H (.ref p) (k :: r) w
section
variable {K : PySem.W.Frag} {S H : Hp}
theorem rpOs_get : ∀ {os : List O} {vs : List V} {fp : List Addr} {k : Nat} {o : O}, RpOs K S H vs os fp → os[k]? = some o → ∃ v f, vs[k]? = some v ∧ RpO K S H v o f ∧ (∀ a ∈ f, a ∈ fp) ∧
    ∀ (H' : Hp) (o' : O) (f' : List Addr), RpO K S H' v o' f' → (∀ a ∈ f', a ∈ f) → (∀ a, a ∉ f → H' a = H a) → ∃ fp', RpOs K S H' vs (os.set k o') fp' ∧ ∀ a ∈ fp', a ∈ fp
  | [], _, _, _, _, _, e => by simp at e
  | o :: os, _, _, 0, o1, .cons h1 h2 h3, e => by
    simp at e
    subst e
    refine ⟨_, _, rfl, h1, fun a ha => by simp [ha], fun H' o' f' hr hf hk => ⟨_, .cons hr (rpOs_mono (Ex.refl _) os _ _ (fun a ha u hu => ?_) h2) (fun a ha => h3 a (hf a ha)), fun a ha => ?_⟩⟩
    · rw [hk a (fun z => h3 a z ha)]
      exact hu
    · rcases List.mem_append.mp ha with z | z
      · simp [hf a z]
      · simp [z]
  | o :: os, _, _, k + 1, o1, .cons h1 h2 h3, e => by
    obtain ⟨v, f, e1, e2, e3, e4⟩ := rpOs_get (k := k) h2 (by simpa using e)
    refine ⟨v, f, by simpa using e1, e2, fun a ha => by simp [e3 a ha], fun H' o' f' hr hf hk => ?_⟩
    obtain ⟨fp', q1, q2⟩ := e4 H' o' f' hr hf hk
    refine ⟨_, .cons (rpO_mono (Ex.refl _) o _ _ (fun a ha u hu => ?_) h1) q1 (fun a ha z => h3 a ha (q2 a z)), fun a ha => ?_⟩
    · rw [hk a (fun z => h3 a ha (e3 a z))]
      exact hu
    · rcases List.mem_append.mp ha with z | z
      · simp [z]
      · simp [q2 a z]
/-- a list of shared data within a tree: where it is, and what the tree is when it changes -/
theorem rpO_at : ∀ (path : List Nat) {o : O} {v : V} {fp : List Addr} {ds : List D}, RpO K S H v o fp → o.get path = some (.lst (ds.map O.dat)) → ∃ p vs, PathV H v path (.ref p) ∧ H p = some (.lst vs) ∧ RpAll K S vs ds ∧ p ∈ fp ∧
    ∀ ws es, RpAll K S ws es → ∃ fp', RpO K S (upd H p (.lst ws)) v (o.put path (.lst (es.map O.dat))) fp' ∧ ∀ a ∈ fp', a ∈ fp
  | [], o, v, fp, ds, h, e => by
    have e : o = .lst (ds.map O.dat) := by rw [O.get] at e; exact Option.some.inj e
    subst e
    cases h with
    | lst h1 h2 h3 =>
      obtain ⟨rfl, h4⟩ := dat_rpOs h2
      refine ⟨_, _, .nil, h1, h4, by simp, fun ws es hw => ⟨_, by rw [O.put]; exact .lst upd_same (rpOs_dat hw) (by simp), by simp⟩⟩
  | k :: r, .lst os, v, fp, ds, h, e => by
    rw [O.get] at e
    cases h with
    | lst h1 h2 h3 =>
      cases ek : os[k]? with
      | none => rw [ek] at e; cases e
      | some o1 =>
        rw [ek] at e
        obtain ⟨u, f, e1, e2, e3, e4⟩ := rpOs_get h2 ek
        obtain ⟨p, vs, q1, q2, q3, q4, q5⟩ := rpO_at r e2 e
        refine ⟨p, vs, .lst h1 e1 q1, q2, q3, by simp [e3 p q4], fun ws es hw => ?_⟩
        obtain ⟨f', z1, z2⟩ := q5 ws es hw
        obtain ⟨fp', y1, y2⟩ := e4 _ _ f' z1 z2 (fun a ha => upd_ne (fun y => ha (by rw [y]; exact q4)))
        refine ⟨_, by rw [O.put, ek]; exact .lst (by rw [upd_ne (fun y => h3 (by rw [y]; exact e3 p q4))]; exact h1) y1 (fun y => h3 (y2 _ y)), fun a ha => ?_⟩
        rcases List.mem_cons.mp ha with y | y
        · simp [y]
        · simp [y2 a y]
  | k :: r, .tup os, v, fp, ds, h, e => by
    rw [O.get] at e
    cases h with
    | tup h1 h2 h3 =>
      cases ek : os[k]? with
      | none => rw [ek] at e; cases e
      | some o1 =>
        rw [ek] at e
        obtain ⟨u, f, e1, e2, e3, e4⟩ := rpOs_get h2 ek
        obtain ⟨p, vs, q1, q2, q3, q4, q5⟩ := rpO_at r e2 e
        refine ⟨p, vs, .tup h1 e1 q1, q2, q3, by simp [e3 p q4], fun ws es hw => ?_⟩
        obtain ⟨f', z1, z2⟩ := q5 ws es hw
        obtain ⟨fp', y1, y2⟩ := e4 _ _ f' z1 z2 (fun a ha => upd_ne (fun y => ha (by rw [y]; exact q4)))
        refine ⟨_, by rw [O.put, ek]; exact .tup (by rw [upd_ne (fun y => h3 (by rw [y]; exact e3 p q4))]; exact h1) y1 (fun y => h3 (y2 _ y)), fun a ha => ?_⟩
        rcases List.mem_cons.mp ha with y | y
        · simp [y]
        · simp [y2 a y]
  | _ :: _, .dat d, _, _, _, _, e => by rw [O.get] at e; cases e
end

/-! ### slots -/
inductive Sl where
  | no
  | ow (o : O)
abbrev Sl.dat (d : D) : Sl := .ow (.dat d)
abbrev Sl.own (ds : List D) : Sl := .ow (.lst (ds.map O.dat))

/-- what a value is told to be: new relative to H (owned things), over the shared heap S' and the heap H' -/
def Res (K : PySem.W.Frag) (H S' H' : Hp) (v : V) : Sl → Prop
  | .no => True
  | .ow (.dat d) => Rp K S' v d
  | .ow o => ∃ fp, RpO K S' H' v o fp ∧ ∀ a ∈ fp, H a = none ∧ S' a = none
theorem res_rp {K : PySem.W.Frag} {H S' H' : Hp} {v : V} {o : O} (h : Res K H S' H' v (.ow o)) : ∃ fp, RpO K S' H' v o fp ∧ ∀ a ∈ fp, H a = none ∧ S' a = none := by
  cases o with
  | dat d => exact ⟨[], .dat h, by simp⟩
  | lst os => exact h
  | tup os => exact h
theorem rp_res {K : PySem.W.Frag} {H S' H' : Hp} {v : V} {o : O} {fp : List Addr} (h : RpO K S' H' v o fp) (hf : ∀ a ∈ fp, H a = none ∧ S' a = none) : Res K H S' H' v (.ow o) := by
  cases o with
  | dat d =>
    cases h with
    | dat h => exact h
  | lst os => exact ⟨fp, h, hf⟩
  | tup os => exact ⟨fp, h, hf⟩
/-- a new list of shared data -/
theorem res_own {K : PySem.W.Frag} {H S' H' : Hp} {p : Addr} {vs : List V} {ds : List D} (h1 : H p = none) (h2 : S' p = none) (h3 : H' p = some (.lst vs)) (h4 : RpAll K S' vs ds) : Res K H S' H' (.ref p) (.own ds) :=
  ⟨[p], .lst h3 (rpOs_dat h4) (by simp), fun a ha => by rw [List.mem_singleton.mp ha]; exact ⟨h1, h2⟩⟩
theorem own_res {K : PySem.W.Frag} {H S' H' : Hp} {v : V} {ds : List D} (h : Res K H S' H' v (.own ds)) : ∃ p vs, v = .ref p ∧ H p = none ∧ S' p = none ∧ H' p = some (.lst vs) ∧ RpAll K S' vs ds := by
  obtain ⟨fp, h, hf⟩ := h
  cases h with
  | lst h1 h2 h3 =>
    obtain ⟨rfl, h4⟩ := dat_rpOs h2
    have := hf _ (List.mem_singleton.mpr rfl)
    exact ⟨_, _, rfl, this.1, this.2, h1, h4⟩

structure Rep (K : PySem.W.Frag) (S0 H0 S H : Hp) (σ : L2.St) (ρ : List Sl) : Prop where
  gr : Gr S0 H0 S H
  len : σ.length = ρ.length
  at' : ∀ (i : Nat) o, ρ[i]? = some (.ow o) → ∃ v fp, σ[i]? = some (some v) ∧ RpO K S H v o fp ∧ ∀ a ∈ fp, H0 a = none ∧ S a = none
  dis : ∀ (i j : Nat) o o' v w fp fq, i ≠ j → ρ[i]? = some (.ow o) → ρ[j]? = some (.ow o') → σ[i]? = some (some v) → σ[j]? = some (some w) → RpO K S H v o fp → RpO K S H w o' fq → ∀ a ∈ fp, a ∉ fq

section
variable {K : PySem.W.Frag} {S0 H0 S H S' H' : Hp} {σ : L2.St} {ρ : List Sl}
theorem Rep.dat (r : Rep K S0 H0 S H σ ρ) (i : Nat) (d : D) (h : ρ[i]? = some (.dat d)) : ∃ v, σ[i]? = some (some v) ∧ Rp K S v d := by
  obtain ⟨v, fp, h1, h2, _⟩ := r.at' i _ h
  cases h2 with
  | dat h2 => exact ⟨v, h1, h2⟩
theorem Rep.own (r : Rep K S0 H0 S H σ ρ) (i : Nat) (ds : List D) (h : ρ[i]? = some (.own ds)) : ∃ p vs, σ[i]? = some (some (.ref p)) ∧ H0 p = none ∧ S p = none ∧ H p = some (.lst vs) ∧ RpAll K S vs ds := by
  obtain ⟨v, fp, h1, h2, h3⟩ := r.at' i _ h
  cases h2 with
  | lst q1 q2 q3 =>
    obtain ⟨rfl, q4⟩ := dat_rpOs q2
    have := h3 _ (List.mem_singleton.mpr rfl)
    exact ⟨_, _, h1, this.1, this.2, q1, q4⟩
/-- a growth keeps what is owned, there and back -/
theorem Rep.grow (r : Rep K S0 H0 S H σ ρ) (g : Gr S H S' H') : Rep K S0 H0 S' H' σ ρ := by
  have up : ∀ (i : Nat) o v fp, ρ[i]? = some (.ow o) → σ[i]? = some (some v) → RpO K S' H' v o fp → RpO K S H v o fp := fun i o v fp h1 h2 h3 => by
    obtain ⟨v', fp', q1, q2, _⟩ := r.at' i o h1
    rw [h2] at q1
    cases q1
    have q4 := rpO_mono (K := K) (S := S) (S' := S') (H := H) (H' := H') g.ss o v fp' (fun a _ u hu => g.h a u hu) q2
    rw [rpO_uniq o v fp fp' h3 q4]
    exact q2
  refine ⟨r.gr.trans g, r.len, fun i o h => ?_, fun i j o o' v w fp fq hij h1 h2 h3 h4 h5 h6 => r.dis i j o o' v w fp fq hij h1 h2 h3 h4 (up i o v fp h1 h3 h5) (up j o' w fq h2 h4 h6)⟩
  obtain ⟨v, fp, h1, h2, h3⟩ := r.at' i o h
  refine ⟨v, fp, h1, rpO_mono g.ss o v fp (fun a _ u hu => g.h a u hu) h2, fun a ha => ⟨(h3 a ha).1, ?_⟩⟩
  obtain ⟨u, hu⟩ := rpO_in o v fp h2 a ha
  exact g.none (h3 a ha).2 hu
/-- a slot set to a value that is told -/
theorem Rep.put (r : Rep K S0 H0 S H σ ρ) (i : Nat) {v : V} {s : Sl} (hs : ∀ o, s = .ow o → ∃ fp, RpO K S H v o fp ∧ (∀ a ∈ fp, H0 a = none ∧ S a = none) ∧ ∀ (j : Nat) o' w fq, ρ[j]? = some (.ow o') → σ[j]? = some (some w) → j ≠ i → RpO K S H w o' fq → ∀ a ∈ fp, a ∉ fq) :
    Rep K S0 H0 S H (σ.set i (some v)) (ρ.set i s) := by
  have key : ∀ (j : Nat) (u : Sl), (ρ.set i s)[j]? = some u → (j = i ∧ u = s ∧ i < ρ.length) ∨ (j ≠ i ∧ ρ[j]? = some u) := fun j u h => by
    by_cases e : j = i
    · subst e
      by_cases hl : j < ρ.length
      · rw [List.getElem?_set_self hl] at h
        exact .inl ⟨rfl, (Option.some.inj h).symm, hl⟩
      · rw [List.getElem?_eq_none (by simpa using hl)] at h; cases h
    · rw [List.getElem?_set_ne (Ne.symm e)] at h
      exact .inr ⟨e, h⟩
  have sg : ∀ {j : Nat}, j = i → i < ρ.length → (σ.set i (some v))[j]? = some (some v) := fun {j} e hl => by
    subst e
    exact List.getElem?_set_self (by rw [r.len]; exact hl)
  have sn : ∀ {j : Nat}, j ≠ i → (σ.set i (some v))[j]? = σ[j]? := fun {j} e => List.getElem?_set_ne (Ne.symm e)
  refine ⟨r.gr, by rw [List.length_set, List.length_set]; exact r.len, fun j o h => ?_, fun j k o o' x y fp fq hjk h1 h2 h3 h4 h5 h6 => ?_⟩
  · rcases key j _ h with ⟨e, e2, hl⟩ | ⟨e, h⟩
    · obtain ⟨fp, q1, q2, _⟩ := hs o e2.symm
      exact ⟨v, fp, sg e hl, q1, q2⟩
    · rw [sn e]; exact r.at' j o h
  · rcases key j _ h1 with ⟨e, e2, hl⟩ | ⟨e, h1'⟩
    · rcases key k _ h2 with ⟨e', _, _⟩ | ⟨e', h2'⟩
      · exact absurd (e.trans e'.symm) hjk
      · rw [sg e hl] at h3
        cases h3
        rw [sn e'] at h4
        obtain ⟨fp', q1, _, q3⟩ := hs o e2.symm
        rw [rpO_uniq o v fp fp' h5 q1]
        exact q3 k o' y fq h2' h4 e' h6
    · rcases key k _ h2 with ⟨e', e2', hl'⟩ | ⟨e', h2'⟩
      · rw [sg e' hl'] at h4
        cases h4
        rw [sn e] at h3
        obtain ⟨fp', q1, _, q3⟩ := hs o' e2'.symm
        rw [rpO_uniq o' v fq fp' h6 q1]
        exact fun a ha z => q3 j o x fp h1' h3 e h5 a z ha
      · rw [sn e] at h3
        rw [sn e'] at h4
        exact r.dis j k o o' x y fp fq hjk h1' h2' h3 h4 h5 h6
/-- behind an expression: its value goes to a slot -/
theorem Rep.putRes (r : Rep K S0 H0 S H σ ρ) (g : Gr S H S' H') (i : Nat) {v : V} {s : Sl} (hs : Res K H S' H' v s) : Rep K S0 H0 S' H' (σ.set i (some v)) (ρ.set i s) := by
  refine (r.grow g).put i fun o e => ?_
  subst e
  obtain ⟨fp, h1, h2⟩ := res_rp hs
  refine ⟨fp, h1, fun a ha => ⟨Evl.fresh_back r.gr.h (h2 a ha).1, (h2 a ha).2⟩, fun j o' w fq hj hw _ hq a ha z => ?_⟩
  obtain ⟨w', fq', q1, q2, _⟩ := r.at' j o' hj
  rw [hw] at q1
  cases q1
  have q4 := rpO_mono (K := K) g.ss o' w fq' (fun a _ u hu => g.h a u hu) q2
  rw [rpO_uniq o' w fq fq' hq q4] at z
  obtain ⟨u, hu⟩ := rpO_in o' w fq' q2 a z
  rw [(h2 a ha).1] at hu
  cases hu
/-- weaker slots -/
theorem Rep.weak {ρ' : List Sl} (r : Rep K S0 H0 S H σ ρ) (hl : ρ'.length = ρ.length) (h : ∀ (i : Nat) s, ρ'[i]? = some s → s = .no ∨ ρ[i]? = some s) : Rep K S0 H0 S H σ ρ' :=
  ⟨r.gr, r.len.trans hl.symm, fun i o e => r.at' i o ((h i _ e).resolve_left (by intro z; cases z)),
    fun i j o o' v w fp fq hij h1 h2 => r.dis i j o o' v w fp fq hij ((h i _ h1).resolve_left (by intro z; cases z)) ((h j _ h2).resolve_left (by intro z; cases z))⟩
/-- an owned thing is given to the shared part -/
theorem Rep.freeze (r : Rep K S0 H0 S H σ ρ) {i : Nat} {o : O} (hi : ρ[i]? = some (.ow o)) : ∃ S', Ex S S' ∧ Rep K S0 H0 S' H σ (ρ.set i (.dat o.toD)) := by
  obtain ⟨v, fp, h1, h2, h3⟩ := r.at' i o hi
  have hl : i < ρ.length := by
    by_cases hl : i < ρ.length
    · exact hl
    · rw [List.getElem?_eq_none (by simpa using hl)] at hi; cases hi
  let S' : Hp := fun a => if a ∈ fp then H a else S a
  have hin : ∀ a ∈ fp, S' a = H a := fun a ha => if_pos ha
  have hout : ∀ a, a ∉ fp → S' a = S a := fun a ha => if_neg ha
  have es : Ex S S' := fun a u h => by
    by_cases z : a ∈ fp
    · rw [(h3 a z).2] at h; cases h
    · rw [hout a z]; exact h
  have eh : Ex S' H := fun a u h => by
    by_cases z : a ∈ fp
    · rw [hin a z] at h; exact h
    · rw [hout a z] at h; exact r.gr.s a u h
  have key : ∀ (j : Nat) (u : Sl), (ρ.set i (.dat o.toD))[j]? = some u → (j = i ∧ u = .dat o.toD) ∨ (j ≠ i ∧ ρ[j]? = some u) := fun j u h => by
    by_cases e : j = i
    · subst e
      rw [List.getElem?_set_self hl] at h
      exact .inl ⟨rfl, (Option.some.inj h).symm⟩
    · rw [List.getElem?_set_ne (Ne.symm e)] at h
      exact .inr ⟨e, h⟩
  have up : ∀ (j : Nat) o' w fq, ρ[j]? = some (.ow o') → σ[j]? = some (some w) → RpO K S' H w o' fq → RpO K S H w o' fq := fun j o' w fq q1 q2 q3 => by
    obtain ⟨w', fq', z1, z2, _⟩ := r.at' j o' q1
    rw [q2] at z1
    cases z1
    have z4 := rpO_mono (K := K) es o' w fq' (fun a _ u hu => hu) z2
    rw [rpO_uniq o' w fq fq' q3 z4]
    exact z2
  refine ⟨S', es, ⟨⟨r.gr.ss.trans es, eh, r.gr.h, fun a u h => ?_⟩, by rw [List.length_set]; exact r.len, fun j o' e => ?_, fun j k o1 o2 x y f1 f2 hjk e1 e2 e3 e4 e5 e6 => ?_⟩⟩
  · by_cases z : a ∈ fp
    · exact .inr (h3 a z).1
    · rw [hout a z] at h; exact r.gr.new a u h
  · rcases key j _ e with ⟨q1, q2⟩ | ⟨q1, q2⟩
    · cases q2
      subst q1
      exact ⟨v, [], h1, .dat (rpO_rp es o v fp hin h2), by simp⟩
    · obtain ⟨w, fq, z1, z2, z3⟩ := r.at' j o' q2
      refine ⟨w, fq, z1, rpO_mono es o' w fq (fun a _ u hu => hu) z2, fun a ha => ⟨(z3 a ha).1, ?_⟩⟩
      rw [hout a (fun z => r.dis i j o o' v w fp fq (Ne.symm q1) hi q2 h1 z1 h2 z2 a z ha)]
      exact (z3 a ha).2
  · rcases key j _ e1 with ⟨q1, q2⟩ | ⟨q1, q2⟩
    · cases q2
      cases e5
      simp
    · rcases key k _ e2 with ⟨q3, q4⟩ | ⟨q3, q4⟩
      · cases q4
        cases e6
        simp
      · exact r.dis j k o1 o2 x y f1 f2 hjk q2 q4 e3 e4 (up j o1 x f1 q2 e3 e5) (up k o2 y f2 q4 e4 e6)
/-- a list of shared data within an owned thing changes -/
theorem Rep.mutAt (r : Rep K S0 H0 S H σ ρ) {i : Nat} {o : O} {path : List Nat} {ds : List D} (hi : ρ[i]? = some (.ow o)) (hp : o.get path = some (.lst (ds.map O.dat))) :
    ∃ v p vs, σ[i]? = some (some v) ∧ PathV H v path (.ref p) ∧ H p = some (.lst vs) ∧ RpAll K S vs ds ∧ ∀ ws es, RpAll K S ws es → Rep K S0 H0 S (upd H p (.lst ws)) σ (ρ.set i (.ow (o.put path (.lst (es.map O.dat))))) := by
  obtain ⟨v, fp, h1, h2, h3⟩ := r.at' i o hi
  obtain ⟨p, vs, q1, q2, q3, q4, q5⟩ := rpO_at path h2 hp
  have hl : i < ρ.length := by
    by_cases hl : i < ρ.length
    · exact hl
    · rw [List.getElem?_eq_none (by simpa using hl)] at hi; cases hi
  refine ⟨v, p, vs, h1, q1, q2, q3, fun ws es hw => ?_⟩
  obtain ⟨fp', z1, z2⟩ := q5 ws es hw
  have pS := (h3 p q4).2
  have p0 := (h3 p q4).1
  have key : ∀ (j : Nat) (u : Sl), (ρ.set i (.ow (o.put path (.lst (es.map O.dat)))))[j]? = some u → (j = i ∧ u = .ow (o.put path (.lst (es.map O.dat)))) ∨ (j ≠ i ∧ ρ[j]? = some u) := fun j u h => by
    by_cases e : j = i
    · subst e
      rw [List.getElem?_set_self hl] at h
      exact .inl ⟨rfl, (Option.some.inj h).symm⟩
    · rw [List.getElem?_set_ne (Ne.symm e)] at h
      exact .inr ⟨e, h⟩
  have off : ∀ (j : Nat) o' w fq, j ≠ i → ρ[j]? = some (.ow o') → σ[j]? = some (some w) → RpO K S H w o' fq → p ∉ fq := fun j o' w fq hj a1 a2 a3 => r.dis i j o o' v w fp fq (Ne.symm hj) hi a1 h1 a2 h2 a3 p q4
  have fwd : ∀ (j : Nat) o' w fq, j ≠ i → ρ[j]? = some (.ow o') → σ[j]? = some (some w) → RpO K S H w o' fq → RpO K S (upd H p (.lst ws)) w o' fq := fun j o' w fq hj a1 a2 a3 =>
    rpO_mono (Ex.refl _) o' w fq (fun a ha u hu => by rw [upd_ne (fun y => off j o' w fq hj a1 a2 a3 (by rw [← y]; exact ha))]; exact hu) a3
  have up : ∀ (j : Nat) o' w fq, j ≠ i → ρ[j]? = some (.ow o') → σ[j]? = some (some w) → RpO K S (upd H p (.lst ws)) w o' fq → RpO K S H w o' fq := fun j o' w fq hj a1 a2 a3 => by
    obtain ⟨w', fq', b1, b2, _⟩ := r.at' j o' a1
    rw [a2] at b1
    cases b1
    rw [rpO_uniq o' w fq fq' a3 (fwd j o' w fq' hj a1 a2 b2)]
    exact b2
  refine ⟨⟨r.gr.ss, fun a u h => ?_, fun a u h => ?_, r.gr.new⟩, by rw [List.length_set]; exact r.len, fun j o' e => ?_, fun j k o1 o2 x y f1 f2 hjk e1 e2 e3 e4 e5 e6 => ?_⟩
  · rw [upd_ne (ne_of_none h pS)]; exact r.gr.s a u h
  · rw [upd_ne (ne_of_none h p0)]; exact r.gr.h a u h
  · rcases key j _ e with ⟨a1, a2⟩ | ⟨a1, a2⟩
    · cases a2
      subst a1
      exact ⟨v, fp', h1, z1, fun a ha => h3 a (z2 a ha)⟩
    · obtain ⟨w, fq, b1, b2, b3⟩ := r.at' j o' a2
      exact ⟨w, fq, b1, fwd j o' w fq a1 a2 b1 b2, b3⟩
  · rcases key j _ e1 with ⟨a1, a2⟩ | ⟨a1, a2⟩
    · cases a2
      rcases key k _ e2 with ⟨b1, b2⟩ | ⟨b1, b2⟩
      · exact absurd (a1.trans b1.symm) hjk
      · subst a1
        rw [h1] at e3
        cases e3
        rw [rpO_uniq _ _ _ _ e5 z1]
        exact fun a ha => r.dis j k o o2 v y fp f2 hjk hi b2 h1 e4 h2 (up k o2 y f2 b1 b2 e4 e6) a (z2 a ha)
    · rcases key k _ e2 with ⟨b1, b2⟩ | ⟨b1, b2⟩
      · cases b2
        subst b1
        rw [h1] at e4
        cases e4
        rw [rpO_uniq _ _ _ _ e6 z1]
        exact fun a ha z => r.dis j k o1 o x v f1 fp hjk a2 hi e3 h1 (up j o1 x f1 a1 a2 e3 e5) h2 a ha (z2 a z)
      · exact r.dis j k o1 o2 x y f1 f2 hjk a2 b2 e3 e4 (up j o1 x f1 a1 a2 e3 e5) (up k o2 y f2 b1 b2 e4 e6)
/-- a list that no slot owns changes -/
theorem Rep.off (R : Rep K S0 H0 S H σ ρ) {p : Addr} {u : HO} (hs : S p = none) (h0 : H0 p = none) (nd : ∀ (i : Nat) o v fp, ρ[i]? = some (.ow o) → σ[i]? = some (some v) → RpO K S H v o fp → p ∉ fp) : Rep K S0 H0 S (upd H p u) σ ρ := by
  have fwd : ∀ (j : Nat) o' w fq, ρ[j]? = some (.ow o') → σ[j]? = some (some w) → RpO K S H w o' fq → RpO K S (upd H p u) w o' fq := fun j o' w fq a1 a2 a3 =>
    rpO_mono (Ex.refl _) o' w fq (fun a ha x hx => by rw [upd_ne (fun y => nd j o' w fq a1 a2 a3 (by rw [← y]; exact ha))]; exact hx) a3
  have up : ∀ (j : Nat) o' w fq, ρ[j]? = some (.ow o') → σ[j]? = some (some w) → RpO K S (upd H p u) w o' fq → RpO K S H w o' fq := fun j o' w fq a1 a2 a3 => by
    obtain ⟨w', fq', b1, b2, _⟩ := R.at' j o' a1
    rw [a2] at b1
    cases b1
    rw [rpO_uniq o' w fq fq' a3 (fwd j o' w fq' a1 a2 b2)]
    exact b2
  refine ⟨⟨R.gr.ss, fun a x z => ?_, fun a x z => ?_, R.gr.new⟩, R.len, fun i o h => ?_, fun j k o1 o2 x y f1 f2 hjk e1 e2 e3 e4 e5 e6 => R.dis j k o1 o2 x y f1 f2 hjk e1 e2 e3 e4 (up j o1 x f1 e1 e3 e5) (up k o2 y f2 e2 e4 e6)⟩
  · rw [upd_ne (ne_of_none z hs)]; exact R.gr.s a x z
  · rw [upd_ne (ne_of_none z h0)]; exact R.gr.h a x z
  · obtain ⟨v, fp, h1, h2, h3⟩ := R.at' i o h
    exact ⟨v, fp, h1, fwd i o v fp h h1 h2, h3⟩
end
end DL

namespace DL
open PySem PySem.Spec PyProof.Rows L2
open Evl (Ex)

/-! ### expressions -/
def Ev (K : PySem.W.Frag) (te : TE) (ρ : List Sl) (r : Sl) : Prop := ∀ S0 H0 S H σ, Rep K S0 H0 S H σ ρ → ∀ Q : VK, (∀ v S' H', Gr S H S' H' → Res K H S' H' v r → Q v H') → te σ H Q
def EvT (K : PySem.W.Frag) (tt : TT) (ρ : List Sl) (b : Bool) : Prop := ∀ S0 H0 S H σ, Rep K S0 H0 S H σ ρ → ∀ Q : Bool → Hp → Prop, (∀ S' H', Gr S H S' H' → Q b H') → tt σ H Q
def ArgOk (K : PySem.W.Frag) (S : Hp) (v : V) : Sl → Prop
  | .ow (.dat d) => Rp K S v d
  | _ => False
inductive ArgsOk (K : PySem.W.Frag) (S : Hp) : List V → List Sl → Prop
  | nil : ArgsOk K S [] []
  | cons {v : V} {vs : List V} {s : Sl} {ss : List Sl} : ArgOk K S v s → ArgsOk K S vs ss → ArgsOk K S (v :: vs) (s :: ss)
def EvA (K : PySem.W.Frag) (ta : TA) (ρ : List Sl) (rs : List Sl) : Prop := ∀ S0 H0 S H σ, Rep K S0 H0 S H σ ρ → ∀ Q : List V → Hp → Prop, (∀ vs S' H', Gr S H S' H' → ArgsOk K S' vs rs → Q vs H') → ta σ H Q
def EvO (K : PySem.W.Frag) (to : TO) (ρ : List Sl) (o : Option Int) : Prop := ∀ S0 H0 S H σ, Rep K S0 H0 S H σ ρ → ∀ Q : Option Int → Hp → Prop, (∀ S' H', Gr S H S' H' → Q o H') → to σ H Q
/-- an operation on values: from data to a result -/
def OpD (K : PySem.W.Frag) (r : R2) (d e : D) (res : Sl) : Prop := ∀ S H x y, Ex S H → Rp K S x d → Rp K S y e → ∀ Q : VK, (∀ v S' H', Gr S H S' H' → Res K H S' H' v res → Q v H') → r x y H Q
def CbD (K : PySem.W.Frag) (r : List V → Hp → VK → Prop) (rs : List Sl) (res : Sl) : Prop := ∀ S H vs, Ex S H → ArgsOk K S vs rs → ∀ Q : VK, (∀ v S' H', Gr S H S' H' → Res K H S' H' v res → Q v H') → r vs H Q
def SpD (K : PySem.W.Frag) (sp : Sp) (rs : List Sl) (res : Sl) : Prop := ∀ E S H vs, Ex S H → ArgsOk K S vs rs → ∀ Q : VK, (∀ v S' H', Gr S H S' H' → Res K H S' H' v res → Q v H') → sp vs H Q E
/-- the promise of a def over data -/
def spF (K : PySem.W.Frag) (R : List Sl → Sl → Prop) : Sp := fun vs H Q _ => ∃ S rs res, Ex S H ∧ ArgsOk K S vs rs ∧ R rs res ∧ ∀ v S' H', Gr S H S' H' → Res K H S' H' v res → Q v H'
/-- the promise of a def that may raise an error of the class c -/
def spX (K : PySem.W.Frag) (R : List Sl → Sl → Prop) (RX : List Sl → Value → Prop) : Sp := fun vs H Q E => ∃ S rs, Ex S H ∧ ArgsOk K S vs rs ∧
  ((∃ res, R rs res ∧ ∀ v S' H', Gr S H S' H' → Res K H S' H' v res → Q v H') ∨ (∃ c, RX rs c ∧ ∀ S' H', Gr S H S' H' → E c none H'))

section
variable {K : PySem.W.Frag} {ρ : List Sl} {te ta tb tx : TE} {tt tu : TT} {r : R2} {res : Sl} {d e : D}
theorem spF_D {R : List Sl → Sl → Prop} {rs : List Sl} (h : R rs res) : SpD K (spF K R) rs res := fun E S H vs ex ha Q q => ⟨S, rs, res, ex, ha, h, q⟩
theorem spX_D {R : List Sl → Sl → Prop} {RX : List Sl → Value → Prop} {rs : List Sl} (h : R rs res) : SpD K (spX K R RX) rs res := fun E S H vs ex ha Q q => ⟨S, rs, ex, ha, .inl ⟨res, h, q⟩⟩

theorem ev_var {i : Nat} {d : D} (h : ρ[i]? = some (.dat d)) : Ev K (tVar i) ρ (.dat d) := fun S0 H0 S H σ R Q q => by
  obtain ⟨v, h1, h2⟩ := R.dat i d h
  exact ⟨v, h1, q v S H (Gr.rfl' R.gr.s) h2⟩
theorem ev_c {v : V} : Ev K (tC v) ρ (.dat (.ob v)) := fun S0 H0 S H σ R Q q => q v S H (Gr.rfl' R.gr.s) (.ob v)
theorem ev_int {i : Int} : Ev K (tC (.int i)) ρ (.dat (.int i)) := fun S0 H0 S H σ R Q q => q _ S H (Gr.rfl' R.gr.s) (.int i)
theorem ev_bl {b : Bool} : Ev K (tC (.bl b)) ρ (.dat (.bl b)) := fun S0 H0 S H σ R Q q => q _ S H (Gr.rfl' R.gr.s) (.bl b)
theorem ev_str {x : Str} : Ev K (tC (.str x)) ρ (.dat (.str x)) := fun S0 H0 S H σ R Q q => q _ S H (Gr.rfl' R.gr.s) (.str x)
theorem ev_non : Ev K (tC .non) ρ (.dat .non) := fun S0 H0 S H σ R Q q => q _ S H (Gr.rfl' R.gr.s) .non
/-- a new thing is given to the shared part -/
theorem Ev.fzO {o : O} (h : Ev K te ρ (.ow o)) : Ev K te ρ (.dat o.toD) := fun S0 H0 S H σ R Q q =>
  h S0 H0 S H σ R Q fun v S' H' g hr => by
    obtain ⟨fp, h2, h3⟩ := res_rp hr
    have hin : ∀ a ∈ fp, (fun a => if a ∈ fp then H' a else S' a : Hp) a = H' a := fun a ha => if_pos ha
    have hout : ∀ a, a ∉ fp → (fun a => if a ∈ fp then H' a else S' a : Hp) a = S' a := fun a ha => if_neg ha
    have es : Ex S' (fun a => if a ∈ fp then H' a else S' a) := fun a u z => by
      by_cases y : a ∈ fp
      · rw [(h3 a y).2] at z; cases z
      · rw [hout a y]; exact z
    refine q v _ H' ⟨g.ss.trans es, fun a u z => ?_, g.h, fun a u z => ?_⟩ (rpO_rp es o v fp hin h2)
    · by_cases y : a ∈ fp
      · rw [if_pos y] at z; exact z
      · rw [if_neg y] at z; exact g.s a u z
    · by_cases y : a ∈ fp
      · exact .inr (h3 a y).1
      · rw [if_neg y] at z; exact g.new a u z
theorem Ev.fz {ds : List D} (h : Ev K te ρ (.own ds)) : Ev K te ρ (.dat (.lst ds)) := by
  have := h.fzO
  rw [O.toD, toDs_dat] at this
  exact this
theorem Ev.is {res' : Sl} (h : Ev K te ρ res) (e : res = res') : Ev K te ρ res' := e ▸ h
theorem Ev.isD {d' : D} (h : Ev K te ρ (.dat d)) (e : d = d') : Ev K te ρ (.dat d') := e ▸ h
theorem EvT.is {b c : Bool} (h : EvT K tt ρ b) (e : b = c) : EvT K tt ρ c := e ▸ h
/-- flat results may be told of an owned thing that is read -/
def flatO : O → Bool
  | .dat d => flatD d
  | .lst os => os.all fun o => match o with
    | .dat d => flatD d
    | _ => false
  | .tup _ => false
def flatS : Sl → Bool
  | .ow o => flatO o
  | .no => true
theorem flat_own {ds : List D} (h : ds.all flatD = true) : flatS (.own ds) = true := by
  show (ds.map O.dat).all _ = true
  rw [List.all_map]
  exact h
theorem rpOs_flat {S S' H : Hp} : ∀ {os : List O} {vs : List V} {fp : List Addr}, (os.all fun o => match o with
    | .dat d => flatD d
    | _ => false) = true → RpOs K S H vs os fp → RpOs K S' H vs os fp
  | [], _, _, _, h => by cases h; exact .nil
  | o :: os, _, _, f, h => by
    rw [List.all_cons, Bool.and_eq_true] at f
    cases h with
    | cons h1 h2 h3 =>
      cases o with
      | dat d =>
        cases h1 with
        | dat h1 => exact .cons (.dat (dp_flat S' f.1 h1)) (rpOs_flat f.2 h2) h3
      | lst _ => cases f.1
      | tup _ => cases f.1
theorem rpO_flat {S S' H : Hp} {o : O} {v : V} {fp : List Addr} (f : flatO o = true) (h : RpO K S H v o fp) : RpO K S' H v o fp := by
  cases o with
  | dat d =>
    cases h with
    | dat h => exact .dat (dp_flat S' f h)
  | lst os =>
    cases h with
    | lst h1 h2 h3 => exact .lst h1 (rpOs_flat f h2) h3
  | tup _ => cases f
theorem Ev.borrowO {i : Nat} {o : O} (hi : ρ[i]? = some (.ow o)) (f : flatS res = true) (h : Ev K te (ρ.set i (.dat o.toD)) res) : Ev K te ρ res := fun S0 H0 S H σ R Q q => by
  obtain ⟨S1, es, R2⟩ := R.freeze hi
  refine h S0 H0 _ H σ R2 Q fun v S' H' g hr => ?_
  have g2 : Gr S H S H' := ⟨Ex.refl _, R.gr.s.trans g.h, g.h, fun _ _ z => .inl z⟩
  refine q v S H' g2 ?_
  cases res with
  | no => trivial
  | ow o' =>
    obtain ⟨fp, h1, h2⟩ := res_rp hr
    exact rp_res (rpO_flat f h1) fun a ha => ⟨(h2 a ha).1, Evl.fresh_back R.gr.s (h2 a ha).1⟩
theorem EvT.borrowO {i : Nat} {o : O} {b : Bool} (hi : ρ[i]? = some (.ow o)) (h : EvT K tt (ρ.set i (.dat o.toD)) b) : EvT K tt ρ b := fun S0 H0 S H σ R Q q => by
  obtain ⟨S1, es, R2⟩ := R.freeze hi
  refine h S0 H0 _ H σ R2 Q fun S' H' g => ?_
  exact q S H' ⟨Ex.refl _, R.gr.s.trans g.h, g.h, fun _ _ z => .inl z⟩
theorem Ev.borrow {i : Nat} {ds : List D} (hi : ρ[i]? = some (.own ds)) (f : flatS res = true) (h : Ev K te (ρ.set i (.dat (.lst ds))) res) : Ev K te ρ res := by
  refine Ev.borrowO hi f ?_
  rw [O.toD, toDs_dat]
  exact h
theorem EvT.borrow {i : Nat} {ds : List D} {b : Bool} (hi : ρ[i]? = some (.own ds)) (h : EvT K tt (ρ.set i (.dat (.lst ds))) b) : EvT K tt ρ b := by
  refine EvT.borrowO hi ?_
  rw [O.toD, toDs_dat]
  exact h
theorem res_back {H H1 S' H' : Hp} {v : V} (g : Ex H H1) (h : Res K H1 S' H' v res) : Res K H S' H' v res := by
  cases res with
  | no => trivial
  | ow o =>
    obtain ⟨fp, h1, h2⟩ := res_rp h
    exact rp_res h1 fun a ha => ⟨Evl.fresh_back g (h2 a ha).1, (h2 a ha).2⟩

theorem ev_op (ha : Ev K ta ρ (.dat d)) (hb : Ev K tb ρ (.dat e)) (hr : OpD K r d e res) : Ev K (tOp r ta tb) ρ res := fun S0 H0 S H σ R Q q =>
  ha S0 H0 S H σ R _ fun x S1 H1 g1 hx => hb S0 H0 S1 H1 σ (R.grow g1) _ fun y S2 H2 g2 hy =>
    hr S2 H2 x y g2.s (dp_ex g2.ss _ _ hx) hy Q fun v S3 H3 g3 hv => q v S3 H3 ((g1.trans g2).trans g3) (res_back (g1.trans g2).h hv)
theorem ev_un {f : V → Hp → VK → Prop} (ha : Ev K ta ρ (.dat d)) (hr : ∀ S H x, Ex S H → Rp K S x d → ∀ Q : VK, (∀ v S' H', Gr S H S' H' → Res K H S' H' v res → Q v H') → f x H Q) : Ev K (tUn f ta) ρ res := fun S0 H0 S H σ R Q q =>
  ha S0 H0 S H σ R _ fun x S1 H1 g1 hx => hr S1 H1 x g1.s hx Q fun v S3 H3 g3 hv => q v S3 H3 (g1.trans g3) (res_back g1.h hv)
theorem ev_neg {i : Int} (ha : Ev K ta ρ (.dat (.int i))) : Ev K (tUn (rU fun i => .int (-i)) ta) ρ (.dat (.int (-i))) := ev_un ha fun S H x ex hx Q q => by
  rw [dp_int hx]
  exact ⟨i, rfl, q _ S H (Gr.rfl' ex) (.int _)⟩
/-! operations on two ints -/
theorem opd_II {g : Int → Int → Int} {i j : Int} : OpD K (rI0 fun i j => .int (g i j)) (.int i) (.int j) (.dat (.int (g i j))) := fun S H x y ex hx hy Q q => by
  rw [dp_int hx, dp_int hy]
  exact ⟨i, j, rfl, rfl, q _ S H (Gr.rfl' ex) (.int _)⟩
theorem opd_IB {g : Int → Int → Bool} {i j : Int} : OpD K (rI0 fun i j => .bl (g i j)) (.int i) (.int j) (.dat (.bl (g i j))) := fun S H x y ex hx hy Q q => by
  rw [dp_int hx, dp_int hy]
  exact ⟨i, j, rfl, rfl, q _ S H (Gr.rfl' ex) (.bl _)⟩
theorem opd_IIc {C : Int → Int → Prop} {g : Int → Int → Int} {i j : Int} (hc : C i j) : OpD K (rI C fun i j => .int (g i j)) (.int i) (.int j) (.dat (.int (g i j))) := fun S H x y ex hx hy Q q => by
  rw [dp_int hx, dp_int hy]
  exact ⟨i, j, rfl, rfl, hc, q _ S H (Gr.rfl' ex) (.int _)⟩
theorem opd_eqI {i j : Int} : OpD K rEq (.int i) (.int j) (.dat (.bl (decide (i = j)))) := fun S H x y ex hx hy Q q => by
  rw [dp_int hx, dp_int hy]
  refine ⟨rfl, ?_⟩
  have e : decide (V.int i = V.int j) = decide (i = j) := by simp
  rw [e]
  exact q _ S H (Gr.rfl' ex) (.bl _)
theorem opd_neI {i j : Int} : OpD K rNe (.int i) (.int j) (.dat (.bl (!decide (i = j)))) := fun S H x y ex hx hy Q q => by
  rw [dp_int hx, dp_int hy]
  refine ⟨rfl, ?_⟩
  have e : decide (V.int i = V.int j) = decide (i = j) := by simp
  rw [e]
  exact q _ S H (Gr.rfl' ex) (.bl _)
theorem opd_eqS {i j : Str} : OpD K rEq (.str i) (.str j) (.dat (.bl (decide (i = j)))) := fun S H x y ex hx hy Q q => by
  rw [dp_str hx, dp_str hy]
  refine ⟨rfl, ?_⟩
  have e : decide (V.str i = V.str j) = decide (i = j) := by simp
  rw [e]
  exact q _ S H (Gr.rfl' ex) (.bl _)
theorem opd_neS {i j : Str} : OpD K rNe (.str i) (.str j) (.dat (.bl (!decide (i = j)))) := fun S H x y ex hx hy Q q => by
  rw [dp_str hx, dp_str hy]
  refine ⟨rfl, ?_⟩
  have e : decide (V.str i = V.str j) = decide (i = j) := by simp
  rw [e]
  exact q _ S H (Gr.rfl' ex) (.bl _)
/-! equality of data -/
mutual
def D.py : D → PyData
  | .non => .none
  | .bl b => .bool b
  | .int i => .int i
  | .str x => .str x
  | .lst ds => .list (D.pys ds)
  | .tup ds => .tuple (D.pys ds)
  | .dic => .none
  | .ob _ => .none
def D.pys : List D → List PyData
  | [] => []
  | d :: ds => D.py d :: D.pys ds
end
mutual
def D.pure : D → Bool
  | .dic => false
  | .ob _ => false
  | .lst ds => D.pures ds
  | .tup ds => D.pures ds
  | _ => true
def D.pures : List D → Bool
  | [] => true
  | d :: ds => D.pure d && D.pures ds
end
mutual
theorem rp_dp {S : Hp} : ∀ (d : D) (v : V), D.pure d = true → Rp K S v d → Dp K S v (D.py d)
  | .non, _, _, h => by cases h; exact .non
  | .bl b, _, _, h => by cases h; exact .bl b
  | .int i, _, _, h => by cases h; exact .int i
  | .str x, _, _, h => by cases h; exact .str x
  | .lst ds, _, p, h => by
    cases h with
    | lst hs ha => exact .lst hs (rpAll_dp ds _ (by simpa [D.pure] using p) ha)
  | .tup ds, _, p, h => by
    cases h with
    | tup hs ha => exact .tup hs (rpAll_dp ds _ (by simpa [D.pure] using p) ha)
  | .dic, _, p, _ => by simp [D.pure] at p
  | .ob _, _, p, _ => by simp [D.pure] at p
theorem rpAll_dp {S : Hp} : ∀ (ds : List D) (vs : List V), D.pures ds = true → RpAll K S vs ds → DpAll K S vs (D.pys ds)
  | [], _, _, h => by cases h; exact .nil
  | d :: ds, _, p, h => by
    rw [D.pures, Bool.and_eq_true] at p
    cases h with
    | cons h1 h2 => exact .cons (rp_dp d _ p.1 h1) (rpAll_dp ds _ p.2 h2)
end
/-- what Python's == says of data -/
def D.eq (d e : D) : Bool := PyData.eqv d.py e.py
/-- data that == takes -/
def D.okEq (d : D) : Bool := d.pure && SeqAt.shaped d.py
theorem opd_eqD (sd : d.okEq = true) (se : e.okEq = true) : OpD K (rEqD K) d e (.dat (.bl (D.eq d e))) := fun S H x y ex hx hy Q q => by
  unfold D.okEq at sd se
  rw [Bool.and_eq_true] at sd se
  exact ⟨d.py, e.py, rp_dp _ _ sd.1 (dp_ex ex _ _ hx), rp_dp _ _ se.1 (dp_ex ex _ _ hy), sd.2, se.2, q _ S H (Gr.rfl' ex) (.bl _)⟩
theorem opd_neD (sd : d.okEq = true) (se : e.okEq = true) : OpD K (rNeD K) d e (.dat (.bl (!D.eq d e))) := fun S H x y ex hx hy Q q => by
  unfold D.okEq at sd se
  rw [Bool.and_eq_true] at sd se
  exact ⟨d.py, e.py, rp_dp _ _ sd.1 (dp_ex ex _ _ hx), rp_dp _ _ se.1 (dp_ex ex _ _ hy), sd.2, se.2, q _ S H (Gr.rfl' ex) (.bl _)⟩
/-! items -/
theorem atI_dp {S : Hp} {xs : List V} {ds : List D} {i : Int} (h : RpAll K S xs ds) (ha : atI ds i = some d) : ∃ v, atI xs i = some v ∧ Rp K S v d := by
  unfold atI at ha ⊢
  rw [da_length h]
  cases e : ixN ds.length i with
  | none => rw [e] at ha; cases ha
  | some j =>
    rw [e] at ha
    exact da_get h ha
theorem opd_ixL {ds : List D} {i : Int} (ha : atI ds i = some d) : OpD K (rIxL K) (.lst ds) (.int i) (.dat d) := fun S H x y ex hx hy Q q => by
  obtain ⟨a, xs, rfl, h1, h2⟩ := dp_list hx
  rw [dp_int hy]
  obtain ⟨v, h3, h4⟩ := atI_dp h2 ha
  exact ⟨a, xs, i, v, rfl, rfl, Evl.ex_l ex h1, h3, q v S H (Gr.rfl' ex) h4⟩
theorem opd_ixT {ds : List D} {i : Int} (ha : atI ds i = some d) : OpD K (rIxT K) (.tup ds) (.int i) (.dat d) := fun S H x y ex hx hy Q q => by
  obtain ⟨a, xs, rfl, h1, h2⟩ := dp_tuple hx
  rw [dp_int hy]
  obtain ⟨v, h3, h4⟩ := atI_dp h2 ha
  exact ⟨a, xs, i, v, rfl, rfl, Evl.ex_t ex h1, h3, q v S H (Gr.rfl' ex) h4⟩
theorem opd_ix_l {ds : List D} {i : Int} (ha : atI ds i = some d) : OpD K (rIx K) (.lst ds) (.int i) (.dat d) := fun S H x y ex hx hy Q q => .inl (opd_ixL ha S H x y ex hx hy Q q)
theorem opd_ix_t {ds : List D} {i : Int} (ha : atI ds i = some d) : OpD K (rIx K) (.tup ds) (.int i) (.dat d) := fun S H x y ex hx hy Q q => .inr (.inl (opd_ixT ha S H x y ex hx hy Q q))
/-! tests -/
theorem et_test {b : Bool} (h : Ev K te ρ (.dat (.bl b))) : EvT K (tTest te) ρ b := fun S0 H0 S H σ R Q q => h S0 H0 S H σ R _ fun v S' H' g hv => ⟨b, dp_bool hv, q S' H' g⟩
theorem et_B {b : Bool} (h : Ev K te ρ (.dat (.bl b))) : EvT K (tB te) ρ b := fun S0 H0 S H σ R Q q => h S0 H0 S H σ R _ fun v S' H' g hv => ⟨b, dp_bool hv, q S' H' g⟩
theorem et_and {a b : Bool} (h1 : EvT K tt ρ a) (h2 : a = true → EvT K tu ρ b) : EvT K (tAnd tt tu) ρ (a && b) := fun S0 H0 S H σ R Q q => h1 S0 H0 S H σ R _ fun S1 H1 g1 => by
  cases a with
  | true =>
    show tu σ H1 Q
    exact h2 rfl S0 H0 S1 H1 σ (R.grow g1) Q fun S2 H2 g2 => q S2 H2 (g1.trans g2)
  | false => exact q S1 H1 g1
theorem et_or {a b : Bool} (h1 : EvT K tt ρ a) (h2 : a = false → EvT K tu ρ b) : EvT K (tOr tt tu) ρ (a || b) := fun S0 H0 S H σ R Q q => h1 S0 H0 S H σ R _ fun S1 H1 g1 => by
  cases a with
  | true => exact q S1 H1 g1
  | false =>
    show tu σ H1 Q
    exact h2 rfl S0 H0 S1 H1 σ (R.grow g1) Q fun S2 H2 g2 => q S2 H2 (g1.trans g2)
theorem et_not {a : Bool} (h1 : EvT K tt ρ a) : EvT K (tNot tt) ρ (!a) := fun S0 H0 S H σ R Q q => h1 S0 H0 S H σ R _ fun S1 H1 g1 => q S1 H1 g1
theorem ev_andV {a b : Bool} (h1 : Ev K ta ρ (.dat (.bl a))) (h2 : a = true → Ev K tb ρ (.dat (.bl b))) : Ev K (tAndV ta tb) ρ (.dat (.bl (a && b))) := fun S0 H0 S H σ R Q q => h1 S0 H0 S H σ R _ fun v S1 H1 g1 hv => ⟨a, dp_bool hv, by
  cases a with
  | true =>
    show tb σ H1 Q
    exact h2 rfl S0 H0 S1 H1 σ (R.grow g1) Q fun v S2 H2 g2 hv => q v S2 H2 (g1.trans g2) hv
  | false => exact q _ S1 H1 g1 (.bl _)⟩
theorem ev_orV {a b : Bool} (h1 : Ev K ta ρ (.dat (.bl a))) (h2 : a = false → Ev K tb ρ (.dat (.bl b))) : Ev K (tOrV ta tb) ρ (.dat (.bl (a || b))) := fun S0 H0 S H σ R Q q => h1 S0 H0 S H σ R _ fun v S1 H1 g1 hv => ⟨a, dp_bool hv, by
  cases a with
  | true => exact q _ S1 H1 g1 (.bl _)
  | false =>
    show tb σ H1 Q
    exact h2 rfl S0 H0 S1 H1 σ (R.grow g1) Q fun v S2 H2 g2 hv => q v S2 H2 (g1.trans g2) hv⟩
theorem ev_notV {a : Bool} (h1 : Ev K ta ρ (.dat (.bl a))) : Ev K (tNotV ta) ρ (.dat (.bl (!a))) := fun S0 H0 S H σ R Q q => h1 S0 H0 S H σ R _ fun v S1 H1 g1 hv => ⟨a, dp_bool hv, q _ S1 H1 g1 (.bl _)⟩
theorem ev_if {b : Bool} (h : EvT K tt ρ b) (h1 : b = true → Ev K ta ρ res) (h2 : b = false → Ev K tb ρ res) : Ev K (tIf tt ta tb) ρ res := fun S0 H0 S H σ R Q q => h S0 H0 S H σ R _ fun S1 H1 g1 => by
  cases b with
  | true =>
    show ta σ H1 Q
    exact h1 rfl S0 H0 S1 H1 σ (R.grow g1) Q fun v S2 H2 g2 hv => q v S2 H2 (g1.trans g2) (res_back g1.h hv)
  | false =>
    show tb σ H1 Q
    exact h2 rfl S0 H0 S1 H1 σ (R.grow g1) Q fun v S2 H2 g2 hv => q v S2 H2 (g1.trans g2) (res_back g1.h hv)
/-- None; what a told object is can't be said -/
def isNon : D → Bool
  | .non => true
  | .ob .non => true
  | _ => false
theorem ev_isN (h : Ev K te ρ (.dat d)) : Ev K (tIsN te) ρ (.dat (.bl (isNon d))) := fun S0 H0 S H σ R Q q => h S0 H0 S H σ R _ fun v S1 H1 g1 hv => by
  refine q _ S1 H1 g1 ?_
  cases hv with
  | ob _ => cases v <;> exact .bl _
  | _ => exact .bl _
theorem ev_notN (h : Ev K te ρ (.dat d)) : Ev K (tNotN te) ρ (.dat (.bl (!isNon d))) := fun S0 H0 S H σ R Q q => h S0 H0 S H σ R _ fun v S1 H1 g1 hv => by
  refine q _ S1 H1 g1 ?_
  cases hv with
  | ob _ => cases v <;> exact .bl _
  | _ => exact .bl _
/-! a < b < c -/
theorem ev_chain {r' : R2} {tc : TE} {f : D} {b : Bool} (ha : Ev K ta ρ (.dat d)) (hb : Ev K tb ρ (.dat e)) (hr : OpD K r d e (.dat (.bl b))) (h0 : b = false → res = .dat (.bl false)) (hc : b = true → Ev K tc ρ (.dat f)) (hr' : b = true → OpD K r' e f res) : Ev K (tChain r r' ta tb tc) ρ res := fun S0 H0 S H σ R Q q =>
  ha S0 H0 S H σ R _ fun x S1 H1 g1 hx => hb S0 H0 S1 H1 σ (R.grow g1) _ fun y S2 H2 g2 hy => hr S2 H2 x y g2.s (dp_ex g2.ss _ _ hx) hy _ fun z S3 H3 g3 hz => by
    refine ⟨b, dp_bool hz, ?_⟩
    cases b with
    | false =>
      show Q (.bl false) H3
      refine q _ S3 H3 ((g1.trans g2).trans g3) ?_
      rw [h0 rfl]
      exact .bl _
    | true =>
      show tc σ H3 _
      exact hc rfl S0 H0 S3 H3 σ (R.grow ((g1.trans g2).trans g3)) _ fun w S4 H4 g4 hw => hr' rfl S4 H4 y w g4.s (dp_ex (g3.trans g4).ss _ _ hy) hw Q fun v S5 H5 g5 hv =>
        q v S5 H5 ((((g1.trans g2).trans g3).trans g4).trans g5) (res_back (((g1.trans g2).trans g3).trans g4).h hv)
/-! arguments, displays -/
theorem ea_nil : EvA K tNil ρ [] := fun S0 H0 S H σ R Q q => q [] S H (Gr.rfl' R.gr.s) .nil
theorem argsOk_ex {S S' : Hp} (e : Ex S S') : ∀ {vs : List V} {rs : List Sl}, ArgsOk K S vs rs → ArgsOk K S' vs rs
  | _, _, .nil => .nil
  | _, _, .cons (s := s) h t => .cons (by
      cases s with
      | no => exact h.elim
      | ow o =>
        cases o with
        | dat d => exact dp_ex e _ _ h
        | lst _ => exact h.elim
        | tup _ => exact h.elim) (argsOk_ex e t)
theorem ea_cons {tr : TA} {d : D} {rs : List Sl} (h : Ev K te ρ (.dat d)) (hr : EvA K tr ρ rs) : EvA K (tCons te tr) ρ (.dat d :: rs) := fun S0 H0 S H σ R Q q =>
  h S0 H0 S H σ R _ fun v S1 H1 g1 hv => hr S0 H0 S1 H1 σ (R.grow g1) _ fun vs S2 H2 g2 hvs => q _ S2 H2 (g1.trans g2) (.cons (dp_ex g2.ss _ _ hv) hvs)
theorem args_dat {S : Hp} : ∀ {vs : List V} {ds : List D}, ArgsOk K S vs (ds.map Sl.dat) → RpAll K S vs ds
  | _, [], .nil => .nil
  | _, d :: ds, .cons h t => .cons h (args_dat t)
theorem dat_args {S : Hp} : ∀ {vs : List V} {ds : List D}, RpAll K S vs ds → ArgsOk K S vs (ds.map Sl.dat)
  | _, _, .nil => .nil
  | _, _, .cons h t => .cons h (dat_args t)
theorem ev_tup {ta : TA} {ds : List D} (h : EvA K ta ρ (ds.map Sl.dat)) (hl : ds.length ≤ 100000) : Ev K (tTup ta) ρ (.dat (.tup ds)) := fun S0 H0 S H σ R Q q =>
  h S0 H0 S H σ R _ fun vs S1 H1 g1 hvs => by
    have ha := args_dat hvs
    refine ⟨by rw [da_length ha]; exact Evl.sz_of hl, fun p hp => ?_⟩
    have g2 : Gr S1 H1 _ _ := Gr.fresh (o := .tup vs) g1.s hp
    exact q _ _ _ (g1.trans g2) (.tup (.inl (.inl upd_same)) (dpAll_ex g2.ss _ _ ha))
theorem ev_lst {ta : TA} {ds : List D} (h : EvA K ta ρ (ds.map Sl.dat)) (hl : ds.length ≤ 100000) : Ev K (tLst ta) ρ (.own ds) := fun S0 H0 S H σ R Q q =>
  h S0 H0 S H σ R _ fun vs S1 H1 g1 hvs => by
    have ha := args_dat hvs
    refine ⟨by rw [da_length ha]; exact Evl.sz_of hl, fun p hp => ?_⟩
    have g2 : Gr S1 H1 S1 _ := Gr.freshH (o := .lst vs) g1.s hp
    exact q _ _ _ (g1.trans g2) (res_own (Evl.fresh_back g1.h hp) (Evl.fresh_back g1.s hp) upd_same ha)
/-! slices -/
theorem eo_none : EvO K tNoPart ρ none := fun S0 H0 S H σ R Q q => q S H (Gr.rfl' R.gr.s)
theorem eo_some {i : Int} (h : Ev K te ρ (.dat (.int i))) : EvO K (tPart te) ρ (some i) := fun S0 H0 S H σ R Q q => h S0 H0 S H σ R _ fun v S1 H1 g1 hv => ⟨i, dp_int hv, q S1 H1 g1⟩
def cutD (xs : List D) (lo hi : Option Int) : List D := (xs.drop (HT.sIx xs.length 0 lo)).take (HT.sIx xs.length xs.length hi - HT.sIx xs.length 0 lo)
theorem ev_sl {tl th : TO} {ds : List D} {lo hi : Option Int} (h : Ev K te ρ (.dat (.lst ds))) (h1 : EvO K tl ρ lo) (h2 : EvO K th ρ hi) : Ev K (tSl (rSlL K) te tl th) ρ (.own (cutD ds lo hi)) := fun S0 H0 S H σ R Q q =>
  h S0 H0 S H σ R _ fun v S1 H1 g1 hv => h1 S0 H0 S1 H1 σ (R.grow g1) _ fun S2 H2 g2 => h2 S0 H0 S2 H2 σ (R.grow (g1.trans g2)) _ fun S3 H3 g3 => by
    obtain ⟨a, xs, rfl, e1, e2⟩ := dp_list hv
    have e1' : SqL K S3 a xs := Evl.ex_l (g2.trans g3).ss e1
    have e2' := dpAll_ex (g2.trans g3).ss _ _ e2
    refine ⟨a, xs, rfl, Evl.ex_l g3.s e1', fun p hp => ?_⟩
    have g4 : Gr S3 H3 S3 _ := Gr.freshH (o := .lst (cutV xs lo hi)) g3.s hp
    exact q _ _ _ (((g1.trans g2).trans g3).trans g4) (res_own (Evl.fresh_back ((g1.trans g2).trans g3).h hp) (Evl.fresh_back g3.s hp) upd_same (da_cut e2' lo hi))
theorem ev_rev {ds : List D} (h : Ev K te ρ (.dat (.lst ds))) : Ev K (tRevL K te) ρ (.own ds.reverse) := fun S0 H0 S H σ R Q q =>
  h S0 H0 S H σ R _ fun v S1 H1 g1 hv => by
    obtain ⟨a, xs, rfl, e1, e2⟩ := dp_list hv
    refine ⟨a, xs, rfl, Evl.ex_l g1.s e1, fun p hp => ?_⟩
    have g4 : Gr S1 H1 S1 _ := Gr.freshH (o := .lst xs.reverse) g1.s hp
    exact q _ _ _ (g1.trans g4) (res_own (Evl.fresh_back g1.h hp) (Evl.fresh_back g1.s hp) upd_same (da_rev e2))
/-! calls -/
theorem ev_cb {f : List V → Hp → VK → Prop} {ta : TA} {rs : List Sl} (h : EvA K ta ρ rs) (hr : CbD K f rs res) : Ev K (tCB f ta) ρ res := fun S0 H0 S H σ R Q q =>
  h S0 H0 S H σ R _ fun vs S1 H1 g1 hvs => hr S1 H1 vs g1.s hvs Q fun v S2 H2 g2 hv => q v S2 H2 (g1.trans g2) (res_back g1.h hv)
theorem ev_call {sp : Sp} {E : XK} {ta : TA} {rs : List Sl} (h : EvA K ta ρ rs) (hr : SpD K sp rs res) : Ev K (tCall sp [] E ta) ρ res := fun S0 H0 S H σ R Q q =>
  h S0 H0 S H σ R _ fun vs S1 H1 g1 hvs => by
    show sp (vs ++ []) H1 Q E
    rw [List.append_nil]
    exact hr E S1 H1 vs g1.s hvs Q fun v S2 H2 g2 hv => q v S2 H2 (g1.trans g2) (res_back g1.h hv)
end
end DL

namespace DL
open PySem PySem.Spec PyProof.Rows L2
open Evl (Ex)

theorem path_ex {H H' : Hp} (e : Ex H H') : ∀ {path : List Nat} {v u : V}, PathV H v path u → PathV H' v path u
  | _, _, _, .nil => .nil
  | _, _, _, .lst h1 h2 h3 => .lst (e _ _ h1) h2 (path_ex e h3)
  | _, _, _, .tup h1 h2 h3 => .tup (e _ _ h1) h2 (path_ex e h3)
theorem path_det' {H : Hp} : ∀ {path : List Nat} {v u w : V}, PathV H v path u → PathV H v path w → u = w
  | _, _, _, _, .nil, h => by cases h; rfl
  | _, _, _, _, .lst h1 h2 h3, h => by
    cases h with
    | lst q1 q2 q3 =>
      rw [h1] at q1
      cases q1
      rw [h2] at q2
      cases q2
      exact path_det' h3 q3
    | tup q1 q2 q3 => rw [h1] at q1; cases q1
  | _, _, _, _, .tup h1 h2 h3, h => by
    cases h with
    | tup q1 q2 q3 =>
      rw [h1] at q1
      cases q1
      rw [h2] at q2
      cases q2
      exact path_det' h3 q3
    | lst q1 q2 q3 => rw [h1] at q1; cases q1
theorem path_det {H : Hp} {path : List Nat} {v : V} {p q : Addr} (h : PathV H v path (.ref p)) (h' : PathV H v path (.ref q)) : q = p := by
  have := path_det' h h'
  cases this
  rfl
/-! ### statements -/
inductive Out where
  | nx (ρ : List Sl) | rt (r : Sl) | bk (ρ : List Sl) | ct (ρ : List Sl) | rs (c : Value)
def Ok (K : PySem.W.Frag) (S0 H0 S : Hp) (E : XK) (D : Ends) : Out → Prop
  | .nx ρ => ∀ σ S' H', Ex S S' → Rep K S0 H0 S' H' σ ρ → D.nx σ H'
  | .bk ρ => ∀ σ S' H', Ex S S' → Rep K S0 H0 S' H' σ ρ → D.bk σ H'
  | .ct ρ => ∀ σ S' H', Ex S S' → Rep K S0 H0 S' H' σ ρ → D.ct σ H'
  | .rt r => ∀ v S' H', Gr S0 H0 S' H' → Res K H0 S' H' v r → D.rt v H'
  | .rs c => ∀ S' H', Gr S0 H0 S' H' → E c none H'
def Sx (K : PySem.W.Frag) (E : XK) (ts : TS) (ρ : List Sl) (o : Out) : Prop := ∀ S0 H0 S H σ, Rep K S0 H0 S H σ ρ → ∀ D, Ok K S0 H0 S E D o → ts D σ H

section
variable {K : PySem.W.Frag} {E : XK} {ρ ρ1 ρ2 : List Sl} {te ta tb : TE} {tt : TT} {t u : TS} {o : Out} {r : Sl} {d e : D}
theorem Sx.is {o' : Out} (h : Sx K E t ρ o) (e : o = o') : Sx K E t ρ o' := e ▸ h
theorem ok_mono {S0 H0 S S' : Hp} {D : Ends} (e : Ex S S') (h : Ok K S0 H0 S E D o) : Ok K S0 H0 S' E D o := by
  cases o with
  | nx ρ => exact fun σ S2 H2 e2 R => h σ S2 H2 (e.trans e2) R
  | bk ρ => exact fun σ S2 H2 e2 R => h σ S2 H2 (e.trans e2) R
  | ct ρ => exact fun σ S2 H2 e2 R => h σ S2 H2 (e.trans e2) R
  | rt r => exact h
  | rs c => exact h
theorem sx_next : Sx K E tNext ρ (.nx ρ) := fun S0 H0 S H σ R D k => k σ S H (Ex.refl _) R
theorem sx_seq (h1 : Sx K E t ρ (.nx ρ1)) (h2 : Sx K E u ρ1 o) : Sx K E (tSeq t u) ρ o := fun S0 H0 S H σ R D k =>
  h1 S0 H0 S H σ R _ fun σ' S' H' e R' => h2 S0 H0 S' H' σ' R' D (ok_mono e k)
theorem sx_seqR (h1 : Sx K E t ρ (.rt r)) : Sx K E (tSeq t u) ρ (.rt r) := fun S0 H0 S H σ R D k => h1 S0 H0 S H σ R _ k
theorem sx_seqB (h1 : Sx K E t ρ (.bk ρ1)) : Sx K E (tSeq t u) ρ (.bk ρ1) := fun S0 H0 S H σ R D k => h1 S0 H0 S H σ R _ k
theorem sx_seqC (h1 : Sx K E t ρ (.ct ρ1)) : Sx K E (tSeq t u) ρ (.ct ρ1) := fun S0 H0 S H σ R D k => h1 S0 H0 S H σ R _ k
theorem sx_seqX {c : Value} (h1 : Sx K E t ρ (.rs c)) : Sx K E (tSeq t u) ρ (.rs c) := fun S0 H0 S H σ R D k => h1 S0 H0 S H σ R _ k
theorem sx_brk : Sx K E tBreak ρ (.bk ρ) := fun S0 H0 S H σ R D k => k σ S H (Ex.refl _) R
theorem sx_cont : Sx K E tCont ρ (.ct ρ) := fun S0 H0 S H σ R D k => k σ S H (Ex.refl _) R
theorem sx_drop {r : Sl} (h : Ev K te ρ r) : Sx K E (tDrop te) ρ (.nx ρ) := fun S0 H0 S H σ R D k => h S0 H0 S H σ R _ fun v S' H' g _ => k σ S' H' g.ss (R.grow g)
theorem sx_ret (h : Ev K te ρ r) : Sx K E (tRet te) ρ (.rt r) := fun S0 H0 S H σ R D k => h S0 H0 S H σ R _ fun v S' H' g hv => k v S' H' (R.gr.trans g) (res_back R.gr.h hv)
/-- return of an owned thing -/
theorem sx_retOw {i : Nat} {o : O} (hi : ρ[i]? = some (.ow o)) : Sx K E (tRet (tVar i)) ρ (.rt (.ow o)) := fun S0 H0 S H σ R D k => by
  obtain ⟨v, fp, h1, h2, h3⟩ := R.at' i o hi
  exact ⟨v, h1, k _ S H R.gr (rp_res h2 h3)⟩
theorem sx_retOwn {i : Nat} {ds : List D} (hi : ρ[i]? = some (.own ds)) : Sx K E (tRet (tVar i)) ρ (.rt (.own ds)) := sx_retOw hi
theorem sx_retN : Sx K E tRetN ρ (.rt (.dat .non)) := fun S0 H0 S H σ R D k => k _ S H R.gr .non
theorem sx_set {i : Nat} (h : Ev K te ρ r) : Sx K E (tAsg te (gName i)) ρ (.nx (ρ.set i r)) := fun S0 H0 S H σ R D k => h S0 H0 S H σ R _ fun v S' H' g hv => k _ S' H' g.ss (R.putRes g i hv)
theorem sx_if {b : Bool} (h : EvT K tt ρ b) (h1 : b = true → Sx K E t ρ o) (h2 : b = false → Sx K E u ρ o) : Sx K E (tIfS tt t u) ρ o := fun S0 H0 S H σ R D k => h S0 H0 S H σ R _ fun S' H' g => by
  cases b with
  | true =>
    show t D σ H'
    exact h1 rfl S0 H0 S' H' σ (R.grow g) D (ok_mono g.ss k)
  | false =>
    show u D σ H'
    exact h2 rfl S0 H0 S' H' σ (R.grow g) D (ok_mono g.ss k)
/-- if, then the rest of the block in each way -/
theorem sx_ifq {b : Bool} {w : TS} (h : EvT K tt ρ b) (h1 : b = true → Sx K E (tSeq t w) ρ o) (h2 : b = false → Sx K E (tSeq u w) ρ o) : Sx K E (tSeq (tIfS tt t u) w) ρ o := fun S0 H0 S H σ R D k => h S0 H0 S H σ R _ fun S' H' g => by
  cases b with
  | true => exact h1 rfl S0 H0 S' H' σ (R.grow g) D (ok_mono g.ss k)
  | false => exact h2 rfl S0 H0 S' H' σ (R.grow g) D (ok_mono g.ss k)
theorem sx_skip {w : TS} (h : Sx K E w ρ o) : Sx K E (tSeq tNext w) ρ o := sx_seq sx_next h
theorem Sx.freezeO {i : Nat} {q : O} (hi : ρ[i]? = some (.ow q)) (h : Sx K E t (ρ.set i (.dat q.toD)) o) : Sx K E t ρ o := fun S0 H0 S H σ R D k => by
  obtain ⟨S1, es, R2⟩ := R.freeze hi
  exact h S0 H0 _ H σ R2 D (ok_mono es k)
theorem Sx.freeze {i : Nat} {ds : List D} (hi : ρ[i]? = some (.own ds)) (h : Sx K E t (ρ.set i (.dat (.lst ds))) o) : Sx K E t ρ o := by
  refine Sx.freezeO hi ?_
  rw [O.toD, toDs_dat]
  exact h
theorem Sx.weak {ρ' : List Sl} (hl : ρ'.length = ρ.length) (hw : ∀ (i : Nat) s, ρ'[i]? = some s → s = .no ∨ ρ[i]? = some s) (h : Sx K E t ρ' o) : Sx K E t ρ o := fun S0 H0 S H σ R D k => h S0 H0 S H σ (R.weak hl hw) D k
/-- behind a statement less may be said -/
theorem Sx.post {ρ' : List Sl} (hl : ρ'.length = ρ1.length) (hw : ∀ (i : Nat) s, ρ'[i]? = some s → s = .no ∨ ρ1[i]? = some s) (h : Sx K E t ρ (.nx ρ1)) : Sx K E t ρ (.nx ρ') := fun S0 H0 S H σ R D k =>
  h S0 H0 S H σ R D fun σ' S' H' e R' => k σ' S' H' e (R'.weak hl hw)
/-- a raise -/
theorem sx_rs {c : Value} {f : TS} (h : ∀ D σ H, E c none H → f D σ H) : Sx K E f ρ (.rs c) := fun S0 H0 S H σ R D k => h D σ H (k S H R.gr)
/-- a call that raises -/
theorem ev_callX {R : List Sl → Sl → Prop} {RX : List Sl → Value → Prop} {rs : List Sl} {c : Value} {ta : TA} (h : EvA K ta ρ rs) (hr : RX rs c) : ∀ S0 H0 S H σ, Rep K S0 H0 S H σ ρ → ∀ Q : VK, (∀ S' H', Gr S H S' H' → E c none H') → tCall (spX K R RX) [] E ta σ H Q := fun S0 H0 S H σ Rp Q q =>
  h S0 H0 S H σ Rp _ fun vs S1 H1 g1 hvs => by
    show spX K R RX (vs ++ []) H1 Q E
    rw [List.append_nil]
    exact ⟨S1, rs, g1.s, hvs, .inr ⟨c, hr, fun S' H' g => q S' H' (g1.trans g)⟩⟩
theorem sx_dropX {R : List Sl → Sl → Prop} {RX : List Sl → Value → Prop} {rs : List Sl} {c : Value} {ta : TA} (h : EvA K ta ρ rs) (hr : RX rs c) : Sx K E (tDrop (tCall (spX K R RX) [] E ta)) ρ (.rs c) := fun S0 H0 S H σ Rp D k =>
  ev_callX h hr S0 H0 S H σ Rp _ fun S' H' g => k S' H' (Rp.gr.trans g)
/-! parallel assignment -/
theorem vals2d {S : Hp} {vs : List V} {a b : Sl} (h : ArgsOk K S vs [a, b]) : ∃ v w, vs = [v, w] ∧ ArgOk K S v a ∧ ArgOk K S w b := by
  cases h with
  | cons h1 t =>
    cases t with
    | cons h2 t =>
      cases t
      exact ⟨_, _, rfl, h1, h2⟩
theorem vals3d {S : Hp} {vs : List V} {a b c : Sl} (h : ArgsOk K S vs [a, b, c]) : ∃ u v w, vs = [u, v, w] ∧ ArgOk K S u a ∧ ArgOk K S v b ∧ ArgOk K S w c := by
  cases h with
  | cons h1 t =>
    obtain ⟨v, w, rfl, h2, h3⟩ := vals2d t
    exact ⟨_, _, _, rfl, h1, h2, h3⟩
theorem vals1d {S : Hp} {vs : List V} {a : Sl} (h : ArgsOk K S vs [a]) : ∃ v, vs = [v] ∧ ArgOk K S v a := by
  cases h with
  | cons h1 t =>
    cases t
    exact ⟨_, rfl, h1⟩
theorem Rep.putArg {S0 H0 S H : Hp} {σ : L2.St} (R : Rep K S0 H0 S H σ ρ) (i : Nat) {v : V} {s : Sl} (h : ArgOk K S v s) : Rep K S0 H0 S H (σ.set i (some v)) (ρ.set i s) := R.put i fun o e => by
  subst e
  cases o with
  | dat d => exact ⟨[], .dat h, by simp, by simp⟩
  | lst _ => exact h.elim
  | tup _ => exact h.elim
theorem sx_par {i j : Nat} {ta : TA} {a b : Sl} (h : EvA K ta ρ [a, b]) : Sx K E (tPar i j ta) ρ (.nx ((ρ.set i a).set j b)) := fun S0 H0 S H σ R D k => h S0 H0 S H σ R _ fun vs S' H' g hvs => by
  obtain ⟨v, w, rfl, h1, h2⟩ := vals2d hvs
  exact ⟨v, w, rfl, k _ S' H' g.ss (((R.grow g).putArg i h1).putArg j h2)⟩
theorem sx_par3 {i j l : Nat} {ta : TA} {a b c : Sl} (h : EvA K ta ρ [a, b, c]) : Sx K E (tPar3 i j l ta) ρ (.nx (((ρ.set i a).set j b).set l c)) := fun S0 H0 S H σ R D k => h S0 H0 S H σ R _ fun vs S' H' g hvs => by
  obtain ⟨u, v, w, rfl, h1, h2, h3⟩ := vals3d hvs
  exact ⟨u, v, w, rfl, k _ S' H' g.ss ((((R.grow g).putArg i h1).putArg j h2).putArg l h3)⟩
/-- tPar3 whose first is a new list that is owned, the others flat -/
theorem sx_par3O {i j l : Nat} {ds : List D} {tc : TE} {x y : D} (fx : flatD x = true) (fy : flatD y = true) (h1 : Ev K ta ρ (.own ds)) (h2 : Ev K tb ρ (.dat x)) (h3 : Ev K tc ρ (.dat y)) : Sx K E (tPar3 i j l (tCons ta (tCons tb (tCons tc tNil)))) ρ (.nx (((ρ.set i (.own ds)).set j (.dat x)).set l (.dat y))) := fun S0 H0 S H σ R D k =>
  h1 S0 H0 S H σ R _ fun v S1 H1 g1 hv1 => h2 S0 H0 S1 H1 σ (R.grow g1) _ fun w S2 H2 g2 hw => h3 S0 H0 S2 H2 σ (R.grow (g1.trans g2)) _ fun z S3 H3 g3 hz => by
    obtain ⟨p, vs, rfl, q1, q2, q3, q4⟩ := own_res hv1
    have g23 := g2.trans g3
    have hr : Res K H S3 H3 (.ref p) (.own ds) := res_own q1 (g23.none q2 q3) (g23.h _ _ q3) (dpAll_ex g23.ss _ _ q4)
    refine ⟨_, w, z, rfl, k _ S3 H3 ((g1.trans g2).trans g3).ss ?_⟩
    have R1 := R.putRes ((g1.trans g2).trans g3) i hr
    exact (R1.putArg j (s := .dat x) (dp_flat _ fx hw)).putArg l (s := .dat y) (dp_flat _ fy hz)
/-! in place -/
theorem sx_aug {i : Nat} {f : Int → Int → Int} {x y : Int} (hi : ρ[i]? = some (.dat (.int x))) (h : Ev K te ρ (.dat (.int y))) : Sx K E (tAug i te (ipI f)) ρ (.nx (ρ.set i (.dat (.int (f x y))))) := fun S0 H0 S H σ R D k => by
  obtain ⟨v, h1, h2⟩ := R.dat i _ hi
  refine ⟨v, h1, h S0 H0 S H σ R _ fun w S' H' g hw => ⟨x, y, dp_int h2, dp_int hw, k _ S' H' g.ss ((R.grow g).putArg i (s := .dat _) (.int _))⟩⟩
/-! owned things, by paths -/
/-- te is the part at path of the thing that slot i owns -/
def EvP (K : PySem.W.Frag) (te : TE) (ρ : List Sl) (i : Nat) (path : List Nat) : Prop := ∀ S0 H0 S H σ, Rep K S0 H0 S H σ ρ → ∀ v u, σ[i]? = some (some v) → PathV H v path u → ∀ Q : VK, Q u H → te σ H Q
theorem path_cut {H : Hp} : ∀ {p1 : List Nat} {k : Nat} {v u : V}, PathV H v (p1 ++ [k]) u → ∃ q : Addr, PathV H v p1 (.ref q) ∧ ((∃ vs, H q = some (.lst vs) ∧ vs[k]? = some u) ∨ (∃ vs, H q = some (.tup vs) ∧ vs[k]? = some u))
  | [], _, _, _, h => by
    cases h with
    | lst h1 h2 h3 => cases h3; exact ⟨_, .nil, .inl ⟨_, h1, h2⟩⟩
    | tup h1 h2 h3 => cases h3; exact ⟨_, .nil, .inr ⟨_, h1, h2⟩⟩
  | a :: p1, k, _, _, h => by
    cases h with
    | lst h1 h2 h3 =>
      obtain ⟨q, q1, q2⟩ := path_cut h3
      exact ⟨q, .lst h1 h2 q1, q2⟩
    | tup h1 h2 h3 =>
      obtain ⟨q, q1, q2⟩ := path_cut h3
      exact ⟨q, .tup h1 h2 q1, q2⟩
theorem evp_var {i : Nat} : EvP K (tVar i) ρ i [] := fun S0 H0 S H σ R v u hv hp Q q => by
  cases hp
  exact ⟨v, hv, q⟩
theorem evp_ix {i k : Nat} {path : List Nat} (h : EvP K te ρ i path) : EvP K (tOp (rIx K) te (tC (.int (k : Nat)))) ρ i (path ++ [k]) := fun S0 H0 S H σ R v u hv hp Q q => by
  obtain ⟨a, h1, h2⟩ := path_cut hp
  refine h S0 H0 S H σ R v (.ref a) hv h1 _ ?_
  rcases h2 with ⟨vs, h2, h3⟩ | ⟨vs, h2, h3⟩
  · exact .inl ⟨a, vs, k, u, rfl, rfl, .inl (.inl h2), atI_nat h3, q⟩
  · exact .inr (.inl ⟨a, vs, k, u, rfl, rfl, .inl (.inl h2), atI_nat h3, q⟩)
theorem evp_ix0 {i : Nat} {path : List Nat} (h : EvP K te ρ i path) : EvP K (tOp (rIx K) te (tC (.int 0))) ρ i (path ++ [0]) := evp_ix (k := 0) h
theorem evp_ix1 {i : Nat} {path : List Nat} (h : EvP K te ρ i path) : EvP K (tOp (rIx K) te (tC (.int 1))) ρ i (path ++ [1]) := evp_ix (k := 1) h
/-- o.append(e), o a part of what slot i owns -/
theorem sx_appendP {i : Nat} {q : O} {path : List Nat} {ds : List D} {to : TE} (hi : ρ[i]? = some (.ow q)) (hp : q.get path = some (.lst (ds.map O.dat))) (ho : EvP K to ρ i path) (h : Ev K te ρ (.dat d)) (hl : ds.length < 100000) :
    Sx K E (tDrop (tBM K "list" rAppend to (tCons te tNil))) ρ (.nx (ρ.set i (.ow (q.put path (.lst ((ds ++ [d]).map O.dat)))))) := fun S0 H0 S H σ R D k => by
  obtain ⟨v, p, vs, h1, h2, h3, h4, h5⟩ := R.mutAt hi hp
  refine ho S0 H0 S H σ R v _ h1 h2 _ ⟨.inl ⟨rfl, _, .inl (.inl h3)⟩, h S0 H0 S H σ R _ fun w S' H' g hw => ?_⟩
  obtain ⟨v', p', vs', g1, g2, g3, g4, g5⟩ := (R.grow g).mutAt hi hp
  have ep : p' = p := by
    rw [h1] at g1
    cases g1
    exact path_det (path_ex g.h h2) g2
  subst ep
  exact ⟨p', vs', w, rfl, rfl, g3, by rw [da_length g4]; exact Evl.sz_lt hl, k σ S' _ g.ss (g5 _ _ (da_app g4 (.cons hw .nil)))⟩
theorem sx_append {i : Nat} {ds : List D} (hi : ρ[i]? = some (.own ds)) (h : Ev K te ρ (.dat d)) (hl : ds.length < 100000) : Sx K E (tDrop (tBM K "list" rAppend (tVar i) (tCons te tNil))) ρ (.nx (ρ.set i (.own (ds ++ [d])))) := by
  have := sx_appendP (E := E) (path := []) hi (by rw [O.get]) evp_var h hl
  rw [O.put] at this
  exact this
/-- o[n] = e -/
theorem sx_setP {i : Nat} {q : O} {path : List Nat} {ds : List D} {to ti : TE} {n : Int} {j : Nat} (hi : ρ[i]? = some (.ow q)) (hp : q.get path = some (.lst (ds.map O.dat))) (ho : EvP K to ρ i path) (h : Ev K te ρ (.dat d)) (hn : Ev K ti ρ (.dat (.int n))) (hj : ixN ds.length n = some j) :
    Sx K E (tAsg te (gSub to ti rSetL)) ρ (.nx (ρ.set i (.ow (q.put path (.lst ((ds.set j d).map O.dat)))))) := fun S0 H0 S H σ R D k => by
  refine h S0 H0 S H σ R _ fun w S1 H1 g1 hw => ?_
  have R1 := R.grow g1
  obtain ⟨v, p, vs, h1, h2, h3, h4, h5⟩ := R1.mutAt hi hp
  refine ho S0 H0 S1 H1 σ R1 v _ h1 h2 _ (hn S0 H0 S1 H1 σ R1 _ fun z S2 H2 g2 hz => ?_)
  rw [dp_int hz]
  obtain ⟨v', p', vs', q1, q2, q3, q4, q5⟩ := (R1.grow g2).mutAt hi hp
  have ep : p' = p := by
    rw [h1] at q1
    cases q1
    exact path_det (path_ex g2.h h2) q2
  subst ep
  exact ⟨p', vs', n, j, rfl, rfl, q3, by rw [da_length q4]; exact hj, k σ S2 _ (g1.trans g2).ss (q5 _ _ (da_set j q4 (dp_ex g2.ss _ _ hw)))⟩
theorem sx_setItem {i : Nat} {ds : List D} {ti : TE} {n : Int} {j : Nat} (hi : ρ[i]? = some (.own ds)) (h : Ev K te ρ (.dat d)) (hn : Ev K ti ρ (.dat (.int n))) (hj : ixN ds.length n = some j) : Sx K E (tAsg te (gSub (tVar i) ti rSetL)) ρ (.nx (ρ.set i (.own (ds.set j d)))) := by
  have := sx_setP (E := E) (path := []) hi (by rw [O.get]) evp_var h hn hj
  rw [O.put] at this
  exact this
theorem sx_reverse {i : Nat} {ds : List D} (hi : ρ[i]? = some (.own ds)) : Sx K E (tDrop (tBM0 K "list" rReverse (tVar i))) ρ (.nx (ρ.set i (.own ds.reverse))) := fun S0 H0 S H σ R D k => by
  obtain ⟨v, p, vs, h1, h2, h3, h4, h5⟩ := R.mutAt (path := []) (ds := ds) hi (by rw [O.get])
  cases h2
  have := h5 _ _ (da_rev h4)
  rw [O.put] at this
  exact ⟨.ref p, h1, .inl ⟨rfl, _, .inl (.inl h3)⟩, p, vs, rfl, rfl, h3, k σ S _ (Ex.refl _) this⟩
end

/-! ### targets -/
/-- the slots outside is stay -/
def Agree (is : List Nat) (σ σ' : L2.St) : Prop := σ'.length = σ.length ∧ ∀ k : Nat, k ∉ is → σ'[k]? = σ[k]?
def Tg (K : PySem.W.Frag) (g : TG) (is : List Nat) (ρ : List Sl) (s : Sl) (ρ' : List Sl) : Prop := ∀ S0 H0 S H σ v, Rep K S0 H0 S H σ ρ → ArgOk K S v s → ∀ Q : L2.St → Hp → Prop, (∀ σ', Rep K S0 H0 S H σ' ρ' → Agree is σ σ' → Q σ' H) → g v σ H Q
section
variable {K : PySem.W.Frag} {ρ ρ1 ρ2 : List Sl} {s s1 s2 : Sl}
theorem agree_set {i : Nat} {σ : L2.St} {x : Option V} {is : List Nat} (h : i ∈ is) : Agree is σ (σ.set i x) := ⟨by rw [List.length_set], fun k hk => List.getElem?_set_ne (show i ≠ k from fun e => hk (by rw [← e]; exact h))⟩
theorem Agree.trans {is : List Nat} {a b c : L2.St} (h : Agree is a b) (h' : Agree is b c) : Agree is a c := ⟨h'.1.trans h.1, fun k hk => (h'.2 k hk).trans (h.2 k hk)⟩
theorem tg_name {i : Nat} : Tg K (gName i) [i] ρ s (ρ.set i s) := fun S0 H0 S H σ v R h Q q => q _ (R.putArg i h) (agree_set (by simp))
theorem tg_two {i j : Nat} {a b : D} : Tg K (gTup K 2 (gCons (gName i) (gCons (gName j) gNil))) [i, j] ρ (.dat (.tup [a, b])) ((ρ.set i (.dat a)).set j (.dat b)) := fun S0 H0 S H σ v R h Q q => by
  obtain ⟨p, xs, rfl, h1, h2⟩ := dp_tuple h
  cases h2 with
  | cons ha t =>
    cases t with
    | cons hb t =>
      cases t
      exact ⟨p, _, rfl, Evl.ex_t R.gr.s h1, rfl, _, _, rfl, _, _, rfl, rfl, q _ ((R.putArg i (s := .dat a) ha).putArg j (s := .dat b) hb) ((agree_set (by simp)).trans (agree_set (by simp)))⟩
end

/-! ### what is walked -/
/-- a source gives the data xs, one by one -/
def Src (K : PySem.W.Frag) (wi : TI) (ρ : List Sl) (xs : List D) : Prop := ∀ S0 H0 S H σ, Rep K S0 H0 S H σ ρ → ∀ R : It → Hp → Prop,
  (∀ J G Y S' H', Gr S H S' H' → Walk J xs.length G Y → (∀ H1, Ex S' H1 → G H1) →
    (∀ i H1 x H2 S1, Ex S' S1 → Ex S1 H1 → i < xs.length → Y i H1 x H2 → ∃ d S2, xs[i]? = some d ∧ Gr S1 H1 S2 H2 ∧ Rp K S2 x d) → R J H') → wi σ H R
section
variable {K : PySem.W.Frag} {ρ : List Sl} {te : TE}
theorem src_list {ds : List D} (h : Ev K te ρ (.dat (.lst ds))) : Src K (iList K te) ρ ds := fun S0 H0 S H σ Rp R q =>
  h S0 H0 S H σ Rp _ fun v S1 H1 g1 hv => by
    obtain ⟨a, xs, rfl, e1, e2⟩ := dp_list hv
    refine ⟨a, rfl, ⟨xs, Evl.ex_l g1.s e1⟩, q (Itl K a) _ _ S1 H1 g1 (by rw [← da_length e2]; exact walk_list) (fun H2 ex => Evl.ex_l ex e1) fun i H2 x H3 S2 x1 x2 hi y => ?_⟩
    obtain ⟨rfl, y⟩ := y
    obtain ⟨d, h1, h2⟩ := da_getV e2 y
    exact ⟨d, S2, h1, Gr.rfl' x2, dp_ex x1 _ _ h2⟩
theorem src_tup {ds : List D} (h : Ev K te ρ (.dat (.tup ds))) : Src K (iTup K te) ρ ds := fun S0 H0 S H σ Rp R q =>
  h S0 H0 S H σ Rp _ fun v S1 H1 g1 hv => by
    obtain ⟨a, xs, rfl, e1, e2⟩ := dp_tuple hv
    refine ⟨a, rfl, ⟨xs, Evl.ex_t g1.s e1⟩, q (Itt K a) _ _ S1 H1 g1 (by rw [← da_length e2]; exact walk_tup) (fun H2 ex => Evl.ex_t ex e1) fun i H2 x H3 S2 x1 x2 hi y => ?_⟩
    obtain ⟨rfl, y⟩ := y
    obtain ⟨d, h1, h2⟩ := da_getV e2 y
    exact ⟨d, S2, h1, Gr.rfl' x2, dp_ex x1 _ _ h2⟩
def rangeD (lo : Int) (n : Nat) : List D := (List.range n).map fun i => .int (lo + (i : Nat))
theorem rangeD_len {lo : Int} {n : Nat} : (rangeD lo n).length = n := by simp [rangeD]
theorem rangeD_get {lo : Int} {n i : Nat} (h : i < n) : (rangeD lo n)[i]? = some (.int (lo + i)) := by
  unfold rangeD
  rw [List.getElem?_map, List.getElem?_range h]
  rfl
theorem src_range1 {ta : TA} {j : Int} (h : EvA K ta ρ [.dat (.int j)]) (h1 : -(2 ^ 62) ≤ j) (h2 : j < 2 ^ 62) : Src K (iRng1 ta) ρ (rangeD 0 j.toNat) := fun S0 H0 S H σ Rp R q =>
  h S0 H0 S H σ Rp _ fun vs S1 H1 g1 hv => by
    obtain ⟨v, rfl, hv1⟩ := vals1d hv
    rw [dp_int hv1]
    refine ⟨j, rfl, h1, h2, q (Itr 0 j.toNat) _ _ S1 H1 g1 (by rw [rangeD_len]; exact walk_range) (fun _ _ => trivial) fun i H2 x H3 S2 x1 x2 hi y => ?_⟩
    obtain ⟨rfl, rfl⟩ := y
    rw [rangeD_len] at hi
    exact ⟨_, S2, rangeD_get hi, Gr.rfl' x2, .int _⟩
theorem src_range2 {ta : TA} {i j : Int} (h : EvA K ta ρ [.dat (.int i), .dat (.int j)]) (hb : -(2 ^ 62) ≤ i ∧ i < 2 ^ 62 ∧ -(2 ^ 62) ≤ j ∧ j < 2 ^ 62) : Src K (iRng2 ta) ρ (rangeD i (j - i).toNat) := fun S0 H0 S H σ Rp R q =>
  h S0 H0 S H σ Rp _ fun vs S1 H1 g1 hv => by
    obtain ⟨v, w, rfl, hv, hw⟩ := vals2d hv
    rw [dp_int hv, dp_int hw]
    refine ⟨i, j, rfl, hb, q (Itr i (j - i).toNat) _ _ S1 H1 g1 (by rw [rangeD_len]; exact walk_range) (fun _ _ => trivial) fun i H2 x H3 S2 x1 x2 hi y => ?_⟩
    obtain ⟨rfl, rfl⟩ := y
    rw [rangeD_len] at hi
    exact ⟨_, S2, rangeD_get hi, Gr.rfl' x2, .int _⟩
def rangeC (lo c : Int) (n : Nat) : List D := (List.range n).map fun i => .int (lo + (i : Nat) * c)
theorem rangeC_len {lo c : Int} {n : Nat} : (rangeC lo c n).length = n := by simp [rangeC]
theorem rangeC_get {lo c : Int} {n i : Nat} (h : i < n) : (rangeC lo c n)[i]? = some (.int (lo + i * c)) := by
  unfold rangeC
  rw [List.getElem?_map, List.getElem?_range h]
  rfl
theorem src_range3 {ta : TA} {i j c : Int} {n : Nat} (h : EvA K ta ρ [.dat (.int i), .dat (.int j), .dat (.int c)]) (hb : RgC i j c n) : Src K (iRng3 ta) ρ (rangeC i c n) := fun S0 H0 S H σ Rp R q =>
  h S0 H0 S H σ Rp _ fun vs S1 H1 g1 hv => by
    obtain ⟨v, w, z, rfl, hv, hw, hz⟩ := vals3d hv
    rw [dp_int hv, dp_int hw, dp_int hz]
    refine ⟨i, j, c, n, rfl, hb, q (Itc i c n) _ _ S1 H1 g1 (by rw [rangeC_len]; exact walk_rangeC) (fun _ _ => trivial) fun i H2 x H3 S2 x1 x2 hi y => ?_⟩
    obtain ⟨rfl, rfl⟩ := y
    rw [rangeC_len] at hi
    exact ⟨_, S2, rangeC_get hi, Gr.rfl' x2, .int _⟩
theorem pair_dp {S1 H1 : Hp} {x y : V} {d e : D} {T : Addr} (ex : Ex S1 H1) (nT : H1 T = none) (hx : Rp K S1 x d) (hy : Rp K S1 y e) :
    ∃ S2, Gr S1 H1 S2 (upd H1 T (.tup [x, y])) ∧ Rp K S2 (.ref T) (.tup [d, e]) := by
  have g : Gr S1 H1 _ _ := Gr.fresh (o := .tup [x, y]) ex nT
  exact ⟨_, g, .tup (.inl (.inl upd_same)) (.cons (dp_ex g.ss _ _ hx) (.cons (dp_ex g.ss _ _ hy) .nil))⟩
theorem src_enum {ta : TA} {ds : List D} (h : EvA K ta ρ [.dat (.lst ds)]) : Src K (iEnum K ta) ρ (ds.mapIdx fun i d => .tup [.int (i : Nat), d]) := fun S0 H0 S H σ Rp R q =>
  h S0 H0 S H σ Rp _ fun vs S1 H1 g1 hv => by
    obtain ⟨v, rfl, hv1⟩ := vals1d hv
    obtain ⟨a, xs, rfl, e1, e2⟩ := dp_list hv1
    refine ⟨a, xs, rfl, Evl.ex_l g1.s e1, q (Ite K a) _ _ S1 H1 g1 (by rw [List.length_mapIdx, ← da_length e2]; exact walk_enum) (fun H2 ex => Evl.ex_l ex e1) fun i H2 x H3 S2 x1 x2 hi y => ?_⟩
    obtain ⟨T, x, y, rfl, nT, rfl, y1, y2⟩ := y
    obtain rfl : V.int (i : Nat) = x := Option.some.inj y1
    obtain ⟨d, h1, h2⟩ := da_getV e2 y2
    obtain ⟨S3, g3, d3⟩ := pair_dp (K := K) x2 nT (.int (i : Nat)) (dp_ex x1 _ _ h2)
    exact ⟨_, S3, by rw [List.getElem?_mapIdx, h1]; rfl, g3, d3⟩
theorem src_zip {ta : TA} {ds es : List D} (h : EvA K ta ρ [.dat (.lst ds), .dat (.lst es)]) : Src K (iZip K ta) ρ ((ds.zip es).map fun p => .tup [p.1, p.2]) := fun S0 H0 S H σ Rp R q =>
  h S0 H0 S H σ Rp _ fun vs S1 H1 g1 hv => by
    obtain ⟨v, w, rfl, hv, hw⟩ := vals2d hv
    obtain ⟨a, xs, rfl, e1, e2⟩ := dp_list hv
    obtain ⟨b, ys, rfl, f1, f2⟩ := dp_list hw
    refine ⟨a, b, xs, ys, rfl, Evl.ex_l g1.s e1, Evl.ex_l g1.s f1, q (Itz K a b) _ _ S1 H1 g1 (walk_zip (xs := xs) (ys := ys) (by rw [List.length_map, List.length_zip, da_length e2, da_length f2])) (fun H2 ex => ⟨Evl.ex_l ex e1, Evl.ex_l ex f1⟩) fun i H2 x H3 S2 x1 x2 hi y => ?_⟩
    obtain ⟨T, x, y, rfl, nT, rfl, y1, y2⟩ := y
    obtain ⟨d, h1, h2⟩ := da_getV e2 y1
    obtain ⟨e, k1, k2⟩ := da_getV f2 y2
    obtain ⟨S3, g3, d3⟩ := pair_dp (K := K) x2 nT (dp_ex x1 _ _ h2) (dp_ex x1 _ _ k2)
    refine ⟨_, S3, ?_, g3, d3⟩
    rw [List.getElem?_map, show (ds.zip es)[i]? = some (d, e) from List.getElem?_zip_eq_some.mpr ⟨h1, k1⟩]
    rfl
end

/-! ### for -/
inductive Fr (K : PySem.W.Frag) (E : XK) (g : TG) (is : List Nat) (tb : TS) : List D → List Sl → Out → Prop
  | nil {ρ : List Sl} : Fr K E g is tb [] ρ (.nx ρ)
  | step {x : D} {xs : List D} {ρ ρ1 ρ2 : List Sl} {o : Out} : Tg K g is ρ (.dat x) ρ1 → Sx K E tb ρ1 (.nx ρ2) → Fr K E g is tb xs ρ2 o → Fr K E g is tb (x :: xs) ρ o
  | cont {x : D} {xs : List D} {ρ ρ1 ρ2 : List Sl} {o : Out} : Tg K g is ρ (.dat x) ρ1 → Sx K E tb ρ1 (.ct ρ2) → Fr K E g is tb xs ρ2 o → Fr K E g is tb (x :: xs) ρ o
  | brk {x : D} {xs : List D} {ρ ρ1 ρ2 : List Sl} : Tg K g is ρ (.dat x) ρ1 → Sx K E tb ρ1 (.bk ρ2) → Fr K E g is tb (x :: xs) ρ (.nx ρ2)
  | ret {x : D} {xs : List D} {ρ ρ1 : List Sl} {r : Sl} : Tg K g is ρ (.dat x) ρ1 → Sx K E tb ρ1 (.rt r) → Fr K E g is tb (x :: xs) ρ (.rt r)
  | rse {x : D} {xs : List D} {ρ ρ1 : List Sl} {c : Value} : Tg K g is ρ (.dat x) ρ1 → Sx K E tb ρ1 (.rs c) → Fr K E g is tb (x :: xs) ρ (.rs c)
theorem fr_notbc {K : PySem.W.Frag} {E : XK} {g : TG} {is : List Nat} {tb : TS} : ∀ {xs : List D} {ρ : List Sl} {o : Out}, Fr K E g is tb xs ρ o → (∀ ρ', o ≠ .bk ρ') ∧ ∀ ρ', o ≠ .ct ρ'
  | _, _, _, .nil => ⟨fun _ h => Out.noConfusion h, fun _ h => Out.noConfusion h⟩
  | _, _, _, .step _ _ h => fr_notbc h
  | _, _, _, .cont _ _ h => fr_notbc h
  | _, _, _, .brk _ _ => ⟨fun _ h => Out.noConfusion h, fun _ h => Out.noConfusion h⟩
  | _, _, _, .ret _ _ => ⟨fun _ h => Out.noConfusion h, fun _ h => Out.noConfusion h⟩
  | _, _, _, .rse _ _ => ⟨fun _ h => Out.noConfusion h, fun _ h => Out.noConfusion h⟩
theorem sx_for {K : PySem.W.Frag} {E : XK} {ρ : List Sl} {wi : TI} {g : TG} {is : List Nat} {tb : TS} {xs : List D} {o : Out} (hs : Src K wi ρ xs) (hf : Fr K E g is tb xs ρ o) : Sx K E (tFor wi g tb) ρ o := fun S0 H0 S H σ Rp D k =>
  hs S0 H0 S H σ Rp _ fun J G Y S' H' g0 w hG hY => by
    refine ⟨fun i m σ' H1 => i + m = xs.length ∧ ∃ S1 ρ1, Ex S' S1 ∧ Rep K S0 H0 S1 H1 σ' ρ1 ∧ Fr K E g is tb (xs.drop i) ρ1 o, ⟨xs.length, by omega, S', ρ, Ex.refl _, Rp.grow g0, hf⟩, ?_⟩
    rintro i m σ1 H1 ⟨hm, S1, ρ1, x1, R1, f1⟩
    have hg1 := hG H1 (x1.trans R1.gr.s)
    by_cases hi : i < xs.length
    · refine .inr ⟨w.goes i H1 hi hg1, fun σ' H2 => ∃ S2 ρ2, Ex S' S2 ∧ Rep K S0 H0 S2 H2 σ' ρ2 ∧ Fr K E g is tb (xs.drop (i + 1)) ρ2 o, fun σ' H2 ⟨S2, ρ2, a, b, c⟩ => ⟨m - 1, by omega, by omega, S2, ρ2, a, b, c⟩, fun x H2 y => ?_⟩
      obtain ⟨d, S2, hd, g2, dx⟩ := hY i H1 x H2 S1 x1 R1.gr.s hi (w.yields i H1 x H2 hi hg1 y)
      rw [List.drop_eq_getElem_cons hi] at f1
      have ed : xs[i] = d := by
        rw [List.getElem?_eq_getElem hi] at hd
        exact Option.some.inj hd
      rw [ed] at f1
      have R2 := R1.grow g2
      have ex2 := (g0.ss.trans x1).trans g2.ss
      cases f1 with
      | step tg sb fr =>
        refine tg S0 H0 S2 H2 σ1 x R2 dx _ fun σ2 R3 _ => sb S0 H0 S2 H2 σ2 R3 _ fun σ3 S3 H3 e3 R4 => ⟨S3, _, (x1.trans g2.ss).trans e3, R4, fr⟩
      | cont tg sb fr =>
        refine tg S0 H0 S2 H2 σ1 x R2 dx _ fun σ2 R3 _ => sb S0 H0 S2 H2 σ2 R3 _ fun σ3 S3 H3 e3 R4 => ⟨S3, _, (x1.trans g2.ss).trans e3, R4, fr⟩
      | brk tg sb =>
        refine tg S0 H0 S2 H2 σ1 x R2 dx _ fun σ2 R3 _ => sb S0 H0 S2 H2 σ2 R3 _ fun σ3 S3 H3 e3 R4 => k σ3 S3 H3 (ex2.trans e3) R4
      | ret tg sb =>
        refine tg S0 H0 S2 H2 σ1 x R2 dx _ fun σ2 R3 _ => sb S0 H0 S2 H2 σ2 R3 _ k
      | rse tg sb =>
        refine tg S0 H0 S2 H2 σ1 x R2 dx _ fun σ2 R3 _ => sb S0 H0 S2 H2 σ2 R3 _ k
    · have e : i = xs.length := by omega
      subst e
      rw [List.drop_length] at f1
      cases f1
      exact .inl ⟨w.stops H1 hg1, k σ1 S1 H1 (g0.ss.trans x1) R1⟩

/-! ### while -/
inductive Wh (K : PySem.W.Frag) (E : XK) (c : TT) (tb : TS) : Nat → List Sl → Out → Prop
  | done {n : Nat} {ρ : List Sl} : EvT K c ρ false → Wh K E c tb n ρ (.nx ρ)
  | step {n : Nat} {ρ ρ1 : List Sl} {o : Out} : EvT K c ρ true → Sx K E tb ρ (.nx ρ1) → Wh K E c tb n ρ1 o → Wh K E c tb (n + 1) ρ o
  | cont {n : Nat} {ρ ρ1 : List Sl} {o : Out} : EvT K c ρ true → Sx K E tb ρ (.ct ρ1) → Wh K E c tb n ρ1 o → Wh K E c tb (n + 1) ρ o
  | brk {n : Nat} {ρ ρ1 : List Sl} : EvT K c ρ true → Sx K E tb ρ (.bk ρ1) → Wh K E c tb n ρ (.nx ρ1)
  | ret {n : Nat} {ρ : List Sl} {r : Sl} : EvT K c ρ true → Sx K E tb ρ (.rt r) → Wh K E c tb n ρ (.rt r)
theorem sx_while {K : PySem.W.Frag} {E : XK} {ρ : List Sl} {c : TT} {tb : TS} {n : Nat} {o : Out} (hf : Wh K E c tb n ρ o) : Sx K E (tWhile c tb) ρ o := fun S0 H0 S H σ Rp D k => by
  refine ⟨fun m σ' H1 => ∃ S1 ρ1, Ex S S1 ∧ Rep K S0 H0 S1 H1 σ' ρ1 ∧ Wh K E c tb m ρ1 o, ⟨n, S, ρ, Ex.refl _, Rp, hf⟩, ?_⟩
  rintro m σ1 H1 ⟨S1, ρ1, x1, R1, f1⟩
  cases f1 with
  | done hc => exact hc S0 H0 S1 H1 σ1 R1 _ fun S2 H2 g2 => k σ1 S2 H2 (x1.trans g2.ss) (R1.grow g2)
  | step hc sb fr =>
    rename_i m' ρ2
    refine hc S0 H0 S1 H1 σ1 R1 _ fun S2 H2 g2 => ⟨fun σ' H3 => ∃ S3 ρ3, Ex S S3 ∧ Rep K S0 H0 S3 H3 σ' ρ3 ∧ Wh K E c tb m' ρ3 o, fun σ' H3 h => ⟨m', by omega, h⟩, ?_⟩
    exact sb S0 H0 S2 H2 σ1 (R1.grow g2) _ fun σ3 S3 H3 e3 R3 => ⟨S3, _, (x1.trans g2.ss).trans e3, R3, fr⟩
  | cont hc sb fr =>
    rename_i m' ρ2
    refine hc S0 H0 S1 H1 σ1 R1 _ fun S2 H2 g2 => ⟨fun σ' H3 => ∃ S3 ρ3, Ex S S3 ∧ Rep K S0 H0 S3 H3 σ' ρ3 ∧ Wh K E c tb m' ρ3 o, fun σ' H3 h => ⟨m', by omega, h⟩, ?_⟩
    exact sb S0 H0 S2 H2 σ1 (R1.grow g2) _ fun σ3 S3 H3 e3 R3 => ⟨S3, _, (x1.trans g2.ss).trans e3, R3, fr⟩
  | brk hc sb =>
    refine hc S0 H0 S1 H1 σ1 R1 _ fun S2 H2 g2 => ⟨fun _ _ => False, fun σ' H3 h => h.elim, ?_⟩
    exact sb S0 H0 S2 H2 σ1 (R1.grow g2) _ fun σ3 S3 H3 e3 R3 => k σ3 S3 H3 ((x1.trans g2.ss).trans e3) R3
  | ret hc sb =>
    refine hc S0 H0 S1 H1 σ1 R1 _ fun S2 H2 g2 => ⟨fun _ _ => False, fun σ' H3 h => h.elim, ?_⟩
    exact sb S0 H0 S2 H2 σ1 (R1.grow g2) _ k
end DL

namespace DL
open PySem PySem.Spec PyProof.Rows L2
open Evl (Ex)

/-! ### comprehensions -/
def wipeR (ρ : List Sl) : List Nat → List Sl
  | [] => ρ
  | v :: vs => (wipeR ρ vs).set v .no
theorem wipeR_length (ρ : List Sl) : ∀ vs : List Nat, (wipeR ρ vs).length = ρ.length
  | [] => rfl
  | v :: vs => by unfold wipeR; rw [List.length_set, wipeR_length ρ vs]
theorem wipeR_get {ρ : List Sl} {i : Nat} {s : Sl} : ∀ {vs : List Nat}, (wipeR ρ vs)[i]? = some s → s = .no ∨ (i ∉ vs ∧ ρ[i]? = some s)
  | [], h => .inr ⟨by simp, h⟩
  | v :: vs, h => by
    unfold wipeR at h
    by_cases hi : v = i
    · subst hi
      by_cases hv : v < (wipeR ρ vs).length
      · rw [List.getElem?_set_self hv] at h; exact .inl (Option.some.inj h).symm
      · rw [List.getElem?_eq_none (by simpa using hv)] at h; cases h
    · rw [List.getElem?_set_ne hi] at h
      rcases wipeR_get h with e | ⟨h1, h2⟩
      · exact .inl e
      · exact .inr ⟨by simp only [List.mem_cons, not_or]; exact ⟨fun e => hi e.symm, h1⟩, h2⟩
theorem wipe_in {σ : L2.St} {i : Nat} : ∀ {vs : List Nat}, i ∈ vs → (wipe σ vs)[i]? = if i < σ.length then some none else none
  | [], h => by simp at h
  | v :: vs, h => by
    unfold wipe
    by_cases hi : v = i
    · subst hi
      by_cases hv : v < σ.length
      · rw [List.getElem?_set_self (by rw [wipe_length]; exact hv), if_pos hv]
      · rw [if_neg hv, List.getElem?_eq_none (by rw [List.length_set, wipe_length]; omega)]
    · rw [List.getElem?_set_ne hi]
      rcases List.mem_cons.mp h with e | e
      · exact absurd e.symm hi
      · exact wipe_in e
theorem wipe_agree {σ σ2 : L2.St} {is vs : List Nat} (h : Agree is (wipe σ vs) σ2) (hi : ∀ i ∈ is, i ∈ vs) : wipe σ2 vs = wipe σ vs := by
  have hl : σ2.length = σ.length := by rw [h.1, wipe_length]
  refine List.ext_getElem? fun k => ?_
  by_cases hk : k ∈ vs
  · rw [wipe_in hk, wipe_in hk, hl]
  · rw [wipe_out hk, h.2 k (fun z => hk (hi k z))]
section
variable {K : PySem.W.Frag} {S0 H0 S H : Hp} {σ : L2.St} {ρ : List Sl}
theorem Rep.wipe (R : Rep K S0 H0 S H σ ρ) (vs : List Nat) : Rep K S0 H0 S H (wipe σ vs) (wipeR ρ vs) := by
  refine ⟨R.gr, by rw [wipe_length, wipeR_length]; exact R.len, fun i o h => ?_, fun i j o o' v w fp fq hij h1 h2 h3 h4 h5 h6 => ?_⟩
  · rcases wipeR_get h with e | ⟨e, h⟩
    · cases e
    · rw [wipe_out e]; exact R.at' i o h
  · rcases wipeR_get h1 with e | ⟨e, h1⟩
    · cases e
    · rcases wipeR_get h2 with e' | ⟨e', h2⟩
      · cases e'
      · rw [wipe_out e] at h3
        rw [wipe_out e'] at h4
        exact R.dis i j o o' v w fp fq hij h1 h2 h3 h4 h5 h6
end
inductive Lc (K : PySem.W.Frag) (g : TG) (is : List Nat) (tt : TT) (te : TE) (ρ : List Sl) : List D → List D → Prop
  | nil : Lc K g is tt te ρ [] []
  | yes {x d : D} {xs ds : List D} {ρ1 : List Sl} : Tg K g is ρ (.dat x) ρ1 → EvT K tt ρ1 true → Ev K te ρ1 (.dat d) → Lc K g is tt te ρ xs ds → Lc K g is tt te ρ (x :: xs) (d :: ds)
  | no {x : D} {xs ds : List D} {ρ1 : List Sl} : Tg K g is ρ (.dat x) ρ1 → EvT K tt ρ1 false → Lc K g is tt te ρ xs ds → Lc K g is tt te ρ (x :: xs) ds
theorem et_yes {K : PySem.W.Frag} {ρ : List Sl} : EvT K tYes ρ true := fun S0 H0 S H σ R Q q => q S H (Gr.rfl' R.gr.s)
theorem ev_lc {K : PySem.W.Frag} {ρ : List Sl} {wi : TI} {g : TG} {is : List Nat} {tt : TT} {te : TE} {vs : List Nat} {xs ds : List D} (hs : Src K wi ρ xs) (hf : Lc K g is tt te (wipeR ρ vs) xs ds) (hi : ∀ i ∈ is, i ∈ vs) (hl : ds.length ≤ 100000) :
    Ev K (tLc wi g tt te vs) ρ (.own ds) := fun S0 H0 S H σ Rp Q k =>
  hs S0 H0 S H σ Rp _ fun J G Y S' H' g0 w hG hY A hA => by
    have nd0 : ∀ (H1 : Hp) (S1 : Hp), Ex H' H1 → Ex S' S1 → ∀ (i : Nat) o v fp, (wipeR ρ vs)[i]? = some (.ow o) → (wipe σ vs)[i]? = some (some v) → RpO K S1 H1 v o fp → A ∉ fp := fun H1 S1 eh es i o v fp h1 h2 h3 z => by
      obtain ⟨v', fp', e1, e2, _⟩ := ((Rp.grow g0).wipe vs).at' i o h1
      rw [h2] at e1
      cases e1
      have e4 := rpO_mono (K := K) es o v fp' (fun a _ u hu => eh a u hu) e2
      rw [rpO_uniq o v fp fp' h3 e4] at z
      obtain ⟨u, hu⟩ := rpO_in o v fp' e2 A z
      rw [hA] at hu
      cases hu
    have hAH : H A = none := Evl.fresh_back g0.h hA
    have hA0 : H0 A = none := Evl.fresh_back Rp.gr.h hAH
    have hAS : S' A = none := Evl.fresh_back g0.s hA
    refine ⟨fun i m H1 => i + m = xs.length ∧ ∃ S1 acc done rest, Ex S' S1 ∧ Ex H' H1 ∧ Gr S H S1 H1 ∧ Rep K S0 H0 S1 H1 (wipe σ vs) (wipeR ρ vs) ∧ H1 A = some (.lst acc) ∧ S1 A = none ∧ RpAll K S1 acc done ∧ Lc K g is tt te (wipeR ρ vs) (xs.drop i) rest ∧ ds = done ++ rest,
      ⟨xs.length, by omega, S', [], [], ds, Ex.refl _, Ex.new hA, g0.trans (Gr.freshH g0.s hA), ((Rp.grow g0).wipe vs).off hAS hA0 (nd0 H' S' (Ex.refl _) (Ex.refl _)), upd_same, hAS, .nil, hf, rfl⟩, ?_⟩
    rintro i m H1 ⟨hm, S1, acc, done, rest, x1, xh, gr1, R1, a1, s1, ra, f1, ed⟩
    have hg1 := hG H1 (x1.trans R1.gr.s)
    have hlen : acc.length ≤ ds.length := by
      rw [da_length ra, ed, List.length_append]; omega
    by_cases hin : i < xs.length
    · refine .inr ⟨w.goes i H1 hin hg1, fun H2 => ∃ S2 acc done rest, Ex S' S2 ∧ Ex H' H2 ∧ Gr S H S2 H2 ∧ Rep K S0 H0 S2 H2 (wipe σ vs) (wipeR ρ vs) ∧ H2 A = some (.lst acc) ∧ S2 A = none ∧ RpAll K S2 acc done ∧ Lc K g is tt te (wipeR ρ vs) (xs.drop (i + 1)) rest ∧ ds = done ++ rest, fun H2 h => ⟨m - 1, by omega, by omega, h⟩, fun x H2 y => ?_⟩
      obtain ⟨d, S2, hd, g2, dx⟩ := hY i H1 x H2 S1 x1 R1.gr.s hin (w.yields i H1 x H2 hin hg1 y)
      rw [List.drop_eq_getElem_cons hin] at f1
      have ed' : xs[i] = d := by
        rw [List.getElem?_eq_getElem hin] at hd
        exact Option.some.inj hd
      rw [ed'] at f1
      have R2 := R1.grow g2
      cases f1 with
      | yes tg ht he fr =>
        rename_i y ys ρ1
        refine tg S0 H0 S2 H2 _ x R2 dx _ fun σ2 R3 ag => ⟨wipe_agree ag hi, ht S0 H0 S2 H2 σ2 R3 _ fun S3 H3 g3 => ?_⟩
        refine iteT (he S0 H0 S3 H3 σ2 (R3.grow g3) _ fun z S4 H4 g4 hz => ?_)
        have g24 := (g2.trans g3).trans g4
        have a4 : H4 A = some (.lst acc) := g24.h _ _ a1
        have s4 : S4 A = none := g24.none s1 a1
        have R4 := R1.grow g24
        refine ⟨acc, a4, Evl.sz_lt ?_, S4, acc ++ [z], done ++ [y], ys, x1.trans g24.ss, fun a u q => ?_, ?_, R4.off s4 hA0 (nd0 _ _ (xh.trans g24.h) (x1.trans g24.ss)), upd_same, s4, da_app (dpAll_ex g24.ss _ _ ra) (.cons hz .nil), fr, by rw [ed]; simp⟩
        · have e1 := da_length ra
          rw [ed, List.length_append, List.length_cons] at hl
          omega
        · rw [upd_ne (ne_of_none q hA)]
          exact (xh.trans g24.h) a u q
        · have gg := gr1.trans g24
          exact ⟨gg.ss, fun a u q => by rw [upd_ne (ne_of_none q s4)]; exact gg.s a u q, fun a u q => by rw [upd_ne (ne_of_none q hAH)]; exact gg.h a u q, gg.new⟩
      | no tg ht fr =>
        rename_i ρ1
        refine tg S0 H0 S2 H2 _ x R2 dx _ fun σ2 R3 ag => ⟨wipe_agree ag hi, ht S0 H0 S2 H2 σ2 R3 _ fun S3 H3 g3 => ?_⟩
        have g23 := g2.trans g3
        exact iteF ⟨S3, acc, done, rest, x1.trans g23.ss, xh.trans g23.h, gr1.trans g23, R1.grow g23, g23.h _ _ a1, g23.none s1 a1, dpAll_ex g23.ss _ _ ra, fr, ed⟩
    · have e : i = xs.length := by omega
      subst e
      rw [List.drop_length] at f1
      cases f1
      rw [List.append_nil] at ed
      subst ed
      exact .inl ⟨w.stops H1 hg1, k _ S1 H1 gr1 (res_own hAH s1 a1 ra)⟩

/-! ### built-in functions on data -/
section
variable {K : PySem.W.Frag} {ρ : List Sl}
theorem cbd_len {ds : List D} : CbD K (fun xs H Q => ∃ p ys, xs = [.ref p] ∧ (SqL K H p ys ∨ SqT K H p ys) ∧ Q (.int ys.length) H) [.dat (.lst ds)] (.dat (.int ds.length)) := fun S H vs ex ha Q q => by
  obtain ⟨v, rfl, hv⟩ := vals1d ha
  obtain ⟨a, xs, rfl, e1, e2⟩ := dp_list hv
  refine ⟨a, xs, rfl, .inl (Evl.ex_l ex e1), q _ S H (Gr.rfl' ex) ?_⟩
  rw [da_length e2]
  exact .int _
theorem cbd_lenT {ds : List D} : CbD K (fun xs H Q => ∃ p ys, xs = [.ref p] ∧ (SqL K H p ys ∨ SqT K H p ys) ∧ Q (.int ys.length) H) [.dat (.tup ds)] (.dat (.int ds.length)) := fun S H vs ex ha Q q => by
  obtain ⟨v, rfl, hv⟩ := vals1d ha
  obtain ⟨a, xs, rfl, e1, e2⟩ := dp_tuple hv
  refine ⟨a, xs, rfl, .inr (Evl.ex_t ex e1), q _ S H (Gr.rfl' ex) ?_⟩
  rw [da_length e2]
  exact .int _
theorem cbd_list {ds : List D} : CbD K (fun xs H Q => ∃ p ys, xs = [.ref p] ∧ (SqL K H p ys ∨ SqT K H p ys) ∧ ∀ l, H l = none → Q (.ref l) (upd H l (.lst ys))) [.dat (.lst ds)] (.own ds) := fun S H vs ex ha Q q => by
  obtain ⟨v, rfl, hv⟩ := vals1d ha
  obtain ⟨a, xs, rfl, e1, e2⟩ := dp_list hv
  exact ⟨a, xs, rfl, .inl (Evl.ex_l ex e1), fun l hl => q _ S _ (Gr.freshH ex hl) (res_own hl (Evl.fresh_back ex hl) upd_same e2)⟩
theorem cbd_listT {ds : List D} : CbD K (fun xs H Q => ∃ p ys, xs = [.ref p] ∧ (SqL K H p ys ∨ SqT K H p ys) ∧ ∀ l, H l = none → Q (.ref l) (upd H l (.lst ys))) [.dat (.tup ds)] (.own ds) := fun S H vs ex ha Q q => by
  obtain ⟨v, rfl, hv⟩ := vals1d ha
  obtain ⟨a, xs, rfl, e1, e2⟩ := dp_tuple hv
  exact ⟨a, xs, rfl, .inr (Evl.ex_t ex e1), fun l hl => q _ S _ (Gr.freshH ex hl) (res_own hl (Evl.fresh_back ex hl) upd_same e2)⟩
theorem cbd_tuple {ds : List D} : CbD K (fun xs H Q => ∃ p ys, xs = [.ref p] ∧ ((SqL K H p ys ∧ ∀ l, H l = none → Q (.ref l) (upd H l (.tup ys))) ∨ (SqT K H p ys ∧ Q (.ref p) H))) [.dat (.lst ds)] (.dat (.tup ds)) := fun S H vs ex ha Q q => by
  obtain ⟨v, rfl, hv⟩ := vals1d ha
  obtain ⟨a, xs, rfl, e1, e2⟩ := dp_list hv
  exact ⟨a, xs, rfl, .inl ⟨Evl.ex_l ex e1, fun l hl => q _ (upd S l (.tup xs)) _ (Gr.fresh ex hl) (.tup (.inl (.inl upd_same)) (dpAll_ex (Ex.new (Evl.fresh_back ex hl)) _ _ e2))⟩⟩
theorem cbd_sum {ns : List Int} : CbD K (rSum K) [.dat (.lst (ns.map .int))] (.dat (.int ns.sum)) := fun S H vs ex ha Q q => by
  obtain ⟨v, rfl, hv⟩ := vals1d ha
  obtain ⟨a, xs, rfl, e1, e2⟩ := dp_list hv
  rw [dpAll_ints e2] at e1
  exact ⟨a, ns, rfl, Evl.ex_l ex e1, q _ S H (Gr.rfl' ex) (.int _)⟩
theorem cbd_all {bs : List Bool} : CbD K (rAll K) [.dat (.lst (bs.map .bl))] (.dat (.bl (bs.all id))) := fun S H vs ex ha Q q => by
  obtain ⟨v, rfl, hv⟩ := vals1d ha
  obtain ⟨a, xs, rfl, e1, e2⟩ := dp_list hv
  rw [dpAll_bools e2] at e1
  exact ⟨a, bs, rfl, Evl.ex_l ex e1, q _ S H (Gr.rfl' ex) (.bl _)⟩
theorem cbd_any {bs : List Bool} : CbD K (rAny K) [.dat (.lst (bs.map .bl))] (.dat (.bl (bs.any id))) := fun S H vs ex ha Q q => by
  obtain ⟨v, rfl, hv⟩ := vals1d ha
  obtain ⟨a, xs, rfl, e1, e2⟩ := dp_list hv
  rw [dpAll_bools e2] at e1
  exact ⟨a, bs, rfl, Evl.ex_l ex e1, q _ S H (Gr.rfl' ex) (.bl _)⟩
theorem cbd_max2 {i j : Int} : CbD K (fun xs H Q => ∃ i j, xs = [.int i, .int j] ∧ Q (.int (if j > i then j else i)) H) [.dat (.int i), .dat (.int j)] (.dat (.int (max i j))) := fun S H vs ex ha Q q => by
  obtain ⟨v, w, rfl, hv, hw⟩ := vals2d ha
  rw [dp_int hv, dp_int hw]
  refine ⟨i, j, rfl, ?_⟩
  rw [show (if j > i then j else i) = max i j by rw [Int.max_def]; split <;> split <;> omega]
  exact q _ S H (Gr.rfl' ex) (.int _)
theorem cbd_min2 {i j : Int} : CbD K (fun xs H Q => ∃ i j, xs = [.int i, .int j] ∧ Q (.int (if j < i then j else i)) H) [.dat (.int i), .dat (.int j)] (.dat (.int (min i j))) := fun S H vs ex ha Q q => by
  obtain ⟨v, w, rfl, hv, hw⟩ := vals2d ha
  rw [dp_int hv, dp_int hw]
  refine ⟨i, j, rfl, ?_⟩
  rw [show (if j < i then j else i) = min i j by rw [Int.min_def]; split <;> split <;> omega]
  exact q _ S H (Gr.rfl' ex) (.int _)
theorem cbd_abs {i : Int} : CbD K (fun xs H Q => ∃ i, xs = [.int i] ∧ Q (.int (if i < 0 then -i else i)) H) [.dat (.int i)] (.dat (.int i.natAbs)) := fun S H vs ex ha Q q => by
  obtain ⟨v, rfl, hv⟩ := vals1d ha
  rw [dp_int hv]
  refine ⟨i, rfl, ?_⟩
  rw [show (if i < 0 then -i else i) = (i.natAbs : Int) by split <;> omega]
  exact q _ S H (Gr.rfl' ex) (.int _)
theorem cbd_intB {b : Bool} : CbD K (fun xs H Q => (∃ i, xs = [.int i] ∧ Q (.int i) H) ∨ ∃ k, xs = [.bl k] ∧ Q (.int (if k then 1 else 0)) H) [.dat (.bl b)] (.dat (.int (if b then 1 else 0))) := fun S H vs ex ha Q q => by
  obtain ⟨v, rfl, hv⟩ := vals1d ha
  rw [dp_bool hv]
  exact .inr ⟨b, rfl, q _ S H (Gr.rfl' ex) (.int _)⟩
/-! isinstance -/
def tyName : D → String
  | .non => "NoneType" | .bl _ => "bool" | .int _ => "int" | .str _ => "str" | .lst _ => "list" | .tup _ => "tuple" | .dic => "dict" | .ob _ => "object"
def notOb : D → Bool
  | .ob _ => false
  | _ => true
theorem ty_of {S : Hp} {v : V} {d : D} (hn : notOb d = true) (h : Rp K S v d) : TyX K S v (.type (tyName d)) := by
  cases h with
  | non => exact .base .non
  | bl b => exact .base (.bl b)
  | int i => exact .base (.int i)
  | str x => exact .base (.str x)
  | lst hs _ =>
    rcases hs with (h | ⟨o, h⟩) | ⟨o, its, n, h1, h2, _⟩
    · exact .base (.lst h)
    · exact .base (.frz h)
    · exact .kList h1 h2
  | tup hs _ =>
    rcases hs with (h | ⟨o, h⟩) | ⟨o, its, n, h1, h2, _⟩
    · exact .base (.tup h)
    · exact .fTuple h
    · exact .kTuple h1 h2
  | dic h => exact .base (.dK h)
  | ob _ => cases hn
theorem cbd_isi {d : D} {T : String} {b : Bool} (hn : notOb d = true) (hk : kitB (tyName d) T = some b) : CbD K (rIsi K) [.dat d, .dat (.ob (.ty T))] (.dat (.bl b)) := fun S H vs ex ha Q q => by
  obtain ⟨v, w, rfl, hv, hw⟩ := vals2d ha
  rw [dp_ob hw]
  exact ⟨v, .ty T, _, _, b, rfl, .ty T, ty_of hn (dp_ex ex _ _ hv), kit_ty hk, q _ S H (Gr.rfl' ex) (.bl _)⟩
def isInt : D → Bool
  | .int _ => true
  | .bl _ => true
  | _ => false
def isBool : D → Bool
  | .bl _ => true
  | _ => false
def isTup : D → Bool
  | .tup _ => true
  | _ => false
def isLst : D → Bool
  | .lst _ => true
  | _ => false
def isStr : D → Bool
  | .str _ => true
  | _ => false
theorem kit_int : ∀ d, notOb d = true → kitB (tyName d) "int" = some (isInt d)
  | .non, _ => by show kitB "NoneType" "int" = some false; decide +kernel
  | .bl _, _ => by show kitB "bool" "int" = some true; decide +kernel
  | .int _, _ => by show kitB "int" "int" = some true; decide +kernel
  | .str _, _ => by show kitB "str" "int" = some false; decide +kernel
  | .lst _, _ => by show kitB "list" "int" = some false; decide +kernel
  | .tup _, _ => by show kitB "tuple" "int" = some false; decide +kernel
  | .dic, _ => by show kitB "dict" "int" = some false; decide +kernel
  | .ob _, h => by cases h
theorem kit_bool : ∀ d, notOb d = true → kitB (tyName d) "bool" = some (isBool d)
  | .non, _ => by show kitB "NoneType" "bool" = some false; decide +kernel
  | .bl _, _ => by show kitB "bool" "bool" = some true; decide +kernel
  | .int _, _ => by show kitB "int" "bool" = some false; decide +kernel
  | .str _, _ => by show kitB "str" "bool" = some false; decide +kernel
  | .lst _, _ => by show kitB "list" "bool" = some false; decide +kernel
  | .tup _, _ => by show kitB "tuple" "bool" = some false; decide +kernel
  | .dic, _ => by show kitB "dict" "bool" = some false; decide +kernel
  | .ob _, h => by cases h
theorem kit_tup : ∀ d, notOb d = true → kitB (tyName d) "tuple" = some (isTup d)
  | .non, _ => by show kitB "NoneType" "tuple" = some false; decide +kernel
  | .bl _, _ => by show kitB "bool" "tuple" = some false; decide +kernel
  | .int _, _ => by show kitB "int" "tuple" = some false; decide +kernel
  | .str _, _ => by show kitB "str" "tuple" = some false; decide +kernel
  | .lst _, _ => by show kitB "list" "tuple" = some false; decide +kernel
  | .tup _, _ => by show kitB "tuple" "tuple" = some true; decide +kernel
  | .dic, _ => by show kitB "dict" "tuple" = some false; decide +kernel
  | .ob _, h => by cases h
theorem kit_lst : ∀ d, notOb d = true → kitB (tyName d) "list" = some (isLst d)
  | .non, _ => by show kitB "NoneType" "list" = some false; decide +kernel
  | .bl _, _ => by show kitB "bool" "list" = some false; decide +kernel
  | .int _, _ => by show kitB "int" "list" = some false; decide +kernel
  | .str _, _ => by show kitB "str" "list" = some false; decide +kernel
  | .lst _, _ => by show kitB "list" "list" = some true; decide +kernel
  | .tup _, _ => by show kitB "tuple" "list" = some false; decide +kernel
  | .dic, _ => by show kitB "dict" "list" = some false; decide +kernel
  | .ob _, h => by cases h
theorem kit_str : ∀ d, notOb d = true → kitB (tyName d) "str" = some (isStr d)
  | .non, _ => by show kitB "NoneType" "str" = some false; decide +kernel
  | .bl _, _ => by show kitB "bool" "str" = some false; decide +kernel
  | .int _, _ => by show kitB "int" "str" = some false; decide +kernel
  | .str _, _ => by show kitB "str" "str" = some true; decide +kernel
  | .lst _, _ => by show kitB "list" "str" = some false; decide +kernel
  | .tup _, _ => by show kitB "tuple" "str" = some false; decide +kernel
  | .dic, _ => by show kitB "dict" "str" = some false; decide +kernel
  | .ob _, h => by cases h
variable {te tc : TE} {d : D}
theorem ev_isInt (h : Ev K te ρ (.dat d)) (hn : notOb d = true) (hc : Ev K tc ρ (.dat (.ob (.ty "int"))) := by exact ev_c) : Ev K (tCB (rIsi K) (tCons te (tCons tc tNil))) ρ (.dat (.bl (isInt d))) := ev_cb (ea_cons h (ea_cons hc ea_nil)) (cbd_isi hn (kit_int d hn))
theorem ev_isBool (h : Ev K te ρ (.dat d)) (hn : notOb d = true) (hc : Ev K tc ρ (.dat (.ob (.ty "bool"))) := by exact ev_c) : Ev K (tCB (rIsi K) (tCons te (tCons tc tNil))) ρ (.dat (.bl (isBool d))) := ev_cb (ea_cons h (ea_cons hc ea_nil)) (cbd_isi hn (kit_bool d hn))
theorem ev_isTup (h : Ev K te ρ (.dat d)) (hn : notOb d = true) (hc : Ev K tc ρ (.dat (.ob (.ty "tuple"))) := by exact ev_c) : Ev K (tCB (rIsi K) (tCons te (tCons tc tNil))) ρ (.dat (.bl (isTup d))) := ev_cb (ea_cons h (ea_cons hc ea_nil)) (cbd_isi hn (kit_tup d hn))
theorem ev_isLst (h : Ev K te ρ (.dat d)) (hn : notOb d = true) (hc : Ev K tc ρ (.dat (.ob (.ty "list"))) := by exact ev_c) : Ev K (tCB (rIsi K) (tCons te (tCons tc tNil))) ρ (.dat (.bl (isLst d))) := ev_cb (ea_cons h (ea_cons hc ea_nil)) (cbd_isi hn (kit_lst d hn))
theorem ev_isStr (h : Ev K te ρ (.dat d)) (hn : notOb d = true) (hc : Ev K tc ρ (.dat (.ob (.ty "str"))) := by exact ev_c) : Ev K (tCB (rIsi K) (tCons te (tCons tc tNil))) ρ (.dat (.bl (isStr d))) := ev_cb (ea_cons h (ea_cons hc ea_nil)) (cbd_isi hn (kit_str d hn))
end

/-! ### a def by its body -/
def startR (N : List Str) (rs : List Sl) : List Sl := rs ++ List.replicate (N.length - rs.length) .no
theorem args_len {K : PySem.W.Frag} {S : Hp} : ∀ {vs : List V} {rs : List Sl}, ArgsOk K S vs rs → vs.length = rs.length
  | _, _, .nil => rfl
  | _, _, .cons _ t => by simp [args_len t]
theorem args_get {K : PySem.W.Frag} {S : Hp} : ∀ {vs : List V} {rs : List Sl} {i : Nat} {s : Sl}, ArgsOk K S vs rs → rs[i]? = some s → ∃ v, vs[i]? = some v ∧ ArgOk K S v s
  | _, _, _, _, .nil, e => by simp at e
  | _, _, 0, _, .cons h _, e => by simp at e; subst e; exact ⟨_, rfl, h⟩
  | _, _, i + 1, s, .cons _ t, e => by
    obtain ⟨v, h1, h2⟩ := args_get (i := i) (s := s) t (by simpa using e)
    exact ⟨v, by simpa using h1, h2⟩
theorem rep_start {K : PySem.W.Frag} {S H : Hp} {N : List Str} {vs : List V} {rs : List Sl} (ex : Ex S H) (h : ArgsOk K S vs rs) : Rep K S H S H (start N vs) (startR N rs) := by
  have hl := args_len h
  have key : ∀ (i : Nat) (s : Sl), (startR N rs)[i]? = some s → s = .no ∨ ∃ v, (start N vs)[i]? = some (some v) ∧ ArgOk K S v s := fun i s e => by
    unfold startR at e
    by_cases hi : i < rs.length
    · rw [List.getElem?_append_left hi] at e
      obtain ⟨v, h1, h2⟩ := args_get h e
      refine .inr ⟨v, ?_, h2⟩
      unfold L2.start
      rw [List.getElem?_append_left (by simp; omega), List.getElem?_map, h1]
      rfl
    · rw [List.getElem?_append_right (by omega), List.getElem?_replicate] at e
      split at e
      · exact .inl (Option.some.inj e).symm
      · cases e
  have key2 : ∀ (i : Nat) o, (startR N rs)[i]? = some (.ow o) → ∃ v d, (start N vs)[i]? = some (some v) ∧ o = .dat d ∧ Rp K S v d := fun i o e => by
    rcases key i _ e with z | ⟨v, h1, h2⟩
    · cases z
    · cases o with
      | dat d => exact ⟨v, d, h1, rfl, h2⟩
      | lst _ => exact h2.elim
      | tup _ => exact h2.elim
  refine ⟨Gr.rfl' ex, by unfold L2.start startR; simp [hl], fun i o e => ?_, fun i j o o' v w fp fq hij h1 h2 h3 h4 h5 => ?_⟩
  · obtain ⟨v, d, q1, rfl, q2⟩ := key2 i o e
    exact ⟨v, [], q1, .dat q2, by simp⟩
  · obtain ⟨v, d, q1, rfl, q2⟩ := key2 i o h1
    cases h5
    simp
/-- how a body's end is the def's answer -/
def Ans (o : Out) (res : Sl) : Prop := o = .rt res ∨ (res = .dat .non ∧ ∃ ρ, o = .nx ρ)
section
variable {P : Program} {w : World} {K : PySem.W.Frag} {mg : Str → Option Value} {base : Heap} {x qual : Str} {st : Stmt} {f : Addr} {fd : FuncData} {N ps : List Str} {k : Nat}
theorem ans_run {t : TS} {S H : Hp} {vs : List V} {rs : List Sl} {res : Sl} {Q : VK} {E : XK} {o : Out} (ex : Ex S H) (ha : ArgsOk K S vs rs) (hs : Sx K E t (startR N rs) o) (hA : Ans o res) (q : ∀ v S' H', Gr S H S' H' → Res K H S' H' v res → Q v H') :
    t { nx := fun _ H' => Q .non H', rt := Q } (start N vs) H := by
  refine hs S H S H _ (rep_start ex ha) _ ?_
  rcases hA with rfl | ⟨rfl, ρ, rfl⟩
  · exact q
  · exact fun σ S' H' _ R => q .non S' H' R.gr .non
theorem ok_F {R : List Sl → Sl → Prop} (F : Fun K x qual st f fd) (S : FnScope N ps (defScope st)) (len : ∀ rs res, R rs res → rs.length = ps.length)
    (hb : ∀ (cdv : Value) (A : Around) (outer : List Env) (s : Shared) (H : Hp) (E : XK), Room k (A.deeper (envOfC qual (defScope st) s.heap.objs.size f cdv)) →
      ∃ t, PSs (cxOf CX0 P w K mg base N qual (defScope st) f cdv A outer s H E).nox (defBody st) t ∧ ∀ rs res, R rs res → ∃ o, Sx K E t (startR N rs) o ∧ Ans o res) : FnOk P w K mg base CX0 (k + 1) f fd ps (spF K R) := by
  refine F.ok S (fun vs H Q E h => ?_) fun cdv A outer s H vs Q E hr h => ?_
  · obtain ⟨S, rs, res, _, ha, hR, _⟩ := h
    rw [args_len ha, len rs res hR]
  · obtain ⟨S, rs, res, ex, ha, hR, q⟩ := h
    obtain ⟨t, ht, hs⟩ := hb cdv A outer s H E hr
    obtain ⟨o, ho, hA⟩ := hs rs res hR
    exact ⟨t, ht, ans_run ex ha ho hA q⟩
theorem ok_X {R : List Sl → Sl → Prop} {RX : List Sl → Value → Prop} (F : Fun K x qual st f fd) (S : FnScope N ps (defScope st)) (len : ∀ rs, (∃ res, R rs res) ∨ (∃ c, RX rs c) → rs.length = ps.length)
    (hb : ∀ (cdv : Value) (A : Around) (outer : List Env) (s : Shared) (H : Hp) (E : XK), Room k (A.deeper (envOfC qual (defScope st) s.heap.objs.size f cdv)) →
      ∃ t, PSs (cxOf (L2.CX P w) P w K mg base N qual (defScope st) f cdv A outer s H E) (defBody st) t ∧ (∀ rs res, R rs res → ∃ o, Sx K E t (startR N rs) o ∧ Ans o res) ∧ ∀ rs c, RX rs c → Sx K E t (startR N rs) (.rs c)) : FnOk P w K mg base (L2.CX P w) (k + 1) f fd ps (spX K R RX) := by
  refine F.okX S (fun vs H Q E h => ?_) fun cdv A outer s H vs Q E hr h => ?_
  · obtain ⟨S, rs, _, ha, h⟩ := h
    rw [args_len ha]
    refine len rs ?_
    rcases h with ⟨res, hR, _⟩ | ⟨c, hR, _⟩
    · exact .inl ⟨res, hR⟩
    · exact .inr ⟨c, hR⟩
  · obtain ⟨S, rs, ex, ha, h⟩ := h
    obtain ⟨t, ht, hs, hx⟩ := hb cdv A outer s H E hr
    rcases h with ⟨res, hR, q⟩ | ⟨c, hR, q⟩
    · obtain ⟨o, ho, hA⟩ := hs rs res hR
      exact ⟨t, ht, ans_run ex ha ho hA q⟩
    · exact ⟨t, ht, hx rs c hR S H S H _ (rep_start ex ha) _ fun S' H' g => q S' H' g⟩
/-- a def that may raise, where it doesn't -/
theorem fn_calm {R : List Sl → Sl → Prop} {RX : List Sl → Value → Prop} (F : FnOk P w K mg base (L2.CX P w) k f fd ps (spX K R RX)) : FnOk P w K mg base CX0 k f fd ps (spF K R) := by
  have key : ∀ vs H Q E, spF K R vs H Q E → spX K R RX vs H Q E0 := fun vs H Q E h => by
    obtain ⟨S, rs, res, ex, ha, hR, q⟩ := h
    exact ⟨S, rs, ex, ha, .inl ⟨res, hR, q⟩⟩
  refine ⟨fun vs H Q E h => F.len vs H Q E0 (key vs H Q E h), fun A outer s H args us vs Q E hr he hb hv hs => ?_⟩
  refine codeAny_mono (F.run A outer s H args us vs Q E0 hr he hb hv (key vs H Q E hs)) fun r s' hq => ?_
  cases r with
  | ok fl =>
    cases fl with
    | ret u => exact hq
    | next => exact hq
    | brk => exact hq
    | cont => exact hq
  | error e =>
    obtain ⟨_, _, _, _, _, _, _, _, _, _, _, _, z⟩ := hq
    exact z.elim
end
end DL

namespace DL
open PySem PySem.Spec PyProof.Rows L2
open Evl (Ex)
/-! ### statements by what is wanted of their end -/
def SP (K : PySem.W.Frag) (E : XK) (t : TS) (ρ : List Sl) (P : Out → Prop) : Prop := ∃ o, Sx K E t ρ o ∧ P o
section
variable {K : PySem.W.Frag} {E : XK} {ρ ρ1 ρ2 : List Sl} {te ta tb : TE} {tt : TT} {t u w : TS} {o : Out} {r : Sl} {d e : D} {P : Out → Prop}
theorem p_of (h : Sx K E t ρ o) (hp : P o) : SP K E t ρ P := ⟨o, h, hp⟩
theorem p_seq (h1 : Sx K E t ρ (.nx ρ1)) (h2 : SP K E u ρ1 P) : SP K E (tSeq t u) ρ P := by
  obtain ⟨o, h, hp⟩ := h2
  exact ⟨o, sx_seq h1 h, hp⟩
theorem p_next (hp : P (.nx ρ)) : SP K E tNext ρ P := ⟨_, sx_next, hp⟩
theorem p_brk (hp : P (.bk ρ)) : SP K E tBreak ρ P := ⟨_, sx_brk, hp⟩
theorem p_cont (hp : P (.ct ρ)) : SP K E tCont ρ P := ⟨_, sx_cont, hp⟩
theorem p_ret (h : Ev K te ρ r) (hp : P (.rt r)) : SP K E (tRet te) ρ P := ⟨_, sx_ret h, hp⟩
theorem p_retOwn {i : Nat} {ds : List D} (hi : ρ[i]? = some (.own ds)) (hp : P (.rt (.own ds))) : SP K E (tRet (tVar i)) ρ P := ⟨_, sx_retOwn hi, hp⟩
theorem p_retOw {i : Nat} {q : O} (hi : ρ[i]? = some (.ow q)) (hp : P (.rt (.ow q))) : SP K E (tRet (tVar i)) ρ P := ⟨_, sx_retOw hi, hp⟩
theorem p_skip (h : SP K E u ρ P) : SP K E (tSeq tNext u) ρ P := p_seq sx_next h
/-- a statement that ends the block -/
theorem p_cut (h : SP K E t ρ fun o => (∀ ρ', o ≠ .nx ρ') ∧ P o) : SP K E (tSeq t u) ρ P := by
  obtain ⟨o, h, hn, hp⟩ := h
  cases o with
  | nx ρ' => exact absurd rfl (hn ρ')
  | rt r => exact ⟨_, sx_seqR h, hp⟩
  | bk r => exact ⟨_, sx_seqB h, hp⟩
  | ct r => exact ⟨_, sx_seqC h, hp⟩
  | rs r => exact ⟨_, sx_seqX h, hp⟩
theorem p_retq (h : Ev K te ρ r) (hp : P (.rt r)) : SP K E (tSeq (tRet te) u) ρ P := ⟨_, sx_seqR (sx_ret h), hp⟩
theorem p_brkq (hp : P (.bk ρ)) : SP K E (tSeq tBreak u) ρ P := ⟨_, sx_seqB sx_brk, hp⟩
theorem p_contq (hp : P (.ct ρ)) : SP K E (tSeq tCont u) ρ P := ⟨_, sx_seqC sx_cont, hp⟩
theorem p_if {b : Bool} (h : EvT K tt ρ b) (h1 : b = true → SP K E t ρ P) (h2 : b = false → SP K E u ρ P) : SP K E (tIfS tt t u) ρ P := by
  cases b with
  | true =>
    obtain ⟨o, h, hp⟩ := h1 rfl
    exact ⟨o, sx_if ‹EvT K tt ρ true› (fun _ => h) (fun z => by cases z), hp⟩
  | false =>
    obtain ⟨o, h, hp⟩ := h2 rfl
    exact ⟨o, sx_if ‹EvT K tt ρ false› (fun z => by cases z) (fun _ => h), hp⟩
theorem p_ifq {b : Bool} (h : EvT K tt ρ b) (h1 : b = true → SP K E (tSeq t w) ρ P) (h2 : b = false → SP K E (tSeq u w) ρ P) : SP K E (tSeq (tIfS tt t u) w) ρ P := by
  cases b with
  | true =>
    obtain ⟨o, h, hp⟩ := h1 rfl
    exact ⟨o, sx_ifq ‹EvT K tt ρ true› (fun _ => h) (fun z => by cases z), hp⟩
  | false =>
    obtain ⟨o, h, hp⟩ := h2 rfl
    exact ⟨o, sx_ifq ‹EvT K tt ρ false› (fun z => by cases z) (fun _ => h), hp⟩
/-- a block in a block -/
theorem p_assoc (h : SP K E (tSeq t (tSeq u w)) ρ P) : SP K E (tSeq (tSeq t u) w) ρ P := by
  obtain ⟨o, h, hp⟩ := h
  exact ⟨o, fun S0 H0 S H σ R D k => h S0 H0 S H σ R D k, hp⟩
theorem SP.mono {Q : Out → Prop} (h : SP K E t ρ P) (hq : ∀ o, P o → Q o) : SP K E t ρ Q := by
  obtain ⟨o, h, hp⟩ := h
  exact ⟨o, h, hq o hp⟩
theorem p_freeze {i : Nat} {ds : List D} (hi : ρ[i]? = some (.own ds)) (h : SP K E t (ρ.set i (.dat (.lst ds))) P) : SP K E t ρ P := by
  obtain ⟨o, h, hp⟩ := h
  exact ⟨o, Sx.freeze hi h, hp⟩
theorem p_weak {ρ' : List Sl} (hl : ρ'.length = ρ.length) (hw : ∀ (i : Nat) s, ρ'[i]? = some s → s = .no ∨ ρ[i]? = some s) (h : SP K E t ρ' P) : SP K E t ρ P := by
  obtain ⟨o, h, hp⟩ := h
  exact ⟨o, Sx.weak hl hw h, hp⟩
/-- what a loop's turn is to reach -/
def TurnP (K : PySem.W.Frag) (E : XK) (u : TS) (P : Out → Prop) (I : List Sl → Prop) : Out → Prop
  | .nx ρ => I ρ
  | .ct ρ => I ρ
  | .bk ρ => SP K E u ρ P
  | .rt r => P (.rt r)
  | .rs c => P (.rs c)
theorem p_for {α : Type} {A : α → D} {l : List α} {wi : TI} {g : TG} {is : List Nat} {tb u : TS} (I : List α → List Sl → Prop) (hs : Src K wi ρ (l.map A)) (h0 : I l ρ)
    (turn : ∀ a r ρ, I (a :: r) ρ → ∃ ρ1, Tg K g is ρ (.dat (A a)) ρ1 ∧ SP K E tb ρ1 (TurnP K E u P (I r))) (done : ∀ ρ, I [] ρ → SP K E u ρ P) : SP K E (tSeq (tFor wi g tb) u) ρ P := by
  have key : ∀ (l : List α) (ρ : List Sl), I l ρ → ∃ o, Fr K E g is tb (l.map A) ρ o ∧ (match o with
      | .nx ρ' => SP K E u ρ' P
      | .rt r => P (.rt r)
      | .rs c => P (.rs c)
      | _ => False) := by
    intro l
    induction l with
    | nil => exact fun ρ h => ⟨_, .nil, done ρ h⟩
    | cons a r ih =>
      intro ρ h
      obtain ⟨ρ1, tg, o, ho, hp⟩ := turn a r ρ h
      cases o with
      | nx ρ2 =>
        obtain ⟨o', f, q⟩ := ih ρ2 hp
        exact ⟨o', .step tg ho f, q⟩
      | ct ρ2 =>
        obtain ⟨o', f, q⟩ := ih ρ2 hp
        exact ⟨o', .cont tg ho f, q⟩
      | bk ρ2 => exact ⟨_, .brk tg ho, hp⟩
      | rt r => exact ⟨_, .ret tg ho, hp⟩
      | rs c => exact ⟨_, .rse tg ho, hp⟩
  obtain ⟨o, f, q⟩ := key l ρ h0
  cases o with
  | nx ρ' => exact p_seq (sx_for hs f) q
  | rt r => exact ⟨_, sx_seqR (sx_for hs f), q⟩
  | rs c => exact ⟨_, sx_seqX (sx_for hs f), q⟩
  | bk _ => exact q.elim
  | ct _ => exact q.elim
/-- a for that is the last of its block -/
theorem p_for1 {α : Type} {A : α → D} {l : List α} {wi : TI} {g : TG} {is : List Nat} {tb : TS} (I : List α → List Sl → Prop) (hs : Src K wi ρ (l.map A)) (h0 : I l ρ)
    (turn : ∀ a r ρ, I (a :: r) ρ → ∃ ρ1, Tg K g is ρ (.dat (A a)) ρ1 ∧ SP K E tb ρ1 (TurnP K E tNext P (I r))) (done : ∀ ρ, I [] ρ → P (.nx ρ)) : SP K E (tFor wi g tb) ρ P := by
  obtain ⟨o, h, hp⟩ := p_for (u := tNext) I hs h0 turn (fun ρ h => p_next (done ρ h))
  exact ⟨o, fun S0 H0 S H σ R D k => h S0 H0 S H σ R D k, hp⟩
/-- a while: its turns raise nothing -/
theorem p_while {c : TT} {tb u : TS} (I : Nat → List Sl → Prop) (n : Nat) (h0 : I n ρ)
    (turn : ∀ n ρ, I n ρ → ∃ b, EvT K c ρ b ∧ (b = false → SP K E u ρ P) ∧ (b = true → SP K E tb ρ fun o => (∀ cc, o ≠ .rs cc) ∧ TurnP K E u P (fun ρ' => ∃ m, m < n ∧ I m ρ') o)) : SP K E (tSeq (tWhile c tb) u) ρ P := by
  have key : ∀ (k n : Nat), n ≤ k → ∀ ρ, I n ρ → ∃ o, Wh K E c tb k ρ o ∧ (match o with
      | .nx ρ' => SP K E u ρ' P
      | .rt r => P (.rt r)
      | _ => False) := by
    intro k
    induction k with
    | zero =>
      intro n hn ρ h
      obtain ⟨b, hb, h1, h2⟩ := turn n ρ h
      cases b with
      | false => exact ⟨_, .done hb, h1 rfl⟩
      | true =>
        obtain ⟨o, ho, hx, hp⟩ := h2 rfl
        cases o with
        | nx ρ' =>
          obtain ⟨m, hm, _⟩ := hp
          omega
        | ct ρ' =>
          obtain ⟨m, hm, _⟩ := hp
          omega
        | bk ρ' => exact ⟨_, .brk hb ho, hp⟩
        | rt r => exact ⟨_, .ret hb ho, hp⟩
        | rs cc => exact absurd rfl (hx cc)
    | succ k ih =>
      intro n hn ρ h
      obtain ⟨b, hb, h1, h2⟩ := turn n ρ h
      cases b with
      | false => exact ⟨_, .done hb, h1 rfl⟩
      | true =>
        obtain ⟨o, ho, hx, hp⟩ := h2 rfl
        cases o with
        | nx ρ' =>
          obtain ⟨m, hm, hI⟩ := hp
          obtain ⟨o', f, q⟩ := ih m (by omega) ρ' hI
          exact ⟨o', .step hb ho f, q⟩
        | ct ρ' =>
          obtain ⟨m, hm, hI⟩ := hp
          obtain ⟨o', f, q⟩ := ih m (by omega) ρ' hI
          exact ⟨o', .cont hb ho f, q⟩
        | bk ρ' => exact ⟨_, .brk hb ho, hp⟩
        | rt r => exact ⟨_, .ret hb ho, hp⟩
        | rs cc => exact absurd rfl (hx cc)
  obtain ⟨o, f, q⟩ := key n n (Nat.le_refl _) ρ h0
  cases o with
  | nx ρ' => exact p_seq (sx_while f) q
  | rt r => exact ⟨_, sx_seqR (sx_while f), q⟩
  | rs c => exact q.elim
  | bk _ => exact q.elim
  | ct _ => exact q.elim
end
end DL

namespace DL
open PySem PySem.Spec PyProof.Rows L2
open Evl (Ex)
/-! ### displays of owned things -/
def EvAo (K : PySem.W.Frag) (ta : TA) (ρ : List Sl) (os : List O) : Prop := ∀ S0 H0 S H σ, Rep K S0 H0 S H σ ρ → ∀ Q : List V → Hp → Prop, (∀ vs S' H' fp, Gr S H S' H' → RpOs K S' H' vs os fp → (∀ a ∈ fp, H a = none ∧ S' a = none) → Q vs H') → ta σ H Q
section
variable {K : PySem.W.Frag} {E : XK} {ρ ρ1 ρ2 : List Sl} {te : TE} {ta : TA} {o : O} {os : List O} {d e : D}
theorem eao_nil : EvAo K tNil ρ [] := fun S0 H0 S H σ R Q q => q [] S H [] (Gr.rfl' R.gr.s) .nil (by simp)
theorem eao_cons (h : Ev K te ρ (.ow o)) (hr : EvAo K ta ρ os) : EvAo K (tCons te ta) ρ (o :: os) := fun S0 H0 S H σ R Q q =>
  h S0 H0 S H σ R _ fun v S1 H1 g1 hv => hr S0 H0 S1 H1 σ (R.grow g1) _ fun vs S2 H2 f2 g2 hvs hf2 => by
    obtain ⟨f1, q1, q2⟩ := res_rp hv
    refine q _ S2 H2 (f1 ++ f2) (g1.trans g2) (.cons (rpO_mono g2.ss o v f1 (fun a _ u hu => g2.h a u hu) q1) hvs fun a ha z => ?_) fun a ha => ?_
    · obtain ⟨u, hu⟩ := rpO_in o v f1 q1 a ha
      rw [(hf2 a z).1] at hu
      cases hu
    · rcases List.mem_append.mp ha with z | z
      · obtain ⟨u, hu⟩ := rpO_in o v f1 q1 a z
        exact ⟨(q2 a z).1, g2.none (q2 a z).2 hu⟩
      · exact ⟨Evl.fresh_back g1.h (hf2 a z).1, (hf2 a z).2⟩
theorem rpOs_len {S H : Hp} : ∀ {vs : List V} {os : List O} {fp : List Addr}, RpOs K S H vs os fp → vs.length = os.length
  | _, _, _, .nil => rfl
  | _, _, _, .cons _ t _ => by simp [rpOs_len t]
theorem ev_tupO (h : EvAo K ta ρ os) (hl : os.length ≤ 100000) : Ev K (tTup ta) ρ (.ow (.tup os)) := fun S0 H0 S H σ R Q q =>
  h S0 H0 S H σ R _ fun vs S1 H1 fp g1 hvs hf => by
    refine ⟨by rw [rpOs_len hvs]; exact Evl.sz_of hl, fun p hp => ?_⟩
    have g2 : Gr S1 H1 S1 _ := Gr.freshH (o := .tup vs) g1.s hp
    have hpf : p ∉ fp := fun z => by
      obtain ⟨u, hu⟩ := rpOs_in os vs fp hvs p z
      rw [hp] at hu
      cases hu
    refine q _ _ _ (g1.trans g2) ⟨p :: fp, .tup upd_same (rpOs_mono (Ex.refl _) os vs fp (fun a _ u hu => g2.h a u hu) hvs) hpf, fun a ha => ?_⟩
    rcases List.mem_cons.mp ha with z | z
    · rw [z]; exact ⟨Evl.fresh_back g1.h hp, Evl.fresh_back g1.s hp⟩
    · exact hf a z
theorem ev_lstO (h : EvAo K ta ρ os) (hl : os.length ≤ 100000) : Ev K (tLst ta) ρ (.ow (.lst os)) := fun S0 H0 S H σ R Q q =>
  h S0 H0 S H σ R _ fun vs S1 H1 fp g1 hvs hf => by
    refine ⟨by rw [rpOs_len hvs]; exact Evl.sz_of hl, fun p hp => ?_⟩
    have g2 : Gr S1 H1 S1 _ := Gr.freshH (o := .lst vs) g1.s hp
    have hpf : p ∉ fp := fun z => by
      obtain ⟨u, hu⟩ := rpOs_in os vs fp hvs p z
      rw [hp] at hu
      cases hu
    refine q _ _ _ (g1.trans g2) ⟨p :: fp, .lst upd_same (rpOs_mono (Ex.refl _) os vs fp (fun a _ u hu => g2.h a u hu) hvs) hpf, fun a ha => ?_⟩
    rcases List.mem_cons.mp ha with z | z
    · rw [z]; exact ⟨Evl.fresh_back g1.h hp, Evl.fresh_back g1.s hp⟩
    · exact hf a z
/-! ### targets within owned things -/
def TgM (K : PySem.W.Frag) (g : TG) (ρ : List Sl) (d : D) (ρ' : List Sl) : Prop := ∀ S0 H0 S H σ v, Rep K S0 H0 S H σ ρ → Rp K S v d → ∀ Q : L2.St → Hp → Prop, (∀ σ' S' H', Ex S S' → Rep K S0 H0 S' H' σ' ρ' → Q σ' H') → g v σ H Q
theorem tgm_of {g : TG} {is : List Nat} (h : Tg K g is ρ (.dat d) ρ1) : TgM K g ρ d ρ1 := fun S0 H0 S H σ v R hv Q q => h S0 H0 S H σ v R hv Q fun σ' R' _ => q σ' S H (Ex.refl _) R'
theorem tgm_set {i : Nat} {q : O} {path : List Nat} {ds : List D} {to ti : TE} {n : Int} {j : Nat} (hi : ρ[i]? = some (.ow q)) (hp : q.get path = some (.lst (ds.map O.dat))) (ho : EvP K to ρ i path) (hn : Ev K ti ρ (.dat (.int n))) (hj : ixN ds.length n = some j) :
    TgM K (gSub to ti rSetL) ρ d (ρ.set i (.ow (q.put path (.lst ((ds.set j d).map O.dat))))) := fun S0 H0 S H σ w R hw Q k => by
  obtain ⟨v, p, vs, h1, h2, h3, h4, h5⟩ := R.mutAt hi hp
  refine ho S0 H0 S H σ R v _ h1 h2 _ (hn S0 H0 S H σ R _ fun z S2 H2 g2 hz => ?_)
  rw [dp_int hz]
  obtain ⟨v', p', vs', q1, q2, q3, q4, q5⟩ := (R.grow g2).mutAt hi hp
  have ep : p' = p := by
    rw [h1] at q1
    cases q1
    exact path_det (path_ex g2.h h2) q2
  subst ep
  exact ⟨p', vs', n, j, rfl, rfl, q3, by rw [da_length q4]; exact hj, k σ S2 _ g2.ss (q5 _ _ (da_set j q4 (dp_ex g2.ss _ _ hw)))⟩
theorem tgm_two {g1 g2 : TG} (h1 : TgM K g1 ρ d ρ1) (h2 : TgM K g2 ρ1 e ρ2) : TgM K (gTup K 2 (gCons g1 (gCons g2 gNil))) ρ (.tup [d, e]) ρ2 := fun S0 H0 S H σ v R hv Q q => by
  obtain ⟨p, xs, rfl, z1, z2⟩ := dp_tuple hv
  cases z2 with
  | cons ha t =>
    cases t with
    | cons hb t =>
      cases t
      exact ⟨p, _, rfl, Evl.ex_t R.gr.s z1, rfl, _, _, rfl, h1 S0 H0 S H σ _ R ha _ fun σ' S' H' es R' => ⟨_, _, rfl, h2 S0 H0 S' H' σ' _ R' (dp_ex es _ _ hb) _ fun σ'' S'' H'' es' R'' => ⟨rfl, q σ'' S'' H'' (es.trans es') R''⟩⟩⟩
theorem sx_asgM {g : TG} (h : Ev K te ρ (.dat d)) (hg : TgM K g ρ d ρ1) : Sx K E (tAsg te g) ρ (.nx ρ1) := fun S0 H0 S H σ R D k =>
  h S0 H0 S H σ R _ fun v S' H' g' hv => hg S0 H0 S' H' σ v (R.grow g') hv _ fun σ' S'' H'' es R' => k σ' S'' H'' (g'.ss.trans es) R'
end
/-! ### == of data -/
structure Okn (n : Nat) (d : D) : Prop where
  pure : d.pure = true
  lay : d.py.canLay0 = true
  dep : d.py.depth ≤ n
theorem Okn.ok {n : Nat} {d : D} (h : Okn n d) (hn : n ≤ 64) : d.okEq = true := by
  unfold D.okEq SeqAt.shaped
  rw [h.pure, h.lay, decide_eq_true (Nat.le_trans h.dep hn)]
  rfl
theorem okn_int {n : Nat} (i : Int) : Okn n (.int i) := ⟨rfl, rfl, Nat.zero_le _⟩
theorem okn_bl {n : Nat} (b : Bool) : Okn n (.bl b) := ⟨rfl, rfl, Nat.zero_le _⟩
theorem okn_non {n : Nat} : Okn n .non := ⟨rfl, rfl, Nat.zero_le _⟩
theorem okns {n : Nat} : ∀ {ds : List D}, (∀ d ∈ ds, Okn n d) → D.pures ds = true ∧ PyData.canLayAll0 (D.pys ds) = true ∧ PyData.depthAll (D.pys ds) ≤ n
  | [], _ => ⟨rfl, rfl, Nat.zero_le _⟩
  | d :: ds, h => by
    have h1 := h d (by simp)
    obtain ⟨a, b, c⟩ := okns (ds := ds) fun e he => h e (by simp [he])
    refine ⟨?_, ?_, ?_⟩
    · rw [D.pures, h1.pure, a]; rfl
    · rw [D.pys, PyData.canLayAll0, h1.lay, b]; rfl
    · rw [D.pys, PyData.depthAll]
      exact Nat.max_le.mpr ⟨h1.dep, c⟩
theorem okn_lst {n : Nat} {ds : List D} (h : ∀ d ∈ ds, Okn n d) : Okn (n + 1) (.lst ds) := by
  obtain ⟨a, b, c⟩ := okns h
  refine ⟨?_, ?_, ?_⟩
  · rw [D.pure]; exact a
  · rw [D.py, PyData.canLay0]; exact b
  · rw [D.py, PyData.depth]; omega
theorem okn_tup {n : Nat} {ds : List D} (h : ∀ d ∈ ds, Okn n d) : Okn (n + 1) (.tup ds) := by
  obtain ⟨a, b, c⟩ := okns h
  refine ⟨?_, ?_, ?_⟩
  · rw [D.pure]; exact a
  · rw [D.py, PyData.canLay0]; exact b
  · rw [D.py, PyData.depth]; omega
theorem okn_ints {n : Nat} (ns : List Int) : Okn (n + 1) (.lst (ns.map .int)) := okn_lst fun d hd => by
  obtain ⟨i, _, rfl⟩ := List.mem_map.mp hd
  exact okn_int i
theorem deq_refl {d : D} (h : d.okEq = true) : D.eq d d = true := by
  unfold D.okEq at h
  rw [Bool.and_eq_true] at h
  exact SeqAt.eqv_refl _ (SeqAt.canLay_of_shaped h.2)
mutual
/-- no truth values within -/
def noBl : D → Bool
  | .bl _ => false
  | .lst ds => noBls ds
  | .tup ds => noBls ds
  | _ => true
def noBls : List D → Bool
  | [] => true
  | d :: ds => noBl d && noBls ds
end
mutual
theorem deq_of : ∀ (d e : D), d.pure = true → e.pure = true → noBl d = true → noBl e = true → D.eq d e = true → d = e
  | .non, e, _, pe, _, be, h => by cases e <;> simp_all [D.eq, D.py, PyData.eqv, D.pure, noBl]
  | .bl _, e, _, _, bd, _, _ => by simp [noBl] at bd
  | .int i, e, _, pe, _, be, h => by cases e <;> simp_all [D.eq, D.py, PyData.eqv, D.pure, noBl]
  | .str i, e, _, pe, _, be, h => by cases e <;> simp_all [D.eq, D.py, PyData.eqv, D.pure, noBl]
  | .lst ds, e, pd, pe, bd, be, h => by
    cases e with
    | lst es =>
      rw [deqs_of ds es (by simpa [D.pure] using pd) (by simpa [D.pure] using pe) (by simpa [noBl] using bd) (by simpa [noBl] using be) (by simpa [D.eq, D.py, PyData.eqv] using h)]
    | _ => simp_all [D.eq, D.py, PyData.eqv, D.pure, noBl]
  | .tup ds, e, pd, pe, bd, be, h => by
    cases e with
    | tup es =>
      rw [deqs_of ds es (by simpa [D.pure] using pd) (by simpa [D.pure] using pe) (by simpa [noBl] using bd) (by simpa [noBl] using be) (by simpa [D.eq, D.py, PyData.eqv] using h)]
    | _ => simp_all [D.eq, D.py, PyData.eqv, D.pure, noBl]
  | .dic, _, p, _, _, _, _ => by simp [D.pure] at p
  | .ob _, _, p, _, _, _, _ => by simp [D.pure] at p
theorem deqs_of : ∀ (ds es : List D), D.pures ds = true → D.pures es = true → noBls ds = true → noBls es = true → PyData.eqvAll (D.pys ds) (D.pys es) = true → ds = es
  | [], [], _, _, _, _, _ => rfl
  | [], _ :: _, _, _, _, _, h => by simp [D.pys, PyData.eqvAll] at h
  | _ :: _, [], _, _, _, _, h => by simp [D.pys, PyData.eqvAll] at h
  | d :: ds, e :: es, pd, pe, bd, be, h => by
    rw [D.pures, Bool.and_eq_true] at pd pe
    rw [noBls, Bool.and_eq_true] at bd be
    rw [D.pys, D.pys, PyData.eqvAll, Bool.and_eq_true] at h
    rw [deq_of d e pd.1 pe.1 bd.1 be.1 h.1, deqs_of ds es pd.2 pe.2 bd.2 be.2 h.2]
end
theorem deq_no {d e : D} (hd : d.okEq = true) (he : e.okEq = true) (bd : noBl d = true) (be : noBl e = true) (h : d ≠ e) : D.eq d e = false := by
  cases q : D.eq d e with
  | false => rfl
  | true =>
    unfold D.okEq at hd he
    rw [Bool.and_eq_true] at hd he
    exact absurd (deq_of d e hd.1 he.1 bd be q) h
end DL

/-! The layer's rules with K in the place of X.K. -/
namespace GC
open PySem PySem.Spec PyProof.Rows L2 DL
section
variable {X : Cx} {K : PySem.W.Frag}
theorem k_ix (h : X.K = K := by rfl) : IxR X (rIx K) := h ▸ ix_seq
theorem k_sl (h : X.K = K := by rfl) : SlR X (rSlL K) := h ▸ sl_list
theorem k_isi (h : X.K = K := by rfl) : CallR X (.builtin "isinstance") (rIsi K) := h ▸ call_isi
theorem k_len (h : X.K = K := by rfl) : CallR X (.builtin "len") (fun xs H Q => ∃ p ys, xs = [.ref p] ∧ (SqL K H p ys ∨ SqT K H p ys) ∧ Q (.int ys.length) H) := h ▸ call_len_seq
theorem k_list (h : X.K = K := by rfl) : CallR X (.type "list") (fun xs H Q => ∃ p ys, xs = [.ref p] ∧ (SqL K H p ys ∨ SqT K H p ys) ∧ ∀ l, H l = none → Q (.ref l) (upd H l (.lst ys))) := h ▸ call_list_of
theorem k_tuple (h : X.K = K := by rfl) : CallR X (.type "tuple") (fun xs H Q => ∃ p ys, xs = [.ref p] ∧ ((SqL K H p ys ∧ ∀ l, H l = none → Q (.ref l) (upd H l (.tup ys))) ∨ (SqT K H p ys ∧ Q (.ref p) H))) := h ▸ call_tuple_of
theorem k_sum (hc : X.calm = true := by rfl) (h : X.K = K := by rfl) : CallR X (.builtin "sum") (rSum K) := h ▸ cr_sum hc
theorem k_all (hc : X.calm = true := by rfl) (h : X.K = K := by rfl) : CallR X (.builtin "all") (rAll K) := h ▸ cr_all hc
theorem k_any (hc : X.calm = true := by rfl) (h : X.K = K := by rfl) : CallR X (.builtin "any") (rAny K) := h ▸ cr_any hc
theorem k_eqD (hu : X.A.units + 64 < cLine) (h : X.K = K := by rfl) : OpR X (compareOp .Eq) (rEqD K) := h ▸ op_eqD hu
theorem k_neD (hu : X.A.units + 64 < cLine) (h : X.K = K := by rfl) : OpR X (compareOp .NotEq) (rNeD K) := h ▸ op_neD hu
theorem k_in (h : X.K = K := by rfl) : OpR X (compareOp .In) (rIn K false) := h ▸ op_in_seq
theorem k_notIn (h : X.K = K := by rfl) : OpR X (compareOp .NotIn) (rIn K true) := h ▸ op_notIn_seq
variable {tg l e : Expr} {tl te : TE}
theorem ki_list (hl : PE X l tl) (h : X.K = K := by rfl) : PI X tg l (iList K tl) := h ▸ pi_list hl
theorem ki_tup (hl : PE X l tl) (h : X.K = K := by rfl) : PI X tg l (iTup K tl) := h ▸ pi_tup hl
theorem ki_zip {e e2 : Expr} {ta : TA} {p pos tpos : Pos} {elts : List Expr} {kk : Nat} (hg : Gl X "zip") (hm : X.mg "zip" = none) (ha : PA X [e, e2] ta) (hs : starEach [e, e2] X.env = (false, eval e X.env) :: starEach [e2] X.env := by rfl) (hs2 : (backTo pos (starEach [e2] X.env)).any (·.1) = false := by rfl) (h : X.K = K := by rfl) :
    PI X (.Tuple elts kk tpos) (.Call (.Name "zip" p) [e, e2] [] pos) (iZip K ta) := h ▸ pi_zip hg hm ha hs hs2
theorem ki_enum {e : Expr} {ta : TA} {p pos tpos : Pos} {elts : List Expr} {kk : Nat} (hg : Gl X "enumerate") (hm : X.mg "enumerate" = none) (ha : PA X [e] ta) (hs : starEach [e] X.env = [(false, eval e X.env)] := by rfl) (h : X.K = K := by rfl) :
    PI X (.Tuple elts kk tpos) (.Call (.Name "enumerate" p) [e] [] pos) (iEnum K ta) := h ▸ pi_enum hg hm ha hs
theorem k_revL {k : Nat} {p1 p2 p3 pos : Pos} (he : PE X e te) (h : X.K = K := by rfl) : PE X (.Subscript e (.Slice none none (some (.UnaryOp .USub (.Constant (.int 1) k p1) p2)) p3) pos) (tRevL K te) := h ▸ pe_revL he
theorem k_tup {es : List Expr} {k : Nat} {pos : Pos} {t : TGs} {n : Nat} (hc : X.calm = true) (hh : PGs X es t) (hn : (assignEach es X.env).length = n := by rfl) (hst : (assignEach es X.env).findIdx? (·.1) = none := by rfl) (h : X.K = K := by rfl) : PG X (.Tuple es k pos) (gTup K n t) := h ▸ pg_tup hc hh hn hst
theorem k_bm {o : Expr} {es : List Expr} {T : String} {name : Str} {id : String} {r : V → List V → Hp → VK → Prop} {to : TE} {t : TA} {apos cpos : Pos} (pa : PlainAttrs T) (slot : Slot T name id) (hty : typeOf (.builtin id) = pure (.type "method_descriptor")) (hm : MtR X id r) (ho : PE X o to) (ha : PA X (e :: es) t)
    (hbase : attributeBase o name X.env (eval o X.env) = eval o X.env := by rfl)
    (hfew : ((backTo cpos (starEach (e :: es) X.env)).all (fun x => !x.1) && (backToKw cpos (keywordEach [] X.env)).all (fun x => x.1.isSome)
      && decide ((e :: es).length + ([] : List Keyword).length + (if ([] : List Keyword).isEmpty then 0 else 1) < 30)) = true := by rfl)
    (hline : (apos.endLine == cpos.line) = true := by rfl) (hs : starEach (e :: es) X.env = (false, eval e X.env) :: starEach es X.env := by rfl) (hplain : (backTo cpos (starEach es X.env)).any (·.1) = false := by rfl) (h : X.K = K := by rfl) :
    PE X (.Call (.Attribute o name apos) (e :: es) [] cpos) (tBM K T r to t) := h ▸ pe_bm pa slot hty hm ho ha hbase hfew hline hs hplain
theorem k_bm0 {o : Expr} {T : String} {name : Str} {id : String} {r : V → List V → Hp → VK → Prop} {to : TE} {apos cpos : Pos} (pa : PlainAttrs T) (slot : Slot T name id) (hty : typeOf (.builtin id) = pure (.type "method_descriptor")) (hm : MtR X id r) (ho : PE X o to)
    (hbase : attributeBase o name X.env (eval o X.env) = eval o X.env := by rfl) (hline : (apos.endLine == cpos.line) = true := by rfl) (h : X.K = K := by rfl) : PE X (.Call (.Attribute o name apos) [] [] cpos) (tBM0 K T r to) := h ▸ pe_bm0 pa slot hty hm ho hbase hline
end
end GC

/-! The plain side: what the defs of the program and of the laws compute, and the promises. -/
namespace GC
open PySem PySem.Spec PyProof.Rows L2 DL
open Evl (Ex)

/-! ### more rules -/
section
variable {K : PySem.W.Frag} {ρ : List Sl} {te ta tb tc : TE} {d e : D} {i j k : Int}
theorem ev_chainI {p q : Int → Int → Bool} (ha : Ev K ta ρ (.dat (.int i))) (hb : Ev K tb ρ (.dat (.int j))) (hc : Ev K tc ρ (.dat (.int k))) :
    Ev K (tChain (rI0 fun i j => .bl (p i j)) (rI0 fun i j => .bl (q i j)) ta tb tc) ρ (.dat (.bl (p i j && q j k))) := by
  exact ev_chain (b := p i j) (f := .int k) ha hb opd_IB (fun h => by rw [h]; rfl) (fun _ => hc) (fun h => by rw [h]; exact opd_IB)
theorem ev_II {g : Int → Int → Int} (ha : Ev K ta ρ (.dat (.int i))) (hb : Ev K tb ρ (.dat (.int j))) : Ev K (tOp (rI0 fun i j => .int (g i j)) ta tb) ρ (.dat (.int (g i j))) := ev_op ha hb opd_II
theorem ev_IB {g : Int → Int → Bool} (ha : Ev K ta ρ (.dat (.int i))) (hb : Ev K tb ρ (.dat (.int j))) : Ev K (tOp (rI0 fun i j => .bl (g i j)) ta tb) ρ (.dat (.bl (g i j))) := ev_op ha hb opd_IB
theorem ev_IIc {Cc : Int → Int → Prop} {g : Int → Int → Int} (ha : Ev K ta ρ (.dat (.int i))) (hb : Ev K tb ρ (.dat (.int j))) (hc : Cc i j) : Ev K (tOp (rI Cc fun i j => .int (g i j)) ta tb) ρ (.dat (.int (g i j))) := ev_op ha hb (opd_IIc hc)
theorem ev_eqI (ha : Ev K ta ρ (.dat (.int i))) (hb : Ev K tb ρ (.dat (.int j))) : Ev K (tOp rEq ta tb) ρ (.dat (.bl (decide (i = j)))) := ev_op ha hb opd_eqI
theorem ev_neI (ha : Ev K ta ρ (.dat (.int i))) (hb : Ev K tb ρ (.dat (.int j))) : Ev K (tOp rNe ta tb) ρ (.dat (.bl (!decide (i = j)))) := ev_op ha hb opd_neI
theorem ev_ixL {ds : List D} (ha : Ev K ta ρ (.dat (.lst ds))) (hb : Ev K tb ρ (.dat (.int i))) (h : atI ds i = some d) : Ev K (tOp (rIx K) ta tb) ρ (.dat d) := ev_op ha hb (opd_ix_l h)
theorem ev_ixT {ds : List D} (ha : Ev K ta ρ (.dat (.tup ds))) (hb : Ev K tb ρ (.dat (.int i))) (h : atI ds i = some d) : Ev K (tOp (rIx K) ta tb) ρ (.dat d) := ev_op ha hb (opd_ix_t h)
theorem ev_lenL {ds : List D} (ha : Ev K ta ρ (.dat (.lst ds))) : Ev K (tCB (fun xs H Q => ∃ p ys, xs = [.ref p] ∧ (SqL K H p ys ∨ SqT K H p ys) ∧ Q (.int ys.length) H) (tCons ta tNil)) ρ (.dat (.int ds.length)) := ev_cb (ea_cons ha ea_nil) cbd_len
theorem ev_lenT {ds : List D} (ha : Ev K ta ρ (.dat (.tup ds))) : Ev K (tCB (fun xs H Q => ∃ p ys, xs = [.ref p] ∧ (SqL K H p ys ∨ SqT K H p ys) ∧ Q (.int ys.length) H) (tCons ta tNil)) ρ (.dat (.int ds.length)) := ev_cb (ea_cons ha ea_nil) cbd_lenT
theorem ev_all {bs : List Bool} (ha : Ev K ta ρ (.dat (.lst (bs.map .bl)))) : Ev K (tCB (rAll K) (tCons ta tNil)) ρ (.dat (.bl (bs.all id))) := ev_cb (ea_cons ha ea_nil) cbd_all
theorem ev_any {bs : List Bool} (ha : Ev K ta ρ (.dat (.lst (bs.map .bl)))) : Ev K (tCB (rAny K) (tCons ta tNil)) ρ (.dat (.bl (bs.any id))) := ev_cb (ea_cons ha ea_nil) cbd_any
theorem ev_sum {ns : List Int} (ha : Ev K ta ρ (.dat (.lst (ns.map .int)))) : Ev K (tCB (rSum K) (tCons ta tNil)) ρ (.dat (.int ns.sum)) := ev_cb (ea_cons ha ea_nil) cbd_sum
theorem ev_isNon (h : Ev K te ρ (.dat d)) : Ev K (tOp (fun x y H Q => y = .non ∧ Q (.bl (decide (x = .non))) H) te (tC .non)) ρ (.dat (.bl (isNon d))) := ev_op h ev_non fun S H x y ex hx hy Q q => by
  refine ⟨dp_none hy, q _ S H (Gr.rfl' ex) ?_⟩
  cases hx with
  | ob _ => cases x <;> exact .bl _
  | _ => exact .bl _
theorem ev_notNon (h : Ev K te ρ (.dat d)) : Ev K (tOp (fun x y H Q => y = .non ∧ Q (.bl (!decide (x = .non))) H) te (tC .non)) ρ (.dat (.bl (!isNon d))) := ev_op h ev_non fun S H x y ex hx hy Q q => by
  refine ⟨dp_none hy, q _ S H (Gr.rfl' ex) ?_⟩
  cases hx with
  | ob _ => cases x <;> exact .bl _
  | _ => exact .bl _
theorem ev_eqD (ha : Ev K ta ρ (.dat d)) (hb : Ev K tb ρ (.dat e)) (sd : d.okEq = true) (se : e.okEq = true) : Ev K (tOp (rEqD K) ta tb) ρ (.dat (.bl (D.eq d e))) := ev_op ha hb (opd_eqD sd se)
theorem ev_neD (ha : Ev K ta ρ (.dat d)) (hb : Ev K tb ρ (.dat e)) (sd : d.okEq = true) (se : e.okEq = true) : Ev K (tOp (rNeD K) ta tb) ρ (.dat (.bl (!D.eq d e))) := ev_op ha hb (opd_neD sd se)
/-- a comprehension without tests, its element a function of the item -/
theorem lc_map {g : TG} {is : List Nat} {te : TE} {ρ : List Sl} (F : D → List Sl) (G : D → D) : ∀ (xs : List D), (∀ x ∈ xs, Tg K g is ρ (.dat x) (F x) ∧ Ev K te (F x) (.dat (G x))) → Lc K g is tYes te ρ xs (xs.map G)
  | [], _ => .nil
  | x :: xs, h => .yes (h x (by simp)).1 et_yes (h x (by simp)).2 (lc_map F G xs fun y hy => h y (by simp [hy]))
theorem lc_filter {g : TG} {is : List Nat} {tt : TT} {te : TE} {ρ : List Sl} (F : D → List Sl) (B : D → Bool) (G : D → D) : ∀ (xs : List D), (∀ x ∈ xs, Tg K g is ρ (.dat x) (F x) ∧ EvT K tt (F x) (B x) ∧ (B x = true → Ev K te (F x) (.dat (G x)))) → Lc K g is tt te ρ xs ((xs.filter B).map G)
  | [], _ => .nil
  | x :: xs, h => by
    obtain ⟨h1, h2, h3⟩ := h x (by simp)
    have ih := lc_filter F B G xs fun y hy => h y (by simp [hy])
    cases e : B x with
    | true =>
      rw [e] at h2
      rw [List.filter_cons_of_pos e, List.map_cons]
      exact .yes h1 h2 (h3 e) ih
    | false =>
      rw [e] at h2
      rw [List.filter_cons_of_neg (by simp [e])]
      exact .no h1 h2 ih
end

/-! ### data of the program -/
def prD (p : Int × Int) : D := .tup [.int p.1, .int p.2]
def tiersD (ts : List (Int × Int)) : D := .lst (ts.map prD)
abbrev Tariff := List (Int × Int) × List (Int × Int)
def tariffD (t : Tariff) : D := .tup [tiersD t.1, tiersD t.2]
def intsD (ns : List Int) : D := .lst (ns.map .int)

/-! ### is_count .. check_tariff, over any data -/
def isCount (d : D) (a b : Int) : Bool := match d with
  | .int i => decide (a ≤ i) && decide (i ≤ b)
  | _ => false
def R_is_count (rs : List Sl) (res : Sl) : Prop := ∃ d a b, rs = [.dat d, .dat (.int a), .dat (.int b)] ∧ notOb d = true ∧ res = .dat (.bl (isCount d a b))
mutual
def noOb : D → Bool
  | .ob _ => false
  | .lst ds => noObs ds
  | .tup ds => noObs ds
  | _ => true
def noObs : List D → Bool
  | [] => true
  | d :: ds => noOb d && noObs ds
end
theorem noOb_not {d : D} (h : noOb d = true) : notOb d = true := by cases d <;> simp_all [noOb, notOb]
theorem noObs_mem : ∀ {ds : List D}, noObs ds = true → ∀ d ∈ ds, noOb d = true
  | [], _, _, h => by simp at h
  | e :: ds, h, d, hd => by
    rw [noObs, Bool.and_eq_true] at h
    rcases List.mem_cons.mp hd with z | z
    · rw [z]; exact h.1
    · exact noObs_mem h.2 d z
def isTier (d : D) (a b : Int) : Bool := match d with
  | .tup [x, y] => isCount x 0 36 && isCount y a b
  | _ => false
def R_is_tier (rs : List Sl) (res : Sl) : Prop := ∃ d a b, rs = [.dat d, .dat (.int a), .dat (.int b)] ∧ noOb d = true ∧ res = .dat (.bl (isTier d a b))
def firstOf : D → Int
  | .tup (.int i :: _) => i
  | _ => 0
def risingB : List Int → Bool
  | a :: b :: r => decide (a < b) && risingB (b :: r)
  | _ => true
def areTiers (d : D) (a b : Int) : Bool := match d with
  | .lst xs => (decide (1 ≤ (xs.length : Int)) && decide ((xs.length : Int) ≤ 3)) && (xs.all (isTier · a b) && (decide (((xs.map firstOf).getD 0 0) = 0) && risingB (xs.map firstOf)))
  | _ => false
def R_are_tiers (rs : List Sl) (res : Sl) : Prop := ∃ d a b, rs = [.dat d, .dat (.int a), .dat (.int b)] ∧ noOb d = true ∧ res = .dat (.bl (areTiers d a b))
def isTariff (d : D) : Bool := match d with
  | .tup [x, y] => areTiers x 1 60 && areTiers y 0 200
  | _ => false
def R_check_tariff (rs : List Sl) (res : Sl) : Prop := ∃ d, rs = [.dat d] ∧ noOb d = true ∧ isTariff d = true ∧ res = .dat .non
def R_check_count (rs : List Sl) (res : Sl) : Prop := ∃ d, rs = [.dat d] ∧ notOb d = true ∧ isCount d 0 36 = true ∧ res = .dat .non

/-! ### costs -/
/-- the amount of the last tier reached -/
def lastOf (ts : List (Int × Int)) (c : Int) : Option Int := ((ts.filter fun p => decide (p.1 ≤ c)).map (·.2)).getLast?
def R_last_of (rs : List Sl) (res : Sl) : Prop := ∃ ts c v, rs = [.dat (tiersD ts), .dat (.int c)] ∧ ts.length ≤ 1000 ∧ lastOf ts c = some v ∧ res = .dat (.int v)
/-- tiers as they are due -/
structure Tiers (ts : List (Int × Int)) (a b : Int) : Prop where
  least : 1 ≤ ts.length
  most : ts.length ≤ 3
  each : ∀ p ∈ ts, (0 ≤ p.1 ∧ p.1 ≤ 36) ∧ a ≤ p.2 ∧ p.2 ≤ b
  first : (ts.map (·.1)).head? = some 0
  rise : risingB (ts.map (·.1)) = true
structure Tar (t : Tariff) : Prop where
  pr : Tiers t.1 1 60
  ca : Tiers t.2 0 200
def amt (ts : List (Int × Int)) (c : Int) : Int := (lastOf ts c).getD 0
def costOf (t : Tariff) (c : Int) : Int := if c = 0 then 0 else c * amt t.1 c + amt t.2 c
theorem tiers_last {ts : List (Int × Int)} {a b c : Int} (h : Tiers ts a b) (hc : 0 ≤ c) : lastOf ts c = some (amt ts c) ∧ a ≤ amt ts c ∧ amt ts c ≤ b := by
  obtain ⟨p, r, e⟩ : ∃ p r, ts = p :: r := by
    cases ts with
    | nil => have := h.least; simp at this
    | cons p r => exact ⟨p, r, rfl⟩
  have h0 : p.1 = 0 := by have := h.first; rw [e] at this; simpa using this
  have hm : p ∈ ts.filter fun p => decide (p.1 ≤ c) := by
    rw [List.mem_filter]
    exact ⟨by rw [e]; simp, by rw [h0]; simpa using hc⟩
  have hne : (ts.filter fun p => decide (p.1 ≤ c)).map (·.2) ≠ [] := by
    intro z
    rw [List.map_eq_nil_iff] at z
    rw [z] at hm
    simp at hm
  unfold amt lastOf
  rw [List.getLast?_eq_getLast hne]
  refine ⟨rfl, ?_⟩
  have hl := List.getLast_mem hne
  obtain ⟨q, hq, e2⟩ := List.mem_map.mp hl
  have := h.each q (List.mem_filter.mp hq).1
  show a ≤ ((ts.filter fun p => decide (p.1 ≤ c)).map (·.2)).getLast hne ∧ _ ≤ b
  rw [← e2]
  exact this.2
def R_cost_of (rs : List Sl) (res : Sl) : Prop := ∃ t c, rs = [.dat (tariffD t), .dat (.int c)] ∧ Tar t ∧ 0 ≤ c ∧ c ≤ 1000 ∧ res = .dat (.int (costOf t c))
def R_cost (rs : List Sl) (res : Sl) : Prop := ∃ t c, rs = [.dat (tariffD t), .dat (.int c)] ∧ Tar t ∧ 0 ≤ c ∧ c ≤ 36 ∧ res = .dat (.int (costOf t c))
/-- the counts c + 1 .. 36 -/
def above (c : Int) : List Int := (List.range (36 + 1 - (c + 1)).toNat).map fun (i : Nat) => c + 1 + i
def cheaperOf (t : Tariff) (c : Int) : Option Int := (above c).find? fun m => decide (costOf t m < costOf t c)
def optD : Option Int → D
  | some i => .int i
  | none => .non
def R_cheaper (rs : List Sl) (res : Sl) : Prop := ∃ t c, rs = [.dat (tariffD t), .dat (.int c)] ∧ Tar t ∧ 0 ≤ c ∧ c ≤ 36 ∧ res = .dat (optD (cheaperOf t c))

/-! ### valid tariffs pass the checks -/
theorem isTier_pair {p : Int × Int} {a b : Int} (h : (0 ≤ p.1 ∧ p.1 ≤ 36) ∧ a ≤ p.2 ∧ p.2 ≤ b) : isTier (prD p) a b = true := by
  simp [isTier, prD, isCount, h.1.1, h.1.2, h.2.1, h.2.2]
theorem first_pairs (ts : List (Int × Int)) : (ts.map prD).map firstOf = ts.map (·.1) := by
  rw [List.map_map]
  exact List.map_congr_left fun p _ => rfl
theorem areTiers_of {ts : List (Int × Int)} {a b : Int} (h : Tiers ts a b) : areTiers (tiersD ts) a b = true := by
  have h1 := h.least
  have h2 := h.most
  have h4 : ((ts.map prD).map firstOf).getD 0 0 = 0 := by
    rw [first_pairs]
    have := h.first
    cases ts with
    | nil => rfl
    | cons p r => simpa using this
  show ((decide (1 ≤ ((ts.map prD).length : Int)) && decide (((ts.map prD).length : Int) ≤ 3)) && ((ts.map prD).all (isTier · a b) && (decide ((((ts.map prD).map firstOf).getD 0 0) = 0) && risingB ((ts.map prD).map firstOf)))) = true
  rw [h4, first_pairs, h.rise, List.length_map, decide_eq_true (show (1 : Int) ≤ ts.length by omega), decide_eq_true (show (ts.length : Int) ≤ 3 by omega)]
  have : (ts.map prD).all (isTier · a b) = true := by
    rw [List.all_map, List.all_eq_true]
    exact fun p hp => isTier_pair (h.each p hp)
  rw [this]
  rfl
theorem isTariff_of {t : Tariff} (h : Tar t) : isTariff (tariffD t) = true := by
  show (areTiers (tiersD t.1) 1 60 && areTiers (tiersD t.2) 0 200) = true
  rw [areTiers_of h.pr, areTiers_of h.ca]
  rfl
theorem noOb_pairs : ∀ ts : List (Int × Int), noObs (ts.map prD) = true
  | [] => rfl
  | p :: r => by
    rw [List.map_cons, noObs, noOb_pairs r]
    rfl
theorem noOb_tiers (ts : List (Int × Int)) : noOb (tiersD ts) = true := by
  unfold tiersD
  rw [noOb]
  exact noOb_pairs ts
theorem noOb_tariff (t : Tariff) : noOb (tariffD t) = true := by
  unfold tariffD
  rw [noOb, noObs, noObs, noObs, noOb_tiers, noOb_tiers]
  rfl
end GC

namespace GC
open PySem PySem.Spec PyProof.Rows L2 DL
open Evl (Ex)
section
variable {K : PySem.W.Frag}
theorem lc_pairs {g : TG} {is : List Nat} {tt : TT} {te : TE} {ρ : List Sl} {F : Int × Int → List Sl} {B : Int × Int → Bool} {G : Int × Int → D} : ∀ {ts : List (Int × Int)}, (∀ p ∈ ts, Tg K g is ρ (.dat (prD p)) (F p) ∧ EvT K tt (F p) (B p) ∧ (B p = true → Ev K te (F p) (.dat (G p)))) → Lc K g is tt te ρ (ts.map prD) ((ts.filter B).map G)
  | [], _ => .nil
  | x :: xs, h => by
    obtain ⟨h1, h2, h3⟩ := h x (by simp)
    have ih := lc_pairs (F := F) (B := B) (G := G) (ts := xs) fun y hy => h y (by simp [hy])
    cases e : B x with
    | true =>
      rw [e] at h2
      rw [List.filter_cons_of_pos e, List.map_cons]
      exact .yes h1 h2 (h3 e) ih
    | false =>
      rw [e] at h2
      rw [List.filter_cons_of_neg (by simp [e])]
      exact .no h1 h2 ih
end
theorem atI_last' {α : Type} {l : List α} {x : α} (h : l.getLast? = some x) : atI l (-1) = some x := by
  have hne : l ≠ [] := by intro z; rw [z] at h; simp at h
  have e : l = l.dropLast ++ [x] := by
    rw [List.getLast?_eq_getLast hne] at h
    have := List.dropLast_concat_getLast hne
    rw [Option.some.inj h] at this
    exact this.symm
  rw [e]
  exact atI_last _ _
theorem last_at {ts : List (Int × Int)} {c v : Int} (h : lastOf ts c = some v) : atI ((ts.filter fun p => decide (p.1 ≤ c)).map fun p => D.int p.2) (-1) = some (.int v) := by
  refine atI_last' ?_
  unfold lastOf at h
  have e : ((ts.filter fun p => decide (p.1 ≤ c)).map fun p => D.int p.2) = ((ts.filter fun p => decide (p.1 ≤ c)).map (·.2)).map D.int := by rw [List.map_map]; rfl
  rw [e, List.getLast?_map, h]
  rfl
/-! ### the law's draws -/
def cellAt (ns : List Int) (k : Int) : Int := ns.getD k.toNat 0
def R_law_cell_at (rs : List Sl) (res : Sl) : Prop := ∃ ns k, rs = [.dat (intsD ns), .dat (.int k)] ∧ 0 ≤ k ∧ res = .dat (.int (cellAt ns k))
theorem cell_ix {ns : List Int} {k : Int} (h0 : 0 ≤ k) (hk : k < (ns.length : Int)) : atI (ns.map D.int) k = some (.int (cellAt ns k)) := by
  obtain ⟨j, rfl⟩ := Int.eq_ofNat_of_zero_le h0
  have hj : j < ns.length := by omega
  refine atI_nat ?_
  rw [List.getElem?_map, List.getElem?_eq_getElem hj]
  unfold cellAt
  rw [Int.toNat_natCast, List.getD_eq_getElem?_getD, List.getElem?_eq_getElem hj]
  rfl
theorem cell_out {ns : List Int} {k : Int} (hk : ¬ k < (ns.length : Int)) : cellAt ns k = 0 := by
  unfold cellAt
  rw [List.getD_eq_getElem?_getD, List.getElem?_eq_none (by omega)]
  rfl
def primes : List Int := [1000003, 1000033, 1000037, 1000039, 1000081, 1000099, 1000117, 1000121, 1000133, 1000151, 1000159, 1000171, 1000183, 1000187, 1000193, 1000199]
def drawOf (c k m : Int) : Int := (c * 48271 + k * 69621) % (primes.getD (k % 16).toNat 1) % m
def R_law_draw (rs : List Sl) (res : Sl) : Prop := ∃ c k m, rs = [.dat (.int c), .dat (.int k), .dat (.int m)] ∧ 0 ≤ k ∧ k ≤ 1000 ∧ 0 < m ∧ res = .dat (.int (drawOf c k m))
theorem prime_at {k : Int} (hk : 0 ≤ k) : atI (primes.map D.int) (k % 16) = some (.int (primes.getD (k % 16).toNat 1)) ∧ 0 < primes.getD (k % 16).toNat 1 := by
  have h0 := Int.emod_nonneg k (show (16 : Int) ≠ 0 by decide)
  have h1 := Int.emod_lt_of_pos k (show (0 : Int) < 16 by decide)
  obtain ⟨j, e⟩ := Int.eq_ofNat_of_zero_le h0
  rw [e] at h1 ⊢
  have hj : j < 16 := by omega
  rw [Int.toNat_natCast]
  constructor
  · refine atI_nat ?_
    rw [List.getElem?_map, List.getElem?_eq_getElem (show j < primes.length from hj), List.getD_eq_getElem?_getD, List.getElem?_eq_getElem (show j < primes.length from hj)]
    rfl
  · have : ∀ j < 16, 0 < primes.getD j 1 := by decide
    exact this j hj
def isWhole (d : D) : Bool := isInt d && !isBool d
def R_law_whole (rs : List Sl) (res : Sl) : Prop := ∃ d, rs = [.dat d] ∧ notOb d = true ∧ res = .dat (.bl (isWhole d))
def R_law_amount (rs : List Sl) (res : Sl) : Prop := ∃ ts c, rs = [.dat (tiersD ts), .dat (.int c)] ∧ ts.length ≤ 1000 ∧ res = .dat (.int (amt ts c))
theorem amount_find (ts : List (Int × Int)) (c : Int) : amt ts c = ((ts.reverse.find? fun p => decide (p.1 ≤ c)).map (·.2)).getD 0 := by
  unfold amt lastOf
  rw [List.getLast?_map, List.getLast?_filter]
end GC

namespace GC
open PySem PySem.Spec PyProof.Rows L2 DL
open Evl (Ex)
theorem isTier_len {ds : List D} {a b : Int} (h : ds.length ≠ 2) : isTier (.tup ds) a b = false := by
  match ds, h with
  | [], _ => rfl
  | [_], _ => rfl
  | [_, _], h => exact absurd rfl h
  | _ :: _ :: _ :: _, _ => rfl
def R_law_cost (rs : List Sl) (res : Sl) : Prop := ∃ t c, rs = [.dat (tariffD t), .dat (.int c)] ∧ (t.1.length ≤ 1000 ∧ t.2.length ≤ 1000) ∧ 0 ≤ c ∧ c ≤ 1000 ∧ res = .dat (.int (costOf t c))
def valueOf (c t : Int) : Int := if (10 : Int) ^ 18 ≤ c then (c - 10 ^ 18) % 10 ^ 40 / 2 ^ (3 * t).toNat
  else drawOf ((c + 977 * t) * (c + 31 * t + 5)) (t % 9 + 1) 999983 * 1000003 + drawOf ((c + 31 * t) * (c + 7) + 977 * t) (t % 7 + 2) 1000003
def R_law_value (rs : List Sl) (res : Sl) : Prop := ∃ c t n, rs = [.dat (.int c), .dat (.int t)] ∧ c.natAbs < 2 ^ n ∧ n ≤ 10000000 ∧ 0 ≤ t ∧ t ≤ 1000 ∧ res = .dat (.int (valueOf c t))
theorem drawOf_nn (c k m : Int) (h : 0 < m) : 0 ≤ drawOf c k m := Int.emod_nonneg _ (by omega)
theorem valueOf_nn (c t : Int) : 0 ≤ valueOf c t := by
  unfold valueOf
  split
  · exact Int.ediv_nonneg (Int.emod_nonneg _ (by decide)) (Int.le_of_lt (Int.pow_pos (by decide)))
  · have h1 := drawOf_nn ((c + 977 * t) * (c + 31 * t + 5)) (t % 9 + 1) 999983 (by decide)
    have h2 := drawOf_nn ((c + 31 * t) * (c + 7) + 977 * t) (t % 7 + 2) 1000003 (by decide)
    omega
theorem pow_more {x y n : Nat} (hx : x < 2 ^ n) (hy : y < 2 ^ 20) : x + y < 2 ^ (n + 21) := by
  have h1 : 2 ^ (n + 21) = 2 ^ n * 2 ^ 21 := Nat.pow_add 2 n 21
  have h2 : 0 < 2 ^ n := Nat.pow_pos (by decide)
  rw [h1]
  have e21 : (2 : Nat) ^ 21 = 2097152 := by decide
  have e20 : (2 : Nat) ^ 20 = 1048576 := by decide
  rw [e21]
  rw [e20] at hy
  generalize (2 : Nat) ^ n = m at hx h2 ⊢
  omega
theorem abs_more {c k : Int} {n : Nat} (hc : c.natAbs < 2 ^ n) (hk : k.natAbs < 2 ^ 20) : (c + k).natAbs < 2 ^ (n + 21) :=
  Nat.lt_of_le_of_lt (Int.natAbs_add_le c k) (pow_more hc hk)
theorem value_mul1 {c t : Int} {n : Nat} (hc : c.natAbs < 2 ^ n) (hn : n ≤ 10000000) (h0 : 0 ≤ t) (h1 : t ≤ 1000) : CMulX (c + 977 * t) (c + 31 * t + 5) := by
  have e20 : (2 : Nat) ^ 20 = 1048576 := by decide
  have a := abs_more (k := 977 * t) hc (by rw [e20]; omega)
  have b := abs_more (k := 31 * t + 5) hc (by rw [e20]; omega)
  rw [← Int.add_assoc] at b
  exact mulx_ok a b (by omega)
theorem value_mul2 {c t : Int} {n : Nat} (hc : c.natAbs < 2 ^ n) (hn : n ≤ 10000000) (h0 : 0 ≤ t) (h1 : t ≤ 1000) : CMulX (c + 31 * t) (c + 7) := by
  have e20 : (2 : Nat) ^ 20 = 1048576 := by decide
  have a := abs_more (k := 31 * t) hc (by rw [e20]; omega)
  have b := abs_more (k := 7) hc (by rw [e20]; omega)
  exact mulx_ok a b (by omega)
end GC

namespace GC
open PySem PySem.Spec PyProof.Rows L2 DL
open Evl (Ex)
section
variable {K : PySem.W.Frag} {g : TG} {is : List Nat} {tt : TT} {te : TE} {ρ : List Sl}
theorem lc_of {α : Type} {A : α → D} {F : α → List Sl} {G : α → D} : ∀ {l : List α}, (∀ a ∈ l, Tg K g is ρ (.dat (A a)) (F a) ∧ Ev K te (F a) (.dat (G a))) → Lc K g is tYes te ρ (l.map A) (l.map G)
  | [], _ => .nil
  | x :: xs, h => .yes (h x (by simp)).1 et_yes (h x (by simp)).2 (lc_of (F := F) fun y hy => h y (by simp [hy]))
theorem lc_ofF {α : Type} {A : α → D} {F : α → List Sl} {B : α → Bool} {G : α → D} : ∀ {l : List α}, (∀ a ∈ l, Tg K g is ρ (.dat (A a)) (F a) ∧ EvT K tt (F a) (B a) ∧ (B a = true → Ev K te (F a) (.dat (G a)))) → Lc K g is tt te ρ (l.map A) ((l.filter B).map G)
  | [], _ => .nil
  | x :: xs, h => by
    obtain ⟨h1, h2, h3⟩ := h x (by simp)
    have ih := lc_ofF (A := A) (F := F) (B := B) (G := G) (l := xs) fun y hy => h y (by simp [hy])
    cases e : B x with
    | true =>
      rw [e] at h2
      rw [List.filter_cons_of_pos e, List.map_cons, List.map_cons]
      exact .yes h1 h2 (h3 e) ih
    | false =>
      rw [e] at h2
      rw [List.filter_cons_of_neg (by simp [e]), List.map_cons]
      exact .no h1 h2 ih
theorem ev_firstOf {x : D} (h : Ev K te ρ (.dat x)) (hx : ∃ p y, x = .tup [.int p, y]) : Ev K (tOp (rIx K) te (tC (.int 0))) ρ (.dat (.int (firstOf x))) := by
  obtain ⟨p, y, rfl⟩ := hx
  exact ev_ixT h ev_int rfl
end
theorem isCount_is {x : D} {a b : Int} (h : isCount x a b = true) : ∃ i, x = .int i ∧ a ≤ i ∧ i ≤ b := by
  cases x with
  | int i =>
    have h' : (decide (a ≤ i) && decide (i ≤ b)) = true := h
    rw [Bool.and_eq_true, decide_eq_true_eq, decide_eq_true_eq] at h'
    exact ⟨i, rfl, h'⟩
  | _ => cases h
theorem isCount_of {i a b : Int} (h : a ≤ i) (h2 : i ≤ b) : isCount (.int i) a b = true := by
  show (decide (a ≤ i) && decide (i ≤ b)) = true
  rw [decide_eq_true h, decide_eq_true h2]
  rfl
theorem isTier_is2 {x : D} {a b : Int} (h : isTier x a b = true) : ∃ p q, x = .tup [.int p, .int q] ∧ (0 ≤ p ∧ p ≤ 36) ∧ a ≤ q ∧ q ≤ b := by
  match x, h with
  | .tup [x, y], h =>
    have h' : (isCount x 0 36 && isCount y a b) = true := h
    rw [Bool.and_eq_true] at h'
    obtain ⟨p, rfl, hp⟩ := isCount_is h'.1
    obtain ⟨q, rfl, hq⟩ := isCount_is h'.2
    exact ⟨p, q, rfl, hp, hq⟩
theorem isTier_is {x : D} {a b : Int} (h : isTier x a b = true) : ∃ p y, x = .tup [.int p, y] := by
  obtain ⟨p, q, e, _⟩ := isTier_is2 h
  exact ⟨p, _, e⟩
theorem isTariff_is {d : D} (h : isTariff d = true) : ∃ x y, d = .tup [x, y] ∧ areTiers x 1 60 = true ∧ areTiers y 0 200 = true := by
  match d, h with
  | .tup [x, y], h =>
    have h' : (areTiers x 1 60 && areTiers y 0 200) = true := h
    rw [Bool.and_eq_true] at h'
    exact ⟨x, y, rfl, h'⟩
theorem all_id {α : Type} (f : α → Bool) (xs : List α) : (xs.map f).all id = xs.all f := by
  rw [List.all_map]
  rfl
theorem any_id {α : Type} (f : α → Bool) (xs : List α) : (xs.map f).any id = xs.any f := by
  rw [List.any_map]
  rfl
def pairsOf {α : Type} (xs : List α) : List (α × α) := xs.zip (xs.drop 1)
theorem pairsOf_len {α : Type} (xs : List α) : (pairsOf xs).length ≤ xs.length := by
  unfold pairsOf
  rw [List.length_zip]
  omega
theorem cutD_1 (xs : List D) : DL.cutD xs (some 1) none = xs.drop 1 := by
  unfold DL.cutD
  rw [show HT.sIx xs.length 0 (some 1) = min 1 xs.length from HT.sIx_nat xs.length 0 1, HT.sIx_none]
  cases xs with
  | nil => rfl
  | cons x r =>
    rw [show min 1 (x :: r).length = 1 by rw [List.length_cons]; omega]
    show (List.take ((x :: r).length - 1) r) = r
    rw [List.length_cons, Nat.add_sub_cancel]
    exact List.take_length
theorem lc_zip {K : PySem.W.Frag} {g : TG} {is : List Nat} {te : TE} {ρ : List Sl} {F : D × D → List Sl} {a b : Int} {xs : List D} (h3 : xs.all (isTier · a b) = true)
    (h : ∀ q : D × D, (∃ p y, q.1 = .tup [.int p, y]) → (∃ p y, q.2 = .tup [.int p, y]) → Tg K g is ρ (.dat (.tup [q.1, q.2])) (F q) ∧ Ev K te (F q) (.dat (.bl (decide (firstOf q.1 < firstOf q.2))))) :
    Lc K g is tYes te ρ ((xs.zip (xs.drop 1)).map fun p => .tup [p.1, p.2]) (((pairsOf xs).map fun q => decide (firstOf q.1 < firstOf q.2)).map .bl) := by
  rw [List.map_map]
  refine lc_of (F := F) fun q hq => ?_
  have hm := List.of_mem_zip (show (q.1, q.2) ∈ xs.zip (xs.drop 1) from hq)
  rw [List.all_eq_true] at h3
  exact h q (isTier_is (h3 _ hm.1)) (isTier_is (h3 _ (List.mem_of_mem_drop hm.2)))
theorem rising_pairs : ∀ xs : List D, (pairsOf xs).all (fun q => decide (firstOf q.1 < firstOf q.2)) = risingB (xs.map firstOf)
  | [] => rfl
  | [_] => rfl
  | a :: b :: r => by
    have ih := rising_pairs (b :: r)
    show (decide (firstOf a < firstOf b) && (pairsOf (b :: r)).all (fun q => decide (firstOf q.1 < firstOf q.2))) = (decide (firstOf a < firstOf b) && risingB ((b :: r).map firstOf))
    rw [ih]
theorem above_range (c : Int) : (above c).map D.int = rangeD (c + 1) (36 + 1 - (c + 1)).toNat := by
  unfold above rangeD
  rw [List.map_map]
  rfl
theorem above_bound {c : Int} (h0 : 0 ≤ c) (h1 : c ≤ 36) : ∀ m ∈ above c, 0 ≤ m ∧ m ≤ 1000 := fun m hm => by
  unfold above at hm
  obtain ⟨i, hi, rfl⟩ := List.mem_map.mp hm
  rw [List.mem_range] at hi
  omega
/-! ### drawn tiers -/
theorem risingB_iff : ∀ l : List Int, risingB l = true ↔ l.Pairwise (· < ·)
  | [] => by simp [risingB]
  | [a] => by simp [risingB]
  | a :: b :: r => by
    have ih := risingB_iff (b :: r)
    show (decide (a < b) && risingB (b :: r)) = true ↔ _
    rw [Bool.and_eq_true, decide_eq_true_eq, ih, List.pairwise_cons (a := a)]
    constructor
    · rintro ⟨h1, h2⟩
      refine ⟨fun x hx => ?_, h2⟩
      rcases List.mem_cons.mp hx with e | e
      · rw [e]; exact h1
      · exact Int.lt_trans h1 ((List.pairwise_cons.mp h2).1 x e)
    · rintro ⟨h1, h2⟩
      exact ⟨h1 b (by simp), h2⟩
def numberOf (ns : List Int) (by_ at_ : Int) : Int := valueOf (cellAt ns (by_ + at_ % 3) + 17 * at_) (4 + at_) / 3
def wideOf (v : Int) : Int := ([3, 6, 18, 4] : List Int).getD (v / 1000 % 4).toNat 1
def countNext (v count num : Int) : Int := count + 1 + num % wideOf v
def amountNext (fal : Bool) (least most amount num : Int) : Int :=
  if fal && decide (amount < least + num / 12 % (most - least + 1)) then least + (amount - least) / (2 + num / 2000 % 3) else least + num / 12 % (most - least + 1)
def tiersGo (ns : List Int) (by_ least most : Int) (fal : Bool) (v : Int) : List Int → List (Int × Int) → Int → Int → List (Int × Int)
  | [], found, _, _ => found
  | a :: r, found, count, amount =>
    if 36 < countNext v count (numberOf ns by_ a) then found ++ [(count, amount)]
    else tiersGo ns by_ least most fal v r (found ++ [(count, amount)]) (countNext v count (numberOf ns by_ a)) (amountNext fal least most amount (numberOf ns by_ a))
def natsI (n : Nat) : List Int := (List.range n).map fun (i : Nat) => (i : Int)
theorem natsI_range (n : Nat) : (natsI n).map D.int = rangeD 0 n := by
  unfold natsI rangeD
  rw [List.map_map]
  refine List.map_congr_left fun i _ => ?_
  show D.int (i : Int) = D.int (0 + (i : Int))
  rw [Int.zero_add]
def tiersOf (ns : List Int) (by_ least most : Int) (fal : Bool) : List (Int × Int) :=
  tiersGo ns by_ least most fal (valueOf (cellAt ns by_) 3) (natsI (1 + valueOf (cellAt ns by_) 3 % 3).toNat) [] 0 (least + valueOf (cellAt ns by_) 3 / 5 % (most - least + 1))
theorem wideOf_pos (v : Int) : 1 ≤ wideOf v ∧ wideOf v ≤ 18 ∧ atI ([D.int 3, .int 6, .int 18, .int 4]) (v / 1000 % 4) = some (.int (wideOf v)) := by
  have h0 := Int.emod_nonneg (v / 1000) (show (4 : Int) ≠ 0 by decide)
  have h1 := Int.emod_lt_of_pos (v / 1000) (show (0 : Int) < 4 by decide)
  unfold wideOf
  generalize v / 1000 % 4 = m at h0 h1 ⊢
  have h : m = 0 ∨ m = 1 ∨ m = 2 ∨ m = 3 := by omega
  rcases h with rfl | rfl | rfl | rfl <;> exact ⟨by decide, by decide, rfl⟩
theorem amountNext_in {fal : Bool} {least most amount num : Int} (h : least ≤ amount) (h2 : amount ≤ most) : least ≤ amountNext fal least most amount num ∧ amountNext fal least most amount num ≤ most := by
  unfold amountNext
  split
  · have d0 : 0 ≤ num / 2000 % 3 := Int.emod_nonneg _ (by decide)
    have e1 : 0 ≤ (amount - least) / (2 + num / 2000 % 3) := Int.ediv_nonneg (by omega) (by omega)
    have e2 : (amount - least) / (2 + num / 2000 % 3) ≤ amount - least := Int.ediv_le_self _ (by omega)
    omega
  · have d0 : 0 ≤ num / 12 % (most - least + 1) := Int.emod_nonneg _ (by omega)
    have d1 : num / 12 % (most - least + 1) < most - least + 1 := Int.emod_lt_of_pos _ (by omega)
    omega
structure Found (found : List (Int × Int)) (count a b : Int) : Prop where
  each : ∀ p ∈ found, (0 ≤ p.1 ∧ p.1 ≤ 36) ∧ a ≤ p.2 ∧ p.2 ≤ b
  rise : (found.map (·.1) ++ [count]).Pairwise (· < ·)
  first : (found.map (·.1) ++ [count]).head? = some 0
theorem Found.more {found : List (Int × Int)} {count a b c' amount : Int} (h : Found found count a b) (h0 : 0 ≤ count) (h1 : count ≤ 36) (ha : a ≤ amount) (hb : amount ≤ b) (hc : count < c') : Found (found ++ [(count, amount)]) c' a b := by
  refine ⟨fun p hp => ?_, ?_, ?_⟩
  · rcases List.mem_append.mp hp with z | z
    · exact h.each p z
    · rw [List.mem_singleton.mp z]
      exact ⟨⟨h0, h1⟩, ha, hb⟩
  · rw [List.map_append, List.pairwise_append]
    refine ⟨h.rise, by simp, fun x hx y hy => ?_⟩
    rw [List.mem_singleton.mp hy]
    have hr := List.pairwise_append.mp h.rise
    rcases List.mem_append.mp hx with z | z
    · exact Int.lt_trans (hr.2.2 x z count (by simp)) hc
    · have : x = count := by simpa using z
      omega
  · have := h.first
    rw [List.map_append]
    cases hf : found.map (·.1) ++ [count] with
    | nil => simp at hf
    | cons x r =>
      rw [hf] at this
      show ((found.map (·.1) ++ [count]) ++ [c']).head? = some 0
      rw [hf]
      exact this
theorem tiersGo_ok {ns : List Int} {by_ least most : Int} {fal : Bool} {v : Int} : ∀ (l : List Int) (found : List (Int × Int)) (count amount : Int), Found found count least most → 0 ≤ count → count ≤ 36 → least ≤ amount → amount ≤ most → (∀ a ∈ l, 0 ≤ numberOf ns by_ a) →
    found.length + l.length ≤ 3 → (found ≠ [] ∨ l ≠ []) → Tiers (tiersGo ns by_ least most fal v l found count amount) least most
  | [], found, count, amount, h, h0, h1, ha, hb, hn, hl, hne => by
    have hne : found ≠ [] := by simpa using hne
    have hlen : 1 ≤ found.length := by
      cases found with
      | nil => exact absurd rfl hne
      | cons x r => simp
    show Tiers found least most
    refine ⟨hlen, by simpa using hl, h.each, ?_, ?_⟩
    · have := h.first
      cases found with
      | nil => exact absurd rfl hne
      | cons x r => simpa using this
    · rw [risingB_iff]
      exact (List.pairwise_append.mp h.rise).1
  | a :: r, found, count, amount, h, h0, h1, ha, hb, hn, hl, hne => by
    have hw := wideOf_pos v
    have hnum := hn a (by simp)
    have hc : count < countNext v count (numberOf ns by_ a) := by
      unfold countNext
      have := Int.emod_nonneg (numberOf ns by_ a) (show wideOf v ≠ 0 by omega)
      omega
    have hm := h.more h0 h1 ha hb hc
    unfold tiersGo
    split
    · refine ⟨by simp, by rw [List.length_append]; simp at hl ⊢; omega, hm.each, ?_, ?_⟩
      · have := hm.first
        rw [List.map_append] at this ⊢
        cases found with
        | nil => simpa using this
        | cons x r => simpa using this
      · rw [risingB_iff]
        exact (List.pairwise_append.mp hm.rise).1
    · rename_i hgt
      have hr := amountNext_in (fal := fal) (num := numberOf ns by_ a) ha hb
      refine tiersGo_ok r _ _ _ hm (by omega) (by omega) hr.1 hr.2 (fun x hx => hn x (by simp [hx])) (by simp at hl ⊢; omega) (.inl (by simp))
theorem numberOf_nn (ns : List Int) (b a : Int) : 0 ≤ numberOf ns b a := Int.ediv_nonneg (valueOf_nn _ _) (by decide)
theorem tiersOf_ok (ns : List Int) (by_ : Int) {least most : Int} (fal : Bool) (h : least ≤ most) : Tiers (tiersOf ns by_ least most fal) least most := by
  have d0 : 0 ≤ valueOf (cellAt ns by_) 3 / 5 % (most - least + 1) := Int.emod_nonneg _ (by omega)
  have d1 : valueOf (cellAt ns by_) 3 / 5 % (most - least + 1) < most - least + 1 := Int.emod_lt_of_pos _ (by omega)
  have e0 : 0 ≤ valueOf (cellAt ns by_) 3 % 3 := Int.emod_nonneg _ (by decide)
  have e1 : valueOf (cellAt ns by_) 3 % 3 < 3 := Int.emod_lt_of_pos _ (by decide)
  unfold tiersOf
  refine tiersGo_ok _ _ _ _ ⟨by simp, by simp, by simp⟩ (by decide) (by decide) (by omega) (by omega) (fun a _ => numberOf_nn ns by_ a) ?_ (.inr ?_)
  · simp [natsI]
    omega
  · simp [natsI]
    omega
/-- cells of a script that the draws take -/
def Cells (ns : List Int) : Prop := ∃ n, n ≤ 2000000 ∧ ∀ c ∈ ns, c.natAbs < 2 ^ n
theorem Cells.at {ns : List Int} (h : Cells ns) (k : Int) : ∃ n, n ≤ 2000000 ∧ (cellAt ns k).natAbs < 2 ^ n := by
  obtain ⟨n, h1, h2⟩ := h
  refine ⟨n, h1, ?_⟩
  unfold cellAt
  rw [List.getD_eq_getElem?_getD]
  cases e : ns[k.toNat]? with
  | none => exact Nat.pow_pos (by decide)
  | some c => exact h2 c (List.mem_of_getElem? e)
theorem Cells.more {ns : List Int} (h : Cells ns) (k j : Int) (hj : j.natAbs < 2 ^ 20) : ∃ n, n ≤ 10000000 ∧ (cellAt ns k + j).natAbs < 2 ^ n := by
  obtain ⟨n, h1, h2⟩ := h.at k
  exact ⟨n + 21, by omega, abs_more h2 hj⟩
def R_law_tiers (rs : List Sl) (res : Sl) : Prop := ∃ ns b least most fal, rs = [.dat (intsD ns), .dat (.int b), .dat (.int least), .dat (.int most), .dat (.bl fal)] ∧ Cells ns ∧ 0 ≤ b ∧ b ≤ 1000 ∧ 0 ≤ least ∧ least ≤ most ∧ most ≤ 1000 ∧ res = .own ((tiersOf ns b least most fal).map prD)
def kindOf' (ns : List Int) (b : Int) : Int := valueOf (cellAt ns b) 2 % 4
def mostOf (k : Int) : Int := ([200, 30, 200, 9] : List Int).getD k.toNat 0
def tariffOf (ns : List Int) (b : Int) : Tariff := (tiersOf ns b 1 60 (decide (0 < kindOf' ns b)), tiersOf ns (b + 1) 0 (mostOf (kindOf' ns b)) (decide (kindOf' ns b = 2)))
theorem mostOf_ok {k : Int} (h0 : 0 ≤ k) (h1 : k < 4) : 0 ≤ mostOf k ∧ mostOf k ≤ 200 ∧ atI ([D.int 200, .int 30, .int 200, .int 9]) k = some (.int (mostOf k)) := by
  have h : k = 0 ∨ k = 1 ∨ k = 2 ∨ k = 3 := by omega
  unfold mostOf
  rcases h with rfl | rfl | rfl | rfl <;> exact ⟨by decide, by decide, rfl⟩
theorem kind_in (ns : List Int) (b : Int) : 0 ≤ kindOf' ns b ∧ kindOf' ns b < 4 := ⟨Int.emod_nonneg _ (by decide), Int.emod_lt_of_pos _ (by decide)⟩
theorem Tiers.wider {ts : List (Int × Int)} {a b c : Int} (h : Tiers ts a b) (hb : b ≤ c) : Tiers ts a c := ⟨h.least, h.most, fun p hp => ⟨(h.each p hp).1, (h.each p hp).2.1, Int.le_trans (h.each p hp).2.2 hb⟩, h.first, h.rise⟩
theorem tariffOf_ok (ns : List Int) (b : Int) : Tar (tariffOf ns b) := by
  have hk := kind_in ns b
  have hm := mostOf_ok hk.1 hk.2
  exact ⟨tiersOf_ok ns b _ (by decide), (tiersOf_ok ns (b + 1) _ hm.1).wider hm.2.1⟩
def R_law_tariff (rs : List Sl) (res : Sl) : Prop := ∃ ns b, rs = [.dat (intsD ns), .dat (.int b)] ∧ Cells ns ∧ 0 ≤ b ∧ b ≤ 900 ∧ res = .dat (tariffD (tariffOf ns b))
end GC

namespace GC
open PySem PySem.Spec PyProof.Rows L2 DL
open Evl (Ex)
/-! ### a tariff whose lists are owned -/
def tarO (t : Tariff) : O := .tup [.lst ((t.1.map prD).map O.dat), .lst ((t.2.map prD).map O.dat)]
theorem tarO_toD (t : Tariff) : (tarO t).toD = tariffD t := by
  show D.tup [.lst (O.toDs ((t.1.map prD).map O.dat)), .lst (O.toDs ((t.2.map prD).map O.dat))] = _
  rw [toDs_dat, toDs_dat]
  rfl
section
variable {K : PySem.W.Frag} {ρ : List Sl} {te : TE} {tt : TT} {res : Sl} {b : Bool} {t : Tariff} {i : Nat}
theorem evt_tar (hi : ρ[i]? = some (.ow (tarO t))) (h : EvT K tt (ρ.set i (.dat (tariffD t))) b) : EvT K tt ρ b := EvT.borrowO hi (by rw [tarO_toD]; exact h)
theorem ev_tar (hi : ρ[i]? = some (.ow (tarO t))) (f : flatS res = true) (h : Ev K te (ρ.set i (.dat (tariffD t))) res) : Ev K te ρ res := Ev.borrowO hi f (by rw [tarO_toD]; exact h)
end
theorem mem_natsI {n : Nat} {c : Int} (h : c ∈ natsI n) : 0 ≤ c ∧ c < n := by
  unfold natsI at h
  obtain ⟨i, hi, rfl⟩ := List.mem_map.mp h
  rw [List.mem_range] at hi
  omega
theorem natsI_get {n i : Nat} (h : i < n) : (natsI n)[i]? = some (i : Int) := by
  unfold natsI
  rw [List.getElem?_map, List.getElem?_range h]
  rfl
theorem src_natsI {K : PySem.W.Frag} {ρ : List Sl} {te : TE} {n : Int} (h : Ev K te ρ (.dat (.int n))) (h1 : 0 ≤ n) (h2 : n < 2 ^ 62) : Src K (iRng1 (tCons te tNil)) ρ ((natsI n.toNat).map D.int) := by
  rw [natsI_range]
  exact src_range1 (ea_cons h ea_nil) (by omega) h2
def dueOf (t : Tariff) : List Int := (natsI 37).map (costOf t)
theorem due_at {t : Tariff} {c : Int} (h0 : 0 ≤ c) (h1 : c ≤ 36) : atI ((dueOf t).map D.int) c = some (.int (costOf t c)) := by
  obtain ⟨j, rfl⟩ := Int.eq_ofNat_of_zero_le h0
  refine atI_nat ?_
  unfold dueOf
  rw [List.getElem?_map, List.getElem?_map, natsI_get (by omega)]
  rfl
theorem okn_pr {n : Nat} (p : Int × Int) : Okn (n + 1) (prD p) := okn_tup fun d hd => by
  rcases List.mem_cons.mp hd with rfl | hd
  · exact okn_int _
  · rw [List.mem_singleton.mp hd]
    exact okn_int _
theorem okn_tiers {n : Nat} (ts : List (Int × Int)) : Okn (n + 2) (tiersD ts) := okn_lst fun d hd => by
  obtain ⟨p, _, rfl⟩ := List.mem_map.mp hd
  exact okn_pr p
theorem okn_tariff (t : Tariff) : Okn 3 (tariffD t) := okn_tup fun d hd => by
  rcases List.mem_cons.mp hd with rfl | hd
  · exact okn_tiers _
  · rw [List.mem_singleton.mp hd]
    exact okn_tiers _
theorem ok_ints (ns : List Int) : (intsD ns).okEq = true := (okn_ints (n := 0) ns).ok (by decide)
theorem ok_tariff (t : Tariff) : (tariffD t).okEq = true := (okn_tariff t).ok (by decide)
theorem ok_opt (o : Option Int) : (optD o).okEq = true := by
  cases o with
  | none => exact (okn_non (n := 0)).ok (by decide)
  | some i => exact (okn_int (n := 0) i).ok (by decide)
/-- the greater counts that cost less, by the costs as told -/
def moreOf (t : Tariff) (c : Int) : List Int := (above c).filter fun m => decide (costOf t m < costOf t c)
theorem cheaper_more (t : Tariff) (c : Int) : cheaperOf t c = (moreOf t c).head? := by
  unfold cheaperOf moreOf
  rw [List.head?_filter]
theorem whole_opt {o : Option Int} {i : Int} (h : o = some i) : isWhole (optD o) = true := by
  subst h
  rfl
/-- the tariff with its first price turned about and its last carriage 7 -/
def turned (t : Tariff) : Tariff := (t.1.set 0 (0, 61 - (t.1.getD 0 (0, 0)).2), t.2.set (t.2.length - 1) ((t.2.getD (t.2.length - 1) (0, 0)).1, 7))
theorem risingB_set {ts : List (Int × Int)} {k : Nat} {p : Int × Int} (h : ∀ q, ts[k]? = some q → p.1 = q.1) : (ts.set k p).map (·.1) = ts.map (·.1) := by
  refine List.ext_getElem? fun i => ?_
  rw [List.getElem?_map, List.getElem?_map]
  by_cases e : k = i
  · subst e
    by_cases hk : k < ts.length
    · rw [List.getElem?_set_self hk, List.getElem?_eq_getElem hk]
      show some p.1 = some ts[k].1
      rw [h _ (List.getElem?_eq_getElem hk)]
    · rw [List.getElem?_eq_none (by simpa using hk), List.getElem?_eq_none (by omega)]
  · rw [List.getElem?_set_ne e]
theorem Tiers.set {ts : List (Int × Int)} {a b : Int} {k : Nat} {p : Int × Int} (h : Tiers ts a b) (hp : ∀ q, ts[k]? = some q → p.1 = q.1) (ha : a ≤ p.2) (hb : p.2 ≤ b) : Tiers (ts.set k p) a b := by
  have e := risingB_set hp
  refine ⟨by rw [List.length_set]; exact h.least, by rw [List.length_set]; exact h.most, fun q hq => ?_, by rw [e]; exact h.first, by rw [e]; exact h.rise⟩
  rcases List.mem_or_eq_of_mem_set hq with z | z
  · exact h.each q z
  · by_cases hk : k < ts.length
    · have := h.each ts[k] (List.getElem_mem hk)
      subst z
      refine ⟨?_, ha, hb⟩
      rw [hp _ (List.getElem?_eq_getElem hk)]
      exact this.1
    · rw [List.set_eq_of_length_le (by omega)] at hq
      exact h.each q hq
theorem tiers_head {ts : List (Int × Int)} {a b : Int} (h : Tiers ts a b) : ∃ p r, ts = (0, p) :: r ∧ a ≤ p ∧ p ≤ b := by
  cases ts with
  | nil => have := h.least; simp at this
  | cons q r =>
    have h0 : q.1 = 0 := by simpa using h.first
    have := h.each q (by simp)
    exact ⟨q.2, r, by rw [← h0], this.2⟩
theorem turned_ok {t : Tariff} (h : Tar t) : Tar (turned t) := by
  obtain ⟨p, r, e, h1, h2⟩ := tiers_head h.pr
  refine ⟨h.pr.set (fun q hq => ?_) ?_ ?_, h.ca.set (fun q hq => ?_) (show (0 : Int) ≤ 7 by decide) (show (7 : Int) ≤ 200 by decide)⟩
  · rw [e] at hq
    simp at hq
    rw [← hq]
  · rw [e]
    show 1 ≤ 61 - p
    omega
  · rw [e]
    show 61 - p ≤ 60
    omega
  · show (t.2.getD (t.2.length - 1) (0, 0)).1 = q.1
    rw [List.getD_eq_getElem?_getD, hq]
    rfl
theorem set_prD (ts : List (Int × Int)) (k : Nat) (p : Int × Int) : (ts.map prD).set k (prD p) = (ts.set k p).map prD := by rw [List.map_set]
theorem above_in {c m : Int} (h0 : 0 ≤ c) (h : m ∈ above c) : 0 ≤ m ∧ m ≤ 36 := by
  unfold above at h
  obtain ⟨i, hi, rfl⟩ := List.mem_map.mp h
  rw [List.mem_range] at hi
  omega
section
variable {K : PySem.W.Frag} {ρ : List Sl} {ti : TE} {t : Tariff} {p : Int × Int} {i j : Nat} {n : Int}
theorem tgm_tarA (hi : ρ[i]? = some (.ow (tarO t))) (hn : Ev K ti ρ (.dat (.int n))) (hj : ixN t.1.length n = some j) : TgM K (gSub (tOp (rIx K) (tVar i) (tC (.int 0))) ti rSetL) ρ (prD p) (ρ.set i (.ow (tarO (t.1.set j p, t.2)))) := by
  have h := tgm_set (d := prD p) (path := [0]) (ds := t.1.map prD) hi rfl (evp_ix0 evp_var) hn (by rw [List.length_map]; exact hj)
  rw [set_prD] at h
  exact h
theorem tgm_tarB (hi : ρ[i]? = some (.ow (tarO t))) (hn : Ev K ti ρ (.dat (.int n))) (hj : ixN t.2.length n = some j) : TgM K (gSub (tOp (rIx K) (tVar i) (tC (.int 1))) ti rSetL) ρ (prD p) (ρ.set i (.ow (tarO (t.1, t.2.set j p)))) := by
  have h := tgm_set (d := prD p) (path := [1]) (ds := t.2.map prD) hi rfl (evp_ix1 evp_var) hn (by rw [List.length_map]; exact hj)
  rw [set_prD] at h
  exact h
end
theorem ixN_zero {n : Nat} (h : 1 ≤ n) : ixN n 0 = some 0 := by
  unfold ixN
  rw [if_pos (by decide), if_pos (by omega)]
  rfl
theorem ev_prc {K : PySem.W.Frag} {ρ : List Sl} {a b : Int} : Ev K (tTup (tCons (tC (.int a)) (tCons (tC (.int b)) tNil))) ρ (.dat (prD (a, b))) := ev_tup (ds := [.int a, .int b]) (ea_cons ev_int (ea_cons ev_int ea_nil)) (by simp)
def tarLast : Tariff := ([(0, 9), (36, 1)], [(0, 0)])
theorem tarLast_ok : Tar tarLast := ⟨⟨by decide, by decide, by decide, rfl, rfl⟩, ⟨by decide, by decide, by decide, rfl, rfl⟩⟩
def tarTen : Tariff := ([(0, 10), (5, 7)], [(0, 20), (10, 0)])
theorem tarTen_ok : Tar tarTen := ⟨⟨by decide, by decide, by decide, rfl, rfl⟩, ⟨by decide, by decide, by decide, rfl, rfl⟩⟩
theorem ok_opts (os : List (Option Int)) : (D.lst (os.map optD)).okEq = true := (okn_lst (n := 0) fun d hd => by
  obtain ⟨o, _, rfl⟩ := List.mem_map.mp hd
  cases o with
  | none => exact okn_non
  | some i => exact okn_int i).ok (by decide)
theorem ixN_last {n : Nat} (h : 1 ≤ n) : ixN n (-1) = some (n - 1) := by
  unfold ixN
  rw [if_neg (by decide), if_pos (by omega)]
  congr 1
  omega
theorem atI_pr_last {ts : List (Int × Int)} (h : 1 ≤ ts.length) : atI (ts.map prD) (-1) = some (prD (ts.getD (ts.length - 1) (0, 0))) := by
  unfold atI
  rw [List.length_map, ixN_last h]
  show (ts.map prD)[ts.length - 1]? = _
  rw [List.getElem?_map, List.getD_eq_getElem?_getD, List.getElem?_eq_getElem (show ts.length - 1 < ts.length by omega)]
  rfl
def R_law (rs : List Sl) (res : Sl) : Prop := ∃ ns, rs = [.dat (intsD ns)] ∧ ns.length ≤ 63 ∧ Cells ns ∧ res = .dat (.bl true)
theorem cutD_to (xs : List D) (n : Nat) : DL.cutD xs none (some (n : Int)) = xs.take n := by
  unfold DL.cutD
  rw [HT.sIx_none, show HT.sIx xs.length xs.length (some (n : Int)) = min n xs.length from HT.sIx_nat xs.length xs.length n, List.drop_zero, Nat.sub_zero]
  by_cases h : n ≤ xs.length
  · rw [Nat.min_eq_left h]
  · rw [Nat.min_eq_right (by omega), List.take_of_length_le (by omega), List.take_of_length_le (by omega)]
theorem cut63 {ns : List Int} (h : ns.length ≤ 63) : DL.cutD (ns.map D.int) none (some 63) = ns.map D.int := by
  rw [show (63 : Int) = ((63 : Nat) : Int) from rfl, cutD_to, List.take_of_length_le (by simpa using h)]
/-- 0, 2, 4, .. -/
def evens (n : Nat) : List Int := (List.range n).map fun (i : Nat) => 0 + (i : Int) * 2
theorem evens_range (n : Nat) : (evens n).map D.int = rangeC 0 2 n := by
  unfold evens rangeC
  rw [List.map_map]
  rfl
theorem rg2 {m : Int} (h0 : 1 ≤ m) (h1 : m ≤ 9) : ∃ n, RgC 0 m 2 n ∧ n ≤ 5 := by
  have h : m = 1 ∨ m = 2 ∨ m = 3 ∨ m = 4 ∨ m = 5 ∨ m = 6 ∨ m = 7 ∨ m = 8 ∨ m = 9 := by omega
  rcases h with rfl | rfl | rfl | rfl | rfl | rfl | rfl | rfl | rfl
  · exact ⟨1, ⟨by decide, by decide, by decide, by decide⟩, by decide⟩
  · exact ⟨1, ⟨by decide, by decide, by decide, by decide⟩, by decide⟩
  · exact ⟨2, ⟨by decide, by decide, by decide, by decide⟩, by decide⟩
  · exact ⟨2, ⟨by decide, by decide, by decide, by decide⟩, by decide⟩
  · exact ⟨3, ⟨by decide, by decide, by decide, by decide⟩, by decide⟩
  · exact ⟨3, ⟨by decide, by decide, by decide, by decide⟩, by decide⟩
  · exact ⟨4, ⟨by decide, by decide, by decide, by decide⟩, by decide⟩
  · exact ⟨4, ⟨by decide, by decide, by decide, by decide⟩, by decide⟩
  · exact ⟨5, ⟨by decide, by decide, by decide, by decide⟩, by decide⟩
theorem mem_evens {n : Nat} {c : Int} (h : c ∈ evens n) (hn : n ≤ 5) : 0 ≤ c ∧ c ≤ 8 := by
  unfold evens at h
  obtain ⟨i, hi, rfl⟩ := List.mem_map.mp h
  rw [List.mem_range] at hi
  omega
theorem abs_bits {z : Int} {n : Nat} (h : Builtin.Int.intBits z ≤ n) : z.natAbs < 2 ^ n := by
  refine Nat.lt_of_lt_of_le ?_ (Nat.pow_le_pow_right (by decide) h)
  unfold Builtin.Int.intBits
  split
  · rename_i e
    have : z = 0 := by simpa using e
    subst this
    exact Nat.pow_pos (by decide)
  · exact Nat.lt_log2_self
theorem cells_of {ns : List Int} (h : ∀ z ∈ ns, Builtin.Int.intBits z ≤ 1048576) : Cells ns := by
  obtain ⟨n, hn, e⟩ : ∃ n : Nat, n ≤ 2000000 ∧ n = 1048576 := ⟨1048576, by decide, rfl⟩
  rw [← e] at h
  exact ⟨n, hn, fun c hc => abs_bits (h c hc)⟩
theorem law_start {K : PySem.W.Frag} {H : Hp} {a : Addr} {ns : List Int} (hl : ns.length ≤ 63) (hb : ∀ z ∈ ns, Builtin.Int.intBits z ≤ 1048576) (hS : SqL K H a (ns.map V.int)) : spF K R_law [.ref a] H (fun v _ => v = .bl true) fun _ _ _ => False :=
  ⟨H, [.dat (intsD ns)], .dat (.bl true), Ex.refl _, .cons (.lst hS ints_dpAll) .nil, ⟨ns, rfl, hl, cells_of hb, rfl⟩, fun v S' H' _ hv => dp_bool hv⟩
end GC

namespace Wk03
open PySem PySem.Spec PyProof.Rows L2 DL GC
def topS (i : Nat) : Stmt := PySem.Challenge.pw_grouporder_k03_whole_costs.main.body.getD i (.Pass ⟨0, 0, 0, 0⟩)
abbrev s_is_count : Stmt := (topS 5)
theorem sc_is_count : FnScope ["thing", "least", "most"] ["thing", "least", "most"] (defScope s_is_count) := ⟨rfl, rfl, rfl, by decide +kernel, rfl, by decide +kernel, by decide +kernel⟩
abbrev s_last_of : Stmt := (topS 15)
theorem sc_last_of : FnScope ["tiers", "count", "begin", "amount"] ["tiers", "count"] (defScope s_last_of) := ⟨rfl, rfl, rfl, by decide +kernel, rfl, by decide +kernel, by decide +kernel⟩
abbrev s_law_cell_at : Stmt := (topS 20)
theorem sc_law_cell_at : FnScope ["_law_script", "_law_k"] ["_law_script", "_law_k"] (defScope s_law_cell_at) := ⟨rfl, rfl, rfl, by decide +kernel, rfl, by decide +kernel, by decide +kernel⟩
abbrev s_law_draw : Stmt := (topS 21)
theorem sc_law_draw : FnScope ["_law_cell", "_law_k", "_law_many", "_law_primes"] ["_law_cell", "_law_k", "_law_many"] (defScope s_law_draw) := ⟨rfl, rfl, rfl, by decide +kernel, rfl, by decide +kernel, by decide +kernel⟩
abbrev s_law_whole : Stmt := (topS 23)
theorem sc_law_whole : FnScope ["_law_number"] ["_law_number"] (defScope s_law_whole) := ⟨rfl, rfl, rfl, by decide +kernel, rfl, by decide +kernel, by decide +kernel⟩
abbrev s_law_amount : Stmt := (topS 26)
theorem sc_law_amount : FnScope ["_law_tiers_here", "_law_count", "_law_begin", "_law_amount_here"] ["_law_tiers_here", "_law_count"] (defScope s_law_amount) := ⟨rfl, rfl, rfl, by decide +kernel, rfl, by decide +kernel, by decide +kernel⟩
abbrev s_is_tier : Stmt := (topS 11)
theorem sc_is_tier : FnScope ["thing", "least", "most"] ["thing", "least", "most"] (defScope s_is_tier) := ⟨rfl, rfl, rfl, by decide +kernel, rfl, by decide +kernel, by decide +kernel⟩
abbrev s_check_count : Stmt := (topS 14)
theorem sc_check_count : FnScope ["count"] ["count"] (defScope s_check_count) := ⟨rfl, rfl, rfl, by decide +kernel, rfl, by decide +kernel, by decide +kernel⟩
abbrev s_cost_of : Stmt := (topS 16)
theorem sc_cost_of : FnScope ["tariff", "count"] ["tariff", "count"] (defScope s_cost_of) := ⟨rfl, rfl, rfl, by decide +kernel, rfl, by decide +kernel, by decide +kernel⟩
abbrev s_law_value : Stmt := (topS 22)
theorem sc_law_value : FnScope ["_law_cell", "_law_turn", "_law_blend"] ["_law_cell", "_law_turn"] (defScope s_law_value) := ⟨rfl, rfl, rfl, by decide +kernel, rfl, by decide +kernel, by decide +kernel⟩
abbrev s_law_cost : Stmt := (topS 27)
theorem sc_law_cost : FnScope ["_law_tariff_here", "_law_count"] ["_law_tariff_here", "_law_count"] (defScope s_law_cost) := ⟨rfl, rfl, rfl, by decide +kernel, rfl, by decide +kernel, by decide +kernel⟩
abbrev s_are_tiers : Stmt := (topS 12)
theorem sc_are_tiers : FnScope ["thing", "least", "most", "tier", "one", "other"] ["thing", "least", "most"] (defScope s_are_tiers) := ⟨rfl, rfl, rfl, by decide +kernel, rfl, by decide +kernel, by decide +kernel⟩
abbrev s_law_tiers : Stmt := (topS 24)
theorem sc_law_tiers : FnScope ["_law_script", "_law_by", "_law_least", "_law_most", "_law_falling", "_law_value_here", "_law_found", "_law_count", "_law_amount_here", "_law_at", "_law_number"] ["_law_script", "_law_by", "_law_least", "_law_most", "_law_falling"] (defScope s_law_tiers) := ⟨rfl, rfl, rfl, by decide +kernel, rfl, by decide +kernel, by decide +kernel⟩
abbrev s_check_tariff : Stmt := (topS 13)
theorem sc_check_tariff : FnScope ["tariff"] ["tariff"] (defScope s_check_tariff) := ⟨rfl, rfl, rfl, by decide +kernel, rfl, by decide +kernel, by decide +kernel⟩
abbrev s_law_tariff : Stmt := (topS 25)
theorem sc_law_tariff : FnScope ["_law_script", "_law_by", "_law_kind", "_law_prices"] ["_law_script", "_law_by"] (defScope s_law_tariff) := ⟨rfl, rfl, rfl, by decide +kernel, rfl, by decide +kernel, by decide +kernel⟩
abbrev s_cost : Stmt := (topS 17)
theorem sc_cost : FnScope ["tariff", "count"] ["tariff", "count"] (defScope s_cost) := ⟨rfl, rfl, rfl, by decide +kernel, rfl, by decide +kernel, by decide +kernel⟩
abbrev s_cheaper : Stmt := (topS 18)
theorem sc_cheaper : FnScope ["tariff", "count", "more"] ["tariff", "count"] (defScope s_cheaper) := ⟨rfl, rfl, rfl, by decide +kernel, rfl, by decide +kernel, by decide +kernel⟩
abbrev s_law : Stmt := (topS 28)
theorem sc_law : FnScope ["_law_script", "_law_by", "_law_tariff_here", "_law_handed", "_law_due", "_law_count", "_law_more", "_law_found", "_law_last", "_law_other"] ["_law_script"] (defScope s_law) := ⟨rfl, rfl, rfl, by decide +kernel, rfl, by decide +kernel, by decide +kernel⟩
structure Tx (K : PySem.W.Frag) (mg : Str → Option Value) (f : Nat → Addr) (fd : Nat → FuncData) (tk : Nat → Tok) (C : Nat → Addr) : Prop where
  F_is_count : Fun K "is_count" "is_count" s_is_count (f 0) (fd 0)
  g_is_count : mg "is_count" = some (.ref (f 0))
  b_is_count : Binds K (fd 0) ["thing", "least", "most"] []
  F_last_of : Fun K "last_of" "last_of" s_last_of (f 1) (fd 1)
  g_last_of : mg "last_of" = some (.ref (f 1))
  b_last_of : Binds K (fd 1) ["tiers", "count"] []
  F_law_cell_at : Fun K "_law_cell_at" "_law_cell_at" s_law_cell_at (f 2) (fd 2)
  g_law_cell_at : mg "_law_cell_at" = some (.ref (f 2))
  b_law_cell_at : Binds K (fd 2) ["_law_script", "_law_k"] []
  F_law_draw : Fun K "_law_draw" "_law_draw" s_law_draw (f 3) (fd 3)
  g_law_draw : mg "_law_draw" = some (.ref (f 3))
  b_law_draw : Binds K (fd 3) ["_law_cell", "_law_k", "_law_many"] []
  F_law_whole : Fun K "_law_whole" "_law_whole" s_law_whole (f 4) (fd 4)
  g_law_whole : mg "_law_whole" = some (.ref (f 4))
  b_law_whole : Binds K (fd 4) ["_law_number"] []
  F_law_amount : Fun K "_law_amount" "_law_amount" s_law_amount (f 5) (fd 5)
  g_law_amount : mg "_law_amount" = some (.ref (f 5))
  b_law_amount : Binds K (fd 5) ["_law_tiers_here", "_law_count"] []
  F_is_tier : Fun K "is_tier" "is_tier" s_is_tier (f 6) (fd 6)
  g_is_tier : mg "is_tier" = some (.ref (f 6))
  b_is_tier : Binds K (fd 6) ["thing", "least", "most"] []
  F_check_count : Fun K "check_count" "check_count" s_check_count (f 7) (fd 7)
  g_check_count : mg "check_count" = some (.ref (f 7))
  b_check_count : Binds K (fd 7) ["count"] []
  F_cost_of : Fun K "cost_of" "cost_of" s_cost_of (f 8) (fd 8)
  g_cost_of : mg "cost_of" = some (.ref (f 8))
  b_cost_of : Binds K (fd 8) ["tariff", "count"] []
  F_law_value : Fun K "_law_value" "_law_value" s_law_value (f 9) (fd 9)
  g_law_value : mg "_law_value" = some (.ref (f 9))
  b_law_value : Binds K (fd 9) ["_law_cell", "_law_turn"] []
  F_law_cost : Fun K "_law_cost" "_law_cost" s_law_cost (f 10) (fd 10)
  g_law_cost : mg "_law_cost" = some (.ref (f 10))
  b_law_cost : Binds K (fd 10) ["_law_tariff_here", "_law_count"] []
  F_are_tiers : Fun K "are_tiers" "are_tiers" s_are_tiers (f 11) (fd 11)
  g_are_tiers : mg "are_tiers" = some (.ref (f 11))
  b_are_tiers : Binds K (fd 11) ["thing", "least", "most"] []
  F_law_tiers : Fun K "_law_tiers" "_law_tiers" s_law_tiers (f 12) (fd 12)
  g_law_tiers : mg "_law_tiers" = some (.ref (f 12))
  b_law_tiers : Binds K (fd 12) ["_law_script", "_law_by", "_law_least", "_law_most", "_law_falling"] []
  F_check_tariff : Fun K "check_tariff" "check_tariff" s_check_tariff (f 13) (fd 13)
  g_check_tariff : mg "check_tariff" = some (.ref (f 13))
  b_check_tariff : Binds K (fd 13) ["tariff"] []
  F_law_tariff : Fun K "_law_tariff" "_law_tariff" s_law_tariff (f 14) (fd 14)
  g_law_tariff : mg "_law_tariff" = some (.ref (f 14))
  b_law_tariff : Binds K (fd 14) ["_law_script", "_law_by"] []
  F_cost : Fun K "cost" "cost" s_cost (f 15) (fd 15)
  g_cost : mg "cost" = some (.ref (f 15))
  b_cost : Binds K (fd 15) ["tariff", "count"] []
  F_cheaper : Fun K "cheaper" "cheaper" s_cheaper (f 16) (fd 16)
  g_cheaper : mg "cheaper" = some (.ref (f 16))
  b_cheaper : Binds K (fd 16) ["tariff", "count"] []
  F_law : Fun K "law" "law" s_law (f 17) (fd 17)
  g_law : mg "law" = some (.ref (f 17))
  b_law : Binds K (fd 17) ["_law_script"] []
  z_all : mg "all" = none
  z_bool : mg "bool" = none
  z_int : mg "int" = none
  z_isinstance : mg "isinstance" = none
  z_len : mg "len" = none
  z_list : mg "list" = none
  z_max : mg "max" = none
  z_min : mg "min" = none
  z_range : mg "range" = none
  z_tuple : mg "tuple" = none
  z_zip : mg "zip" = none
  c_MOST_COUNT : mg "MOST_COUNT" = some (.int 36 (tk 0))
  c_MOST_TIERS : mg "MOST_TIERS" = some (.int 3 (tk 1))
  c_MOST_PRICE : mg "MOST_PRICE" = some (.int 60 (tk 2))
  c_MOST_CARRIAGE : mg "MOST_CARRIAGE" = some (.int 200 (tk 3))
section
variable {P : Program} {w : World} {K : PySem.W.Frag} {mg : Str → Option Value} {base : Heap} {f : Nat → Addr} {fd : Nat → FuncData} {tk : Nat → Tok} {C : Nat → Addr}
theorem ok_is_count (T : Tx K mg f fd tk C) : FnOk P w K mg base CX0 1 (f 0) (fd 0) ["thing", "least", "most"] (spF K R_is_count) := by
  refine ok_F T.F_is_count sc_is_count (fun rs res h => ?_) fun cdv A outer s H E hr => ⟨_, (pss_one (ps_ret (pe_and (pe_callB (k_isi (K := K)) (by rfl) T.z_isinstance (by decide +kernel) (pa_cons (pv 0) (pa_cons (pe_bltn (v := .ty "int") (by rfl) T.z_int (by decide +kernel) rfl) pa_nil))) (pe_and (pe_not (pe_callB (k_isi (K := K)) (by rfl) T.z_isinstance (by decide +kernel) (pa_cons (pv 0) (pa_cons (pe_bltn (v := .ty "bool") (by rfl) T.z_bool (by decide +kernel) rfl) pa_nil)))) (pe_one (pe_chain op_le op_le (pv 1) (pv 0) (pv 2))))))), fun rs res h => ?_⟩
  · obtain ⟨d, a, b, rfl, hn, rfl⟩ := h
    rfl
  · obtain ⟨d, a, b, rfl, hn, rfl⟩ := h
    refine ⟨_, sx_ret ?_, .inl rfl⟩
    cases d with
    | int i => exact Ev.isD (ev_andV (ev_isInt (ev_var rfl) rfl) fun _ => ev_andV (ev_notV (ev_isBool (ev_var rfl) rfl)) fun _ => ev_chainI (ev_var rfl) (ev_var rfl) (ev_var rfl)) rfl
    | bl i => exact Ev.isD (ev_andV (ev_isInt (ev_var rfl) rfl) fun _ => ev_andV (b := false) (ev_notV (ev_isBool (ev_var rfl) rfl)) fun z => by cases z) rfl
    | ob _ => cases hn
    | _ => exact Ev.isD (ev_andV (b := false) (ev_isInt (ev_var rfl) rfl) fun z => by cases z) rfl
theorem ok_last_of (T : Tx K mg f fd tk C) : FnOk P w K mg base CX0 1 (f 1) (fd 1) ["tiers", "count"] (spF K R_last_of) := by
  refine ok_F T.F_last_of sc_last_of (fun rs res h => ?_) fun cdv A outer s H E hr => ⟨_, (pss_one (ps_ret (pe_ix (k_ix (K := K)) (pe_lc (own := [("begin", 2), ("amount", 3)]) (g := (gTup K 2 (gCons (gName 2) (gCons (gName 3) gNil)))) (by rfl) sc_last_of.nd (ki_list (K := K) (pv 0)) (blkOk_by (N := ["tiers", "count", "begin", "amount"]) (sc := defScope s_last_of) (by decide +kernel)) (fun _ _ _ _ _ => (k_tup (K := K) rfl (pgs_cons (pg_name (i := 2) sc_last_of.nd rfl (.inl rfl)) (pgs_cons (pg_name (i := 3) sc_last_of.nd rfl (.inl rfl)) pgs_nil)))) (fun _ _ _ _ _ => (pts_one (pt_cmpR op_le (pv 2) (pv 1) (nomark _)))) (fun _ _ _ _ _ => (pv 3))) (pe_un un_neg pe_int) (fun _ _ => rfl)))), fun rs res h => ?_⟩
  · obtain ⟨ts, c, v, rfl, hl, hv, rfl⟩ := h
    rfl
  · obtain ⟨ts, c, v, rfl, hl, hv, rfl⟩ := h
    refine ⟨_, sx_ret (ev_ixL (ds := (ts.filter fun p => decide (p.1 ≤ c)).map fun p => .int p.2) (Ev.fz ?_) (ev_neg ev_int) ?_), .inl rfl⟩
    · refine ev_lc (is := [2, 3]) (src_list (ds := ts.map prD) (ev_var rfl)) ?_ (by simp) ?_
      · exact lc_pairs (fun p hp => ⟨tg_two, et_test (ev_IB (ev_var rfl) (ev_var rfl)), fun _ => ev_var rfl⟩)
      · rw [List.length_map]
        exact Nat.le_trans (List.length_filter_le _ _) (by omega)
    · exact last_at hv
theorem ok_law_cell_at (T : Tx K mg f fd tk C) : FnOk P w K mg base CX0 1 (f 2) (fd 2) ["_law_script", "_law_k"] (spF K R_law_cell_at) := by
  refine ok_F T.F_law_cell_at sc_law_cell_at (fun rs res h => ?_) fun cdv A outer s H E hr => ⟨_, (pss_cons (ps_if (pt_cmpR op_lt (pv 1) (pe_callB (k_len (K := K)) (by rfl) T.z_len (by decide +kernel) (pa_cons (pv 0) pa_nil)) (nomark _)) (pss_one (ps_ret (pe_ix (k_ix (K := K)) (pv 0) (pv 1) (fun _ _ => rfl)))) pss_nil)
      (pss_one (ps_ret pe_int))), fun rs res h => ?_⟩
  · obtain ⟨ns, k, rfl, h0, rfl⟩ := h
    rfl
  · obtain ⟨ns, k, rfl, h0, rfl⟩ := h
    by_cases hk : k < (ns.length : Int)
    · refine ⟨_, sx_ifq (et_test (ev_IB (ev_var rfl) (ev_lenL (ds := ns.map .int) (ev_var rfl)))) (fun _ => sx_seqR (sx_ret (ev_ixL (ds := ns.map .int) (ev_var rfl) (ev_var rfl) (d := .int (cellAt ns k)) ?_))) (fun z => ?_), .inl rfl⟩
      · exact cell_ix h0 hk
      · rw [List.length_map] at z
        simp at z
        omega
    · refine ⟨_, sx_ifq (et_test (ev_IB (ev_var rfl) (ev_lenL (ds := ns.map .int) (ev_var rfl)))) (fun z => ?_) (fun _ => sx_skip (sx_ret (ev_int.isD ?_))), .inl rfl⟩
      · rw [List.length_map] at z
        simp at z
        omega
      · rw [cell_out hk]
theorem ok_law_draw (T : Tx K mg f fd tk C) : FnOk P w K mg base CX0 1 (f 3) (fd 3) ["_law_cell", "_law_k", "_law_many"] (spF K R_law_draw) := by
  refine ok_F T.F_law_draw sc_law_draw (fun rs res h => ?_) fun cdv A outer s H E hr => ⟨_, (pss_cons (ps_set (i := 3) sc_law_draw.nd rfl (.inl rfl) (pe_tup (pa_cons pe_int (pa_cons pe_int (pa_cons pe_int (pa_cons pe_int (pa_cons pe_int (pa_cons pe_int (pa_cons pe_int (pa_cons pe_int (pa_cons pe_int (pa_cons pe_int (pa_cons pe_int (pa_cons pe_int (pa_cons pe_int (pa_cons pe_int (pa_cons pe_int (pa_cons pe_int pa_nil))))))))))))))))))
      (pss_one (ps_ret (pe_op op_mod (pe_op op_mod (pe_op op_add (pe_op op_mul (pv 0) pe_int) (pe_op op_mul (pv 1) pe_int)) (pe_ix (k_ix (K := K)) (pv 3) (pe_op op_mod (pv 1) pe_int) (fun _ _ => rfl))) (pv 2))))), fun rs res h => ?_⟩
  · obtain ⟨c, k, m, rfl, hk, hk2, hm, rfl⟩ := h
    rfl
  · obtain ⟨c, k, m, rfl, hk, hk2, hm, rfl⟩ := h
    obtain ⟨hp1, hp2⟩ := prime_at hk
    refine ⟨_, sx_seq (sx_set (ev_tup (ds := primes.map .int) (by repeat first | exact ea_nil | refine ea_cons ev_int ?_) (by decide))) (sx_ret (ev_IIc (ev_IIc (ev_II (ev_IIc (ev_var rfl) ev_int ?_) (ev_IIc (ev_var rfl) ev_int ?_)) (ev_ixT (ds := primes.map .int) (ev_var rfl) (ev_IIc (ev_var rfl) ev_int ?_) hp1) hp2) (ev_var rfl) hm)), .inl rfl⟩
    · exact .inr ⟨by decide, by decide⟩
    · exact .inr ⟨by decide, by decide⟩
    · decide
theorem ok_law_whole (T : Tx K mg f fd tk C) : FnOk P w K mg base CX0 1 (f 4) (fd 4) ["_law_number"] (spF K R_law_whole) := by
  refine ok_F T.F_law_whole sc_law_whole (fun rs res h => ?_) fun cdv A outer s H E hr => ⟨_, (pss_one (ps_ret (pe_and (pe_callB (k_isi (K := K)) (by rfl) T.z_isinstance (by decide +kernel) (pa_cons (pv 0) (pa_cons (pe_bltn (v := .ty "int") (by rfl) T.z_int (by decide +kernel) rfl) pa_nil))) (pe_one (pe_not (pe_callB (k_isi (K := K)) (by rfl) T.z_isinstance (by decide +kernel) (pa_cons (pv 0) (pa_cons (pe_bltn (v := .ty "bool") (by rfl) T.z_bool (by decide +kernel) rfl) pa_nil)))))))), fun rs res h => ?_⟩
  · obtain ⟨d, rfl, hn, rfl⟩ := h
    rfl
  · obtain ⟨d, rfl, hn, rfl⟩ := h
    exact ⟨_, sx_ret (ev_andV (ev_isInt (ev_var rfl) hn) fun _ => ev_notV (ev_isBool (ev_var rfl) hn)), .inl rfl⟩
theorem ok_law_amount (T : Tx K mg f fd tk C) : FnOk P w K mg base CX0 1 (f 5) (fd 5) ["_law_tiers_here", "_law_count"] (spF K R_law_amount) := by
  refine ok_F T.F_law_amount sc_law_amount (fun rs res h => ?_) fun cdv A outer s H E hr => ⟨_, (pss_cons (ps_for PassesOwn.never rfl (ki_list (K := K) (k_revL (K := K) (pv 0))) (k_tup (K := K) rfl (pgs_cons (pg_name (i := 2) sc_law_amount.nd rfl (.inl rfl)) (pgs_cons (pg_name (i := 3) sc_law_amount.nd rfl (.inl rfl)) pgs_nil))) (pss_one (ps_if (pt_cmpR op_le (pv 2) (pv 1) (nomark _)) (pss_one (ps_ret (pv 3))) pss_nil)))
      (pss_one (ps_ret pe_int))), fun rs res h => ?_⟩
  · obtain ⟨ts, c, rfl, hl, rfl⟩ := h
    rfl
  · obtain ⟨ts, c, rfl, hl, rfl⟩ := h
    have hs : Src K (iList K (tRevL K (tVar 0))) (startR ["_law_tiers_here", "_law_count", "_law_begin", "_law_amount_here"] [.dat (tiersD ts), .dat (.int c)]) (ts.map prD).reverse := src_list (Ev.fz (ev_rev (ev_var rfl)))
    rw [← List.map_reverse] at hs
    have key : ∀ (us : List (Int × Int)) (b a : Sl), ∃ o, Fr K E (gTup K 2 (gCons (gName 2) (gCons (gName 3) gNil))) [2, 3] (tIfS (tTest (tOp (rI0 fun i j => .bl (decide (i ≤ j))) (tVar 2) (tVar 1))) (tRet (tVar 3)) tNext) (us.map prD) [.dat (tiersD ts), .dat (.int c), b, a] o ∧
        (match us.find? fun p => decide (p.1 ≤ c) with
          | some p => o = .rt (.dat (.int p.2))
          | none => ∃ b' a', o = .nx [.dat (tiersD ts), .dat (.int c), b', a']) := by
      intro us
      induction us with
      | nil => exact fun b a => ⟨_, .nil, b, a, rfl⟩
      | cons p r ih =>
        intro b a
        by_cases hp : p.1 ≤ c
        · refine ⟨_, .ret tg_two (sx_if (et_test (ev_IB (ev_var rfl) (ev_var rfl))) (fun _ => sx_ret (ev_var rfl)) (fun z => ?_)), ?_⟩
          · simp [hp] at z
          · rw [List.find?_cons_of_pos (by simpa using hp)]
        · obtain ⟨o, h1, h2⟩ := ih (.dat (.int p.1)) (.dat (.int p.2))
          refine ⟨o, .step tg_two (sx_if (et_test (ev_IB (ev_var rfl) (ev_var rfl))) (fun z => ?_) (fun _ => sx_next)) h1, ?_⟩
          · simp [hp] at z
          · rw [List.find?_cons_of_neg (by simpa using hp)]
            exact h2
    obtain ⟨o, h1, h2⟩ := key ts.reverse .no .no
    have e := amount_find ts c
    cases hf : ts.reverse.find? fun p => decide (p.1 ≤ c) with
    | some p =>
      rw [hf] at h2 e
      subst h2
      refine ⟨_, sx_seqR (sx_for hs h1), .inl ?_⟩
      rw [e]
      rfl
    | none =>
      rw [hf] at h2 e
      obtain ⟨b', a', rfl⟩ := h2
      refine ⟨_, sx_seq (sx_for hs h1) (sx_ret (ev_int.isD ?_)), .inl rfl⟩
      rw [e]
      rfl
theorem ok_is_tier (T : Tx K mg f fd tk C) : FnOk P w K mg base CX0 2 (f 6) (fd 6) ["thing", "least", "most"] (spF K R_is_tier) := by
  refine ok_F T.F_is_tier sc_is_tier (fun rs res h => ?_) fun cdv A outer s H E hr => ⟨_, (pss_cons (ps_if (PW.pt (pw_or (pt_not (pt_val (pe_callB (k_isi (K := K)) (by rfl) T.z_isinstance (by decide +kernel) (pa_cons (pv 0) (pa_cons (pe_bltn (v := .ty "tuple") (by rfl) T.z_tuple (by decide +kernel) rfl) pa_nil))))) (pw_or1 (pt_cmpR op_ne (pe_callB (k_len (K := K)) (by rfl) T.z_len (by decide +kernel) (pa_cons (pv 0) pa_nil)) pe_int (nomark _))))) (pss_one (ps_ret pe_bl)) pss_nil)
      (pss_one (ps_ret (pe_and (pe_call (ok_is_count T) (hr.mono (by decide)) (by rfl) T.g_is_count T.F_is_count.kp T.b_is_count .nil pass0 (pa_cons (pe_ix (k_ix (K := K)) (pv 0) pe_int (fun _ _ => rfl)) (pa_cons pe_int (pa_cons (pe_glob (v := .int 36) (by rfl) T.c_MOST_COUNT ⟨_, rfl⟩) pa_nil)))) (pe_one (pe_call (ok_is_count T) (hr.mono (by decide)) (by rfl) T.g_is_count T.F_is_count.kp T.b_is_count .nil pass0 (pa_cons (pe_ix (k_ix (K := K)) (pv 0) pe_int (fun _ _ => rfl)) (pa_cons (pv 1) (pa_cons (pv 2) pa_nil))))))))), fun rs res h => ?_⟩
  · obtain ⟨d, a, b, rfl, hn, rfl⟩ := h
    rfl
  · obtain ⟨d, a, b, rfl, hn, rfl⟩ := h
    have h1 := noOb_not hn
    cases d with
    | tup ds =>
      rw [noOb] at hn
      by_cases h2 : ds.length = 2
      · match ds, h2, hn with
        | [x, y], _, hn =>
          have hx := noOb_not (noObs_mem hn x (by simp))
          have hy := noOb_not (noObs_mem hn y (by simp))
          refine ⟨_, sx_ifq (b := false) (EvT.is (et_or (et_not (et_B (ev_isTup (ev_var rfl) h1))) fun _ => et_test (ev_neI (ev_lenT (ev_var rfl)) ev_int)) rfl) (fun z => by cases z) (fun _ => sx_skip (sx_ret (Ev.isD (ev_andV (ev_call (ea_cons (ev_ixT (ev_var rfl) ev_int rfl) (ea_cons ev_int (ea_cons ev_int ea_nil))) (spF_D ⟨x, 0, 36, rfl, hx, rfl⟩)) fun _ => ev_call (ea_cons (ev_ixT (ev_var rfl) ev_int rfl) (ea_cons (ev_var rfl) (ea_cons (ev_var rfl) ea_nil))) (spF_D ⟨y, a, b, rfl, hy, rfl⟩)) rfl))), .inl rfl⟩
      · refine ⟨_, sx_ifq (b := true) (EvT.is (et_or (et_not (et_B (ev_isTup (ev_var rfl) h1))) fun _ => et_test (ev_neI (ev_lenT (ev_var rfl)) ev_int)) ?_) (fun _ => sx_seqR (sx_ret (ev_bl.isD ?_))) (fun z => by cases z), .inl rfl⟩
        · show (!true || !decide ((ds.length : Int) = 2)) = true
          simp
          omega
        · rw [isTier_len h2]
    | _ => exact ⟨_, sx_ifq (b := true) (EvT.is (et_or (b := true) (et_not (et_B (ev_isTup (ev_var rfl) h1))) fun z => by cases z) rfl) (fun _ => sx_seqR (sx_ret (ev_bl.isD rfl))) (fun z => by cases z), .inl rfl⟩
theorem ok_check_count (T : Tx K mg f fd tk C) : FnOk P w K mg base CX0 2 (f 7) (fd 7) ["count"] (spF K R_check_count) := by
  refine ok_F T.F_check_count sc_check_count (fun rs res h => ?_) fun cdv A outer s H E hr => ⟨_, (pss_one (ps_if (pt_not (pt_val (pe_call (ok_is_count T) (hr.mono (by decide)) (by rfl) T.g_is_count T.F_is_count.kp T.b_is_count .nil pass0 (pa_cons (pv 0) (pa_cons pe_int (pa_cons (pe_glob (v := .int 36) (by rfl) T.c_MOST_COUNT ⟨_, rfl⟩) pa_nil)))))) (pss_one ps_never) pss_nil)), fun rs res h => ?_⟩
  · obtain ⟨d, rfl, hn, hc, rfl⟩ := h
    rfl
  · obtain ⟨d, rfl, hn, hc, rfl⟩ := h
    exact ⟨_, sx_if (b := false) (EvT.is (et_not (et_B (ev_call (ea_cons (ev_var rfl) (ea_cons ev_int (ea_cons ev_int ea_nil))) (spF_D ⟨d, 0, 36, rfl, hn, rfl⟩)))) (by rw [hc]; rfl)) (fun z => by cases z) (fun _ => sx_next), .inr ⟨rfl, _, rfl⟩⟩
theorem ok_cost_of (T : Tx K mg f fd tk C) : FnOk P w K mg base CX0 2 (f 8) (fd 8) ["tariff", "count"] (spF K R_cost_of) := by
  refine ok_F T.F_cost_of sc_cost_of (fun rs res h => ?_) fun cdv A outer s H E hr => ⟨_, (pss_cons (ps_if (pt_cmpR op_eq (pv 1) pe_int (nomark _)) (pss_one (ps_ret pe_int)) pss_nil)
      (pss_one (ps_ret (pe_op op_add (pe_op op_mul (pv 1) (pe_call (ok_last_of T) (hr.mono (by decide)) (by rfl) T.g_last_of T.F_last_of.kp T.b_last_of .nil pass0 (pa_cons (pe_ix (k_ix (K := K)) (pv 0) pe_int (fun _ _ => rfl)) (pa_cons (pv 1) pa_nil)))) (pe_call (ok_last_of T) (hr.mono (by decide)) (by rfl) T.g_last_of T.F_last_of.kp T.b_last_of .nil pass0 (pa_cons (pe_ix (k_ix (K := K)) (pv 0) pe_int (fun _ _ => rfl)) (pa_cons (pv 1) pa_nil))))))), fun rs res h => ?_⟩
  · obtain ⟨t, c, rfl, ht, h0, h1, rfl⟩ := h
    rfl
  · obtain ⟨t, c, rfl, ht, h0, h1, rfl⟩ := h
    by_cases hc : c = 0
    · exact ⟨_, sx_ifq (b := true) (EvT.is (et_test (ev_eqI (ev_var rfl) ev_int)) (by simp [hc])) (fun _ => sx_seqR (sx_ret (ev_int.isD (by rw [hc]; rfl)))) (fun z => by cases z), .inl rfl⟩
    · have a1 := tiers_last ht.pr h0
      have a2 := tiers_last ht.ca h0
      refine ⟨_, sx_ifq (b := false) (EvT.is (et_test (ev_eqI (ev_var rfl) ev_int)) (by simp [hc])) (fun z => by cases z) (fun _ => sx_skip (sx_ret (Ev.isD (ev_II (ev_IIc (ev_var rfl) (ev_call (ea_cons (ev_ixT (ev_var rfl) ev_int rfl) (ea_cons (ev_var rfl) ea_nil)) (spF_D ⟨t.1, c, _, rfl, ?_, a1.1, rfl⟩)) ?_) (ev_call (ea_cons (ev_ixT (ev_var rfl) ev_int rfl) (ea_cons (ev_var rfl) ea_nil)) (spF_D ⟨t.2, c, _, rfl, ?_, a2.1, rfl⟩))) ?_))), .inl rfl⟩
      · have := ht.pr.most
        omega
      · exact .inl ⟨by omega, by omega⟩
      · have := ht.ca.most
        omega
      · rw [costOf, if_neg hc]
theorem ok_law_value (T : Tx K mg f fd tk C) : FnOk P w K mg base CX0 2 (f 9) (fd 9) ["_law_cell", "_law_turn"] (spF K R_law_value) := by
  refine ok_F T.F_law_value sc_law_value (fun rs res h => ?_) fun cdv A outer s H E hr => ⟨_, (pss_cons (ps_if (pt_cmpR op_ge (pv 0) (pe_op op_pow pe_int pe_int) (nomark _)) (pss_one (ps_ret (pe_op op_shr (pe_op op_mod (pe_op op_sub (pv 0) (pe_op op_pow pe_int pe_int)) (pe_op op_pow pe_int pe_int)) (pe_op op_mul pe_int (pv 1))))) pss_nil)
      (pss_cons (ps_set (i := 2) sc_law_value.nd rfl (.inl rfl) (pe_call (ok_law_draw T) (hr.mono (by decide)) (by rfl) T.g_law_draw T.F_law_draw.kp T.b_law_draw .nil pass0 (pa_cons (pe_op op_mulX (pe_op op_add (pv 0) (pe_op op_mul pe_int (pv 1))) (pe_op op_add (pe_op op_add (pv 0) (pe_op op_mul pe_int (pv 1))) pe_int)) (pa_cons (pe_op op_add (pe_op op_mod (pv 1) pe_int) pe_int) (pa_cons pe_int pa_nil)))))
      (pss_one (ps_ret (pe_op op_add (pe_op op_mul (pv 2) pe_int) (pe_call (ok_law_draw T) (hr.mono (by decide)) (by rfl) T.g_law_draw T.F_law_draw.kp T.b_law_draw .nil pass0 (pa_cons (pe_op op_add (pe_op op_mulX (pe_op op_add (pv 0) (pe_op op_mul pe_int (pv 1))) (pe_op op_add (pv 0) pe_int)) (pe_op op_mul pe_int (pv 1))) (pa_cons (pe_op op_add (pe_op op_mod (pv 1) pe_int) pe_int) (pa_cons pe_int pa_nil))))))))), fun rs res h => ?_⟩
  · obtain ⟨c, t, n, rfl, hc, hn, h0, h1, rfl⟩ := h
    rfl
  · obtain ⟨c, t, n, rfl, hc, hn, h0, h1, rfl⟩ := h
    by_cases hb : (10 : Int) ^ 18 ≤ c
    · refine ⟨_, sx_ifq (b := true) (EvT.is (et_test (ev_IB (ev_var rfl) (ev_IIc ev_int ev_int ?_))) ?_) (fun _ => sx_seqR (sx_ret (Ev.isD (ev_IIc (ev_IIc (ev_II (ev_var rfl) (ev_IIc ev_int ev_int ?_)) (ev_IIc ev_int ev_int ?_) ?_) (ev_IIc ev_int (ev_var rfl) ?_) ?_) ?_))) (fun z => by cases z), .inl rfl⟩
      · exact ⟨by decide, by decide, by decide⟩
      · exact decide_eq_true hb
      · exact ⟨by decide, by decide, by decide⟩
      · exact ⟨by decide, by decide, by decide⟩
      · show (0 : Int) < 10 ^ 40
        decide
      · exact .inl ⟨by decide, by decide⟩
      · show (0 : Int) ≤ 3 * t
        omega
      · rw [valueOf, if_pos hb]
        rfl
    · have m1 := Int.emod_nonneg t (show (9 : Int) ≠ 0 by decide)
      have m2 := Int.emod_lt_of_pos t (show (0 : Int) < 9 by decide)
      have m3 := Int.emod_nonneg t (show (7 : Int) ≠ 0 by decide)
      have m4 := Int.emod_lt_of_pos t (show (0 : Int) < 7 by decide)
      refine ⟨_, sx_ifq (b := false) (EvT.is (et_test (ev_IB (ev_var rfl) (ev_IIc ev_int ev_int ?_))) ?_) (fun z => by cases z) (fun _ => sx_skip (sx_seq (sx_set (ev_call (ea_cons (ev_IIc (ev_II (ev_var rfl) (ev_IIc ev_int (ev_var rfl) ?_)) (ev_II (ev_II (ev_var rfl) (ev_IIc ev_int (ev_var rfl) ?_)) ev_int) ?_) (ea_cons (ev_II (ev_IIc (ev_var rfl) ev_int ?_) ev_int) (ea_cons ev_int ea_nil))) (spF_D ⟨_, _, _, rfl, ?_, ?_, ?_, rfl⟩)))
        (sx_ret (Ev.isD (ev_II (ev_IIc (ev_var rfl) ev_int ?_) (ev_call (ea_cons (ev_II (ev_IIc (ev_II (ev_var rfl) (ev_IIc ev_int (ev_var rfl) ?_)) (ev_II (ev_var rfl) ev_int) ?_) (ev_IIc ev_int (ev_var rfl) ?_)) (ea_cons (ev_II (ev_IIc (ev_var rfl) ev_int ?_) ev_int) (ea_cons ev_int ea_nil))) (spF_D ⟨_, _, _, rfl, ?_, ?_, ?_, rfl⟩))) ?_)))), .inl rfl⟩
      · exact ⟨by decide, by decide, by decide⟩
      · exact decide_eq_false hb
      · exact .inl ⟨by decide, by decide⟩
      · exact .inl ⟨by decide, by decide⟩
      · exact value_mul1 hc hn h0 h1
      · show (0 : Int) < 9
        decide
      · show 0 ≤ t % 9 + 1
        omega
      · show t % 9 + 1 ≤ 1000
        omega
      · decide
      · exact .inr ⟨by decide, by decide⟩
      · exact .inl ⟨by decide, by decide⟩
      · exact value_mul2 hc hn h0 h1
      · exact .inl ⟨by decide, by decide⟩
      · show (0 : Int) < 7
        decide
      · show 0 ≤ t % 7 + 2
        omega
      · show t % 7 + 2 ≤ 1000
        omega
      · decide
      · rw [valueOf, if_neg hb]
theorem ok_law_cost (T : Tx K mg f fd tk C) : FnOk P w K mg base CX0 2 (f 10) (fd 10) ["_law_tariff_here", "_law_count"] (spF K R_law_cost) := by
  refine ok_F T.F_law_cost sc_law_cost (fun rs res h => ?_) fun cdv A outer s H E hr => ⟨_, (pss_cons (ps_if (pt_cmpR op_eq (pv 1) pe_int (nomark _)) (pss_one (ps_ret pe_int)) pss_nil)
      (pss_one (ps_ret (pe_op op_add (pe_op op_mul (pv 1) (pe_call (ok_law_amount T) (hr.mono (by decide)) (by rfl) T.g_law_amount T.F_law_amount.kp T.b_law_amount .nil pass0 (pa_cons (pe_ix (k_ix (K := K)) (pv 0) pe_int (fun _ _ => rfl)) (pa_cons (pv 1) pa_nil)))) (pe_call (ok_law_amount T) (hr.mono (by decide)) (by rfl) T.g_law_amount T.F_law_amount.kp T.b_law_amount .nil pass0 (pa_cons (pe_ix (k_ix (K := K)) (pv 0) pe_int (fun _ _ => rfl)) (pa_cons (pv 1) pa_nil))))))), fun rs res h => ?_⟩
  · obtain ⟨t, c, rfl, ht, h0, h1, rfl⟩ := h
    rfl
  · obtain ⟨t, c, rfl, ht, h0, h1, rfl⟩ := h
    by_cases hc : c = 0
    · exact ⟨_, sx_ifq (b := true) (EvT.is (et_test (ev_eqI (ev_var rfl) ev_int)) (by simp [hc])) (fun _ => sx_seqR (sx_ret (ev_int.isD (by rw [hc]; rfl)))) (fun z => by cases z), .inl rfl⟩
    · refine ⟨_, sx_ifq (b := false) (EvT.is (et_test (ev_eqI (ev_var rfl) ev_int)) (by simp [hc])) (fun z => by cases z) (fun _ => sx_skip (sx_ret (Ev.isD (ev_II (ev_IIc (ev_var rfl) (ev_call (ea_cons (ev_ixT (ev_var rfl) ev_int rfl) (ea_cons (ev_var rfl) ea_nil)) (spF_D ⟨t.1, c, rfl, ?_, rfl⟩)) ?_) (ev_call (ea_cons (ev_ixT (ev_var rfl) ev_int rfl) (ea_cons (ev_var rfl) ea_nil)) (spF_D ⟨t.2, c, rfl, ?_, rfl⟩))) ?_))), .inl rfl⟩
      · exact ht.1
      · exact .inl ⟨by omega, by omega⟩
      · exact ht.2
      · rw [costOf, if_neg hc]
theorem ok_are_tiers (T : Tx K mg f fd tk C) : FnOk P w K mg base CX0 3 (f 11) (fd 11) ["thing", "least", "most"] (spF K R_are_tiers) := by
  refine ok_F T.F_are_tiers sc_are_tiers (fun rs res h => ?_) fun cdv A outer s H E hr => ⟨_, (pss_cons (ps_if (PW.pt (pw_or (pt_not (pt_val (pe_callB (k_isi (K := K)) (by rfl) T.z_isinstance (by decide +kernel) (pa_cons (pv 0) (pa_cons (pe_bltn (v := .ty "list") (by rfl) T.z_list (by decide +kernel) rfl) pa_nil))))) (pw_or1 (pt_not (pt_chain op_le op_le pe_int (pe_callB (k_len (K := K)) (by rfl) T.z_len (by decide +kernel) (pa_cons (pv 0) pa_nil)) (pe_glob (v := .int 3) (by rfl) T.c_MOST_TIERS ⟨_, rfl⟩)))))) (pss_one (ps_ret pe_bl)) pss_nil)
      (pss_cons (ps_if (PW.pt (pw_or (pt_not (pt_val (pe_callB (k_all (K := K)) (by rfl) T.z_all (by decide +kernel) (pa_cons (pe_lc (own := [("tier", 3)]) (g := (gName 3)) (by rfl) sc_are_tiers.nd (ki_list (K := K) (pv 0)) (blkOk_by (N := ["thing", "least", "most", "tier", "one", "other"]) (sc := defScope s_are_tiers) (by decide +kernel)) (fun _ _ _ _ _ => (pg_name (i := 3) sc_are_tiers.nd rfl (.inl rfl))) (fun _ _ _ _ _ => pts_nil) (fun _ _ _ _ _ => (pe_call (ok_is_tier T) (hr.mono (by decide)) (by rfl) T.g_is_tier T.F_is_tier.kp T.b_is_tier .nil pass0 (pa_cons (pv 3) (pa_cons (pv 1) (pa_cons (pv 2) pa_nil)))))) pa_nil)))) (pw_or1 (pt_cmpR op_ne (pe_ix (k_ix (K := K)) (pe_ix (k_ix (K := K)) (pv 0) pe_int (fun _ _ => rfl)) pe_int (fun _ _ => rfl)) pe_int (nomark _))))) (pss_one (ps_ret pe_bl)) pss_nil)
      (pss_one (ps_ret (pe_callB (k_all (K := K)) (by rfl) T.z_all (by decide +kernel) (pa_cons (pe_lc (own := [("one", 4), ("other", 5)]) (g := (gTup K 2 (gCons (gName 4) (gCons (gName 5) gNil)))) (by rfl) sc_are_tiers.nd (ki_zip (K := K) (by rfl) T.z_zip (pa_cons (pv 0) (pa_cons (pe_slice (k_sl (K := K)) (pv 0) (po_some pe_int) po_none) pa_nil))) (blkOk_by (N := ["thing", "least", "most", "tier", "one", "other"]) (sc := defScope s_are_tiers) (by decide +kernel)) (fun _ _ _ _ _ => (k_tup (K := K) rfl (pgs_cons (pg_name (i := 4) sc_are_tiers.nd rfl (.inl rfl)) (pgs_cons (pg_name (i := 5) sc_are_tiers.nd rfl (.inl rfl)) pgs_nil)))) (fun _ _ _ _ _ => pts_nil) (fun _ _ _ _ _ => (pe_cmpR op_lt (pe_ix (k_ix (K := K)) (pv 4) pe_int (fun _ _ => rfl)) (pe_ix (k_ix (K := K)) (pv 5) pe_int (fun _ _ => rfl)) (nomark _)))) pa_nil)))))), fun rs res h => ?_⟩
  · obtain ⟨d, a, b, rfl, hn, rfl⟩ := h
    rfl
  · obtain ⟨d, a, b, rfl, hn, rfl⟩ := h
    have h1 := noOb_not hn
    cases d with
    | lst xs =>
      rw [noOb] at hn
      by_cases h2 : 1 ≤ (xs.length : Int) ∧ (xs.length : Int) ≤ 3
      · have hl : xs.length ≤ 3 := by omega
        have hall : ∀ ρ, ρ = startR ["thing", "least", "most", "tier", "one", "other"] [.dat (.lst xs), .dat (.int a), .dat (.int b)] → Ev K (tLc (iList K (tVar 0)) (gName 3) tYes (tCall (spF K R_is_tier) [] E0 (tCons (tVar 3) (tCons (tVar 1) (tCons (tVar 2) tNil)))) [3]) ρ (.dat (.lst ((xs.map (isTier · a b)).map .bl))) := fun ρ e => by
          subst e
          rw [List.map_map]
          refine Ev.fz (ev_lc (is := [3]) (src_list (ev_var rfl)) (lc_map (fun x => _) _ xs fun x hx => ⟨tg_name, ?_⟩) (by simp) (by rw [List.length_map]; omega))
          exact ev_call (ea_cons (ev_var rfl) (ea_cons (ev_var rfl) (ea_cons (ev_var rfl) ea_nil))) (spF_D ⟨x, a, b, rfl, noObs_mem hn x hx, rfl⟩)
        refine ⟨_, sx_ifq (b := false) (EvT.is (et_or (et_not (et_B (ev_isLst (ev_var rfl) h1))) fun _ => et_not (et_test (ev_chainI ev_int (ev_lenL (ev_var rfl)) ev_int))) ?_) (fun z => by cases z) (fun _ => sx_skip ?_), .inl rfl⟩
        · simp [DL.isLst, h2.1, h2.2]
        · by_cases h3 : xs.all (isTier · a b) = true
          · obtain ⟨x, r, rfl⟩ : ∃ x r, xs = x :: r := by
              cases xs with
              | nil => simp at h2
              | cons x r => exact ⟨x, r, rfl⟩
            have hx3 : isTier x a b = true := by
              rw [List.all_cons, Bool.and_eq_true] at h3
              exact h3.1
            obtain ⟨p, y, hxe⟩ := isTier_is hx3
            have hx2 : firstOf x = p := by rw [hxe]; rfl
            by_cases h4 : p = 0
            · refine sx_ifq (b := false) (EvT.is (et_or (et_not (et_B (ev_all (hall _ rfl)))) fun _ => et_test (ev_neI (ev_ixT (ds := [.int p, y]) (ev_ixL (d := .tup [.int p, y]) (ev_var rfl) ev_int (by rw [hxe]; exact atI_nat (j := 0) rfl)) ev_int rfl) ev_int)) ?_) (fun z => by cases z) (fun _ => sx_skip (sx_ret ?_))
              · rw [all_id, h3]
                simp [h4]
              · refine Ev.isD (ev_all (bs := (pairsOf (x :: r)).map fun q => decide (firstOf q.1 < firstOf q.2)) ?_) ?_
                · refine Ev.fz (ev_lc (is := [4, 5]) (src_zip (ea_cons (ev_var rfl) (ea_cons (Ev.fz (ev_sl (ev_var rfl) (eo_some ev_int) eo_none)) ea_nil))) ?_ (by simp) ?_)
                  · rw [cutD_1]
                    exact lc_zip h3 fun q h5 h6 => ⟨tg_two, ev_IB (ev_firstOf (ev_var rfl) h5) (ev_firstOf (ev_var rfl) h6)⟩
                  · rw [List.length_map, List.length_map]
                    have := pairsOf_len (x :: r)
                    omega
                · rw [all_id, rising_pairs]
                  show _ = D.bl ((decide (1 ≤ (((x :: r).length : Nat) : Int)) && decide ((((x :: r).length : Nat) : Int) ≤ 3)) && ((x :: r).all (isTier · a b) && (decide ((((x :: r).map firstOf).getD 0 0) = 0) && risingB ((x :: r).map firstOf))))
                  rw [h3, decide_eq_true h2.1, decide_eq_true h2.2, decide_eq_true (show ((x :: r).map firstOf).getD 0 0 = 0 by show firstOf x = 0; rw [hx2, h4])]
                  rfl
            · refine sx_ifq (b := true) (EvT.is (et_or (et_not (et_B (ev_all (hall _ rfl)))) fun _ => et_test (ev_neI (ev_ixT (ds := [.int p, y]) (ev_ixL (d := .tup [.int p, y]) (ev_var rfl) ev_int (by rw [hxe]; exact atI_nat (j := 0) rfl)) ev_int rfl) ev_int)) ?_) (fun _ => sx_seqR (sx_ret (ev_bl.isD ?_))) (fun z => by cases z)
              · rw [all_id, h3]
                simp [h4]
              · show D.bl false = D.bl ((decide (1 ≤ (((x :: r).length : Nat) : Int)) && decide ((((x :: r).length : Nat) : Int) ≤ 3)) && ((x :: r).all (isTier · a b) && (decide ((((x :: r).map firstOf).getD 0 0) = 0) && risingB ((x :: r).map firstOf))))
                rw [decide_eq_false (show ¬ ((x :: r).map firstOf).getD 0 0 = 0 from fun z => h4 (by rw [← hx2]; exact z))]
                simp
          · have h3 : xs.all (isTier · a b) = false := by simpa using h3
            refine sx_ifq (b := true) (EvT.is (et_or (b := true) (et_not (et_B (ev_all (hall _ rfl)))) fun z => ?_) ?_) (fun _ => sx_seqR (sx_ret (ev_bl.isD ?_))) (fun z => by cases z)
            · rw [all_id, h3] at z
              cases z
            · rw [all_id, h3]
              rfl
            · show D.bl false = D.bl ((decide (1 ≤ (xs.length : Int)) && decide ((xs.length : Int) ≤ 3)) && (xs.all (isTier · a b) && (decide (((xs.map firstOf).getD 0 0) = 0) && risingB (xs.map firstOf))))
              rw [h3]
              simp
      · refine ⟨_, sx_ifq (b := true) (EvT.is (et_or (et_not (et_B (ev_isLst (ev_var rfl) h1))) fun _ => et_not (et_test (ev_chainI ev_int (ev_lenL (ev_var rfl)) ev_int))) ?_) (fun _ => sx_seqR (sx_ret (ev_bl.isD ?_))) (fun z => by cases z), .inl rfl⟩
        · show (!true || !(decide (1 ≤ (xs.length : Int)) && decide ((xs.length : Int) ≤ 3))) = true
          by_cases z : 1 ≤ (xs.length : Int)
          · rw [decide_eq_false (show ¬ (xs.length : Int) ≤ 3 from fun y => h2 ⟨z, y⟩)]
            simp
          · rw [decide_eq_false z]
            rfl
        · show D.bl false = D.bl ((decide (1 ≤ (xs.length : Int)) && decide ((xs.length : Int) ≤ 3)) && (xs.all (isTier · a b) && (decide (((xs.map firstOf).getD 0 0) = 0) && risingB (xs.map firstOf))))
          by_cases z : 1 ≤ (xs.length : Int)
          · rw [decide_eq_false (show ¬ (xs.length : Int) ≤ 3 from fun y => h2 ⟨z, y⟩)]
            simp
          · rw [decide_eq_false z]
            rfl
    | _ => exact ⟨_, sx_ifq (b := true) (EvT.is (et_or (b := true) (et_not (et_B (ev_isLst (ev_var rfl) h1))) fun z => by cases z) rfl) (fun _ => sx_seqR (sx_ret (ev_bl.isD rfl))) (fun z => by cases z), .inl rfl⟩
theorem ok_law_tiers (T : Tx K mg f fd tk C) : FnOk P w K mg base CX0 3 (f 12) (fd 12) ["_law_script", "_law_by", "_law_least", "_law_most", "_law_falling"] (spF K R_law_tiers) := by
  refine ok_F T.F_law_tiers sc_law_tiers (fun rs res h => ?_) fun cdv A outer s H E hr => ⟨_, (pss_cons (ps_set (i := 5) sc_law_tiers.nd rfl (.inl rfl) (pe_call (ok_law_value T) (hr.mono (by decide)) (by rfl) T.g_law_value T.F_law_value.kp T.b_law_value .nil pass0 (pa_cons (pe_call (ok_law_cell_at T) (hr.mono (by decide)) (by rfl) T.g_law_cell_at T.F_law_cell_at.kp T.b_law_cell_at .nil pass0 (pa_cons (pv 0) (pa_cons (pv 1) pa_nil))) (pa_cons pe_int pa_nil))))
      (pss_cons (ps_par3 (i := 6) (j := 7) (l := 8) (by rfl) sc_law_tiers.nd rfl rfl rfl (by decide) (by decide) (by decide) rfl rfl rfl (pa_cons (pe_lst pa_nil) (pa_cons pe_int (pa_cons (pe_op op_add (pv 2) (pe_op op_mod (pe_op op_fdiv (pv 5) pe_int) (pe_op op_add (pe_op op_sub (pv 3) (pv 2)) pe_int))) pa_nil))) (by rfl))
      (pss_cons (ps_for PassesOwn.never rfl (pi_range1 rfl T.z_range (pa_cons (pe_op op_add pe_int (pe_op op_mod (pv 5) pe_int)) pa_nil)) (pg_name (i := 9) sc_law_tiers.nd rfl (.inl rfl)) (pss_cons (ps_set (i := 10) sc_law_tiers.nd rfl (.inl rfl) (pe_op op_fdiv (pe_call (ok_law_value T) (hr.mono (by decide)) (by rfl) T.g_law_value T.F_law_value.kp T.b_law_value .nil pass0 (pa_cons (pe_op op_add (pe_call (ok_law_cell_at T) (hr.mono (by decide)) (by rfl) T.g_law_cell_at T.F_law_cell_at.kp T.b_law_cell_at .nil pass0 (pa_cons (pv 0) (pa_cons (pe_op op_add (pv 1) (pe_op op_mod (pv 9) pe_int)) pa_nil))) (pe_op op_mul pe_int (pv 9))) (pa_cons (pe_op op_add pe_int (pv 9)) pa_nil))) pe_int))
      (pss_cons (ps_expr (k_bm (K := K) PySem.F.plainAttrs_list PySem.F.slot_list_append PySem.F.type_list_append mt_append (pv 6) (pa_cons (pe_tup (pa_cons (pv 7) (pa_cons (pv 8) pa_nil))) pa_nil)))
      (pss_cons (ps_set (i := 7) sc_law_tiers.nd rfl (.inl rfl) (pe_op op_add (pe_op op_add (pv 7) pe_int) (pe_op op_mod (pv 10) (pe_ix (k_ix (K := K)) (pe_tup (pa_cons pe_int (pa_cons pe_int (pa_cons pe_int (pa_cons pe_int pa_nil))))) (pe_op op_mod (pe_op op_fdiv (pv 5) pe_int) pe_int) (fun _ _ => rfl)))))
      (pss_cons (ps_set (i := 8) sc_law_tiers.nd rfl (.inl rfl) (pe_op op_add (pv 2) (pe_op op_mod (pe_op op_fdiv (pv 10) pe_int) (pe_op op_add (pe_op op_sub (pv 3) (pv 2)) pe_int))))
      (pss_cons (ps_if (PW.pt (pw_and (pt_val (pv 4)) (pw_and1 (pt_cmpR op_gt (pv 8) (pe_ix (k_ix (K := K)) (pe_ix (k_ix (K := K)) (pv 6) (pe_un un_neg pe_int) (fun _ _ => rfl)) pe_int (fun _ _ => rfl)) (nomark _))))) (pss_one (ps_set (i := 8) sc_law_tiers.nd rfl (.inl rfl) (pe_op op_add (pv 2) (pe_op op_fdiv (pe_op op_sub (pe_ix (k_ix (K := K)) (pe_ix (k_ix (K := K)) (pv 6) (pe_un un_neg pe_int) (fun _ _ => rfl)) pe_int (fun _ _ => rfl)) (pv 2)) (pe_op op_add pe_int (pe_op op_mod (pe_op op_fdiv (pv 10) pe_int) pe_int)))))) pss_nil)
      (pss_one (ps_if (pt_cmpR op_gt (pv 7) pe_int (nomark _)) (pss_one ps_break) pss_nil))))))))
      (pss_one (ps_ret (pv 6)))))), fun rs res h => ?_⟩
  · obtain ⟨ns, b, least, most, fal, rfl, hcells, hb0, hb1, hl0, hlm, hm1, rfl⟩ := h
    rfl
  · obtain ⟨ns, b, least, most, fal, rfl, hcells, hb0, hb1, hl0, hlm, hm1, rfl⟩ := h
    have hv0 := valueOf_nn (cellAt ns b) 3
    have hdef : tiersOf ns b least most fal = tiersGo ns b least most fal (valueOf (cellAt ns b) 3) (natsI (1 + valueOf (cellAt ns b) 3 % 3).toNat) [] 0 (least + valueOf (cellAt ns b) 3 / 5 % (most - least + 1)) := rfl
    rw [hdef]
    obtain ⟨n, hn, hcell⟩ := hcells.at b
    generalize hv : valueOf (cellAt ns b) 3 = v at hv0
    have hw := wideOf_pos v
    have e0 : 0 ≤ v % 3 := Int.emod_nonneg _ (by decide)
    have e1 : v % 3 < 3 := Int.emod_lt_of_pos _ (by decide)
    refine p_seq (sx_set (r := .dat (.int v)) (ev_call (ea_cons (ev_call (ea_cons (ev_var rfl) (ea_cons (ev_var rfl) ea_nil)) (spF_D ⟨ns, b, rfl, hb0, rfl⟩)) (ea_cons ev_int ea_nil)) (spF_D ⟨_, 3, n, rfl, hcell, by omega, by decide, by decide, by rw [hv]⟩))) ?_
    refine p_seq (sx_par3O (ds := []) (x := .int 0) (y := .int (least + v / 5 % (most - least + 1))) rfl rfl (ev_lst (ds := []) ea_nil (by decide)) ev_int (ev_II (ev_var rfl) (ev_IIc (ev_IIc (ev_var rfl) ev_int ⟨by decide, by decide⟩) (ev_II (ev_II (ev_var rfl) (ev_var rfl)) ev_int) (show 0 < most - least + 1 by omega)))) ?_
    refine p_for (A := D.int) (l := natsI (1 + v % 3).toNat) (is := [9]) (fun l ρ => ∃ (found : List (Int × Int)) (count amount : Int) (s9 s10 : Sl), ρ = [.dat (intsD ns), .dat (.int b), .dat (.int least), .dat (.int most), .dat (.bl fal), .dat (.int v), .own (found.map prD), .dat (.int count), .dat (.int amount), s9, s10] ∧ (∀ a ∈ l, 0 ≤ a ∧ a < 3) ∧ found.length + l.length ≤ 1000 ∧
        tiersGo ns b least most fal v (natsI (1 + v % 3).toNat) [] 0 (least + v / 5 % (most - least + 1)) = tiersGo ns b least most fal v l found count amount) ?_ ⟨[], 0, _, .no, .no, rfl, ?_, ?_, rfl⟩ ?_ ?_
    · rw [natsI_range]
      exact src_range1 (ea_cons (ev_II ev_int (ev_IIc (ev_var rfl) ev_int (show (0 : Int) < 3 by decide))) ea_nil) (show -(2 ^ 62) ≤ 1 + v % 3 by omega) (show 1 + v % 3 < 2 ^ 62 by omega)
    · intro a ha
      unfold natsI at ha
      obtain ⟨i, hi, rfl⟩ := List.mem_map.mp ha
      rw [List.mem_range] at hi
      omega
    · simp [natsI]
      omega
    · rintro a r ρ ⟨found, count, amount, s9, s10, rfl, hlr, hlen, hgo⟩
      have ha := hlr a (by simp)
      obtain ⟨n2, hn2, hcell2⟩ := hcells.more (b + a % 3) (17 * a) (by have : (2 : Nat) ^ 20 = 1048576 := by decide
                                                                       omega)
      have hlast : atI ((found ++ [(count, amount)]).map prD) (-1) = some (prD (count, amount)) := by
        rw [List.map_append]
        exact atI_last _ _
      have eapp : found.map prD ++ [prD (count, amount)] = (found ++ [(count, amount)]).map prD := by rw [List.map_append]; rfl
      have d2 : 0 ≤ numberOf ns b a / 2000 % 3 := Int.emod_nonneg _ (by decide)
      have dlt : numberOf ns b a / 2000 % 3 < 3 := Int.emod_lt_of_pos _ (by decide)
      have c1 : CDiv (numberOf ns b a) 12 := ⟨by decide, by decide⟩
      have c2 : CDiv (numberOf ns b a) 2000 := ⟨by decide, by decide⟩
      have c3 : CDiv v 1000 := ⟨by decide, by decide⟩
      have c4 : CDiv (valueOf (cellAt ns (b + a % 3) + 17 * a) (4 + a)) 3 := ⟨by decide, by decide⟩
      refine ⟨_, tg_name, ?_⟩
      refine p_seq (sx_set (r := .dat (.int (numberOf ns b a))) (ev_IIc (ev_call (ea_cons (ev_II (ev_call (ea_cons (ev_var rfl) (ea_cons (ev_II (ev_var rfl) (ev_IIc (ev_var rfl) ev_int (show (0 : Int) < 3 by decide))) ea_nil)) (spF_D ⟨ns, b + a % 3, rfl, by omega, rfl⟩)) (ev_IIc ev_int (ev_var rfl) (.inl ⟨by decide, by decide⟩))) (ea_cons (ev_II ev_int (ev_var rfl)) ea_nil)) (spF_D ⟨_, 4 + a, n2, rfl, hcell2, hn2, by omega, by omega, rfl⟩)) ev_int c4)) ?_
      refine p_seq (sx_append (ds := found.map prD) rfl (ev_tup (ds := [.int count, .int amount]) (ea_cons (ev_var rfl) (ea_cons (ev_var rfl) ea_nil)) (by simp)) (by rw [List.length_map]; simp at hlen; omega)) ?_
      refine p_seq (sx_set (r := .dat (.int (countNext v count (numberOf ns b a)))) (ev_II (ev_II (ev_var rfl) ev_int) (ev_IIc (ev_var rfl) (ev_ixT (ev_tup (ds := [.int 3, .int 6, .int 18, .int 4]) (ea_cons ev_int (ea_cons ev_int (ea_cons ev_int (ea_cons ev_int ea_nil)))) (by decide)) (ev_IIc (ev_IIc (ev_var rfl) ev_int c3) ev_int (show (0 : Int) < 4 by decide)) hw.2.2) (show 0 < wideOf v by omega)))) ?_
      refine p_seq (sx_set (r := .dat (.int (least + numberOf ns b a / 12 % (most - least + 1)))) (ev_II (ev_var rfl) (ev_IIc (ev_IIc (ev_var rfl) ev_int c1) (ev_II (ev_II (ev_var rfl) (ev_var rfl)) ev_int) (show 0 < most - least + 1 by omega)))) ?_
      have fin : ∀ (ρ : List Sl), ρ = [.dat (intsD ns), .dat (.int b), .dat (.int least), .dat (.int most), .dat (.bl fal), .dat (.int v), .own ((found ++ [(count, amount)]).map prD), .dat (.int (countNext v count (numberOf ns b a))), .dat (.int (amountNext fal least most amount (numberOf ns b a))), .dat (.int a), .dat (.int (numberOf ns b a))] →
          SP K E (tIfS (tTest (tOp (rI0 fun i j => .bl (decide (j < i))) (tVar 7) (tC (.int 36)))) tBreak tNext) ρ (TurnP K E (tRet (tVar 6)) (fun o => Ans o (.own ((tiersGo ns b least most fal v (natsI (1 + v % 3).toNat) [] 0 (least + v / 5 % (most - least + 1))).map prD))) fun ρ => ∃ (found : List (Int × Int)) (count amount : Int) (s9 s10 : Sl), ρ = [.dat (intsD ns), .dat (.int b), .dat (.int least), .dat (.int most), .dat (.bl fal), .dat (.int v), .own (found.map prD), .dat (.int count), .dat (.int amount), s9, s10] ∧ (∀ a ∈ r, 0 ≤ a ∧ a < 3) ∧ found.length + r.length ≤ 1000 ∧
            tiersGo ns b least most fal v (natsI (1 + v % 3).toNat) [] 0 (least + v / 5 % (most - least + 1)) = tiersGo ns b least most fal v r found count amount) := fun ρ e => by
        subst e
        refine p_if (et_test (ev_IB (ev_var rfl) ev_int)) (fun z => p_brk ?_) (fun z => p_next ?_)
        · refine p_retOwn rfl (.inl ?_)
          rw [hgo]
          show _ = Out.rt (Sl.own (List.map prD (if _ then _ else _)))
          rw [if_pos (of_decide_eq_true z)]
        · refine ⟨found ++ [(count, amount)], _, _, _, _, rfl, fun x hx => hlr x (by simp [hx]), by simp at hlen ⊢; omega, ?_⟩
          rw [hgo]
          show (if _ then _ else _) = _
          rw [if_neg (of_decide_eq_false z)]
      refine p_ifq (EvT.borrow (i := 6) (ds := found.map prD ++ [prD (count, amount)]) rfl (et_and (et_B (ev_var rfl)) fun _ => et_test (ev_IB (ev_var rfl) (ev_ixT (ev_ixL (ev_var rfl) (ev_neg ev_int) (by rw [eapp]; exact hlast)) ev_int rfl)))) (fun z => ?_) (fun z => ?_)
      · refine p_seq (sx_set (r := .dat (.int (least + (amount - least) / (2 + numberOf ns b a / 2000 % 3)))) (ev_II (ev_var rfl) (ev_IIc (ev_II (Ev.borrow (i := 6) (ds := found.map prD ++ [prD (count, amount)]) rfl rfl (ev_ixT (ev_ixL (ev_var rfl) (ev_neg ev_int) (by rw [eapp]; exact hlast)) ev_int rfl)) (ev_var rfl)) (ev_II ev_int (ev_IIc (ev_IIc (ev_var rfl) ev_int c2) ev_int (show (0 : Int) < 3 by decide))) (show 0 < 2 + numberOf ns b a / 2000 % 3 ∧ 2 + numberOf ns b a / 2000 % 3 < 1073741824 by omega)))) ?_
        refine fin _ ?_
        rw [← eapp, amountNext, if_pos z]
        rfl
      · refine p_skip (fin _ ?_)
        rw [← eapp, amountNext, if_neg (by rw [z]; decide)]
        rfl
    · rintro ρ ⟨found, count, amount, s9, s10, rfl, _, _, hgo⟩
      refine p_retOwn rfl (.inl ?_)
      rw [hgo]
      rfl
theorem ok_check_tariff (T : Tx K mg f fd tk C) : FnOk P w K mg base CX0 4 (f 13) (fd 13) ["tariff"] (spF K R_check_tariff) := by
  refine ok_F T.F_check_tariff sc_check_tariff (fun rs res h => ?_) fun cdv A outer s H E hr => ⟨_, (pss_cons (ps_if (PW.pt (pw_or (pt_not (pt_val (pe_callB (k_isi (K := K)) (by rfl) T.z_isinstance (by decide +kernel) (pa_cons (pv 0) (pa_cons (pe_bltn (v := .ty "tuple") (by rfl) T.z_tuple (by decide +kernel) rfl) pa_nil))))) (pw_or1 (pt_cmpR op_ne (pe_callB (k_len (K := K)) (by rfl) T.z_len (by decide +kernel) (pa_cons (pv 0) pa_nil)) pe_int (nomark _))))) (pss_one ps_never) pss_nil)
      (pss_one (ps_if (PW.pt (pw_or (pt_not (pt_val (pe_call (ok_are_tiers T) (hr.mono (by decide)) (by rfl) T.g_are_tiers T.F_are_tiers.kp T.b_are_tiers .nil pass0 (pa_cons (pe_ix (k_ix (K := K)) (pv 0) pe_int (fun _ _ => rfl)) (pa_cons pe_int (pa_cons (pe_glob (v := .int 60) (by rfl) T.c_MOST_PRICE ⟨_, rfl⟩) pa_nil)))))) (pw_or1 (pt_not (pt_val (pe_call (ok_are_tiers T) (hr.mono (by decide)) (by rfl) T.g_are_tiers T.F_are_tiers.kp T.b_are_tiers .nil pass0 (pa_cons (pe_ix (k_ix (K := K)) (pv 0) pe_int (fun _ _ => rfl)) (pa_cons pe_int (pa_cons (pe_glob (v := .int 200) (by rfl) T.c_MOST_CARRIAGE ⟨_, rfl⟩) pa_nil))))))))) (pss_one ps_never) pss_nil))), fun rs res h => ?_⟩
  · obtain ⟨d, rfl, hn, ht, rfl⟩ := h
    rfl
  · obtain ⟨d, rfl, hn, ht, rfl⟩ := h
    obtain ⟨x, y, rfl, hx, hy⟩ := isTariff_is ht
    have h1 := noOb_not hn
    rw [noOb] at hn
    have nx := noObs_mem hn x (by simp)
    have ny := noObs_mem hn y (by simp)
    exact ⟨_, sx_ifq (b := false) (EvT.is (et_or (et_not (et_B (ev_isTup (ev_var rfl) h1))) fun _ => et_test (ev_neI (ev_lenT (ev_var rfl)) ev_int)) rfl) (fun z => by cases z) (fun _ => sx_skip
      (sx_if (b := false) (EvT.is (et_or (et_not (et_B (ev_call (ea_cons (ev_ixT (ev_var rfl) ev_int rfl) (ea_cons ev_int (ea_cons ev_int ea_nil))) (spF_D ⟨x, 1, 60, rfl, nx, rfl⟩)))) fun _ => et_not (et_B (ev_call (ea_cons (ev_ixT (ev_var rfl) ev_int rfl) (ea_cons ev_int (ea_cons ev_int ea_nil))) (spF_D ⟨y, 0, 200, rfl, ny, rfl⟩)))) (by rw [hx, hy]; rfl)) (fun z => by cases z) (fun _ => sx_next))), .inr ⟨rfl, _, rfl⟩⟩
theorem ok_law_tariff (T : Tx K mg f fd tk C) : FnOk P w K mg base CX0 4 (f 14) (fd 14) ["_law_script", "_law_by"] (spF K R_law_tariff) := by
  refine ok_F T.F_law_tariff sc_law_tariff (fun rs res h => ?_) fun cdv A outer s H E hr => ⟨_, (pss_cons (ps_set (i := 2) sc_law_tariff.nd rfl (.inl rfl) (pe_op op_mod (pe_call (ok_law_value T) (hr.mono (by decide)) (by rfl) T.g_law_value T.F_law_value.kp T.b_law_value .nil pass0 (pa_cons (pe_call (ok_law_cell_at T) (hr.mono (by decide)) (by rfl) T.g_law_cell_at T.F_law_cell_at.kp T.b_law_cell_at .nil pass0 (pa_cons (pv 0) (pa_cons (pv 1) pa_nil))) (pa_cons pe_int pa_nil))) pe_int))
      (pss_cons (ps_set (i := 3) sc_law_tariff.nd rfl (.inl rfl) (pe_call (ok_law_tiers T) (hr.mono (by decide)) (by rfl) T.g_law_tiers T.F_law_tiers.kp T.b_law_tiers .nil pass0 (pa_cons (pv 0) (pa_cons (pv 1) (pa_cons pe_int (pa_cons pe_int (pa_cons (pe_cmpR op_gt (pv 2) pe_int (nomark _)) pa_nil)))))))
      (pss_one (ps_ret (pe_tup (pa_cons (pv 3) (pa_cons (pe_call (ok_law_tiers T) (hr.mono (by decide)) (by rfl) T.g_law_tiers T.F_law_tiers.kp T.b_law_tiers .nil pass0 (pa_cons (pv 0) (pa_cons (pe_op op_add (pv 1) pe_int) (pa_cons pe_int (pa_cons (pe_ix (k_ix (K := K)) (pe_tup (pa_cons pe_int (pa_cons pe_int (pa_cons pe_int (pa_cons pe_int pa_nil))))) (pv 2) (fun _ _ => rfl)) (pa_cons (pe_cmpR op_eq (pv 2) pe_int (nomark _)) pa_nil)))))) pa_nil))))))), fun rs res h => ?_⟩
  · obtain ⟨ns, b, rfl, hcells, hb0, hb1, rfl⟩ := h
    rfl
  · obtain ⟨ns, b, rfl, hcells, hb0, hb1, rfl⟩ := h
    obtain ⟨n, hn, hcell⟩ := hcells.at b
    have hk := kind_in ns b
    have hm := mostOf_ok hk.1 hk.2
    refine p_seq (sx_set (r := .dat (.int (kindOf' ns b))) (ev_IIc (ev_call (ea_cons (ev_call (ea_cons (ev_var rfl) (ea_cons (ev_var rfl) ea_nil)) (spF_D ⟨ns, b, rfl, hb0, rfl⟩)) (ea_cons ev_int ea_nil)) (spF_D ⟨_, 2, n, rfl, hcell, by omega, by decide, by decide, rfl⟩)) ev_int (show (0 : Int) < 4 by decide))) ?_
    refine p_seq (sx_set (Ev.fz (ev_call (ea_cons (ev_var rfl) (ea_cons (ev_var rfl) (ea_cons ev_int (ea_cons ev_int (ea_cons (ev_IB (ev_var rfl) ev_int) ea_nil))))) (spF_D ⟨ns, b, 1, 60, _, rfl, hcells, hb0, by omega, by decide, by decide, by decide, rfl⟩)))) ?_
    refine p_ret (ev_tup (ds := [tiersD (tariffOf ns b).1, tiersD (tariffOf ns b).2]) (ea_cons (ev_var rfl) (ea_cons (Ev.fz (ev_call (ea_cons (ev_var rfl) (ea_cons (ev_II (ev_var rfl) ev_int) (ea_cons ev_int (ea_cons (ev_ixT (ev_tup (ds := [.int 200, .int 30, .int 200, .int 9]) (ea_cons ev_int (ea_cons ev_int (ea_cons ev_int (ea_cons ev_int ea_nil)))) (by decide)) (ev_var rfl) hm.2.2) (ea_cons (ev_eqI (ev_var rfl) ev_int) ea_nil))))) (spF_D ⟨ns, b + 1, 0, mostOf (kindOf' ns b), _, rfl, hcells, by omega, by omega, by decide, hm.1, by omega, rfl⟩))) ea_nil)) (by simp)) (.inl rfl)
theorem ok_cost (T : Tx K mg f fd tk C) : FnOk P w K mg base CX0 5 (f 15) (fd 15) ["tariff", "count"] (spF K R_cost) := by
  refine ok_F T.F_cost sc_cost (fun rs res h => ?_) fun cdv A outer s H E hr => ⟨_, (pss_cons (ps_expr (pe_call (ok_check_tariff T) (hr.mono (by decide)) (by rfl) T.g_check_tariff T.F_check_tariff.kp T.b_check_tariff .nil pass0 (pa_cons (pv 0) pa_nil)))
      (pss_cons (ps_expr (pe_call (ok_check_count T) (hr.mono (by decide)) (by rfl) T.g_check_count T.F_check_count.kp T.b_check_count .nil pass0 (pa_cons (pv 1) pa_nil)))
      (pss_one (ps_ret (pe_call (ok_cost_of T) (hr.mono (by decide)) (by rfl) T.g_cost_of T.F_cost_of.kp T.b_cost_of .nil pass0 (pa_cons (pv 0) (pa_cons (pv 1) pa_nil))))))), fun rs res h => ?_⟩
  · obtain ⟨t, c, rfl, ht, h0, h1, rfl⟩ := h
    rfl
  · obtain ⟨t, c, rfl, ht, h0, h1, rfl⟩ := h
    exact ⟨_, sx_seq (sx_drop (ev_call (ea_cons (ev_var rfl) ea_nil) (spF_D ⟨_, rfl, noOb_tariff t, isTariff_of ht, rfl⟩))) (sx_seq (sx_drop (ev_call (ea_cons (ev_var rfl) ea_nil) (spF_D ⟨_, rfl, rfl, isCount_of h0 h1, rfl⟩))) (sx_ret (ev_call (ea_cons (ev_var rfl) (ea_cons (ev_var rfl) ea_nil)) (spF_D ⟨t, c, rfl, ht, h0, by omega, rfl⟩)))), .inl rfl⟩
theorem ok_cheaper (T : Tx K mg f fd tk C) : FnOk P w K mg base CX0 5 (f 16) (fd 16) ["tariff", "count"] (spF K R_cheaper) := by
  refine ok_F T.F_cheaper sc_cheaper (fun rs res h => ?_) fun cdv A outer s H E hr => ⟨_, (pss_cons (ps_expr (pe_call (ok_check_tariff T) (hr.mono (by decide)) (by rfl) T.g_check_tariff T.F_check_tariff.kp T.b_check_tariff .nil pass0 (pa_cons (pv 0) pa_nil)))
      (pss_cons (ps_expr (pe_call (ok_check_count T) (hr.mono (by decide)) (by rfl) T.g_check_count T.F_check_count.kp T.b_check_count .nil pass0 (pa_cons (pv 1) pa_nil)))
      (pss_cons (ps_for PassesOwn.never rfl (pi_range2 rfl T.z_range (pa_cons (pe_op op_add (pv 1) pe_int) (pa_cons (pe_op op_add (pe_glob (v := .int 36) (by rfl) T.c_MOST_COUNT ⟨_, rfl⟩) pe_int) pa_nil))) (pg_name (i := 2) sc_cheaper.nd rfl (.inl rfl)) (pss_one (ps_if (pt_cmpR op_lt (pe_call (ok_cost_of T) (hr.mono (by decide)) (by rfl) T.g_cost_of T.F_cost_of.kp T.b_cost_of .nil pass0 (pa_cons (pv 0) (pa_cons (pv 2) pa_nil))) (pe_call (ok_cost_of T) (hr.mono (by decide)) (by rfl) T.g_cost_of T.F_cost_of.kp T.b_cost_of .nil pass0 (pa_cons (pv 0) (pa_cons (pv 1) pa_nil))) (nomark _)) (pss_one (ps_ret (pv 2))) pss_nil)))
      (pss_one (ps_ret pe_non))))), fun rs res h => ?_⟩
  · obtain ⟨t, c, rfl, ht, h0, h1, rfl⟩ := h
    rfl
  · obtain ⟨t, c, rfl, ht, h0, h1, rfl⟩ := h
    refine p_seq (sx_drop (ev_call (ea_cons (ev_var rfl) ea_nil) (spF_D ⟨_, rfl, noOb_tariff t, isTariff_of ht, rfl⟩))) ?_
    refine p_seq (sx_drop (ev_call (ea_cons (ev_var rfl) ea_nil) (spF_D ⟨_, rfl, rfl, isCount_of h0 h1, rfl⟩))) ?_
    refine p_for (A := D.int) (l := above c) (is := [2]) (fun l ρ => ∃ s, ρ = [.dat (tariffD t), .dat (.int c), s] ∧ (∀ m ∈ l, 0 ≤ m ∧ m ≤ 1000) ∧ cheaperOf t c = l.find? fun m => decide (costOf t m < costOf t c)) ?_ ⟨.no, rfl, above_bound h0 h1, rfl⟩ ?_ ?_
    · rw [above_range]
      exact src_range2 (ea_cons (ev_II (ev_var rfl) ev_int) (ea_cons (ev_II ev_int ev_int) ea_nil)) ⟨by omega, by omega, by decide, by decide⟩
    · rintro m r ρ ⟨s, rfl, hb, hf⟩
      have hm := hb m (by simp)
      refine ⟨_, tg_name, p_if (et_test (ev_IB (ev_call (ea_cons (ev_var rfl) (ea_cons (ev_var rfl) ea_nil)) (spF_D ⟨t, m, rfl, ht, hm.1, hm.2, rfl⟩)) (ev_call (ea_cons (ev_var rfl) (ea_cons (ev_var rfl) ea_nil)) (spF_D ⟨t, c, rfl, ht, h0, by omega, rfl⟩)))) (fun z => p_ret (ev_var rfl) (.inl ?_)) (fun z => p_next ⟨_, rfl, fun x hx => hb x (by simp [hx]), ?_⟩)⟩
      · rw [hf]
        simp only [List.find?_cons, z]
        rfl
      · rw [hf]
        simp only [List.find?_cons, z]
    · rintro ρ ⟨s, rfl, _, hf⟩
      refine p_ret ev_non (.inl ?_)
      rw [hf]
      rfl
theorem ok_law (T : Tx K mg f fd tk C) : FnOk P w K mg base CX0 6 (f 17) (fd 17) ["_law_script"] (spF K R_law) := by
  refine ok_F T.F_law sc_law (fun rs res h => ?_) fun cdv A outer s H E hr => ⟨_, (pss_cons (ps_set (i := 0) sc_law.nd rfl (.inl rfl) (pe_slice (k_sl (K := K)) (pv 0) po_none (po_some pe_int)))
      (pss_cons (ps_for PassesOwn.never rfl (pi_range3 rfl T.z_range (pa_cons pe_int (pa_cons (pe_callB (call_max2 rfl) (by rfl) T.z_max (by decide +kernel) (pa_cons pe_int (pa_cons (pe_callB (call_min2 rfl) (by rfl) T.z_min (by decide +kernel) (pa_cons pe_int (pa_cons (pe_callB (k_len (K := K)) (by rfl) T.z_len (by decide +kernel) (pa_cons (pv 0) pa_nil)) pa_nil))) pa_nil))) (pa_cons pe_int pa_nil)))) (pg_name (i := 1) sc_law.nd rfl (.inl rfl)) (pss_cons (ps_set (i := 2) sc_law.nd rfl (.inr rfl) (pe_call (ok_law_tariff T) (hr.mono (by decide)) (by rfl) T.g_law_tariff T.F_law_tariff.kp T.b_law_tariff .nil pass0 (pa_cons (pv 0) (pa_cons (pv 1) pa_nil))))
      (pss_cons (ps_set (i := 3) sc_law.nd rfl (.inr rfl) (pe_tup (pa_cons (pe_callTy (k_list (K := K)) (by rfl) T.z_list (by decide +kernel) (pa_cons (pe_ix (k_ix (K := K)) (pv 2) pe_int (fun _ _ => rfl)) pa_nil)) (pa_cons (pe_callTy (k_list (K := K)) (by rfl) T.z_list (by decide +kernel) (pa_cons (pe_ix (k_ix (K := K)) (pv 2) pe_int (fun _ _ => rfl)) pa_nil)) pa_nil))))
      (pss_cons (ps_set (i := 4) sc_law.nd rfl (.inr rfl) (pe_lc (own := [("_law_count", 5)]) (g := (gName 5)) (by rfl) sc_law.nd (pi_range1 rfl T.z_range (pa_cons pe_int pa_nil)) (blkOk_by (N := ["_law_script", "_law_by", "_law_tariff_here", "_law_handed", "_law_due", "_law_count", "_law_more", "_law_found", "_law_last", "_law_other"]) (sc := defScope s_law) (by decide +kernel)) (fun _ _ _ _ _ => (pg_name (i := 5) sc_law.nd rfl (.inl rfl))) (fun _ _ _ _ _ => pts_nil) (fun _ _ _ _ _ => (pe_call (ok_law_cost T) (hr.mono (by decide)) (by rfl) T.g_law_cost T.F_law_cost.kp T.b_law_cost .nil pass0 (pa_cons (pv 2) (pa_cons (pv 5) pa_nil))))))
      (pss_cons (ps_if (PW.pt (pw_or (pt_cmpR (k_neD (K := K) hr.units) (pe_lc (own := [("_law_count", 5)]) (g := (gName 5)) (by rfl) sc_law.nd (pi_range1 rfl T.z_range (pa_cons pe_int pa_nil)) (blkOk_by (N := ["_law_script", "_law_by", "_law_tariff_here", "_law_handed", "_law_due", "_law_count", "_law_more", "_law_found", "_law_last", "_law_other"]) (sc := defScope s_law) (by decide +kernel)) (fun _ _ _ _ _ => (pg_name (i := 5) sc_law.nd rfl (.inl rfl))) (fun _ _ _ _ _ => pts_nil) (fun _ _ _ _ _ => (pe_call (ok_cost T) (hr.mono (by decide)) (by rfl) T.g_cost T.F_cost.kp T.b_cost .nil pass0 (pa_cons (pv 3) (pa_cons (pv 5) pa_nil))))) (pv 4) (nomark _)) (pw_or1 (pt_not (pt_val (pe_call (ok_law_whole T) (hr.mono (by decide)) (by rfl) T.g_law_whole T.F_law_whole.kp T.b_law_whole .nil pass0 (pa_cons (pe_call (ok_cost T) (hr.mono (by decide)) (by rfl) T.g_cost T.F_cost.kp T.b_cost .nil pass0 (pa_cons (pv 3) (pa_cons pe_int pa_nil))) pa_nil))))))) (pss_one (ps_ret pe_bl)) pss_nil)
      (pss_cons (ps_for PassesOwn.never rfl (pi_range1 rfl T.z_range (pa_cons pe_int pa_nil)) (pg_name (i := 5) sc_law.nd rfl (.inr rfl)) (pss_cons (ps_setLc (i := 6) (own := [("_law_other", 9)]) (g := (gName 9)) (by rfl) sc_law.nd rfl rfl (sw_true rfl rfl rfl (by decide +kernel)) (pi_range2 rfl T.z_range (pa_cons (pe_op op_add (pv 5) pe_int) (pa_cons pe_int pa_nil))) (blkOk_by (N := ["_law_script", "_law_by", "_law_tariff_here", "_law_handed", "_law_due", "_law_count", "_law_more", "_law_found", "_law_last", "_law_other"]) (sc := defScope s_law) (by decide +kernel)) (fun _ _ _ _ _ => (pg_name (i := 9) sc_law.nd rfl (.inl rfl))) (fun _ _ _ _ _ => (pts_one (pt_cmpR op_lt (pe_ix (k_ix (K := K)) (pv 4) (pv 9) (fun _ _ => rfl)) (pe_ix (k_ix (K := K)) (pv 4) (pv 5) (fun _ _ => rfl)) (nomark _)))) (fun _ _ _ _ _ => (pv 9)))
      (pss_cons (ps_set (i := 7) sc_law.nd rfl (.inl rfl) (pe_call (ok_cheaper T) (hr.mono (by decide)) (by rfl) T.g_cheaper T.F_cheaper.kp T.b_cheaper .nil pass0 (pa_cons (pv 3) (pa_cons (pv 5) pa_nil))))
      (pss_one (ps_if (PW.pt (pw_or (pt_cmpR (k_neD (K := K) hr.units) (pv 7) (pe_ifExp (pt_cmpR (k_neD (K := K) hr.units) (pv 6) (pe_lst pa_nil) (nomark _)) (pe_ix (k_ix (K := K)) (pv 6) pe_int (fun _ _ => rfl)) pe_non) (nomark _)) (pw_or1 (PW.pt (pw_and (pt_cmpR op_notN (pv 7) pe_non (nomark _)) (pw_and1 (pt_not (pt_val (pe_call (ok_law_whole T) (hr.mono (by decide)) (by rfl) T.g_law_whole T.F_law_whole.kp T.b_law_whole .nil pass0 (pa_cons (pv 7) pa_nil)))))))))) (pss_one (ps_ret pe_bl)) pss_nil)))))
      (pss_cons (ps_if (pt_cmpR (k_neD (K := K) hr.units) (pv 3) (pv 2) (nomark _)) (pss_one (ps_ret pe_bl)) pss_nil)
      (pss_cons (ps_asg (pe_tup (pa_cons (pe_tup (pa_cons pe_int (pa_cons (pe_op op_sub pe_int (pe_ix (k_ix (K := K)) (pe_ix (k_ix (K := K)) (pe_ix (k_ix (K := K)) (pv 3) pe_int (fun _ _ => rfl)) pe_int (fun _ _ => rfl)) pe_int (fun _ _ => rfl))) pa_nil))) (pa_cons (pe_tup (pa_cons (pe_ix (k_ix (K := K)) (pe_ix (k_ix (K := K)) (pe_ix (k_ix (K := K)) (pv 3) pe_int (fun _ _ => rfl)) (pe_un un_neg pe_int) (fun _ _ => rfl)) pe_int (fun _ _ => rfl)) (pa_cons pe_int pa_nil))) pa_nil))) (k_tup (K := K) rfl (pgs_cons (pg_sub (pe_ix (k_ix (K := K)) (pv 3) pe_int (fun _ _ => rfl)) pe_int set_list) (pgs_cons (pg_sub (pe_ix (k_ix (K := K)) (pv 3) pe_int (fun _ _ => rfl)) (pe_un un_neg pe_int) set_list) pgs_nil))))
      (pss_one (ps_if (pt_cmpR (k_neD (K := K) hr.units) (pe_lc (own := [("_law_count", 5)]) (g := (gName 5)) (by rfl) sc_law.nd (ki_tup (K := K) (pe_tup (pa_cons pe_int (pa_cons pe_int (pa_cons pe_int pa_nil))))) (blkOk_by (N := ["_law_script", "_law_by", "_law_tariff_here", "_law_handed", "_law_due", "_law_count", "_law_more", "_law_found", "_law_last", "_law_other"]) (sc := defScope s_law) (by decide +kernel)) (fun _ _ _ _ _ => (pg_name (i := 5) sc_law.nd rfl (.inl rfl))) (fun _ _ _ _ _ => pts_nil) (fun _ _ _ _ _ => (pe_call (ok_cost T) (hr.mono (by decide)) (by rfl) T.g_cost T.F_cost.kp T.b_cost .nil pass0 (pa_cons (pv 3) (pa_cons (pv 5) pa_nil))))) (pe_lc (own := [("_law_count", 5)]) (g := (gName 5)) (by rfl) sc_law.nd (ki_tup (K := K) (pe_tup (pa_cons pe_int (pa_cons pe_int (pa_cons pe_int pa_nil))))) (blkOk_by (N := ["_law_script", "_law_by", "_law_tariff_here", "_law_handed", "_law_due", "_law_count", "_law_more", "_law_found", "_law_last", "_law_other"]) (sc := defScope s_law) (by decide +kernel)) (fun _ _ _ _ _ => (pg_name (i := 5) sc_law.nd rfl (.inl rfl))) (fun _ _ _ _ _ => pts_nil) (fun _ _ _ _ _ => (pe_call (ok_law_cost T) (hr.mono (by decide)) (by rfl) T.g_law_cost T.F_law_cost.kp T.b_law_cost .nil pass0 (pa_cons (pv 3) (pa_cons (pv 5) pa_nil))))) (nomark _)) (pss_one (ps_ret pe_bl)) pss_nil))))))))))
      (pss_cons (ps_set (i := 8) sc_law.nd rfl (.inr rfl) (pe_tup (pa_cons (pe_lst (pa_cons (pe_tup (pa_cons pe_int (pa_cons pe_int pa_nil))) (pa_cons (pe_tup (pa_cons pe_int (pa_cons pe_int pa_nil))) pa_nil))) (pa_cons (pe_lst (pa_cons (pe_tup (pa_cons pe_int (pa_cons pe_int pa_nil))) pa_nil)) pa_nil))))
      (pss_cons (ps_if (pt_cmpR (k_neD (K := K) hr.units) (pe_lc (own := [("_law_count", 5)]) (g := (gName 5)) (by rfl) sc_law.nd (ki_tup (K := K) (pe_tup (pa_cons pe_int (pa_cons pe_int (pa_cons pe_int pa_nil))))) (blkOk_by (N := ["_law_script", "_law_by", "_law_tariff_here", "_law_handed", "_law_due", "_law_count", "_law_more", "_law_found", "_law_last", "_law_other"]) (sc := defScope s_law) (by decide +kernel)) (fun _ _ _ _ _ => (pg_name (i := 5) sc_law.nd rfl (.inl rfl))) (fun _ _ _ _ _ => pts_nil) (fun _ _ _ _ _ => (pe_call (ok_cheaper T) (hr.mono (by decide)) (by rfl) T.g_cheaper T.F_cheaper.kp T.b_cheaper .nil pass0 (pa_cons (pv 8) (pa_cons (pv 5) pa_nil))))) (pe_lst (pa_cons pe_non (pa_cons pe_int (pa_cons pe_int pa_nil)))) (nomark _)) (pss_one (ps_ret pe_bl)) pss_nil)
      (pss_cons (ps_set (i := 2) sc_law.nd rfl (.inr rfl) (pe_tup (pa_cons (pe_lst (pa_cons (pe_tup (pa_cons pe_int (pa_cons pe_int pa_nil))) (pa_cons (pe_tup (pa_cons pe_int (pa_cons pe_int pa_nil))) pa_nil))) (pa_cons (pe_lst (pa_cons (pe_tup (pa_cons pe_int (pa_cons pe_int pa_nil))) (pa_cons (pe_tup (pa_cons pe_int (pa_cons pe_int pa_nil))) pa_nil))) pa_nil))))
      (pss_cons (ps_if (pt_cmpR (k_neD (K := K) hr.units) (pe_lc (own := [("_law_count", 5)]) (g := (gName 5)) (by rfl) sc_law.nd (ki_tup (K := K) (pe_tup (pa_cons pe_int (pa_cons pe_int (pa_cons pe_int (pa_cons pe_int (pa_cons pe_int (pa_cons pe_int pa_nil)))))))) (blkOk_by (N := ["_law_script", "_law_by", "_law_tariff_here", "_law_handed", "_law_due", "_law_count", "_law_more", "_law_found", "_law_last", "_law_other"]) (sc := defScope s_law) (by decide +kernel)) (fun _ _ _ _ _ => (pg_name (i := 5) sc_law.nd rfl (.inl rfl))) (fun _ _ _ _ _ => pts_nil) (fun _ _ _ _ _ => (pe_call (ok_cost T) (hr.mono (by decide)) (by rfl) T.g_cost T.F_cost.kp T.b_cost .nil pass0 (pa_cons (pv 2) (pa_cons (pv 5) pa_nil))))) (pe_lst (pa_cons pe_int (pa_cons pe_int (pa_cons pe_int (pa_cons pe_int (pa_cons pe_int (pa_cons pe_int pa_nil))))))) (nomark _)) (pss_one (ps_ret pe_bl)) pss_nil)
      (pss_one (ps_ret (pe_cmpR (k_eqD (K := K) hr.units) (pe_lc (own := [("_law_count", 5)]) (g := (gName 5)) (by rfl) sc_law.nd (ki_tup (K := K) (pe_tup (pa_cons pe_int (pa_cons pe_int (pa_cons pe_int (pa_cons pe_int (pa_cons pe_int (pa_cons pe_int pa_nil)))))))) (blkOk_by (N := ["_law_script", "_law_by", "_law_tariff_here", "_law_handed", "_law_due", "_law_count", "_law_more", "_law_found", "_law_last", "_law_other"]) (sc := defScope s_law) (by decide +kernel)) (fun _ _ _ _ _ => (pg_name (i := 5) sc_law.nd rfl (.inl rfl))) (fun _ _ _ _ _ => pts_nil) (fun _ _ _ _ _ => (pe_call (ok_cheaper T) (hr.mono (by decide)) (by rfl) T.g_cheaper T.F_cheaper.kp T.b_cheaper .nil pass0 (pa_cons (pv 2) (pa_cons (pv 5) pa_nil))))) (pe_lst (pa_cons pe_non (pa_cons pe_non (pa_cons pe_int (pa_cons pe_int (pa_cons pe_int (pa_cons pe_non pa_nil))))))) (nomark _)))))))))), fun rs res h => ?_⟩
  · obtain ⟨ns, rfl, hl, hc, rfl⟩ := h
    rfl
  · obtain ⟨ns, rfl, hl, hc, rfl⟩ := h
    refine p_seq (sx_set (r := .dat (intsD ns)) (Ev.isD (Ev.fz (ev_sl (ds := ns.map .int) (ev_var rfl) eo_none (eo_some ev_int))) (by rw [cut63 hl]; rfl))) ?_
    obtain ⟨n, hrg, hn⟩ := rg2 (m := max 1 (min 6 (ns.length : Int))) (by omega) (by omega)
    refine p_for (A := D.int) (l := evens n) (is := [1]) (fun l ρ => ∃ s1 s2 s3 s4 s5 s6 s7 s8 s9, ρ = [.dat (intsD ns), s1, s2, s3, s4, s5, s6, s7, s8, s9] ∧ ∀ b ∈ l, 0 ≤ b ∧ b ≤ 8) ?_ ⟨_, _, _, _, _, _, _, _, _, rfl, fun b hb => mem_evens hb hn⟩ ?_ ?_
    · rw [evens_range]
      refine src_range3 (ea_cons ev_int (ea_cons (Ev.isD (ev_cb (ea_cons ev_int (ea_cons (ev_cb (ea_cons ev_int (ea_cons (ev_lenL (ds := ns.map .int) (ev_var rfl)) ea_nil)) cbd_min2) ea_nil)) cbd_max2) ?_) (ea_cons ev_int ea_nil))) hrg
      rw [List.length_map]
    · rintro b r ρ ⟨s1, s2, s3, s4, s5, s6, s7, s8, s9, rfl, hb⟩
      have hb1 := hb b (by simp)
      have ht := tariffOf_ok ns b
      refine ⟨_, tg_name, ?_⟩
      refine p_seq (sx_set (ev_call (ea_cons (ev_var rfl) (ea_cons (ev_var rfl) ea_nil)) (spF_D ⟨ns, b, rfl, hc, hb1.1, by omega, rfl⟩))) ?_
      generalize tariffOf ns b = t at ht
      have htl : t.1.length ≤ 1000 ∧ t.2.length ≤ 1000 := ⟨by have := ht.pr.most; omega, by have := ht.ca.most; omega⟩
      refine p_seq (sx_set (r := .ow (tarO t)) (ev_tupO (eao_cons (ev_cb (ea_cons (ev_ixT (ev_var rfl) ev_int rfl) ea_nil) (cbd_list (ds := t.1.map prD))) (eao_cons (ev_cb (ea_cons (ev_ixT (ev_var rfl) ev_int rfl) ea_nil) (cbd_list (ds := t.2.map prD))) eao_nil)) (by simp))) ?_
      -- due
      refine p_seq (sx_set (r := .dat (intsD (dueOf t))) (Ev.isD (Ev.fz (ev_lc (is := [5]) (src_natsI ev_int (by decide) (by decide)) (lc_of (F := fun c => _) (G := fun c => .int (costOf t c)) fun c hc => ⟨tg_name, ev_call (ea_cons (ev_var rfl) (ea_cons (ev_var rfl) ea_nil)) (spF_D ⟨t, c, rfl, htl, (mem_natsI hc).1, by have := (mem_natsI hc).2; omega, rfl⟩)⟩) (by simp) (by simp [natsI]))) (by simp [dueOf, intsD]))) ?_
      -- the costs
      refine p_ifq (b := false) (evt_tar (i := 3) (t := t) rfl (EvT.is (et_or (et_test (ev_neD (d := intsD (dueOf t)) (e := intsD (dueOf t)) (Ev.isD (Ev.fz (ev_lc (is := [5]) (src_natsI ev_int (by decide) (by decide)) (lc_of (F := fun c => _) (G := fun c => .int (costOf t c)) fun c hc => ⟨tg_name, ev_call (ea_cons (ev_var rfl) (ea_cons (ev_var rfl) ea_nil)) (spF_D ⟨t, c, rfl, ht, (mem_natsI hc).1, by have := (mem_natsI hc).2; omega, rfl⟩)⟩) (by simp) (by simp [natsI]))) (by simp [dueOf, intsD])) (ev_var rfl) (ok_ints _) (ok_ints _))) fun _ => et_not (et_B (ev_call (ea_cons (ev_call (ea_cons (ev_var rfl) (ea_cons ev_int ea_nil)) (spF_D ⟨t, 1, rfl, ht, by decide, by decide, rfl⟩)) ea_nil) (spF_D ⟨_, rfl, rfl, rfl⟩)))) (by rw [deq_refl (ok_ints _)]; rfl))) (fun z => by cases z) (fun _ => p_skip ?_)
      -- cheaper counts
      refine p_for (A := D.int) (l := natsI 37) (is := [5]) (fun l ρ => ∃ s5 s6 s7, ρ = [.dat (intsD ns), .dat (.int b), .dat (tariffD t), .ow (tarO t), .dat (intsD (dueOf t)), s5, s6, s7, s8, s9] ∧ ∀ c ∈ l, 0 ≤ c ∧ c ≤ 36) (src_natsI ev_int (by decide) (by decide)) ⟨_, _, _, rfl, fun c hc => by have := mem_natsI hc; omega⟩ ?_ ?_
      · rintro c r2 ρ ⟨s5, s6, s7, rfl, hcs⟩
        have hc1 := hcs c (by simp)
        refine ⟨_, tg_name, ?_⟩
        refine p_seq (sx_set (r := .dat (intsD (moreOf t c))) (Ev.fz (ev_lc (is := [9]) (xs := (above c).map D.int) (ds := (moreOf t c).map D.int) ?_ (lc_ofF (F := fun m => _) (B := fun m => decide (costOf t m < costOf t c)) (G := D.int) fun m hm => ⟨tg_name, et_test (ev_IB (ev_ixL (ev_var rfl) (ev_var rfl) (due_at (above_in hc1.1 hm).1 (above_in hc1.1 hm).2)) (ev_ixL (ev_var rfl) (ev_var rfl) (due_at hc1.1 hc1.2))), fun _ => ev_var rfl⟩) (by simp) ?_))) ?_
        · rw [above_range]
          exact src_range2 (ea_cons (ev_II (ev_var rfl) ev_int) (ea_cons ev_int ea_nil)) ⟨by omega, by omega, by decide, by decide⟩
        · rw [List.length_map]
          exact Nat.le_trans (List.length_filter_le _ _) (by simp [above]; omega)
        refine p_seq (sx_set (r := .dat (optD (cheaperOf t c))) (ev_tar (i := 3) (t := t) rfl (by cases cheaperOf t c <;> rfl) (ev_call (ea_cons (ev_var rfl) (ea_cons (ev_var rfl) ea_nil)) (spF_D ⟨t, c, rfl, ht, hc1.1, hc1.2, rfl⟩)))) ?_
        refine p_if (b := false) (EvT.is (et_or (et_test (ev_neD (d := optD (cheaperOf t c)) (e := optD (cheaperOf t c)) (ev_var rfl) (ev_if (b := !(moreOf t c).isEmpty) (EvT.is (et_test (ev_neD (ev_var rfl) (Ev.fz (ev_lst (ds := []) ea_nil (by decide))) (ok_ints _) (ok_ints []))) ?_) (fun z => ?_) (fun z => ?_)) (ok_opt _) (ok_opt _))) fun _ => et_and (b := false) (et_test (ev_notNon (ev_var rfl))) fun z => ?_) ?_) (fun z => by cases z) (fun _ => p_next ⟨_, _, _, rfl, fun x hx => hcs x (by simp [hx])⟩)
        · cases moreOf t c <;> rfl
        · rw [cheaper_more]
          cases hm : moreOf t c with
          | nil => rw [hm] at z; cases z
          | cons m q => exact ev_ixL (ds := (m :: q).map .int) (ev_var rfl) ev_int (atI_nat (j := 0) rfl)
        · rw [cheaper_more]
          cases hm : moreOf t c with
          | nil => exact ev_non
          | cons m q => rw [hm] at z; cases z
        · cases hq : cheaperOf t c with
          | none => rw [hq] at z; cases z
          | some m => exact EvT.is (et_not (et_B (ev_call (ea_cons (ev_var rfl) ea_nil) (spF_D ⟨.int m, rfl, rfl, rfl⟩)))) rfl
        · rw [deq_refl (ok_opt _)]
          simp
      · rintro ρ ⟨s5, s6, s7, rfl, _⟩
        refine p_ifq (b := false) (evt_tar (i := 3) (t := t) rfl (EvT.is (et_test (ev_neD (ev_var rfl) (ev_var rfl) (ok_tariff t) (ok_tariff t))) (by rw [deq_refl (ok_tariff t)]; rfl))) (fun z => by cases z) (fun _ => p_skip ?_)
        obtain ⟨p0, q0, e0, hp0⟩ := tiers_head ht.pr
        have hl2 := ht.ca.least
        refine p_seq (sx_asgM (d := .tup [prD (0, 61 - p0), prD ((t.2.getD (t.2.length - 1) (0, 0)).1, 7)]) (ev_tup (ds := [prD (0, 61 - p0), prD ((t.2.getD (t.2.length - 1) (0, 0)).1, 7)]) (ea_cons (ev_tup (ds := [.int 0, .int (61 - p0)]) (ea_cons ev_int (ea_cons (ev_II ev_int (ev_tar (i := 3) (t := t) rfl rfl (ev_ixT (ds := [.int 0, .int p0]) (ev_ixL (ds := t.1.map prD) (ev_ixT (ev_var rfl) ev_int rfl) ev_int (by rw [e0]; exact atI_nat (j := 0) rfl)) ev_int rfl))) ea_nil)) (by simp)) (ea_cons (ev_tup (ds := [.int (t.2.getD (t.2.length - 1) (0, 0)).1, .int 7]) (ea_cons (ev_tar (i := 3) (t := t) rfl rfl (ev_ixT (ds := [.int (t.2.getD (t.2.length - 1) (0, 0)).1, .int (t.2.getD (t.2.length - 1) (0, 0)).2]) (ev_ixL (ds := t.2.map prD) (ev_ixT (ev_var rfl) ev_int rfl) (ev_neg ev_int) (atI_pr_last hl2)) ev_int rfl)) (ea_cons ev_int ea_nil)) (by simp)) ea_nil)) (by simp))
          (tgm_two (tgm_tarA (t := t) (j := 0) rfl ev_int (ixN_zero ht.pr.least)) (tgm_tarB (t := (t.1.set 0 (0, 61 - p0), t.2)) rfl (ev_neg ev_int) (ixN_last hl2)))) ?_
        have ht2 := turned_ok ht
        have et : ((t.1.set 0 (0, 61 - p0), t.2.set (t.2.length - 1) ((t.2.getD (t.2.length - 1) (0, 0)).1, 7)) : Tariff) = turned t := by
          unfold turned
          rw [e0]
          rfl
        have htl2 : (turned t).1.length ≤ 1000 ∧ (turned t).2.length ≤ 1000 := ⟨by have := ht2.pr.most; omega, by have := ht2.ca.most; omega⟩
        have h3 : ∀ c ∈ [(1 : Int), 5, 36], 0 ≤ c ∧ c ≤ 36 := by decide
        refine p_if (b := false) (evt_tar (i := 3) (t := turned t) (by rw [← et]; rfl) (EvT.is (et_test (ev_neD (d := intsD ([1, 5, 36].map (costOf (turned t)))) (e := intsD ([1, 5, 36].map (costOf (turned t)))) (Ev.fz (ev_lc (is := [5]) (src_tup (ev_tup (ds := [1, 5, 36].map D.int) (ea_cons ev_int (ea_cons ev_int (ea_cons ev_int ea_nil))) (by decide))) (lc_of (F := fun c => _) (G := fun c => .int (costOf (turned t) c)) fun c hc => ⟨tg_name, ev_call (ea_cons (ev_var rfl) (ea_cons (ev_var rfl) ea_nil)) (spF_D ⟨turned t, c, rfl, ht2, (h3 c hc).1, (h3 c hc).2, rfl⟩)⟩) (by simp) (by simp))) (Ev.fz (ev_lc (is := [5]) (src_tup (ev_tup (ds := [1, 5, 36].map D.int) (ea_cons ev_int (ea_cons ev_int (ea_cons ev_int ea_nil))) (by decide))) (lc_of (F := fun c => _) (G := fun c => .int (costOf (turned t) c)) fun c hc => ⟨tg_name, ev_call (ea_cons (ev_var rfl) (ea_cons (ev_var rfl) ea_nil)) (spF_D ⟨turned t, c, rfl, htl2, (h3 c hc).1, by have := (h3 c hc).2; omega, rfl⟩)⟩) (by simp) (by simp))) (ok_ints _) (ok_ints _))) (by rw [deq_refl (ok_ints _)]; rfl))) (fun z => by cases z) (fun _ => p_next ⟨_, _, _, _, _, _, _, _, _, rfl, fun x hx => hb x (by simp [hx])⟩)
    · rintro ρ ⟨s1, s2, s3, s4, s5, s6, s7, s8, s9, rfl, _⟩
      have h3 : ∀ c ∈ [(4 : Int), 5, 35], 0 ≤ c ∧ c ≤ 36 := by decide
      have h6 : ∀ c ∈ [(0 : Int), 1, 4, 5, 9, 10], 0 ≤ c ∧ c ≤ 36 := by decide
      have h7 : ∀ c ∈ [(0 : Int), 1, 4, 8, 9, 36], 0 ≤ c ∧ c ≤ 36 := by decide
      have e3 : [(4 : Int), 5, 35].map (cheaperOf tarLast) = [none, some 36, some 36] := by decide +kernel
      have e6 : [(0 : Int), 1, 4, 5, 9, 10].map (costOf tarTen) = [0, 30, 60, 55, 83, 70] := by decide +kernel
      have e7 : [(0 : Int), 1, 4, 8, 9, 36].map (cheaperOf tarTen) = [none, none, some 5, some 10, some 10, none] := by decide +kernel
      refine p_seq (sx_set (r := .dat (tariffD tarLast)) (ev_tup (ds := [tiersD tarLast.1, tiersD tarLast.2]) (ea_cons (Ev.fz (ev_lst (ds := [prD (0, 9), prD (36, 1)]) (ea_cons ev_prc (ea_cons ev_prc ea_nil)) (by simp))) (ea_cons (Ev.fz (ev_lst (ds := [prD (0, 0)]) (ea_cons ev_prc ea_nil) (by simp))) ea_nil)) (by simp))) ?_
      refine p_ifq (b := false) (EvT.is (et_test (ev_neD (d := .lst ([(4 : Int), 5, 35].map fun c => optD (cheaperOf tarLast c))) (e := .lst ([none, some 36, some 36].map optD)) (Ev.fz (ev_lc (is := [5]) (src_tup (ev_tup (ds := [4, 5, 35].map D.int) (ea_cons ev_int (ea_cons ev_int (ea_cons ev_int ea_nil))) (by decide))) (lc_of (F := fun c => _) (G := fun c => optD (cheaperOf tarLast c)) fun c hc => ⟨tg_name, ev_call (ea_cons (ev_var rfl) (ea_cons (ev_var rfl) ea_nil)) (spF_D ⟨tarLast, c, rfl, tarLast_ok, (h3 c hc).1, (h3 c hc).2, rfl⟩)⟩) (by simp) (by simp))) (Ev.fz (ev_lst (ds := [.non, .int 36, .int 36]) (ea_cons ev_non (ea_cons ev_int (ea_cons ev_int ea_nil))) (by simp))) ?_ (ok_opts _))) ?_) (fun z => by cases z) (fun _ => p_skip ?_)
      · have := ok_opts ([(4 : Int), 5, 35].map (cheaperOf tarLast))
        rw [List.map_map] at this
        exact this
      · rw [show ([(4 : Int), 5, 35].map fun c => optD (cheaperOf tarLast c)) = ([(4 : Int), 5, 35].map (cheaperOf tarLast)).map optD by rw [List.map_map]; rfl, e3, deq_refl (ok_opts _)]
        rfl
      refine p_seq (sx_set (r := .dat (tariffD tarTen)) (ev_tup (ds := [tiersD tarTen.1, tiersD tarTen.2]) (ea_cons (Ev.fz (ev_lst (ds := [prD (0, 10), prD (5, 7)]) (ea_cons ev_prc (ea_cons ev_prc ea_nil)) (by simp))) (ea_cons (Ev.fz (ev_lst (ds := [prD (0, 20), prD (10, 0)]) (ea_cons ev_prc (ea_cons ev_prc ea_nil)) (by simp))) ea_nil)) (by simp))) ?_
      refine p_ifq (b := false) (EvT.is (et_test (ev_neD (d := intsD ([(0 : Int), 1, 4, 5, 9, 10].map (costOf tarTen))) (e := intsD [0, 30, 60, 55, 83, 70]) (Ev.fz (ev_lc (is := [5]) (src_tup (ev_tup (ds := [0, 1, 4, 5, 9, 10].map D.int) (ea_cons ev_int (ea_cons ev_int (ea_cons ev_int (ea_cons ev_int (ea_cons ev_int (ea_cons ev_int ea_nil)))))) (by decide))) (lc_of (F := fun c => _) (G := fun c => .int (costOf tarTen c)) fun c hc => ⟨tg_name, ev_call (ea_cons (ev_var rfl) (ea_cons (ev_var rfl) ea_nil)) (spF_D ⟨tarTen, c, rfl, tarTen_ok, (h6 c hc).1, (h6 c hc).2, rfl⟩)⟩) (by simp) (by simp))) (Ev.fz (ev_lst (ds := [0, 30, 60, 55, 83, 70].map D.int) (ea_cons ev_int (ea_cons ev_int (ea_cons ev_int (ea_cons ev_int (ea_cons ev_int (ea_cons ev_int ea_nil)))))) (by decide))) (ok_ints _) (ok_ints _))) ?_) (fun z => by cases z) (fun _ => p_skip ?_)
      · rw [e6, deq_refl (ok_ints _)]
        rfl
      refine p_ret (Ev.isD (ev_eqD (d := .lst ([(0 : Int), 1, 4, 8, 9, 36].map fun c => optD (cheaperOf tarTen c))) (e := .lst ([none, none, some 5, some 10, some 10, none].map optD)) (Ev.fz (ev_lc (is := [5]) (src_tup (ev_tup (ds := [0, 1, 4, 8, 9, 36].map D.int) (ea_cons ev_int (ea_cons ev_int (ea_cons ev_int (ea_cons ev_int (ea_cons ev_int (ea_cons ev_int ea_nil)))))) (by decide))) (lc_of (F := fun c => _) (G := fun c => optD (cheaperOf tarTen c)) fun c hc => ⟨tg_name, ev_call (ea_cons (ev_var rfl) (ea_cons (ev_var rfl) ea_nil)) (spF_D ⟨tarTen, c, rfl, tarTen_ok, (h7 c hc).1, (h7 c hc).2, rfl⟩)⟩) (by simp) (by simp))) (Ev.fz (ev_lst (ds := [.non, .non, .int 5, .int 10, .int 10, .non]) (ea_cons ev_non (ea_cons ev_non (ea_cons ev_int (ea_cons ev_int (ea_cons ev_int (ea_cons ev_non ea_nil)))))) (by simp))) ?_ (ok_opts _)) ?_) (.inl rfl)
      · have := ok_opts ([(0 : Int), 1, 4, 8, 9, 36].map (cheaperOf tarTen))
        rw [List.map_map] at this
        exact this
      · rw [show ([(0 : Int), 1, 4, 8, 9, 36].map fun c => optD (cheaperOf tarTen c)) = ([(0 : Int), 1, 4, 8, 9, 36].map (cheaperOf tarTen)).map optD by rw [List.map_map]; rfl, e7, deq_refl (ok_opts _)]
end
theorem all_mk {l : PySem.W.OpenLaw} {w : World} {K : PySem.W.Frag} {h : Heap} {mg : Str → Option Value} {fa : Addr} (X : K.In h) (G : h.Ns mainGlobals mg) (hfa : mg "law" = some (.ref fa))
    {f0 : Addr} {od0 an0 : Option Addr} {sl0 : Array (Option Value)} {oc0 kV0 dc0 pm0 cd0 ct0 : Value}
    (a0 : PySem.W.nsIn K mainGlobals "is_count" = some (some (.ref f0)))
    (l0 : K.lookup f0 = some ⟨oc0, od0, .func (PySem.W.fnOf "is_count" "is_count" (defArgs s_is_count) (defBody s_is_count) (defScope s_is_count) .none kV0 dc0 pm0 an0 cd0 ct0), sl0⟩) (c0 : PySem.W.codeIn K cd0 "is_count" = true) (k0 : PySem.W.keepIn K (.ref f0) = true)
    {f1 : Addr} {od1 an1 : Option Addr} {sl1 : Array (Option Value)} {oc1 kV1 dc1 pm1 cd1 ct1 : Value}
    (a1 : PySem.W.nsIn K mainGlobals "last_of" = some (some (.ref f1)))
    (l1 : K.lookup f1 = some ⟨oc1, od1, .func (PySem.W.fnOf "last_of" "last_of" (defArgs s_last_of) (defBody s_last_of) (defScope s_last_of) .none kV1 dc1 pm1 an1 cd1 ct1), sl1⟩) (c1 : PySem.W.codeIn K cd1 "last_of" = true) (k1 : PySem.W.keepIn K (.ref f1) = true)
    {f2 : Addr} {od2 an2 : Option Addr} {sl2 : Array (Option Value)} {oc2 kV2 dc2 pm2 cd2 ct2 : Value}
    (a2 : PySem.W.nsIn K mainGlobals "_law_cell_at" = some (some (.ref f2)))
    (l2 : K.lookup f2 = some ⟨oc2, od2, .func (PySem.W.fnOf "_law_cell_at" "_law_cell_at" (defArgs s_law_cell_at) (defBody s_law_cell_at) (defScope s_law_cell_at) .none kV2 dc2 pm2 an2 cd2 ct2), sl2⟩) (c2 : PySem.W.codeIn K cd2 "_law_cell_at" = true) (k2 : PySem.W.keepIn K (.ref f2) = true)
    {f3 : Addr} {od3 an3 : Option Addr} {sl3 : Array (Option Value)} {oc3 kV3 dc3 pm3 cd3 ct3 : Value}
    (a3 : PySem.W.nsIn K mainGlobals "_law_draw" = some (some (.ref f3)))
    (l3 : K.lookup f3 = some ⟨oc3, od3, .func (PySem.W.fnOf "_law_draw" "_law_draw" (defArgs s_law_draw) (defBody s_law_draw) (defScope s_law_draw) .none kV3 dc3 pm3 an3 cd3 ct3), sl3⟩) (c3 : PySem.W.codeIn K cd3 "_law_draw" = true) (k3 : PySem.W.keepIn K (.ref f3) = true)
    {f4 : Addr} {od4 an4 : Option Addr} {sl4 : Array (Option Value)} {oc4 kV4 dc4 pm4 cd4 ct4 : Value}
    (a4 : PySem.W.nsIn K mainGlobals "_law_whole" = some (some (.ref f4)))
    (l4 : K.lookup f4 = some ⟨oc4, od4, .func (PySem.W.fnOf "_law_whole" "_law_whole" (defArgs s_law_whole) (defBody s_law_whole) (defScope s_law_whole) .none kV4 dc4 pm4 an4 cd4 ct4), sl4⟩) (c4 : PySem.W.codeIn K cd4 "_law_whole" = true) (k4 : PySem.W.keepIn K (.ref f4) = true)
    {f5 : Addr} {od5 an5 : Option Addr} {sl5 : Array (Option Value)} {oc5 kV5 dc5 pm5 cd5 ct5 : Value}
    (a5 : PySem.W.nsIn K mainGlobals "_law_amount" = some (some (.ref f5)))
    (l5 : K.lookup f5 = some ⟨oc5, od5, .func (PySem.W.fnOf "_law_amount" "_law_amount" (defArgs s_law_amount) (defBody s_law_amount) (defScope s_law_amount) .none kV5 dc5 pm5 an5 cd5 ct5), sl5⟩) (c5 : PySem.W.codeIn K cd5 "_law_amount" = true) (k5 : PySem.W.keepIn K (.ref f5) = true)
    {f6 : Addr} {od6 an6 : Option Addr} {sl6 : Array (Option Value)} {oc6 kV6 dc6 pm6 cd6 ct6 : Value}
    (a6 : PySem.W.nsIn K mainGlobals "is_tier" = some (some (.ref f6)))
    (l6 : K.lookup f6 = some ⟨oc6, od6, .func (PySem.W.fnOf "is_tier" "is_tier" (defArgs s_is_tier) (defBody s_is_tier) (defScope s_is_tier) .none kV6 dc6 pm6 an6 cd6 ct6), sl6⟩) (c6 : PySem.W.codeIn K cd6 "is_tier" = true) (k6 : PySem.W.keepIn K (.ref f6) = true)
    {f7 : Addr} {od7 an7 : Option Addr} {sl7 : Array (Option Value)} {oc7 kV7 dc7 pm7 cd7 ct7 : Value}
    (a7 : PySem.W.nsIn K mainGlobals "check_count" = some (some (.ref f7)))
    (l7 : K.lookup f7 = some ⟨oc7, od7, .func (PySem.W.fnOf "check_count" "check_count" (defArgs s_check_count) (defBody s_check_count) (defScope s_check_count) .none kV7 dc7 pm7 an7 cd7 ct7), sl7⟩) (c7 : PySem.W.codeIn K cd7 "check_count" = true) (k7 : PySem.W.keepIn K (.ref f7) = true)
    {f8 : Addr} {od8 an8 : Option Addr} {sl8 : Array (Option Value)} {oc8 kV8 dc8 pm8 cd8 ct8 : Value}
    (a8 : PySem.W.nsIn K mainGlobals "cost_of" = some (some (.ref f8)))
    (l8 : K.lookup f8 = some ⟨oc8, od8, .func (PySem.W.fnOf "cost_of" "cost_of" (defArgs s_cost_of) (defBody s_cost_of) (defScope s_cost_of) .none kV8 dc8 pm8 an8 cd8 ct8), sl8⟩) (c8 : PySem.W.codeIn K cd8 "cost_of" = true) (k8 : PySem.W.keepIn K (.ref f8) = true)
    {f9 : Addr} {od9 an9 : Option Addr} {sl9 : Array (Option Value)} {oc9 kV9 dc9 pm9 cd9 ct9 : Value}
    (a9 : PySem.W.nsIn K mainGlobals "_law_value" = some (some (.ref f9)))
    (l9 : K.lookup f9 = some ⟨oc9, od9, .func (PySem.W.fnOf "_law_value" "_law_value" (defArgs s_law_value) (defBody s_law_value) (defScope s_law_value) .none kV9 dc9 pm9 an9 cd9 ct9), sl9⟩) (c9 : PySem.W.codeIn K cd9 "_law_value" = true) (k9 : PySem.W.keepIn K (.ref f9) = true)
    {f10 : Addr} {od10 an10 : Option Addr} {sl10 : Array (Option Value)} {oc10 kV10 dc10 pm10 cd10 ct10 : Value}
    (a10 : PySem.W.nsIn K mainGlobals "_law_cost" = some (some (.ref f10)))
    (l10 : K.lookup f10 = some ⟨oc10, od10, .func (PySem.W.fnOf "_law_cost" "_law_cost" (defArgs s_law_cost) (defBody s_law_cost) (defScope s_law_cost) .none kV10 dc10 pm10 an10 cd10 ct10), sl10⟩) (c10 : PySem.W.codeIn K cd10 "_law_cost" = true) (k10 : PySem.W.keepIn K (.ref f10) = true)
    {f11 : Addr} {od11 an11 : Option Addr} {sl11 : Array (Option Value)} {oc11 kV11 dc11 pm11 cd11 ct11 : Value}
    (a11 : PySem.W.nsIn K mainGlobals "are_tiers" = some (some (.ref f11)))
    (l11 : K.lookup f11 = some ⟨oc11, od11, .func (PySem.W.fnOf "are_tiers" "are_tiers" (defArgs s_are_tiers) (defBody s_are_tiers) (defScope s_are_tiers) .none kV11 dc11 pm11 an11 cd11 ct11), sl11⟩) (c11 : PySem.W.codeIn K cd11 "are_tiers" = true) (k11 : PySem.W.keepIn K (.ref f11) = true)
    {f12 : Addr} {od12 an12 : Option Addr} {sl12 : Array (Option Value)} {oc12 kV12 dc12 pm12 cd12 ct12 : Value}
    (a12 : PySem.W.nsIn K mainGlobals "_law_tiers" = some (some (.ref f12)))
    (l12 : K.lookup f12 = some ⟨oc12, od12, .func (PySem.W.fnOf "_law_tiers" "_law_tiers" (defArgs s_law_tiers) (defBody s_law_tiers) (defScope s_law_tiers) .none kV12 dc12 pm12 an12 cd12 ct12), sl12⟩) (c12 : PySem.W.codeIn K cd12 "_law_tiers" = true) (k12 : PySem.W.keepIn K (.ref f12) = true)
    {f13 : Addr} {od13 an13 : Option Addr} {sl13 : Array (Option Value)} {oc13 kV13 dc13 pm13 cd13 ct13 : Value}
    (a13 : PySem.W.nsIn K mainGlobals "check_tariff" = some (some (.ref f13)))
    (l13 : K.lookup f13 = some ⟨oc13, od13, .func (PySem.W.fnOf "check_tariff" "check_tariff" (defArgs s_check_tariff) (defBody s_check_tariff) (defScope s_check_tariff) .none kV13 dc13 pm13 an13 cd13 ct13), sl13⟩) (c13 : PySem.W.codeIn K cd13 "check_tariff" = true) (k13 : PySem.W.keepIn K (.ref f13) = true)
    {f14 : Addr} {od14 an14 : Option Addr} {sl14 : Array (Option Value)} {oc14 kV14 dc14 pm14 cd14 ct14 : Value}
    (a14 : PySem.W.nsIn K mainGlobals "_law_tariff" = some (some (.ref f14)))
    (l14 : K.lookup f14 = some ⟨oc14, od14, .func (PySem.W.fnOf "_law_tariff" "_law_tariff" (defArgs s_law_tariff) (defBody s_law_tariff) (defScope s_law_tariff) .none kV14 dc14 pm14 an14 cd14 ct14), sl14⟩) (c14 : PySem.W.codeIn K cd14 "_law_tariff" = true) (k14 : PySem.W.keepIn K (.ref f14) = true)
    {f15 : Addr} {od15 an15 : Option Addr} {sl15 : Array (Option Value)} {oc15 kV15 dc15 pm15 cd15 ct15 : Value}
    (a15 : PySem.W.nsIn K mainGlobals "cost" = some (some (.ref f15)))
    (l15 : K.lookup f15 = some ⟨oc15, od15, .func (PySem.W.fnOf "cost" "cost" (defArgs s_cost) (defBody s_cost) (defScope s_cost) .none kV15 dc15 pm15 an15 cd15 ct15), sl15⟩) (c15 : PySem.W.codeIn K cd15 "cost" = true) (k15 : PySem.W.keepIn K (.ref f15) = true)
    {f16 : Addr} {od16 an16 : Option Addr} {sl16 : Array (Option Value)} {oc16 kV16 dc16 pm16 cd16 ct16 : Value}
    (a16 : PySem.W.nsIn K mainGlobals "cheaper" = some (some (.ref f16)))
    (l16 : K.lookup f16 = some ⟨oc16, od16, .func (PySem.W.fnOf "cheaper" "cheaper" (defArgs s_cheaper) (defBody s_cheaper) (defScope s_cheaper) .none kV16 dc16 pm16 an16 cd16 ct16), sl16⟩) (c16 : PySem.W.codeIn K cd16 "cheaper" = true) (k16 : PySem.W.keepIn K (.ref f16) = true)
    {f17 : Addr} {od17 an17 : Option Addr} {sl17 : Array (Option Value)} {oc17 kV17 dc17 pm17 cd17 ct17 : Value}
    (a17 : PySem.W.nsIn K mainGlobals "law" = some (some (.ref f17)))
    (l17 : K.lookup f17 = some ⟨oc17, od17, .func (PySem.W.fnOf "law" "law" (defArgs s_law) (defBody s_law) (defScope s_law) .none kV17 dc17 pm17 an17 cd17 ct17), sl17⟩) (c17 : PySem.W.codeIn K cd17 "law" = true) (k17 : PySem.W.keepIn K (.ref f17) = true)
    (z_all : PySem.W.nsIn K mainGlobals "all" = some none)
    (z_bool : PySem.W.nsIn K mainGlobals "bool" = some none)
    (z_int : PySem.W.nsIn K mainGlobals "int" = some none)
    (z_isinstance : PySem.W.nsIn K mainGlobals "isinstance" = some none)
    (z_len : PySem.W.nsIn K mainGlobals "len" = some none)
    (z_list : PySem.W.nsIn K mainGlobals "list" = some none)
    (z_max : PySem.W.nsIn K mainGlobals "max" = some none)
    (z_min : PySem.W.nsIn K mainGlobals "min" = some none)
    (z_range : PySem.W.nsIn K mainGlobals "range" = some none)
    (z_tuple : PySem.W.nsIn K mainGlobals "tuple" = some none)
    (z_zip : PySem.W.nsIn K mainGlobals "zip" = some none)
    {t0 : Tok} (n_MOST_COUNT : PySem.W.nsIn K mainGlobals "MOST_COUNT" = some (some (.int 36 t0)))
    {t1 : Tok} (n_MOST_TIERS : PySem.W.nsIn K mainGlobals "MOST_TIERS" = some (some (.int 3 t1)))
    {t2 : Tok} (n_MOST_PRICE : PySem.W.nsIn K mainGlobals "MOST_PRICE" = some (some (.int 60 t2)))
    {t3 : Tok} (n_MOST_CARRIAGE : PySem.W.nsIn K mainGlobals "MOST_CARRIAGE" = some (some (.int 200 t3)))
    : ∃ fd : FuncData, (∀ (s : Shared) (v : Value), BindsTo s fd ⟨[v], []⟩ [("_law_script", v)]) ∧ ∀ base : Heap, K.In base → base.Ns mainGlobals mg → FnOk l.prog w K mg base CX0 6 fa fd ["_law_script"] (spF K R_law) := by
  have e := hfa.symm.trans (PySem.W.mg_of X G a17)
  have e2 : f17 = fa := by injection e with e; injection e with e; exact e.symm
  subst e2
  have F0 := fun_mk (st := s_is_count) l0 c0 k0
  have b0 := F0.binds (ps := ["thing", "least", "most"]) fun _ _ _ _ _ _ us hl => match us, hl with | [_, _, _], _ => rfl
  have F1 := fun_mk (st := s_last_of) l1 c1 k1
  have b1 := F1.binds (ps := ["tiers", "count"]) fun _ _ _ _ _ _ us hl => match us, hl with | [_, _], _ => rfl
  have F2 := fun_mk (st := s_law_cell_at) l2 c2 k2
  have b2 := F2.binds (ps := ["_law_script", "_law_k"]) fun _ _ _ _ _ _ us hl => match us, hl with | [_, _], _ => rfl
  have F3 := fun_mk (st := s_law_draw) l3 c3 k3
  have b3 := F3.binds (ps := ["_law_cell", "_law_k", "_law_many"]) fun _ _ _ _ _ _ us hl => match us, hl with | [_, _, _], _ => rfl
  have F4 := fun_mk (st := s_law_whole) l4 c4 k4
  have b4 := F4.binds (ps := ["_law_number"]) fun _ _ _ _ _ _ us hl => match us, hl with | [_], _ => rfl
  have F5 := fun_mk (st := s_law_amount) l5 c5 k5
  have b5 := F5.binds (ps := ["_law_tiers_here", "_law_count"]) fun _ _ _ _ _ _ us hl => match us, hl with | [_, _], _ => rfl
  have F6 := fun_mk (st := s_is_tier) l6 c6 k6
  have b6 := F6.binds (ps := ["thing", "least", "most"]) fun _ _ _ _ _ _ us hl => match us, hl with | [_, _, _], _ => rfl
  have F7 := fun_mk (st := s_check_count) l7 c7 k7
  have b7 := F7.binds (ps := ["count"]) fun _ _ _ _ _ _ us hl => match us, hl with | [_], _ => rfl
  have F8 := fun_mk (st := s_cost_of) l8 c8 k8
  have b8 := F8.binds (ps := ["tariff", "count"]) fun _ _ _ _ _ _ us hl => match us, hl with | [_, _], _ => rfl
  have F9 := fun_mk (st := s_law_value) l9 c9 k9
  have b9 := F9.binds (ps := ["_law_cell", "_law_turn"]) fun _ _ _ _ _ _ us hl => match us, hl with | [_, _], _ => rfl
  have F10 := fun_mk (st := s_law_cost) l10 c10 k10
  have b10 := F10.binds (ps := ["_law_tariff_here", "_law_count"]) fun _ _ _ _ _ _ us hl => match us, hl with | [_, _], _ => rfl
  have F11 := fun_mk (st := s_are_tiers) l11 c11 k11
  have b11 := F11.binds (ps := ["thing", "least", "most"]) fun _ _ _ _ _ _ us hl => match us, hl with | [_, _, _], _ => rfl
  have F12 := fun_mk (st := s_law_tiers) l12 c12 k12
  have b12 := F12.binds (ps := ["_law_script", "_law_by", "_law_least", "_law_most", "_law_falling"]) fun _ _ _ _ _ _ us hl => match us, hl with | [_, _, _, _, _], _ => rfl
  have F13 := fun_mk (st := s_check_tariff) l13 c13 k13
  have b13 := F13.binds (ps := ["tariff"]) fun _ _ _ _ _ _ us hl => match us, hl with | [_], _ => rfl
  have F14 := fun_mk (st := s_law_tariff) l14 c14 k14
  have b14 := F14.binds (ps := ["_law_script", "_law_by"]) fun _ _ _ _ _ _ us hl => match us, hl with | [_, _], _ => rfl
  have F15 := fun_mk (st := s_cost) l15 c15 k15
  have b15 := F15.binds (ps := ["tariff", "count"]) fun _ _ _ _ _ _ us hl => match us, hl with | [_, _], _ => rfl
  have F16 := fun_mk (st := s_cheaper) l16 c16 k16
  have b16 := F16.binds (ps := ["tariff", "count"]) fun _ _ _ _ _ _ us hl => match us, hl with | [_, _], _ => rfl
  have F17 := fun_mk (st := s_law) l17 c17 k17
  have b17 := F17.binds (ps := ["_law_script"]) fun _ _ _ _ _ _ us hl => match us, hl with | [_], _ => rfl
  have T : Tx K mg (fun n => match n with | 0 => f0 | 1 => f1 | 2 => f2 | 3 => f3 | 4 => f4 | 5 => f5 | 6 => f6 | 7 => f7 | 8 => f8 | 9 => f9 | 10 => f10 | 11 => f11 | 12 => f12 | 13 => f13 | 14 => f14 | 15 => f15 | 16 => f16 | _ => f17) (fun n => match n with | 0 => (PySem.W.fnOf "is_count" "is_count" (defArgs s_is_count) (defBody s_is_count) (defScope s_is_count) .none kV0 dc0 pm0 an0 cd0 ct0) | 1 => (PySem.W.fnOf "last_of" "last_of" (defArgs s_last_of) (defBody s_last_of) (defScope s_last_of) .none kV1 dc1 pm1 an1 cd1 ct1) | 2 => (PySem.W.fnOf "_law_cell_at" "_law_cell_at" (defArgs s_law_cell_at) (defBody s_law_cell_at) (defScope s_law_cell_at) .none kV2 dc2 pm2 an2 cd2 ct2) | 3 => (PySem.W.fnOf "_law_draw" "_law_draw" (defArgs s_law_draw) (defBody s_law_draw) (defScope s_law_draw) .none kV3 dc3 pm3 an3 cd3 ct3) | 4 => (PySem.W.fnOf "_law_whole" "_law_whole" (defArgs s_law_whole) (defBody s_law_whole) (defScope s_law_whole) .none kV4 dc4 pm4 an4 cd4 ct4) | 5 => (PySem.W.fnOf "_law_amount" "_law_amount" (defArgs s_law_amount) (defBody s_law_amount) (defScope s_law_amount) .none kV5 dc5 pm5 an5 cd5 ct5) | 6 => (PySem.W.fnOf "is_tier" "is_tier" (defArgs s_is_tier) (defBody s_is_tier) (defScope s_is_tier) .none kV6 dc6 pm6 an6 cd6 ct6) | 7 => (PySem.W.fnOf "check_count" "check_count" (defArgs s_check_count) (defBody s_check_count) (defScope s_check_count) .none kV7 dc7 pm7 an7 cd7 ct7) | 8 => (PySem.W.fnOf "cost_of" "cost_of" (defArgs s_cost_of) (defBody s_cost_of) (defScope s_cost_of) .none kV8 dc8 pm8 an8 cd8 ct8) | 9 => (PySem.W.fnOf "_law_value" "_law_value" (defArgs s_law_value) (defBody s_law_value) (defScope s_law_value) .none kV9 dc9 pm9 an9 cd9 ct9) | 10 => (PySem.W.fnOf "_law_cost" "_law_cost" (defArgs s_law_cost) (defBody s_law_cost) (defScope s_law_cost) .none kV10 dc10 pm10 an10 cd10 ct10) | 11 => (PySem.W.fnOf "are_tiers" "are_tiers" (defArgs s_are_tiers) (defBody s_are_tiers) (defScope s_are_tiers) .none kV11 dc11 pm11 an11 cd11 ct11) | 12 => (PySem.W.fnOf "_law_tiers" "_law_tiers" (defArgs s_law_tiers) (defBody s_law_tiers) (defScope s_law_tiers) .none kV12 dc12 pm12 an12 cd12 ct12) | 13 => (PySem.W.fnOf "check_tariff" "check_tariff" (defArgs s_check_tariff) (defBody s_check_tariff) (defScope s_check_tariff) .none kV13 dc13 pm13 an13 cd13 ct13) | 14 => (PySem.W.fnOf "_law_tariff" "_law_tariff" (defArgs s_law_tariff) (defBody s_law_tariff) (defScope s_law_tariff) .none kV14 dc14 pm14 an14 cd14 ct14) | 15 => (PySem.W.fnOf "cost" "cost" (defArgs s_cost) (defBody s_cost) (defScope s_cost) .none kV15 dc15 pm15 an15 cd15 ct15) | 16 => (PySem.W.fnOf "cheaper" "cheaper" (defArgs s_cheaper) (defBody s_cheaper) (defScope s_cheaper) .none kV16 dc16 pm16 an16 cd16 ct16) | _ => (PySem.W.fnOf "law" "law" (defArgs s_law) (defBody s_law) (defScope s_law) .none kV17 dc17 pm17 an17 cd17 ct17)) (fun n => match n with | 0 => t0 | 1 => t1 | 2 => t2 | _ => t3) (fun _ => 0) := {
    F_is_count := F0
    g_is_count := PySem.W.mg_of X G a0
    b_is_count := b0
    F_last_of := F1
    g_last_of := PySem.W.mg_of X G a1
    b_last_of := b1
    F_law_cell_at := F2
    g_law_cell_at := PySem.W.mg_of X G a2
    b_law_cell_at := b2
    F_law_draw := F3
    g_law_draw := PySem.W.mg_of X G a3
    b_law_draw := b3
    F_law_whole := F4
    g_law_whole := PySem.W.mg_of X G a4
    b_law_whole := b4
    F_law_amount := F5
    g_law_amount := PySem.W.mg_of X G a5
    b_law_amount := b5
    F_is_tier := F6
    g_is_tier := PySem.W.mg_of X G a6
    b_is_tier := b6
    F_check_count := F7
    g_check_count := PySem.W.mg_of X G a7
    b_check_count := b7
    F_cost_of := F8
    g_cost_of := PySem.W.mg_of X G a8
    b_cost_of := b8
    F_law_value := F9
    g_law_value := PySem.W.mg_of X G a9
    b_law_value := b9
    F_law_cost := F10
    g_law_cost := PySem.W.mg_of X G a10
    b_law_cost := b10
    F_are_tiers := F11
    g_are_tiers := PySem.W.mg_of X G a11
    b_are_tiers := b11
    F_law_tiers := F12
    g_law_tiers := PySem.W.mg_of X G a12
    b_law_tiers := b12
    F_check_tariff := F13
    g_check_tariff := PySem.W.mg_of X G a13
    b_check_tariff := b13
    F_law_tariff := F14
    g_law_tariff := PySem.W.mg_of X G a14
    b_law_tariff := b14
    F_cost := F15
    g_cost := PySem.W.mg_of X G a15
    b_cost := b15
    F_cheaper := F16
    g_cheaper := PySem.W.mg_of X G a16
    b_cheaper := b16
    F_law := F17
    g_law := PySem.W.mg_of X G a17
    b_law := b17
    z_all := PySem.W.mg_none_of X G z_all
    z_bool := PySem.W.mg_none_of X G z_bool
    z_int := PySem.W.mg_none_of X G z_int
    z_isinstance := PySem.W.mg_none_of X G z_isinstance
    z_len := PySem.W.mg_none_of X G z_len
    z_list := PySem.W.mg_none_of X G z_list
    z_max := PySem.W.mg_none_of X G z_max
    z_min := PySem.W.mg_none_of X G z_min
    z_range := PySem.W.mg_none_of X G z_range
    z_tuple := PySem.W.mg_none_of X G z_tuple
    z_zip := PySem.W.mg_none_of X G z_zip
    c_MOST_COUNT := PySem.W.mg_of X G n_MOST_COUNT
    c_MOST_TIERS := PySem.W.mg_of X G n_MOST_TIERS
    c_MOST_PRICE := PySem.W.mg_of X G n_MOST_PRICE
    c_MOST_CARRIAGE := PySem.W.mg_of X G n_MOST_CARRIAGE }
  exact ⟨(PySem.W.fnOf "law" "law" (defArgs s_law) (defBody s_law) (defScope s_law) .none kV17 dc17 pm17 an17 cd17 ct17), fun s v => .of_eq rfl, fun base _ _ => ok_law T⟩
end Wk03
open PySem PySem.W PyProof.Rows
set_option maxHeartbeats 0 in
theorem PySem.Challenge.cw_grouporder_k03_whole_costs_holds : PySem.Challenge.rw_grouporder_k03_whole_costs.Holds := by
  w_on; o_law; k_head; (case hw => w_witness2)
  k_fill
  refine L2.walk_ofB (l := PySem.Challenge.rw_grouporder_k03_whole_costs) (n := 63) (k := 6) (x := "_law_script") (CX := fun _ => L2.CX0) (sp := fun w => DL.spF _ GC.R_law) rfl (by decide) rfl ⟨rfl, by decide, by decide⟩ (fun w h Y => PySem.W.kIn_of Y) ?F (fun _ _ a ns hl hb _ hS => GC.law_start hl hb hS) (fun _ _ _ _ _ h => h)
  case F =>
    intro w mg fa h KX G hmg
    refine' Wk03.all_mk KX G hmg ?a0 ?l0 ?c0 ?k0 ?a1 ?l1 ?c1 ?k1 ?a2 ?l2 ?c2 ?k2 ?a3 ?l3 ?c3 ?k3 ?a4 ?l4 ?c4 ?k4 ?a5 ?l5 ?c5 ?k5 ?a6 ?l6 ?c6 ?k6 ?a7 ?l7 ?c7 ?k7 ?a8 ?l8 ?c8 ?k8 ?a9 ?l9 ?c9 ?k9 ?a10 ?l10 ?c10 ?k10 ?a11 ?l11 ?c11 ?k11 ?a12 ?l12 ?c12 ?k12 ?a13 ?l13 ?c13 ?k13 ?a14 ?l14 ?c14 ?k14 ?a15 ?l15 ?c15 ?k15 ?a16 ?l16 ?c16 ?k16 ?a17 ?l17 ?c17 ?k17 ?z_all ?z_bool ?z_int ?z_isinstance ?z_len ?z_list ?z_max ?z_min ?z_range ?z_tuple ?z_zip ?n_MOST_COUNT ?n_MOST_TIERS ?n_MOST_PRICE ?n_MOST_CARRIAGE
    (case a0 => k_is)
    (case l0 => k_is)
    (case c0 => k_is)
    (case k0 => k_is)
    (case a1 => k_is)
    (case l1 => k_is)
    (case c1 => k_is)
    (case k1 => k_is)
    (case a2 => k_is)
    (case l2 => k_is)
    (case c2 => k_is)
    (case k2 => k_is)
    (case a3 => k_is)
    (case l3 => k_is)
    (case c3 => k_is)
    (case k3 => k_is)
    (case a4 => k_is)
    (case l4 => k_is)
    (case c4 => k_is)
    (case k4 => k_is)
    (case a5 => k_is)
    (case l5 => k_is)
    (case c5 => k_is)
    (case k5 => k_is)
    (case a6 => k_is)
    (case l6 => k_is)
    (case c6 => k_is)
    (case k6 => k_is)
    (case a7 => k_is)
    (case l7 => k_is)
    (case c7 => k_is)
    (case k7 => k_is)
    (case a8 => k_is)
    (case l8 => k_is)
    (case c8 => k_is)
    (case k8 => k_is)
    (case a9 => k_is)
    (case l9 => k_is)
    (case c9 => k_is)
    (case k9 => k_is)
    (case a10 => k_is)
    (case l10 => k_is)
    (case c10 => k_is)
    (case k10 => k_is)
    (case a11 => k_is)
    (case l11 => k_is)
    (case c11 => k_is)
    (case k11 => k_is)
    (case a12 => k_is)
    (case l12 => k_is)
    (case c12 => k_is)
    (case k12 => k_is)
    (case a13 => k_is)
    (case l13 => k_is)
    (case c13 => k_is)
    (case k13 => k_is)
    (case a14 => k_is)
    (case l14 => k_is)
    (case c14 => k_is)
    (case k14 => k_is)
    (case a15 => k_is)
    (case l15 => k_is)
    (case c15 => k_is)
    (case k15 => k_is)
    (case a16 => k_is)
    (case l16 => k_is)
    (case c16 => k_is)
    (case k16 => k_is)
    (case a17 => k_is)
    (case l17 => k_is)
    (case c17 => k_is)
    (case k17 => k_is)
    (case z_all => k_is)
    (case z_bool => k_is)
    (case z_int => k_is)
    (case z_isinstance => k_is)
    (case z_len => k_is)
    (case z_list => k_is)
    (case z_max => k_is)
    (case z_min => k_is)
    (case z_range => k_is)
    (case z_tuple => k_is)
    (case z_zip => k_is)
    (case n_MOST_COUNT => k_is)
    (case n_MOST_TIERS => k_is)
    (case n_MOST_PRICE => k_is)
    (case n_MOST_CARRIAGE => k_is)
