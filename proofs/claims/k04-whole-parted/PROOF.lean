import PyProof.Rows.All
import Wide.All
import OpenK.AllK
import Wide.FinOn
import HandS.ForMost
import HandS.ForExc
import HandS.Evl
import HandS.Walk
import HandS.Style
import HandS.IsInst
import HandS.Flow
import HandS.WideBits
import HandS.EndBits
import HandS.Deep
import HandS.Wide
import KE.SortData
import PySem.Challenge.RW_grouporder_k04_whole_parted
set_option Elab.async false
set_option linter.all false
set_option maxRecDepth 100000
set_option maxHeartbeats 4000000
/-! The evaluating machine: data, a store of things that change, what stands for them in the heap. -/
namespace EM
open PySem PySem.Spec PyProof.Rows L2
open Evl (Ex)

inductive D where
  | non | bl (b : Bool) | int (i : Int) | str (x : Str) | lst (ds : List D) | tup (ds : List D)
  | scr (ds : List D) | dic | fn (n : Nat) | cls (n : Nat) | ty (s : String) | loc (n : Nat) | obj (c : Nat) (ns : List Str) (ds : List D)
  deriving Inhabited
structure Gm where
  K : PySem.W.Frag
  f : Nat → Addr
  C : Nat → Addr
mutual
inductive Rp (Γ : Gm) (S : Hp) (ad : List Addr) : V → D → Prop
  | non : Rp Γ S ad .non .non
  | bl (b : Bool) : Rp Γ S ad (.bl b) (.bl b)
  | int (i : Int) : Rp Γ S ad (.int i) (.int i)
  | str (x : Str) : Rp Γ S ad (.str x) (.str x)
  | lst {a : Addr} {xs : List V} {ds : List D} : S a = some (.lst xs) → RpAll Γ S ad xs ds → Rp Γ S ad (.ref a) (.lst ds)
  | tup {a : Addr} {xs : List V} {ds : List D} : S a = some (.tup xs) → RpAll Γ S ad xs ds → Rp Γ S ad (.ref a) (.tup ds)
  | scr {a : Addr} {xs : List V} {ds : List D} : SqL Γ.K S a xs → RpAll Γ S ad xs ds → Rp Γ S ad (.ref a) (.scr ds)
  | dic {a : Addr} : S a = some (.dK []) → Rp Γ S ad (.ref a) .dic
  | fn (n : Nat) : Rp Γ S ad (.ref (Γ.f n)) (.fn n)
  | cls (n : Nat) : Rp Γ S ad (.ref (Γ.C n)) (.cls n)
  | ty (s : String) : Rp Γ S ad (.ty s) (.ty s)
  | loc {n : Nat} {a : Addr} : ad[n]? = some a → Rp Γ S ad (.ref a) (.loc n)
  | obj {a dx : Addr} {c : Nat} {fs : List (Str × V)} {ns : List Str} {ds : List D} : S a = some (.ins (Γ.C c) dx fs) → fs.map (·.1) = ns → RpAll Γ S ad (fs.map (·.2)) ds → Rp Γ S ad (.ref a) (.obj c ns ds)
inductive RpAll (Γ : Gm) (S : Hp) (ad : List Addr) : List V → List D → Prop
  | nil : RpAll Γ S ad [] []
  | cons {v : V} {vs : List V} {d : D} {ds : List D} : Rp Γ S ad v d → RpAll Γ S ad vs ds → RpAll Γ S ad (v :: vs) (d :: ds)
end
def Sub (ad ad' : List Addr) : Prop := ∀ (n : Nat) a, ad[n]? = some a → ad'[n]? = some a
theorem Sub.refl (ad : List Addr) : Sub ad ad := fun _ _ h => h
theorem Sub.trans {a b c : List Addr} (h : Sub a b) (g : Sub b c) : Sub a c := fun n x e => g n x (h n x e)
theorem Sub.app (ad : List Addr) (l : List Addr) : Sub ad (ad ++ l) := fun n a h => by
  have : n < ad.length := by
    by_cases z : n < ad.length
    · exact z
    · rw [List.getElem?_eq_none (by omega)] at h; cases h
  rw [List.getElem?_append_left this]
  exact h
theorem Sub.nil (ad : List Addr) : Sub [] ad := fun n a h => by simp at h
section
variable {Γ : Gm} {S S' : Hp} {ad ad' : List Addr}
mutual
theorem rp_ext (e : Ex S S') (z : Sub ad ad') : ∀ (d : D) (v : V), Rp Γ S ad v d → Rp Γ S' ad' v d
  | .non, _, h => by cases h; exact .non
  | .bl b, _, h => by cases h; exact .bl b
  | .int i, _, h => by cases h; exact .int i
  | .str x, _, h => by cases h; exact .str x
  | .lst ds, _, h => by
    cases h with
    | lst hs ha => exact .lst (e _ _ hs) (rpAll_ext e z ds _ ha)
  | .tup ds, _, h => by
    cases h with
    | tup hs ha => exact .tup (e _ _ hs) (rpAll_ext e z ds _ ha)
  | .scr ds, _, h => by
    cases h with
    | scr hs ha => exact .scr (Evl.ex_l e hs) (rpAll_ext e z ds _ ha)
  | .dic, _, h => by
    cases h with
    | dic q => exact .dic (e _ _ q)
  | .fn n, _, h => by cases h; exact .fn n
  | .cls n, _, h => by cases h; exact .cls n
  | .ty n, _, h => by cases h; exact .ty n
  | .loc n, _, h => by
    cases h with
    | loc q => exact .loc (z _ _ q)
  | .obj c ns ds, _, h => by
    cases h with
    | obj hs hn ha => exact .obj (e _ _ hs) hn (rpAll_ext e z ds _ ha)
theorem rpAll_ext (e : Ex S S') (z : Sub ad ad') : ∀ (ds : List D) (vs : List V), RpAll Γ S ad vs ds → RpAll Γ S' ad' vs ds
  | [], _, h => by cases h; exact .nil
  | d :: ds, _, h => by
    cases h with
    | cons h1 h2 => exact .cons (rp_ext e z d _ h1) (rpAll_ext e z ds _ h2)
end
end
section
variable {Γ : Gm} {S S' : Hp} {ad ad' : List Addr} {v : V} {vs : List V} {d : D} {ds : List D}
theorem da_length : ∀ {vs : List V} {ds : List D}, RpAll Γ S ad vs ds → vs.length = ds.length
  | _, _, .nil => rfl
  | _, _, .cons _ t => by simp [da_length t]
theorem da_get : ∀ {vs : List V} {ds : List D} {i : Nat} {d : D}, RpAll Γ S ad vs ds → ds[i]? = some d → ∃ v, vs[i]? = some v ∧ Rp Γ S ad v d
  | _, _, _, _, .nil, e => by simp at e
  | _, _, 0, _, .cons h _, e => by simp at e; subst e; exact ⟨_, rfl, h⟩
  | _, _, i + 1, d, .cons _ t, e => by
    obtain ⟨v, h1, h2⟩ := da_get (i := i) (d := d) t (by simpa using e)
    exact ⟨v, by simpa using h1, h2⟩
theorem da_getV : ∀ {vs : List V} {ds : List D} {i : Nat} {v : V}, RpAll Γ S ad vs ds → vs[i]? = some v → ∃ d, ds[i]? = some d ∧ Rp Γ S ad v d
  | _, _, _, _, .nil, e => by simp at e
  | _, _, 0, _, .cons h _, e => by simp at e; subst e; exact ⟨_, rfl, h⟩
  | _, _, i + 1, d, .cons _ t, e => by
    obtain ⟨v, h1, h2⟩ := da_getV (i := i) t (by simpa using e)
    exact ⟨v, by simpa using h1, h2⟩
theorem da_app : ∀ {vs : List V} {ds : List D} {us : List V} {es : List D}, RpAll Γ S ad vs ds → RpAll Γ S ad us es → RpAll Γ S ad (vs ++ us) (ds ++ es)
  | _, _, _, _, .nil, h => h
  | _, _, _, _, .cons a t, h => .cons a (da_app t h)
theorem da_set : ∀ {vs : List V} {ds : List D} (i : Nat), RpAll Γ S ad vs ds → Rp Γ S ad v d → RpAll Γ S ad (vs.set i v) (ds.set i d)
  | _, _, _, .nil, _ => .nil
  | _, _, 0, .cons _ t, h => .cons h t
  | _, _, i + 1, .cons a t, h => .cons a (da_set i t h)
theorem da_drop : ∀ {vs : List V} {ds : List D} (i : Nat), RpAll Γ S ad vs ds → RpAll Γ S ad (vs.drop i) (ds.drop i)
  | _, _, 0, h => h
  | _, _, _ + 1, .nil => .nil
  | _, _, i + 1, .cons _ t => da_drop i t
theorem da_take : ∀ {vs : List V} {ds : List D} (i : Nat), RpAll Γ S ad vs ds → RpAll Γ S ad (vs.take i) (ds.take i)
  | _, _, 0, _ => .nil
  | _, _, _ + 1, .nil => .nil
  | _, _, i + 1, .cons a t => .cons a (da_take i t)
theorem da_rev : ∀ {vs : List V} {ds : List D}, RpAll Γ S ad vs ds → RpAll Γ S ad vs.reverse ds.reverse
  | _, _, .nil => .nil
  | _, _, .cons a t => by
    rw [List.reverse_cons, List.reverse_cons]
    exact da_app (da_rev t) (.cons a .nil)
def cutD (xs : List D) (lo hi : Option Int) : List D := (xs.drop (HT.sIx xs.length 0 lo)).take (HT.sIx xs.length xs.length hi - HT.sIx xs.length 0 lo)
theorem da_cut {vs : List V} {ds : List D} (h : RpAll Γ S ad vs ds) (lo hi : Option Int) : RpAll Γ S ad (cutV vs lo hi) (cutD ds lo hi) := by
  unfold cutV cutD
  rw [da_length h]
  exact da_take _ (da_drop _ h)
theorem da_mem : ∀ {vs : List V} {ds : List D}, RpAll Γ S ad vs ds → ∀ d ∈ ds, ∃ v, Rp Γ S ad v d
  | _, _, .nil, d, h => by simp at h
  | _, _, .cons a t, d, h => by
    rcases List.mem_cons.mp h with e | e
    · exact ⟨_, e ▸ a⟩
    · exact da_mem t d e
theorem da_rep {k : Nat} : ∀ {vs : List V} {ds : List D}, RpAll Γ S ad vs ds → RpAll Γ S ad (List.replicate k vs).flatten (List.replicate k ds).flatten := fun {vs ds} h => by
  induction k with
  | zero => exact .nil
  | succ k ih =>
    rw [List.replicate_succ, List.replicate_succ, List.flatten_cons, List.flatten_cons]
    exact da_app h ih
theorem dp_int {i : Int} (h : Rp Γ S ad v (.int i)) : v = .int i := by cases h; rfl
theorem dp_bool {b : Bool} (h : Rp Γ S ad v (.bl b)) : v = .bl b := by cases h; rfl
theorem dp_str {x : Str} (h : Rp Γ S ad v (.str x)) : v = .str x := by cases h; rfl
theorem dp_none (h : Rp Γ S ad v .non) : v = .non := by cases h; rfl
theorem dp_ty {w : String} (h : Rp Γ S ad v (.ty w)) : v = .ty w := by cases h; rfl
theorem dp_list (h : Rp Γ S ad v (.lst ds)) : ∃ a xs, v = .ref a ∧ S a = some (.lst xs) ∧ RpAll Γ S ad xs ds := by cases h with | lst a b => exact ⟨_, _, rfl, a, b⟩
theorem dp_tuple (h : Rp Γ S ad v (.tup ds)) : ∃ a xs, v = .ref a ∧ S a = some (.tup xs) ∧ RpAll Γ S ad xs ds := by cases h with | tup a b => exact ⟨_, _, rfl, a, b⟩
theorem dpAll_ints : ∀ {ns : List Int} {vs : List V}, RpAll Γ S ad vs (ns.map D.int) → vs = ns.map V.int
  | [], _, h => by cases h; rfl
  | n :: r, _, h => by
    cases h with
    | cons h1 h2 => rw [dp_int h1, dpAll_ints h2]; rfl
theorem ints_dpAll : ∀ {ns : List Int}, RpAll Γ S ad (ns.map V.int) (ns.map D.int)
  | [] => .nil
  | n :: r => .cons (.int n) ints_dpAll
theorem dpAll_bools : ∀ {ns : List Bool} {vs : List V}, RpAll Γ S ad vs (ns.map D.bl) → vs = ns.map V.bl
  | [], _, h => by cases h; rfl
  | n :: r, _, h => by
    cases h with
    | cons h1 h2 => rw [dp_bool h1, dpAll_bools h2]; rfl
/-- flat data: the same in any heap -/
def flatD : D → Bool
  | .non | .bl _ | .int _ | .str _ | .fn _ | .cls _ | .ty _ => true
  | _ => false
theorem dp_flat (S' : Hp) (ad' : List Addr) (f : flatD d = true) (h : Rp Γ S ad v d) : Rp Γ S' ad' v d := by
  cases h with
  | non => exact .non
  | bl b => exact .bl b
  | int i => exact .int i
  | str x => exact .str x
  | fn x => exact .fn x
  | cls x => exact .cls x
  | ty x => exact .ty x
  | _ => cases f
theorem dpAll_flat (S' : Hp) (ad' : List Addr) : ∀ {vs : List V} {ds : List D}, ds.all flatD = true → RpAll Γ S ad vs ds → RpAll Γ S' ad' vs ds
  | _, _, _, .nil => .nil
  | _, _, f, .cons h t => by
    rw [List.all_cons, Bool.and_eq_true] at f
    exact .cons (dp_flat S' ad' f.1 h) (dpAll_flat S' ad' f.2 t)
end
/-! ### no places within -/
mutual
def noLoc : D → Bool
  | .loc _ => false
  | .lst ds => noLocs ds
  | .tup ds => noLocs ds
  | .scr ds => noLocs ds
  | .obj _ _ ds => noLocs ds
  | _ => true
def noLocs : List D → Bool
  | [] => true
  | d :: ds => noLoc d && noLocs ds
end
section
variable {Γ : Gm} {S : Hp} {ad : List Addr}
mutual
theorem rp_noLoc (ad' : List Addr) : ∀ (d : D) (v : V), noLoc d = true → Rp Γ S ad v d → Rp Γ S ad' v d
  | .non, _, _, h => by cases h; exact .non
  | .bl b, _, _, h => by cases h; exact .bl b
  | .int i, _, _, h => by cases h; exact .int i
  | .str x, _, _, h => by cases h; exact .str x
  | .lst ds, _, n, h => by
    rw [noLoc] at n
    cases h with
    | lst hs ha => exact .lst hs (rpAll_noLoc ad' ds _ n ha)
  | .tup ds, _, n, h => by
    rw [noLoc] at n
    cases h with
    | tup hs ha => exact .tup hs (rpAll_noLoc ad' ds _ n ha)
  | .scr ds, _, n, h => by
    rw [noLoc] at n
    cases h with
    | scr hs ha => exact .scr hs (rpAll_noLoc ad' ds _ n ha)
  | .dic, _, _, h => by
    cases h with
    | dic q => exact .dic q
  | .fn n, _, _, h => by cases h; exact .fn n
  | .cls n, _, _, h => by cases h; exact .cls n
  | .ty n, _, _, h => by cases h; exact .ty n
  | .loc n, _, z, h => by rw [noLoc] at z; cases z
  | .obj c ns ds, _, n, h => by
    rw [noLoc] at n
    cases h with
    | obj hs hn ha => exact .obj hs hn (rpAll_noLoc ad' ds _ n ha)
theorem rpAll_noLoc (ad' : List Addr) : ∀ (ds : List D) (vs : List V), noLocs ds = true → RpAll Γ S ad vs ds → RpAll Γ S ad' vs ds
  | [], _, _, h => by cases h; exact .nil
  | d :: ds, _, n, h => by
    rw [noLocs, Bool.and_eq_true] at n
    cases h with
    | cons h1 h2 => exact .cons (rp_noLoc ad' d _ n.1 h1) (rpAll_noLoc ad' ds _ n.2 h2)
end
end
/-! ### the store -/
inductive Cell where
  | lst (ds : List D) | ro (ds : List D) | ins (c : Nat) (ns : List Str) (ds : List D) | gone
  deriving Inhabited
def CellOk (Γ : Gm) (B S H : Hp) (ad : List Addr) (a : Addr) : Cell → Prop
  | .lst ds => B a = none ∧ S a = none ∧ ∃ vs, H a = some (.lst vs) ∧ RpAll Γ S ad vs ds
  | .ro ds => B a = none ∧ S a = none ∧ ∃ vs, H a = some (.lst vs) ∧ RpAll Γ S ad vs ds
  | .ins c ns ds => B a = none ∧ S a = none ∧ ∃ dx fs, H a = some (.ins (Γ.C c) dx fs) ∧ fs.map (·.1) = ns ∧ RpAll Γ S ad (fs.map (·.2)) ds
  | .gone => ∃ o, S a = some o
/-- B: what stays as it is; S0, S: the shared part at the entry and now -/
structure Good (Γ : Gm) (B S0 S H : Hp) (ad : List Addr) (μ : List Cell) : Prop where
  ss : Ex S0 S
  s : Ex S H
  b : Ex B H
  new : ∀ a o, S a = some o → S0 a = some o ∨ B a = none
  len : ad.length = μ.length
  nd : ∀ (i j : Nat) a, ad[i]? = some a → ad[j]? = some a → i = j
  cell : ∀ (n : Nat) a c, ad[n]? = some a → μ[n]? = some c → CellOk Γ B S H ad a c
section
variable {Γ : Gm} {B S0 S H : Hp} {ad : List Addr} {μ : List Cell} {p a : Addr} {o : HO}
theorem CellOk.inH {c : Cell} (e : Ex S H) (h : CellOk Γ B S H ad a c) : ∃ o, H a = some o := by
  cases c with
  | lst ds => obtain ⟨_, _, vs, h, _⟩ := h; exact ⟨_, h⟩
  | ro ds => obtain ⟨_, _, vs, h, _⟩ := h; exact ⟨_, h⟩
  | ins c ns ds => obtain ⟨_, _, dx, fs, h, _⟩ := h; exact ⟨_, h⟩
  | gone => obtain ⟨o, h⟩ := h; exact ⟨o, e _ _ h⟩
theorem Good.inH (G : Good Γ B S0 S H ad μ) {n : Nat} (h : ad[n]? = some a) : ∃ o, H a = some o := by
  have hn : n < ad.length := by
    by_cases z : n < ad.length
    · exact z
    · rw [List.getElem?_eq_none (by omega)] at h; cases h
  rw [G.len] at hn
  exact (G.cell n a _ h (List.getElem?_eq_getElem hn)).inH G.s
theorem Good.ne (G : Good Γ B S0 S H ad μ) (hp : H p = none) {n : Nat} (h : ad[n]? = some a) : a ≠ p := fun e => by
  obtain ⟨o, ho⟩ := G.inH h
  rw [e, hp] at ho
  cases ho
/-- cells stay where nothing of theirs changes -/
theorem CellOk.keep {B' S' H' : Hp} {ad' : List Addr} {c : Cell} (h : CellOk Γ B S H ad a c) (e : Ex S S') (z : Sub ad ad') (hB : B' a = B a) (hS : S a = none → S' a = none) (hH : H' a = H a) : CellOk Γ B' S' H' ad' a c := by
  cases c with
  | lst ds => obtain ⟨h1, h2, vs, h3, h4⟩ := h; exact ⟨hB.trans h1, hS h2, vs, hH.trans h3, rpAll_ext e z _ _ h4⟩
  | ro ds => obtain ⟨h1, h2, vs, h3, h4⟩ := h; exact ⟨hB.trans h1, hS h2, vs, hH.trans h3, rpAll_ext e z _ _ h4⟩
  | ins c ns ds => obtain ⟨h1, h2, dx, fs, h3, h4, h5⟩ := h; exact ⟨hB.trans h1, hS h2, dx, fs, hH.trans h3, h4, rpAll_ext e z _ _ h5⟩
  | gone => obtain ⟨o, h⟩ := h; exact ⟨o, e _ _ h⟩
/-- a new shared thing -/
theorem Good.fresh (G : Good Γ B S0 S H ad μ) (hp : H p = none) : Good Γ B S0 (upd S p o) (upd H p o) ad μ := by
  have sp : S p = none := Evl.fresh_back G.s hp
  have bp : B p = none := Evl.fresh_back G.b hp
  refine ⟨G.ss.trans (Ex.new sp), fun a u h => ?_, G.b.trans (Ex.new hp), fun a u h => ?_, G.len, G.nd, fun n a c h1 h2 => ?_⟩
  · by_cases e : a = p
    · subst e; rw [upd_same] at h ⊢; exact h
    · rw [upd_ne e] at h ⊢; exact G.s a u h
  · by_cases e : a = p
    · subst e; exact .inr bp
    · rw [upd_ne e] at h; exact G.new a u h
  · have ne := G.ne hp h1
    exact (G.cell n a c h1 h2).keep (Ex.new sp) (Sub.refl _) rfl (fun q => by rw [upd_ne ne]; exact q) (upd_ne ne)
/-- a new thing that is not shared -/
theorem Good.pend (G : Good Γ B S0 S H ad μ) (hp : H p = none) : Good Γ B S0 S (upd H p o) ad μ := by
  refine ⟨G.ss, G.s.trans (Ex.new hp), G.b.trans (Ex.new hp), G.new, G.len, G.nd, fun n a c h1 h2 => ?_⟩
  have ne := G.ne hp h1
  exact (G.cell n a c h1 h2).keep (Ex.refl _) (Sub.refl _) rfl id (upd_ne ne)
/-- such a thing changes -/
theorem Good.off (G : Good Γ B S0 S H ad μ) (hs : S p = none) (hb : B p = none) (hn : ∀ (n : Nat) a, ad[n]? = some a → a ≠ p) : Good Γ B S0 S (upd H p o) ad μ := by
  refine ⟨G.ss, fun a u h => ?_, fun a u h => ?_, G.new, G.len, G.nd, fun n a c h1 h2 => ?_⟩
  · rw [upd_ne (ne_of_none h hs)]; exact G.s a u h
  · rw [upd_ne (ne_of_none h hb)]; exact G.b a u h
  · exact (G.cell n a c h1 h2).keep (Ex.refl _) (Sub.refl _) rfl id (upd_ne (hn n a h1))
/-- it is shared from now on -/
theorem Good.share (G : Good Γ B S0 S H ad μ) (hs : S p = none) (hb : B p = none) (hh : H p = some o) (hn : ∀ (n : Nat) a, ad[n]? = some a → a ≠ p) : Good Γ B S0 (upd S p o) H ad μ := by
  refine ⟨G.ss.trans (Ex.new hs), fun a u h => ?_, G.b, fun a u h => ?_, G.len, G.nd, fun n a c h1 h2 => ?_⟩
  · by_cases e : a = p
    · subst e; rw [upd_same] at h; rw [hh]; exact h
    · rw [upd_ne e] at h; exact G.s a u h
  · by_cases e : a = p
    · subst e; exact .inr hb
    · rw [upd_ne e] at h; exact G.new a u h
  · have ne := hn n a h1
    exact (G.cell n a c h1 h2).keep (Ex.new hs) (Sub.refl _) rfl (fun q => by rw [upd_ne ne]; exact q) rfl
theorem get_app1 {α : Type} {l : List α} {x y : α} {n : Nat} (h : (l ++ [x])[n]? = some y) : l[n]? = some y ∨ (n = l.length ∧ y = x) := by
  by_cases e : n < l.length
  · rw [List.getElem?_append_left e] at h; exact .inl h
  · rw [List.getElem?_append_right (by omega)] at h
    have : n - l.length = 0 := by
      by_cases z : n - l.length = 0
      · exact z
      · rw [List.getElem?_eq_none (by simp; omega)] at h; cases h
    rw [this] at h
    exact .inr ⟨by omega, (Option.some.inj h).symm⟩
/-- it comes to the store -/
theorem Good.alloc (G : Good Γ B S0 S H ad μ) {c : Cell} (hn : ∀ (n : Nat) a, ad[n]? = some a → a ≠ p) (hc : CellOk Γ B S H (ad ++ [p]) p c) : Good Γ B S0 S H (ad ++ [p]) (μ ++ [c]) := by
  refine ⟨G.ss, G.s, G.b, G.new, by simp [G.len], fun i j a h1 h2 => ?_, fun n a c' h1 h2 => ?_⟩
  · rcases get_app1 h1 with e1 | ⟨e1, e1'⟩
    · rcases get_app1 h2 with e2 | ⟨e2, e2'⟩
      · exact G.nd i j a e1 e2
      · exact absurd e2' (hn i a e1)
    · rcases get_app1 h2 with e2 | ⟨e2, e2'⟩
      · exact absurd e1' (hn j a e2)
      · omega
  · rcases get_app1 h1 with e1 | ⟨e1, e1'⟩
    · have hl : n < μ.length := by
        rw [← G.len]
        by_cases z : n < ad.length
        · exact z
        · rw [List.getElem?_eq_none (by omega)] at e1; cases e1
      rw [List.getElem?_append_left hl] at h2
      exact (G.cell n a c' e1 h2).keep (Ex.refl _) (Sub.app _ _) rfl id rfl
    · subst e1'
      rw [e1, G.len, List.getElem?_append_right (by omega)] at h2
      simp at h2
      subst h2
      exact hc
theorem set_get {α : Type} {l : List α} {n m : Nat} {x y : α} (h : (l.set n x)[m]? = some y) : (m = n ∧ y = x) ∨ (m ≠ n ∧ l[m]? = some y) := by
  by_cases e : n = m
  · subst e
    by_cases z : n < l.length
    · rw [List.getElem?_set_self z] at h; exact .inl ⟨rfl, (Option.some.inj h).symm⟩
    · rw [List.getElem?_eq_none (by simpa using z)] at h; cases h
  · rw [List.getElem?_set_ne e] at h; exact .inr ⟨fun z => e z.symm, h⟩
/-- a cell's thing changes -/
theorem Good.upd (G : Good Γ B S0 S H ad μ) {n : Nat} {c : Cell} (hn : ad[n]? = some a) (hb : B a = none) (hs : S a = none) (hc : CellOk Γ B S (L2.upd H a o) ad a c) : Good Γ B S0 S (L2.upd H a o) ad (μ.set n c) := by
  refine ⟨G.ss, fun x u h => ?_, fun x u h => ?_, G.new, by simp [G.len], G.nd, fun m x c' h1 h2 => ?_⟩
  · rw [upd_ne (ne_of_none h hs)]; exact G.s x u h
  · rw [upd_ne (ne_of_none h hb)]; exact G.b x u h
  · rcases set_get h2 with ⟨e1, e2⟩ | ⟨e1, e2⟩
    · subst e1 e2
      rw [hn] at h1
      cases h1
      exact hc
    · have ne : x ≠ a := fun z => e1 (G.nd m n a (z ▸ h1) hn)
      exact (G.cell m x c' h1 e2).keep (Ex.refl _) (Sub.refl _) rfl id (upd_ne ne)
/-- what is known of a cell is told otherwise -/
theorem Good.recell (G : Good Γ B S0 S H ad μ) {n : Nat} {c : Cell} (hc : ∀ a, ad[n]? = some a → CellOk Γ B S H ad a c) : Good Γ B S0 S H ad (μ.set n c) := by
  refine ⟨G.ss, G.s, G.b, G.new, by simp [G.len], G.nd, fun m x c' h1 h2 => ?_⟩
  rcases set_get h2 with ⟨e1, e2⟩ | ⟨e1, e2⟩
  · subst e1 e2
    exact hc x h1
  · exact G.cell m x c' h1 e2
/-- a cell is given to the shared part -/
theorem Good.give (G : Good Γ B S0 S H ad μ) {n : Nat} (hn : ad[n]? = some a) (hb : B a = none) (hs : S a = none) (hh : H a = some o) : Good Γ B S0 (L2.upd S a o) H ad (μ.set n .gone) := by
  refine ⟨G.ss.trans (Ex.new hs), fun x u h => ?_, G.b, fun x u h => ?_, by simp [G.len], G.nd, fun m x c' h1 h2 => ?_⟩
  · by_cases e : x = a
    · subst e; rw [upd_same] at h; rw [hh]; exact h
    · rw [upd_ne e] at h; exact G.s x u h
  · by_cases e : x = a
    · subst e; exact .inr hb
    · rw [upd_ne e] at h; exact G.new x u h
  · rcases set_get h2 with ⟨e1, e2⟩ | ⟨e1, e2⟩
    · subst e1 e2
      rw [hn] at h1
      cases h1
      exact ⟨o, upd_same⟩
    · have ne : x ≠ a := fun z => e1 (G.nd m n a (z ▸ h1) hn)
      exact (G.cell m x c' h1 e2).keep (Ex.new hs) (Sub.refl _) rfl (fun q => by rw [upd_ne ne]; exact q) rfl
/-- more is to stay -/
theorem Good.baseUp (G : Good Γ B S0 S H ad μ) (hh : H p = some o) (hs : S p = none) (hn : ∀ (n : Nat) a, ad[n]? = some a → a ≠ p) : Good Γ (L2.upd B p o) S0 S H ad μ := by
  refine ⟨G.ss, G.s, fun x u h => ?_, fun x u h => ?_, G.len, G.nd, fun n a c h1 h2 => ?_⟩
  · by_cases e : x = p
    · subst e; rw [upd_same] at h; rw [hh]; exact h
    · rw [upd_ne e] at h; exact G.b x u h
  · rw [upd_ne (ne_of_none h hs)]; exact G.new x u h
  · exact (G.cell n a c h1 h2).keep (Ex.refl _) (Sub.refl _) (upd_ne (hn n a h1)) id rfl
/-- less is to stay -/
theorem Good.baseDown {B' : Hp} (G : Good Γ B' S0 S H ad μ) (e : Ex B B') : Good Γ B S0 S H ad μ := by
  refine ⟨G.ss, G.s, e.trans G.b, fun x u h => ?_, G.len, G.nd, fun n a c h1 h2 => ?_⟩
  · rcases G.new x u h with z | z
    · exact .inl z
    · exact .inr (Evl.fresh_back e z)
  · have := G.cell n a c h1 h2
    cases c with
    | lst ds => obtain ⟨q1, q2⟩ := this; exact ⟨Evl.fresh_back e q1, q2⟩
    | ro ds => obtain ⟨q1, q2⟩ := this; exact ⟨Evl.fresh_back e q1, q2⟩
    | ins c ns ds => obtain ⟨q1, q2⟩ := this; exact ⟨Evl.fresh_back e q1, q2⟩
    | gone => exact this
/-- growth by a def that knows nothing of the store -/
structure Gr (S H S' H' : Hp) : Prop where
  ss : Ex S S'
  s : Ex S' H'
  h : Ex H H'
  new : ∀ a o, S' a = some o → S a = some o ∨ H a = none
theorem Good.grow (G : Good Γ B S0 S H ad μ) {S' H' : Hp} (g : Gr S H S' H') : Good Γ B S0 S' H' ad μ := by
  refine ⟨G.ss.trans g.ss, g.s, G.b.trans g.h, fun x u h => ?_, G.len, G.nd, fun n a c h1 h2 => ?_⟩
  · rcases g.new x u h with z | z
    · exact G.new x u z
    · exact .inr (Evl.fresh_back G.b z)
  · obtain ⟨o, ho⟩ := G.inH h1
    refine (G.cell n a c h1 h2).keep g.ss (Sub.refl _) rfl (fun q => ?_) ((g.h _ _ ho).trans ho.symm)
    cases e : S' a with
    | none => rfl
    | some u =>
      rcases g.new a u e with z | z
      · rw [q] at z; cases z
      · rw [ho] at z; cases z
end
/-! ### all that is reached, as data -/
mutual
def mapLoc (f : Nat → D) : D → D
  | .loc n => f n
  | .lst ds => .lst (mapLocs f ds)
  | .tup ds => .tup (mapLocs f ds)
  | .scr ds => .scr (mapLocs f ds)
  | .obj c ns ds => .obj c ns (mapLocs f ds)
  | d => d
def mapLocs (f : Nat → D) : List D → List D
  | [] => []
  | d :: ds => mapLoc f d :: mapLocs f ds
end
def resN (μ : List Cell) : Nat → D → D
  | 0, d => d
  | k + 1, d => mapLoc (fun n => match μ[n]? with
    | some (.lst ds) => .lst (ds.map (resN μ k))
    | some (.ro ds) => .lst (ds.map (resN μ k))
    | some (.ins c ns ds) => .obj c ns (ds.map (resN μ k))
    | _ => .loc n) d
def resD (μ : List Cell) (d : D) : D := resN μ 5 d
section
mutual
theorem mapLoc_no {f : Nat → D} : ∀ d : D, noLoc d = true → mapLoc f d = d
  | .loc n, h => by rw [noLoc] at h; cases h
  | .lst ds, h => by rw [mapLoc, mapLocs_no ds (by rw [noLoc] at h; exact h)]
  | .tup ds, h => by rw [mapLoc, mapLocs_no ds (by rw [noLoc] at h; exact h)]
  | .scr ds, h => by rw [mapLoc, mapLocs_no ds (by rw [noLoc] at h; exact h)]
  | .obj c ns ds, h => by rw [mapLoc, mapLocs_no ds (by rw [noLoc] at h; exact h)]
  | .non, _ => by rw [mapLoc] <;> intros <;> first | exact D.noConfusion ‹_› | simp_all
  | .bl _, _ => by rw [mapLoc] <;> intros <;> simp_all
  | .int _, _ => by rw [mapLoc] <;> intros <;> simp_all
  | .str _, _ => by rw [mapLoc] <;> intros <;> simp_all
  | .dic, _ => by rw [mapLoc] <;> intros <;> simp_all
  | .fn _, _ => by rw [mapLoc] <;> intros <;> simp_all
  | .cls _, _ => by rw [mapLoc] <;> intros <;> simp_all
  | .ty _, _ => by rw [mapLoc] <;> intros <;> simp_all
theorem mapLocs_no {f : Nat → D} : ∀ ds : List D, noLocs ds = true → mapLocs f ds = ds
  | [], _ => by rw [mapLocs]
  | d :: ds, h => by
    rw [noLocs, Bool.and_eq_true] at h
    rw [mapLocs, mapLoc_no d h.1, mapLocs_no ds h.2]
end
theorem resN_no {μ : List Cell} : ∀ (k : Nat) (d : D), noLoc d = true → resN μ k d = d
  | 0, _, _ => rfl
  | k + 1, d, h => by rw [resN]; exact mapLoc_no d h
theorem resD_no {μ : List Cell} {d : D} (h : noLoc d = true) : resD μ d = d := resN_no 5 d h
end
section
variable {Γ : Gm} {B S0 S H S1 : Hp} {ad : List Addr} {μ : List Cell}
/-- the heap with all cells shared -/
def viewS (S H : Hp) (ad : List Addr) : Hp := fun a => if a ∈ ad then H a else S a
theorem Good.view_ex (G : Good Γ B S0 S H ad μ) : Ex S (viewS S H ad) ∧ Ex (viewS S H ad) H := by
  refine ⟨fun a o h => ?_, fun a o h => ?_⟩
  · unfold viewS
    split
    · exact G.s a o h
    · exact h
  · unfold viewS at h
    split at h
    · exact h
    · exact G.s a o h
mutual
theorem rp_map {f : Nat → D} (e : Ex S S1) (hf : ∀ (n : Nat) a, ad[n]? = some a → Rp Γ S1 ad (.ref a) (f n)) : ∀ (d : D) (v : V), Rp Γ S ad v d → Rp Γ S1 ad v (mapLoc f d)
  | .loc n, _, h => by
    cases h with
    | loc q => rw [mapLoc]; exact hf n _ q
  | .lst ds, _, h => by
    cases h with
    | lst hs ha => rw [mapLoc]; exact .lst (e _ _ hs) (rpAll_map e hf ds _ ha)
  | .tup ds, _, h => by
    cases h with
    | tup hs ha => rw [mapLoc]; exact .tup (e _ _ hs) (rpAll_map e hf ds _ ha)
  | .scr ds, _, h => by
    cases h with
    | scr hs ha => rw [mapLoc]; exact .scr (Evl.ex_l e hs) (rpAll_map e hf ds _ ha)
  | .obj c ns ds, _, h => by
    cases h with
    | obj hs hn ha => rw [mapLoc]; exact .obj (e _ _ hs) hn (rpAll_map e hf ds _ ha)
  | .non, _, h => by rw [mapLoc_no _ rfl]; exact rp_ext e (Sub.refl _) _ _ h
  | .bl _, _, h => by rw [mapLoc_no _ rfl]; exact rp_ext e (Sub.refl _) _ _ h
  | .int _, _, h => by rw [mapLoc_no _ rfl]; exact rp_ext e (Sub.refl _) _ _ h
  | .str _, _, h => by rw [mapLoc_no _ rfl]; exact rp_ext e (Sub.refl _) _ _ h
  | .dic, _, h => by rw [mapLoc_no _ rfl]; exact rp_ext e (Sub.refl _) _ _ h
  | .fn _, _, h => by rw [mapLoc_no _ rfl]; exact rp_ext e (Sub.refl _) _ _ h
  | .cls _, _, h => by rw [mapLoc_no _ rfl]; exact rp_ext e (Sub.refl _) _ _ h
  | .ty _, _, h => by rw [mapLoc_no _ rfl]; exact rp_ext e (Sub.refl _) _ _ h
theorem rpAll_map {f : Nat → D} (e : Ex S S1) (hf : ∀ (n : Nat) a, ad[n]? = some a → Rp Γ S1 ad (.ref a) (f n)) : ∀ (ds : List D) (vs : List V), RpAll Γ S ad vs ds → RpAll Γ S1 ad vs (mapLocs f ds)
  | [], _, h => by cases h; rw [mapLocs]; exact .nil
  | d :: ds, _, h => by
    cases h with
    | cons h1 h2 => rw [mapLocs]; exact .cons (rp_map e hf d _ h1) (rpAll_map e hf ds _ h2)
end
theorem rpAll_fun {S S' : Hp} {f : D → D} (h : ∀ v d, Rp Γ S ad v d → Rp Γ S' ad v (f d)) : ∀ (ds : List D) (vs : List V), RpAll Γ S ad vs ds → RpAll Γ S' ad vs (ds.map f)
  | [], _, q => by cases q; exact .nil
  | d :: ds, _, q => by
    cases q with
    | cons h1 h2 => exact .cons (h _ _ h1) (rpAll_fun h ds _ h2)
theorem Good.resN (G : Good Γ B S0 S H ad μ) : ∀ (k : Nat) (v : V) (d : D), Rp Γ S ad v d → Rp Γ (viewS S H ad) ad v (resN μ k d)
  | 0, v, d, h => rp_ext G.view_ex.1 (Sub.refl _) _ _ h
  | k + 1, v, d, h => by
    rw [EM.resN]
    refine rp_map G.view_ex.1 (fun n a hn => ?_) d v h
    have vw : ∀ o, H a = some o → viewS S H ad a = some o := fun o ho => by
      unfold viewS
      rw [if_pos (List.mem_of_getElem? hn)]
      exact ho
    cases e : μ[n]? with
    | none => exact .loc hn
    | some c =>
      have hc := G.cell n a c hn e
      cases c with
      | lst ds =>
        obtain ⟨_, _, vs, h3, h4⟩ := hc
        exact .lst (vw _ h3) (rpAll_fun (fun v d q => G.resN k v d q) ds vs h4)
      | ro ds =>
        obtain ⟨_, _, vs, h3, h4⟩ := hc
        exact .lst (vw _ h3) (rpAll_fun (fun v d q => G.resN k v d q) ds vs h4)
      | ins c ns ds =>
        obtain ⟨_, _, dx, fs, h3, h4, h5⟩ := hc
        exact .obj (vw _ h3) h4 (rpAll_fun (fun v d q => G.resN k v d q) ds _ h5)
      | gone => exact .loc hn
theorem Good.res (G : Good Γ B S0 S H ad μ) {v : V} {d : D} (h : Rp Γ S ad v d) : Rp Γ (viewS S H ad) ad v (resD μ d) := G.resN 5 v d h
end
end EM

namespace EM
open PySem PySem.Spec PyProof.Rows L2
open Evl (Ex)
/-! ### results -/
inductive O where
  | dat (d : D) | own (ds : List D)
  deriving Inhabited
def O.d : O → D
  | .dat d => d
  | .own ds => .lst ds
/-- what a def that knows nothing of the store answers -/
inductive Out where
  | ret (o : O) | er (c : Nat) | no
abbrev Fn := List D → Out
inductive Rs (α : Type) where
  | ok (a : α) (μ : List Cell) | er (c : Nat) (μ : List Cell) | no
def Rs.bind {α β : Type} (r : Rs α) (f : α → List Cell → Rs β) : Rs β := match r with
  | .ok a μ => f a μ
  | .er c μ => .er c μ
  | .no => .no
def Rs.opt {α : Type} (o : Option α) (μ : List Cell) : Rs α := match o with
  | some a => .ok a μ
  | none => .no
/-- what is raised is not told -/
def Rs.calm {α : Type} (r : Rs α) : Rs α := match r with
  | .ok a μ => .ok a μ
  | _ => .no
def Res (Γ : Gm) (B S H : Hp) (ad : List Addr) (v : V) : O → Prop
  | .dat d => Rp Γ S ad v d
  | .own ds => ∃ p vs, v = .ref p ∧ B p = none ∧ S p = none ∧ (∀ (n : Nat) a, ad[n]? = some a → a ≠ p) ∧ H p = some (.lst vs) ∧ RpAll Γ S ad vs ds
def Slots (Γ : Gm) (S : Hp) (ad : List Addr) (σ : L2.St) (ρ : List (Option D)) : Prop := σ.length = ρ.length ∧ ∀ (i : Nat) d, ρ[i]? = some (some d) → ∃ v, σ[i]? = some (some v) ∧ Rp Γ S ad v d
theorem Slots.ext {Γ : Gm} {S S' : Hp} {ad ad' : List Addr} {σ : L2.St} {ρ : List (Option D)} (h : Slots Γ S ad σ ρ) (e : Ex S S') (z : Sub ad ad') : Slots Γ S' ad' σ ρ := ⟨h.1, fun i d q => by
  obtain ⟨v, h1, h2⟩ := h.2 i d q
  exact ⟨v, h1, rp_ext e z _ _ h2⟩⟩
/-! ### judgements -/
section
variable {γ γ' δ δ' : Type}
def At (Γ : Gm) (E : XK) (R : Hp → Hp → Hp → List Addr → γ → γ' → Prop) (B S0 S : Hp) (ad : List Addr) (t : (γ → Hp → Prop) → Prop) (r : Rs γ') : Prop :=
  r ≠ .no → ∀ Q : γ → Hp → Prop,
    (∀ x μ' y S' H' ad', r = .ok x μ' → Ex S S' → Sub ad ad' → Good Γ B S0 S' H' ad' μ' → R B S' H' ad' y x → Q y H') →
    (∀ c μ' S' H' ad', r = .er c μ' → Ex S S' → Sub ad ad' → Good Γ B S0 S' H' ad' μ' → E (.ref (Γ.C c)) none H') → t Q
def Jg (Γ : Gm) (E : XK) (R : Hp → Hp → Hp → List Addr → γ → γ' → Prop) (t : L2.St → Hp → (γ → Hp → Prop) → Prop) (ρ : List (Option D)) (μ : List Cell) (r : Rs γ') : Prop :=
  ∀ B S0 S H ad σ, Good Γ B S0 S H ad μ → Slots Γ S ad σ ρ → At Γ E R B S0 S ad (t σ H) r
variable {Γ : Gm} {E : XK} {R : Hp → Hp → Hp → List Addr → γ → γ' → Prop} {R' : Hp → Hp → Hp → List Addr → δ → δ' → Prop} {B S0 S H : Hp} {ad : List Addr} {μ : List Cell} {ρ : List (Option D)}
theorem At.ret {x : γ'} {y : γ} (G : Good Γ B S0 S H ad μ) (h : R B S H ad y x) : At Γ E R B S0 S ad (fun Q => Q y H) (.ok x μ) := fun _ Q q _ => q x μ y S H ad rfl (Ex.refl _) (Sub.refl _) G h
theorem At.no {t : (γ → Hp → Prop) → Prop} : At Γ E R B S0 S ad t (.no : Rs γ') := fun h => absurd rfl h
theorem Jg.no {t : L2.St → Hp → (γ → Hp → Prop) → Prop} : Jg Γ E R t ρ μ (.no : Rs γ') := fun _ _ _ _ _ _ _ _ => At.no
theorem Jg.bind {ta : L2.St → Hp → (γ → Hp → Prop) → Prop} {k : γ → L2.St → Hp → (δ → Hp → Prop) → Prop} {r : Rs γ'} {f : γ' → List Cell → Rs δ'} (h : Jg Γ E R ta ρ μ r)
    (hk : ∀ a μ1, r = .ok a μ1 → ∀ B S0 S H ad σ b, Good Γ B S0 S H ad μ1 → Slots Γ S ad σ ρ → R B S H ad b a → At Γ E R' B S0 S ad (k b σ H) (f a μ1)) : Jg Γ E R' (fun σ H Q => ta σ H fun b H1 => k b σ H1 Q) ρ μ (r.bind f) := by
  intro B S0 S H ad σ G Sl hn Q q1 q2
  refine h B S0 S H ad σ G Sl (fun e => hn (by rw [e]; rfl)) _ (fun a μ1 b S' H' ad' e ex sb G' hr => ?_) (fun c μ' S' H' ad' e ex sb G' => ?_)
  · subst e
    exact hk a μ1 rfl B S0 S' H' ad' σ b G' (Sl.ext ex sb) hr hn Q (fun x μ2 y S2 H2 ad2 e2 ex2 sb2 G2 r2 => q1 x μ2 y S2 H2 ad2 e2 (ex.trans ex2) (sb.trans sb2) G2 r2) (fun c μ2 S2 H2 ad2 e2 ex2 sb2 G2 => q2 c μ2 S2 H2 ad2 e2 (ex.trans ex2) (sb.trans sb2) G2)
  · subst e
    exact q2 c μ' S' H' ad' rfl ex sb G'
/-- the same at a place -/
theorem At.bind {ta : (γ → Hp → Prop) → Prop} {k : γ → Hp → (δ → Hp → Prop) → Prop} {r : Rs γ'} {f : γ' → List Cell → Rs δ'} (h : At Γ E R B S0 S ad ta r)
    (hk : ∀ a μ1, r = .ok a μ1 → ∀ S' H' ad' b, Ex S S' → Sub ad ad' → Good Γ B S0 S' H' ad' μ1 → R B S' H' ad' b a → At Γ E R' B S0 S' ad' (k b H') (f a μ1)) : At Γ E R' B S0 S ad (fun Q => ta fun b H1 => k b H1 Q) (r.bind f) := by
  intro hn Q q1 q2
  refine h (fun e => hn (by rw [e]; rfl)) _ (fun a μ1 b S' H' ad' e ex sb G' hr => ?_) (fun c μ' S' H' ad' e ex sb G' => ?_)
  · subst e
    exact hk a μ1 rfl S' H' ad' b ex sb G' hr hn Q (fun x μ2 y S2 H2 ad2 e2 ex2 sb2 G2 r2 => q1 x μ2 y S2 H2 ad2 e2 (ex.trans ex2) (sb.trans sb2) G2 r2) (fun c μ2 S2 H2 ad2 e2 ex2 sb2 G2 => q2 c μ2 S2 H2 ad2 e2 (ex.trans ex2) (sb.trans sb2) G2)
  · subst e
    exact q2 c μ' S' H' ad' rfl ex sb G'
end
abbrev RD (Γ : Gm) : Hp → Hp → Hp → List Addr → V → D → Prop := fun _ S _ ad v d => Rp Γ S ad v d
abbrev RO (Γ : Gm) : Hp → Hp → Hp → List Addr → V → O → Prop := fun B S H ad v o => Res Γ B S H ad v o
abbrev RA (Γ : Gm) : Hp → Hp → Hp → List Addr → List V → List D → Prop := fun _ S _ ad v d => RpAll Γ S ad v d
abbrev RE (α : Type) : Hp → Hp → Hp → List Addr → α → α → Prop := fun _ _ _ _ a b => a = b
/-- a new list is shared -/
def Rs.fz (r : Rs O) : Rs D := r.bind fun o μ => .ok o.d μ
/-- a new list comes to the store -/
def Rs.cell (r : Rs O) : Rs O := r.bind fun o μ => match o with
  | .own ds => .ok (.dat (.loc μ.length)) (μ ++ [.lst ds])
  | .dat _ => .no
section
variable {Γ : Gm} {E : XK} {B S0 S H : Hp} {ad : List Addr} {μ : List Cell} {ρ : List (Option D)} {te : TE} {r : Rs O}
theorem res_share {v : V} {o : O} (G : Good Γ B S0 S H ad μ) (h : Res Γ B S H ad v o) : ∃ S', Ex S S' ∧ Good Γ B S0 S' H ad μ ∧ Rp Γ S' ad v o.d := by
  cases o with
  | dat d => exact ⟨S, Ex.refl _, G, h⟩
  | own ds =>
    obtain ⟨p, vs, rfl, hb, hs, hn, hh, ha⟩ := h
    exact ⟨_, Ex.new hs, G.share hs hb hh hn, .lst upd_same (rpAll_ext (Ex.new hs) (Sub.refl _) _ _ ha)⟩
theorem Jg.fz (h : Jg Γ E (RO Γ) te ρ μ r) : Jg Γ E (RD Γ) te ρ μ r.fz := by
  intro B S0 S H ad σ G Sl hn Q q1 q2
  refine h B S0 S H ad σ G Sl (fun e => hn (by rw [e]; rfl)) _ (fun o μ1 v S' H' ad' e ex sb G' hr => ?_) (fun c μ' S' H' ad' e ex sb G' => ?_)
  · subst e
    obtain ⟨S2, e2, G2, r2⟩ := res_share G' hr
    exact q1 _ _ v S2 H' ad' rfl (ex.trans e2) sb G2 r2
  · subst e
    exact q2 c μ' S' H' ad' rfl ex sb G'
theorem Jg.cell (h : Jg Γ E (RO Γ) te ρ μ r) : Jg Γ E (RO Γ) te ρ μ r.cell := by
  intro B S0 S H ad σ G Sl hn Q q1 q2
  refine h B S0 S H ad σ G Sl (fun e => hn (by rw [e]; rfl)) _ (fun o μ1 v S' H' ad' e ex sb G' hr => ?_) (fun c μ' S' H' ad' e ex sb G' => ?_)
  · subst e
    cases o with
    | dat d => exact absurd rfl hn
    | own ds =>
      obtain ⟨p, vs, rfl, hb, hs, hnn, hh, ha⟩ := hr
      have G2 := G'.alloc (p := p) (c := .lst ds) hnn ⟨hb, hs, vs, hh, rpAll_ext (Ex.refl _) (Sub.app _ _) _ _ ha⟩
      refine q1 _ _ (.ref p) S' H' (ad' ++ [p]) rfl ex (sb.trans (Sub.app _ _)) G2 (.loc ?_)
      rw [← G'.len, List.getElem?_append_right (Nat.le_refl _)]
      simp
  · subst e
    exact q2 c μ' S' H' ad' rfl ex sb G'
theorem Jg.dat {r : Rs D} (h : Jg Γ E (RD Γ) te ρ μ r) : Jg Γ E (RO Γ) te ρ μ (r.bind fun d μ => .ok (.dat d) μ) := by
  intro B S0 S H ad σ G Sl hn Q q1 q2
  refine h B S0 S H ad σ G Sl (fun e => hn (by rw [e]; rfl)) _ (fun o μ1 v S' H' ad' e ex sb G' hr => ?_) (fun c μ' S' H' ad' e ex sb G' => ?_)
  · subst e
    exact q1 _ _ v S' H' ad' rfl ex sb G' hr
  · subst e
    exact q2 c μ' S' H' ad' rfl ex sb G'
end
/-! ### lists and tuples, as they are read -/
def seqM (μ : List Cell) : D → Option (List D)
  | .lst ds => some ds
  | .loc n => match μ[n]? with
    | some (.lst ds) => some ds
    | some (.ro ds) => some ds
    | _ => none
  | _ => none
def seqL (μ : List Cell) : D → Option (List D)
  | .scr ds => some ds
  | d => seqM μ d
def seqT : D → Option (List D)
  | .tup ds => some ds
  | _ => none
section
variable {Γ : Gm} {B S0 S H : Hp} {ad : List Addr} {μ : List Cell} {v : V} {d : D} {ds : List D}
theorem seqM_ok (G : Good Γ B S0 S H ad μ) (h : Rp Γ S ad v d) (e : seqM μ d = some ds) : ∃ a vs, v = .ref a ∧ H a = some (.lst vs) ∧ RpAll Γ S ad vs ds := by
  cases h with
  | lst h1 h2 => cases e; exact ⟨_, _, rfl, G.s _ _ h1, h2⟩
  | loc hn =>
    rename_i n a
    simp only [seqM] at e
    cases hc : μ[n]? with
    | none => rw [hc] at e; cases e
    | some c =>
      rw [hc] at e
      have := G.cell n a c hn hc
      cases c with
      | lst ds' =>
        cases e
        obtain ⟨_, _, vs, h1, h2⟩ := this
        exact ⟨a, vs, rfl, h1, h2⟩
      | ro ds' =>
        cases e
        obtain ⟨_, _, vs, h1, h2⟩ := this
        exact ⟨a, vs, rfl, h1, h2⟩
      | ins _ _ _ => cases e
      | gone => cases e
  | _ => cases e
theorem seqL_ok (G : Good Γ B S0 S H ad μ) (h : Rp Γ S ad v d) (e : seqL μ d = some ds) : ∃ a vs, v = .ref a ∧ SqL Γ.K H a vs ∧ RpAll Γ S ad vs ds := by
  cases h with
  | scr h1 h2 => cases e; exact ⟨_, _, rfl, Evl.ex_l G.s h1, h2⟩
  | lst h1 h2 =>
    obtain ⟨a, vs, q1, q2, q3⟩ := seqM_ok G (.lst h1 h2) e
    exact ⟨a, vs, q1, .inl (.inl q2), q3⟩
  | loc hn =>
    obtain ⟨a, vs, q1, q2, q3⟩ := seqM_ok G (.loc hn) e
    exact ⟨a, vs, q1, .inl (.inl q2), q3⟩
  | _ => cases e
theorem seqT_ok (G : Good Γ B S0 S H ad μ) (h : Rp Γ S ad v d) (e : seqT d = some ds) : ∃ a vs, v = .ref a ∧ H a = some (.tup vs) ∧ RpAll Γ S ad vs ds := by
  cases h with
  | tup h1 h2 => cases e; exact ⟨_, _, rfl, G.s _ _ h1, h2⟩
  | _ => cases e
theorem atI_dp {xs : List V} {ds : List D} {i : Int} (h : RpAll Γ S ad xs ds) (ha : atI ds i = some d) : ∃ v, atI xs i = some v ∧ Rp Γ S ad v d := by
  unfold atI at ha ⊢
  rw [da_length h]
  cases e : ixN ds.length i with
  | none => rw [e] at ha; cases ha
  | some j =>
    rw [e] at ha
    exact da_get h ha
end
/-! ### == of data -/
mutual
def D.py : D → PyData
  | .non => .none
  | .bl b => .bool b
  | .int i => .int i
  | .str x => .str x
  | .lst ds => .list (D.pys ds)
  | .tup ds => .tuple (D.pys ds)
  | _ => .none
def D.pys : List D → List PyData
  | [] => []
  | d :: ds => D.py d :: D.pys ds
end
mutual
def D.pure : D → Bool
  | .lst ds => D.pures ds
  | .tup ds => D.pures ds
  | .non => true
  | .bl _ => true
  | .int _ => true
  | .str _ => true
  | _ => false
def D.pures : List D → Bool
  | [] => true
  | d :: ds => D.pure d && D.pures ds
end
section
variable {Γ : Gm} {S H : Hp} {ad : List Addr}
mutual
theorem rp_dp (e : Ex S H) : ∀ (d : D) (v : V), D.pure d = true → Rp Γ S ad v d → Dp Γ.K H v (D.py d)
  | .non, _, _, h => by cases h; exact .non
  | .bl b, _, _, h => by cases h; exact .bl b
  | .int i, _, _, h => by cases h; exact .int i
  | .str x, _, _, h => by cases h; exact .str x
  | .lst ds, _, p, h => by
    rw [D.pure] at p
    cases h with
    | lst hs ha => exact .lst (.inl (.inl (e _ _ hs))) (rpAll_dp e ds _ p ha)
  | .tup ds, _, p, h => by
    rw [D.pure] at p
    cases h with
    | tup hs ha => exact .tup (.inl (.inl (e _ _ hs))) (rpAll_dp e ds _ p ha)
  | .scr _, _, p, _ => by simp [D.pure] at p
  | .dic, _, p, _ => by simp [D.pure] at p
  | .fn _, _, p, _ => by simp [D.pure] at p
  | .cls _, _, p, _ => by simp [D.pure] at p
  | .ty _, _, p, _ => by simp [D.pure] at p
  | .loc _, _, p, _ => by simp [D.pure] at p
  | .obj _ _ _, _, p, _ => by simp [D.pure] at p
theorem rpAll_dp (e : Ex S H) : ∀ (ds : List D) (vs : List V), D.pures ds = true → RpAll Γ S ad vs ds → DpAll Γ.K H vs (D.pys ds)
  | [], _, _, h => by cases h; exact .nil
  | d :: ds, _, p, h => by
    rw [D.pures, Bool.and_eq_true] at p
    cases h with
    | cons h1 h2 => exact .cons (rp_dp e d _ p.1 h1) (rpAll_dp e ds _ p.2 h2)
end
end
/-- what Python's == says of data -/
def D.eq (d e : D) : Bool := PyData.eqv d.py e.py
/-- data that == takes -/
def D.okEq (d : D) : Bool := d.pure && SeqAt.shaped d.py
/-! ### operations -/
instance (i j : Int) : Decidable (CMul i j) := by unfold CMul; infer_instance
instance (i j : Int) : Decidable (CMulX i j) := by unfold CMulX; infer_instance
instance (i j : Int) : Decidable (CDiv i j) := by unfold CDiv; infer_instance
instance (i j : Int) : Decidable (CDivN i j) := by unfold CDivN; infer_instance
instance (i j : Int) : Decidable (CDivW i j) := by unfold CDivW; infer_instance
instance (i j : Int) : Decidable (CPow i j) := by unfold CPow; infer_instance
inductive Op where
  | add | sub | mul | mulX | fdiv | fdivW | mod | modN | pow | shr | shl | band | lt | le | gt | ge | eqS | neS | eqD | neD | isN | notN | isB | notB | cat | rep | inD | notInD
def Op.r (K : PySem.W.Frag) : Op → R2
  | .add => rI0 fun i j => .int (i + j)
  | .sub => rI0 fun i j => .int (i - j)
  | .mul => rI CMul fun i j => .int (i * j)
  | .mulX => rI CMulX fun i j => .int (i * j)
  | .fdiv => rI CDiv fun i j => .int (i / j)
  | .fdivW => rI CDivW fun i j => .int (i / j)
  | .mod => rI (fun _ j => 0 < j) fun i j => .int (i % j)
  | .modN => rI (fun _ j => j ≠ 0) fun i j => .int (i.fmod j)
  | .pow => rI CPow fun i j => .int (i ^ j.toNat)
  | .shr => rI (fun _ j => 0 ≤ j) fun i j => .int (i / 2 ^ j.toNat)
  | .shl => rI CPow fun i j => .int (i * 2 ^ j.toNat)
  | .band => rI0 fun i j => .int (Builtin.bitAnd i j)
  | .lt => rI0 fun i j => .bl (decide (i < j))
  | .le => rI0 fun i j => .bl (decide (i ≤ j))
  | .gt => rI0 fun i j => .bl (decide (j < i))
  | .ge => rI0 fun i j => .bl (decide (j ≤ i))
  | .eqS => rEq
  | .neS => rNe
  | .eqD => rEqD K
  | .neD => rNeD K
  | .isN => fun x y H Q => y = .non ∧ Q (.bl (decide (x = .non))) H
  | .notN => fun x y H Q => y = .non ∧ Q (.bl (!decide (x = .non))) H
  | .isB => rIsB
  | .notB => rNotB
  | .cat => rCat
  | .rep => rRep
  | .inD => rInD K
  | .notInD => rNotInD K
def isNon : D → Bool
  | .non => true
  | _ => false
def sEq : D → D → Option Bool
  | .int i, .int j => some (decide (i = j))
  | .str i, .str j => some (decide (i = j))
  | .bl i, .bl j => some (decide (i = j))
  | .non, .int _ => some false
  | .int _, .non => some false
  | .non, .non => some true
  | _, _ => none
def opI (o : Op) (i j : Int) : Option D := match o with
  | .add => some (.int (i + j))
  | .sub => some (.int (i - j))
  | .mul => if CMul i j then some (.int (i * j)) else none
  | .mulX => if CMulX i j then some (.int (i * j)) else none
  | .fdiv => if CDiv i j then some (.int (i / j)) else none
  | .fdivW => if CDivW i j then some (.int (i / j)) else none
  | .mod => if 0 < j then some (.int (i % j)) else none
  | .modN => if j ≠ 0 then some (.int (i.fmod j)) else none
  | .pow => if CPow i j then some (.int (i ^ j.toNat)) else none
  | .shr => if 0 ≤ j then some (.int (i / 2 ^ j.toNat)) else none
  | .shl => if CPow i j then some (.int (i * 2 ^ j.toNat)) else none
  | .band => some (.int (Builtin.bitAnd i j))
  | .lt => some (.bl (decide (i < j)))
  | .le => some (.bl (decide (i ≤ j)))
  | .gt => some (.bl (decide (j < i)))
  | .ge => some (.bl (decide (j ≤ i)))
  | _ => none
def opInt (o : Op) (d e : D) : Option O := match d with
  | .int i => match e with
    | .int j => (opI o i j).map .dat
    | _ => none
  | _ => none
def eqRes (μ : List Cell) (d e : D) : Option Bool := if (resD μ d).okEq && (resD μ e).okEq then some (D.eq (resD μ d) (resD μ e)) else none
def inRes (μ : List Cell) (d e : D) : Option Bool := match resD μ e with
  | .lst es => if (resD μ d).okEq && (D.lst es).okEq then some ((D.pys es).any fun z => PyData.eqv z (resD μ d).py) else none
  | _ => none
def blO (neg : Bool) (b : Option Bool) : Option O := b.map fun b => .dat (.bl (if neg then !b else b))
def opEv (o : Op) (μ : List Cell) (d e : D) : Option O := match o with
  | .eqS => blO false (sEq d e)
  | .neS => blO true (sEq d e)
  | .eqD => blO false (eqRes μ d e)
  | .neD => blO true (eqRes μ d e)
  | .inD => blO false (inRes μ d e)
  | .notInD => blO true (inRes μ d e)
  | .isN => match e with
    | .non => some (.dat (.bl (isNon d)))
    | _ => none
  | .notN => match e with
    | .non => some (.dat (.bl (!isNon d)))
    | _ => none
  | .isB => match d, e with
    | .bl a, .bl b => some (.dat (.bl (decide (a = b))))
    | _, _ => none
  | .notB => match d, e with
    | .bl a, .bl b => some (.dat (.bl (!decide (a = b))))
    | _, _ => none
  | .cat => match seqM μ d, seqM μ e with
    | some ds, some es => if ds.length + es.length ≤ 100000 then some (.own (ds ++ es)) else none
    | _, _ => none
  | .rep => match seqM μ d, e with
    | some ds, .int k => if -(2 ^ 62) ≤ k ∧ k ≤ 100000 ∧ ds.length * k.toNat ≤ 100000 then some (.own (List.replicate k.toNat ds).flatten) else none
    | _, _ => none
  | o => opInt o d e
section
variable {Γ : Gm} {B S0 S H : Hp} {ad : List Addr} {μ : List Cell} {x y : V} {d e : D}
/-- what a rule of two values is to do -/
def OpOk (Γ : Gm) (r : R2) (μ : List Cell) (d e : D) (res : O) : Prop := ∀ B S0 S H ad x y, Good Γ B S0 S H ad μ → Rp Γ S ad x d → Rp Γ S ad y e → ∀ Q : VK, (∀ v S' H', Ex S S' → Good Γ B S0 S' H' ad μ → Res Γ B S' H' ad v res → Q v H') → r x y H Q
theorem op_II {g : Int → Int → Int} {i j : Int} : OpOk Γ (rI0 fun i j => .int (g i j)) μ (.int i) (.int j) (.dat (.int (g i j))) := fun B S0 S H ad x y G hx hy Q q => by
  rw [dp_int hx, dp_int hy]
  exact ⟨i, j, rfl, rfl, q _ S H (Ex.refl _) G (.int _)⟩
theorem op_IB {g : Int → Int → Bool} {i j : Int} : OpOk Γ (rI0 fun i j => .bl (g i j)) μ (.int i) (.int j) (.dat (.bl (g i j))) := fun B S0 S H ad x y G hx hy Q q => by
  rw [dp_int hx, dp_int hy]
  exact ⟨i, j, rfl, rfl, q _ S H (Ex.refl _) G (.bl _)⟩
theorem op_IIc {C : Int → Int → Prop} {g : Int → Int → Int} {i j : Int} (hc : C i j) : OpOk Γ (rI C fun i j => .int (g i j)) μ (.int i) (.int j) (.dat (.int (g i j))) := fun B S0 S H ad x y G hx hy Q q => by
  rw [dp_int hx, dp_int hy]
  exact ⟨i, j, rfl, rfl, hc, q _ S H (Ex.refl _) G (.int _)⟩
theorem opI_ok {o : Op} {i j : Int} {r : D} (h : opI o i j = some r) : OpOk Γ (o.r Γ.K) μ (.int i) (.int j) (.dat r) := by
  cases o <;> simp only [opI] at h <;> first
    | (cases h; first | exact op_II | exact op_IB)
    | (split at h <;> first | (cases h; exact op_IIc ‹_›) | (cases h))
    | cases h
theorem opInt_ok {o : Op} {r : O} (h : opInt o d e = some r) : OpOk Γ (o.r Γ.K) μ d e r := by
  unfold opInt at h
  cases d with
  | int i =>
    cases e with
    | int j =>
      simp only [Option.map_eq_some_iff] at h
      obtain ⟨r', h1, rfl⟩ := h
      exact opI_ok h1
    | _ => cases h
  | _ => cases h
theorem sEq_ok {b : Bool} (h : sEq d e = some b) (hx : Rp Γ S ad x d) (hy : Rp Γ S ad y e) : scal x y = true ∧ decide (x = y) = b := by
  unfold sEq at h
  split at h <;> cases h
  · rw [dp_int hx, dp_int hy]; exact ⟨rfl, by simp⟩
  · rw [dp_str hx, dp_str hy]; exact ⟨rfl, by simp⟩
  · rw [dp_bool hx, dp_bool hy]; exact ⟨rfl, by simp⟩
  · rw [dp_none hx, dp_int hy]; exact ⟨rfl, by simp⟩
  · rw [dp_int hx, dp_none hy]; exact ⟨rfl, by simp⟩
  · rw [dp_none hx, dp_none hy]; exact ⟨rfl, by simp⟩
theorem isNon_ok (hx : Rp Γ S ad x d) : decide (x = .non) = isNon d := by
  cases hx <;> rfl
theorem eqRes_ok {b : Bool} (h : eqRes μ d e = some b) (G : Good Γ B S0 S H ad μ) (hx : Rp Γ S ad x d) (hy : Rp Γ S ad y e) : ∃ p q, Dp Γ.K H x p ∧ Dp Γ.K H y q ∧ SeqAt.shaped p = true ∧ SeqAt.shaped q = true ∧ PyData.eqv p q = b := by
  unfold eqRes at h
  split at h
  · rename_i hc
    cases h
    rw [Bool.and_eq_true] at hc
    unfold D.okEq at hc
    rw [Bool.and_eq_true, Bool.and_eq_true] at hc
    exact ⟨_, _, rp_dp G.view_ex.2 _ _ hc.1.1 (G.res hx), rp_dp G.view_ex.2 _ _ hc.2.1 (G.res hy), hc.1.2, hc.2.2, rfl⟩
  · cases h
theorem inRes_ok {b : Bool} (h : inRes μ d e = some b) (G : Good Γ B S0 S H ad μ) (hx : Rp Γ S ad x d) (hy : Rp Γ S ad y e) : ∃ p ps, Dp Γ.K H x p ∧ Dp Γ.K H y (.list ps) ∧ SeqAt.shaped p = true ∧ SeqAt.shaped (.list ps) = true ∧ (ps.any fun z => PyData.eqv z p) = b := by
  unfold inRes at h
  split at h
  · rename_i es he
    split at h
    · rename_i hc
      cases h
      rw [Bool.and_eq_true] at hc
      unfold D.okEq at hc
      rw [Bool.and_eq_true, Bool.and_eq_true] at hc
      have h2 := G.res hy
      rw [he] at h2
      have h3 := rp_dp G.view_ex.2 _ _ hc.2.1 h2
      rw [D.py] at h3
      have h4 := hc.2.2
      rw [D.py] at h4
      exact ⟨_, _, rp_dp G.view_ex.2 _ _ hc.1.1 (G.res hx), h3, hc.1.2, h4, rfl⟩
    · cases h
  · cases h
theorem blO_some {neg : Bool} {b : Option Bool} {r : O} (h : blO neg b = some r) : ∃ c, b = some c ∧ r = .dat (.bl (if neg then !c else c)) := by
  unfold blO at h
  rw [Option.map_eq_some_iff] at h
  obtain ⟨c, h1, h2⟩ := h
  exact ⟨c, h1, h2.symm⟩
theorem own_new {p : Addr} {vs : List V} {ds : List D} (G : Good Γ B S0 S H ad μ) (hp : H p = none) (h : RpAll Γ S ad vs ds) : Good Γ B S0 S (upd H p (.lst vs)) ad μ ∧ Res Γ B S (upd H p (.lst vs)) ad (.ref p) (.own ds) :=
  ⟨G.pend hp, p, vs, rfl, Evl.fresh_back G.b hp, Evl.fresh_back G.s hp, fun n a h => G.ne hp h, upd_same, h⟩
theorem op_ok {o : Op} {r : O} (h : opEv o μ d e = some r) : OpOk Γ (o.r Γ.K) μ d e r := by
  cases o <;> first
    | exact opInt_ok h
    | skip
  · obtain ⟨c, h1, rfl⟩ := blO_some h
    exact fun B S0 S H ad x y G hx hy Q q => by
      obtain ⟨z1, z2⟩ := sEq_ok h1 hx hy
      exact ⟨z1, by rw [z2]; exact q _ S H (Ex.refl _) G (.bl _)⟩
  · obtain ⟨c, h1, rfl⟩ := blO_some h
    exact fun B S0 S H ad x y G hx hy Q q => by
      obtain ⟨z1, z2⟩ := sEq_ok h1 hx hy
      exact ⟨z1, by rw [z2]; exact q _ S H (Ex.refl _) G (.bl _)⟩
  · obtain ⟨c, h1, rfl⟩ := blO_some h
    exact fun B S0 S H ad x y G hx hy Q q => by
      obtain ⟨p1, p2, a1, a2, a3, a4, a5⟩ := eqRes_ok h1 G hx hy
      exact ⟨p1, p2, a1, a2, a3, a4, by rw [a5]; exact q _ S H (Ex.refl _) G (.bl _)⟩
  · obtain ⟨c, h1, rfl⟩ := blO_some h
    exact fun B S0 S H ad x y G hx hy Q q => by
      obtain ⟨p1, p2, a1, a2, a3, a4, a5⟩ := eqRes_ok h1 G hx hy
      exact ⟨p1, p2, a1, a2, a3, a4, by rw [a5]; exact q _ S H (Ex.refl _) G (.bl _)⟩
  · simp only [opEv] at h
    split at h
    · cases h
      exact fun B S0 S H ad x y G hx hy Q q => ⟨dp_none hy, by rw [isNon_ok hx]; exact q _ S H (Ex.refl _) G (.bl _)⟩
    · cases h
  · simp only [opEv] at h
    split at h
    · cases h
      exact fun B S0 S H ad x y G hx hy Q q => ⟨dp_none hy, by rw [isNon_ok hx]; exact q _ S H (Ex.refl _) G (.bl _)⟩
    · cases h
  · simp only [opEv] at h
    split at h
    · cases h
      exact fun B S0 S H ad x y G hx hy Q q => ⟨_, _, dp_bool hx, dp_bool hy, q _ S H (Ex.refl _) G (.bl _)⟩
    · cases h
  · simp only [opEv] at h
    split at h
    · cases h
      exact fun B S0 S H ad x y G hx hy Q q => ⟨_, _, dp_bool hx, dp_bool hy, q _ S H (Ex.refl _) G (.bl _)⟩
    · cases h
  · simp only [opEv] at h
    split at h
    · split at h
      · rename_i ds es h1 h2 hl
        cases h
        exact fun B S0 S H ad x y G hx hy Q q => by
          obtain ⟨a, vs, rfl, q1, q2⟩ := seqM_ok G hx h1
          obtain ⟨b, ws, rfl, q3, q4⟩ := seqM_ok G hy h2
          refine ⟨a, b, vs, ws, rfl, rfl, q1, q3, by rw [da_length q2, da_length q4]; exact Evl.sz_of hl, fun p hp => ?_⟩
          obtain ⟨G2, r2⟩ := own_new G hp (da_app q2 q4)
          exact q _ S _ (Ex.refl _) G2 r2
      · cases h
    · cases h
  · simp only [opEv] at h
    split at h
    · split at h
      · rename_i ds k h1 hl
        cases h
        exact fun B S0 S H ad x y G hx hy Q q => by
          obtain ⟨a, vs, rfl, q1, q2⟩ := seqM_ok G hx h1
          obtain ⟨l1, l2, l3⟩ := hl
          refine ⟨a, k, vs, rfl, dp_int hy, q1, by omega, by omega, by rw [da_length q2]; exact Evl.sz_of l3, fun p hp => ?_⟩
          obtain ⟨G2, r2⟩ := own_new G hp (da_rep (k := k.toNat) q2)
          exact q _ S _ (Ex.refl _) G2 r2
      · cases h
    · cases h
  · obtain ⟨c, h1, rfl⟩ := blO_some h
    exact fun B S0 S H ad x y G hx hy Q q => by
      obtain ⟨p1, p2, a1, a2, a3, a4, a5⟩ := inRes_ok h1 G hx hy
      exact ⟨p1, p2, a1, a2, a3, a4, by rw [a5]; exact q _ S H (Ex.refl _) G (.bl _)⟩
  · obtain ⟨c, h1, rfl⟩ := blO_some h
    exact fun B S0 S H ad x y G hx hy Q q => by
      obtain ⟨p1, p2, a1, a2, a3, a4, a5⟩ := inRes_ok h1 G hx hy
      exact ⟨p1, p2, a1, a2, a3, a4, by rw [a5]; exact q _ S H (Ex.refl _) G (.bl _)⟩
end
end EM

/-! sorted of data -/
namespace EM
open PySem PySem.Spec PyProof.Rows L2
open Evl (Ex)
section
variable {α : Type}
def ins1 (le : α → α → Bool) (x : α) : List α → List α
  | [] => [x]
  | y :: r => if le x y then x :: y :: r else y :: ins1 le x r
def isort (le : α → α → Bool) : List α → List α
  | [] => []
  | x :: r => ins1 le x (isort le r)
variable {le : α → α → Bool}
theorem ins1_perm (x : α) : ∀ l, (ins1 le x l).Perm (x :: l)
  | [] => List.Perm.refl _
  | y :: r => by
    rw [ins1]
    split
    · exact List.Perm.refl _
    · exact ((ins1_perm x r).cons y).trans (List.Perm.swap x y r)
theorem isort_perm : ∀ l, (isort le l).Perm l
  | [] => List.Perm.refl _
  | x :: r => (ins1_perm x _).trans ((isort_perm r).cons x)
theorem ins1_pw (h : PySem.W.TotalLe le) (x : α) : ∀ l, l.Pairwise (fun a b => le a b = true) → (ins1 le x l).Pairwise (fun a b => le a b = true)
  | [], _ => by rw [ins1]; exact List.pairwise_singleton ..
  | y :: r, hp => by
    rw [ins1]
    rw [List.pairwise_cons] at hp
    split
    · rename_i hxy
      refine List.pairwise_cons.mpr ⟨fun z hz => ?_, List.pairwise_cons.mpr hp⟩
      rcases List.mem_cons.mp hz with e | e
      · rw [e]; exact hxy
      · exact h.trans _ _ _ hxy (hp.1 z e)
    · rename_i hxy
      have hyx : le y x = true := (h.total x y).resolve_left hxy
      refine List.pairwise_cons.mpr ⟨fun z hz => ?_, ins1_pw h x r hp.2⟩
      rcases List.mem_cons.mp ((ins1_perm x r).mem_iff.mp hz) with e | e
      · rw [e]; exact hyx
      · exact hp.1 z e
theorem isort_pw (h : PySem.W.TotalLe le) : ∀ l, (isort le l).Pairwise (fun a b => le a b = true)
  | [] => List.Pairwise.nil
  | x :: r => ins1_pw h x _ (isort_pw h r)
theorem ins1_filter (h : PySem.W.TotalLe le) (c x : α) : ∀ l, (ins1 le x l).filter (PySem.W.sameRank le c) = (x :: l).filter (PySem.W.sameRank le c)
  | [] => rfl
  | y :: r => by
    rw [ins1]
    split
    · rfl
    · rename_i hxy
      rw [List.filter_cons, ins1_filter h c x r]
      by_cases hx : PySem.W.sameRank le c x = true
      · by_cases hy : PySem.W.sameRank le c y = true
        · refine absurd ?_ hxy
          unfold PySem.W.sameRank at hx hy
          rw [Bool.and_eq_true] at hx hy
          exact h.trans _ _ _ hx.2 hy.1
        · simp [List.filter_cons, hx, hy]
      · simp [List.filter_cons, hx]
theorem isort_filter (h : PySem.W.TotalLe le) (c : α) : ∀ l, (isort le l).filter (PySem.W.sameRank le c) = l.filter (PySem.W.sameRank le c)
  | [] => rfl
  | x :: r => by
    rw [isort, ins1_filter h c x, List.filter_cons, List.filter_cons, isort_filter h c r]
theorem isort_merge (h : PySem.W.TotalLe le) (l : List α) : isort le l = l.mergeSort le := PySem.W.sort_unique h (isort_pw h l) (isort_filter h · l)
end
def rSortedD (K : PySem.W.Frag) : List V → Hp → VK → Prop := fun vs H Q => ∃ (a : Addr) (bs : List (V × D)) (enc : D → PyData), vs = [.ref a] ∧ SqL K H a (bs.map Prod.fst) ∧ (∀ b ∈ bs, Dp K H b.1 (enc b.2)) ∧
  PySem.W.AllAlike (bs.map fun b => enc b.2) ∧ PySem.W.Sortable (bs.map fun b => enc b.2) ∧ (∀ b ∈ bs, (enc b.2).depth ≤ 60) ∧
  ∀ p, H p = none → Q (.ref p) (upd H p (.lst ((bs.mergeSort (PySem.W.dataLe false fun b => enc b.2)).map Prod.fst)))
theorem each_vals {bs : List (V × D)} : ∀ {its : List Value}, Vals (bs.map Prod.fst) its → PySem.W.EachIs (fun v (b : V × D) => RelV b.1 v) its bs := by
  induction bs with
  | nil => intro its h; cases h; exact .nil
  | cons b r ih =>
    intro its h
    cases h with
    | cons h1 h2 => exact .cons h1 (ih h2)
theorem vals_each {bs : List (V × D)} : ∀ {its : List Value}, PySem.W.EachIs (fun v (b : V × D) => RelV b.1 v) its bs → Vals (bs.map Prod.fst) its := by
  induction bs with
  | nil => intro its h; cases h; exact .nil
  | cons b r ih =>
    intro its h
    cases h with
    | cons h1 h2 => exact .cons h1 (ih h2)
theorem each_reads {X : Cx} {pins : List (Addr × Obj)} {σ : L2.St} {H : Hp} {s : Shared} {enc : D → PyData} (I : Inv X pins σ H s) {bs : List (V × D)} : ∀ {its : List Value}, (∀ b ∈ bs, Dp X.K H b.1 (enc b.2)) → PySem.W.EachIs (fun v (b : V × D) => RelV b.1 v) its bs →
    PySem.W.EachIs (fun v (b : V × D) => ∃ as, Reads s.heap v (enc b.2) as) its bs := by
  induction bs with
  | nil => intro its _ h; cases h; exact .nil
  | cons b r ih =>
    intro its hd h
    cases h with
    | cons h1 h2 => exact .cons (Dp.reads I _ _ _ (hd b (by simp)) h1) (ih (fun x hx => hd x (by simp [hx])) h2)
theorem cr_sortedD {X : Cx} (hu : X.A.units + 64 < cLine) : CallR X (.builtin "sorted") (rSortedD X.K) := by
  intro pins s σ H vs us Q I r h
  obtain ⟨a, bs, enc, rfl, hs, hd, hal, hk, hdep, q⟩ := h
  obtain ⟨its, rv, hl, hz⟩ := I.list hs
  rw [Vals.ref1 r]
  have e := each_vals rv
  rw [List.length_map] at hz
  refine PySem.W.sorted_data (enc := fun b : V × D => enc b.2) hl.isList e (each_reads I hd e) hal hk hz (fun b hb => by have := hdep b hb; omega) fun out ho eo => ?_
  obtain ⟨ep, he'⟩ := PyProof.Rows.sortedAll_at s.heap its out.toArray
  refine ⟨.ref _, upd H (s.heap.objs.size + 1) (.lst _), I.laid (t' := s.toks) (fun _ _ => PyProof.Rows.sortedAll_old) (Nat.le_succ _) ⟨?_, out.toArray.toList, ep, ?_, he'⟩, rfl, q _ (I.hok.fresh (Nat.le_succ _))⟩
  · rw [List.length_map, List.length_mergeSort]; exact hz
  · exact vals_each eo
/-- the order of data -/
def leD (μ : List Cell) (d e : D) : Bool := PySem.W.dataLe false (fun d => (resD μ d).py) d e
theorem leD_total (μ : List Cell) : PySem.W.TotalLe (leD μ) := by
  have h := PySem.W.sortLe_total (PyProof.Rows.listOrd PyProof.Rows.itemOrd) false fun d : D => PySem.W.keyToks (resD μ d).py
  exact h
def allAlike (ps : List PyData) : Bool := ps.all fun p => ps.all fun q => PySem.W.alike p q
def isTupC : PyData → Bool
  | .tuple (_ :: _) => true
  | _ => false
def isOther : PyData → Bool
  | .none => false
  | .tuple _ => false
  | _ => true
def sortable (ps : List PyData) : Bool := ps.all isTupC || ps.all isOther
theorem allAlike_ok {ps : List PyData} (h : allAlike ps = true) : PySem.W.AllAlike ps := fun d hd e he => by
  unfold allAlike at h
  rw [List.all_eq_true] at h
  have := h d hd
  rw [List.all_eq_true] at this
  exact this e he
theorem sortable_ok {ps : List PyData} (h : sortable ps = true) : PySem.W.Sortable ps := by
  unfold sortable at h
  rw [Bool.or_eq_true, List.all_eq_true, List.all_eq_true] at h
  rcases h with h | h
  · refine .inl fun d hd => ?_
    have := h d hd
    unfold isTupC at this
    split at this
    · exact ⟨_, _, rfl⟩
    · cases this
  · refine .inr fun d hd => ?_
    have := h d hd
    unfold isOther at this
    split at this
    · cases this
    · cases this
    · rename_i h1 h2
      exact ⟨h1, h2⟩
/-- sorted(ds), as data -/
def sortD (μ : List Cell) (ds : List D) : Option (List D) :=
  if (ds.all fun d => (resD μ d).pure) && allAlike (ds.map fun d => (resD μ d).py) && sortable (ds.map fun d => (resD μ d).py) && (ds.all fun d => decide ((resD μ d).py.depth ≤ 60)) then some (isort (leD μ) ds) else none
section
variable {Γ : Gm} {B S0 S H : Hp} {ad : List Addr} {μ : List Cell} {ds es : List D} {vs : List V}
theorem zip_rp : ∀ {vs : List V} {ds : List D}, RpAll Γ S ad vs ds → (vs.zip ds).map Prod.fst = vs ∧ (vs.zip ds).map Prod.snd = ds ∧ ∀ b ∈ vs.zip ds, Rp Γ S ad b.1 b.2
  | _, _, .nil => ⟨rfl, rfl, by simp⟩
  | _, _, .cons h t => by
    obtain ⟨h1, h2, h3⟩ := zip_rp t
    refine ⟨by simp [h1], by simp [h2], fun b hb => ?_⟩
    rw [List.zip_cons_cons] at hb
    rcases List.mem_cons.mp hb with e | e
    · rw [e]; exact h
    · exact h3 b e
theorem rp_unzip : ∀ {bs : List (V × D)}, (∀ b ∈ bs, Rp Γ S ad b.1 b.2) → RpAll Γ S ad (bs.map Prod.fst) (bs.map Prod.snd)
  | [], _ => .nil
  | b :: r, h => .cons (h b (by simp)) (rp_unzip fun x hx => h x (by simp [hx]))
theorem sortD_ok (h : sortD μ ds = some es) (G : Good Γ B S0 S H ad μ) {a : Addr} (hs : SqL Γ.K H a vs) (hr : RpAll Γ S ad vs ds) {Q : VK} (q : ∀ p ws, H p = none → RpAll Γ S ad ws es → Q (.ref p) (upd H p (.lst ws))) : rSortedD Γ.K [.ref a] H Q := by
  unfold sortD at h
  split at h
  · rename_i hc
    cases h
    rw [Bool.and_eq_true, Bool.and_eq_true, Bool.and_eq_true, List.all_eq_true, List.all_eq_true] at hc
    obtain ⟨⟨⟨c1, c2⟩, c3⟩, c4⟩ := hc
    obtain ⟨z1, z2, z3⟩ := zip_rp hr
    have em : ((vs.zip ds).map fun b => (resD μ b.2).py) = ds.map fun d => (resD μ d).py := by
      conv => rhs; rw [← z2, List.map_map]
      rfl
    have hmem : ∀ b ∈ vs.zip ds, b.2 ∈ ds := fun b hb => (List.of_mem_zip (show (b.1, b.2) ∈ vs.zip ds from hb)).2
    refine ⟨a, vs.zip ds, fun d => (resD μ d).py, rfl, by rw [z1]; exact hs, fun b hb => rp_dp G.view_ex.2 _ _ (c1 _ (hmem b hb)) (G.res (z3 b hb)), ?_, ?_, fun b hb => of_decide_eq_true (c4 _ (hmem b hb)), fun p hp => ?_⟩
    · rw [em]; exact allAlike_ok c2
    · rw [em]; exact sortable_ok c3
    · refine q p _ hp ?_
      have hm : ∀ b ∈ (vs.zip ds).mergeSort (PySem.W.dataLe false fun b => (resD μ b.2).py), Rp Γ S ad b.1 b.2 := fun b hb => z3 b ((List.mergeSort_perm _ _).mem_iff.mp hb)
      have := rp_unzip hm
      have e2 : ((vs.zip ds).mergeSort (PySem.W.dataLe false fun b => (resD μ b.2).py)).map Prod.snd = isort (leD μ) ds := by
        have e3 := PySem.W.sort_maps (r := PySem.W.dataLe false fun b : V × D => (resD μ b.2).py) (s := leD μ) Prod.snd (l := vs.zip ds) (fun _ _ _ _ => rfl)
        rw [e3, z2]
        exact (isort_merge (leD_total μ) ds).symm
      rw [e2] at this
      exact this
  · cases h
end
end EM

/-! built-in functions; calls of defs that know nothing of the store -/
namespace EM
open PySem PySem.Spec PyProof.Rows L2
open Evl (Ex)
inductive Bi where
  | len | sum | all | any | max2 | min2 | abs | int1 | list | tuple | sorted | maxL | minL
def Bi.r (K : PySem.W.Frag) : Bi → List V → Hp → VK → Prop
  | .len => fun xs H Q => ∃ p ys, xs = [.ref p] ∧ (SqL K H p ys ∨ SqT K H p ys) ∧ Q (.int ys.length) H
  | .sum => rSum K
  | .all => rAll K
  | .any => rAny K
  | .max2 => fun xs H Q => ∃ i j, xs = [.int i, .int j] ∧ Q (.int (if j > i then j else i)) H
  | .min2 => fun xs H Q => ∃ i j, xs = [.int i, .int j] ∧ Q (.int (if j < i then j else i)) H
  | .abs => fun xs H Q => ∃ i, xs = [.int i] ∧ Q (.int (if i < 0 then -i else i)) H
  | .int1 => fun xs H Q => (∃ i, xs = [.int i] ∧ Q (.int i) H) ∨ ∃ k, xs = [.bl k] ∧ Q (.int (if k then 1 else 0)) H
  | .list => fun xs H Q => ∃ p ys, xs = [.ref p] ∧ (SqL K H p ys ∨ SqT K H p ys) ∧ ∀ l, H l = none → Q (.ref l) (upd H l (.lst ys))
  | .tuple => fun xs H Q => ∃ p ys, xs = [.ref p] ∧ ((SqL K H p ys ∧ ∀ l, H l = none → Q (.ref l) (upd H l (.tup ys))) ∨ (SqT K H p ys ∧ Q (.ref p) H))
  | .sorted => rSortedD K
  | .maxL => rMax K
  | .minL => rMin K
def asInts : List D → Option (List Int)
  | [] => some []
  | .int i :: r => (asInts r).map (i :: ·)
  | _ :: _ => none
def asBools : List D → Option (List Bool)
  | [] => some []
  | .bl i :: r => (asBools r).map (i :: ·)
  | _ :: _ => none
theorem asInts_ok : ∀ {ds : List D} {ns : List Int}, asInts ds = some ns → ds = ns.map .int
  | [], _, h => by cases h; rfl
  | .int i :: r, ns, h => by
    rw [asInts, Option.map_eq_some_iff] at h
    obtain ⟨m, h1, rfl⟩ := h
    rw [asInts_ok h1]
    rfl
  | .non :: _, _, h | .bl _ :: _, _, h | .str _ :: _, _, h | .lst _ :: _, _, h | .tup _ :: _, _, h | .scr _ :: _, _, h | .dic :: _, _, h | .fn _ :: _, _, h | .cls _ :: _, _, h | .ty _ :: _, _, h | .loc _ :: _, _, h | .obj _ _ _ :: _, _, h => by simp [asInts] at h
theorem asInts_map : ∀ ns : List Int, asInts (ns.map .int) = some ns
  | [] => rfl
  | n :: r => by rw [List.map_cons, asInts, asInts_map r]; rfl
theorem asBools_ok : ∀ {ds : List D} {ns : List Bool}, asBools ds = some ns → ds = ns.map .bl
  | [], _, h => by cases h; rfl
  | .bl i :: r, ns, h => by
    rw [asBools, Option.map_eq_some_iff] at h
    obtain ⟨m, h1, rfl⟩ := h
    rw [asBools_ok h1]
    rfl
  | .non :: _, _, h | .int _ :: _, _, h | .str _ :: _, _, h | .lst _ :: _, _, h | .tup _ :: _, _, h | .scr _ :: _, _, h | .dic :: _, _, h | .fn _ :: _, _, h | .cls _ :: _, _, h | .ty _ :: _, _, h | .loc _ :: _, _, h | .obj _ _ _ :: _, _, h => by simp [asBools] at h
theorem asBools_map : ∀ ns : List Bool, asBools (ns.map .bl) = some ns
  | [] => rfl
  | n :: r => by rw [List.map_cons, asBools, asBools_map r]; rfl
def maxI : List Int → Option Int
  | [] => none
  | x :: r => some (r.foldl max x)
def minI : List Int → Option Int
  | [] => none
  | x :: r => some (r.foldl min x)
theorem foldl_max : ∀ (r : List Int) (x : Int), (r.foldl max x ∈ x :: r) ∧ ∀ y ∈ x :: r, y ≤ r.foldl max x
  | [], x => by simp
  | z :: r, x => by
    obtain ⟨h1, h2⟩ := foldl_max r (max x z)
    rw [List.foldl_cons]
    have h3 := h2 (max x z) (by simp)
    refine ⟨?_, fun y hy => ?_⟩
    · rcases List.mem_cons.mp h1 with e | e
      · rw [e]
        rcases Int.le_total x z with q | q
        · rw [Int.max_eq_right q]; simp
        · rw [Int.max_eq_left q]; simp
      · exact List.mem_cons_of_mem _ (List.mem_cons_of_mem _ e)
    · rcases List.mem_cons.mp hy with e | e
      · rw [e]; exact Int.le_trans (Int.le_max_left x z) h3
      · rcases List.mem_cons.mp e with e | e
        · rw [e]; exact Int.le_trans (Int.le_max_right x z) h3
        · exact h2 y (List.mem_cons_of_mem _ e)
theorem foldl_min : ∀ (r : List Int) (x : Int), (r.foldl min x ∈ x :: r) ∧ ∀ y ∈ x :: r, r.foldl min x ≤ y
  | [], x => by simp
  | z :: r, x => by
    obtain ⟨h1, h2⟩ := foldl_min r (min x z)
    rw [List.foldl_cons]
    have h3 := h2 (min x z) (by simp)
    refine ⟨?_, fun y hy => ?_⟩
    · rcases List.mem_cons.mp h1 with e | e
      · rw [e]
        rcases Int.le_total x z with q | q
        · rw [Int.min_eq_left q]; simp
        · rw [Int.min_eq_right q]; simp
      · exact List.mem_cons_of_mem _ (List.mem_cons_of_mem _ e)
    · rcases List.mem_cons.mp hy with e | e
      · rw [e]; exact Int.le_trans h3 (Int.min_le_left x z)
      · rcases List.mem_cons.mp e with e | e
        · rw [e]; exact Int.le_trans h3 (Int.min_le_right x z)
        · exact h2 y (List.mem_cons_of_mem _ e)
/-- the items of a list or a tuple -/
def seqA (μ : List Cell) (d : D) : Option (List D) := match seqL μ d with
  | some ds => some ds
  | none => seqT d
def biEv (b : Bi) (μ : List Cell) (ds : List D) : Option O := match b with
  | .len => match ds with
    | [d] => (seqA μ d).map fun xs => .dat (.int xs.length)
    | _ => none
  | .sum => match ds with
    | [d] => ((seqL μ d).bind asInts).map fun ns => .dat (.int ns.sum)
    | _ => none
  | .all => match ds with
    | [d] => ((seqL μ d).bind asBools).map fun ns => .dat (.bl (ns.all id))
    | _ => none
  | .any => match ds with
    | [d] => ((seqL μ d).bind asBools).map fun ns => .dat (.bl (ns.any id))
    | _ => none
  | .max2 => match ds with
    | [.int i, .int j] => some (.dat (.int (max i j)))
    | _ => none
  | .min2 => match ds with
    | [.int i, .int j] => some (.dat (.int (min i j)))
    | _ => none
  | .abs => match ds with
    | [.int i] => some (.dat (.int i.natAbs))
    | _ => none
  | .int1 => match ds with
    | [.int i] => some (.dat (.int i))
    | [.bl k] => some (.dat (.int (if k then 1 else 0)))
    | _ => none
  | .list => match ds with
    | [d] => (seqA μ d).map fun xs => .own xs
    | _ => none
  | .tuple => match ds with
    | [d] => (seqA μ d).map fun xs => .dat (.tup xs)
    | _ => none
  | .sorted => match ds with
    | [d] => ((seqL μ d).bind (sortD μ)).map fun xs => .own xs
    | _ => none
  | .maxL => match ds with
    | [d] => (((seqL μ d).bind asInts).bind maxI).map fun m => .dat (.int m)
    | _ => none
  | .minL => match ds with
    | [d] => (((seqL μ d).bind asInts).bind minI).map fun m => .dat (.int m)
    | _ => none
section
variable {Γ : Gm} {B S0 S H : Hp} {ad : List Addr} {μ : List Cell} {vs : List V} {ds : List D} {r : O} {Q : VK}
theorem da_1 {d : D} (h : RpAll Γ S ad vs [d]) : ∃ v, vs = [v] ∧ Rp Γ S ad v d := by
  cases h with
  | cons h1 t => cases t; exact ⟨_, rfl, h1⟩
theorem da_2 {d e : D} (h : RpAll Γ S ad vs [d, e]) : ∃ v w, vs = [v, w] ∧ Rp Γ S ad v d ∧ Rp Γ S ad w e := by
  cases h with
  | cons h1 t =>
    obtain ⟨w, rfl, h2⟩ := da_1 t
    exact ⟨_, _, rfl, h1, h2⟩
theorem da_3 {d e f : D} (h : RpAll Γ S ad vs [d, e, f]) : ∃ u v w, vs = [u, v, w] ∧ Rp Γ S ad u d ∧ Rp Γ S ad v e ∧ Rp Γ S ad w f := by
  cases h with
  | cons h1 t =>
    obtain ⟨v, w, rfl, h2, h3⟩ := da_2 t
    exact ⟨_, _, _, rfl, h1, h2, h3⟩
theorem seqA_ok {v : V} {d : D} (G : Good Γ B S0 S H ad μ) (h : Rp Γ S ad v d) (e : seqA μ d = some ds) : ∃ a vs, v = .ref a ∧ ((SqL Γ.K H a vs) ∨ (SqT Γ.K H a vs ∧ d = .tup ds)) ∧ RpAll Γ S ad vs ds := by
  unfold seqA at e
  cases hl : seqL μ d with
  | some xs =>
    rw [hl] at e
    cases e
    obtain ⟨a, vs, h1, h2, h3⟩ := seqL_ok G h hl
    exact ⟨a, vs, h1, .inl h2, h3⟩
  | none =>
    rw [hl] at e
    have e : seqT d = some ds := e
    obtain ⟨a, vs, h1, h2, h3⟩ := seqT_ok G h e
    cases d with
    | tup _ => cases e; exact ⟨a, vs, h1, .inr ⟨.inl (.inl h2), rfl⟩, h3⟩
    | _ => cases e
theorem bi_ok {b : Bi} (h : biEv b μ ds = some r) (G : Good Γ B S0 S H ad μ) (hr : RpAll Γ S ad vs ds) (q : ∀ v S' H', Ex S S' → Good Γ B S0 S' H' ad μ → Res Γ B S' H' ad v r → Q v H') : b.r Γ.K vs H Q := by
  cases b <;> simp only [biEv] at h <;> split at h <;> first
    | cases h
    | skip
  · rw [Option.map_eq_some_iff] at h
    obtain ⟨xs, h1, rfl⟩ := h
    obtain ⟨v, rfl, hv⟩ := da_1 hr
    obtain ⟨a, ys, rfl, h2, h3⟩ := seqA_ok G hv h1
    refine ⟨a, ys, rfl, h2.imp id (·.1), ?_⟩
    rw [da_length h3]
    exact q _ S H (Ex.refl _) G (.int _)
  · rw [Option.map_eq_some_iff] at h
    obtain ⟨ns, h1, rfl⟩ := h
    rw [Option.bind_eq_some_iff] at h1
    obtain ⟨xs, h0, h1⟩ := h1
    obtain ⟨v, rfl, hv⟩ := da_1 hr
    obtain ⟨a, ys, rfl, h2, h3⟩ := seqL_ok G hv h0
    rw [asInts_ok h1] at h3
    rw [dpAll_ints h3] at h2
    exact ⟨a, ns, rfl, h2, q _ S H (Ex.refl _) G (.int _)⟩
  · rw [Option.map_eq_some_iff] at h
    obtain ⟨ns, h1, rfl⟩ := h
    rw [Option.bind_eq_some_iff] at h1
    obtain ⟨xs, h0, h1⟩ := h1
    obtain ⟨v, rfl, hv⟩ := da_1 hr
    obtain ⟨a, ys, rfl, h2, h3⟩ := seqL_ok G hv h0
    rw [asBools_ok h1] at h3
    rw [dpAll_bools h3] at h2
    exact ⟨a, ns, rfl, h2, q _ S H (Ex.refl _) G (.bl _)⟩
  · rw [Option.map_eq_some_iff] at h
    obtain ⟨ns, h1, rfl⟩ := h
    rw [Option.bind_eq_some_iff] at h1
    obtain ⟨xs, h0, h1⟩ := h1
    obtain ⟨v, rfl, hv⟩ := da_1 hr
    obtain ⟨a, ys, rfl, h2, h3⟩ := seqL_ok G hv h0
    rw [asBools_ok h1] at h3
    rw [dpAll_bools h3] at h2
    exact ⟨a, ns, rfl, h2, q _ S H (Ex.refl _) G (.bl _)⟩
  · rename_i i j
    obtain ⟨v, w, rfl, hv, hw⟩ := da_2 hr
    rw [dp_int hv, dp_int hw]
    refine ⟨i, j, rfl, ?_⟩
    rw [show (if j > i then j else i) = max i j by rw [Int.max_def]; split <;> split <;> omega]
    exact q _ S H (Ex.refl _) G (.int _)
  · rename_i i j
    obtain ⟨v, w, rfl, hv, hw⟩ := da_2 hr
    rw [dp_int hv, dp_int hw]
    refine ⟨i, j, rfl, ?_⟩
    rw [show (if j < i then j else i) = min i j by rw [Int.min_def]; split <;> split <;> omega]
    exact q _ S H (Ex.refl _) G (.int _)
  · rename_i i
    obtain ⟨v, rfl, hv⟩ := da_1 hr
    rw [dp_int hv]
    refine ⟨i, rfl, ?_⟩
    rw [show (if i < 0 then -i else i) = (i.natAbs : Int) by split <;> omega]
    exact q _ S H (Ex.refl _) G (.int _)
  · obtain ⟨v, rfl, hv⟩ := da_1 hr
    rw [dp_int hv]
    exact .inl ⟨_, rfl, q _ S H (Ex.refl _) G (.int _)⟩
  · obtain ⟨v, rfl, hv⟩ := da_1 hr
    rw [dp_bool hv]
    exact .inr ⟨_, rfl, q _ S H (Ex.refl _) G (.int _)⟩
  · rw [Option.map_eq_some_iff] at h
    obtain ⟨xs, h1, rfl⟩ := h
    obtain ⟨v, rfl, hv⟩ := da_1 hr
    obtain ⟨a, ys, rfl, h2, h3⟩ := seqA_ok G hv h1
    refine ⟨a, ys, rfl, h2.imp id (·.1), fun p hp => ?_⟩
    obtain ⟨G2, r2⟩ := own_new G hp h3
    exact q _ S _ (Ex.refl _) G2 r2
  · rw [Option.map_eq_some_iff] at h
    obtain ⟨xs, h1, rfl⟩ := h
    obtain ⟨v, rfl, hv⟩ := da_1 hr
    obtain ⟨a, ys, rfl, h2, h3⟩ := seqA_ok G hv h1
    rcases h2 with h2 | ⟨h2, rfl⟩
    · refine ⟨a, ys, rfl, .inl ⟨h2, fun p hp => ?_⟩⟩
      have sp : S p = none := Evl.fresh_back G.s hp
      exact q _ _ _ (Ex.new sp) (G.fresh (o := .tup ys) hp) (.tup upd_same (rpAll_ext (Ex.new sp) (Sub.refl _) _ _ h3))
    · exact ⟨a, ys, rfl, .inr ⟨h2, q _ S H (Ex.refl _) G hv⟩⟩
  · rw [Option.map_eq_some_iff] at h
    obtain ⟨es, h1, rfl⟩ := h
    rw [Option.bind_eq_some_iff] at h1
    obtain ⟨xs, h0, h1⟩ := h1
    obtain ⟨v, rfl, hv⟩ := da_1 hr
    obtain ⟨a, ys, rfl, h2, h3⟩ := seqL_ok G hv h0
    refine sortD_ok h1 G h2 h3 fun p ws hp hw => ?_
    obtain ⟨G2, r2⟩ := own_new G hp hw
    exact q _ S _ (Ex.refl _) G2 r2
  · rw [Option.map_eq_some_iff] at h
    obtain ⟨m, h1, rfl⟩ := h
    rw [Option.bind_eq_some_iff] at h1
    obtain ⟨ns, h0, hm⟩ := h1
    rw [Option.bind_eq_some_iff] at h0
    obtain ⟨xs, h0, h1⟩ := h0
    obtain ⟨v, rfl, hv⟩ := da_1 hr
    obtain ⟨a, ys, rfl, h2, h3⟩ := seqL_ok G hv h0
    rw [asInts_ok h1] at h3
    rw [dpAll_ints h3] at h2
    cases ns with
    | nil => cases hm
    | cons n r =>
      cases hm
      obtain ⟨f1, f2⟩ := foldl_max r n
      refine ⟨a, n :: r, rfl, h2, by simp, fun m' hm hx => ?_⟩
      have e : m' = r.foldl max n := Int.le_antisymm (f2 m' hm) (hx _ f1)
      rw [e]
      exact q _ S H (Ex.refl _) G (.int _)
  · rw [Option.map_eq_some_iff] at h
    obtain ⟨m, h1, rfl⟩ := h
    rw [Option.bind_eq_some_iff] at h1
    obtain ⟨ns, h0, hm⟩ := h1
    rw [Option.bind_eq_some_iff] at h0
    obtain ⟨xs, h0, h1⟩ := h0
    obtain ⟨v, rfl, hv⟩ := da_1 hr
    obtain ⟨a, ys, rfl, h2, h3⟩ := seqL_ok G hv h0
    rw [asInts_ok h1] at h3
    rw [dpAll_ints h3] at h2
    cases ns with
    | nil => cases hm
    | cons n r =>
      cases hm
      obtain ⟨f1, f2⟩ := foldl_min r n
      refine ⟨a, n :: r, rfl, h2, by simp, fun m' hm hx => ?_⟩
      have e : m' = r.foldl min n := Int.le_antisymm (hx _ f1) (f2 m' hm)
      rw [e]
      exact q _ S H (Ex.refl _) G (.int _)
end
/-! ### isinstance, built-in classes -/
inductive Ty where
  | int | bool | tuple | list | str
def Ty.s : Ty → String
  | .int => "int"
  | .bool => "bool"
  | .tuple => "tuple"
  | .list => "list"
  | .str => "str"
/-- what a thing is: None, bool, int, str, list, tuple, dict -/
def tyOf (μ : List Cell) : D → Option String
  | .non => some "NoneType"
  | .bl _ => some "bool"
  | .int _ => some "int"
  | .str _ => some "str"
  | .lst _ => some "list"
  | .tup _ => some "tuple"
  | .dic => some "dict"
  | .loc n => match μ[n]? with
    | some (.lst _) => some "list"
    | some (.ro _) => some "list"
    | _ => none
  | _ => none
def isTy (t : Ty) (s : String) : Bool := match t with
  | .int => s == "int" || s == "bool"
  | .bool => s == "bool"
  | .tuple => s == "tuple"
  | .list => s == "list"
  | .str => s == "str"
def tyIs (t : Ty) (μ : List Cell) (d : D) : Option Bool := (tyOf μ d).map (isTy t)
section
variable {Γ : Gm} {B S0 S H : Hp} {ad : List Addr} {μ : List Cell} {v : V} {d : D}
theorem tyOf_ok {s : String} (G : Good Γ B S0 S H ad μ) (h : Rp Γ S ad v d) (e : tyOf μ d = some s) : TyX Γ.K H v (.type s) ∧ (s = "NoneType" ∨ s = "bool" ∨ s = "int" ∨ s = "str" ∨ s = "list" ∨ s = "tuple" ∨ s = "dict") := by
  cases h with
  | non => cases e; exact ⟨.base .non, by simp⟩
  | bl b => cases e; exact ⟨.base (.bl b), by simp⟩
  | int b => cases e; exact ⟨.base (.int b), by simp⟩
  | str b => cases e; exact ⟨.base (.str b), by simp⟩
  | lst h1 _ => cases e; exact ⟨.base (.lst (G.s _ _ h1)), by simp⟩
  | tup h1 _ => cases e; exact ⟨.base (.tup (G.s _ _ h1)), by simp⟩
  | dic h1 => cases e; exact ⟨.base (.dK (G.s _ _ h1)), by simp⟩
  | loc hn =>
    rename_i n a
    simp only [tyOf] at e
    cases hc : μ[n]? with
    | none => rw [hc] at e; cases e
    | some c =>
      rw [hc] at e
      have := G.cell n a c hn hc
      cases c with
      | lst ds' =>
        cases e
        obtain ⟨_, _, vs, h1, h2⟩ := this
        exact ⟨.base (.lst h1), by simp⟩
      | ro ds' =>
        cases e
        obtain ⟨_, _, vs, h1, h2⟩ := this
        exact ⟨.base (.lst h1), by simp⟩
      | ins _ _ _ => cases e
      | gone => cases e
  | _ => cases e
theorem kit_is (t : Ty) {s : String} (h : s = "NoneType" ∨ s = "bool" ∨ s = "int" ∨ s = "str" ∨ s = "list" ∨ s = "tuple" ∨ s = "dict") : kitB s t.s = some (isTy t s) := by
  rcases h with rfl | rfl | rfl | rfl | rfl | rfl | rfl <;> cases t <;> decide +kernel
theorem tyIs_ok {t : Ty} {b : Bool} {Q : VK} (G : Good Γ B S0 S H ad μ) (h : Rp Γ S ad v d) (e : tyIs t μ d = some b) (q : Q (.bl b) H) : rIsi Γ.K [v, .ty t.s] H Q := by
  unfold tyIs at e
  rw [Option.map_eq_some_iff] at e
  obtain ⟨s, h1, rfl⟩ := e
  obtain ⟨h2, h3⟩ := tyOf_ok G h h1
  exact ⟨v, .ty t.s, _, _, _, rfl, .ty _, h2, kit_ty (kit_is t h3), q⟩
end
/-! ### calls -/
def flatO : O → Bool
  | .dat d => flatD d
  | .own ds => ds.all flatD
def spP (Γ : Gm) (g : Fn) : Sp := fun vs H Q E => ∃ S ds, Ex S H ∧ RpAll Γ S [] vs ds ∧ match g ds with
  | .ret o => ∀ v S' H', Gr S H S' H' → Res Γ H S' H' [] v o → Q v H'
  | .er c => ∀ S' H', Gr S H S' H' → E (.ref (Γ.C c)) none H'
  | .no => False
def cpEv (x : Bool) (g : Fn) (μ : List Cell) (ds : List D) : Rs O := if noLocs (ds.map (resD μ)) then match g (ds.map (resD μ)) with
    | .ret o => if flatO o || noLocs ds then .ok o μ else .no
    | .er c => if x then .er c μ else .no
    | .no => .no
  else .no
theorem map_res_no {μ : List Cell} : ∀ {ds : List D}, noLocs ds = true → ds.map (resD μ) = ds
  | [], _ => rfl
  | d :: r, h => by
    rw [noLocs, Bool.and_eq_true] at h
    rw [List.map_cons, resD_no h.1, map_res_no h.2]
section
variable {Γ : Gm} {B S0 S H : Hp} {ad : List Addr} {μ : List Cell} {vs : List V} {ds : List D} {E : XK} {g : Fn} {x : Bool}
theorem Good.same (G : Good Γ B S0 S H ad μ) {H' : Hp} (e : Ex H H') : Good Γ B S0 S H' ad μ := G.grow ⟨Ex.refl _, G.s.trans e, e, fun _ _ h => .inl h⟩
theorem cp_ok (G : Good Γ B S0 S H ad μ) (hr : RpAll Γ S ad vs ds) : At Γ E (RO Γ) B S0 S ad (fun Q => spP Γ g (vs ++ []) H Q (if x then E else E0)) (cpEv x g μ ds) := by
  intro hn Q q1 q2
  rw [List.append_nil]
  unfold cpEv at hn q1 q2
  by_cases hl : noLocs (ds.map (resD μ)) = true
  · rw [if_pos hl] at hn q1 q2
    have v1 := rpAll_noLoc [] _ _ hl (rpAll_fun (fun v d q => G.res q) ds vs hr)
    cases hg : g (ds.map (resD μ)) with
    | ret o =>
      rw [hg] at hn q1 q2
      by_cases hf : flatO o = true
      · refine ⟨viewS S H ad, _, G.view_ex.2, v1, ?_⟩
        rw [hg]
        intro v S' H' g1 hv
        simp only [hf, Bool.true_or, if_true] at q1
        refine q1 o μ v S H' ad rfl (Ex.refl _) (Sub.refl _) (G.same g1.h) ?_
        cases o with
        | dat d => exact dp_flat _ _ hf hv
        | own es =>
          obtain ⟨p, ws, rfl, h1, h2, h3, h4, h5⟩ := hv
          exact ⟨p, ws, rfl, Evl.fresh_back G.b h1, Evl.fresh_back G.s h1, fun n a ha => G.ne h1 ha, h4, dpAll_flat _ _ hf h5⟩
      · by_cases hn2 : noLocs ds = true
        · rw [map_res_no hn2] at hg
          refine ⟨S, ds, G.s, rpAll_noLoc [] _ _ hn2 hr, ?_⟩
          rw [hg]
          intro v S' H' g1 hv
          simp only [hn2, Bool.or_true, if_true] at q1
          refine q1 o μ v S' H' ad rfl g1.ss (Sub.refl _) (G.grow g1) ?_
          cases o with
          | dat d => exact rp_ext (Ex.refl _) (Sub.nil _) _ _ hv
          | own es =>
            obtain ⟨p, ws, rfl, h1, h2, h3, h4, h5⟩ := hv
            exact ⟨p, ws, rfl, Evl.fresh_back G.b h1, h2, fun n a ha => G.ne h1 ha, h4, rpAll_ext (Ex.refl _) (Sub.nil _) _ _ h5⟩
        · simp only [hf, hn2] at hn
          exact absurd rfl hn
    | er c =>
      rw [hg] at hn q1 q2
      cases x with
      | false => exact absurd rfl hn
      | true =>
        refine ⟨viewS S H ad, _, G.view_ex.2, v1, ?_⟩
        rw [hg]
        intro S' H' g1
        exact q2 c μ S H' ad rfl (Ex.refl _) (Sub.refl _) (G.same g1.h)
    | no =>
      rw [hg] at hn
      exact absurd rfl hn
  · rw [if_neg hl] at hn
    exact absurd rfl hn
end
end EM

/-! what is walked -/
namespace EM
open PySem PySem.Spec PyProof.Rows L2
open Evl (Ex)
inductive Sq where
  | fix (xs : List D) | cell (n len : Nat)
def Sq.len : Sq → Nat
  | .fix xs => xs.length
  | .cell _ len => len
def Sq.items (μ : List Cell) : Sq → Option (List D)
  | .fix xs => some xs
  | .cell n len => match seqM μ (.loc n) with
    | some ds => if ds.length = len then some ds else none
    | none => none
inductive Sr where
  | one (q : Sq) | zip (p q : Sq) | enum (q : Sq)
def Sr.len : Sr → Nat
  | .one q => q.len
  | .zip p q => min p.len q.len
  | .enum q => q.len
def Sr.ok (μ : List Cell) : Sr → Bool
  | .one q => (q.items μ).isSome
  | .zip p q => (p.items μ).isSome && (q.items μ).isSome
  | .enum q => (q.items μ).isSome
def Sr.item (μ : List Cell) (i : Nat) : Sr → Option D
  | .one q => (q.items μ).bind (·[i]?)
  | .zip p q => ((p.items μ).bind (·[i]?)).bind fun x => ((q.items μ).bind (·[i]?)).map fun y => .tup [x, y]
  | .enum q => ((q.items μ).bind (·[i]?)).map fun y => .tup [.int (i : Nat), y]
def Sr.list : Sr → Option (List D)
  | .one (.fix xs) => some xs
  | .zip (.fix xs) (.fix ys) => some ((xs.zip ys).map fun p => .tup [p.1, p.2])
  | .enum (.fix xs) => some (xs.mapIdx fun i y => .tup [.int (i : Nat), y])
  | _ => none
def Sq.ofD (μ : List Cell) : D → Option Sq
  | .loc n => (seqM μ (.loc n)).map fun ds => .cell n ds.length
  | d => (seqL μ d).map .fix
theorem Sr.list_ok {sr : Sr} {xs : List D} (h : sr.list = some xs) (μ : List Cell) : sr.ok μ = true ∧ sr.len = xs.length ∧ ∀ i, sr.item μ i = xs[i]? := by
  unfold Sr.list at h
  split at h
  · cases h; exact ⟨rfl, rfl, fun i => rfl⟩
  · rename_i xs ys
    cases h
    refine ⟨rfl, by simp [Sr.len, Sq.len], fun i => ?_⟩
    show (((some xs).bind (·[i]?)).bind fun x => ((some ys).bind (·[i]?)).map fun y => D.tup [x, y]) = _
    rw [List.getElem?_map]
    show ((xs[i]?).bind fun x => (ys[i]?).map fun y => D.tup [x, y]) = _
    cases h1 : xs[i]? with
    | none =>
      rw [show (xs.zip ys)[i]? = none from by
        rw [List.getElem?_eq_none_iff] at h1 ⊢
        rw [List.length_zip]; omega]
      rfl
    | some x =>
      cases h2 : ys[i]? with
      | none =>
        rw [show (xs.zip ys)[i]? = none from by
          rw [List.getElem?_eq_none_iff] at h2 ⊢
          rw [List.length_zip]; omega]
        rfl
      | some y =>
        rw [show (xs.zip ys)[i]? = some (x, y) from List.getElem?_zip_eq_some.mpr ⟨h1, h2⟩]
        rfl
  · rename_i xs
    cases h
    refine ⟨rfl, by simp [Sr.len, Sq.len], fun i => ?_⟩
    rw [List.getElem?_mapIdx]
    rfl
  · cases h
/-- the list at a is what q tells -/
def SqAt (Γ : Gm) (S : Hp) (ad : List Addr) (a : Addr) : Sq → Prop
  | .fix xs => ∃ vs, SqL Γ.K S a vs ∧ RpAll Γ S ad vs xs
  | .cell n _ => ad[n]? = some a
section
variable {Γ : Gm} {B S0 S H : Hp} {ad : List Addr} {μ : List Cell}
theorem SqAt.ext {S' : Hp} {ad' : List Addr} {a : Addr} {q : Sq} (h : SqAt Γ S ad a q) (e : Ex S S') (z : Sub ad ad') : SqAt Γ S' ad' a q := by
  cases q with
  | fix xs =>
    obtain ⟨vs, h1, h2⟩ := h
    exact ⟨vs, Evl.ex_l e h1, rpAll_ext e z _ _ h2⟩
  | cell n len => exact z _ _ h
theorem SqAt.read {a : Addr} {q : Sq} {ds : List D} (h : SqAt Γ S ad a q) (G : Good Γ B S0 S H ad μ) (hi : q.items μ = some ds) : ∃ vs, SqL Γ.K H a vs ∧ vs.length = q.len ∧ RpAll Γ S ad vs ds := by
  cases q with
  | fix xs =>
    cases hi
    obtain ⟨vs, h1, h2⟩ := h
    exact ⟨vs, Evl.ex_l G.s h1, da_length h2, h2⟩
  | cell n len =>
    simp only [Sq.items] at hi
    cases hm : seqM μ (.loc n) with
    | none => rw [hm] at hi; cases hi
    | some es =>
      rw [hm] at hi
      simp only at hi
      split at hi
      · cases hi
        rename_i hl
        obtain ⟨b, vs, h1, h2, h3⟩ := seqM_ok G (.loc h) hm
        cases h1
        exact ⟨vs, .inl (.inl h2), (da_length h3).trans hl, h3⟩
      · cases hi
theorem ofD_ok {d : D} {v : V} {q : Sq} (h : Sq.ofD μ d = some q) (G : Good Γ B S0 S H ad μ) (hr : Rp Γ S ad v d) : ∃ a, v = .ref a ∧ SqAt Γ S ad a q ∧ (q.items μ).isSome = true := by
  cases hr with
  | loc hn =>
    simp only [Sq.ofD, Option.map_eq_some_iff] at h
    obtain ⟨ds, h1, rfl⟩ := h
    refine ⟨_, rfl, hn, ?_⟩
    simp [Sq.items, h1]
  | lst h1 h2 =>
    cases h
    exact ⟨_, rfl, ⟨_, .inl (.inl h1), h2⟩, rfl⟩
  | scr h1 h2 =>
    cases h
    exact ⟨_, rfl, ⟨_, h1, h2⟩, rfl⟩
  | _ => cases h
/-- a walk of n turns that gives what sr tells, over what grows from S, ad -/
structure Goes (Γ : Gm) (S : Hp) (ad : List Addr) (J : It) (sr : Sr) : Prop where
  go : ∀ B S0 S1 H1 ad1 μ1 i, Good Γ B S0 S1 H1 ad1 μ1 → Ex S S1 → Sub ad ad1 → sr.ok μ1 = true → i < sr.len → J.go i H1
  stop : ∀ B S0 S1 H1 ad1 μ1, Good Γ B S0 S1 H1 ad1 μ1 → Ex S S1 → Sub ad ad1 → sr.ok μ1 = true → J.stop sr.len H1
  yld : ∀ B S0 S1 H1 ad1 μ1 i x H2, Good Γ B S0 S1 H1 ad1 μ1 → Ex S S1 → Sub ad ad1 → sr.ok μ1 = true → i < sr.len → J.yld i H1 x H2 → ∃ d S2, sr.item μ1 i = some d ∧ Ex S1 S2 ∧ Good Γ B S0 S2 H2 ad1 μ1 ∧ Rp Γ S2 ad1 x d
theorem isSome_ex {α : Type} {o : Option α} (h : o.isSome = true) : ∃ x, o = some x := by
  cases o with
  | none => cases h
  | some x => exact ⟨x, rfl⟩
theorem goes_list {a : Addr} {q : Sq} (h : SqAt Γ S ad a q) : Goes Γ S ad (Itl Γ.K a) (.one q) := by
  refine ⟨fun B S0 S1 H1 ad1 μ1 i G e z ok hi => ?_, fun B S0 S1 H1 ad1 μ1 G e z ok => ?_, fun B S0 S1 H1 ad1 μ1 i x H2 G e z ok hi y => ?_⟩
  · obtain ⟨ds, hd⟩ := isSome_ex ok
    obtain ⟨vs, h1, h2, h3⟩ := (h.ext e z).read G hd
    have hi' : i < vs.length := by rw [h2]; exact hi
    exact ⟨vs, vs[i], h1, List.getElem?_eq_getElem hi'⟩
  · obtain ⟨ds, hd⟩ := isSome_ex ok
    obtain ⟨vs, h1, h2, h3⟩ := (h.ext e z).read G hd
    exact ⟨vs, h1, Nat.le_of_eq h2⟩
  · obtain ⟨ds, hd⟩ := isSome_ex ok
    obtain ⟨vs, h1, h2, h3⟩ := (h.ext e z).read G hd
    obtain ⟨rfl, y⟩ := y
    obtain ⟨d, e1, e2⟩ := da_getV h3 (y vs h1)
    exact ⟨d, S1, by simp [Sr.item, hd, e1], Ex.refl _, G, e2⟩
theorem goes_tup {a : Addr} {vs : List V} {xs : List D} (h : S a = some (.tup vs)) (hr : RpAll Γ S ad vs xs) : Goes Γ S ad (Itt Γ.K a) (.one (.fix xs)) := by
  have hl := da_length hr
  refine ⟨fun B S0 S1 H1 ad1 μ1 i G e z ok hi => ?_, fun B S0 S1 H1 ad1 μ1 G e z ok => ?_, fun B S0 S1 H1 ad1 μ1 i x H2 G e z ok hi y => ?_⟩
  · have hi' : i < vs.length := by rw [hl]; exact hi
    exact ⟨vs, vs[i], .inl (.inl (G.s _ _ (e _ _ h))), List.getElem?_eq_getElem hi'⟩
  · exact ⟨vs, .inl (.inl (G.s _ _ (e _ _ h))), Nat.le_of_eq hl⟩
  · obtain ⟨rfl, y⟩ := y
    obtain ⟨d, e1, e2⟩ := da_getV hr (y vs (.inl (.inl (G.s _ _ (e _ _ h)))))
    exact ⟨d, S1, e1, Ex.refl _, G, rp_ext e z _ _ e2⟩
theorem pair_dp {T : Addr} {x y : V} {d e : D} (G : Good Γ B S0 S H ad μ) (nT : H T = none) (hx : Rp Γ S ad x d) (hy : Rp Γ S ad y e) :
    ∃ S2, Ex S S2 ∧ Good Γ B S0 S2 (upd H T (.tup [x, y])) ad μ ∧ Rp Γ S2 ad (.ref T) (.tup [d, e]) := by
  have sp : S T = none := Evl.fresh_back G.s nT
  exact ⟨_, Ex.new sp, G.fresh nT, .tup upd_same (.cons (rp_ext (Ex.new sp) (Sub.refl _) _ _ hx) (.cons (rp_ext (Ex.new sp) (Sub.refl _) _ _ hy) .nil))⟩
theorem goes_enum {a : Addr} {q : Sq} (h : SqAt Γ S ad a q) : Goes Γ S ad (Ite Γ.K a) (.enum q) := by
  refine ⟨fun B S0 S1 H1 ad1 μ1 i G e z ok hi => ?_, fun B S0 S1 H1 ad1 μ1 G e z ok => ?_, fun B S0 S1 H1 ad1 μ1 i x H2 G e z ok hi y => ?_⟩
  · obtain ⟨ds, hd⟩ := isSome_ex ok
    obtain ⟨vs, h1, h2, h3⟩ := (h.ext e z).read G hd
    have hi' : i < vs.length := by rw [h2]; exact hi
    exact ⟨vs, vs[i], h1, List.getElem?_eq_getElem hi'⟩
  · obtain ⟨ds, hd⟩ := isSome_ex ok
    obtain ⟨vs, h1, h2, h3⟩ := (h.ext e z).read G hd
    exact ⟨vs, h1, Nat.le_of_eq h2⟩
  · obtain ⟨ds, hd⟩ := isSome_ex ok
    obtain ⟨vs, h1, h2, h3⟩ := (h.ext e z).read G hd
    obtain ⟨T, x, rfl, nT, rfl, y⟩ := y
    obtain ⟨d, e1, e2⟩ := da_getV h3 (y vs h1)
    obtain ⟨S2, k1, k2, k3⟩ := pair_dp G nT (.int (i : Nat)) e2
    exact ⟨_, S2, by simp [Sr.item, hd, e1], k1, k2, k3⟩
theorem goes_zip {a b : Addr} {p q : Sq} (h : SqAt Γ S ad a p) (h' : SqAt Γ S ad b q) : Goes Γ S ad (Itz Γ.K a b) (.zip p q) := by
  have key : ∀ {B S0 S1 H1 : Hp} {ad1 : List Addr} {μ1 : List Cell}, Good Γ B S0 S1 H1 ad1 μ1 → Ex S S1 → Sub ad ad1 → (Sr.zip p q).ok μ1 = true → ∃ ds es vs ws, p.items μ1 = some ds ∧ q.items μ1 = some es ∧ SqL Γ.K H1 a vs ∧ SqL Γ.K H1 b ws ∧ vs.length = p.len ∧ ws.length = q.len ∧ RpAll Γ S1 ad1 vs ds ∧ RpAll Γ S1 ad1 ws es := fun {B S0 S1 H1 ad1 μ1} G e z ok => by
    have ok : ((p.items μ1).isSome && (q.items μ1).isSome) = true := ok
    rw [Bool.and_eq_true] at ok
    obtain ⟨ds, hd⟩ := isSome_ex ok.1
    obtain ⟨es, he⟩ := isSome_ex ok.2
    obtain ⟨vs, h1, h2, h3⟩ := (h.ext e z).read G hd
    obtain ⟨ws, k1, k2, k3⟩ := (h'.ext e z).read G he
    exact ⟨ds, es, vs, ws, hd, he, h1, k1, h2, k2, h3, k3⟩
  refine ⟨fun B S0 S1 H1 ad1 μ1 i G e z ok hi => ?_, fun B S0 S1 H1 ad1 μ1 G e z ok => ?_, fun B S0 S1 H1 ad1 μ1 i x H2 G e z ok hi y => ?_⟩
  · obtain ⟨ds, es, vs, ws, _, _, h1, k1, h2, k2, _, _⟩ := key G e z ok
    have hi : i < min p.len q.len := hi
    exact ⟨vs, ws, vs[i]'(by omega), ws[i]'(by omega), h1, k1, List.getElem?_eq_getElem _, List.getElem?_eq_getElem _⟩
  · obtain ⟨ds, es, vs, ws, _, _, h1, k1, h2, k2, _, _⟩ := key G e z ok
    refine ⟨vs, ws, h1, k1, ?_⟩
    show vs.length ≤ min p.len q.len ∨ ws.length ≤ min p.len q.len
    omega
  · obtain ⟨ds, es, vs, ws, hd, he, h1, k1, h2, k2, h3, k3⟩ := key G e z ok
    obtain ⟨T, x, y', rfl, nT, rfl, y1, y2⟩ := y
    obtain ⟨d, e1, e2⟩ := da_getV h3 (y1 vs h1)
    obtain ⟨d', e1', e2'⟩ := da_getV k3 (y2 ws k1)
    obtain ⟨S2, k1, k2, k3⟩ := pair_dp G nT e2 e2'
    exact ⟨_, S2, by simp [Sr.item, hd, he, e1, e1'], k1, k2, k3⟩
def rangeD (lo : Int) (n : Nat) : List D := (List.range n).map fun i => .int (lo + (i : Nat))
def rangeC (lo c : Int) (n : Nat) : List D := (List.range n).map fun i => .int (lo + (i : Nat) * c)
theorem goes_range {lo : Int} {n : Nat} : Goes Γ S ad (Itr lo n) (.one (.fix (rangeD lo n))) := by
  have hl : (Sr.one (.fix (rangeD lo n))).len = n := by simp [Sr.len, Sq.len, rangeD]
  refine ⟨fun B S0 S1 H1 ad1 μ1 i G e z ok hi => by rw [hl] at hi; exact hi, fun B S0 S1 H1 ad1 μ1 G e z ok => by rw [hl]; exact Nat.le_refl n, fun B S0 S1 H1 ad1 μ1 i x H2 G e z ok hi y => ?_⟩
  obtain ⟨rfl, rfl⟩ := y
  rw [hl] at hi
  refine ⟨.int (lo + (i : Nat)), S1, ?_, Ex.refl _, G, .int _⟩
  show (rangeD lo n)[i]? = _
  unfold rangeD
  rw [List.getElem?_map, List.getElem?_range hi]
  rfl
theorem goes_rangeC {lo c : Int} {n : Nat} : Goes Γ S ad (Itc lo c n) (.one (.fix (rangeC lo c n))) := by
  have hl : (Sr.one (.fix (rangeC lo c n))).len = n := by simp [Sr.len, Sq.len, rangeC]
  refine ⟨fun B S0 S1 H1 ad1 μ1 i G e z ok hi => by rw [hl] at hi; exact hi, fun B S0 S1 H1 ad1 μ1 G e z ok => by rw [hl]; exact Nat.le_refl n, fun B S0 S1 H1 ad1 μ1 i x H2 G e z ok hi y => ?_⟩
  obtain ⟨rfl, rfl⟩ := y
  rw [hl] at hi
  refine ⟨.int (lo + (i : Nat) * c), S1, ?_, Ex.refl _, G, .int _⟩
  show (rangeC lo c n)[i]? = _
  unfold rangeC
  rw [List.getElem?_map, List.getElem?_range hi]
  rfl
end
/-! ### targets -/
mutual
inductive G where
  | name (i : Nat) | tup (gs : Gs)
inductive Gs where
  | nil | cons (g : G) (gs : Gs)
end
mutual
def G.tg (K : PySem.W.Frag) : G → TG
  | .name i => gName i
  | .tup gs => gTup K gs.len (gs.tgs K)
def Gs.tgs (K : PySem.W.Frag) : Gs → TGs
  | .nil => gNil
  | .cons g gs => gCons (g.tg K) (gs.tgs K)
def Gs.len : Gs → Nat
  | .nil => 0
  | .cons _ gs => gs.len + 1
end
mutual
def G.put : G → D → List (Option D) → Option (List (Option D))
  | .name i, d, ρ => some (ρ.set i (some d))
  | .tup gs, d, ρ => match seqT d with
    | some ds => if ds.length = gs.len then gs.put ds ρ else none
    | none => none
def Gs.put : Gs → List D → List (Option D) → Option (List (Option D))
  | .nil, [], ρ => some ρ
  | .cons g gs, d :: ds, ρ => match g.put d ρ with
    | some ρ1 => gs.put ds ρ1
    | none => none
  | _, _, _ => none
end
mutual
def G.vars : G → List Nat
  | .name i => [i]
  | .tup gs => gs.vars
def Gs.vars : Gs → List Nat
  | .nil => []
  | .cons g gs => g.vars ++ gs.vars
end
/-- the slots outside is stay -/
def Agree (is : List Nat) (σ σ' : L2.St) : Prop := σ'.length = σ.length ∧ ∀ k : Nat, k ∉ is → σ'[k]? = σ[k]?
theorem Agree.refl {is : List Nat} {a : L2.St} : Agree is a a := ⟨rfl, fun _ _ => rfl⟩
theorem Agree.trans {is js : List Nat} {a b c : L2.St} (h : Agree is a b) (h' : Agree js b c) : Agree (is ++ js) a c := ⟨h'.1.trans h.1, fun k hk => by
  rw [List.mem_append, not_or] at hk
  exact (h'.2 k hk.2).trans (h.2 k hk.1)⟩
section
variable {Γ : Gm} {B S0 S H : Hp} {ad : List Addr} {μ : List Cell}
theorem Slots.set {σ : L2.St} {ρ : List (Option D)} {v : V} {d : D} (h : Slots Γ S ad σ ρ) (i : Nat) (hv : Rp Γ S ad v d) : Slots Γ S ad (σ.set i (some v)) (ρ.set i (some d)) := by
  refine ⟨by simp [h.1], fun j e hj => ?_⟩
  rcases set_get hj with ⟨e1, e2⟩ | ⟨e1, e2⟩
  · subst e1
    cases e2
    have hl : j < ρ.length := by
      by_cases z : j < ρ.length
      · exact z
      · rw [List.getElem?_eq_none (by simpa using z)] at hj; cases hj
    exact ⟨v, List.getElem?_set_self (by rw [h.1]; exact hl), hv⟩
  · rw [List.getElem?_set_ne (Ne.symm e1)]
    exact h.2 j e e2
mutual
theorem put_ok (G0 : Good Γ B S0 S H ad μ) : ∀ (g : G) (d : D) (v : V) (σ : L2.St) (ρ ρ' : List (Option D)), Slots Γ S ad σ ρ → Rp Γ S ad v d → g.put d ρ = some ρ' → ∀ Q : L2.St → Hp → Prop, (∀ σ', Slots Γ S ad σ' ρ' → Agree g.vars σ σ' → Q σ' H) → g.tg Γ.K v σ H Q
  | .name i, d, v, σ, ρ, ρ', hs, hv, e, Q, q => by
    rw [G.put] at e
    cases e
    rw [G.tg]
    exact q _ (hs.set i hv) ⟨by simp, fun k hk => List.getElem?_set_ne (show i ≠ k from fun z => hk (by rw [G.vars, z]; simp))⟩
  | .tup gs, d, v, σ, ρ, ρ', hs, hv, e, Q, q => by
    rw [G.put] at e
    rw [G.tg]
    cases ht : seqT d with
    | none => rw [ht] at e; cases e
    | some ds =>
      rw [ht] at e
      simp only at e
      split at e
      · rename_i hl
        obtain ⟨a, vs, rfl, h1, h2⟩ := seqT_ok G0 hv ht
        refine ⟨a, vs, rfl, .inl (.inl h1), (da_length h2).trans hl, ?_⟩
        exact puts_ok G0 gs ds vs σ ρ ρ' hs h2 e Q fun σ' a1 a2 => q σ' a1 (by rw [G.vars]; exact a2)
      · cases e
theorem puts_ok (G0 : Good Γ B S0 S H ad μ) : ∀ (gs : Gs) (ds : List D) (vs : List V) (σ : L2.St) (ρ ρ' : List (Option D)), Slots Γ S ad σ ρ → RpAll Γ S ad vs ds → gs.put ds ρ = some ρ' → ∀ Q : L2.St → Hp → Prop, (∀ σ', Slots Γ S ad σ' ρ' → Agree gs.vars σ σ' → Q σ' H) → gs.tgs Γ.K vs σ H Q
  | .nil, [], _, σ, ρ, ρ', hs, hv, e, Q, q => by
    rw [Gs.put] at e
    cases e
    cases hv
    rw [Gs.tgs]
    exact ⟨rfl, q σ hs Agree.refl⟩
  | .nil, _ :: _, _, σ, ρ, ρ', hs, hv, e, Q, q => by simp [Gs.put] at e
  | .cons g gs, [], _, σ, ρ, ρ', hs, hv, e, Q, q => by simp [Gs.put] at e
  | .cons g gs, d :: ds, _, σ, ρ, ρ', hs, hv, e, Q, q => by
    rw [Gs.put] at e
    rw [Gs.tgs]
    cases hv with
    | cons h1 h2 =>
      cases hp : g.put d ρ with
      | none => rw [hp] at e; cases e
      | some ρ1 =>
        rw [hp] at e
        refine ⟨_, _, rfl, put_ok G0 g d _ σ ρ ρ1 hs h1 hp _ fun σ1 a1 a2 => ?_⟩
        exact puts_ok G0 gs ds _ σ1 ρ1 ρ' a1 h2 e Q fun σ' b1 b2 => q σ' b1 (by rw [Gs.vars]; exact a2.trans b2)
end
end
/-! ### comprehensions -/
def wipeR (ρ : List (Option D)) : List Nat → List (Option D)
  | [] => ρ
  | v :: vs => (wipeR ρ vs).set v none
theorem wipe_in {σ : L2.St} {i : Nat} : ∀ {vs : List Nat}, i ∈ vs → (wipe σ vs)[i]? = if i < σ.length then some none else none
  | [], h => by simp at h
  | v :: vs, h => by
    unfold wipe
    by_cases hi : v = i
    · subst hi
      by_cases hv : v < σ.length
      · rw [List.getElem?_set_self (by rw [wipe_length]; exact hv), if_pos hv]
      · rw [if_neg hv, List.getElem?_eq_none (by rw [List.length_set, wipe_length]; omega)]
    · rw [List.getElem?_set_ne hi]
      rcases List.mem_cons.mp h with e | e
      · exact absurd e.symm hi
      · exact wipe_in e
theorem wipe_agree {σ σ2 : L2.St} {is vs : List Nat} (h : Agree is (wipe σ vs) σ2) (hi : ∀ i ∈ is, i ∈ vs) : wipe σ2 vs = wipe σ vs := by
  have hl : σ2.length = σ.length := by rw [h.1, wipe_length]
  refine List.ext_getElem? fun k => ?_
  by_cases hk : k ∈ vs
  · rw [wipe_in hk, wipe_in hk, hl]
  · rw [wipe_out hk, h.2 k (fun z => hk (hi k z))]
theorem Slots.wipe {Γ : Gm} {S : Hp} {ad : List Addr} {σ : L2.St} {ρ : List (Option D)} (h : Slots Γ S ad σ ρ) : ∀ vs, Slots Γ S ad (wipe σ vs) (wipeR ρ vs)
  | [] => h
  | v :: vs => by
    have ih := h.wipe vs
    unfold L2.wipe wipeR
    refine ⟨by simp [ih.1], fun j e hj => ?_⟩
    rcases set_get hj with ⟨e1, e2⟩ | ⟨e1, e2⟩
    · cases e2
    · rw [List.getElem?_set_ne (Ne.symm e1)]
      exact ih.2 j e e2
inductive LcRun (turn : D → List Cell → Rs (Option D)) (sr : Sr) : Nat → List Cell → List D → List Cell → Prop
  | done {μ : List Cell} : sr.ok μ = true → LcRun turn sr sr.len μ [] μ
  | step {i : Nat} {μ μ1 μ2 : List Cell} {d : D} {o : Option D} {ds : List D} : i < sr.len → sr.ok μ = true → sr.item μ i = some d → turn d μ = .ok o μ1 → LcRun turn sr (i + 1) μ1 ds μ2 → LcRun turn sr i μ (o.toList ++ ds) μ2
def lcL (turn : D → List Cell → Rs (Option D)) : List D → List Cell → Rs (List D)
  | [], μ => .ok [] μ
  | x :: xs, μ => match turn x μ with
    | .ok o μ1 => (lcL turn xs μ1).bind fun ds μ2 => .ok (o.toList ++ ds) μ2
    | _ => .no
def lcC (turn : D → List Cell → Rs (Option D)) (sr : Sr) : Nat → Nat → List Cell → Rs (List D)
  | 0, _, μ => if sr.ok μ then .ok [] μ else .no
  | k + 1, i, μ => if sr.ok μ then (match sr.item μ i with
    | some x => (match turn x μ with
      | .ok o μ1 => (lcC turn sr k (i + 1) μ1).bind fun ds μ2 => .ok (o.toList ++ ds) μ2
      | _ => .no)
    | none => .no) else .no
def lcGo (turn : D → List Cell → Rs (Option D)) (sr : Sr) (μ : List Cell) : Rs (List D) := match sr.list with
  | some xs => lcL turn xs μ
  | none => lcC turn sr sr.len 0 μ
theorem lcL_no (turn : D → List Cell → Rs (Option D)) : ∀ (xs : List D) (μ : List Cell), (∃ ds μ', lcL turn xs μ = .ok ds μ') ∨ lcL turn xs μ = .no
  | [], μ => .inl ⟨_, _, rfl⟩
  | x :: xs, μ => by
    rw [lcL]
    cases turn x μ with
    | ok o μ1 =>
      rcases lcL_no turn xs μ1 with ⟨ds, μ', h⟩ | h
      · simp only [h]; exact .inl ⟨_, _, rfl⟩
      · simp only [h]; exact .inr rfl
    | er c μ => exact .inr rfl
    | no => exact .inr rfl
theorem lcC_no (turn : D → List Cell → Rs (Option D)) (sr : Sr) : ∀ (k i : Nat) (μ : List Cell), (∃ ds μ', lcC turn sr k i μ = .ok ds μ') ∨ lcC turn sr k i μ = .no
  | 0, i, μ => by
    rw [lcC]
    split
    · exact .inl ⟨_, _, rfl⟩
    · exact .inr rfl
  | k + 1, i, μ => by
    rw [lcC]
    split
    · cases sr.item μ i with
      | none => exact .inr rfl
      | some x =>
        simp only
        cases turn x μ with
        | ok o μ1 =>
          rcases lcC_no turn sr k (i + 1) μ1 with ⟨ds, μ', h⟩ | h
          · simp only [h]; exact .inl ⟨_, _, rfl⟩
          · simp only [h]; exact .inr rfl
        | er c μ => exact .inr rfl
        | no => exact .inr rfl
    · exact .inr rfl
theorem lcGo_no (turn : D → List Cell → Rs (Option D)) (sr : Sr) (μ : List Cell) : (∃ ds μ', lcGo turn sr μ = .ok ds μ') ∨ lcGo turn sr μ = .no := by
  unfold lcGo
  split
  · exact lcL_no ..
  · exact lcC_no ..
theorem lcL_run {turn : D → List Cell → Rs (Option D)} {sr : Sr} {xs : List D} (h : sr.list = some xs) : ∀ (k i : Nat) (μ μ' : List Cell) (ds : List D), i + k = xs.length → lcL turn (xs.drop i) μ = .ok ds μ' → LcRun turn sr i μ ds μ'
  | 0, i, μ, μ', ds, hk, e => by
    have hi : i = xs.length := by omega
    rw [hi, List.drop_length, lcL] at e
    cases e
    obtain ⟨h1, h2, h3⟩ := Sr.list_ok h μ
    rw [hi, ← h2]
    exact .done h1
  | k + 1, i, μ, μ', ds, hk, e => by
    have hi : i < xs.length := by omega
    rw [List.drop_eq_getElem_cons hi, lcL] at e
    obtain ⟨h1, h2, h3⟩ := Sr.list_ok h μ
    cases ht : turn xs[i] μ with
    | ok o μ1 =>
      rw [ht] at e
      simp only at e
      rcases lcL_no turn (xs.drop (i + 1)) μ1 with ⟨ds2, μ2, h4⟩ | h4
      · rw [h4] at e
        cases e
        exact .step (by rw [h2]; exact hi) h1 ((h3 i).trans (List.getElem?_eq_getElem hi)) ht (lcL_run h k (i + 1) μ1 _ ds2 (by omega) h4)
      · rw [h4] at e; cases e
    | er c μ => rw [ht] at e; cases e
    | no => rw [ht] at e; cases e
theorem lcC_run {turn : D → List Cell → Rs (Option D)} {sr : Sr} : ∀ (k i : Nat) (μ μ' : List Cell) (ds : List D), i + k = sr.len → lcC turn sr k i μ = .ok ds μ' → LcRun turn sr i μ ds μ'
  | 0, i, μ, μ', ds, hk, e => by
    rw [lcC] at e
    split at e
    · cases e
      have hi : i = sr.len := by omega
      rw [hi]
      exact .done ‹_›
    · cases e
  | k + 1, i, μ, μ', ds, hk, e => by
    rw [lcC] at e
    split at e
    · rename_i hok
      cases hx : sr.item μ i with
      | none => rw [hx] at e; cases e
      | some x =>
        rw [hx] at e
        simp only at e
        cases ht : turn x μ with
        | ok o μ1 =>
          rw [ht] at e
          simp only at e
          rcases lcC_no turn sr k (i + 1) μ1 with ⟨ds2, μ2, h4⟩ | h4
          · rw [h4] at e
            cases e
            exact .step (by omega) hok hx ht (lcC_run k (i + 1) μ1 _ ds2 (by omega) h4)
          · rw [h4] at e; cases e
        | er c μ => rw [ht] at e; cases e
        | no => rw [ht] at e; cases e
    · cases e
theorem lcGo_run {turn : D → List Cell → Rs (Option D)} {sr : Sr} {μ μ' : List Cell} {ds : List D} (e : lcGo turn sr μ = .ok ds μ') : LcRun turn sr 0 μ ds μ' := by
  unfold lcGo at e
  split at e
  · rename_i xs h
    exact lcL_run h xs.length 0 μ μ' ds (by omega) (by rw [List.drop_zero]; exact e)
  · exact lcC_run sr.len 0 μ μ' ds (by omega) e
section
variable {Γ : Gm} {B S0 S H : Hp} {ad : List Addr} {μ : List Cell}
theorem Good.apart {A : Addr} {o : HO} (G : Good Γ (L2.upd B A o) S0 S H ad μ) (h0 : S0 A = none) : S A = none ∧ H A = some o ∧ ∀ (n : Nat) a, ad[n]? = some a → a ≠ A := by
  have hs : S A = none := by
    cases e : S A with
    | none => rfl
    | some u =>
      rcases G.new A u e with z | z
      · rw [h0] at z; cases z
      · rw [upd_same] at z; cases z
  refine ⟨hs, G.b _ _ upd_same, fun n a hn e => ?_⟩
  subst e
  have hl : n < μ.length := by
    rw [← G.len]
    by_cases z : n < ad.length
    · exact z
    · rw [List.getElem?_eq_none (by omega)] at hn; cases hn
  have := G.cell n a _ hn (List.getElem?_eq_getElem hl)
  cases hc : μ[n] with
  | lst ds =>
    rw [hc] at this
    have h1 := this.1
    rw [upd_same] at h1
    cases h1
  | ro ds =>
    rw [hc] at this
    have h1 := this.1
    rw [upd_same] at h1
    cases h1
  | ins _ _ _ =>
    rw [hc] at this
    have h1 := this.1
    rw [upd_same] at h1
    cases h1
  | gone =>
    rw [hc] at this
    obtain ⟨o, h⟩ := this
    rw [hs] at h
    cases h
/-- what a turn of a comprehension is to do -/
def TurnOk (Γ : Gm) (σ : L2.St) (vs : List Nat) (g : TG) (tt : TT) (te : TE) (S : Hp) (ad : List Addr) (turn : D → List Cell → Rs (Option D)) : Prop :=
  ∀ B S0 S1 H1 ad1 μ1 x d o μ2, Good Γ B S0 S1 H1 ad1 μ1 → Ex S S1 → Sub ad ad1 → Rp Γ S1 ad1 x d → turn d μ1 = .ok o μ2 → ∀ (Qy : V → Hp → Prop) (Qn : Hp → Prop),
    (∀ e y S2 H2 ad2, o = some e → Ex S1 S2 → Sub ad1 ad2 → Good Γ B S0 S2 H2 ad2 μ2 → Rp Γ S2 ad2 y e → Qy y H2) → (∀ S2 H2 ad2, o = none → Ex S1 S2 → Sub ad1 ad2 → Good Γ B S0 S2 H2 ad2 μ2 → Qn H2) →
    g x (wipe σ vs) H1 fun σ2 H2 => wipe σ2 vs = wipe σ vs ∧ tt σ2 H2 fun b H3 => if b = true then te σ2 H3 Qy else Qn H3
theorem lc_ok {J : It} {sr : Sr} {g : TG} {tt : TT} {te : TE} {vs : List Nat} {σ : L2.St} {turn : D → List Cell → Rs (Option D)} {ds : List D} {μ' : List Cell} (G : Good Γ B S0 S H ad μ) (hg : Goes Γ S ad J sr) (ht : TurnOk Γ σ vs g tt te S ad turn) (hr : LcRun turn sr 0 μ ds μ') (hl : ds.length ≤ 100000)
    {Q : VK} (q : ∀ v S' H' ad', Ex S S' → Sub ad ad' → Good Γ B S0 S' H' ad' μ' → Res Γ B S' H' ad' v (.own ds) → Q v H') :
    ∀ A, H A = none → ∃ W : Nat → Nat → Hp → Prop, (∃ m, W 0 m (upd H A (.lst []))) ∧ ∀ i m H, W i m H →
      (J.stop i H ∧ Q (.ref A) H) ∨ (J.go i H ∧ ∃ Nx : Hp → Prop, (∀ H', Nx H' → ∃ m', m' < m ∧ W (i + 1) m' H') ∧ ∀ x H', J.yld i H x H' → g x (wipe σ vs) H' fun σ2 H2 => wipe σ2 vs = wipe σ vs ∧ tt σ2 H2 fun b H3 =>
        if b = true then te σ2 H3 fun y H4 => ∃ acc, H4 A = some (.lst acc) ∧ acc.length < sizeLine ∧ Nx (upd H4 A (.lst (acc ++ [y]))) else Nx H3) := by
  intro A hA
  have hSA : S A = none := Evl.fresh_back G.s hA
  have h0A : S0 A = none := Evl.fresh_back G.ss hSA
  have hBA : B A = none := Evl.fresh_back G.b hA
  let Iv : Nat → Hp → Prop := fun i H1 => ∃ S1 ad1 μ1 acc done rest, Ex S S1 ∧ Sub ad ad1 ∧ Good Γ B S0 S1 H1 ad1 μ1 ∧ S1 A = none ∧ (∀ (n : Nat) a, ad1[n]? = some a → a ≠ A) ∧ H1 A = some (.lst acc) ∧ RpAll Γ S1 ad1 acc done ∧ LcRun turn sr i μ1 rest μ' ∧ ds = done ++ rest
  refine ⟨fun i m H1 => i + m = sr.len ∧ Iv i H1, ⟨sr.len, by omega, S, ad, μ, [], [], ds, Ex.refl _, Sub.refl _, G.pend hA, hSA, fun n a h => G.ne hA h, upd_same, .nil, hr, rfl⟩, ?_⟩
  rintro i m H1 ⟨hm, S1, ad1, μ1, acc, done, rest, e1, z1, G1, hS1, hn1, ha, hra, run, hd⟩
  cases run with
  | done hok =>
    refine .inl ⟨hg.stop B S0 S1 H1 ad1 _ G1 e1 z1 hok, q _ S1 H1 ad1 e1 z1 G1 ⟨A, acc, rfl, hBA, hS1, hn1, ha, ?_⟩⟩
    rw [List.append_nil] at hd
    rw [hd]
    exact hra
  | step hi hok hit htn hrest =>
    rename_i μ2 d o rest2
    refine .inr ⟨hg.go B S0 S1 H1 ad1 μ1 i G1 e1 z1 hok hi, Iv (i + 1), fun H' h => ⟨m - 1, by omega, by omega, h⟩, fun x H2 y => ?_⟩
    have GB := G1.baseUp (p := A) ha hS1 hn1
    obtain ⟨d', S2, hd', e2, G2, rx⟩ := hg.yld _ S0 S1 H1 ad1 μ1 i x H2 GB e1 z1 hok hi y
    have : d' = d := by
      rw [hit] at hd'
      exact (Option.some.inj hd').symm
    subst this
    have hB2 : Ex B (upd B A (.lst acc)) := Ex.new hBA
    refine ht _ S0 S2 H2 ad1 μ1 x d' o μ2 G2 (e1.trans e2) z1 rx htn _ _ (fun e yv S3 H3 ad3 ho e3 z3 G3 ry => ?_) (fun S3 H3 ad3 ho e3 z3 G3 => ?_)
    · subst ho
      obtain ⟨k1, k2, k3⟩ := G3.apart h0A
      have hlen : acc.length < 100000 := by
        have := da_length hra
        rw [hd] at hl
        simp at hl
        omega
      refine ⟨acc, k2, Evl.sz_lt hlen, S3, ad3, μ2, acc ++ [yv], done ++ [e], rest2, (e1.trans e2).trans e3, z1.trans z3, ?_, k1, k3, upd_same, ?_, hrest, ?_⟩
      · exact (G3.baseDown hB2).off k1 hBA k3
      · exact da_app (rpAll_ext (e2.trans e3) z3 _ _ hra) (.cons ry .nil)
      · rw [hd]; simp
    · subst ho
      obtain ⟨k1, k2, k3⟩ := G3.apart h0A
      exact ⟨S3, ad3, μ2, acc, done, rest2, (e1.trans e2).trans e3, z1.trans z3, G3.baseDown hB2, k1, k3, k2, rpAll_ext (e2.trans e3) z3 _ _ hra, hrest, by rw [hd]; rfl⟩
end
end EM

/-! expressions -/
namespace EM
open PySem PySem.Spec PyProof.Rows L2
open Evl (Ex)
/-- a def that works upon the store -/
abbrev FnS := List D → List Cell → Rs D
structure Pm where
  fs : Nat → Fn
  gs : Nat → FnS
  /-- the fields of the classes -/
  fl : Nat → Str → Bool
  /-- isinstance of an instance of one class, asked of another -/
  sub : Nat → Nat → Option Bool
def spS (Γ : Gm) (g : FnS) : Sp := fun vs H Q E => ∃ B S0 S ad μ ds, Good Γ B S0 S H ad μ ∧ RpAll Γ S ad vs ds ∧ match g ds μ with
  | .ok d μ' => ∀ v S' H' ad', Ex S S' → Sub ad ad' → Good Γ B S0 S' H' ad' μ' → Rp Γ S' ad' v d → Q v H'
  | .er c μ' => ∀ S' H' ad', Ex S S' → Sub ad ad' → Good Γ B S0 S' H' ad' μ' → E (.ref (Γ.C c)) none H'
  | .no => False
structure PmOk (Γ : Gm) (pm : Pm) : Prop where
  fl : ∀ c f, pm.fl c f = true → Cls Γ.K (Γ.C c) ∧ NoAttr Γ.K (Γ.C c) f
  sub : ∀ c c' b, pm.sub c c' = some b → PySem.W.kitOne Γ.K (.ref (Γ.C c)) (.ref (Γ.C c')) = some b ∧ ∀ H a dx fs, H a = some (.ins (Γ.C c) dx fs) → TyOf Γ.K H (.ref a) (.ref (Γ.C c))
/-- methods of lists -/
inductive Me where
  | append | reverse | clear | pop | extend | index
def Me.r (K : PySem.W.Frag) : Me → V → List V → Hp → VK → Prop
  | .append => rAppend
  | .reverse => rReverse
  | .clear => rClear
  | .pop => rPop
  | .extend => rExtend
  | .index => rIndexD K
def cellL (μ : List Cell) (d : D) : Option (Nat × List D) := match d with
  | .loc n => match μ[n]? with
    | some (.lst ds) => some (n, ds)
    | _ => none
  | _ => none
/-- the first place of what is equal -/
def idxOf (p : PyData → Bool) : List PyData → Option Nat
  | [] => none
  | z :: r => if p z then some 0 else (idxOf p r).map (· + 1)
def meEv (m : Me) (μ : List Cell) (o : D) (as : List D) : Option (D × List Cell) := match m with
  | .append => match cellL μ o, as with
    | some (n, ds), [e] => if ds.length < 100000 then some (.non, μ.set n (.lst (ds ++ [e]))) else none
    | _, _ => none
  | .reverse => match cellL μ o, as with
    | some (n, ds), [] => some (.non, μ.set n (.lst ds.reverse))
    | _, _ => none
  | .clear => match cellL μ o, as with
    | some (n, _), [] => some (.non, μ.set n (.lst []))
    | _, _ => none
  | .pop => match cellL μ o, as with
    | some (n, ds), [] => match ds[ds.length - 1]? with
      | some y => some (y, μ.set n (.lst ds.dropLast))
      | none => none
    | _, _ => none
  | .extend => match cellL μ o, as with
    | some (n, ds), [e] => match seqM μ e with
      | some es => if ds.length + es.length ≤ 100000 then some (.non, μ.set n (.lst (ds ++ es))) else none
      | none => none
    | _, _ => none
  | .index => match as with
    | [e] => match resD μ o with
      | .lst ds => if (resD μ e).okEq && (D.lst ds).okEq then (idxOf (fun z => PyData.eqv z (resD μ e).py) (D.pys ds)).map fun j => (.int (j : Nat), μ) else none
      | _ => none
    | _ => none
theorem idxOf_ok {p : PyData → Bool} : ∀ {l : List PyData} {j : Nat}, idxOf p l = some j → ∃ z, l[j]? = some z ∧ p z = true ∧ ∀ (m : Nat) z', m < j → l[m]? = some z' → p z' = false
  | [], j, h => by cases h
  | z :: r, j, h => by
    rw [idxOf] at h
    split at h
    · cases h
      exact ⟨z, rfl, ‹_›, fun m z' hm => absurd hm (by omega)⟩
    · rename_i hz
      rw [Option.map_eq_some_iff] at h
      obtain ⟨k, h1, rfl⟩ := h
      obtain ⟨w, q1, q2, q3⟩ := idxOf_ok h1
      refine ⟨w, by simpa using q1, q2, fun m z' hm hz' => ?_⟩
      cases m with
      | zero => simp at hz'; subst hz'; simpa using hz
      | succ m => exact q3 m z' (by omega) (by simpa using hz')
section
variable {Γ : Gm} {B S0 S H : Hp} {ad : List Addr} {μ : List Cell}
theorem cellL_ok {o : D} {v : V} {n : Nat} {ds : List D} (h : cellL μ o = some (n, ds)) (G : Good Γ B S0 S H ad μ) (hr : Rp Γ S ad v o) : ∃ a vs, v = .ref a ∧ o = .loc n ∧ ad[n]? = some a ∧ B a = none ∧ S a = none ∧ H a = some (.lst vs) ∧ RpAll Γ S ad vs ds := by
  cases hr with
  | loc hn =>
    rename_i m a
    simp only [cellL] at h
    cases hc : μ[m]? with
    | none => rw [hc] at h; cases h
    | some c =>
      rw [hc] at h
      cases c with
      | lst ds' =>
        cases h
        obtain ⟨h1, h2, vs, h3, h4⟩ := G.cell _ a _ hn hc
        exact ⟨a, vs, rfl, rfl, hn, h1, h2, h3, h4⟩
      | _ => cases h
  | _ => cases h
theorem cell_put {a : Addr} {n : Nat} {ws : List V} {es : List D} (G : Good Γ B S0 S H ad μ) (hn : ad[n]? = some a) (hb : B a = none) (hs : S a = none) (h : RpAll Γ S ad ws es) : Good Γ B S0 S (upd H a (.lst ws)) ad (μ.set n (.lst es)) :=
  G.upd hn hb hs ⟨hb, hs, ws, upd_same, h⟩
theorem da_dropLast : ∀ {vs : List V} {ds : List D}, RpAll Γ S ad vs ds → RpAll Γ S ad vs.dropLast ds.dropLast := fun {vs ds} h => by
  rw [List.dropLast_eq_take, List.dropLast_eq_take, da_length h]
  exact da_take _ h
theorem me_ok {m : Me} {o : D} {as : List D} {v : V} {ws : List V} {r : D} {μ' : List Cell} {Q : VK} (h : meEv m μ o as = some (r, μ')) (G : Good Γ B S0 S H ad μ) (hv : Rp Γ S ad v o) (hw : RpAll Γ S ad ws as)
    (q : ∀ u H', Good Γ B S0 S H' ad μ' → Rp Γ S ad u r → Q u H') : tyV Γ.K "list" v H ∧ m.r Γ.K v ws H Q := by
  cases m <;> simp only [meEv] at h
  · split at h
    · split at h
      · rename_i n ds e h1 hl
        cases h
        obtain ⟨a, vs, rfl, _, k1, k2, k3, k4, k5⟩ := cellL_ok ‹cellL μ o = some _› G hv
        obtain ⟨w, rfl, k6⟩ := da_1 hw
        refine ⟨.inl ⟨rfl, _, .inl (.inl k4)⟩, a, vs, w, rfl, rfl, k4, ?_, q _ _ (cell_put G k1 k2 k3 (da_app k5 (.cons k6 .nil))) .non⟩
        rw [da_length k5]; exact Evl.sz_lt hl
      · cases h
    · cases h
  · split at h
    · rename_i n ds h1
      cases h
      obtain ⟨a, vs, rfl, _, k1, k2, k3, k4, k5⟩ := cellL_ok ‹cellL μ o = some _› G hv
      cases hw
      exact ⟨.inl ⟨rfl, _, .inl (.inl k4)⟩, a, vs, rfl, rfl, k4, q _ _ (cell_put G k1 k2 k3 (da_rev k5)) .non⟩
    · cases h
  · split at h
    · rename_i n ds h1
      cases h
      obtain ⟨a, vs, rfl, _, k1, k2, k3, k4, k5⟩ := cellL_ok ‹cellL μ o = some _› G hv
      cases hw
      exact ⟨.inl ⟨rfl, _, .inl (.inl k4)⟩, a, vs, rfl, rfl, k4, q _ _ (cell_put G k1 k2 k3 .nil) .non⟩
    · cases h
  · split at h
    · split at h
      · rename_i n ds h1 _ y hy
        cases h
        obtain ⟨a, vs, rfl, _, k1, k2, k3, k4, k5⟩ := cellL_ok ‹cellL μ o = some _› G hv
        cases hw
        obtain ⟨u, e1, e2⟩ := da_get k5 hy
        rw [← da_length k5] at e1
        exact ⟨.inl ⟨rfl, _, .inl (.inl k4)⟩, a, vs, u, rfl, rfl, k4, e1, q _ _ (cell_put G k1 k2 k3 (da_dropLast k5)) e2⟩
      · cases h
    · cases h
  · split at h
    · split at h
      · split at h
        · rename_i n ds e h1 _ es he hl
          cases h
          obtain ⟨a, vs, rfl, _, k1, k2, k3, k4, k5⟩ := cellL_ok ‹cellL μ o = some _› G hv
          obtain ⟨w, rfl, k6⟩ := da_1 hw
          obtain ⟨b, us, rfl, j1, j2⟩ := seqM_ok G k6 he
          refine ⟨.inl ⟨rfl, _, .inl (.inl k4)⟩, a, b, vs, us, rfl, rfl, k4, j1, ?_, q _ _ (cell_put G k1 k2 k3 (da_app k5 j2)) .non⟩
          rw [da_length k5, da_length j2]; exact Evl.sz_of hl
        · cases h
      · cases h
    · cases h
  · split at h
    · split at h
      · split at h
        · rename_i e ds hd hc
          rw [Option.map_eq_some_iff] at h
          obtain ⟨j, h1, h2⟩ := h
          cases h2
          obtain ⟨w, rfl, k6⟩ := da_1 hw
          rw [Bool.and_eq_true] at hc
          unfold D.okEq at hc
          rw [Bool.and_eq_true, Bool.and_eq_true] at hc
          have r1 := G.res hv
          rw [hd] at r1
          have r2 := rp_dp G.view_ex.2 _ _ hc.2.1 r1
          rw [D.py] at r2
          have c2 := hc.2.2
          rw [D.py] at c2
          obtain ⟨a, vs, rfl, s1, _⟩ := dp_list r1
          obtain ⟨z, z1, z2, z3⟩ := idxOf_ok h1
          exact ⟨.inl ⟨rfl, _, .inl (.inl (G.view_ex.2 _ _ s1))⟩, a, w, _, _, j, z, rfl, rfl, r2, rp_dp G.view_ex.2 _ _ hc.1.1 (G.res k6), c2, hc.1.2, z1, z2, z3, q _ _ G (.int _)⟩
        · cases h
      · cases h
    · cases h
end
/-- constants -/
def kV (Γ : Gm) : D → V
  | .bl b => .bl b
  | .int i => .int i
  | .str x => .str x
  | .fn n => .ref (Γ.f n)
  | .cls n => .ref (Γ.C n)
  | .ty s => .ty s
  | _ => .non
theorem kV_ok {Γ : Gm} {S : Hp} {ad : List Addr} {d : D} (h : flatD d = true) : Rp Γ S ad (kV Γ d) d := by
  cases d with
  | non => exact .non
  | bl b => exact .bl b
  | int i => exact .int i
  | str x => exact .str x
  | fn n => exact .fn n
  | cls n => exact .cls n
  | ty s => exact .ty s
  | _ => cases h
mutual
inductive X where
  | v (i : Nat) | k (d : D) | op (o : Op) (a b : X) | neg (a : X) | not (a : X) | and (a b : X) | or (a b : X) | ite (t : T) (a b : X)
  | chain (o p : Op) (a b c : X) | tup (as : Xs) | lst (as : Xs) | ix (a b : X) | sl (a : X) (lo hi : Xo) | rev (a : X)
  | lc (w : W) (g : G) (t : T) (e : X) (vs : List Nat) | cb (b : Bi) (as : Xs) | isi (a : X) (t : Ty) | isC (a : X) (c : Nat)
  | cp (x : Bool) (f : Nat) (as : Xs) | cs (x : Bool) (f : Nat) (as : Xs) | mp (x : Bool) (c : Nat) (m : Str) (f : Nat) (a : X) (as : Xs) | ms (x : Bool) (c : Nat) (m : Str) (f : Nat) (a : X) (as : Xs)
  | mk (x : Bool) (c : Nat) (f : Nat) (as : Xs) | fld (a : X) (f : Str) | bm (m : Me) (o : X) (as : Xs) | bm0 (m : Me) (o : X) | cell (a : X) | give (i : Nat)
inductive Xs where
  | nil | cons (a : X) (as : Xs)
inductive Xo where
  | none | some (a : X)
inductive T where
  | yes | tst (a : X) | b (a : X) | and (s t : T) | or (s t : T) | not (t : T)
inductive W where
  | list (a : X) | tup (a : X) | rng1 (as : Xs) | rng2 (as : Xs) | rng3 (as : Xs) | zip (as : Xs) | enum (as : Xs)
end
section
variable (Γ : Gm) (pm : Pm) (E : XK)
mutual
def X.te : X → TE
  | .v i => tVar i
  | .k d => tC (kV Γ d)
  | .op o a b => tOp (o.r Γ.K) a.te b.te
  | .neg a => tUn (rU fun i => .int (-i)) a.te
  | .not a => tNotV a.te
  | .and a b => tAndV a.te b.te
  | .or a b => tOrV a.te b.te
  | .ite t a b => tIf t.tt a.te b.te
  | .chain o p a b c => tChain (o.r Γ.K) (p.r Γ.K) a.te b.te c.te
  | .tup as => tTup as.ta
  | .lst as => tLst as.ta
  | .ix a b => tOp (rIx Γ.K) a.te b.te
  | .sl a lo hi => tSl (rSlL Γ.K) a.te lo.to hi.to
  | .rev a => tRevL Γ.K a.te
  | .lc w g t e vs => tLc w.ti (g.tg Γ.K) t.tt e.te vs
  | .cb b as => tCB (b.r Γ.K) as.ta
  | .isi a t => tCB (rIsi Γ.K) (tCons a.te (tCons (tC (.ty t.s)) tNil))
  | .isC a c => tCB (rIsi Γ.K) (tCons a.te (tCons (tC (.ref (Γ.C c))) tNil))
  | .cp x f as => tCall (spP Γ (pm.fs f)) [] (if x then E else E0) as.ta
  | .cs x f as => tCall (spS Γ (pm.gs f)) [] (if x then E else E0) as.ta
  | .mp x c m f a as => tMeth (Γ.C c) m (spP Γ (pm.fs f)) [] (if x then E else E0) a.te as.ta
  | .ms x c m f a as => tMeth (Γ.C c) m (spS Γ (pm.gs f)) [] (if x then E else E0) a.te as.ta
  | .mk x c f as => tMake (Γ.C c) (spS Γ (pm.gs f)) [] (if x then E else E0) as.ta
  | .fld a f => tFld Γ.K a.te f
  | .bm m o as => tBM Γ.K "list" (m.r Γ.K) o.te as.ta
  | .bm0 m o => tBM0 Γ.K "list" (m.r Γ.K) o.te
  | .cell a => a.te
  | .give i => tVar i
def Xs.ta : Xs → TA
  | .nil => tNil
  | .cons a as => tCons a.te as.ta
def Xo.to : Xo → TO
  | .none => tNoPart
  | .some a => tPart a.te
def T.tt : T → TT
  | .yes => tYes
  | .tst a => tTest a.te
  | .b a => tB a.te
  | .and s t => tAnd s.tt t.tt
  | .or s t => tOr s.tt t.tt
  | .not t => tNot t.tt
def W.ti : W → TI
  | .list a => iList Γ.K a.te
  | .tup a => iTup Γ.K a.te
  | .rng1 as => iRng1 as.ta
  | .rng2 as => iRng2 as.ta
  | .rng3 as => iRng3 as.ta
  | .zip as => iZip Γ.K as.ta
  | .enum as => iEnum Γ.K as.ta
end
end
/-- the class and the fields of an instance -/
def insOf (μ : List Cell) : D → Option (Nat × List Str × List D)
  | .obj c ns ds => some (c, ns, ds)
  | .loc n => match μ[n]? with
    | some (.ins c ns ds) => some (c, ns, ds)
    | _ => none
  | _ => none
def look (f : Str) : List Str → List D → Option D
  | n :: ns, d :: ds => if f == n then some d else look f ns ds
  | _, _ => none
def lcTurn (g : G) (ρ : List (Option D)) (t : List (Option D) → List Cell → Rs Bool) (e : List (Option D) → List Cell → Rs D) (d : D) (μ : List Cell) : Rs (Option D) := match g.put d ρ with
  | some ρ1 => (t ρ1 μ).bind fun b μ1 => if b then (e ρ1 μ1).bind fun x μ2 => .ok (some x) μ2 else .ok none μ1
  | none => .no
def rng1 (ds : List D) : Option Sr := match ds with
  | [.int j] => if -(2 ^ 62) ≤ j ∧ j < 2 ^ 62 then some (.one (.fix (rangeD 0 j.toNat))) else none
  | _ => none
def rng2 (ds : List D) : Option Sr := match ds with
  | [.int i, .int j] => if -(2 ^ 62) ≤ i ∧ i < 2 ^ 62 ∧ -(2 ^ 62) ≤ j ∧ j < 2 ^ 62 then some (.one (.fix (rangeD i (j - i).toNat))) else none
  | _ => none
def rng3 (ds : List D) : Option Sr := match ds with
  | [.int i, .int j, .int c] => if c ≠ 0 ∧ c.natAbs < 1073741824 ∧ Builtin.Range.small i j c = true ∧ 0 ≤ Builtin.Range.rangeSize i j c then some (.one (.fix (rangeC i c (Builtin.Range.rangeSize i j c).toNat))) else none
  | _ => none
def zipD (μ : List Cell) (ds : List D) : Option Sr := match ds with
  | [d, e] => match Sq.ofD μ d, Sq.ofD μ e with
    | some p, some q => some (.zip p q)
    | _, _ => none
  | _ => none
def enumD (μ : List Cell) (ds : List D) : Option Sr := match ds with
  | [d] => (Sq.ofD μ d).map .enum
  | _ => none
/-- a call upon the store -/
def csEv (x : Bool) (r : Rs D) : Rs O := match r with
  | .ok d μ => .ok (.dat d) μ
  | .er c μ => if x then .er c μ else .no
  | .no => .no
section
variable (pm : Pm)
mutual
def X.ev : X → List (Option D) → List Cell → Rs O
  | .v i, ρ, μ => match ρ[i]? with
    | some (some d) => .ok (.dat d) μ
    | _ => .no
  | .k d, _, μ => if flatD d then .ok (.dat d) μ else .no
  | .op o a b, ρ, μ => (a.ev ρ μ).fz.bind fun d μ1 => (b.ev ρ μ1).fz.bind fun e μ2 => Rs.opt (opEv o μ2 d e) μ2
  | .neg a, ρ, μ => (a.ev ρ μ).fz.bind fun d μ1 => match d with
    | .int i => .ok (.dat (.int (-i))) μ1
    | _ => .no
  | .not a, ρ, μ => (a.ev ρ μ).fz.bind fun d μ1 => match d with
    | .bl b => .ok (.dat (.bl (!b))) μ1
    | _ => .no
  | .and a b, ρ, μ => (a.ev ρ μ).fz.bind fun d μ1 => match d with
    | .bl c => if c then b.ev ρ μ1 else .ok (.dat (.bl false)) μ1
    | _ => .no
  | .or a b, ρ, μ => (a.ev ρ μ).fz.bind fun d μ1 => match d with
    | .bl c => if c then .ok (.dat (.bl true)) μ1 else b.ev ρ μ1
    | _ => .no
  | .ite t a b, ρ, μ => (t.ev ρ μ).bind fun c μ1 => if c then a.ev ρ μ1 else b.ev ρ μ1
  | .chain o p a b c, ρ, μ => (a.ev ρ μ).fz.bind fun d μ1 => (b.ev ρ μ1).fz.bind fun e μ2 => (Rs.opt (opEv o μ2 d e) μ2).bind fun z μ3 => match z with
    | .dat (.bl k) => if k then (c.ev ρ μ3).fz.bind fun f μ4 => Rs.opt (opEv p μ4 e f) μ4 else .ok (.dat (.bl false)) μ3
    | _ => .no
  | .tup as, ρ, μ => (as.ev ρ μ).bind fun ds μ1 => if ds.length ≤ 100000 then .ok (.dat (.tup ds)) μ1 else .no
  | .lst as, ρ, μ => (as.ev ρ μ).bind fun ds μ1 => if ds.length ≤ 100000 then .ok (.own ds) μ1 else .no
  | .ix a b, ρ, μ => (a.ev ρ μ).fz.bind fun d μ1 => (b.ev ρ μ1).fz.bind fun e μ2 => match e with
    | .int i => Rs.opt (((seqA μ2 d).bind fun ds => atI ds i).map .dat) μ2
    | _ => .no
  | .sl a lo hi, ρ, μ => (a.ev ρ μ).fz.bind fun d μ1 => (lo.ev ρ μ1).bind fun l μ2 => (hi.ev ρ μ2).bind fun h μ3 => Rs.opt ((seqL μ3 d).map fun ds => .own (cutD ds l h)) μ3
  | .rev a, ρ, μ => (a.ev ρ μ).fz.bind fun d μ1 => Rs.opt ((seqL μ1 d).map fun ds => .own ds.reverse) μ1
  | .lc w g t e vs, ρ, μ => (w.ev ρ μ).bind fun sr μ1 => (lcGo (lcTurn g (wipeR ρ vs) (fun ρ1 μ => t.ev ρ1 μ) (fun ρ1 μ => (e.ev ρ1 μ).fz)) sr μ1).bind fun ds μ2 => if ds.length ≤ 100000 ∧ g.vars.all (vs.contains ·) = true then .ok (.own ds) μ2 else .no
  | .cb b as, ρ, μ => (as.ev ρ μ).bind fun ds μ1 => Rs.opt (biEv b μ1 ds) μ1
  | .isi a t, ρ, μ => (a.ev ρ μ).fz.bind fun d μ1 => Rs.opt ((tyIs t μ1 d).map fun b => .dat (.bl b)) μ1
  | .isC a c, ρ, μ => (a.ev ρ μ).fz.bind fun d μ1 => Rs.opt (((insOf μ1 d).bind fun i => pm.sub i.1 c).map fun b => .dat (.bl b)) μ1
  | .cp x f as, ρ, μ => (as.ev ρ μ).bind fun ds μ1 => cpEv x (pm.fs f) μ1 ds
  | .cs x f as, ρ, μ => (as.ev ρ μ).bind fun ds μ1 => csEv x (pm.gs f ds μ1)
  | .mp x c m f a as, ρ, μ => (a.ev ρ μ).fz.bind fun d μ1 => match insOf μ1 d with
    | some (c', ns, _) => if c' = c ∧ ns.contains m = false then (as.ev ρ μ1).bind fun ds μ2 => cpEv x (pm.fs f) μ2 (d :: ds) else .no
    | none => .no
  | .ms x c m f a as, ρ, μ => (a.ev ρ μ).fz.bind fun d μ1 => match insOf μ1 d with
    | some (c', ns, _) => if c' = c ∧ ns.contains m = false then (as.ev ρ μ1).bind fun ds μ2 => csEv x (pm.gs f (d :: ds) μ2) else .no
    | none => .no
  | .mk x c f as, ρ, μ => (as.ev ρ μ).bind fun ds μ1 => match pm.gs f (.loc μ1.length :: ds) (μ1 ++ [.ins c [] []]) with
    | .ok .non μ2 => .ok (.dat (.loc μ1.length)) μ2
    | .er c μ2 => if x then .er c μ2 else .no
    | _ => .no
  | .fld a f, ρ, μ => (a.ev ρ μ).fz.bind fun d μ1 => match insOf μ1 d with
    | some (c, ns, ds) => if pm.fl c f then Rs.opt ((look f ns ds).map .dat) μ1 else .no
    | none => .no
  | .bm m o as, ρ, μ => (o.ev ρ μ).fz.bind fun d μ1 => if (seqM μ1 d).isSome then (as.ev ρ μ1).bind fun ds μ2 => match meEv m μ2 d ds with
    | some (r, μ3) => .ok (.dat r) μ3
    | none => .no else .no
  | .bm0 m o, ρ, μ => (o.ev ρ μ).fz.bind fun d μ1 => match meEv m μ1 d [] with
    | some (r, μ3) => .ok (.dat r) μ3
    | none => .no
  | .cell a, ρ, μ => (a.ev ρ μ).cell
  | .give i, ρ, μ => match ρ[i]? with
    | some (some d) => match cellL μ d with
      | some (n, ds) => .ok (.dat (.lst ds)) (μ.set n .gone)
      | none => .no
    | _ => .no
def Xs.ev : Xs → List (Option D) → List Cell → Rs (List D)
  | .nil, _, μ => .ok [] μ
  | .cons a as, ρ, μ => (a.ev ρ μ).fz.bind fun d μ1 => (as.ev ρ μ1).bind fun ds μ2 => .ok (d :: ds) μ2
def Xo.ev : Xo → List (Option D) → List Cell → Rs (Option Int)
  | .none, _, μ => .ok none μ
  | .some a, ρ, μ => (a.ev ρ μ).fz.bind fun d μ1 => match d with
    | .int i => .ok (some i) μ1
    | _ => .no
def T.ev : T → List (Option D) → List Cell → Rs Bool
  | .yes, _, μ => .ok true μ
  | .tst a, ρ, μ => (a.ev ρ μ).fz.bind fun d μ1 => match d with
    | .bl b => .ok b μ1
    | _ => .no
  | .b a, ρ, μ => (a.ev ρ μ).fz.bind fun d μ1 => match d with
    | .bl b => .ok b μ1
    | _ => .no
  | .and s t, ρ, μ => (s.ev ρ μ).bind fun b μ1 => if b then t.ev ρ μ1 else .ok false μ1
  | .or s t, ρ, μ => (s.ev ρ μ).bind fun b μ1 => if b then .ok true μ1 else t.ev ρ μ1
  | .not t, ρ, μ => (t.ev ρ μ).bind fun b μ1 => .ok (!b) μ1
def W.ev : W → List (Option D) → List Cell → Rs Sr
  | .list a, ρ, μ => (a.ev ρ μ).fz.bind fun d μ1 => Rs.opt ((Sq.ofD μ1 d).map .one) μ1
  | .tup a, ρ, μ => (a.ev ρ μ).fz.bind fun d μ1 => Rs.opt ((seqT d).map fun ds => .one (.fix ds)) μ1
  | .rng1 as, ρ, μ => (as.ev ρ μ).bind fun ds μ1 => Rs.opt (EM.rng1 ds) μ1
  | .rng2 as, ρ, μ => (as.ev ρ μ).bind fun ds μ1 => Rs.opt (EM.rng2 ds) μ1
  | .rng3 as, ρ, μ => (as.ev ρ μ).bind fun ds μ1 => Rs.opt (EM.rng3 ds) μ1
  | .zip as, ρ, μ => (as.ev ρ μ).bind fun ds μ1 => Rs.opt (zipD μ1 ds) μ1
  | .enum as, ρ, μ => (as.ev ρ μ).bind fun ds μ1 => Rs.opt (enumD μ1 ds) μ1
end
end
end EM

/-! expressions: what is evaluated is what happens -/
namespace EM
open PySem PySem.Spec PyProof.Rows L2
open Evl (Ex)
section
variable {γ γ' : Type} {Γ : Gm} {E : XK} {R : Hp → Hp → Hp → List Addr → γ → γ' → Prop} {B S0 S H : Hp} {ad : List Addr} {μ : List Cell} {ρ : List (Option D)} {t : (γ → Hp → Prop) → Prop}
theorem At.of_ok {x : γ'} {μ' : List Cell} (h : ∀ Q : γ → Hp → Prop, (∀ y S' H' ad', Ex S S' → Sub ad ad' → Good Γ B S0 S' H' ad' μ' → R B S' H' ad' y x → Q y H') → t Q) : At Γ E R B S0 S ad t (.ok x μ') := fun _ Q q1 _ =>
  h Q fun y S' H' ad' e z G r => q1 x μ' y S' H' ad' rfl e z G r
theorem At.of_opt {o : Option γ'} {μ' : List Cell} (h : ∀ a, o = some a → At Γ E R B S0 S ad t (.ok a μ')) : At Γ E R B S0 S ad t (Rs.opt o μ') := by
  cases o with
  | none => exact At.no
  | some a => exact h a rfl
theorem At.of_if {c : Prop} [Decidable c] {r s : Rs γ'} (h1 : c → At Γ E R B S0 S ad t r) (h2 : ¬ c → At Γ E R B S0 S ad t s) : At Γ E R B S0 S ad t (if c then r else s) := by
  by_cases h : c
  · rw [if_pos h]; exact h1 h
  · rw [if_neg h]; exact h2 h
end
abbrev RG (Γ : Gm) : Hp → Hp → Hp → List Addr → It → Sr → Prop := fun _ S _ ad J sr => Goes Γ S ad J sr
section
variable {Γ : Gm} {pm : Pm} {E : XK} {B S0 S H : Hp} {ad : List Addr} {μ : List Cell} {ρ : List (Option D)}
theorem insOf_ok {d : D} {v : V} {c : Nat} {ns : List Str} {ds : List D} (h : insOf μ d = some (c, ns, ds)) (G : Good Γ B S0 S H ad μ) (hr : Rp Γ S ad v d) : ∃ a dx fs, v = .ref a ∧ H a = some (.ins (Γ.C c) dx fs) ∧ fs.map (·.1) = ns ∧ RpAll Γ S ad (fs.map (·.2)) ds := by
  cases hr with
  | obj h1 h2 h3 => cases h; exact ⟨_, _, _, rfl, G.s _ _ h1, h2, h3⟩
  | loc hn =>
    rename_i n a
    simp only [insOf] at h
    cases hc : μ[n]? with
    | none => rw [hc] at h; cases h
    | some cc =>
      rw [hc] at h
      cases cc with
      | ins c' ns' ds' =>
        cases h
        obtain ⟨_, _, dx, fs, h3, h4, h5⟩ := G.cell _ a _ hn hc
        exact ⟨a, dx, fs, rfl, h3, h4, h5⟩
      | _ => cases h
  | _ => cases h
theorem look_ok {f : Str} : ∀ {fs : List (Str × V)} {ns : List Str} {ds : List D} {d : D}, fs.map (·.1) = ns → RpAll Γ S ad (fs.map (·.2)) ds → look f ns ds = some d → ∃ v, fs.lookup f = some v ∧ Rp Γ S ad v d
  | [], _, _, _, h1, h2, h => by
    subst h1
    simp [look] at h
  | (n, v) :: fs, _, _, d, h1, h2, h => by
    subst h1
    cases h2 with
    | cons h3 h4 =>
      simp only [List.map_cons, look] at h
      rw [List.lookup_cons]
      split at h
      · rename_i he
        cases h
        simp only [he]
        exact ⟨v, rfl, h3⟩
      · rename_i he
        have he : (f == n) = false := by simpa using he
        simp only [he]
        exact look_ok rfl h4 h
theorem lookup_no {f : Str} : ∀ {fs : List (Str × V)}, (fs.map (·.1)).contains f = false → fs.lookup f = none
  | [], _ => rfl
  | (n, v) :: fs, h => by
    rw [List.map_cons, List.contains_cons, Bool.or_eq_false_iff] at h
    rw [List.lookup_cons, h.1]
    exact lookup_no h.2
theorem cs_ok {ds : List D} {vs : List V} {x : Bool} {g : FnS} (G : Good Γ B S0 S H ad μ) (hr : RpAll Γ S ad vs ds) : At Γ E (RO Γ) B S0 S ad (fun Q => spS Γ g (vs ++ []) H Q (if x then E else E0)) (csEv x (g ds μ)) := by
  intro hn Q q1 q2
  rw [List.append_nil]
  refine ⟨B, S0, S, ad, μ, ds, G, hr, ?_⟩
  cases hg : g ds μ with
  | ok d μ' =>
    rw [hg] at q1
    exact fun v S' H' ad' e z G' rv => q1 _ _ v S' H' ad' rfl e z G' rv
  | er c μ' =>
    rw [hg] at hn q2
    cases x with
    | false => exact absurd rfl hn
    | true => exact fun S' H' ad' e z G' => q2 c μ' S' H' ad' rfl e z G'
  | no =>
    rw [hg] at hn
    exact absurd rfl hn
theorem Rs.bind_ok {α β : Type} {r : Rs α} {f : α → List Cell → Rs β} {b : β} {μ' : List Cell} (h : r.bind f = .ok b μ') : ∃ a μ1, r = .ok a μ1 ∧ f a μ1 = .ok b μ' := by
  cases r with
  | ok a μ1 => exact ⟨a, μ1, rfl, h⟩
  | er c μ => cases h
  | no => cases h
theorem chain_k (r : O) : (∃ k, r = .dat (.bl k)) ∨ ∀ k, r ≠ .dat (.bl k) := by
  cases r with
  | own ds => exact .inr fun k h => by cases h
  | dat d =>
    cases d with
    | bl k => exact .inl ⟨k, rfl⟩
    | _ => exact .inr fun k h => by cases h
mutual
theorem X.ok (ok : PmOk Γ pm) : ∀ (x : X) (ρ : List (Option D)) (μ : List Cell), Jg Γ E (RO Γ) (x.te Γ pm E) ρ μ (x.ev pm ρ μ)
  | .v i, ρ, μ => by
    rw [X.te, X.ev]
    intro B S0 S H ad σ G Sl
    split
    · rename_i d hd
      exact At.of_ok fun Q q => by
        obtain ⟨v, h1, h2⟩ := Sl.2 i d hd
        exact ⟨v, h1, q v S H ad (Ex.refl _) (Sub.refl _) G h2⟩
    · exact At.no
  | .k d, ρ, μ => by
    rw [X.te, X.ev]
    intro B S0 S H ad σ G Sl
    exact At.of_if (fun h => At.of_ok fun Q q => q _ S H ad (Ex.refl _) (Sub.refl _) G (kV_ok h)) (fun _ => At.no)
  | .op o a b, ρ, μ => by
    rw [X.te, X.ev]
    refine Jg.bind (k := fun x σ H (Q : VK) => b.te Γ pm E σ H fun y H2 => o.r Γ.K x y H2 Q) (X.ok ok a ρ μ).fz fun d μ1 _h B S0 S H ad σ x G Sl hx => ?_
    refine At.bind ((X.ok ok b ρ μ1).fz B S0 S H ad σ G Sl) fun e μ2 _h2 S' H' ad' y ex sb G' hy => ?_
    exact At.of_opt fun r hr => At.of_ok fun Q q => op_ok hr B S0 S' H' ad' x y G' (rp_ext ex sb _ _ hx) hy Q fun v S2 H2 e2 G2 r2 => q v S2 H2 ad' e2 (Sub.refl _) G2 r2
  | .neg a, ρ, μ => by
    rw [X.te, X.ev]
    refine Jg.bind (k := fun x σ H Q => rU (fun i => .int (-i)) x H Q) (X.ok ok a ρ μ).fz fun d μ1 _h B S0 S H ad σ x G Sl hx => ?_
    split
    · exact At.of_ok fun Q q => ⟨_, dp_int hx, q _ S H ad (Ex.refl _) (Sub.refl _) G (.int _)⟩
    · exact At.no
  | .not a, ρ, μ => by
    rw [X.te, X.ev]
    refine Jg.bind (k := fun x σ H (Q : VK) => ∃ c, x = .bl c ∧ Q (.bl (!c)) H) (X.ok ok a ρ μ).fz fun d μ1 _h B S0 S H ad σ x G Sl hx => ?_
    split
    · exact At.of_ok fun Q q => ⟨_, dp_bool hx, q _ S H ad (Ex.refl _) (Sub.refl _) G (.bl _)⟩
    · exact At.no
  | .and a b, ρ, μ => by
    rw [X.te, X.ev]
    refine Jg.bind (k := fun x σ H (Q : VK) => ∃ c, x = .bl c ∧ if c = true then b.te Γ pm E σ H Q else Q (.bl false) H) (X.ok ok a ρ μ).fz fun d μ1 _h B S0 S H ad σ x G Sl hx => ?_
    split
    · rename_i c
      cases c with
      | true =>
        intro hn Q q1 q2
        exact ⟨true, dp_bool hx, iteT (X.ok ok b ρ μ1 B S0 S H ad σ G Sl hn Q q1 q2)⟩
      | false =>
        intro hn Q q1 q2
        exact ⟨false, dp_bool hx, iteF (q1 _ _ _ S H ad rfl (Ex.refl _) (Sub.refl _) G (.bl _))⟩
    · exact At.no
  | .or a b, ρ, μ => by
    rw [X.te, X.ev]
    refine Jg.bind (k := fun x σ H (Q : VK) => ∃ c, x = .bl c ∧ if c = true then Q (.bl true) H else b.te Γ pm E σ H Q) (X.ok ok a ρ μ).fz fun d μ1 _h B S0 S H ad σ x G Sl hx => ?_
    split
    · rename_i c
      cases c with
      | false =>
        intro hn Q q1 q2
        exact ⟨false, dp_bool hx, iteF (X.ok ok b ρ μ1 B S0 S H ad σ G Sl hn Q q1 q2)⟩
      | true =>
        intro hn Q q1 q2
        exact ⟨true, dp_bool hx, iteT (q1 _ _ _ S H ad rfl (Ex.refl _) (Sub.refl _) G (.bl _))⟩
    · exact At.no
  | .ite t a b, ρ, μ => by
    rw [X.te, X.ev]
    refine Jg.bind (k := fun c σ H Q => if c = true then a.te Γ pm E σ H Q else b.te Γ pm E σ H Q) (T.ok ok t ρ μ) fun c μ1 _h B S0 S H ad σ x G Sl hx => ?_
    cases hx
    cases c with
    | true =>
      intro hn Q q1 q2
      exact iteT (X.ok ok a ρ μ1 B S0 S H ad σ G Sl hn Q q1 q2)
    | false =>
      intro hn Q q1 q2
      exact iteF (X.ok ok b ρ μ1 B S0 S H ad σ G Sl hn Q q1 q2)
  | .chain o p a b c, ρ, μ => by
    rw [X.te, X.ev]
    refine Jg.bind (k := fun x σ H (Q : VK) => b.te Γ pm E σ H fun y H2 => o.r Γ.K x y H2 fun z H3 => ∃ k, z = .bl k ∧ (if k = true then c.te Γ pm E σ H3 fun w' H4 => p.r Γ.K y w' H4 Q else Q (.bl false) H3)) (X.ok ok a ρ μ).fz fun d μ1 _h B S0 S H ad σ x G Sl hx => ?_
    refine At.bind (k := fun y H2 (Q : VK) => o.r Γ.K x y H2 fun z H3 => ∃ k, z = .bl k ∧ (if k = true then c.te Γ pm E σ H3 fun w' H4 => p.r Γ.K y w' H4 Q else Q (.bl false) H3)) ((X.ok ok b ρ μ1).fz B S0 S H ad σ G Sl) fun e μ2 _h2 S' H' ad' y ex sb G' hy => ?_
    have hx' := rp_ext ex sb _ _ hx
    cases hr : opEv o μ2 d e with
    | none => exact At.no
    | some r =>
      rcases chain_k r with ⟨k, rfl⟩ | hk
      · intro hn Q q1 q2
        refine op_ok hr B S0 S' H' ad' x y G' hx' hy _ fun v S2 H2 e2 G2 r2 => ⟨k, dp_bool r2, ?_⟩
        have Sl2 := (Sl.ext ex sb).ext e2 (Sub.refl _)
        cases k with
        | true =>
          refine iteT ?_
          have := At.bind (R' := RO Γ) (k := fun w' H4 Q => p.r Γ.K y w' H4 Q) (f := fun f μ4 => Rs.opt (opEv p μ4 e f) μ4) ((X.ok ok c ρ μ2).fz B S0 S2 H2 ad' σ G2 Sl2) fun f μ4 _ S4 H4 ad4 w ex4 sb4 G4 hw =>
            At.of_opt fun r hr => At.of_ok fun Q q => op_ok hr B S0 S4 H4 ad4 y w G4 (rp_ext ex4 sb4 _ _ (rp_ext e2 (Sub.refl _) _ _ hy)) hw Q fun v S5 H5 e5 G5 r5 => q v S5 H5 ad4 e5 (Sub.refl _) G5 r5
          exact this hn Q (fun a1 a2 a3 a4 a5 a6 a7 a8 a9 a10 a11 => q1 a1 a2 a3 a4 a5 a6 a7 (e2.trans a8) a9 a10 a11) (fun a1 a2 a3 a4 a5 a6 a7 a8 a9 => q2 a1 a2 a3 a4 a5 a6 (e2.trans a7) a8 a9)
        | false => exact iteF (q1 _ _ _ S2 H2 ad' rfl e2 (Sub.refl _) G2 (.bl _))
      · clear hr
        cases r with
        | own ds => exact At.no
        | dat d' =>
          cases d' with
          | bl k => exact absurd rfl (hk k)
          | _ => exact At.no
  | .tup as, ρ, μ => by
    rw [X.te, X.ev]
    refine Jg.bind (k := fun xs σ H1 (Q : VK) => xs.length ≤ sizeLine ∧ ∀ p, H1 p = none → Q (.ref p) (upd H1 p (.tup xs))) (Xs.ok ok as ρ μ) fun ds μ1 _h B S0 S H ad σ xs G Sl hx => ?_
    refine At.of_if (fun hl => At.of_ok fun Q q => ⟨by rw [da_length hx]; exact Evl.sz_of hl, fun p hp => ?_⟩) (fun _ => At.no)
    have sp : S p = none := Evl.fresh_back G.s hp
    exact q _ _ _ ad (Ex.new sp) (Sub.refl _) (G.fresh (o := .tup xs) hp) (.tup upd_same (rpAll_ext (Ex.new sp) (Sub.refl _) _ _ hx))
  | .lst as, ρ, μ => by
    rw [X.te, X.ev]
    refine Jg.bind (k := fun xs σ H1 (Q : VK) => xs.length ≤ sizeLine ∧ ∀ p, H1 p = none → Q (.ref p) (upd H1 p (.lst xs))) (Xs.ok ok as ρ μ) fun ds μ1 _h B S0 S H ad σ xs G Sl hx => ?_
    refine At.of_if (fun hl => At.of_ok fun Q q => ⟨by rw [da_length hx]; exact Evl.sz_of hl, fun p hp => ?_⟩) (fun _ => At.no)
    obtain ⟨G2, r2⟩ := own_new G hp hx
    exact q _ S _ ad (Ex.refl _) (Sub.refl _) G2 r2
  | .ix a b, ρ, μ => by
    rw [X.te, X.ev]
    refine Jg.bind (k := fun x σ H Q => b.te Γ pm E σ H fun y H2 => rIx Γ.K x y H2 Q) (X.ok ok a ρ μ).fz fun d μ1 _h B S0 S H ad σ x G Sl hx => ?_
    refine At.bind (k := fun y H2 Q => rIx Γ.K x y H2 Q) ((X.ok ok b ρ μ1).fz B S0 S H ad σ G Sl) fun e μ2 _h2 S' H' ad' y ex sb G' hy => ?_
    split
    · rename_i i
      refine At.of_opt fun r hr => At.of_ok fun Q q => ?_
      rw [Option.map_eq_some_iff] at hr
      obtain ⟨z, hr, rfl⟩ := hr
      rw [Option.bind_eq_some_iff] at hr
      obtain ⟨ds, h1, h2⟩ := hr
      obtain ⟨p, vs, rfl, h3, h4⟩ := seqA_ok G' (rp_ext ex sb _ _ hx) h1
      obtain ⟨w, h5, h6⟩ := atI_dp h4 h2
      rcases h3 with h3 | ⟨h3, _⟩
      · exact .inl ⟨p, vs, i, w, rfl, dp_int hy, h3, h5, q _ S' H' ad' (Ex.refl _) (Sub.refl _) G' h6⟩
      · exact .inr (.inl ⟨p, vs, i, w, rfl, dp_int hy, h3, h5, q _ S' H' ad' (Ex.refl _) (Sub.refl _) G' h6⟩)
    · exact At.no
  | .sl a lo hi, ρ, μ => by
    rw [X.te, X.ev]
    refine Jg.bind (k := fun x σ H Q => lo.to Γ pm E σ H fun l H2 => hi.to Γ pm E σ H2 fun u H3 => rSlL Γ.K x l u H3 Q) (X.ok ok a ρ μ).fz fun d μ1 _h B S0 S H ad σ x G Sl hx => ?_
    refine At.bind (k := fun l H2 Q => hi.to Γ pm E σ H2 fun u H3 => rSlL Γ.K x l u H3 Q) (Xo.ok ok lo ρ μ1 B S0 S H ad σ G Sl) fun l μ2 _ S' H' ad' l' ex sb G' hl => ?_
    cases hl
    refine At.bind (k := fun u H3 Q => rSlL Γ.K x l u H3 Q) (Xo.ok ok hi ρ μ2 B S0 S' H' ad' σ G' (Sl.ext ex sb)) fun u μ3 _ S2 H2 ad2 u' ex2 sb2 G2 hu => ?_
    cases hu
    refine At.of_opt fun r hr => At.of_ok fun Q q => ?_
    rw [Option.map_eq_some_iff] at hr
    obtain ⟨ds, h1, rfl⟩ := hr
    obtain ⟨p, vs, rfl, h3, h4⟩ := seqL_ok G2 (rp_ext (ex.trans ex2) (sb.trans sb2) _ _ hx) h1
    refine ⟨p, vs, rfl, h3, fun p' hp => ?_⟩
    obtain ⟨G3, r3⟩ := own_new G2 hp (da_cut h4 l u)
    exact q _ S2 _ ad2 (Ex.refl _) (Sub.refl _) G3 r3
  | .rev a, ρ, μ => by
    rw [X.te, X.ev]
    refine Jg.bind (k := fun x σ H1 (Q : VK) => ∃ a xs, x = .ref a ∧ SqL Γ.K H1 a xs ∧ ∀ p, H1 p = none → Q (.ref p) (upd H1 p (.lst xs.reverse))) (X.ok ok a ρ μ).fz fun d μ1 _h B S0 S H ad σ x G Sl hx => ?_
    refine At.of_opt fun r hr => At.of_ok fun Q q => ?_
    rw [Option.map_eq_some_iff] at hr
    obtain ⟨ds, h1, rfl⟩ := hr
    obtain ⟨p, vs, rfl, h3, h4⟩ := seqL_ok G hx h1
    refine ⟨p, vs, rfl, h3, fun p' hp => ?_⟩
    obtain ⟨G3, r3⟩ := own_new G hp (da_rev h4)
    exact q _ S _ ad (Ex.refl _) (Sub.refl _) G3 r3
  | .lc w g t e vs, ρ, μ => by
    rw [X.te, X.ev]
    refine Jg.bind (k := fun J σ H1 (Q : VK) => ∀ D, H1 D = none → ∃ W : Nat → Nat → Hp → Prop, (∃ m, W 0 m (upd H1 D (.lst []))) ∧ ∀ i m H, W i m H →
      (J.stop i H ∧ Q (.ref D) H) ∨ (J.go i H ∧ ∃ Nx : Hp → Prop, (∀ H', Nx H' → ∃ m', m' < m ∧ W (i + 1) m' H') ∧ ∀ x H', J.yld i H x H' → g.tg Γ.K x (wipe σ vs) H' fun σ2 H2 => wipe σ2 vs = wipe σ vs ∧ t.tt Γ pm E σ2 H2 fun b H3 =>
        if b = true then e.te Γ pm E σ2 H3 fun y H4 => ∃ acc, H4 D = some (.lst acc) ∧ acc.length < sizeLine ∧ Nx (upd H4 D (.lst (acc ++ [y]))) else Nx H3)) (W.ok ok w ρ μ) fun sr μ1 _ B S0 S H ad σ J G Sl hg => ?_
    rcases lcGo_no (lcTurn g (wipeR ρ vs) (fun ρ1 μ => t.ev pm ρ1 μ) (fun ρ1 μ => (e.ev pm ρ1 μ).fz)) sr μ1 with ⟨ds, μ2, hgo⟩ | hgo
    · rw [hgo]
      show At Γ E (RO Γ) B S0 S ad _ (if ds.length ≤ 100000 ∧ g.vars.all (vs.contains ·) = true then .ok (.own ds) μ2 else .no)
      refine At.of_if (fun hc => At.of_ok fun Q q => ?_) (fun _ => At.no)
      have hv : ∀ i ∈ g.vars, i ∈ vs := fun i hi => by
        have := List.all_eq_true.mp hc.2 i hi
        simpa using this
      refine lc_ok G hg (te := e.te Γ pm E) (tt := t.tt Γ pm E) (vs := vs) (σ := σ) ?_ (lcGo_run hgo) hc.1 fun v S' H' ad' e1 z1 G1 r1 => q v S' H' ad' e1 z1 G1 r1
      intro B1 S01 S1 H1 ad1 μ1 x d o μ2 G1 e1 z1 rx htn Qy Qn qy qn
      unfold lcTurn at htn
      cases hp : g.put d (wipeR ρ vs) with
      | none => rw [hp] at htn; cases htn
      | some ρ1 =>
        rw [hp] at htn
        obtain ⟨b, μ3, h3, h4⟩ := Rs.bind_ok htn
        have h3 : T.ev pm t ρ1 μ1 = .ok b μ3 := h3
        refine put_ok G1 g d x (wipe σ vs) (wipeR ρ vs) ρ1 ((Sl.ext e1 z1).wipe vs) rx hp _ fun σ' sl ag => ⟨wipe_agree ag hv, ?_⟩
        refine T.ok ok t ρ1 μ1 B1 S01 S1 H1 ad1 σ' G1 sl (by rw [h3]; exact fun z => by cases z) _ (fun b' μ3' b'' S2 H2 ad2 eq e2 z2 G2 hb => ?_) (fun c μ' S' H' ad' eq _ _ _ => by rw [h3] at eq; cases eq)
        rw [h3] at eq
        cases eq
        cases hb
        cases b with
        | true =>
          rw [if_pos rfl] at h4 ⊢
          obtain ⟨y, μ4, h5, h6⟩ := Rs.bind_ok h4
          have h5 : (X.ev pm e ρ1 μ3).fz = .ok y μ4 := h5
          cases h6
          refine (X.ok ok e ρ1 μ3).fz B1 S01 S2 H2 ad2 σ' G2 (sl.ext e2 z2) (by rw [h5]; exact fun z => by cases z) _ (fun y' μ4' yv S4 H4 ad4 eq e4 z4 G4 ry => ?_) (fun c μ' S' H' ad' eq _ _ _ => by rw [h5] at eq; cases eq)
          rw [h5] at eq
          cases eq
          exact qy y yv S4 H4 ad4 rfl (e2.trans e4) (z2.trans z4) G4 ry
        | false =>
          rw [if_neg (by decide)] at h4 ⊢
          cases h4
          exact qn S2 H2 ad2 rfl e2 z2 G2
    · rw [hgo]
      exact At.no
  | .cb b as, ρ, μ => by
    rw [X.te, X.ev]
    refine Jg.bind (k := fun vs σ H Q => b.r Γ.K vs H Q) (Xs.ok ok as ρ μ) fun ds μ1 _h B S0 S H ad σ xs G Sl hx => ?_
    exact At.of_opt fun r hr => At.of_ok fun Q q => bi_ok hr G hx fun v S' H' e1 G1 r1 => q v S' H' ad e1 (Sub.refl _) G1 r1
  | .isi a t, ρ, μ => by
    rw [X.te, X.ev]
    refine Jg.bind (k := fun x σ H Q => rIsi Γ.K [x, .ty t.s] H Q) (X.ok ok a ρ μ).fz fun d μ1 _h B S0 S H ad σ x G Sl hx => ?_
    refine At.of_opt fun r hr => At.of_ok fun Q q => ?_
    rw [Option.map_eq_some_iff] at hr
    obtain ⟨b, h1, rfl⟩ := hr
    exact tyIs_ok G hx h1 (q _ S H ad (Ex.refl _) (Sub.refl _) G (.bl _))
  | .isC a c, ρ, μ => by
    rw [X.te, X.ev]
    refine Jg.bind (k := fun x σ H Q => rIsi Γ.K [x, .ref (Γ.C c)] H Q) (X.ok ok a ρ μ).fz fun d μ1 _h B S0 S H ad σ x G Sl hx => ?_
    refine At.of_opt fun r hr => At.of_ok fun Q q => ?_
    rw [Option.map_eq_some_iff] at hr
    obtain ⟨b, hr, rfl⟩ := hr
    rw [Option.bind_eq_some_iff] at hr
    obtain ⟨⟨c', ns, ds⟩, h1, h2⟩ := hr
    obtain ⟨p, dx, fs, rfl, h3, h4, h5⟩ := insOf_ok h1 G hx
    obtain ⟨k1, k2⟩ := ok.sub c' c b h2
    exact ⟨_, _, _, _, b, rfl, .own _, .base (k2 H p dx fs h3), k1, q _ S H ad (Ex.refl _) (Sub.refl _) G (.bl _)⟩
  | .cp x f as, ρ, μ => by
    rw [X.te, X.ev]
    refine Jg.bind (k := fun vs σ H Q => spP Γ (pm.fs f) (vs ++ []) H Q (if x then E else E0)) (Xs.ok ok as ρ μ) fun ds μ1 _h B S0 S H ad σ xs G Sl hx => ?_
    exact cp_ok G hx
  | .cs x f as, ρ, μ => by
    rw [X.te, X.ev]
    refine Jg.bind (k := fun vs σ H Q => spS Γ (pm.gs f) (vs ++ []) H Q (if x then E else E0)) (Xs.ok ok as ρ μ) fun ds μ1 _h B S0 S H ad σ xs G Sl hx => ?_
    exact cs_ok G hx
  | .mp x c m f a as, ρ, μ => by
    rw [X.te, X.ev]
    refine Jg.bind (k := fun y σ H1 (Q : VK) => ∃ a dx fs, y = .ref a ∧ H1 a = some (.ins (Γ.C c) dx fs) ∧ fs.lookup m = none ∧ as.ta Γ pm E σ H1 fun vs H2 => spP Γ (pm.fs f) (y :: (vs ++ [])) H2 Q (if x then E else E0)) (X.ok ok a ρ μ).fz fun d μ1 _h B S0 S H ad σ y G Sl hy => ?_
    cases hi : insOf μ1 d with
    | none => exact At.no
    | some i =>
      obtain ⟨c', ns, ds⟩ := i
      refine At.of_if (fun hc => ?_) (fun _ => At.no)
      obtain ⟨rfl, hm⟩ := hc
      obtain ⟨p, dx, fs, rfl, h3, h4, h5⟩ := insOf_ok hi G hy
      have := At.bind (R' := RO Γ) (k := fun vs H2 Q => spP Γ (pm.fs f) (.ref p :: vs ++ []) H2 Q (if x then E else E0)) (f := fun ds μ2 => cpEv x (pm.fs f) μ2 (d :: ds)) (Xs.ok ok as ρ μ1 B S0 S H ad σ G Sl) fun ds μ2 _ S' H' ad' ws ex sb G' hw => cp_ok G' (.cons (rp_ext ex sb _ _ hy) hw)
      intro hn Q q1 q2
      exact ⟨p, dx, fs, rfl, h3, lookup_no (by rw [h4]; exact hm), this hn Q q1 q2⟩
  | .ms x c m f a as, ρ, μ => by
    rw [X.te, X.ev]
    refine Jg.bind (k := fun y σ H1 (Q : VK) => ∃ a dx fs, y = .ref a ∧ H1 a = some (.ins (Γ.C c) dx fs) ∧ fs.lookup m = none ∧ as.ta Γ pm E σ H1 fun vs H2 => spS Γ (pm.gs f) (y :: (vs ++ [])) H2 Q (if x then E else E0)) (X.ok ok a ρ μ).fz fun d μ1 _h B S0 S H ad σ y G Sl hy => ?_
    cases hi : insOf μ1 d with
    | none => exact At.no
    | some i =>
      obtain ⟨c', ns, ds⟩ := i
      refine At.of_if (fun hc => ?_) (fun _ => At.no)
      obtain ⟨rfl, hm⟩ := hc
      obtain ⟨p, dx, fs, rfl, h3, h4, h5⟩ := insOf_ok hi G hy
      have := At.bind (R' := RO Γ) (k := fun vs H2 Q => spS Γ (pm.gs f) (.ref p :: vs ++ []) H2 Q (if x then E else E0)) (f := fun ds μ2 => csEv x (pm.gs f (d :: ds) μ2)) (Xs.ok ok as ρ μ1 B S0 S H ad σ G Sl) fun ds μ2 _ S' H' ad' ws ex sb G' hw => cs_ok G' (.cons (rp_ext ex sb _ _ hy) hw)
      intro hn Q q1 q2
      exact ⟨p, dx, fs, rfl, h3, lookup_no (by rw [h4]; exact hm), this hn Q q1 q2⟩
  | .mk x c f as, ρ, μ => by
    rw [X.te, X.ev]
    refine Jg.bind (k := fun vs σ H1 (Q : VK) => ∀ y dx, H1 y = none → H1 dx = none → dx ≠ y → spS Γ (pm.gs f) (.ref y :: (vs ++ [])) (upd (upd H1 dx (.own y)) y (.ins (Γ.C c) dx [])) (fun v H2 => v = .non ∧ Q (.ref y) H2) (if x then E else E0)) (Xs.ok ok as ρ μ) fun ds μ1 _h B S0 S H ad σ ws G Sl hw => ?_
    intro hn Q q1 q2 y dx hy hdx hne
    have G1 : Good Γ B S0 S (upd H dx (.own y)) ad μ1 := G.pend hdx
    have hy1 : upd H dx (.own y) y = none := by rw [upd_ne (Ne.symm hne)]; exact hy
    have G2 : Good Γ B S0 S (upd (upd H dx (.own y)) y (.ins (Γ.C c) dx [])) ad μ1 := G1.pend hy1
    have G3 := G2.alloc (p := y) (c := .ins c [] []) (fun n a h => G1.ne hy1 h) ⟨Evl.fresh_back G.b hy, Evl.fresh_back G.s hy, dx, [], upd_same, rfl, .nil⟩
    have hl : Rp Γ S (ad ++ [y]) (.ref y) (.loc μ1.length) := .loc (by rw [← G.len, List.getElem?_append_right (Nat.le_refl _)]; simp)
    refine ⟨B, S0, S, ad ++ [y], _, .loc μ1.length :: ds, G3, .cons hl (by rw [List.append_nil]; exact rpAll_ext (Ex.refl _) (Sub.app _ _) _ _ hw), ?_⟩
    revert hn q1 q2
    cases hg : pm.gs f (.loc μ1.length :: ds) (μ1 ++ [.ins c [] []]) with
    | ok d μ2 =>
      intro hn q1 q2 v S' H' ad' e1 z1 G1 rv
      cases d with
      | non => exact ⟨dp_none rv, q1 _ _ _ S' H' ad' rfl e1 ((Sub.app _ _).trans z1) G1 (rp_ext e1 z1 _ _ hl)⟩
      | _ => exact absurd rfl hn
    | er c' μ2 =>
      intro hn q1 q2 S' H' ad' e1 z1 G1
      cases x with
      | false => exact absurd rfl hn
      | true => exact q2 c' μ2 S' H' ad' rfl e1 ((Sub.app _ _).trans z1) G1
    | no =>
      intro hn q1 q2
      exact absurd rfl hn
  | .fld a f, ρ, μ => by
    rw [X.te, X.ev]
    refine Jg.bind (k := fun x σ H1 (Q : VK) => ∃ a C dx fs v, x = .ref a ∧ H1 a = some (.ins C dx fs) ∧ Cls Γ.K C ∧ NoAttr Γ.K C f ∧ fs.lookup f = some v ∧ Q v H1) (X.ok ok a ρ μ).fz fun d μ1 _h B S0 S H ad σ x G Sl hx => ?_
    split
    · rename_i c ns ds hi
      refine At.of_if (fun hc => At.of_opt fun r hr => At.of_ok fun Q q => ?_) (fun _ => At.no)
      rw [Option.map_eq_some_iff] at hr
      obtain ⟨d', hr, rfl⟩ := hr
      obtain ⟨p, dx, fs, rfl, h3, h4, h5⟩ := insOf_ok hi G hx
      obtain ⟨v, k1, k2⟩ := look_ok h4 h5 hr
      obtain ⟨c1, c2⟩ := ok.fl c f hc
      exact ⟨p, _, dx, fs, v, rfl, h3, c1, c2, k1, q _ S H ad (Ex.refl _) (Sub.refl _) G k2⟩
    · exact At.no
  | .bm m o as, ρ, μ => by
    rw [X.te, X.ev]
    refine Jg.bind (k := fun x σ H1 Q => tyV Γ.K "list" x H1 ∧ as.ta Γ pm E σ H1 fun xs H2 => m.r Γ.K x xs H2 Q) (X.ok ok o ρ μ).fz fun d μ1 _h B S0 S H ad σ x G Sl hx => ?_
    refine At.of_if (fun hc => ?_) (fun _ => At.no)
    obtain ⟨es, he⟩ := isSome_ex hc
    obtain ⟨a, vs, rfl, k1, k2⟩ := seqM_ok G hx he
    have := At.bind (R' := RO Γ) (k := fun xs H2 Q => m.r Γ.K (.ref a) xs H2 Q) (f := fun ds μ2 => match meEv m μ2 d ds with
      | some (r, μ3) => .ok (.dat r) μ3
      | none => .no) (Xs.ok ok as ρ μ1 B S0 S H ad σ G Sl) fun ds μ2 _ S' H' ad' ws ex sb G' hw => by
        show At Γ E (RO Γ) B S0 S' ad' (fun Q => m.r Γ.K (.ref a) ws H' Q) (match meEv m μ2 d ds with
          | some (r, μ3) => .ok (.dat r) μ3
          | none => .no)
        split
        · rename_i r μ3 hm
          exact At.of_ok fun Q q => (me_ok hm G' (rp_ext ex sb _ _ hx) hw fun u H2 G2 r2 => q u S' H2 ad' (Ex.refl _) (Sub.refl _) G2 r2).2
        · exact At.no
    intro hn Q q1 q2
    exact ⟨.inl ⟨rfl, _, .inl (.inl k1)⟩, this hn Q q1 q2⟩
  | .bm0 m o, ρ, μ => by
    rw [X.te, X.ev]
    refine Jg.bind (k := fun x σ H1 Q => tyV Γ.K "list" x H1 ∧ m.r Γ.K x [] H1 Q) (X.ok ok o ρ μ).fz fun d μ1 _h B S0 S H ad σ x G Sl hx => ?_
    split
    · rename_i r μ3 hm
      exact At.of_ok fun Q q => me_ok hm G hx .nil fun u H2 G2 r2 => q u S H2 ad (Ex.refl _) (Sub.refl _) G2 r2
    · exact At.no
  | .cell a, ρ, μ => by
    rw [X.te, X.ev]
    exact (X.ok ok a ρ μ).cell
  | .give i, ρ, μ => by
    rw [X.te, X.ev]
    intro B S0 S H ad σ G Sl
    split
    · rename_i d hd
      split
      · rename_i n ds hc
        refine At.of_ok fun Q q => ?_
        obtain ⟨v, h1, h2⟩ := Sl.2 i d hd
        obtain ⟨a, vs, rfl, rfl, k1, k2, k3, k4, k5⟩ := cellL_ok hc G h2
        exact ⟨_, h1, q _ _ _ ad (Ex.new k3) (Sub.refl _) (G.give k1 k2 k3 k4) (.lst upd_same (rpAll_ext (Ex.new k3) (Sub.refl _) _ _ k5))⟩
      · exact At.no
    · exact At.no
theorem Xs.ok (ok : PmOk Γ pm) : ∀ (as : Xs) (ρ : List (Option D)) (μ : List Cell), Jg Γ E (RA Γ) (as.ta Γ pm E) ρ μ (as.ev pm ρ μ)
  | .nil, ρ, μ => by
    rw [Xs.ta, Xs.ev]
    intro B S0 S H ad σ G Sl
    exact At.of_ok fun Q q => q _ S H ad (Ex.refl _) (Sub.refl _) G .nil
  | .cons a as, ρ, μ => by
    rw [Xs.ta, Xs.ev]
    refine Jg.bind (k := fun x σ H Q => as.ta Γ pm E σ H fun xs H2 => Q (x :: xs) H2) (X.ok ok a ρ μ).fz fun d μ1 _h B S0 S H ad σ x G Sl hx => ?_
    refine At.bind (k := fun xs H2 Q => Q (x :: xs) H2) (Xs.ok ok as ρ μ1 B S0 S H ad σ G Sl) fun ds μ2 _ S' H' ad' ws ex sb G' hw => ?_
    exact At.of_ok fun Q q => q _ S' H' ad' (Ex.refl _) (Sub.refl _) G' (.cons (rp_ext ex sb _ _ hx) hw)
theorem Xo.ok (ok : PmOk Γ pm) : ∀ (a : Xo) (ρ : List (Option D)) (μ : List Cell), Jg Γ E (RE (Option Int)) (a.to Γ pm E) ρ μ (a.ev pm ρ μ)
  | .none, ρ, μ => by
    rw [Xo.to, Xo.ev]
    intro B S0 S H ad σ G Sl
    exact At.of_ok fun Q q => q _ S H ad (Ex.refl _) (Sub.refl _) G rfl
  | .some a, ρ, μ => by
    rw [Xo.to, Xo.ev]
    refine Jg.bind (k := fun x σ H1 Q => ∃ i, x = .int i ∧ Q (some i) H1) (X.ok ok a ρ μ).fz fun d μ1 _h B S0 S H ad σ x G Sl hx => ?_
    split
    · exact At.of_ok fun Q q => ⟨_, dp_int hx, q _ S H ad (Ex.refl _) (Sub.refl _) G rfl⟩
    · exact At.no
theorem T.ok (ok : PmOk Γ pm) : ∀ (t : T) (ρ : List (Option D)) (μ : List Cell), Jg Γ E (RE Bool) (t.tt Γ pm E) ρ μ (t.ev pm ρ μ)
  | .yes, ρ, μ => by
    rw [T.tt, T.ev]
    intro B S0 S H ad σ G Sl
    exact At.of_ok fun Q q => q _ S H ad (Ex.refl _) (Sub.refl _) G rfl
  | .tst a, ρ, μ => by
    rw [T.tt, T.ev]
    refine Jg.bind (k := fun x σ H1 Q => ∃ k, x = .bl k ∧ Q k H1) (X.ok ok a ρ μ).fz fun d μ1 _h B S0 S H ad σ x G Sl hx => ?_
    split
    · exact At.of_ok fun Q q => ⟨_, dp_bool hx, q _ S H ad (Ex.refl _) (Sub.refl _) G rfl⟩
    · exact At.no
  | .b a, ρ, μ => by
    rw [T.tt, T.ev]
    refine Jg.bind (k := fun x σ H1 Q => ∃ k, x = .bl k ∧ Q k H1) (X.ok ok a ρ μ).fz fun d μ1 _h B S0 S H ad σ x G Sl hx => ?_
    split
    · exact At.of_ok fun Q q => ⟨_, dp_bool hx, q _ S H ad (Ex.refl _) (Sub.refl _) G rfl⟩
    · exact At.no
  | .and s t, ρ, μ => by
    rw [T.tt, T.ev]
    refine Jg.bind (k := fun c σ H1 Q => if c = true then t.tt Γ pm E σ H1 Q else Q false H1) (T.ok ok s ρ μ) fun c μ1 _h B S0 S H ad σ x G Sl hx => ?_
    cases hx
    cases c with
    | true =>
      intro hn Q q1 q2
      exact iteT (T.ok ok t ρ μ1 B S0 S H ad σ G Sl hn Q q1 q2)
    | false =>
      intro hn Q q1 q2
      exact iteF (q1 _ _ _ S H ad rfl (Ex.refl _) (Sub.refl _) G rfl)
  | .or s t, ρ, μ => by
    rw [T.tt, T.ev]
    refine Jg.bind (k := fun c σ H1 Q => if c = true then Q true H1 else t.tt Γ pm E σ H1 Q) (T.ok ok s ρ μ) fun c μ1 _h B S0 S H ad σ x G Sl hx => ?_
    cases hx
    cases c with
    | false =>
      intro hn Q q1 q2
      exact iteF (T.ok ok t ρ μ1 B S0 S H ad σ G Sl hn Q q1 q2)
    | true =>
      intro hn Q q1 q2
      exact iteT (q1 _ _ _ S H ad rfl (Ex.refl _) (Sub.refl _) G rfl)
  | .not t, ρ, μ => by
    rw [T.tt, T.ev]
    refine Jg.bind (k := fun c σ H1 Q => Q (!c) H1) (T.ok ok t ρ μ) fun c μ1 _h B S0 S H ad σ x G Sl hx => ?_
    cases hx
    exact At.of_ok fun Q q => q _ S H ad (Ex.refl _) (Sub.refl _) G rfl
theorem W.ok (ok : PmOk Γ pm) : ∀ (w : W) (ρ : List (Option D)) (μ : List Cell), Jg Γ E (RG Γ) (w.ti Γ pm E) ρ μ (w.ev pm ρ μ)
  | .list a, ρ, μ => by
    rw [W.ti, W.ev]
    refine Jg.bind (k := fun x σ H1 R => ∃ a, x = .ref a ∧ (∃ xs, SqL Γ.K H1 a xs) ∧ R (Itl Γ.K a) H1) (X.ok ok a ρ μ).fz fun d μ1 _h B S0 S H ad σ x G Sl hx => ?_
    refine At.of_opt fun r hr => At.of_ok fun Q q => ?_
    rw [Option.map_eq_some_iff] at hr
    obtain ⟨sq, h1, rfl⟩ := hr
    obtain ⟨p, rfl, h2, h3⟩ := ofD_ok h1 G hx
    obtain ⟨ds, h4⟩ := isSome_ex h3
    obtain ⟨vs, h5, _⟩ := h2.read G h4
    exact ⟨p, rfl, ⟨vs, h5⟩, q _ S H ad (Ex.refl _) (Sub.refl _) G (goes_list h2)⟩
  | .tup a, ρ, μ => by
    rw [W.ti, W.ev]
    refine Jg.bind (k := fun x σ H1 R => ∃ a, x = .ref a ∧ (∃ xs, SqT Γ.K H1 a xs) ∧ R (Itt Γ.K a) H1) (X.ok ok a ρ μ).fz fun d μ1 _h B S0 S H ad σ x G Sl hx => ?_
    refine At.of_opt fun r hr => At.of_ok fun Q q => ?_
    rw [Option.map_eq_some_iff] at hr
    obtain ⟨ds, h1, rfl⟩ := hr
    cases hx with
    | tup h2 h3 =>
      cases h1
      exact ⟨_, rfl, ⟨_, .inl (.inl (G.s _ _ h2))⟩, q _ S H ad (Ex.refl _) (Sub.refl _) G (goes_tup h2 h3)⟩
    | _ => cases h1
  | .rng1 as, ρ, μ => by
    rw [W.ti, W.ev]
    refine Jg.bind (k := fun vs σ H1 R => ∃ j : Int, vs = [.int j] ∧ -(2 ^ 62) ≤ j ∧ j < 2 ^ 62 ∧ R (Itr 0 j.toNat) H1) (Xs.ok ok as ρ μ) fun ds μ1 _h B S0 S H ad σ ws G Sl hw => ?_
    refine At.of_opt fun r hr => At.of_ok fun Q q => ?_
    unfold EM.rng1 at hr
    split at hr
    · split at hr
      · rename_i j hj
        cases hr
        obtain ⟨v, rfl, hv⟩ := da_1 hw
        exact ⟨j, by rw [dp_int hv], hj.1, hj.2, q _ S H ad (Ex.refl _) (Sub.refl _) G goes_range⟩
      · cases hr
    · cases hr
  | .rng2 as, ρ, μ => by
    rw [W.ti, W.ev]
    refine Jg.bind (k := fun vs σ H1 R => ∃ i j : Int, vs = [.int i, .int j] ∧ (-(2 ^ 62) ≤ i ∧ i < 2 ^ 62 ∧ -(2 ^ 62) ≤ j ∧ j < 2 ^ 62) ∧ R (Itr i (j - i).toNat) H1) (Xs.ok ok as ρ μ) fun ds μ1 _h B S0 S H ad σ ws G Sl hw => ?_
    refine At.of_opt fun r hr => At.of_ok fun Q q => ?_
    unfold EM.rng2 at hr
    split at hr
    · split at hr
      · rename_i i j hj
        cases hr
        obtain ⟨v, w, rfl, hv, hw⟩ := da_2 hw
        exact ⟨i, j, by rw [dp_int hv, dp_int hw], hj, q _ S H ad (Ex.refl _) (Sub.refl _) G goes_range⟩
      · cases hr
    · cases hr
  | .rng3 as, ρ, μ => by
    rw [W.ti, W.ev]
    refine Jg.bind (k := fun vs σ H1 R => ∃ (i j c : Int) (n : Nat), vs = [.int i, .int j, .int c] ∧ RgC i j c n ∧ R (Itc i c n) H1) (Xs.ok ok as ρ μ) fun ds μ1 _h B S0 S H ad σ ws G Sl hw => ?_
    refine At.of_opt fun r hr => At.of_ok fun Q q => ?_
    unfold EM.rng3 at hr
    split at hr
    · split at hr
      · rename_i i j c hj
        cases hr
        obtain ⟨u, v, w, rfl, hu, hv, hw⟩ := da_3 hw
        obtain ⟨j1, j2, j3, j4⟩ := hj
        exact ⟨i, j, c, _, by rw [dp_int hu, dp_int hv, dp_int hw], ⟨j1, j2, j3, (Int.toNat_of_nonneg j4).symm⟩, q _ S H ad (Ex.refl _) (Sub.refl _) G goes_rangeC⟩
      · cases hr
    · cases hr
  | .zip as, ρ, μ => by
    rw [W.ti, W.ev]
    refine Jg.bind (k := fun vs σ H1 R => ∃ a b xs ys, vs = [.ref a, .ref b] ∧ SqL Γ.K H1 a xs ∧ SqL Γ.K H1 b ys ∧ R (Itz Γ.K a b) H1) (Xs.ok ok as ρ μ) fun ds μ1 _h B S0 S H ad σ ws G Sl hw => ?_
    refine At.of_opt fun r hr => At.of_ok fun Q q => ?_
    unfold zipD at hr
    split at hr
    · split at hr
      · rename_i p1 p2 h1 h2
        cases hr
        obtain ⟨v, w, rfl, hv, hw2⟩ := da_2 hw
        obtain ⟨a, rfl, a1, a2⟩ := ofD_ok h1 G hv
        obtain ⟨b, rfl, b1, b2⟩ := ofD_ok h2 G hw2
        obtain ⟨_, a3⟩ := isSome_ex a2
        obtain ⟨_, b3⟩ := isSome_ex b2
        obtain ⟨xs, a4, _⟩ := a1.read G a3
        obtain ⟨ys, b4, _⟩ := b1.read G b3
        exact ⟨a, b, xs, ys, rfl, a4, b4, q _ S H ad (Ex.refl _) (Sub.refl _) G (goes_zip a1 b1)⟩
      · cases hr
    · cases hr
  | .enum as, ρ, μ => by
    rw [W.ti, W.ev]
    refine Jg.bind (k := fun vs σ H1 R => ∃ a xs, vs = [.ref a] ∧ SqL Γ.K H1 a xs ∧ R (Ite Γ.K a) H1) (Xs.ok ok as ρ μ) fun ds μ1 _h B S0 S H ad σ ws G Sl hw => ?_
    refine At.of_opt fun r hr => At.of_ok fun Q q => ?_
    unfold enumD at hr
    split at hr
    · rw [Option.map_eq_some_iff] at hr
      obtain ⟨p1, h1, rfl⟩ := hr
      obtain ⟨v, rfl, hv⟩ := da_1 hw
      obtain ⟨a, rfl, a1, a2⟩ := ofD_ok h1 G hv
      obtain ⟨_, a3⟩ := isSome_ex a2
      obtain ⟨xs, a4, _⟩ := a1.read G a3
      exact ⟨a, xs, rfl, a4, q _ S H ad (Ex.refl _) (Sub.refl _) G (goes_enum a1)⟩
    · cases hr
end
end
end EM

/-! statements -/
namespace EM
open PySem PySem.Spec PyProof.Rows L2
open Evl (Ex)
def rGetL (K : PySem.W.Frag) : V → V → Hp → VK → Prop := fun x y H Q => ∃ p xs i v, x = .ref p ∧ y = .int i ∧ 0 ≤ i ∧ SqL K H p xs ∧ xs[i.toNat]? = some v ∧ Q v H
theorem get_list {X : Cx} : PGet X (rGetL X.K) := by
  intro pins s σ H o i ov iv Q I ro ri h
  obtain ⟨p, xs, k, z, rfl, rfl, h0, hq, he, q⟩ := h
  cases ro
  obtain ⟨t, rfl⟩ := ri
  obtain ⟨its, r, pl, hz⟩ := I.list hq
  obtain ⟨w, ew, rw'⟩ := r.get he
  have hn := line63
  have hk : k.toNat < xs.length := by
    by_cases z : k.toNat < xs.length
    · exact z
    · rw [List.getElem?_eq_none (by omega)] at he; cases he
  exact wpAny_getItem_list pl.isList h0 (by omega) (by simpa using ew) ⟨z, H, I, rw', q⟩
inductive Ou where
  | nx (ρ : List (Option D)) (μ : List Cell) | rt (o : O) (μ : List Cell) | bk (ρ : List (Option D)) (μ : List Cell) | ct (ρ : List (Option D)) (μ : List Cell) | er (c : Nat) (μ : List Cell) | no
def Rs.toOu {α : Type} (r : Rs α) (f : α → List Cell → Ou) : Ou := match r with
  | .ok a μ => f a μ
  | .er c μ => .er c μ
  | .no => .no
/-! targets of an assignment -/
mutual
inductive Tg where
  | name (i : Nat) | sub (o i : X) | tup (gs : Tgs)
inductive Tgs where
  | nil | cons (g : Tg) (gs : Tgs)
end
def Tgs.len : Tgs → Nat
  | .nil => 0
  | .cons _ gs => gs.len + 1
inductive Ip where
  | add | sub
def Ip.f : Ip → Int → Int → Int
  | .add => fun i j => i + j
  | .sub => fun i j => i - j
inductive C where
  | nx | drop (x : X) | ret (x : X) | retN | asg (g : Tg) (x : X) | par (i j : Nat) (as : Xs) | par3 (i j l : Nat) (as : Xs) | aug (i : Nat) (o : Ip) (x : X) | augS (o i : X) (p : Ip) (x : X)
  | fld (a : X) (f : Str) (x : X) | raise (c : Nat) | never | ite (t : T) (a b : C) | for_ (w : W) (g : G) (b : C) | whl (n : Nat) (t : T) (b : C) | brk | cont | seq (a b : C)
section
variable (Γ : Gm) (pm : Pm) (E : XK)
mutual
def Tg.tg : Tg → TG
  | .name i => gName i
  | .sub o i => gSub (o.te Γ pm E) (i.te Γ pm E) rSetL
  | .tup gs => gTup Γ.K gs.len gs.tgs
def Tgs.tgs : Tgs → TGs
  | .nil => gNil
  | .cons g gs => gCons g.tg gs.tgs
end
def C.ts : C → TS
  | .nx => tNext
  | .drop x => tDrop (x.te Γ pm E)
  | .ret x => tRet (x.te Γ pm E)
  | .retN => tRetN
  | .asg g x => tAsg (x.te Γ pm E) (g.tg Γ pm E)
  | .par i j as => tPar i j (as.ta Γ pm E)
  | .par3 i j l as => tPar3 i j l (as.ta Γ pm E)
  | .aug i o x => tAug i (x.te Γ pm E) (ipI o.f)
  | .augS o i p x => tAugS (o.te Γ pm E) (i.te Γ pm E) (x.te Γ pm E) (rGetL Γ.K) (ipI p.f) rSetL
  | .fld a f x => sFld Γ.K (a.te Γ pm E) (x.te Γ pm E) f
  | .raise c => fun _ _ H => E (.ref (Γ.C c)) none H
  | .never => tNever
  | .ite t a b => tIfS (t.tt Γ pm E) a.ts b.ts
  | .for_ w g b => tFor (w.ti Γ pm E) (g.tg Γ.K) b.ts
  | .whl _ t b => tWhile (t.tt Γ pm E) b.ts
  | .brk => tBreak
  | .cont => tCont
  | .seq a b => tSeq a.ts b.ts
end
/-! ### running -/
def setSub (μ : List Cell) (o i d : D) : Option (List Cell) := match cellL μ o, i with
  | some (n, ds), .int k => match ixN ds.length k with
    | some j => some (μ.set n (.lst (ds.set j d)))
    | none => none
  | _, _ => none
def getSub (μ : List Cell) (o i : D) : Option D := match seqL μ o, i with
  | some ds, .int k => if 0 ≤ k then ds[k.toNat]? else none
  | _, _ => none
def putF (f : Str) (d : D) : List Str → List D → List Str × List D
  | n :: ns, e :: ds => if n = f then (n :: ns, d :: ds) else (n :: (putF f d ns ds).1, e :: (putF f d ns ds).2)
  | _, _ => ([f], [d])
def setFld (pm : Pm) (μ : List Cell) (o : D) (f : Str) (d : D) : Option (List Cell) := match o with
  | .loc n => match μ[n]? with
    | some (.ins c ns ds) => if pm.fl c f = true ∧ ds.length < 1000 then some (μ.set n (.ins c (putF f d ns ds).1 (putF f d ns ds).2)) else none
    | _ => none
  | _ => none
section
variable (pm : Pm)
mutual
def Tg.put : Tg → D → List (Option D) → List Cell → Rs (List (Option D))
  | .name i, d, ρ, μ => .ok (ρ.set i (some d)) μ
  | .sub o i, d, ρ, μ => (o.ev pm ρ μ).fz.bind fun od μ1 => (i.ev pm ρ μ1).fz.bind fun id μ2 => match setSub μ2 od id d with
    | some μ3 => .ok ρ μ3
    | none => .no
  | .tup gs, d, ρ, μ => match seqT d with
    | some ds => if ds.length = gs.len then gs.put ds ρ μ else .no
    | none => .no
def Tgs.put : Tgs → List D → List (Option D) → List Cell → Rs (List (Option D))
  | .nil, [], ρ, μ => .ok ρ μ
  | .cons g gs, d :: ds, ρ, μ => (g.put d ρ μ).bind fun ρ1 μ1 => gs.put ds ρ1 μ1
  | _, _, _, _ => .no
end
end
section
variable (body : List (Option D) → List Cell → Ou) (put : D → List (Option D) → Option (List (Option D)))
def forL : List D → List (Option D) → List Cell → Ou
  | [], ρ, μ => .nx ρ μ
  | x :: xs, ρ, μ => match put x ρ with
    | none => .no
    | some ρ1 => match body ρ1 μ with
      | .nx ρ2 μ2 => forL xs ρ2 μ2
      | .ct ρ2 μ2 => forL xs ρ2 μ2
      | .bk ρ2 μ2 => .nx ρ2 μ2
      | .rt o μ2 => .rt o μ2
      | .er c μ2 => .er c μ2
      | .no => .no
def forC (sr : Sr) : Nat → Nat → List (Option D) → List Cell → Ou
  | 0, _, ρ, μ => if sr.ok μ then .nx ρ μ else .no
  | k + 1, i, ρ, μ => if sr.ok μ then (match sr.item μ i with
    | none => .no
    | some x => match put x ρ with
      | none => .no
      | some ρ1 => match body ρ1 μ with
        | .nx ρ2 μ2 => forC sr k (i + 1) ρ2 μ2
        | .ct ρ2 μ2 => forC sr k (i + 1) ρ2 μ2
        | .bk ρ2 μ2 => .nx ρ2 μ2
        | .rt o μ2 => .rt o μ2
        | .er c μ2 => .er c μ2
        | .no => .no) else .no
def forGo (sr : Sr) (ρ : List (Option D)) (μ : List Cell) : Ou := match sr.list with
  | some xs => forL body put xs ρ μ
  | none => forC body put sr sr.len 0 ρ μ
inductive ForRun (sr : Sr) : Nat → List (Option D) → List Cell → Ou → Prop
  | done {ρ : List (Option D)} {μ : List Cell} : sr.ok μ = true → ForRun sr sr.len ρ μ (.nx ρ μ)
  | step {i : Nat} {ρ ρ1 ρ2 : List (Option D)} {μ μ2 : List Cell} {x : D} {r : Ou} : i < sr.len → sr.ok μ = true → sr.item μ i = some x → put x ρ = some ρ1 → body ρ1 μ = .nx ρ2 μ2 ∨ body ρ1 μ = .ct ρ2 μ2 → ForRun sr (i + 1) ρ2 μ2 r → ForRun sr i ρ μ r
  | brk {i : Nat} {ρ ρ1 ρ2 : List (Option D)} {μ μ2 : List Cell} {x : D} : i < sr.len → sr.ok μ = true → sr.item μ i = some x → put x ρ = some ρ1 → body ρ1 μ = .bk ρ2 μ2 → ForRun sr i ρ μ (.nx ρ2 μ2)
  | out {i : Nat} {ρ ρ1 : List (Option D)} {μ : List Cell} {x : D} {r : Ou} : i < sr.len → sr.ok μ = true → sr.item μ i = some x → put x ρ = some ρ1 → body ρ1 μ = r → (∃ o μ2, r = .rt o μ2) ∨ (∃ c μ2, r = .er c μ2) → ForRun sr i ρ μ r
variable {body put}
theorem forL_run {sr : Sr} {xs : List D} (h : sr.list = some xs) : ∀ (k i : Nat) (ρ : List (Option D)) (μ : List Cell), i + k = xs.length → forL body put (xs.drop i) ρ μ ≠ .no → ForRun body put sr i ρ μ (forL body put (xs.drop i) ρ μ)
  | 0, i, ρ, μ, hk, hn => by
    have hi : i = xs.length := by omega
    obtain ⟨h1, h2, h3⟩ := Sr.list_ok h μ
    rw [hi, List.drop_length, forL, ← h2]
    exact .done h1
  | k + 1, i, ρ, μ, hk, hn => by
    have hi : i < xs.length := by omega
    obtain ⟨h1, h2, h3⟩ := Sr.list_ok h μ
    have hi2 : i < sr.len := by rw [h2]; exact hi
    have hx := (h3 i).trans (List.getElem?_eq_getElem hi)
    rw [List.drop_eq_getElem_cons hi, forL] at hn ⊢
    cases hp : put xs[i] ρ with
    | none => rw [hp] at hn; exact absurd rfl hn
    | some ρ1 =>
      rw [hp] at hn
      simp only at hn ⊢
      cases hb : body ρ1 μ with
      | nx ρ2 μ2 => rw [hb] at hn; exact .step hi2 h1 hx hp (.inl hb) (forL_run h k (i + 1) ρ2 μ2 (by omega) hn)
      | ct ρ2 μ2 => rw [hb] at hn; exact .step hi2 h1 hx hp (.inr hb) (forL_run h k (i + 1) ρ2 μ2 (by omega) hn)
      | bk ρ2 μ2 => exact .brk hi2 h1 hx hp hb
      | rt o μ2 => exact .out hi2 h1 hx hp hb (.inl ⟨_, _, rfl⟩)
      | er c μ2 => exact .out hi2 h1 hx hp hb (.inr ⟨_, _, rfl⟩)
      | no => rw [hb] at hn; exact absurd rfl hn
theorem forC_run {sr : Sr} : ∀ (k i : Nat) (ρ : List (Option D)) (μ : List Cell), i + k = sr.len → forC body put sr k i ρ μ ≠ .no → ForRun body put sr i ρ μ (forC body put sr k i ρ μ)
  | 0, i, ρ, μ, hk, hn => by
    have hi : i = sr.len := by omega
    rw [forC] at hn ⊢
    by_cases ho : sr.ok μ = true
    · rw [if_pos ho, hi]; exact .done ho
    · rw [if_neg ho] at hn; exact absurd rfl hn
  | k + 1, i, ρ, μ, hk, hn => by
    have hi : i < sr.len := by omega
    rw [forC] at hn ⊢
    by_cases ho : sr.ok μ = true
    · rw [if_pos ho] at hn ⊢
      cases hx : sr.item μ i with
      | none => rw [hx] at hn; exact absurd rfl hn
      | some x =>
        rw [hx] at hn
        simp only at hn ⊢
        cases hp : put x ρ with
        | none => rw [hp] at hn; exact absurd rfl hn
        | some ρ1 =>
          rw [hp] at hn
          simp only at hn ⊢
          cases hb : body ρ1 μ with
          | nx ρ2 μ2 => rw [hb] at hn; exact .step hi ho hx hp (.inl hb) (forC_run k (i + 1) ρ2 μ2 (by omega) hn)
          | ct ρ2 μ2 => rw [hb] at hn; exact .step hi ho hx hp (.inr hb) (forC_run k (i + 1) ρ2 μ2 (by omega) hn)
          | bk ρ2 μ2 => exact .brk hi ho hx hp hb
          | rt o μ2 => exact .out hi ho hx hp hb (.inl ⟨_, _, rfl⟩)
          | er c μ2 => exact .out hi ho hx hp hb (.inr ⟨_, _, rfl⟩)
          | no => rw [hb] at hn; exact absurd rfl hn
    · rw [if_neg ho] at hn; exact absurd rfl hn
theorem forGo_run {sr : Sr} {ρ : List (Option D)} {μ : List Cell} (hn : forGo body put sr ρ μ ≠ .no) : ForRun body put sr 0 ρ μ (forGo body put sr ρ μ) := by
  unfold forGo at hn ⊢
  cases hl : sr.list with
  | some xs =>
    rw [hl] at hn
    have := forL_run hl xs.length 0 ρ μ (by omega) (by rw [List.drop_zero]; exact hn)
    rw [List.drop_zero] at this
    exact this
  | none =>
    rw [hl] at hn
    exact forC_run sr.len 0 ρ μ (by omega) hn
end
/-- a while of at most so many turns -/
def whGo (test : List (Option D) → List Cell → Rs Bool) (body : List (Option D) → List Cell → Ou) : Nat → List (Option D) → List Cell → Ou
  | 0, ρ, μ => (test ρ μ).toOu fun b μ1 => if b then .no else .nx ρ μ1
  | n + 1, ρ, μ => (test ρ μ).toOu fun b μ1 => if b then (match body ρ μ1 with
      | .nx ρ2 μ2 => whGo test body n ρ2 μ2
      | .ct ρ2 μ2 => whGo test body n ρ2 μ2
      | .bk ρ2 μ2 => .nx ρ2 μ2
      | .rt o μ2 => .rt o μ2
      | .er c μ2 => .er c μ2
      | .no => .no) else .nx ρ μ1
section
variable (pm : Pm)
def C.ex : C → List (Option D) → List Cell → Ou
  | .nx, ρ, μ => .nx ρ μ
  | .drop x, ρ, μ => (x.ev pm ρ μ).toOu fun _ μ1 => .nx ρ μ1
  | .ret x, ρ, μ => (x.ev pm ρ μ).toOu fun o μ1 => .rt o μ1
  | .retN, _, μ => .rt (.dat .non) μ
  | .asg g x, ρ, μ => (x.ev pm ρ μ).fz.toOu fun d μ1 => (g.put pm d ρ μ1).toOu fun ρ1 μ2 => .nx ρ1 μ2
  | .par i j as, ρ, μ => (as.ev pm ρ μ).toOu fun ds μ1 => match ds with
    | [d, e] => .nx ((ρ.set i (some d)).set j (some e)) μ1
    | _ => .no
  | .par3 i j l as, ρ, μ => (as.ev pm ρ μ).toOu fun ds μ1 => match ds with
    | [d, e, f] => .nx (((ρ.set i (some d)).set j (some e)).set l (some f)) μ1
    | _ => .no
  | .aug i o x, ρ, μ => match ρ[i]? with
    | some (some (.int a)) => (x.ev pm ρ μ).fz.toOu fun d μ1 => match d with
      | .int b => .nx (ρ.set i (some (.int (o.f a b)))) μ1
      | _ => .no
    | _ => .no
  | .augS o i p x, ρ, μ => (o.ev pm ρ μ).fz.toOu fun od μ1 => (i.ev pm ρ μ1).fz.toOu fun id μ2 => match getSub μ2 od id with
    | some (.int a) => (x.ev pm ρ μ2).fz.toOu fun d μ3 => match d with
      | .int b => match setSub μ3 od id (.int (p.f a b)) with
        | some μ4 => .nx ρ μ4
        | none => .no
      | _ => .no
    | _ => .no
  | .fld a f x, ρ, μ => (x.ev pm ρ μ).fz.toOu fun d μ1 => (a.ev pm ρ μ1).fz.toOu fun od μ2 => match setFld pm μ2 od f d with
    | some μ3 => .nx ρ μ3
    | none => .no
  | .raise c, _, μ => .er c μ
  | .never, _, _ => .no
  | .ite t a b, ρ, μ => (t.ev pm ρ μ).toOu fun c μ1 => if c then a.ex ρ μ1 else b.ex ρ μ1
  | .for_ w g b, ρ, μ => (w.ev pm ρ μ).toOu fun sr μ1 => forGo (fun ρ μ => b.ex ρ μ) g.put sr ρ μ1
  | .whl n t b, ρ, μ => whGo (fun ρ μ => t.ev pm ρ μ) (fun ρ μ => b.ex ρ μ) n ρ μ
  | .brk, ρ, μ => .bk ρ μ
  | .cont, ρ, μ => .ct ρ μ
  | .seq a b, ρ, μ => match a.ex ρ μ with
    | .nx ρ1 μ1 => b.ex ρ1 μ1
    | r => r
end
/-! ### soundness -/
def EndsOk (Γ : Gm) (E : XK) (B S0 S : Hp) (ad : List Addr) (D : Ends) : Ou → Prop
  | .nx ρ μ => ∀ σ' S' H' ad', Ex S S' → Sub ad ad' → Good Γ B S0 S' H' ad' μ → Slots Γ S' ad' σ' ρ → D.nx σ' H'
  | .bk ρ μ => ∀ σ' S' H' ad', Ex S S' → Sub ad ad' → Good Γ B S0 S' H' ad' μ → Slots Γ S' ad' σ' ρ → D.bk σ' H'
  | .ct ρ μ => ∀ σ' S' H' ad', Ex S S' → Sub ad ad' → Good Γ B S0 S' H' ad' μ → Slots Γ S' ad' σ' ρ → D.ct σ' H'
  | .rt o μ => ∀ v S' H' ad', Ex S S' → Sub ad ad' → Good Γ B S0 S' H' ad' μ → Res Γ B S' H' ad' v o → D.rt v H'
  | .er c μ => ∀ S' H' ad', Ex S S' → Sub ad ad' → Good Γ B S0 S' H' ad' μ → E (.ref (Γ.C c)) none H'
  | .no => False
theorem EndsOk.mono {Γ : Gm} {E : XK} {B S0 S S1 : Hp} {ad ad1 : List Addr} {D : Ends} {r : Ou} (h : EndsOk Γ E B S0 S ad D r) (e : Ex S S1) (z : Sub ad ad1) : EndsOk Γ E B S0 S1 ad1 D r := by
  cases r with
  | nx ρ μ => exact fun σ' S' H' ad' e1 z1 => h σ' S' H' ad' (e.trans e1) (z.trans z1)
  | bk ρ μ => exact fun σ' S' H' ad' e1 z1 => h σ' S' H' ad' (e.trans e1) (z.trans z1)
  | ct ρ μ => exact fun σ' S' H' ad' e1 z1 => h σ' S' H' ad' (e.trans e1) (z.trans z1)
  | rt o μ => exact fun σ' S' H' ad' e1 z1 => h σ' S' H' ad' (e.trans e1) (z.trans z1)
  | er c μ => exact fun S' H' ad' e1 z1 => h S' H' ad' (e.trans e1) (z.trans z1)
  | no => exact h
def CS (Γ : Gm) (E : XK) (ts : TS) (ρ : List (Option D)) (μ : List Cell) (r : Ou) : Prop := ∀ B S0 S H ad σ, Good Γ B S0 S H ad μ → Slots Γ S ad σ ρ → ∀ D, EndsOk Γ E B S0 S ad D r → ts D σ H
section
variable {Γ : Gm} {pm : Pm} {E : XK} {B S0 S H : Hp} {ad : List Addr} {μ : List Cell} {ρ : List (Option D)}
/-- an expression, then the rest -/
theorem Jg.then {γ γ' : Type} {R : Hp → Hp → Hp → List Addr → γ → γ' → Prop} {ta : L2.St → Hp → (γ → Hp → Prop) → Prop} {r : Rs γ'} {f : γ' → List Cell → Ou} {D : Ends} {σ : L2.St} {k : γ → Hp → Prop} (h : Jg Γ E R ta ρ μ r) (G : Good Γ B S0 S H ad μ) (Sl : Slots Γ S ad σ ρ) (hk : EndsOk Γ E B S0 S ad D (r.toOu f))
    (hf : ∀ a μ1 b S' H' ad', r = .ok a μ1 → Ex S S' → Sub ad ad' → Good Γ B S0 S' H' ad' μ1 → Slots Γ S' ad' σ ρ → R B S' H' ad' b a → EndsOk Γ E B S0 S' ad' D (f a μ1) → k b H') : ta σ H k := by
  refine h B S0 S H ad σ G Sl (fun e => by rw [e] at hk; exact hk) k (fun a μ1 b S' H' ad' e ex sb G' hr => ?_) (fun c μ' S' H' ad' e ex sb G' => ?_)
  · subst e
    exact hf a μ1 b S' H' ad' rfl ex sb G' (Sl.ext ex sb) hr (EndsOk.mono hk ex sb)
  · subst e
    exact hk S' H' ad' ex sb G'
theorem At.then {γ γ' : Type} {R : Hp → Hp → Hp → List Addr → γ → γ' → Prop} {ta : (γ → Hp → Prop) → Prop} {r : Rs γ'} {f : γ' → List Cell → Ou} {D : Ends} {k : γ → Hp → Prop} (h : At Γ E R B S0 S ad ta r) (hk : EndsOk Γ E B S0 S ad D (r.toOu f))
    (hf : ∀ a μ1 b S' H' ad', r = .ok a μ1 → Ex S S' → Sub ad ad' → Good Γ B S0 S' H' ad' μ1 → R B S' H' ad' b a → EndsOk Γ E B S0 S' ad' D (f a μ1) → k b H') : ta k := by
  refine h (fun e => by rw [e] at hk; exact hk) k (fun a μ1 b S' H' ad' e ex sb G' hr => ?_) (fun c μ' S' H' ad' e ex sb G' => ?_)
  · subst e
    exact hf a μ1 b S' H' ad' rfl ex sb G' hr (EndsOk.mono hk ex sb)
  · subst e
    exact hk S' H' ad' ex sb G'
theorem setSub_ok {o i d : D} {ov iv v : V} {μ' : List Cell} {Q : Hp → Prop} (h : setSub μ o i d = some μ') (G : Good Γ B S0 S H ad μ) (ho : Rp Γ S ad ov o) (hi : Rp Γ S ad iv i) (hv : Rp Γ S ad v d) (q : ∀ H', Good Γ B S0 S H' ad μ' → Q H') : rSetL ov iv v H Q := by
  unfold setSub at h
  split at h
  · split at h
    · rename_i n ds k hc j hj
      cases h
      obtain ⟨a, vs, rfl, rfl, k1, k2, k3, k4, k5⟩ := cellL_ok ‹cellL μ o = some _› G ho
      refine ⟨a, vs, _, _, rfl, dp_int hi, k4, by rw [da_length k5]; assumption, q _ (cell_put G k1 k2 k3 (da_set _ k5 hv))⟩
    · cases h
  · cases h
theorem getSub_ok {o i d : D} {ov iv : V} {Q : VK} (h : getSub μ o i = some d) (G : Good Γ B S0 S H ad μ) (ho : Rp Γ S ad ov o) (hi : Rp Γ S ad iv i) (q : ∀ v, Rp Γ S ad v d → Q v H) : rGetL Γ.K ov iv H Q := by
  unfold getSub at h
  split at h
  · split at h
    · rename_i ds k hs hk
      obtain ⟨a, vs, rfl, h1, h2⟩ := seqL_ok G ho ‹seqL μ o = some _›
      obtain ⟨v, e1, e2⟩ := da_get h2 h
      exact ⟨a, vs, _, v, rfl, dp_int hi, ‹_›, h1, e1, q v e2⟩
    · cases h
  · cases h
theorem putF_ok {f : Str} {d : D} {v : V} (hv : Rp Γ S ad v d) : ∀ {fs : List (Str × V)} {ns : List Str} {ds : List D}, fs.map (·.1) = ns → RpAll Γ S ad (fs.map (·.2)) ds → (L2.putF f v fs).map (·.1) = (putF f d ns ds).1 ∧ RpAll Γ S ad ((L2.putF f v fs).map (·.2)) (putF f d ns ds).2
  | [], _, _, h1, h2 => by
    subst h1
    cases h2
    exact ⟨rfl, .cons hv .nil⟩
  | (n, u) :: fs, _, _, h1, h2 => by
    subst h1
    cases h2 with
    | cons h3 h4 =>
      rename_i e ds
      simp only [List.map_cons, putF, L2.putF]
      by_cases he : n = f
      · simp only [he, if_true]
        exact ⟨rfl, .cons hv h4⟩
      · obtain ⟨i1, i2⟩ := putF_ok (f := f) hv (fs := fs) rfl h4
        simp only [he, if_false]
        exact ⟨by simp [i1], .cons h3 i2⟩
mutual
theorem Tg.ok (ok : PmOk Γ pm) : ∀ (g : Tg) (d : D) (v : V) (σ : L2.St) (ρ : List (Option D)) (B S0 S H : Hp) (ad : List Addr) (μ : List Cell), Good Γ B S0 S H ad μ → Slots Γ S ad σ ρ → Rp Γ S ad v d → ∀ (Dn : Ends) (f : List (Option D) → List Cell → Ou) (Q : L2.St → Hp → Prop), EndsOk Γ E B S0 S ad Dn ((g.put pm d ρ μ).toOu f) →
      (∀ ρ' μ' σ' S' H' ad', Ex S S' → Sub ad ad' → Good Γ B S0 S' H' ad' μ' → Slots Γ S' ad' σ' ρ' → EndsOk Γ E B S0 S' ad' Dn (f ρ' μ') → Q σ' H') → g.tg Γ pm E v σ H Q
  | .name i, d, v, σ, ρ, B, S0, S, H, ad, μ, G, Sl, hv, Dn, f, Q, hk, q => by
    rw [Tg.tg]
    rw [Tg.put] at hk
    exact q _ _ _ S H ad (Ex.refl _) (Sub.refl _) G (Sl.set i hv) hk
  | .sub o i, d, v, σ, ρ, B, S0, S, H, ad, μ, G, Sl, hv, Dn, f, Q, hk, q => by
    rw [Tg.tg]
    rw [Tg.put] at hk
    have key : EndsOk Γ E B S0 S ad Dn (((o.ev pm ρ μ).fz).toOu fun od μ1 => ((i.ev pm ρ μ1).fz).toOu fun id μ2 => match setSub μ2 od id d with
        | some μ3 => f ρ μ3
        | none => .no) := by
      revert hk
      cases (o.ev pm ρ μ).fz with
      | er c μ => exact id
      | no => exact id
      | ok od μ1 =>
        show EndsOk Γ E B S0 S ad Dn ((((i.ev pm ρ μ1).fz).bind fun id μ2 => match setSub μ2 od id d with
          | some μ3 => .ok ρ μ3
          | none => .no).toOu f) → EndsOk Γ E B S0 S ad Dn (((i.ev pm ρ μ1).fz).toOu fun id μ2 => match setSub μ2 od id d with
          | some μ3 => f ρ μ3
          | none => .no)
        cases (i.ev pm ρ μ1).fz with
        | er c μ => exact id
        | no => exact id
        | ok id' μ2 =>
          show EndsOk Γ E B S0 S ad Dn ((match setSub μ2 od id' d with
            | some μ3 => .ok ρ μ3
            | none => .no : Rs (List (Option D))).toOu f) → EndsOk Γ E B S0 S ad Dn (match setSub μ2 od id' d with
            | some μ3 => f ρ μ3
            | none => .no)
          cases setSub μ2 od id' d with
          | none => exact id
          | some μ3 => exact id
    refine Jg.then (k := fun o' H1 => i.te Γ pm E σ H1 fun i' H2 => rSetL o' i' v H2 fun H3 => Q σ H3) (X.ok ok o ρ μ).fz G Sl key fun od μ1 ov S1 H1 ad1 _ e1 z1 G1 Sl1 ro hk1 => ?_
    refine Jg.then (k := fun i' H2 => rSetL ov i' v H2 fun H3 => Q σ H3) (X.ok ok i ρ μ1).fz G1 Sl1 hk1 fun id' μ2 iv S2 H2 ad2 _ e2 z2 G2 Sl2 ri hk2 => ?_
    cases hs : setSub μ2 od id' d with
    | none => rw [hs] at hk2; exact hk2.elim
    | some μ3 =>
      rw [hs] at hk2
      exact setSub_ok hs G2 (rp_ext e2 z2 _ _ ro) ri (rp_ext (e1.trans e2) (z1.trans z2) _ _ hv) fun H3 G3 => q ρ μ3 σ S2 H3 ad2 (e1.trans e2) (z1.trans z2) G3 Sl2 hk2
  | .tup gs, d, v, σ, ρ, B, S0, S, H, ad, μ, G, Sl, hv, Dn, f, Q, hk, q => by
    rw [Tg.tg]
    rw [Tg.put] at hk
    cases ht : seqT d with
    | none => rw [ht] at hk; exact hk.elim
    | some ds =>
      rw [ht] at hk
      simp only at hk
      split at hk
      · rename_i hl
        obtain ⟨a, vs, rfl, h1, h2⟩ := seqT_ok G hv ht
        exact ⟨a, vs, rfl, .inl (.inl h1), (da_length h2).trans hl, Tgs.ok ok gs ds vs σ ρ B S0 S H ad μ G Sl h2 Dn f Q hk q⟩
      · exact hk.elim
theorem Tgs.ok (ok : PmOk Γ pm) : ∀ (gs : Tgs) (ds : List D) (vs : List V) (σ : L2.St) (ρ : List (Option D)) (B S0 S H : Hp) (ad : List Addr) (μ : List Cell), Good Γ B S0 S H ad μ → Slots Γ S ad σ ρ → RpAll Γ S ad vs ds → ∀ (Dn : Ends) (f : List (Option D) → List Cell → Ou) (Q : L2.St → Hp → Prop), EndsOk Γ E B S0 S ad Dn ((gs.put pm ds ρ μ).toOu f) →
      (∀ ρ' μ' σ' S' H' ad', Ex S S' → Sub ad ad' → Good Γ B S0 S' H' ad' μ' → Slots Γ S' ad' σ' ρ' → EndsOk Γ E B S0 S' ad' Dn (f ρ' μ') → Q σ' H') → gs.tgs Γ pm E vs σ H Q
  | .nil, [], _, σ, ρ, B, S0, S, H, ad, μ, G, Sl, hv, Dn, f, Q, hk, q => by
    rw [Tgs.tgs]
    rw [Tgs.put] at hk
    cases hv
    exact ⟨rfl, q ρ μ σ S H ad (Ex.refl _) (Sub.refl _) G Sl hk⟩
  | .nil, _ :: _, _, σ, ρ, B, S0, S, H, ad, μ, G, Sl, hv, Dn, f, Q, hk, q => by
    simp only [Tgs.put] at hk
    exact hk.elim
  | .cons g gs, [], _, σ, ρ, B, S0, S, H, ad, μ, G, Sl, hv, Dn, f, Q, hk, q => by
    simp only [Tgs.put] at hk
    exact hk.elim
  | .cons g gs, d :: ds, _, σ, ρ, B, S0, S, H, ad, μ, G, Sl, hv, Dn, f, Q, hk, q => by
    rw [Tgs.tgs]
    rw [Tgs.put] at hk
    have key : EndsOk Γ E B S0 S ad Dn ((g.put pm d ρ μ).toOu fun ρ1 μ1 => (gs.put pm ds ρ1 μ1).toOu f) := by
      revert hk
      cases g.put pm d ρ μ with
      | er c μ => exact id
      | no => exact id
      | ok ρ1 μ1 => exact id
    cases hv with
    | cons h1 h2 =>
      refine ⟨_, _, rfl, Tg.ok ok g d _ σ ρ B S0 S H ad μ G Sl h1 Dn _ _ key fun ρ1 μ1 σ1 S1 H1 ad1 e1 z1 G1 Sl1 hk1 => ?_⟩
      exact Tgs.ok ok gs ds _ σ1 ρ1 B S0 S1 H1 ad1 μ1 G1 Sl1 (rpAll_ext e1 z1 _ _ h2) Dn f Q hk1 fun ρ' μ' σ' S' H' ad' e2 z2 G2 Sl2 hk2 => q ρ' μ' σ' S' H' ad' (e1.trans e2) (z1.trans z2) G2 Sl2 hk2
end
end
end EM

/-! statements: what is run is what happens; defs -/
namespace EM
open PySem PySem.Spec PyProof.Rows L2
open Evl (Ex)
section
variable {Γ : Gm} {pm : Pm} {E : XK} {B S0 S H : Hp} {ad : List Addr} {μ : List Cell} {ρ : List (Option D)}
theorem setFld_ok {o d : D} {f : Str} {ov v : V} {μ' : List Cell} {Q : Hp → Prop} (ok : PmOk Γ pm) (h : setFld pm μ o f d = some μ') (G : Good Γ B S0 S H ad μ) (ho : Rp Γ S ad ov o) (hv : Rp Γ S ad v d) (q : ∀ H', Good Γ B S0 S H' ad μ' → Q H') :
    ∃ a C dx fs, ov = .ref a ∧ H a = some (.ins C dx fs) ∧ Cls Γ.K C ∧ NoAttr Γ.K C f ∧ fs.length < 1000 ∧ Q (upd H a (.ins C dx (L2.putF f v fs))) := by
  cases ho with
  | loc hn =>
    rename_i n a
    simp only [setFld] at h
    cases hc : μ[n]? with
    | none => rw [hc] at h; cases h
    | some c =>
      rw [hc] at h
      cases c with
      | ins c ns ds =>
        simp only at h
        split at h
        · rename_i hf
          cases h
          obtain ⟨h1, h2, dx, fs, h3, h4, h5⟩ := G.cell n a _ hn hc
          obtain ⟨k1, k2⟩ := ok.fl c f hf.1
          obtain ⟨p1, p2⟩ := putF_ok (f := f) hv h4 h5
          refine ⟨a, _, dx, fs, rfl, h3, k1, k2, ?_, q _ (G.upd hn h1 h2 ⟨h1, h2, dx, _, upd_same, p1, p2⟩)⟩
          have := da_length h5
          rw [List.length_map] at this
          omega
        · cases h
      | _ => cases h
  | _ => cases h
theorem C.ok (ok : PmOk Γ pm) : ∀ (c : C) (ρ : List (Option D)) (μ : List Cell), CS Γ E (c.ts Γ pm E) ρ μ (c.ex pm ρ μ)
  | .nx, ρ, μ => by
    rw [C.ts, C.ex]
    exact fun B S0 S H ad σ G Sl Dn hk => hk σ S H ad (Ex.refl _) (Sub.refl _) G Sl
  | .drop x, ρ, μ => by
    rw [C.ts, C.ex]
    intro B S0 S H ad σ G Sl Dn hk
    exact Jg.then (k := fun _ H1 => Dn.nx σ H1) (X.ok ok x ρ μ) G Sl hk fun o μ1 v S' H' ad' _ e z G' Sl' _ hk' => hk' σ S' H' ad' (Ex.refl _) (Sub.refl _) G' Sl'
  | .ret x, ρ, μ => by
    rw [C.ts, C.ex]
    intro B S0 S H ad σ G Sl Dn hk
    exact Jg.then (k := fun v H1 => Dn.rt v H1) (X.ok ok x ρ μ) G Sl hk fun o μ1 v S' H' ad' _ e z G' Sl' hr hk' => hk' v S' H' ad' (Ex.refl _) (Sub.refl _) G' hr
  | .retN, ρ, μ => by
    rw [C.ts, C.ex]
    exact fun B S0 S H ad σ G Sl Dn hk => hk _ S H ad (Ex.refl _) (Sub.refl _) G .non
  | .asg g x, ρ, μ => by
    rw [C.ts, C.ex]
    intro B S0 S H ad σ G Sl Dn hk
    refine Jg.then (k := fun v H1 => g.tg Γ pm E v σ H1 Dn.nx) (X.ok ok x ρ μ).fz G Sl hk fun d μ1 v S' H' ad' _ e z G' Sl' hr hk' => ?_
    exact Tg.ok ok g d v σ ρ B S0 S' H' ad' μ1 G' Sl' hr Dn _ _ hk' fun ρ2 μ2 σ2 S2 H2 ad2 _ _ G2 Sl2 hk2 => hk2 σ2 S2 H2 ad2 (Ex.refl _) (Sub.refl _) G2 Sl2
  | .par i j as, ρ, μ => by
    rw [C.ts, C.ex]
    intro B S0 S H ad σ G Sl Dn hk
    refine Jg.then (k := fun vs H1 => ∃ v w, vs = [v, w] ∧ Dn.nx ((σ.set i (some v)).set j (some w)) H1) (Xs.ok ok as ρ μ) G Sl hk fun ds μ1 vs S' H' ad' _ e z G' Sl' hr hk' => ?_
    split at hk'
    · obtain ⟨v, w, rfl, h1, h2⟩ := da_2 hr
      exact ⟨v, w, rfl, hk' _ S' H' ad' (Ex.refl _) (Sub.refl _) G' ((Sl'.set i h1).set j h2)⟩
    · exact hk'.elim
  | .par3 i j l as, ρ, μ => by
    rw [C.ts, C.ex]
    intro B S0 S H ad σ G Sl Dn hk
    refine Jg.then (k := fun vs H1 => ∃ u v w, vs = [u, v, w] ∧ Dn.nx (((σ.set i (some u)).set j (some v)).set l (some w)) H1) (Xs.ok ok as ρ μ) G Sl hk fun ds μ1 vs S' H' ad' _ e z G' Sl' hr hk' => ?_
    split at hk'
    · obtain ⟨u, v, w, rfl, h1, h2, h3⟩ := da_3 hr
      exact ⟨u, v, w, rfl, hk' _ S' H' ad' (Ex.refl _) (Sub.refl _) G' (((Sl'.set i h1).set j h2).set l h3)⟩
    · exact hk'.elim
  | .aug i o x, ρ, μ => by
    rw [C.ts, C.ex]
    intro B S0 S H ad σ G Sl Dn hk
    split at hk
    · rename_i a ha
      obtain ⟨v, h1, h2⟩ := Sl.2 i _ ha
      refine ⟨v, h1, Jg.then (k := fun y H1 => ipI o.f v y H1 fun z H2 => Dn.nx (σ.set i (some z)) H2) (X.ok ok x ρ μ).fz G Sl hk fun d μ1 y S' H' ad' _ e z G' Sl' hr hk' => ?_⟩
      split at hk'
      · exact ⟨_, _, dp_int h2, dp_int hr, hk' _ S' H' ad' (Ex.refl _) (Sub.refl _) G' (Sl'.set i (.int _))⟩
      · exact hk'.elim
    · exact hk.elim
  | .augS o i p x, ρ, μ => by
    rw [C.ts, C.ex]
    intro B S0 S H ad σ G Sl Dn hk
    refine Jg.then (k := fun o' H1 => i.te Γ pm E σ H1 fun i' H2 => rGetL Γ.K o' i' H2 fun y H3 => x.te Γ pm E σ H3 fun w H4 => ipI p.f y w H4 fun z H5 => rSetL o' i' z H5 fun H6 => Dn.nx σ H6) (X.ok ok o ρ μ).fz G Sl hk fun od μ1 ov S1 H1 ad1 _ e1 z1 G1 Sl1 ro hk1 => ?_
    refine Jg.then (k := fun i' H2 => rGetL Γ.K ov i' H2 fun y H3 => x.te Γ pm E σ H3 fun w H4 => ipI p.f y w H4 fun z H5 => rSetL ov i' z H5 fun H6 => Dn.nx σ H6) (X.ok ok i ρ μ1).fz G1 Sl1 hk1 fun id' μ2 iv S2 H2 ad2 _ e2 z2 G2 Sl2 ri hk2 => ?_
    split at hk2
    · rename_i a ha
      refine getSub_ok ha G2 (rp_ext e2 z2 _ _ ro) ri fun y hy => ?_
      refine Jg.then (k := fun w H4 => ipI p.f y w H4 fun z H5 => rSetL ov iv z H5 fun H6 => Dn.nx σ H6) (X.ok ok x ρ μ2).fz G2 Sl2 hk2 fun d μ3 w S3 H3 ad3 _ e3 z3 G3 Sl3 rw' hk3 => ?_
      split at hk3
      · split at hk3
        · rename_i hs
          exact ⟨_, _, dp_int hy, dp_int rw', setSub_ok hs G3 (rp_ext (e2.trans e3) (z2.trans z3) _ _ ro) (rp_ext e3 z3 _ _ ri) (.int _) fun H4 G4 => hk3 σ S3 H4 ad3 (Ex.refl _) (Sub.refl _) G4 Sl3⟩
        · exact hk3.elim
      · exact hk3.elim
    · exact hk2.elim
  | .fld a f x, ρ, μ => by
    rw [C.ts, C.ex]
    intro B S0 S H ad σ G Sl Dn hk
    refine Jg.then (k := fun y H1 => a.te Γ pm E σ H1 fun x H2 => ∃ a C dx fs, x = .ref a ∧ H2 a = some (.ins C dx fs) ∧ Cls Γ.K C ∧ NoAttr Γ.K C f ∧ fs.length < 1000 ∧ Dn.nx σ (upd H2 a (.ins C dx (L2.putF f y fs)))) (X.ok ok x ρ μ).fz G Sl hk fun d μ1 v S1 H1 ad1 _ e1 z1 G1 Sl1 rv hk1 => ?_
    refine Jg.then (k := fun x H2 => ∃ a C dx fs, x = .ref a ∧ H2 a = some (.ins C dx fs) ∧ Cls Γ.K C ∧ NoAttr Γ.K C f ∧ fs.length < 1000 ∧ Dn.nx σ (upd H2 a (.ins C dx (L2.putF f v fs)))) (X.ok ok a ρ μ1).fz G1 Sl1 hk1 fun od μ2 ov S2 H2 ad2 _ e2 z2 G2 Sl2 ro hk2 => ?_
    split at hk2
    · rename_i hs
      exact setFld_ok ok hs G2 ro (rp_ext e2 z2 _ _ rv) (Q := fun H' => Dn.nx σ H') fun H3 G3 => hk2 σ S2 H3 ad2 (Ex.refl _) (Sub.refl _) G3 Sl2
    · exact hk2.elim
  | .raise c, ρ, μ => by
    rw [C.ts, C.ex]
    exact fun B S0 S H ad σ G Sl Dn hk => hk S H ad (Ex.refl _) (Sub.refl _) G
  | .never, ρ, μ => by
    rw [C.ts, C.ex]
    exact fun B S0 S H ad σ G Sl Dn hk => hk.elim
  | .ite t a b, ρ, μ => by
    rw [C.ts, C.ex]
    intro B S0 S H ad σ G Sl Dn hk
    refine Jg.then (k := fun c H1 => if c = true then a.ts Γ pm E Dn σ H1 else b.ts Γ pm E Dn σ H1) (T.ok ok t ρ μ) G Sl hk fun c μ1 c' S1 H1 ad1 _ e1 z1 G1 Sl1 rc hk1 => ?_
    cases rc
    cases c with
    | true => exact iteT (C.ok ok a ρ μ1 B S0 S1 H1 ad1 σ G1 Sl1 Dn hk1)
    | false => exact iteF (C.ok ok b ρ μ1 B S0 S1 H1 ad1 σ G1 Sl1 Dn hk1)
  | .for_ w g b, ρ, μ => by
    rw [C.ts, C.ex]
    intro B S0 S H ad σ G Sl Dn hk
    refine Jg.then (k := fun J H1 => ∃ W : Nat → Nat → L2.St → Hp → Prop, (∃ m, W 0 m σ H1) ∧ ∀ i m σ H, W i m σ H →
      (J.stop i H ∧ Dn.nx σ H) ∨ (J.go i H ∧ ∃ N : L2.St → Hp → Prop, (∀ σ' H', N σ' H' → ∃ m', m' < m ∧ W (i + 1) m' σ' H') ∧ ∀ x H', J.yld i H x H' → g.tg Γ.K x σ H' fun σ2 H2 => b.ts Γ pm E { Dn with nx := N, ct := N, bk := Dn.nx } σ2 H2)) (W.ok ok w ρ μ) G Sl hk fun sr μ1 J S1 H1 ad1 _ e1 z1 G1 Sl1 hg hk1 => ?_
    generalize hr : forGo (fun ρ μ => b.ex pm ρ μ) g.put sr ρ μ1 = r at hk1
    have run : ForRun (fun ρ μ => b.ex pm ρ μ) g.put sr 0 ρ μ1 r := by
      rw [← hr]
      refine forGo_run fun e => ?_
      rw [hr] at e
      subst e
      exact hk1.elim
    let Iv : Nat → L2.St → Hp → Prop := fun i σ' H' => ∃ S2 ad2 ρ2 μ2, Ex S1 S2 ∧ Sub ad1 ad2 ∧ Good Γ B S0 S2 H' ad2 μ2 ∧ Slots Γ S2 ad2 σ' ρ2 ∧ ForRun (fun ρ μ => b.ex pm ρ μ) g.put sr i ρ2 μ2 r
    refine ⟨fun i m σ' H' => i + m = sr.len ∧ Iv i σ' H', ⟨sr.len, by omega, S1, ad1, ρ, μ1, Ex.refl _, Sub.refl _, G1, Sl1, run⟩, ?_⟩
    rintro i m σ2 H2 ⟨hm, S2, ad2, ρ2, μ2, e2, z2, G2, Sl2, run2⟩
    have turn : ∀ {x : D} {ρ3 : List (Option D)} (N : L2.St → Hp → Prop), sr.ok μ2 = true → i < sr.len → sr.item μ2 i = some x → g.put x ρ2 = some ρ3 →
        (∀ S3 ad3, Ex S2 S3 → Sub ad2 ad3 → EndsOk Γ E B S0 S3 ad3 { Dn with nx := N, ct := N, bk := Dn.nx } (b.ex pm ρ3 μ2)) →
        ∀ y H', J.yld i H2 y H' → g.tg Γ.K y σ2 H' fun σ2 H2 => b.ts Γ pm E { Dn with nx := N, ct := N, bk := Dn.nx } σ2 H2 := fun {x ρ3} N hok hi hx hp hends y H' hy => by
      obtain ⟨d, S3, hd, e3, G3, ry⟩ := hg.yld B S0 S2 H2 ad2 μ2 i y H' G2 e2 z2 hok hi hy
      rw [hx] at hd
      cases hd
      exact put_ok G3 g x y σ2 ρ2 ρ3 (Sl2.ext e3 (Sub.refl _)) ry hp _ fun σ3 Sl3 _ => C.ok ok b ρ3 μ2 B S0 S3 H' ad2 σ3 G3 Sl3 _ (hends S3 ad2 e3 (Sub.refl _))
    cases run2 with
    | done hok => exact .inl ⟨hg.stop B S0 S2 H2 ad2 μ2 G2 e2 z2 hok, hk1 σ2 S2 H2 ad2 e2 z2 G2 Sl2⟩
    | step hi hok hx hp hb hrest =>
      rename_i ρ3 ρ4 μ4 x
      refine .inr ⟨hg.go B S0 S2 H2 ad2 μ2 i G2 e2 z2 hok hi, Iv (i + 1), fun σ' H' h => ⟨m - 1, by omega, by omega, h⟩, turn _ hok hi hx hp fun S3 ad3 e3 z3 => ?_⟩
      rcases hb with hb | hb
      · have hb : b.ex pm ρ3 μ2 = .nx ρ4 μ4 := hb
        rw [hb]
        exact fun σ' S' H' ad' e4 z4 G4 Sl4 => ⟨S', ad', ρ4, μ4, (e2.trans e3).trans e4, (z2.trans z3).trans z4, G4, Sl4, hrest⟩
      · have hb : b.ex pm ρ3 μ2 = .ct ρ4 μ4 := hb
        rw [hb]
        exact fun σ' S' H' ad' e4 z4 G4 Sl4 => ⟨S', ad', ρ4, μ4, (e2.trans e3).trans e4, (z2.trans z3).trans z4, G4, Sl4, hrest⟩
    | brk hi hok hx hp hb =>
      rename_i ρ3 ρ4 μ4 x
      refine .inr ⟨hg.go B S0 S2 H2 ad2 μ2 i G2 e2 z2 hok hi, fun _ _ => False, fun σ' H' h => h.elim, turn _ hok hi hx hp fun S3 ad3 e3 z3 => ?_⟩
      have hb : b.ex pm ρ3 μ2 = .bk ρ4 μ4 := hb
      rw [hb]
      exact fun σ' S' H' ad' e4 z4 G4 Sl4 => hk1 σ' S' H' ad' ((e2.trans e3).trans e4) ((z2.trans z3).trans z4) G4 Sl4
    | out hi hok hx hp hb ho =>
      rename_i ρ3 x
      refine .inr ⟨hg.go B S0 S2 H2 ad2 μ2 i G2 e2 z2 hok hi, fun _ _ => False, fun σ' H' h => h.elim, turn _ hok hi hx hp fun S3 ad3 e3 z3 => ?_⟩
      have hb : b.ex pm ρ3 μ2 = r := hb
      rw [hb]
      rcases ho with ⟨o, μ5, ho⟩ | ⟨c, μ5, ho⟩
      · rw [ho] at hk1 ⊢
        exact fun v S' H' ad' e4 z4 G4 r4 => hk1 v S' H' ad' ((e2.trans e3).trans e4) ((z2.trans z3).trans z4) G4 r4
      · rw [ho] at hk1 ⊢
        exact fun S' H' ad' e4 z4 G4 => hk1 S' H' ad' ((e2.trans e3).trans e4) ((z2.trans z3).trans z4) G4
  | .whl n t b, ρ, μ => by
    rw [C.ts, C.ex]
    intro B S0 S H ad σ G Sl Dn hk
    generalize hr : whGo (fun ρ μ => t.ev pm ρ μ) (fun ρ μ => b.ex pm ρ μ) n ρ μ = r at hk
    refine ⟨fun m σ' H' => ∃ S1 ad1 ρ1 μ1, Ex S S1 ∧ Sub ad ad1 ∧ Good Γ B S0 S1 H' ad1 μ1 ∧ Slots Γ S1 ad1 σ' ρ1 ∧ whGo (fun ρ μ => t.ev pm ρ μ) (fun ρ μ => b.ex pm ρ μ) m ρ1 μ1 = r, ⟨n, S, ad, ρ, μ, Ex.refl _, Sub.refl _, G, Sl, hr⟩, ?_⟩
    rintro m σ1 H1 ⟨S1, ad1, ρ1, μ1, e1, z1, G1, Sl1, hr1⟩
    have hk1 := EndsOk.mono hk e1 z1
    cases m with
    | zero =>
      rw [whGo] at hr1
      rw [← hr1] at hk1
      refine Jg.then (T.ok ok t ρ1 μ1) G1 Sl1 hk1 fun c μ2 c' S2 H2 ad2 _ e2 z2 G2 Sl2 rc hk2 => ?_
      cases rc
      cases c with
      | true => exact hk2.elim
      | false => exact iteF (hk2 σ1 S2 H2 ad2 (Ex.refl _) (Sub.refl _) G2 Sl2)
    | succ m =>
      rw [whGo] at hr1
      have hr2 := hr1
      rw [← hr1] at hk1
      refine Jg.then (T.ok ok t ρ1 μ1) G1 Sl1 hk1 fun c μ2 c' S2 H2 ad2 heq e2 z2 G2 Sl2 rc hk2 => ?_
      cases rc
      have hr3 : (if c = true then (match b.ex pm ρ1 μ2 with
          | .nx ρ2 μ2 => whGo (fun ρ μ => t.ev pm ρ μ) (fun ρ μ => b.ex pm ρ μ) m ρ2 μ2
          | .ct ρ2 μ2 => whGo (fun ρ μ => t.ev pm ρ μ) (fun ρ μ => b.ex pm ρ μ) m ρ2 μ2
          | .bk ρ2 μ2 => .nx ρ2 μ2
          | .rt o μ2 => .rt o μ2
          | .er c μ2 => .er c μ2
          | .no => .no) else .nx ρ1 μ2) = r := by
        rw [← hr2, heq]
        rfl
      cases c with
      | false => exact iteF (hk2 σ1 S2 H2 ad2 (Ex.refl _) (Sub.refl _) G2 Sl2)
      | true =>
        refine iteT ?_
        rw [if_pos rfl] at hr3
        refine ⟨fun σ' H' => ∃ S1 ad1 ρ1 μ1, Ex S S1 ∧ Sub ad ad1 ∧ Good Γ B S0 S1 H' ad1 μ1 ∧ Slots Γ S1 ad1 σ' ρ1 ∧ whGo (fun ρ μ => t.ev pm ρ μ) (fun ρ μ => b.ex pm ρ μ) m ρ1 μ1 = r, fun σ' H' h => ⟨m, by omega, h⟩, ?_⟩
        refine C.ok ok b ρ1 μ2 B S0 S2 H2 ad2 σ1 G2 Sl2 _ ?_
        have hk3 : EndsOk Γ E B S0 S2 ad2 Dn r := EndsOk.mono hk (e1.trans e2) (z1.trans z2)
        cases hb : b.ex pm ρ1 μ2 with
        | nx ρ3 μ3 => rw [hb] at hr3; exact fun σ' S' H' ad' e4 z4 G4 Sl4 => ⟨S', ad', ρ3, μ3, (e1.trans e2).trans e4, (z1.trans z2).trans z4, G4, Sl4, hr3⟩
        | ct ρ3 μ3 => rw [hb] at hr3; exact fun σ' S' H' ad' e4 z4 G4 Sl4 => ⟨S', ad', ρ3, μ3, (e1.trans e2).trans e4, (z1.trans z2).trans z4, G4, Sl4, hr3⟩
        | bk ρ3 μ3 => rw [hb] at hr3; rw [← hr3] at hk3; exact hk3
        | rt o μ3 => rw [hb] at hr3; rw [← hr3] at hk3; exact hk3
        | er c μ3 => rw [hb] at hr3; rw [← hr3] at hk3; exact hk3
        | no => rw [hb] at hr3; rw [← hr3] at hk3; exact hk3.elim
  | .brk, ρ, μ => by
    rw [C.ts, C.ex]
    exact fun B S0 S H ad σ G Sl Dn hk => hk σ S H ad (Ex.refl _) (Sub.refl _) G Sl
  | .cont, ρ, μ => by
    rw [C.ts, C.ex]
    exact fun B S0 S H ad σ G Sl Dn hk => hk σ S H ad (Ex.refl _) (Sub.refl _) G Sl
  | .seq a b, ρ, μ => by
    rw [C.ts, C.ex]
    intro B S0 S H ad σ G Sl Dn hk
    refine C.ok ok a ρ μ B S0 S H ad σ G Sl _ ?_
    cases ha : a.ex pm ρ μ with
    | nx ρ1 μ1 =>
      rw [ha] at hk
      exact fun σ' S' H' ad' e1 z1 G1 Sl1 => C.ok ok b ρ1 μ1 B S0 S' H' ad' σ' G1 Sl1 Dn (EndsOk.mono hk e1 z1)
    | bk ρ1 μ1 => rw [ha] at hk; exact hk
    | ct ρ1 μ1 => rw [ha] at hk; exact hk
    | rt o μ1 => rw [ha] at hk; exact hk
    | er c μ1 => rw [ha] at hk; exact hk
    | no => rw [ha] at hk; exact hk.elim
end
/-! ### defs -/
def startR (N : Nat) (ds : List D) : List (Option D) := ds.map some ++ List.replicate (N - ds.length) none
/-- what is handed out -/
def outOf (o : O) (μ : List Cell) : Out := match o with
  | .own ds => if noLocs ds then .ret (.own ds) else .no
  | .dat d => if noLoc d then .ret (.dat d) else match cellL μ d with
    | some (_, ds) => if noLocs ds then .ret (.own ds) else if noLoc (resD μ d) then .ret (.dat (resD μ d)) else .no
    | none => if noLoc (resD μ d) then .ret (.dat (resD μ d)) else .no
/-- a def that knows nothing of the store, n parameters, N names -/
def runP (pm : Pm) (n N : Nat) (a : C) : Fn := fun ds => if ds.length = n then match a.ex pm (startR N ds) [] with
    | .rt o μ => outOf o μ
    | .nx _ _ => .ret (.dat .non)
    | .er c _ => .er c
    | _ => .no
  else .no
def calmF (g : Fn) : Fn := fun ds => match g ds with
  | .er _ => .no
  | r => r
/-- a def upon the store -/
def runS (pm : Pm) (n N : Nat) (a : C) : FnS := fun ds μ => if ds.length = n then match a.ex pm (startR N ds) μ with
    | .rt o μ => .ok o.d μ
    | .nx _ μ => .ok .non μ
    | .er c μ => .er c μ
    | _ => .no
  else .no
def calmS (g : FnS) : FnS := fun ds μ => match g ds μ with
  | .er _ _ => .no
  | r => r
section
variable {Γ : Gm} {pm : Pm} {E : XK} {B S0 S H : Hp} {ad : List Addr} {μ : List Cell}
theorem slots_start {N : List Str} {vs : List V} {ds : List D} (h : RpAll Γ S ad vs ds) : Slots Γ S ad (start N vs) (startR N.length ds) := by
  have hl := da_length h
  refine ⟨by simp [L2.start, startR, hl], fun i d e => ?_⟩
  unfold startR at e
  by_cases hi : i < ds.length
  · rw [List.getElem?_append_left (by simpa using hi), List.getElem?_map] at e
    cases hd : ds[i]? with
    | none => rw [hd] at e; cases e
    | some d' =>
      rw [hd] at e
      cases e
      obtain ⟨v, h1, h2⟩ := da_get h hd
      refine ⟨v, ?_, h2⟩
      unfold L2.start
      rw [List.getElem?_append_left (by simp; omega), List.getElem?_map, h1]
      rfl
  · rw [List.getElem?_append_right (by simp; omega), List.getElem?_replicate] at e
    split at e
    · cases e
    · cases e
theorem good_start (e : Ex S H) : Good Γ H S S H [] [] := ⟨Ex.refl _, e, Ex.refl _, fun _ _ h => .inl h, rfl, fun i j a h => by simp at h, fun n a c h => by simp at h⟩
theorem Good.gr {S' H' : Hp} {ad' : List Addr} {μ' : List Cell} (G : Good Γ H S S' H' ad' μ') : Gr S H S' H' := ⟨G.ss, G.s, G.b, G.new⟩
/-- the store is given up: all of it is shared -/
theorem Good.grV {S' H' : Hp} {ad' : List Addr} {μ' : List Cell} (G : Good Γ H S S' H' ad' μ') : Gr S H (viewS S' H' ad') H' := by
  refine ⟨G.ss.trans G.view_ex.1, G.view_ex.2, G.b, fun a o h => ?_⟩
  unfold viewS at h
  split at h
  · rename_i ha
    obtain ⟨n, hn⟩ := List.getElem?_of_mem ha
    have hl : n < μ'.length := by
      rw [← G.len]
      by_cases z : n < ad'.length
      · exact z
      · rw [List.getElem?_eq_none (by omega)] at hn; cases hn
    have hc := G.cell n a _ hn (List.getElem?_eq_getElem hl)
    cases hm : μ'[n] with
    | lst ds => rw [hm] at hc; exact .inr hc.1
    | ro ds => rw [hm] at hc; exact .inr hc.1
    | ins c ns ds => rw [hm] at hc; exact .inr hc.1
    | gone =>
      rw [hm] at hc
      obtain ⟨u, hu⟩ := hc
      have := G.s _ _ hu
      rw [h] at this
      cases this
      exact G.new a _ hu
  · exact G.new a o h
theorem outOf_ok {o o' : O} {v : V} {S' H' : Hp} {ad' : List Addr} {μ' : List Cell} {Q : VK} (h : outOf o μ' = .ret o') (G : Good Γ H S S' H' ad' μ') (hr : Res Γ H S' H' ad' v o) (q : ∀ v S' H', Gr S H S' H' → Res Γ H S' H' [] v o' → Q v H') : Q v H' := by
  cases o with
  | own ds =>
    simp only [outOf] at h
    split at h
    · rename_i hn
      cases h
      obtain ⟨p, vs, rfl, h1, h2, h3, h4, h5⟩ := hr
      exact q _ S' H' G.gr ⟨p, vs, rfl, h1, h2, fun n a ha => by simp at ha, h4, rpAll_noLoc [] _ _ hn h5⟩
    · cases h
  | dat d =>
    have key : ∀ {r : D}, r = resD μ' d → noLoc r = true → (∀ v S' H', Gr S H S' H' → Res Γ H S' H' [] v (.dat r) → Q v H') → Q v H' := fun {r} e hn q => by
      subst e
      exact q v _ H' G.grV (rp_noLoc [] _ _ hn (G.res hr))
    simp only [outOf] at h
    split at h
    · rename_i hn
      cases h
      exact q v S' H' G.gr (rp_noLoc [] _ _ hn hr)
    · split at h
      · rename_i n ds hc
        split at h
        · rename_i hn2
          cases h
          obtain ⟨a, vs, rfl, rfl, k1, k2, k3, k4, k5⟩ := cellL_ok hc G hr
          exact q _ S' H' G.gr ⟨a, vs, rfl, k2, k3, fun n a ha => by simp at ha, k4, rpAll_noLoc [] _ _ hn2 k5⟩
        · split at h
          · rename_i hn3
            cases h
            exact key rfl hn3 q
          · cases h
      · split at h
        · rename_i hn3
          cases h
          exact key rfl hn3 q
        · cases h
variable {P : Program} {w : World} {mg : Str → Option Value} {base : Heap} {x qual : Str} {st : Stmt} {f : Addr} {fd : FuncData} {N ps : List Str} {k : Nat} {a : C} {g : Fn} {gS : FnS}
theorem spP_len {vs : List V} {Q : VK} (h : spP Γ (runP pm ps.length N.length a) vs H Q E) : vs.length = ps.length := by
  obtain ⟨S, ds, _, hr, hm⟩ := h
  rw [da_length hr]
  unfold runP at hm
  by_cases hl : ds.length = ps.length
  · exact hl
  · rw [if_neg hl] at hm
    exact hm.elim
theorem run_ok {vs : List V} {Q : VK} (ok : PmOk Γ pm) (h : spP Γ (runP pm ps.length N.length a) vs H Q E) : a.ts Γ pm E { nx := fun _ H' => Q .non H', rt := Q } (start N vs) H := by
  obtain ⟨S, ds, ex, hr, hm⟩ := h
  refine C.ok ok a (startR N.length ds) [] H S S H [] _ (good_start ex) (slots_start hr) _ ?_
  unfold runP at hm
  by_cases hl : ds.length = ps.length
  · rw [if_pos hl] at hm
    cases hx : a.ex pm (startR N.length ds) [] with
    | nx ρ μ =>
      simp only [hx] at hm
      exact fun σ' S' H' ad' e z G' _ => hm _ S' H' G'.gr .non
    | rt o μ =>
      simp only [hx] at hm
      cases ho : outOf o μ with
      | ret o' =>
        simp only [ho] at hm
        exact fun v S' H' ad' e z G' hr => outOf_ok ho G' hr hm
      | er c =>
        have : ∀ c, outOf o μ ≠ .er c := fun c => by
          unfold outOf
          repeat' split
          all_goals (intro z; cases z)
        exact absurd ho (this c)
      | no =>
        simp only [ho] at hm
    | er c μ =>
      simp only [hx] at hm
      exact fun S' H' ad' e z G' => hm S' H' G'.gr
    | bk ρ μ => simp only [hx] at hm
    | ct ρ μ => simp only [hx] at hm
    | no => simp only [hx] at hm
  · rw [if_neg hl] at hm
    exact hm.elim
theorem calm_sp {vs : List V} {Q : VK} (h : spP Γ (calmF g) vs H Q E) : spP Γ g vs H Q E0 := by
  obtain ⟨S, ds, ex, hr, hm⟩ := h
  refine ⟨S, ds, ex, hr, ?_⟩
  unfold calmF at hm
  cases hg : g ds with
  | ret o => simp only [hg] at hm ⊢; exact hm
  | er c => simp only [hg] at hm
  | no => simp only [hg] at hm
/-- a def from which nothing is raised -/
theorem okC (ok : PmOk Γ pm) (F : Fun Γ.K x qual st f fd) (S : FnScope N ps (defScope st))
    (hb : ∀ (cdv : Value) (A : Around) (outer : List Env) (s : Shared) (H : Hp) (E : XK), Room k (A.deeper (envOfC qual (defScope st) s.heap.objs.size f cdv)) → PSs (cxOf CX0 P w Γ.K mg base N qual (defScope st) f cdv A outer s H E).nox (defBody st) (a.ts Γ pm E0)) :
    FnOk P w Γ.K mg base CX0 (k + 1) f fd ps (spP Γ (calmF (runP pm ps.length N.length a))) :=
  F.ok S (fun vs H Q E h => spP_len (calm_sp h)) fun cdv A outer s H vs Q E hr h => ⟨_, hb cdv A outer s H E hr, run_ok ok (calm_sp h)⟩
/-- a def that may raise -/
theorem okX (ok : PmOk Γ pm) (F : Fun Γ.K x qual st f fd) (S : FnScope N ps (defScope st))
    (hb : ∀ (cdv : Value) (A : Around) (outer : List Env) (s : Shared) (H : Hp) (E : XK), Room k (A.deeper (envOfC qual (defScope st) s.heap.objs.size f cdv)) → PSs (cxOf (L2.CX P w) P w Γ.K mg base N qual (defScope st) f cdv A outer s H E) (defBody st) (a.ts Γ pm E)) :
    FnOk P w Γ.K mg base (L2.CX P w) (k + 1) f fd ps (spP Γ (runP pm ps.length N.length a)) :=
  F.okX S (fun vs H Q E h => spP_len h) fun cdv A outer s H vs Q E hr h => ⟨_, hb cdv A outer s H E hr, run_ok ok h⟩
theorem fn_calm {sp sp' : Sp} (F : FnOk P w Γ.K mg base (L2.CX P w) k f fd ps sp) (key : ∀ vs H Q E, sp' vs H Q E → sp vs H Q E0) : FnOk P w Γ.K mg base CX0 k f fd ps sp' := by
  refine ⟨fun vs H Q E h => F.len vs H Q E0 (key vs H Q E h), fun A outer s H args us vs Q E hr he hb hv hs => ?_⟩
  refine codeAny_mono (F.run A outer s H args us vs Q E0 hr he hb hv (key vs H Q E hs)) fun r s' hq => ?_
  cases r with
  | ok fl =>
    cases fl with
    | ret u => exact hq
    | next => exact hq
    | brk => exact hq
    | cont => exact hq
  | error e =>
    obtain ⟨_, _, _, _, _, _, _, _, _, _, _, _, z⟩ := hq
    exact z.elim
theorem calm_ss {vs : List V} {Q : VK} (h : spS Γ (calmS gS) vs H Q E) : spS Γ gS vs H Q E0 := by
  obtain ⟨B, S0, S, ad, μ, ds, G, hr, hm⟩ := h
  refine ⟨B, S0, S, ad, μ, ds, G, hr, ?_⟩
  unfold calmS at hm
  cases hg : gS ds μ with
  | ok d μ' => simp only [hg] at hm ⊢; exact hm
  | er c μ' => simp only [hg] at hm
  | no => simp only [hg] at hm
theorem spS_len {vs : List V} {Q : VK} (h : spS Γ (runS pm ps.length N.length a) vs H Q E) : vs.length = ps.length := by
  obtain ⟨B, S0, S, ad, μ, ds, _, hr, hm⟩ := h
  rw [da_length hr]
  unfold runS at hm
  by_cases hl : ds.length = ps.length
  · exact hl
  · rw [if_neg hl] at hm
    exact hm.elim
theorem runS_ok {vs : List V} {Q : VK} (ok : PmOk Γ pm) (h : spS Γ (runS pm ps.length N.length a) vs H Q E) : a.ts Γ pm E { nx := fun _ H' => Q .non H', rt := Q } (start N vs) H := by
  obtain ⟨B, S0, S, ad, μ, ds, G, hr, hm⟩ := h
  refine C.ok ok a (startR N.length ds) μ B S0 S H ad _ G (slots_start hr) _ ?_
  unfold runS at hm
  by_cases hl : ds.length = ps.length
  · rw [if_pos hl] at hm
    cases hx : a.ex pm (startR N.length ds) μ with
    | nx ρ μ =>
      simp only [hx] at hm
      exact fun σ' S' H' ad' e z G' _ => hm _ S' H' ad' e z G' .non
    | rt o μ =>
      simp only [hx] at hm
      intro v S' H' ad' e z G' hr
      obtain ⟨S2, e2, G2, r2⟩ := res_share G' hr
      exact hm v S2 H' ad' (e.trans e2) z G2 r2
    | er c μ =>
      simp only [hx] at hm
      exact fun S' H' ad' e z G' => hm S' H' ad' e z G'
    | bk ρ μ => simp only [hx] at hm
    | ct ρ μ => simp only [hx] at hm
    | no => simp only [hx] at hm
  · rw [if_neg hl] at hm
    exact hm.elim
theorem okSC (ok : PmOk Γ pm) (F : Fun Γ.K x qual st f fd) (S : FnScope N ps (defScope st))
    (hb : ∀ (cdv : Value) (A : Around) (outer : List Env) (s : Shared) (H : Hp) (E : XK), Room k (A.deeper (envOfC qual (defScope st) s.heap.objs.size f cdv)) → PSs (cxOf CX0 P w Γ.K mg base N qual (defScope st) f cdv A outer s H E).nox (defBody st) (a.ts Γ pm E0)) :
    FnOk P w Γ.K mg base CX0 (k + 1) f fd ps (spS Γ (calmS (runS pm ps.length N.length a))) :=
  F.ok S (fun vs H Q E h => spS_len (calm_ss h)) fun cdv A outer s H vs Q E hr h => ⟨_, hb cdv A outer s H E hr, runS_ok ok (calm_ss h)⟩
theorem okSX (ok : PmOk Γ pm) (F : Fun Γ.K x qual st f fd) (S : FnScope N ps (defScope st))
    (hb : ∀ (cdv : Value) (A : Around) (outer : List Env) (s : Shared) (H : Hp) (E : XK), Room k (A.deeper (envOfC qual (defScope st) s.heap.objs.size f cdv)) → PSs (cxOf (L2.CX P w) P w Γ.K mg base N qual (defScope st) f cdv A outer s H E) (defBody st) (a.ts Γ pm E)) :
    FnOk P w Γ.K mg base (L2.CX P w) (k + 1) f fd ps (spS Γ (runS pm ps.length N.length a)) :=
  F.okX S (fun vs H Q E h => spS_len h) fun cdv A outer s H vs Q E hr h => ⟨_, hb cdv A outer s H E hr, runS_ok ok h⟩
/-- a law's start: it answers True -/
theorem law_start {g : Fn} {a : Addr} {ns : List Int} (hS : SqL Γ.K H a (ns.map V.int)) (h : g [.scr (ns.map .int)] = .ret (.dat (.bl true))) : spP Γ g [.ref a] H (fun v _ => v = .bl true) fun _ _ _ => False :=
  ⟨H, [.scr (ns.map .int)], Ex.refl _, .cons (.scr hS ints_dpAll) .nil, by rw [h]; exact fun v S' H' _ hv => dp_bool hv⟩
end
end EM

/-! The layer's rules with K in the place of X.K. -/
namespace EM
open PySem PySem.Spec PyProof.Rows L2
section
variable {X : Cx} {K : PySem.W.Frag}
theorem k_ix (h : X.K = K := by rfl) : IxR X (rIx K) := h ▸ ix_seq
theorem k_sl (h : X.K = K := by rfl) : SlR X (rSlL K) := h ▸ sl_list
theorem k_isi (h : X.K = K := by rfl) : CallR X (.builtin "isinstance") (rIsi K) := h ▸ call_isi
theorem k_len (h : X.K = K := by rfl) : CallR X (.builtin "len") (fun xs H Q => ∃ p ys, xs = [.ref p] ∧ (SqL K H p ys ∨ SqT K H p ys) ∧ Q (.int ys.length) H) := h ▸ call_len_seq
theorem k_list (h : X.K = K := by rfl) : CallR X (.type "list") (fun xs H Q => ∃ p ys, xs = [.ref p] ∧ (SqL K H p ys ∨ SqT K H p ys) ∧ ∀ l, H l = none → Q (.ref l) (upd H l (.lst ys))) := h ▸ call_list_of
theorem k_tuple (h : X.K = K := by rfl) : CallR X (.type "tuple") (fun xs H Q => ∃ p ys, xs = [.ref p] ∧ ((SqL K H p ys ∧ ∀ l, H l = none → Q (.ref l) (upd H l (.tup ys))) ∨ (SqT K H p ys ∧ Q (.ref p) H))) := h ▸ call_tuple_of
theorem k_sum (hc : X.calm = true := by rfl) (h : X.K = K := by rfl) : CallR X (.builtin "sum") (rSum K) := h ▸ cr_sum hc
theorem k_all (hc : X.calm = true := by rfl) (h : X.K = K := by rfl) : CallR X (.builtin "all") (rAll K) := h ▸ cr_all hc
theorem k_any (hc : X.calm = true := by rfl) (h : X.K = K := by rfl) : CallR X (.builtin "any") (rAny K) := h ▸ cr_any hc
theorem k_eqD (hu : X.A.units + 64 < cLine) (h : X.K = K := by rfl) : OpR X (compareOp .Eq) (rEqD K) := h ▸ op_eqD hu
theorem k_neD (hu : X.A.units + 64 < cLine) (h : X.K = K := by rfl) : OpR X (compareOp .NotEq) (rNeD K) := h ▸ op_neD hu
theorem k_inD (hr : X.A.units + 200 < cLine) (h : X.K = K := by rfl) : OpR X (compareOp .In) (rInD K) := h ▸ op_inD (by omega)
theorem k_notInD (hr : X.A.units + 200 < cLine) (h : X.K = K := by rfl) : OpR X (compareOp .NotIn) (rNotInD K) := h ▸ op_notInD (by omega)
theorem k_sortedD (hr : X.A.units + 200 < cLine) (h : X.K = K := by rfl) : CallR X (.builtin "sorted") (rSortedD K) := h ▸ cr_sortedD (by omega)
theorem k_max (hc : X.calm = true := by rfl) (h : X.K = K := by rfl) : CallR X (.builtin "max") (rMax K) := h ▸ cr_max hc
theorem k_min (hc : X.calm = true := by rfl) (h : X.K = K := by rfl) : CallR X (.builtin "min") (rMin K) := h ▸ cr_min hc
theorem k_get (h : X.K = K := by rfl) : PGet X (rGetL K) := h ▸ get_list
theorem k_index (hr : X.A.units + 200 < cLine) (h : X.K = K := by rfl) : MtR X "list.index" (rIndexD K) := h ▸ mt_indexD (by omega)
theorem k_fld {e : Expr} {f : Str} {pos : Pos} {ta : TE} (he : PE X e ta) (hb : attributeBase e f X.env (eval e X.env) = eval e X.env := by rfl) (h : X.K = K := by rfl) : PE X (.Attribute e f pos) (tFld K ta f) := h ▸ pe_fld he hb
theorem k_sfld {o value : Expr} {f : Str} {pos pos' : Pos} {ta tv : TE} (ha : PE X o ta) (hv : PE X value tv) (hs : swapsWith value (some (.Attribute o f pos')) pos.line X.env = pure false := by rfl) (h : X.K = K := by rfl) : PS X (.Assign [.Attribute o f pos'] value pos) (sFld K ta tv f) := h ▸ ps_fld ha hv hs
theorem k_in (h : X.K = K := by rfl) : OpR X (compareOp .In) (rIn K false) := h ▸ op_in_seq
theorem k_notIn (h : X.K = K := by rfl) : OpR X (compareOp .NotIn) (rIn K true) := h ▸ op_notIn_seq
variable {tg l e : Expr} {tl te : TE}
theorem ki_list (hl : PE X l tl) (h : X.K = K := by rfl) : PI X tg l (iList K tl) := h ▸ pi_list hl
theorem ki_tup (hl : PE X l tl) (h : X.K = K := by rfl) : PI X tg l (iTup K tl) := h ▸ pi_tup hl
theorem ki_zip {e e2 : Expr} {ta : TA} {p pos tpos : Pos} {elts : List Expr} {kk : Nat} (hg : Gl X "zip") (hm : X.mg "zip" = none) (ha : PA X [e, e2] ta) (hs : starEach [e, e2] X.env = (false, eval e X.env) :: starEach [e2] X.env := by rfl) (hs2 : (backTo pos (starEach [e2] X.env)).any (·.1) = false := by rfl) (h : X.K = K := by rfl) :
    PI X (.Tuple elts kk tpos) (.Call (.Name "zip" p) [e, e2] [] pos) (iZip K ta) := h ▸ pi_zip hg hm ha hs hs2
theorem ki_enum {e : Expr} {ta : TA} {p pos tpos : Pos} {elts : List Expr} {kk : Nat} (hg : Gl X "enumerate") (hm : X.mg "enumerate" = none) (ha : PA X [e] ta) (hs : starEach [e] X.env = [(false, eval e X.env)] := by rfl) (h : X.K = K := by rfl) :
    PI X (.Tuple elts kk tpos) (.Call (.Name "enumerate" p) [e] [] pos) (iEnum K ta) := h ▸ pi_enum hg hm ha hs
theorem k_revL {k : Nat} {p1 p2 p3 pos : Pos} (he : PE X e te) (h : X.K = K := by rfl) : PE X (.Subscript e (.Slice none none (some (.UnaryOp .USub (.Constant (.int 1) k p1) p2)) p3) pos) (tRevL K te) := h ▸ pe_revL he
theorem k_tup {es : List Expr} {k : Nat} {pos : Pos} {t : TGs} {n : Nat} (hc : X.calm = true) (hh : PGs X es t) (hn : (assignEach es X.env).length = n := by rfl) (hst : (assignEach es X.env).findIdx? (·.1) = none := by rfl) (h : X.K = K := by rfl) : PG X (.Tuple es k pos) (gTup K n t) := h ▸ pg_tup hc hh hn hst
theorem k_bm {o : Expr} {es : List Expr} {T : String} {name : Str} {id : String} {r : V → List V → Hp → VK → Prop} {to : TE} {t : TA} {apos cpos : Pos} (pa : PlainAttrs T) (slot : Slot T name id) (hty : typeOf (.builtin id) = pure (.type "method_descriptor")) (hm : MtR X id r) (ho : PE X o to) (ha : PA X (e :: es) t)
    (hbase : attributeBase o name X.env (eval o X.env) = eval o X.env := by rfl)
    (hfew : ((backTo cpos (starEach (e :: es) X.env)).all (fun x => !x.1) && (backToKw cpos (keywordEach [] X.env)).all (fun x => x.1.isSome)
      && decide ((e :: es).length + ([] : List Keyword).length + (if ([] : List Keyword).isEmpty then 0 else 1) < 30)) = true := by rfl)
    (hline : (apos.endLine == cpos.line) = true := by rfl) (hs : starEach (e :: es) X.env = (false, eval e X.env) :: starEach es X.env := by rfl) (hplain : (backTo cpos (starEach es X.env)).any (·.1) = false := by rfl) (h : X.K = K := by rfl) :
    PE X (.Call (.Attribute o name apos) (e :: es) [] cpos) (tBM K T r to t) := h ▸ pe_bm pa slot hty hm ho ha hbase hfew hline hs hplain
theorem k_bm0 {o : Expr} {T : String} {name : Str} {id : String} {r : V → List V → Hp → VK → Prop} {to : TE} {apos cpos : Pos} (pa : PlainAttrs T) (slot : Slot T name id) (hty : typeOf (.builtin id) = pure (.type "method_descriptor")) (hm : MtR X id r) (ho : PE X o to)
    (hbase : attributeBase o name X.env (eval o X.env) = eval o X.env := by rfl) (hline : (apos.endLine == cpos.line) = true := by rfl) (h : X.K = K := by rfl) : PE X (.Call (.Attribute o name apos) [] [] cpos) (tBM0 K T r to) := h ▸ pe_bm0 pa slot hty hm ho hbase hline
theorem passX {P : Program} {w : World} {mg : Str → Option Value} {base : Heap} {N : List Str} {qual : Str} {scope : Scope} {f : Addr} {cd : Value} {A : Around} {outer : List Env} {s : Shared} {H : Hp} {E : XK} : Passes (L2.CX P w) (cxOf (L2.CX P w) P w K mg base N qual scope f cd A outer s H E) E :=
  passes_call (takes_of rfl rfl rfl rfl) fun _ _ _ _ h => h
end
theorem fn_mono {P : Program} {w : World} {K : PySem.W.Frag} {mg : Str → Option Value} {base : Heap} {CX : CXT} {k : Nat} {f : Addr} {fd : FuncData} {ps : List Str} {sp sp' : Sp} (F : FnOk P w K mg base CX k f fd ps sp) (h : ∀ vs H Q E, sp' vs H Q E → sp vs H Q E) : FnOk P w K mg base CX k f fd ps sp' :=
  ⟨fun vs H Q E z => F.len vs H Q E (h vs H Q E z), fun A outer s H args us vs Q E hr he hb hv hs => F.run A outer s H args us vs Q E hr he hb hv (h vs H Q E hs)⟩
/-- the end of a law -/
theorem walk_end {l : PySem.W.OpenLaw} {n k : Nat} {q : Program} {loose : List Str} {XP : (Str → Option Value) → Heap → Prop} {YP : World → Heap → Prop} {d : DefRec} {K : Params → PySem.W.Frag} {x : Str} {g : Fn}
    (hn : l.most = some n) (hn2 : n ≤ sizeLine) (hdf : d.params.defaults = []) (hr : Room k callerA)
    (hY : ∀ (w : World) (h : Heap), YP w h → (K w.params).In h)
    (F : ∀ (w : World) (mg : Str → Option Value) (fa : Addr) (h : Heap), (K w.params).In h → h.Ns mainGlobals mg → mg d.name = some (.ref fa) →
      ∃ fd : FuncData, (∀ (s : Shared) (u : Value), BindsTo s fd ⟨[u], []⟩ [(x, u)]) ∧ ∃ Γ : Gm, Γ.K = K w.params ∧
        ∀ base : Heap, (K w.params).In base → base.Ns mainGlobals mg → FnOk l.prog w (K w.params) mg base CX0 k fa fd [x] (spP Γ g))
    (hg : ∀ ns : List Int, ns.length ≤ n → (∀ z ∈ ns, Builtin.Int.intBits z ≤ 1048576) → g [.scr (ns.map .int)] = .ret (.dat (.bl true))) :
    PySem.W.WalkO q loose XP YP l.row.toRowW d [] (fun f vs => PySem.call f vs) := by
  refine L2.walk_ofB (l := l) (n := n) (k := k) (x := x) (K := K) (CX := fun _ => CX0) (sp := fun w => fun vs H Q E => ∀ Γ : Gm, Γ.K = K w.params → spP Γ g vs H Q E) hn hn2 hdf hr hY ?_ (fun w H a ns hl hb _ hS Γ hK => law_start (by rw [hK]; exact hS) (hg ns hl hb)) (fun _ _ _ _ _ h => h)
  intro w mg fa h KX G hmg
  obtain ⟨fd, hb, Γ, hK, hF⟩ := F w mg fa h KX G hmg
  exact ⟨fd, hb, fun base b1 b2 => fn_mono (hF base b1 b2) fun vs H Q E z => z Γ hK⟩
end EM

/-! plain lemmas about running -/
namespace EM
open PySem PySem.Spec PyProof.Rows L2
/-! ### defs -/
def Ret (o : O) : Ou → Prop
  | .rt o' _ => o' = o
  | _ => False
def RetL (ds : List D) : Ou → Prop
  | .rt o μ => o = .own ds ∨ ∃ d n, o = .dat d ∧ cellL μ d = some (n, ds)
  | _ => False
def Nx : Ou → Prop
  | .nx _ _ => True
  | _ => False
def Er (c : Nat) : Ou → Prop
  | .er c' _ => c' = c
  | _ => False
section
variable {pm : Pm} {n N : Nat} {a : C} {ds : List D} {d : D} {es : List D}
theorem run_dat (h : Ret (.dat d) (a.ex pm (startR N ds) [])) (hl : ds.length = n) (ho : noLoc d = true) : runP pm n N a ds = .ret (.dat d) := by
  unfold runP
  rw [if_pos hl]
  cases hx : a.ex pm (startR N ds) [] with
  | rt o μ =>
    rw [hx] at h
    have h : o = .dat d := h
    subst h
    simp only [outOf, ho, if_true]
  | _ => rw [hx] at h; exact h.elim
theorem run_own (h : RetL es (a.ex pm (startR N ds) [])) (hl : ds.length = n) (ho : noLocs es = true) : runP pm n N a ds = .ret (.own es) := by
  unfold runP
  rw [if_pos hl]
  cases hx : a.ex pm (startR N ds) [] with
  | rt o μ =>
    rw [hx] at h
    rcases h with h | ⟨d, n, h, hc⟩
    · subst h
      simp only [outOf, ho, if_true]
    · subst h
      have : noLoc d = false := by
        cases d with
        | loc n => rfl
        | _ => cases hc
      simp only [outOf, this, hc, ho, if_true]
      rfl
  | _ => rw [hx] at h; exact h.elim
theorem run_non (h : Nx (a.ex pm (startR N ds) [])) (hl : ds.length = n) : runP pm n N a ds = .ret (.dat .non) := by
  unfold runP
  rw [if_pos hl]
  cases hx : a.ex pm (startR N ds) [] with
  | nx ρ μ => rfl
  | _ => rw [hx] at h; exact h.elim
theorem run_er {c : Nat} (h : Er c (a.ex pm (startR N ds) [])) (hl : ds.length = n) : runP pm n N a ds = .er c := by
  unfold runP
  rw [if_pos hl]
  cases hx : a.ex pm (startR N ds) [] with
  | er c' μ =>
    rw [hx] at h
    have h : c' = c := h
    subst h
    rfl
  | _ => rw [hx] at h; exact h.elim
theorem calm_ret {g : Fn} {o : O} (h : g ds = .ret o) : calmF g ds = .ret o := by
  unfold calmF
  rw [h]
end
/-! ### calls -/
theorem cp_flat {x : Bool} {g : Fn} {μ : List Cell} {ds : List D} {o : O} (rs : List D) (hr : ds.map (resD μ) = rs) (hn : noLocs rs = true) (h : g rs = .ret o) (hf : flatO o = true) : cpEv x g μ ds = .ok o μ := by
  unfold cpEv
  rw [hr, if_pos hn, h]
  simp only [hf, Bool.true_or, if_true]
theorem cp_no {x : Bool} {g : Fn} {μ : List Cell} {ds : List D} {o : O} (hn : noLocs ds = true) (h : g ds = .ret o) : cpEv x g μ ds = .ok o μ := by
  unfold cpEv
  rw [map_res_no hn, if_pos hn, h]
  simp only [hn, Bool.or_true, if_true]
/-! ### statements -/
def SeqP (pm : Pm) (b : C) (P : Ou → Prop) : Ou → Prop
  | .nx ρ μ => P (b.ex pm ρ μ)
  | r => P r
def TurnP (I : List (Option D) → List Cell → Prop) (K : List (Option D) → List Cell → Prop) (P : Ou → Prop) : Ou → Prop
  | .nx ρ μ => I ρ μ
  | .ct ρ μ => I ρ μ
  | .bk ρ μ => K ρ μ
  | .rt o μ => P (.rt o μ)
  | .er c μ => P (.er c μ)
  | .no => False
section
variable {pm : Pm} {a b c : C} {ρ : List (Option D)} {μ : List Cell} {P : Ou → Prop}
theorem ex_seq (h : SeqP pm b P (a.ex pm ρ μ)) : P (C.ex pm (.seq a b) ρ μ) := by
  rw [C.ex]
  cases hx : a.ex pm ρ μ with
  | nx ρ1 μ1 => rw [hx] at h; exact h
  | bk ρ1 μ1 => rw [hx] at h; exact h
  | ct ρ1 μ1 => rw [hx] at h; exact h
  | rt o μ1 => rw [hx] at h; exact h
  | er c μ1 => rw [hx] at h; exact h
  | no => rw [hx] at h; exact h
theorem forL_inv {α : Type} {A : α → D} {body : List (Option D) → List Cell → Ou} {put : D → List (Option D) → Option (List (Option D))} (I : List α → List (Option D) → List Cell → Prop) (K : List (Option D) → List Cell → Prop)
    (turn : ∀ a r ρ μ, I (a :: r) ρ μ → ∃ ρ1, put (A a) ρ = some ρ1 ∧ TurnP (I r) K P (body ρ1 μ)) (done : ∀ ρ μ, I [] ρ μ → K ρ μ) : ∀ (l : List α) (ρ : List (Option D)) (μ : List Cell), I l ρ μ → TurnP K K P (forL body put (l.map A) ρ μ)
  | [], ρ, μ, h => by
    rw [List.map_nil, forL]
    exact done ρ μ h
  | x :: r, ρ, μ, h => by
    obtain ⟨ρ1, h1, h2⟩ := turn x r ρ μ h
    rw [List.map_cons, forL, h1]
    simp only
    cases hb : body ρ1 μ with
    | nx ρ2 μ2 => rw [hb] at h2; exact forL_inv I K turn done r ρ2 μ2 h2
    | ct ρ2 μ2 => rw [hb] at h2; exact forL_inv I K turn done r ρ2 μ2 h2
    | bk ρ2 μ2 => rw [hb] at h2; exact h2
    | rt o μ2 => rw [hb] at h2; exact h2
    | er c μ2 => rw [hb] at h2; exact h2
    | no => rw [hb] at h2; exact h2.elim
theorem forL_nx {α : Type} {A : α → D} {body : List (Option D) → List Cell → Ou} {put : D → List (Option D) → Option (List (Option D))} : ∀ (l : List α) (ρ : List (Option D)) (μ : List Cell), (∀ ρ' μ', forL body put (l.map A) ρ μ ≠ .bk ρ' μ') ∧ ∀ ρ' μ', forL body put (l.map A) ρ μ ≠ .ct ρ' μ'
  | [], ρ, μ => by
    rw [List.map_nil, forL]
    exact ⟨fun _ _ h => (by cases h), fun _ _ h => (by cases h)⟩
  | x :: r, ρ, μ => by
    rw [List.map_cons, forL]
    cases put (A x) ρ with
    | none => exact ⟨fun _ _ h => (by cases h), fun _ _ h => (by cases h)⟩
    | some ρ1 =>
      simp only
      cases body ρ1 μ with
      | nx ρ2 μ2 => exact forL_nx r ρ2 μ2
      | ct ρ2 μ2 => exact forL_nx r ρ2 μ2
      | bk ρ2 μ2 => exact ⟨fun _ _ h => (by cases h), fun _ _ h => (by cases h)⟩
      | rt o μ2 => exact ⟨fun _ _ h => (by cases h), fun _ _ h => (by cases h)⟩
      | er c μ2 => exact ⟨fun _ _ h => (by cases h), fun _ _ h => (by cases h)⟩
      | no => exact ⟨fun _ _ h => (by cases h), fun _ _ h => (by cases h)⟩
theorem p_for1 {α : Type} {A : α → D} {w : W} {g : G} {sr : Sr} {μ1 : List Cell} {l : List α} (I : List α → List (Option D) → List Cell → Prop) (hw : w.ev pm ρ μ = .ok sr μ1) (hs : sr.list = some (l.map A)) (h0 : I l ρ μ1)
    (turn : ∀ a r ρ μ, I (a :: r) ρ μ → ∃ ρ1, g.put (A a) ρ = some ρ1 ∧ TurnP (I r) (fun ρ μ => P (.nx ρ μ)) P (b.ex pm ρ1 μ)) (done : ∀ ρ μ, I [] ρ μ → P (.nx ρ μ)) : P (C.ex pm (.for_ w g b) ρ μ) := by
  rw [C.ex, hw]
  show P (forGo (fun ρ μ => b.ex pm ρ μ) g.put sr ρ μ1)
  unfold forGo
  rw [hs]
  simp only
  have h := forL_inv (P := P) (A := A) (body := fun ρ μ => b.ex pm ρ μ) (put := g.put) I (fun ρ μ => P (.nx ρ μ)) turn done l ρ μ1 h0
  have hn := forL_nx (A := A) (body := fun ρ μ => b.ex pm ρ μ) (put := g.put) l ρ μ1
  cases hx : forL (fun ρ μ => b.ex pm ρ μ) g.put (l.map A) ρ μ1 with
  | nx ρ1 μ1 => rw [hx] at h; exact h
  | bk ρ1 μ1 => exact absurd hx (hn.1 ρ1 μ1)
  | ct ρ1 μ1 => exact absurd hx (hn.2 ρ1 μ1)
  | rt o μ1 => rw [hx] at h; exact h
  | er c μ1 => rw [hx] at h; exact h
  | no => rw [hx] at h; exact h.elim
theorem p_for {α : Type} {A : α → D} {w : W} {g : G} {sr : Sr} {μ1 : List Cell} {l : List α} (I : List α → List (Option D) → List Cell → Prop) (hw : w.ev pm ρ μ = .ok sr μ1) (hs : sr.list = some (l.map A)) (h0 : I l ρ μ1)
    (turn : ∀ a r ρ μ, I (a :: r) ρ μ → ∃ ρ1, g.put (A a) ρ = some ρ1 ∧ TurnP (I r) (fun ρ μ => P (c.ex pm ρ μ)) P (b.ex pm ρ1 μ)) (done : ∀ ρ μ, I [] ρ μ → P (c.ex pm ρ μ)) : P (C.ex pm (.seq (.for_ w g b) c) ρ μ) := by
  refine ex_seq ?_
  refine p_for1 (P := SeqP pm c P) I hw hs h0 (fun a r ρ μ h => ?_) done
  obtain ⟨ρ1, h1, h2⟩ := turn a r ρ μ h
  refine ⟨ρ1, h1, ?_⟩
  cases hb : b.ex pm ρ1 μ with
  | nx ρ2 μ2 => rw [hb] at h2; exact h2
  | ct ρ2 μ2 => rw [hb] at h2; exact h2
  | bk ρ2 μ2 => rw [hb] at h2; exact h2
  | rt o μ2 => rw [hb] at h2; exact h2
  | er c μ2 => rw [hb] at h2; exact h2
  | no => rw [hb] at h2; exact h2
theorem p_while1 {t : T} (I : Nat → List (Option D) → List Cell → Prop) (turn : ∀ k ρ μ, I k ρ μ → ∃ bb μ1, t.ev pm ρ μ = .ok bb μ1 ∧ (bb = false → P (.nx ρ μ1)) ∧ (bb = true → TurnP (fun ρ' μ' => ∃ j, j < k ∧ I j ρ' μ') (fun ρ μ => P (.nx ρ μ)) P (b.ex pm ρ μ1))) :
    ∀ (n k : Nat), k < n → ∀ (ρ : List (Option D)) (μ : List Cell), I k ρ μ → P (C.ex pm (.whl n t b) ρ μ)
  | 0, k, hk, ρ, μ, h => absurd hk (by omega)
  | n + 1, k, hk, ρ, μ, h => by
    obtain ⟨bb, μ1, h1, h2, h3⟩ := turn k ρ μ h
    have e : C.ex pm (.whl (n + 1) t b) ρ μ = (if bb = true then (match b.ex pm ρ μ1 with
      | .nx ρ2 μ2 => C.ex pm (.whl n t b) ρ2 μ2
      | .ct ρ2 μ2 => C.ex pm (.whl n t b) ρ2 μ2
      | .bk ρ2 μ2 => .nx ρ2 μ2
      | .rt o μ2 => .rt o μ2
      | .er c μ2 => .er c μ2
      | .no => .no) else .nx ρ μ1) := by
      rw [C.ex, whGo, h1]
      rfl
    rw [e]
    cases bb with
    | false => exact h2 rfl
    | true =>
      rw [if_pos rfl]
      have h3 := h3 rfl
      cases hb : b.ex pm ρ μ1 with
      | nx ρ2 μ2 => rw [hb] at h3; obtain ⟨j, hj, hI⟩ := h3; exact p_while1 I turn n j (by omega) ρ2 μ2 hI
      | ct ρ2 μ2 => rw [hb] at h3; obtain ⟨j, hj, hI⟩ := h3; exact p_while1 I turn n j (by omega) ρ2 μ2 hI
      | bk ρ2 μ2 => rw [hb] at h3; exact h3
      | rt o μ2 => rw [hb] at h3; exact h3
      | er c μ2 => rw [hb] at h3; exact h3
      | no => rw [hb] at h3; exact h3.elim
theorem p_while {n : Nat} {t : T} (I : Nat → List (Option D) → List Cell → Prop) (k : Nat) (hk : k < n) (h0 : I k ρ μ) (turn : ∀ k ρ μ, I k ρ μ → ∃ bb μ1, t.ev pm ρ μ = .ok bb μ1 ∧ (bb = false → P (c.ex pm ρ μ1)) ∧ (bb = true → TurnP (fun ρ' μ' => ∃ j, j < k ∧ I j ρ' μ') (fun ρ μ => P (c.ex pm ρ μ)) P (b.ex pm ρ μ1))) : P (C.ex pm (.seq (.whl n t b) c) ρ μ) := by
  refine ex_seq ?_
  refine p_while1 (P := SeqP pm c P) I (fun k ρ μ h => ?_) n k hk ρ μ h0
  obtain ⟨bb, μ1, h1, h2, h3⟩ := turn k ρ μ h
  refine ⟨bb, μ1, h1, h2, fun e => ?_⟩
  have h3 := h3 e
  cases hb : b.ex pm ρ μ1 with
  | nx ρ2 μ2 => rw [hb] at h3; exact h3
  | ct ρ2 μ2 => rw [hb] at h3; exact h3
  | bk ρ2 μ2 => rw [hb] at h3; exact h3
  | rt o μ2 => rw [hb] at h3; exact h3
  | er c μ2 => rw [hb] at h3; exact h3
  | no => rw [hb] at h3; exact h3
end
/-! ### comprehensions -/
section
variable {pm : Pm} {w : W} {g : G} {t : T} {e : X} {vs : List Nat} {ρ : List (Option D)} {μ : List Cell} {sr : Sr}
theorem lcL_eq {α : Type} {A : α → D} {f : α → Option D} {turn : D → List Cell → Rs (Option D)} : ∀ {l : List α}, (∀ a ∈ l, turn (A a) μ = .ok (f a) μ) → lcL turn (l.map A) μ = .ok (l.filterMap f) μ
  | [], _ => rfl
  | x :: r, h => by
    rw [List.map_cons, lcL, h x (by simp)]
    simp only
    rw [lcL_eq (f := f) fun a ha => h a (by simp [ha])]
    show Rs.ok ((f x).toList ++ r.filterMap f) μ = _
    rw [List.filterMap_cons]
    cases f x <;> rfl
theorem lc_gen {α : Type} {A : α → D} {f : α → Option D} {l : List α} (hw : w.ev pm ρ μ = .ok sr μ) (hs : sr.list = some (l.map A)) (hv : g.vars.all (vs.contains ·) = true) (hl : (l.filterMap f).length ≤ 100000)
    (h : ∀ a ∈ l, lcTurn g (wipeR ρ vs) (fun ρ1 μ => t.ev pm ρ1 μ) (fun ρ1 μ => (e.ev pm ρ1 μ).fz) (A a) μ = .ok (f a) μ) : X.ev pm (.lc w g t e vs) ρ μ = .ok (.own (l.filterMap f)) μ := by
  rw [X.ev, hw]
  show (lcGo _ sr μ).bind _ = _
  unfold lcGo
  rw [hs]
  simp only
  rw [lcL_eq h]
  show (if (l.filterMap f).length ≤ 100000 ∧ g.vars.all (vs.contains ·) = true then Rs.ok (O.own (l.filterMap f)) μ else .no) = _
  rw [if_pos ⟨hl, hv⟩]
theorem lcC_eq {α : Type} {A : α → D} {f : α → Option D} {turn : D → List Cell → Rs (Option D)} {l : List α} (ho : sr.ok μ = true) (hi : ∀ i, i < l.length → sr.item μ i = (l.map A)[i]?) (h : ∀ a ∈ l, turn (A a) μ = .ok (f a) μ) : ∀ (k i : Nat), i + k = l.length → lcC turn sr k i μ = .ok ((l.drop i).filterMap f) μ
  | 0, i, hk => by
    rw [lcC, if_pos ho, List.drop_of_length_le (by omega)]
    rfl
  | k + 1, i, hk => by
    have hl : i < l.length := by omega
    rw [lcC, if_pos ho, hi i hl, List.getElem?_map, List.getElem?_eq_getElem hl]
    simp only [Option.map_some]
    rw [h l[i] (List.getElem_mem hl)]
    simp only
    rw [lcC_eq ho hi h k (i + 1) (by omega), List.drop_eq_getElem_cons hl, List.filterMap_cons]
    show Rs.ok ((f l[i]).toList ++ _) μ = _
    cases f l[i] <;> rfl
/-- over things in the store -/
theorem lc_mapC {α : Type} {A G : α → D} {l : List α} (F : α → List (Option D)) (hw : w.ev pm ρ μ = .ok sr μ) (hs : sr.list = none) (ho : sr.ok μ = true) (hn : sr.len = l.length) (hi : ∀ i, i < l.length → sr.item μ i = (l.map A)[i]?) (hl : l.length ≤ 100000) (hp : ∀ a ∈ l, g.put (A a) (wipeR ρ vs) = some (F a)) (he : ∀ a ∈ l, (e.ev pm (F a) μ).fz = .ok (G a) μ)
    (hv : g.vars.all (vs.contains ·) = true := by rfl) : X.ev pm (.lc w g .yes e vs) ρ μ = .ok (.own (l.map G)) μ := by
  have e1 : l.map G = l.filterMap fun a => some (G a) := by rw [List.filterMap_eq_map']
  rw [X.ev, hw]
  show (lcGo _ sr μ).bind _ = _
  unfold lcGo
  rw [hs]
  simp only
  rw [hn, lcC_eq (A := A) (f := fun a => some (G a)) (l := l) ho hi (fun a ha => ?_) l.length 0 (by omega), List.drop_zero, ← e1]
  · show (if (l.map G).length ≤ 100000 ∧ g.vars.all (vs.contains ·) = true then Rs.ok (O.own (l.map G)) μ else .no) = _
    rw [if_pos ⟨by rw [List.length_map]; exact hl, hv⟩]
  · unfold lcTurn
    rw [hp a ha]
    simp only
    rw [T.ev]
    show (if true = true then ((e.ev pm (F a) μ).fz).bind fun x μ2 => Rs.ok (some x) μ2 else Rs.ok none μ) = _
    rw [if_pos rfl, he a ha]
    rfl
/-- without a test -/
theorem lc_map {α : Type} {A G : α → D} {l : List α} (F : α → List (Option D)) (hw : w.ev pm ρ μ = .ok sr μ) (hs : sr.list = some (l.map A)) (hl : l.length ≤ 100000) (hp : ∀ a ∈ l, g.put (A a) (wipeR ρ vs) = some (F a)) (he : ∀ a ∈ l, (e.ev pm (F a) μ).fz = .ok (G a) μ) (hv : g.vars.all (vs.contains ·) = true := by rfl) :
    X.ev pm (.lc w g .yes e vs) ρ μ = .ok (.own (l.map G)) μ := by
  have e1 : l.map G = l.filterMap fun a => some (G a) := by rw [List.filterMap_eq_map']
  rw [e1]
  refine lc_gen hw hs hv (by rw [← e1, List.length_map]; exact hl) fun a ha => ?_
  unfold lcTurn
  rw [hp a ha]
  simp only
  rw [T.ev]
  show (if true = true then ((e.ev pm (F a) μ).fz).bind fun x μ2 => Rs.ok (some x) μ2 else Rs.ok none μ) = _
  rw [if_pos rfl, he a ha]
  rfl
theorem lc_filter {α : Type} {A G : α → D} {B : α → Bool} {l : List α} (F : α → List (Option D)) (hw : w.ev pm ρ μ = .ok sr μ) (hs : sr.list = some (l.map A)) (hl : l.length ≤ 100000) (hp : ∀ a ∈ l, g.put (A a) (wipeR ρ vs) = some (F a)) (ht : ∀ a ∈ l, t.ev pm (F a) μ = .ok (B a) μ)
    (he : ∀ a ∈ l, B a = true → (e.ev pm (F a) μ).fz = .ok (G a) μ) (hv : g.vars.all (vs.contains ·) = true := by rfl) : X.ev pm (.lc w g t e vs) ρ μ = .ok (.own ((l.filter B).map G)) μ := by
  have e1 : (l.filter B).map G = l.filterMap fun a => if B a then some (G a) else none := by
    clear ht he hp hl hs
    induction l with
    | nil => rfl
    | cons x r ih =>
      rw [List.filter_cons, List.filterMap_cons]
      cases B x with
      | true => simp [ih]
      | false => simp [ih]
  rw [e1]
  refine lc_gen hw hs hv (by rw [← e1, List.length_map]; exact Nat.le_trans (List.length_filter_le _ _) hl) fun a ha => ?_
  unfold lcTurn
  rw [hp a ha]
  simp only
  rw [ht a ha]
  show (if B a = true then ((e.ev pm (F a) μ).fz).bind fun x μ2 => Rs.ok (some x) μ2 else Rs.ok none μ) = _
  cases hB : B a with
  | true => rw [if_pos rfl, he a ha hB]; rfl
  | false => rw [if_neg (by decide)]; rfl
end
/-! ### operations on ints -/
section
variable {i j : Int}
theorem opI_mul (h : (-18446744073709551616 < i ∧ i < 18446744073709551616) ∨ (-18446744073709551616 < j ∧ j < 18446744073709551616)) : opI .mul i j = some (.int (i * j)) := if_pos h
theorem opI_mulX (h : CMulX i j) : opI .mulX i j = some (.int (i * j)) := if_pos h
theorem opI_fdiv (h : 0 < j ∧ j < 1073741824) : opI .fdiv i j = some (.int (i / j)) := if_pos h
theorem opI_fdivW (h : CDivW i j) : opI .fdivW i j = some (.int (i / j)) := if_pos h
theorem opI_mod (h : 0 < j) : opI .mod i j = some (.int (i % j)) := if_pos h
theorem opI_modN (h : j ≠ 0) : opI .modN i j = some (.int (i.fmod j)) := if_pos h
theorem opI_pow (h : CPow i j) : opI .pow i j = some (.int (i ^ j.toNat)) := if_pos h
theorem opI_shr (h : 0 ≤ j) : opI .shr i j = some (.int (i / 2 ^ j.toNat)) := if_pos h
theorem opI_shl (h : CPow i j) : opI .shl i j = some (.int (i * 2 ^ j.toNat)) := if_pos h
theorem opI_add : opI .add i j = some (.int (i + j)) := rfl
theorem opI_sub : opI .sub i j = some (.int (i - j)) := rfl
theorem opI_band : opI .band i j = some (.int (Builtin.bitAnd i j)) := rfl
theorem opI_lt : opI .lt i j = some (.bl (decide (i < j))) := rfl
theorem opI_le : opI .le i j = some (.bl (decide (i ≤ j))) := rfl
theorem opI_gt : opI .gt i j = some (.bl (decide (j < i))) := rfl
theorem opI_ge : opI .ge i j = some (.bl (decide (j ≤ i))) := rfl
end
/-! ### isinstance -/
section
variable {μ : List Cell}
theorem ty_int_int (i : Int) : tyIs .int μ (.int i) = some true := by simp [tyIs, tyOf, isTy]
theorem ty_bool_int (i : Int) : tyIs .bool μ (.int i) = some false := by simp [tyIs, tyOf, isTy]
theorem ty_tuple_tup (ds : List D) : tyIs .tuple μ (.tup ds) = some true := by simp [tyIs, tyOf, isTy]
theorem ty_list_lst (ds : List D) : tyIs .list μ (.lst ds) = some true := by simp [tyIs, tyOf, isTy]
theorem ty_list_loc {n : Nat} {ds : List D} (h : μ[n]? = some (.lst ds)) : tyIs .list μ (.loc n) = some true := by simp [tyIs, tyOf, isTy, h]
end
/-! ### data without places -/
theorem noLocs_iff : ∀ {ds : List D}, noLocs ds = true ↔ ∀ d ∈ ds, noLoc d = true
  | [] => by simp [noLocs]
  | d :: ds => by
    rw [noLocs, Bool.and_eq_true, noLocs_iff]
    simp
theorem noLocs_map {α : Type} {A : α → D} (h : ∀ a, noLoc (A a) = true) (l : List α) : noLocs (l.map A) = true := noLocs_iff.mpr fun d hd => by
  obtain ⟨a, _, rfl⟩ := List.mem_map.mp hd
  exact h a
theorem noLocs_ints (ns : List Int) : noLocs (ns.map D.int) = true := noLocs_map (fun _ => rfl) ns
end EM

/-! plain: tariffs, costs, the draws of the laws -/
namespace GC
open PySem PySem.Spec PyProof.Rows L2 EM
def prD (p : Int × Int) : D := .tup [.int p.1, .int p.2]
def tiersD (ts : List (Int × Int)) : D := .lst (ts.map prD)
abbrev Tariff := List (Int × Int) × List (Int × Int)
def tariffD (t : Tariff) : D := .tup [tiersD t.1, tiersD t.2]
def intsD (ns : List Int) : D := .lst (ns.map .int)

def isCount (d : D) (a b : Int) : Bool := match d with
  | .int i => decide (a ≤ i) && decide (i ≤ b)
  | _ => false
def isTier (d : D) (a b : Int) : Bool := match d with
  | .tup [x, y] => isCount x 0 36 && isCount y a b
  | _ => false
def firstOf : D → Int
  | .tup (.int i :: _) => i
  | _ => 0
def risingB : List Int → Bool
  | a :: b :: r => decide (a < b) && risingB (b :: r)
  | _ => true
def areTiers (d : D) (a b : Int) : Bool := match d with
  | .lst xs => (decide (1 ≤ (xs.length : Int)) && decide ((xs.length : Int) ≤ 3)) && (xs.all (isTier · a b) && (decide (((xs.map firstOf).getD 0 0) = 0) && risingB (xs.map firstOf)))
  | _ => false
def isTariff (d : D) : Bool := match d with
  | .tup [x, y] => areTiers x 1 60 && areTiers y 0 200
  | _ => false
/-- the amount of the last tier reached -/
def lastOf (ts : List (Int × Int)) (c : Int) : Option Int := ((ts.filter fun p => decide (p.1 ≤ c)).map (·.2)).getLast?
/-- tiers as they are due -/
structure Tiers (ts : List (Int × Int)) (a b : Int) : Prop where
  least : 1 ≤ ts.length
  most : ts.length ≤ 3
  each : ∀ p ∈ ts, (0 ≤ p.1 ∧ p.1 ≤ 36) ∧ a ≤ p.2 ∧ p.2 ≤ b
  first : (ts.map (·.1)).head? = some 0
  rise : risingB (ts.map (·.1)) = true
structure Tar (t : Tariff) : Prop where
  pr : Tiers t.1 1 60
  ca : Tiers t.2 0 200
def amt (ts : List (Int × Int)) (c : Int) : Int := (lastOf ts c).getD 0
def costOf (t : Tariff) (c : Int) : Int := if c = 0 then 0 else c * amt t.1 c + amt t.2 c
theorem tiers_last {ts : List (Int × Int)} {a b c : Int} (h : Tiers ts a b) (hc : 0 ≤ c) : lastOf ts c = some (amt ts c) ∧ a ≤ amt ts c ∧ amt ts c ≤ b := by
  obtain ⟨p, r, e⟩ : ∃ p r, ts = p :: r := by
    cases ts with
    | nil => have := h.least; simp at this
    | cons p r => exact ⟨p, r, rfl⟩
  have h0 : p.1 = 0 := by have := h.first; rw [e] at this; simpa using this
  have hm : p ∈ ts.filter fun p => decide (p.1 ≤ c) := by
    rw [List.mem_filter]
    exact ⟨by rw [e]; simp, by rw [h0]; simpa using hc⟩
  have hne : (ts.filter fun p => decide (p.1 ≤ c)).map (·.2) ≠ [] := by
    intro z
    rw [List.map_eq_nil_iff] at z
    rw [z] at hm
    simp at hm
  unfold amt lastOf
  rw [List.getLast?_eq_getLast hne]
  refine ⟨rfl, ?_⟩
  have hl := List.getLast_mem hne
  obtain ⟨q, hq, e2⟩ := List.mem_map.mp hl
  have := h.each q (List.mem_filter.mp hq).1
  show a ≤ ((ts.filter fun p => decide (p.1 ≤ c)).map (·.2)).getLast hne ∧ _ ≤ b
  rw [← e2]
  exact this.2
/-- the counts c + 1 .. 36 -/
def above (c : Int) : List Int := (List.range (36 + 1 - (c + 1)).toNat).map fun (i : Nat) => c + 1 + i
def cheaperOf (t : Tariff) (c : Int) : Option Int := (above c).find? fun m => decide (costOf t m < costOf t c)
def optD : Option Int → D
  | some i => .int i
  | none => .non
theorem isTier_pair {p : Int × Int} {a b : Int} (h : (0 ≤ p.1 ∧ p.1 ≤ 36) ∧ a ≤ p.2 ∧ p.2 ≤ b) : isTier (prD p) a b = true := by
  simp [isTier, prD, isCount, h.1.1, h.1.2, h.2.1, h.2.2]
theorem first_pairs (ts : List (Int × Int)) : (ts.map prD).map firstOf = ts.map (·.1) := by
  rw [List.map_map]
  exact List.map_congr_left fun p _ => rfl
theorem areTiers_of {ts : List (Int × Int)} {a b : Int} (h : Tiers ts a b) : areTiers (tiersD ts) a b = true := by
  have h1 := h.least
  have h2 := h.most
  have h4 : ((ts.map prD).map firstOf).getD 0 0 = 0 := by
    rw [first_pairs]
    have := h.first
    cases ts with
    | nil => rfl
    | cons p r => simpa using this
  show ((decide (1 ≤ ((ts.map prD).length : Int)) && decide (((ts.map prD).length : Int) ≤ 3)) && ((ts.map prD).all (isTier · a b) && (decide ((((ts.map prD).map firstOf).getD 0 0) = 0) && risingB ((ts.map prD).map firstOf)))) = true
  rw [h4, first_pairs, h.rise, List.length_map, decide_eq_true (show (1 : Int) ≤ ts.length by omega), decide_eq_true (show (ts.length : Int) ≤ 3 by omega)]
  have : (ts.map prD).all (isTier · a b) = true := by
    rw [List.all_map, List.all_eq_true]
    exact fun p hp => isTier_pair (h.each p hp)
  rw [this]
  rfl
theorem isTariff_of {t : Tariff} (h : Tar t) : isTariff (tariffD t) = true := by
  show (areTiers (tiersD t.1) 1 60 && areTiers (tiersD t.2) 0 200) = true
  rw [areTiers_of h.pr, areTiers_of h.ca]
  rfl
theorem atI_last' {α : Type} {l : List α} {x : α} (h : l.getLast? = some x) : atI l (-1) = some x := by
  have hne : l ≠ [] := by intro z; rw [z] at h; simp at h
  have e : l = l.dropLast ++ [x] := by
    rw [List.getLast?_eq_getLast hne] at h
    have := List.dropLast_concat_getLast hne
    rw [Option.some.inj h] at this
    exact this.symm
  rw [e]
  exact atI_last _ _
theorem last_at {ts : List (Int × Int)} {c v : Int} (h : lastOf ts c = some v) : atI ((ts.filter fun p => decide (p.1 ≤ c)).map fun p => D.int p.2) (-1) = some (.int v) := by
  refine atI_last' ?_
  unfold lastOf at h
  have e : ((ts.filter fun p => decide (p.1 ≤ c)).map fun p => D.int p.2) = ((ts.filter fun p => decide (p.1 ≤ c)).map (·.2)).map D.int := by rw [List.map_map]; rfl
  rw [e, List.getLast?_map, h]
  rfl
def cellAt (ns : List Int) (k : Int) : Int := ns.getD k.toNat 0
theorem cell_ix {ns : List Int} {k : Int} (h0 : 0 ≤ k) (hk : k < (ns.length : Int)) : atI (ns.map D.int) k = some (.int (cellAt ns k)) := by
  obtain ⟨j, rfl⟩ := Int.eq_ofNat_of_zero_le h0
  have hj : j < ns.length := by omega
  refine atI_nat ?_
  rw [List.getElem?_map, List.getElem?_eq_getElem hj]
  unfold cellAt
  rw [Int.toNat_natCast, List.getD_eq_getElem?_getD, List.getElem?_eq_getElem hj]
  rfl
theorem cell_out {ns : List Int} {k : Int} (hk : ¬ k < (ns.length : Int)) : cellAt ns k = 0 := by
  unfold cellAt
  rw [List.getD_eq_getElem?_getD, List.getElem?_eq_none (by omega)]
  rfl
def primes : List Int := [1000003, 1000033, 1000037, 1000039, 1000081, 1000099, 1000117, 1000121, 1000133, 1000151, 1000159, 1000171, 1000183, 1000187, 1000193, 1000199]
def drawOf (c k m : Int) : Int := (c * 48271 + k * 69621) % (primes.getD (k % 16).toNat 1) % m
theorem prime_at {k : Int} (hk : 0 ≤ k) : atI (primes.map D.int) (k % 16) = some (.int (primes.getD (k % 16).toNat 1)) ∧ 0 < primes.getD (k % 16).toNat 1 := by
  have h0 := Int.emod_nonneg k (show (16 : Int) ≠ 0 by decide)
  have h1 := Int.emod_lt_of_pos k (show (0 : Int) < 16 by decide)
  obtain ⟨j, e⟩ := Int.eq_ofNat_of_zero_le h0
  rw [e] at h1 ⊢
  have hj : j < 16 := by omega
  rw [Int.toNat_natCast]
  constructor
  · refine atI_nat ?_
    rw [List.getElem?_map, List.getElem?_eq_getElem (show j < primes.length from hj), List.getD_eq_getElem?_getD, List.getElem?_eq_getElem (show j < primes.length from hj)]
    rfl
  · have : ∀ j < 16, 0 < primes.getD j 1 := by decide
    exact this j hj
theorem amount_find (ts : List (Int × Int)) (c : Int) : amt ts c = ((ts.reverse.find? fun p => decide (p.1 ≤ c)).map (·.2)).getD 0 := by
  unfold amt lastOf
  rw [List.getLast?_map, List.getLast?_filter]
theorem isTier_len {ds : List D} {a b : Int} (h : ds.length ≠ 2) : isTier (.tup ds) a b = false := by
  match ds, h with
  | [], _ => rfl
  | [_], _ => rfl
  | [_, _], h => exact absurd rfl h
  | _ :: _ :: _ :: _, _ => rfl
def valueOf (c t : Int) : Int := if (10 : Int) ^ 18 ≤ c then (c - 10 ^ 18) % 10 ^ 40 / 2 ^ (3 * t).toNat
  else drawOf ((c + 977 * t) * (c + 31 * t + 5)) (t % 9 + 1) 999983 * 1000003 + drawOf ((c + 31 * t) * (c + 7) + 977 * t) (t % 7 + 2) 1000003
theorem drawOf_nn (c k m : Int) (h : 0 < m) : 0 ≤ drawOf c k m := Int.emod_nonneg _ (by omega)
theorem valueOf_nn (c t : Int) : 0 ≤ valueOf c t := by
  unfold valueOf
  split
  · exact Int.ediv_nonneg (Int.emod_nonneg _ (by decide)) (Int.le_of_lt (Int.pow_pos (by decide)))
  · have h1 := drawOf_nn ((c + 977 * t) * (c + 31 * t + 5)) (t % 9 + 1) 999983 (by decide)
    have h2 := drawOf_nn ((c + 31 * t) * (c + 7) + 977 * t) (t % 7 + 2) 1000003 (by decide)
    omega
theorem pow_more {x y n : Nat} (hx : x < 2 ^ n) (hy : y < 2 ^ 20) : x + y < 2 ^ (n + 21) := by
  have h1 : 2 ^ (n + 21) = 2 ^ n * 2 ^ 21 := Nat.pow_add 2 n 21
  have h2 : 0 < 2 ^ n := Nat.pow_pos (by decide)
  rw [h1]
  have e21 : (2 : Nat) ^ 21 = 2097152 := by decide
  have e20 : (2 : Nat) ^ 20 = 1048576 := by decide
  rw [e21]
  rw [e20] at hy
  generalize (2 : Nat) ^ n = m at hx h2 ⊢
  omega
theorem abs_more {c k : Int} {n : Nat} (hc : c.natAbs < 2 ^ n) (hk : k.natAbs < 2 ^ 20) : (c + k).natAbs < 2 ^ (n + 21) :=
  Nat.lt_of_le_of_lt (Int.natAbs_add_le c k) (pow_more hc hk)
theorem value_mul1 {c t : Int} {n : Nat} (hc : c.natAbs < 2 ^ n) (hn : n ≤ 10000000) (h0 : 0 ≤ t) (h1 : t ≤ 1000) : CMulX (c + 977 * t) (c + 31 * t + 5) := by
  have e20 : (2 : Nat) ^ 20 = 1048576 := by decide
  have a := abs_more (k := 977 * t) hc (by rw [e20]; omega)
  have b := abs_more (k := 31 * t + 5) hc (by rw [e20]; omega)
  rw [← Int.add_assoc] at b
  exact mulx_ok a b (by omega)
theorem value_mul2 {c t : Int} {n : Nat} (hc : c.natAbs < 2 ^ n) (hn : n ≤ 10000000) (h0 : 0 ≤ t) (h1 : t ≤ 1000) : CMulX (c + 31 * t) (c + 7) := by
  have e20 : (2 : Nat) ^ 20 = 1048576 := by decide
  have a := abs_more (k := 31 * t) hc (by rw [e20]; omega)
  have b := abs_more (k := 7) hc (by rw [e20]; omega)
  exact mulx_ok a b (by omega)
theorem isCount_is {x : D} {a b : Int} (h : isCount x a b = true) : ∃ i, x = .int i ∧ a ≤ i ∧ i ≤ b := by
  cases x with
  | int i =>
    have h' : (decide (a ≤ i) && decide (i ≤ b)) = true := h
    rw [Bool.and_eq_true, decide_eq_true_eq, decide_eq_true_eq] at h'
    exact ⟨i, rfl, h'⟩
  | _ => cases h
theorem isCount_of {i a b : Int} (h : a ≤ i) (h2 : i ≤ b) : isCount (.int i) a b = true := by
  show (decide (a ≤ i) && decide (i ≤ b)) = true
  rw [decide_eq_true h, decide_eq_true h2]
  rfl
theorem isTier_is2 {x : D} {a b : Int} (h : isTier x a b = true) : ∃ p q, x = .tup [.int p, .int q] ∧ (0 ≤ p ∧ p ≤ 36) ∧ a ≤ q ∧ q ≤ b := by
  match x, h with
  | .tup [x, y], h =>
    have h' : (isCount x 0 36 && isCount y a b) = true := h
    rw [Bool.and_eq_true] at h'
    obtain ⟨p, rfl, hp⟩ := isCount_is h'.1
    obtain ⟨q, rfl, hq⟩ := isCount_is h'.2
    exact ⟨p, q, rfl, hp, hq⟩
theorem isTier_is {x : D} {a b : Int} (h : isTier x a b = true) : ∃ p y, x = .tup [.int p, y] := by
  obtain ⟨p, q, e, _⟩ := isTier_is2 h
  exact ⟨p, _, e⟩
theorem isTariff_is {d : D} (h : isTariff d = true) : ∃ x y, d = .tup [x, y] ∧ areTiers x 1 60 = true ∧ areTiers y 0 200 = true := by
  match d, h with
  | .tup [x, y], h =>
    have h' : (areTiers x 1 60 && areTiers y 0 200) = true := h
    rw [Bool.and_eq_true] at h'
    exact ⟨x, y, rfl, h'⟩
theorem all_id {α : Type} (f : α → Bool) (xs : List α) : (xs.map f).all id = xs.all f := by
  rw [List.all_map]
  rfl
theorem any_id {α : Type} (f : α → Bool) (xs : List α) : (xs.map f).any id = xs.any f := by
  rw [List.any_map]
  rfl
def pairsOf {α : Type} (xs : List α) : List (α × α) := xs.zip (xs.drop 1)
theorem pairsOf_len {α : Type} (xs : List α) : (pairsOf xs).length ≤ xs.length := by
  unfold pairsOf
  rw [List.length_zip]
  omega
theorem rising_pairs : ∀ xs : List D, (pairsOf xs).all (fun q => decide (firstOf q.1 < firstOf q.2)) = risingB (xs.map firstOf)
  | [] => rfl
  | [_] => rfl
  | a :: b :: r => by
    have ih := rising_pairs (b :: r)
    show (decide (firstOf a < firstOf b) && (pairsOf (b :: r)).all (fun q => decide (firstOf q.1 < firstOf q.2))) = (decide (firstOf a < firstOf b) && risingB ((b :: r).map firstOf))
    rw [ih]
theorem above_bound {c : Int} (h0 : 0 ≤ c) (h1 : c ≤ 36) : ∀ m ∈ above c, 0 ≤ m ∧ m ≤ 1000 := fun m hm => by
  unfold above at hm
  obtain ⟨i, hi, rfl⟩ := List.mem_map.mp hm
  rw [List.mem_range] at hi
  omega
theorem risingB_iff : ∀ l : List Int, risingB l = true ↔ l.Pairwise (· < ·)
  | [] => by simp [risingB]
  | [a] => by simp [risingB]
  | a :: b :: r => by
    have ih := risingB_iff (b :: r)
    show (decide (a < b) && risingB (b :: r)) = true ↔ _
    rw [Bool.and_eq_true, decide_eq_true_eq, ih, List.pairwise_cons (a := a)]
    constructor
    · rintro ⟨h1, h2⟩
      refine ⟨fun x hx => ?_, h2⟩
      rcases List.mem_cons.mp hx with e | e
      · rw [e]; exact h1
      · exact Int.lt_trans h1 ((List.pairwise_cons.mp h2).1 x e)
    · rintro ⟨h1, h2⟩
      exact ⟨h1 b (by simp), h2⟩
def numberOf (ns : List Int) (by_ at_ : Int) : Int := valueOf (cellAt ns (by_ + at_ % 3) + 17 * at_) (4 + at_) / 3
def wideOf (v : Int) : Int := ([3, 6, 18, 4] : List Int).getD (v / 1000 % 4).toNat 1
def countNext (v count num : Int) : Int := count + 1 + num % wideOf v
def amountNext (fal : Bool) (least most amount num : Int) : Int :=
  if fal && decide (amount < least + num / 12 % (most - least + 1)) then least + (amount - least) / (2 + num / 2000 % 3) else least + num / 12 % (most - least + 1)
def tiersGo (ns : List Int) (by_ least most : Int) (fal : Bool) (v : Int) : List Int → List (Int × Int) → Int → Int → List (Int × Int)
  | [], found, _, _ => found
  | a :: r, found, count, amount =>
    if 36 < countNext v count (numberOf ns by_ a) then found ++ [(count, amount)]
    else tiersGo ns by_ least most fal v r (found ++ [(count, amount)]) (countNext v count (numberOf ns by_ a)) (amountNext fal least most amount (numberOf ns by_ a))
def natsI (n : Nat) : List Int := (List.range n).map fun (i : Nat) => (i : Int)
def tiersOf (ns : List Int) (by_ least most : Int) (fal : Bool) : List (Int × Int) :=
  tiersGo ns by_ least most fal (valueOf (cellAt ns by_) 3) (natsI (1 + valueOf (cellAt ns by_) 3 % 3).toNat) [] 0 (least + valueOf (cellAt ns by_) 3 / 5 % (most - least + 1))
theorem wideOf_pos (v : Int) : 1 ≤ wideOf v ∧ wideOf v ≤ 18 ∧ atI ([D.int 3, .int 6, .int 18, .int 4]) (v / 1000 % 4) = some (.int (wideOf v)) := by
  have h0 := Int.emod_nonneg (v / 1000) (show (4 : Int) ≠ 0 by decide)
  have h1 := Int.emod_lt_of_pos (v / 1000) (show (0 : Int) < 4 by decide)
  unfold wideOf
  generalize v / 1000 % 4 = m at h0 h1 ⊢
  have h : m = 0 ∨ m = 1 ∨ m = 2 ∨ m = 3 := by omega
  rcases h with rfl | rfl | rfl | rfl <;> exact ⟨by decide, by decide, rfl⟩
theorem amountNext_in {fal : Bool} {least most amount num : Int} (h : least ≤ amount) (h2 : amount ≤ most) : least ≤ amountNext fal least most amount num ∧ amountNext fal least most amount num ≤ most := by
  unfold amountNext
  split
  · have d0 : 0 ≤ num / 2000 % 3 := Int.emod_nonneg _ (by decide)
    have e1 : 0 ≤ (amount - least) / (2 + num / 2000 % 3) := Int.ediv_nonneg (by omega) (by omega)
    have e2 : (amount - least) / (2 + num / 2000 % 3) ≤ amount - least := Int.ediv_le_self _ (by omega)
    omega
  · have d0 : 0 ≤ num / 12 % (most - least + 1) := Int.emod_nonneg _ (by omega)
    have d1 : num / 12 % (most - least + 1) < most - least + 1 := Int.emod_lt_of_pos _ (by omega)
    omega
structure Found (found : List (Int × Int)) (count a b : Int) : Prop where
  each : ∀ p ∈ found, (0 ≤ p.1 ∧ p.1 ≤ 36) ∧ a ≤ p.2 ∧ p.2 ≤ b
  rise : (found.map (·.1) ++ [count]).Pairwise (· < ·)
  first : (found.map (·.1) ++ [count]).head? = some 0
theorem Found.more {found : List (Int × Int)} {count a b c' amount : Int} (h : Found found count a b) (h0 : 0 ≤ count) (h1 : count ≤ 36) (ha : a ≤ amount) (hb : amount ≤ b) (hc : count < c') : Found (found ++ [(count, amount)]) c' a b := by
  refine ⟨fun p hp => ?_, ?_, ?_⟩
  · rcases List.mem_append.mp hp with z | z
    · exact h.each p z
    · rw [List.mem_singleton.mp z]
      exact ⟨⟨h0, h1⟩, ha, hb⟩
  · rw [List.map_append, List.pairwise_append]
    refine ⟨h.rise, by simp, fun x hx y hy => ?_⟩
    rw [List.mem_singleton.mp hy]
    have hr := List.pairwise_append.mp h.rise
    rcases List.mem_append.mp hx with z | z
    · exact Int.lt_trans (hr.2.2 x z count (by simp)) hc
    · have : x = count := by simpa using z
      omega
  · have := h.first
    rw [List.map_append]
    cases hf : found.map (·.1) ++ [count] with
    | nil => simp at hf
    | cons x r =>
      rw [hf] at this
      show ((found.map (·.1) ++ [count]) ++ [c']).head? = some 0
      rw [hf]
      exact this
theorem tiersGo_ok {ns : List Int} {by_ least most : Int} {fal : Bool} {v : Int} : ∀ (l : List Int) (found : List (Int × Int)) (count amount : Int), Found found count least most → 0 ≤ count → count ≤ 36 → least ≤ amount → amount ≤ most → (∀ a ∈ l, 0 ≤ numberOf ns by_ a) →
    found.length + l.length ≤ 3 → (found ≠ [] ∨ l ≠ []) → Tiers (tiersGo ns by_ least most fal v l found count amount) least most
  | [], found, count, amount, h, h0, h1, ha, hb, hn, hl, hne => by
    have hne : found ≠ [] := by simpa using hne
    have hlen : 1 ≤ found.length := by
      cases found with
      | nil => exact absurd rfl hne
      | cons x r => simp
    show Tiers found least most
    refine ⟨hlen, by simpa using hl, h.each, ?_, ?_⟩
    · have := h.first
      cases found with
      | nil => exact absurd rfl hne
      | cons x r => simpa using this
    · rw [risingB_iff]
      exact (List.pairwise_append.mp h.rise).1
  | a :: r, found, count, amount, h, h0, h1, ha, hb, hn, hl, hne => by
    have hw := wideOf_pos v
    have hnum := hn a (by simp)
    have hc : count < countNext v count (numberOf ns by_ a) := by
      unfold countNext
      have := Int.emod_nonneg (numberOf ns by_ a) (show wideOf v ≠ 0 by omega)
      omega
    have hm := h.more h0 h1 ha hb hc
    unfold tiersGo
    split
    · refine ⟨by simp, by rw [List.length_append]; simp at hl ⊢; omega, hm.each, ?_, ?_⟩
      · have := hm.first
        rw [List.map_append] at this ⊢
        cases found with
        | nil => simpa using this
        | cons x r => simpa using this
      · rw [risingB_iff]
        exact (List.pairwise_append.mp hm.rise).1
    · rename_i hgt
      have hr := amountNext_in (fal := fal) (num := numberOf ns by_ a) ha hb
      refine tiersGo_ok r _ _ _ hm (by omega) (by omega) hr.1 hr.2 (fun x hx => hn x (by simp [hx])) (by simp at hl ⊢; omega) (.inl (by simp))
theorem numberOf_nn (ns : List Int) (b a : Int) : 0 ≤ numberOf ns b a := Int.ediv_nonneg (valueOf_nn _ _) (by decide)
theorem tiersOf_ok (ns : List Int) (by_ : Int) {least most : Int} (fal : Bool) (h : least ≤ most) : Tiers (tiersOf ns by_ least most fal) least most := by
  have d0 : 0 ≤ valueOf (cellAt ns by_) 3 / 5 % (most - least + 1) := Int.emod_nonneg _ (by omega)
  have d1 : valueOf (cellAt ns by_) 3 / 5 % (most - least + 1) < most - least + 1 := Int.emod_lt_of_pos _ (by omega)
  have e0 : 0 ≤ valueOf (cellAt ns by_) 3 % 3 := Int.emod_nonneg _ (by decide)
  have e1 : valueOf (cellAt ns by_) 3 % 3 < 3 := Int.emod_lt_of_pos _ (by decide)
  unfold tiersOf
  refine tiersGo_ok _ _ _ _ ⟨by simp, by simp, by simp⟩ (by decide) (by decide) (by omega) (by omega) (fun a _ => numberOf_nn ns by_ a) ?_ (.inr ?_)
  · simp [natsI]
    omega
  · simp [natsI]
    omega
/-- cells of a script that the draws take -/
def Cells (ns : List Int) : Prop := ∃ n, n ≤ 2000000 ∧ ∀ c ∈ ns, c.natAbs < 2 ^ n
theorem Cells.at {ns : List Int} (h : Cells ns) (k : Int) : ∃ n, n ≤ 2000000 ∧ (cellAt ns k).natAbs < 2 ^ n := by
  obtain ⟨n, h1, h2⟩ := h
  refine ⟨n, h1, ?_⟩
  unfold cellAt
  rw [List.getD_eq_getElem?_getD]
  cases e : ns[k.toNat]? with
  | none => exact Nat.pow_pos (by decide)
  | some c => exact h2 c (List.mem_of_getElem? e)
theorem Cells.more {ns : List Int} (h : Cells ns) (k j : Int) (hj : j.natAbs < 2 ^ 20) : ∃ n, n ≤ 10000000 ∧ (cellAt ns k + j).natAbs < 2 ^ n := by
  obtain ⟨n, h1, h2⟩ := h.at k
  exact ⟨n + 21, by omega, abs_more h2 hj⟩
def kindOf' (ns : List Int) (b : Int) : Int := valueOf (cellAt ns b) 2 % 4
def mostOf (k : Int) : Int := ([200, 30, 200, 9] : List Int).getD k.toNat 0
def tariffOf (ns : List Int) (b : Int) : Tariff := (tiersOf ns b 1 60 (decide (0 < kindOf' ns b)), tiersOf ns (b + 1) 0 (mostOf (kindOf' ns b)) (decide (kindOf' ns b = 2)))
theorem mostOf_ok {k : Int} (h0 : 0 ≤ k) (h1 : k < 4) : 0 ≤ mostOf k ∧ mostOf k ≤ 200 ∧ atI ([D.int 200, .int 30, .int 200, .int 9]) k = some (.int (mostOf k)) := by
  have h : k = 0 ∨ k = 1 ∨ k = 2 ∨ k = 3 := by omega
  unfold mostOf
  rcases h with rfl | rfl | rfl | rfl <;> exact ⟨by decide, by decide, rfl⟩
theorem kind_in (ns : List Int) (b : Int) : 0 ≤ kindOf' ns b ∧ kindOf' ns b < 4 := ⟨Int.emod_nonneg _ (by decide), Int.emod_lt_of_pos _ (by decide)⟩
theorem Tiers.wider {ts : List (Int × Int)} {a b c : Int} (h : Tiers ts a b) (hb : b ≤ c) : Tiers ts a c := ⟨h.least, h.most, fun p hp => ⟨(h.each p hp).1, (h.each p hp).2.1, Int.le_trans (h.each p hp).2.2 hb⟩, h.first, h.rise⟩
theorem tariffOf_ok (ns : List Int) (b : Int) : Tar (tariffOf ns b) := by
  have hk := kind_in ns b
  have hm := mostOf_ok hk.1 hk.2
  exact ⟨tiersOf_ok ns b _ (by decide), (tiersOf_ok ns (b + 1) _ hm.1).wider hm.2.1⟩
theorem mem_natsI {n : Nat} {c : Int} (h : c ∈ natsI n) : 0 ≤ c ∧ c < n := by
  unfold natsI at h
  obtain ⟨i, hi, rfl⟩ := List.mem_map.mp h
  rw [List.mem_range] at hi
  omega
theorem natsI_get {n i : Nat} (h : i < n) : (natsI n)[i]? = some (i : Int) := by
  unfold natsI
  rw [List.getElem?_map, List.getElem?_range h]
  rfl
def dueOf (t : Tariff) : List Int := (natsI 37).map (costOf t)
theorem due_at {t : Tariff} {c : Int} (h0 : 0 ≤ c) (h1 : c ≤ 36) : atI ((dueOf t).map D.int) c = some (.int (costOf t c)) := by
  obtain ⟨j, rfl⟩ := Int.eq_ofNat_of_zero_le h0
  refine atI_nat ?_
  unfold dueOf
  rw [List.getElem?_map, List.getElem?_map, natsI_get (by omega)]
  rfl
/-- the greater counts that cost less, by the costs as told -/
def moreOf (t : Tariff) (c : Int) : List Int := (above c).filter fun m => decide (costOf t m < costOf t c)
theorem cheaper_more (t : Tariff) (c : Int) : cheaperOf t c = (moreOf t c).head? := by
  unfold cheaperOf moreOf
  rw [List.head?_filter]
/-- the tariff with its first price turned about and its last carriage 7 -/
def turned (t : Tariff) : Tariff := (t.1.set 0 (0, 61 - (t.1.getD 0 (0, 0)).2), t.2.set (t.2.length - 1) ((t.2.getD (t.2.length - 1) (0, 0)).1, 7))
theorem risingB_set {ts : List (Int × Int)} {k : Nat} {p : Int × Int} (h : ∀ q, ts[k]? = some q → p.1 = q.1) : (ts.set k p).map (·.1) = ts.map (·.1) := by
  refine List.ext_getElem? fun i => ?_
  rw [List.getElem?_map, List.getElem?_map]
  by_cases e : k = i
  · subst e
    by_cases hk : k < ts.length
    · rw [List.getElem?_set_self hk, List.getElem?_eq_getElem hk]
      show some p.1 = some ts[k].1
      rw [h _ (List.getElem?_eq_getElem hk)]
    · rw [List.getElem?_eq_none (by simpa using hk), List.getElem?_eq_none (by omega)]
  · rw [List.getElem?_set_ne e]
theorem Tiers.set {ts : List (Int × Int)} {a b : Int} {k : Nat} {p : Int × Int} (h : Tiers ts a b) (hp : ∀ q, ts[k]? = some q → p.1 = q.1) (ha : a ≤ p.2) (hb : p.2 ≤ b) : Tiers (ts.set k p) a b := by
  have e := risingB_set hp
  refine ⟨by rw [List.length_set]; exact h.least, by rw [List.length_set]; exact h.most, fun q hq => ?_, by rw [e]; exact h.first, by rw [e]; exact h.rise⟩
  rcases List.mem_or_eq_of_mem_set hq with z | z
  · exact h.each q z
  · by_cases hk : k < ts.length
    · have := h.each ts[k] (List.getElem_mem hk)
      subst z
      refine ⟨?_, ha, hb⟩
      rw [hp _ (List.getElem?_eq_getElem hk)]
      exact this.1
    · rw [List.set_eq_of_length_le (by omega)] at hq
      exact h.each q hq
theorem tiers_head {ts : List (Int × Int)} {a b : Int} (h : Tiers ts a b) : ∃ p r, ts = (0, p) :: r ∧ a ≤ p ∧ p ≤ b := by
  cases ts with
  | nil => have := h.least; simp at this
  | cons q r =>
    have h0 : q.1 = 0 := by simpa using h.first
    have := h.each q (by simp)
    exact ⟨q.2, r, by rw [← h0], this.2⟩
theorem turned_ok {t : Tariff} (h : Tar t) : Tar (turned t) := by
  obtain ⟨p, r, e, h1, h2⟩ := tiers_head h.pr
  refine ⟨h.pr.set (fun q hq => ?_) ?_ ?_, h.ca.set (fun q hq => ?_) (show (0 : Int) ≤ 7 by decide) (show (7 : Int) ≤ 200 by decide)⟩
  · rw [e] at hq
    simp at hq
    rw [← hq]
  · rw [e]
    show 1 ≤ 61 - p
    omega
  · rw [e]
    show 61 - p ≤ 60
    omega
  · show (t.2.getD (t.2.length - 1) (0, 0)).1 = q.1
    rw [List.getD_eq_getElem?_getD, hq]
    rfl
theorem above_in {c m : Int} (h0 : 0 ≤ c) (h : m ∈ above c) : 0 ≤ m ∧ m ≤ 36 := by
  unfold above at h
  obtain ⟨i, hi, rfl⟩ := List.mem_map.mp h
  rw [List.mem_range] at hi
  omega
theorem ixN_zero {n : Nat} (h : 1 ≤ n) : ixN n 0 = some 0 := by
  unfold ixN
  rw [if_pos (by decide), if_pos (by omega)]
  rfl
def tarLast : Tariff := ([(0, 9), (36, 1)], [(0, 0)])
theorem tarLast_ok : Tar tarLast := ⟨⟨by decide, by decide, by decide, rfl, rfl⟩, ⟨by decide, by decide, by decide, rfl, rfl⟩⟩
def tarTen : Tariff := ([(0, 10), (5, 7)], [(0, 20), (10, 0)])
theorem tarTen_ok : Tar tarTen := ⟨⟨by decide, by decide, by decide, rfl, rfl⟩, ⟨by decide, by decide, by decide, rfl, rfl⟩⟩
theorem ixN_last {n : Nat} (h : 1 ≤ n) : ixN n (-1) = some (n - 1) := by
  unfold ixN
  rw [if_neg (by decide), if_pos (by omega)]
  congr 1
  omega
theorem atI_pr_last {ts : List (Int × Int)} (h : 1 ≤ ts.length) : atI (ts.map prD) (-1) = some (prD (ts.getD (ts.length - 1) (0, 0))) := by
  unfold atI
  rw [List.length_map, ixN_last h]
  show (ts.map prD)[ts.length - 1]? = _
  rw [List.getElem?_map, List.getD_eq_getElem?_getD, List.getElem?_eq_getElem (show ts.length - 1 < ts.length by omega)]
  rfl
/-- 0, 2, 4, .. -/
def evens (n : Nat) : List Int := (List.range n).map fun (i : Nat) => 0 + (i : Int) * 2
theorem mem_evens {n : Nat} {c : Int} (h : c ∈ evens n) (hn : n ≤ 5) : 0 ≤ c ∧ c ≤ 8 := by
  unfold evens at h
  obtain ⟨i, hi, rfl⟩ := List.mem_map.mp h
  rw [List.mem_range] at hi
  omega
theorem abs_bits {z : Int} {n : Nat} (h : Builtin.Int.intBits z ≤ n) : z.natAbs < 2 ^ n := by
  refine Nat.lt_of_lt_of_le ?_ (Nat.pow_le_pow_right (by decide) h)
  unfold Builtin.Int.intBits
  split
  · rename_i e
    have : z = 0 := by simpa using e
    subst this
    exact Nat.pow_pos (by decide)
  · exact Nat.lt_log2_self
theorem cells_of {ns : List Int} (h : ∀ z ∈ ns, Builtin.Int.intBits z ≤ 1048576) : Cells ns := by
  obtain ⟨n, hn, e⟩ : ∃ n : Nat, n ≤ 2000000 ∧ n = 1048576 := ⟨1048576, by decide, rfl⟩
  rw [← e] at h
  exact ⟨n, hn, fun c hc => abs_bits (h c hc)⟩
end GC

/-! plain: data of the program in the machine -/
namespace GC
open PySem PySem.Spec PyProof.Rows L2 EM
theorem noLoc_pr (p : Int × Int) : noLoc (prD p) = true := rfl
theorem noLoc_tiers (ts : List (Int × Int)) : noLoc (tiersD ts) = true := by
  unfold tiersD
  rw [noLoc]
  exact noLocs_map noLoc_pr ts
theorem noLoc_tariff (t : Tariff) : noLoc (tariffD t) = true := by
  unfold tariffD
  rw [noLoc, noLocs, noLocs, noLocs, noLoc_tiers, noLoc_tiers]
  rfl
theorem noLoc_ints (ns : List Int) : noLoc (intsD ns) = true := by
  unfold intsD
  rw [noLoc]
  exact noLocs_ints ns
theorem res_tariff (μ : List Cell) (t : Tariff) : resD μ (tariffD t) = tariffD t := resD_no (noLoc_tariff t)
theorem res_tiers (μ : List Cell) (t : List (Int × Int)) : resD μ (tiersD t) = tiersD t := resD_no (noLoc_tiers t)
theorem res_ints (μ : List Cell) (ns : List Int) : resD μ (intsD ns) = intsD ns := resD_no (noLoc_ints ns)
theorem res_lints (μ : List Cell) (ns : List Int) : resD μ (.lst (ns.map .int)) = .lst (ns.map .int) := res_ints μ ns
theorem res_pr (μ : List Cell) (p : Int × Int) : resD μ (prD p) = prD p := resD_no rfl
theorem res_int (μ : List Cell) (i : Int) : resD μ (.int i) = .int i := resD_no rfl
theorem res_bl (μ : List Cell) (i : Bool) : resD μ (.bl i) = .bl i := resD_no rfl
theorem res_str (μ : List Cell) (i : Str) : resD μ (.str i) = .str i := resD_no rfl
theorem res_non (μ : List Cell) : resD μ .non = .non := resD_no rfl
theorem map_resN {μ : List Cell} {k : Nat} {ds : List D} (h : noLocs ds = true) : ds.map (resN μ k) = ds := by
  induction ds with
  | nil => rfl
  | cons d r ih =>
    rw [noLocs, Bool.and_eq_true] at h
    rw [List.map_cons, resN_no k d h.1, ih h.2]
theorem res_loc {μ : List Cell} {n : Nat} {ds : List D} (h : μ[n]? = some (.lst ds)) (hn : noLocs ds = true) : resD μ (.loc n) = .lst ds := by
  unfold resD
  rw [resN, mapLoc, h]
  simp only
  rw [map_resN hn]
theorem natsI_range (n : Nat) : rangeD 0 n = (natsI n).map D.int := by
  unfold natsI rangeD
  rw [List.map_map]
  refine List.map_congr_left fun i _ => ?_
  show D.int (0 + (i : Int)) = D.int (i : Int)
  rw [Int.zero_add]
theorem above_range (c : Int) : rangeD (c + 1) (36 + 1 - (c + 1)).toNat = (above c).map D.int := by
  unfold above rangeD
  rw [List.map_map]
  rfl
theorem evens_range (n : Nat) : rangeC 0 2 n = (evens n).map D.int := by
  unfold evens rangeC
  rw [List.map_map]
  rfl
theorem rng1_nat {j : Int} (h0 : 0 ≤ j) (h1 : j ≤ 1000000) : rng1 [.int j] = some (.one (.fix ((natsI j.toNat).map D.int))) := by
  rw [← natsI_range]
  exact if_pos (show -(2 ^ 62) ≤ j ∧ j < 2 ^ 62 by omega)
theorem rng3_even {m : Int} (h0 : 1 ≤ m) (h1 : m ≤ 9) : ∃ n, rng3 [.int 0, .int m, .int 2] = some (.one (.fix ((evens n).map D.int))) ∧ n ≤ 5 := by
  have h : m = 1 ∨ m = 2 ∨ m = 3 ∨ m = 4 ∨ m = 5 ∨ m = 6 ∨ m = 7 ∨ m = 8 ∨ m = 9 := by omega
  rcases h with rfl | rfl | rfl | rfl | rfl | rfl | rfl | rfl | rfl
  · exact ⟨1, rfl, by decide⟩
  · exact ⟨1, rfl, by decide⟩
  · exact ⟨2, rfl, by decide⟩
  · exact ⟨2, rfl, by decide⟩
  · exact ⟨3, rfl, by decide⟩
  · exact ⟨3, rfl, by decide⟩
  · exact ⟨4, rfl, by decide⟩
  · exact ⟨4, rfl, by decide⟩
  · exact ⟨5, rfl, by decide⟩
theorem cutD_1 (xs : List D) : EM.cutD xs (some 1) none = xs.drop 1 := by
  unfold EM.cutD
  rw [show HT.sIx xs.length 0 (some 1) = min 1 xs.length from HT.sIx_nat xs.length 0 1, HT.sIx_none]
  cases xs with
  | nil => rfl
  | cons x r =>
    rw [show min 1 (x :: r).length = 1 by rw [List.length_cons]; omega]
    show (List.take ((x :: r).length - 1) r) = r
    rw [List.length_cons, Nat.add_sub_cancel]
    exact List.take_length
theorem cutD_to (xs : List D) (n : Nat) : EM.cutD xs none (some (n : Int)) = xs.take n := by
  unfold EM.cutD
  rw [HT.sIx_none, show HT.sIx xs.length xs.length (some (n : Int)) = min n xs.length from HT.sIx_nat xs.length xs.length n, List.drop_zero, Nat.sub_zero]
  by_cases h : n ≤ xs.length
  · rw [Nat.min_eq_left h]
  · rw [Nat.min_eq_right (by omega), List.take_of_length_le (by omega), List.take_of_length_le (by omega)]
theorem cut63 {ns : List Int} (h : ns.length ≤ 63) : EM.cutD (ns.map D.int) none (some 63) = ns.map D.int := by
  rw [show (63 : Int) = ((63 : Nat) : Int) from rfl, cutD_to, List.take_of_length_le (by simpa using h)]
/-! ### == -/
structure Okn (n : Nat) (d : D) : Prop where
  pure : d.pure = true
  lay : d.py.canLay0 = true
  dep : d.py.depth ≤ n
theorem Okn.ok {n : Nat} {d : D} (h : Okn n d) (hn : n ≤ 64) : d.okEq = true := by
  unfold D.okEq SeqAt.shaped
  rw [h.pure, h.lay, decide_eq_true (Nat.le_trans h.dep hn)]
  rfl
theorem okn_int {n : Nat} (i : Int) : Okn n (.int i) := ⟨rfl, rfl, Nat.zero_le _⟩
theorem okn_bl {n : Nat} (b : Bool) : Okn n (.bl b) := ⟨rfl, rfl, Nat.zero_le _⟩
theorem okn_str {n : Nat} (b : Str) (h : (D.str b).py.canLay0 = true := by decide) : Okn n (.str b) := ⟨rfl, h, Nat.zero_le _⟩
theorem okn_non {n : Nat} : Okn n .non := ⟨rfl, rfl, Nat.zero_le _⟩
theorem okns {n : Nat} : ∀ {ds : List D}, (∀ d ∈ ds, Okn n d) → D.pures ds = true ∧ PyData.canLayAll0 (D.pys ds) = true ∧ PyData.depthAll (D.pys ds) ≤ n
  | [], _ => ⟨rfl, rfl, Nat.zero_le _⟩
  | d :: ds, h => by
    have h1 := h d (by simp)
    obtain ⟨a, b, c⟩ := okns (ds := ds) fun e he => h e (by simp [he])
    refine ⟨?_, ?_, ?_⟩
    · rw [D.pures, h1.pure, a]; rfl
    · rw [D.pys, PyData.canLayAll0, h1.lay, b]; rfl
    · rw [D.pys, PyData.depthAll]
      exact Nat.max_le.mpr ⟨h1.dep, c⟩
theorem okn_lst {n : Nat} {ds : List D} (h : ∀ d ∈ ds, Okn n d) : Okn (n + 1) (.lst ds) := by
  obtain ⟨a, b, c⟩ := okns h
  refine ⟨?_, ?_, ?_⟩
  · rw [D.pure]; exact a
  · rw [D.py, PyData.canLay0]; exact b
  · rw [D.py, PyData.depth]; omega
theorem okn_tup {n : Nat} {ds : List D} (h : ∀ d ∈ ds, Okn n d) : Okn (n + 1) (.tup ds) := by
  obtain ⟨a, b, c⟩ := okns h
  refine ⟨?_, ?_, ?_⟩
  · rw [D.pure]; exact a
  · rw [D.py, PyData.canLay0]; exact b
  · rw [D.py, PyData.depth]; omega
theorem okn_ints {n : Nat} (ns : List Int) : Okn (n + 1) (.lst (ns.map .int)) := okn_lst fun d hd => by
  obtain ⟨i, _, rfl⟩ := List.mem_map.mp hd
  exact okn_int i
theorem okn_pr {n : Nat} (p : Int × Int) : Okn (n + 1) (prD p) := okn_tup fun d hd => by
  rcases List.mem_cons.mp hd with rfl | hd
  · exact okn_int _
  · rw [List.mem_singleton.mp hd]
    exact okn_int _
theorem okn_tiers {n : Nat} (ts : List (Int × Int)) : Okn (n + 2) (tiersD ts) := okn_lst fun d hd => by
  obtain ⟨p, _, rfl⟩ := List.mem_map.mp hd
  exact okn_pr p
theorem okn_tariff {n : Nat} (t : Tariff) : Okn (n + 3) (tariffD t) := okn_tup fun d hd => by
  rcases List.mem_cons.mp hd with rfl | hd
  · exact okn_tiers _
  · rw [List.mem_singleton.mp hd]
    exact okn_tiers _
theorem ok_ints (ns : List Int) : (intsD ns).okEq = true := (okn_ints (n := 0) ns).ok (by decide)
theorem ok_tariff (t : Tariff) : (tariffD t).okEq = true := (okn_tariff (n := 0) t).ok (by decide)
theorem ok_int (i : Int) : (D.int i).okEq = true := (okn_int (n := 0) i).ok (by decide)
theorem ok_opt (o : Option Int) : (optD o).okEq = true := by
  cases o with
  | none => exact (okn_non (n := 0)).ok (by decide)
  | some i => exact (okn_int (n := 0) i).ok (by decide)
theorem deq_refl {d : D} (h : d.okEq = true) : D.eq d d = true := by
  unfold D.okEq at h
  rw [Bool.and_eq_true] at h
  exact SeqAt.eqv_refl _ (SeqAt.canLay_of_shaped h.2)
theorem eqRes_same {μ : List Cell} {d e p : D} (h1 : resD μ d = p) (h2 : resD μ e = p) (h : p.okEq = true) : eqRes μ d e = some true := by
  unfold eqRes
  rw [h1, h2, h]
  simp [deq_refl h]
mutual
/-- no truth values within -/
def noBl : D → Bool
  | .bl _ => false
  | .lst ds => noBls ds
  | .tup ds => noBls ds
  | _ => true
def noBls : List D → Bool
  | [] => true
  | d :: ds => noBl d && noBls ds
end
mutual
theorem deq_of : ∀ (d e : D), d.pure = true → e.pure = true → noBl d = true → noBl e = true → D.eq d e = true → d = e
  | .non, e, _, pe, _, be, h => by cases e <;> simp_all [D.eq, D.py, PyData.eqv, D.pure, noBl]
  | .bl _, e, _, _, bd, _, _ => by simp [noBl] at bd
  | .int i, e, _, pe, _, be, h => by cases e <;> simp_all [D.eq, D.py, PyData.eqv, D.pure, noBl]
  | .str i, e, _, pe, _, be, h => by cases e <;> simp_all [D.eq, D.py, PyData.eqv, D.pure, noBl]
  | .lst ds, e, pd, pe, bd, be, h => by
    cases e with
    | lst es =>
      rw [deqs_of ds es (by simpa [D.pure] using pd) (by simpa [D.pure] using pe) (by simpa [noBl] using bd) (by simpa [noBl] using be) (by simpa [D.eq, D.py, PyData.eqv] using h)]
    | _ => simp_all [D.eq, D.py, PyData.eqv, D.pure, noBl]
  | .tup ds, e, pd, pe, bd, be, h => by
    cases e with
    | tup es =>
      rw [deqs_of ds es (by simpa [D.pure] using pd) (by simpa [D.pure] using pe) (by simpa [noBl] using bd) (by simpa [noBl] using be) (by simpa [D.eq, D.py, PyData.eqv] using h)]
    | _ => simp_all [D.eq, D.py, PyData.eqv, D.pure, noBl]
  | .scr _, _, p, _, _, _, _ => by simp [D.pure] at p
  | .dic, _, p, _, _, _, _ => by simp [D.pure] at p
  | .fn _, _, p, _, _, _, _ => by simp [D.pure] at p
  | .cls _, _, p, _, _, _, _ => by simp [D.pure] at p
  | .ty _, _, p, _, _, _, _ => by simp [D.pure] at p
  | .loc _, _, p, _, _, _, _ => by simp [D.pure] at p
  | .obj _ _ _, _, p, _, _, _, _ => by simp [D.pure] at p
theorem deqs_of : ∀ (ds es : List D), D.pures ds = true → D.pures es = true → noBls ds = true → noBls es = true → PyData.eqvAll (D.pys ds) (D.pys es) = true → ds = es
  | [], [], _, _, _, _, _ => rfl
  | [], _ :: _, _, _, _, _, h => by simp [D.pys, PyData.eqvAll] at h
  | _ :: _, [], _, _, _, _, h => by simp [D.pys, PyData.eqvAll] at h
  | d :: ds, e :: es, pd, pe, bd, be, h => by
    rw [D.pures, Bool.and_eq_true] at pd pe
    rw [noBls, Bool.and_eq_true] at bd be
    rw [D.pys, D.pys, PyData.eqvAll, Bool.and_eq_true] at h
    rw [deq_of d e pd.1 pe.1 bd.1 be.1 h.1, deqs_of ds es pd.2 pe.2 bd.2 be.2 h.2]
end
theorem deq_no {d e : D} (hd : d.okEq = true) (he : e.okEq = true) (bd : noBl d = true) (be : noBl e = true) (h : d ≠ e) : D.eq d e = false := by
  cases q : D.eq d e with
  | false => rfl
  | true =>
    unfold D.okEq at hd he
    rw [Bool.and_eq_true] at hd he
    exact absurd (deq_of d e hd.1 he.1 bd be q) h
theorem eqRes_int {μ : List Cell} (i j : Int) : eqRes μ (.int i) (.int j) = some (decide (i = j)) := by
  unfold eqRes
  rw [res_int, res_int, ok_int, ok_int]
  rfl
end GC
namespace GC
open PySem PySem.Spec EM
open L2 hiding prD opI
open PyProof.Rows hiding cutD
/-! ### drawn pieces -/
def pieceNum (ns : List Int) (by_ at_ : Int) : Int := valueOf (cellAt ns (by_ + at_ % 4) + 11 * at_) (1 + at_) / 3
def pieceWide (v : Int) : Int := ([10, 4, 2, 10] : List Int).getD (v / 3 % 4).toNat 1
theorem pieceWide_pos (v : Int) : 1 ≤ pieceWide v ∧ pieceWide v ≤ 10 ∧ atI ([D.int 10, .int 4, .int 2, .int 10]) (v / 3 % 4) = some (.int (pieceWide v)) := by
  have h0 := Int.emod_nonneg (v / 3) (show (4 : Int) ≠ 0 by decide)
  have h1 := Int.emod_lt_of_pos (v / 3) (show (0 : Int) < 4 by decide)
  unfold pieceWide
  generalize v / 3 % 4 = m at h0 h1 ⊢
  have h : m = 0 ∨ m = 1 ∨ m = 2 ∨ m = 3 := by omega
  rcases h with rfl | rfl | rfl | rfl <;> exact ⟨by decide, by decide, rfl⟩
def piecesOf (ns : List Int) (b : Int) : List Int := (natsI (2 + valueOf (cellAt ns b) 6 % 3).toNat).map fun a => pieceNum ns b a % pieceWide (valueOf (cellAt ns b) 6)
/-- pieces as they are due -/
structure Pcs (ps : List Int) : Prop where
  least : 2 ≤ ps.length
  most : ps.length ≤ 4
  each : ∀ p ∈ ps, 0 ≤ p ∧ p ≤ 9
theorem piecesOf_ok (ns : List Int) (b : Int) : Pcs (piecesOf ns b) := by
  have e0 : 0 ≤ valueOf (cellAt ns b) 6 % 3 := Int.emod_nonneg _ (by decide)
  have e1 : valueOf (cellAt ns b) 6 % 3 < 3 := Int.emod_lt_of_pos _ (by decide)
  have hw := pieceWide_pos (valueOf (cellAt ns b) 6)
  refine ⟨by simp [piecesOf, natsI]; omega, by simp [piecesOf, natsI]; omega, fun p hp => ?_⟩
  obtain ⟨a, _, rfl⟩ := List.mem_map.mp hp
  have h1 := Int.emod_nonneg (pieceNum ns b a) (show pieceWide (valueOf (cellAt ns b) 6) ≠ 0 by omega)
  have h2 := Int.emod_lt_of_pos (pieceNum ns b a) (show 0 < pieceWide (valueOf (cellAt ns b) 6) by omega)
  omega
end GC

/-! equations by which running is simplified -/
namespace EM
open PySem PySem.Spec GC
open L2 hiding prD opI
open PyProof.Rows hiding cutD
section
variable {α β : Type} {a : α} {μ μ' : List Cell} {f : α → List Cell → Rs β} {g : α → List Cell → Ou} {c n : Nat} {d e : D} {ds es : List D} {i j : Int}
theorem bind_ok' : (Rs.ok a μ).bind f = f a μ := rfl
theorem bind_no' : (Rs.no : Rs α).bind f = .no := rfl
theorem bind_er' : (Rs.er c μ : Rs α).bind f = .er c μ := rfl
theorem fz_dat : (Rs.ok (.dat d) μ).fz = .ok d μ := rfl
theorem fz_own : (Rs.ok (.own ds) μ).fz = .ok (.lst ds) μ := rfl
theorem fz_ok {o : O} : (Rs.ok o μ).fz = .ok o.d μ := rfl
theorem fz_er : (Rs.er c μ : Rs O).fz = .er c μ := rfl
theorem toOu_ok : (Rs.ok a μ).toOu g = g a μ := rfl
theorem toOu_er : (Rs.er c μ : Rs α).toOu g = .er c μ := rfl
theorem toOu_no : (Rs.no : Rs α).toOu g = .no := rfl
theorem opt_some : Rs.opt (some a) μ = .ok a μ := rfl
theorem opt_none : Rs.opt (none : Option α) μ = .no := rfl
theorem cell_own : (Rs.ok (.own ds) μ).cell = .ok (.dat (.loc μ.length)) (μ ++ [.lst ds]) := rfl
theorem o_add : opEv .add μ (.int i) (.int j) = some (.dat (.int (i + j))) := rfl
theorem o_sub : opEv .sub μ (.int i) (.int j) = some (.dat (.int (i - j))) := rfl
theorem o_band : opEv .band μ (.int i) (.int j) = some (.dat (.int (Builtin.bitAnd i j))) := rfl
theorem o_lt : opEv .lt μ (.int i) (.int j) = some (.dat (.bl (decide (i < j)))) := rfl
theorem o_le : opEv .le μ (.int i) (.int j) = some (.dat (.bl (decide (i ≤ j)))) := rfl
theorem o_gt : opEv .gt μ (.int i) (.int j) = some (.dat (.bl (decide (j < i)))) := rfl
theorem o_ge : opEv .ge μ (.int i) (.int j) = some (.dat (.bl (decide (j ≤ i)))) := rfl
theorem o_mul (h : (-18446744073709551616 < i ∧ i < 18446744073709551616) ∨ (-18446744073709551616 < j ∧ j < 18446744073709551616)) : opEv .mul μ (.int i) (.int j) = some (.dat (.int (i * j))) := by
  show (opI .mul i j).map O.dat = _
  rw [opI_mul h]
  rfl
theorem o_mulX (h : CMulX i j) : opEv .mulX μ (.int i) (.int j) = some (.dat (.int (i * j))) := by
  show (opI .mulX i j).map O.dat = _
  rw [opI_mulX h]
  rfl
theorem o_fdiv (h : 0 < j ∧ j < 1073741824) : opEv .fdiv μ (.int i) (.int j) = some (.dat (.int (i / j))) := by
  show (opI .fdiv i j).map O.dat = _
  rw [opI_fdiv h]
  rfl
theorem o_fdivW (h : CDivW i j) : opEv .fdivW μ (.int i) (.int j) = some (.dat (.int (i / j))) := by
  show (opI .fdivW i j).map O.dat = _
  rw [opI_fdivW h]
  rfl
theorem o_mod (h : 0 < j) : opEv .mod μ (.int i) (.int j) = some (.dat (.int (i % j))) := by
  show (opI .mod i j).map O.dat = _
  rw [opI_mod h]
  rfl
theorem o_modN (h : j ≠ 0) : opEv .modN μ (.int i) (.int j) = some (.dat (.int (i.fmod j))) := by
  show (opI .modN i j).map O.dat = _
  rw [opI_modN h]
  rfl
theorem o_pow (h : CPow i j) : opEv .pow μ (.int i) (.int j) = some (.dat (.int (i ^ j.toNat))) := by
  show (opI .pow i j).map O.dat = _
  rw [opI_pow h]
  rfl
theorem o_shr (h : 0 ≤ j) : opEv .shr μ (.int i) (.int j) = some (.dat (.int (i / 2 ^ j.toNat))) := by
  show (opI .shr i j).map O.dat = _
  rw [opI_shr h]
  rfl
theorem o_shl (h : CPow i j) : opEv .shl μ (.int i) (.int j) = some (.dat (.int (i * 2 ^ j.toNat))) := by
  show (opI .shl i j).map O.dat = _
  rw [opI_shl h]
  rfl
theorem o_eqI : opEv .eqS μ (.int i) (.int j) = some (.dat (.bl (decide (i = j)))) := rfl
theorem o_neI : opEv .neS μ (.int i) (.int j) = some (.dat (.bl (!decide (i = j)))) := rfl
theorem o_eqStr {x y : Str} : opEv .eqS μ (.str x) (.str y) = some (.dat (.bl (decide (x = y)))) := rfl
theorem o_neStr {x y : Str} : opEv .neS μ (.str x) (.str y) = some (.dat (.bl (!decide (x = y)))) := rfl
theorem o_isN : opEv .isN μ d .non = some (.dat (.bl (isNon d))) := rfl
theorem o_notN : opEv .notN μ d .non = some (.dat (.bl (!isNon d))) := rfl
theorem o_isB {x y : Bool} : opEv .isB μ (.bl x) (.bl y) = some (.dat (.bl (decide (x = y)))) := rfl
theorem o_notB {x y : Bool} : opEv .notB μ (.bl x) (.bl y) = some (.dat (.bl (!decide (x = y)))) := rfl
theorem o_eqD : opEv .eqD μ d e = (eqRes μ d e).map fun b => .dat (.bl b) := rfl
theorem o_neD : opEv .neD μ d e = (eqRes μ d e).map fun b => .dat (.bl (!b)) := rfl
theorem o_cat : opEv .cat μ d e = (seqM μ d).bind fun ds => (seqM μ e).bind fun es => if ds.length + es.length ≤ 100000 then some (.own (ds ++ es)) else none := by
  simp only [opEv]
  cases seqM μ d <;> cases seqM μ e <;> rfl
theorem o_rep : opEv .rep μ d (.int i) = (seqM μ d).bind fun ds => if -(2 ^ 62) ≤ i ∧ i ≤ 100000 ∧ ds.length * i.toNat ≤ 100000 then some (.own (List.replicate i.toNat ds).flatten) else none := by
  simp only [opEv]
  cases seqM μ d <;> rfl
theorem sM_lst : seqM μ (.lst ds) = some ds := rfl
theorem sM_loc : seqM μ (.loc n) = (match μ[n]? with
    | some (.lst ds) => some ds
    | some (.ro ds) => some ds
    | _ => none) := rfl
theorem sL_lst : seqL μ (.lst ds) = some ds := rfl
theorem sL_scr : seqL μ (.scr ds) = some ds := rfl
theorem sL_loc : seqL μ (.loc n) = seqM μ (.loc n) := rfl
theorem sA_lst : seqA μ (.lst ds) = some ds := rfl
theorem sA_scr : seqA μ (.scr ds) = some ds := rfl
theorem sA_tup : seqA μ (.tup ds) = some ds := rfl
theorem sA_loc : seqA μ (.loc n) = seqM μ (.loc n) := by
  unfold seqA
  rw [sL_loc]
  cases seqM μ (.loc n) <;> rfl
theorem sT_tup : seqT (.tup ds) = some ds := rfl
theorem sA_tiers (ts : List (Int × Int)) : seqA μ (tiersD ts) = some (ts.map prD) := rfl
theorem sL_tiers (ts : List (Int × Int)) : seqL μ (tiersD ts) = some (ts.map prD) := rfl
theorem sM_tiers (ts : List (Int × Int)) : seqM μ (tiersD ts) = some (ts.map prD) := rfl
theorem sA_tariff (t : Tariff) : seqA μ (tariffD t) = some [tiersD t.1, tiersD t.2] := rfl
theorem sA_pr (p : Int × Int) : seqA μ (prD p) = some [.int p.1, .int p.2] := rfl
theorem sT_pr (p : Int × Int) : seqT (prD p) = some [.int p.1, .int p.2] := rfl
theorem sA_ints (ns : List Int) : seqA μ (intsD ns) = some (ns.map .int) := rfl
theorem sL_ints (ns : List Int) : seqL μ (intsD ns) = some (ns.map .int) := rfl
theorem sM_ints (ns : List Int) : seqM μ (intsD ns) = some (ns.map .int) := rfl
theorem cL_loc : cellL μ (.loc n) = (match μ[n]? with
    | some (.lst ds) => some (n, ds)
    | _ => none) := rfl
theorem f_lst : Sq.ofD μ (.lst ds) = some (.fix ds) := rfl
theorem f_scr : Sq.ofD μ (.scr ds) = some (.fix ds) := rfl
theorem f_tiers (ts : List (Int × Int)) : Sq.ofD μ (tiersD ts) = some (.fix (ts.map prD)) := rfl
theorem f_ints (ns : List Int) : Sq.ofD μ (intsD ns) = some (.fix (ns.map .int)) := rfl
theorem f_loc : Sq.ofD μ (.loc n) = (seqM μ (.loc n)).map fun ds => .cell n ds.length := rfl
theorem at0 {x : D} {r : List D} : atI (x :: r) 0 = some x := atI_nat (j := 0) rfl
theorem at1 {x y : D} {r : List D} : atI (x :: y :: r) 1 = some y := atI_nat (j := 1) rfl
theorem at2 {x y z : D} {r : List D} : atI (x :: y :: z :: r) 2 = some z := atI_nat (j := 2) rfl
theorem at3 {x y z w : D} {r : List D} : atI (x :: y :: z :: w :: r) 3 = some w := atI_nat (j := 3) rfl
theorem b_len : biEv .len μ [d] = (seqA μ d).map fun xs => .dat (.int xs.length) := rfl
theorem b_list : biEv .list μ [d] = (seqA μ d).map fun xs => .own xs := rfl
theorem b_tuple : biEv .tuple μ [d] = (seqA μ d).map fun xs => .dat (.tup xs) := rfl
theorem b_sum : biEv .sum μ [d] = ((seqL μ d).bind asInts).map fun ns => .dat (.int ns.sum) := rfl
theorem b_all : biEv .all μ [d] = ((seqL μ d).bind asBools).map fun ns => .dat (.bl (ns.all id)) := rfl
theorem b_any : biEv .any μ [d] = ((seqL μ d).bind asBools).map fun ns => .dat (.bl (ns.any id)) := rfl
theorem b_sorted : biEv .sorted μ [d] = ((seqL μ d).bind (sortD μ)).map fun xs => .own xs := rfl
theorem b_maxL : biEv .maxL μ [d] = (((seqL μ d).bind asInts).bind maxI).map fun m => .dat (.int m) := rfl
theorem b_minL : biEv .minL μ [d] = (((seqL μ d).bind asInts).bind minI).map fun m => .dat (.int m) := rfl
theorem asInts_f {f : α → Int} (l : List α) : asInts (l.map fun a => .int (f a)) = some (l.map f) := by
  rw [← asInts_map (l.map f), List.map_map]
  rfl
theorem asBools_f {f : α → Bool} (l : List α) : asBools (l.map fun a => .bl (f a)) = some (l.map f) := by
  rw [← asBools_map (l.map f), List.map_map]
  rfl
theorem zip_eq : zipD μ [d, e] = (Sq.ofD μ d).bind fun p => (Sq.ofD μ e).map fun q => .zip p q := by
  simp only [zipD]
  cases Sq.ofD μ d <;> cases Sq.ofD μ e <;> rfl
theorem enum_eq : enumD μ [d] = (Sq.ofD μ d).map .enum := rfl
theorem m_append : meEv .append μ d [e] = (cellL μ d).bind fun p => if p.2.length < 100000 then some (.non, μ.set p.1 (.lst (p.2 ++ [e]))) else none := by
  simp only [meEv]
  cases cellL μ d with
  | none => rfl
  | some p => rfl
theorem b_max2 : biEv .max2 μ [.int i, .int j] = some (.dat (.int (max i j))) := rfl
theorem b_min2 : biEv .min2 μ [.int i, .int j] = some (.dat (.int (min i j))) := rfl
theorem b_abs : biEv .abs μ [.int i] = some (.dat (.int i.natAbs)) := rfl
theorem b_int1b {b : Bool} : biEv .int1 μ [.bl b] = some (.dat (.int (if b then 1 else 0))) := rfl
theorem put_name {i : Nat} {ρ : List (Option D)} : G.put (.name i) d ρ = some (ρ.set i (some d)) := by rw [G.put]
theorem put_two {i j : Nat} {ρ : List (Option D)} : G.put (.tup (.cons (.name i) (.cons (.name j) .nil))) (.tup [d, e]) ρ = some ((ρ.set i (some d)).set j (some e)) := rfl
theorem put_pr {i j : Nat} {ρ : List (Option D)} {p : Int × Int} : G.put (.tup (.cons (.name i) (.cons (.name j) .nil))) (prD p) ρ = some ((ρ.set i (some (.int p.1))).set j (some (.int p.2))) := rfl
theorem ret_rt {o o' : O} : Ret o (.rt o' μ) = (o' = o) := rfl
theorem retL_own : RetL ds (.rt (.own es) μ) = (.own es = O.own ds ∨ ∃ d n, O.own es = .dat d ∧ cellL μ d = some (n, ds)) := rfl
theorem retL_dat : RetL ds (.rt (.dat e) μ) = (.dat e = O.own ds ∨ ∃ d n, O.dat e = .dat d ∧ cellL μ d = some (n, ds)) := rfl
theorem nx_nx {ρ : List (Option D)} : Nx (.nx ρ μ) = True := rfl
theorem er_er {c' : Nat} : Er c (.er c' μ) = (c' = c) := rfl
section
variable {pm : Pm} {b : C} {P : Ou → Prop} {ρ : List (Option D)} {I K : List (Option D) → List Cell → Prop} {o : O}
theorem seqP_nx : SeqP pm b P (.nx ρ μ) = P (b.ex pm ρ μ) := rfl
theorem seqP_rt : SeqP pm b P (.rt o μ) = P (.rt o μ) := rfl
theorem seqP_bk : SeqP pm b P (.bk ρ μ) = P (.bk ρ μ) := rfl
theorem seqP_ct : SeqP pm b P (.ct ρ μ) = P (.ct ρ μ) := rfl
theorem seqP_er : SeqP pm b P (.er c μ) = P (.er c μ) := rfl
theorem turn_nx : TurnP I K P (.nx ρ μ) = I ρ μ := rfl
theorem turn_ct : TurnP I K P (.ct ρ μ) = I ρ μ := rfl
theorem turn_bk : TurnP I K P (.bk ρ μ) = K ρ μ := rfl
theorem turn_rt : TurnP I K P (.rt o μ) = P (.rt o μ) := rfl
theorem turn_er : TurnP I K P (.er c μ) = P (.er c μ) := rfl
end
theorem len_app {α : Type} {l : List α} {x : α} : (l ++ [x]).length = l.length + 1 := by simp
/-- a pure def called with things without places -/
theorem call_eq {x : Bool} {g : Fn} {o : O} (h : g ds = .ret o) (hn : noLocs ds = true) : cpEv x g μ ds = .ok o μ := cp_no hn h
theorem nl_nil : noLocs [] = true := rfl
theorem nl_cons : noLocs (d :: ds) = (noLoc d && noLocs ds) := by rw [noLocs]
theorem nl_int : noLoc (.int i) = true := rfl
theorem nl_bl {b : Bool} : noLoc (.bl b) = true := rfl
theorem nl_str {b : Str} : noLoc (.str b) = true := rfl
theorem nl_non : noLoc .non = true := rfl
theorem nl_tup : noLoc (.tup ds) = noLocs ds := by rw [noLoc]
theorem nl_lst : noLoc (.lst ds) = noLocs ds := by rw [noLoc]
theorem nl_lints (ns : List Int) : noLoc (.lst (ns.map .int)) = true := noLoc_ints ns
end
end EM
namespace EM
open PySem PySem.Spec GC
open L2 hiding prD opI
open PyProof.Rows hiding cutD
section
variable {μ : List Cell} {d e : D} {ds : List D} {n : Nat} {i : Int}
theorem ip_add' {i j : Int} : Ip.add.f i j = i + j := rfl
theorem ip_sub' {i j : Int} : Ip.sub.f i j = i - j := rfl
theorem set_sub {dd : D} : setSub μ d (.int i) dd = (cellL μ d).bind fun p => (ixN p.2.length i).map fun j => μ.set p.1 (.lst (p.2.set j dd)) := by
  unfold setSub
  cases cellL μ d with
  | none => rfl
  | some p =>
    show (match ixN p.2.length i with
      | some j => some (μ.set p.1 (.lst (p.2.set j dd)))
      | none => none) = _
    cases h : ixN p.2.length i with
    | none => simp only [Option.bind_some, h, Option.map_none]
    | some j => simp only [Option.bind_some, h, Option.map_some]
theorem get_sub (h : 0 ≤ i) : getSub μ d (.int i) = (seqL μ d).bind fun ds => ds[i.toNat]? := by
  unfold getSub
  cases seqL μ d with
  | none => rfl
  | some ds => exact if_pos h
theorem ix_nat {m : Nat} (h0 : 0 ≤ i) (h : i < m) : ixN m i = some i.toNat := by
  unfold ixN
  rw [if_pos h0, if_pos h]
theorem ints_get {l : List Int} {j : Nat} : (l.map D.int)[j]? = (l[j]?).map D.int := by rw [List.getElem?_map]
theorem ints_at {l : List Int} {i : Int} (h0 : 0 ≤ i) (h : i < l.length) : atI (l.map D.int) i = some (.int (l.getD i.toNat 0)) := by
  unfold atI
  rw [List.length_map, ix_nat h0 h]
  show (l.map D.int)[i.toNat]? = _
  rw [List.getElem?_map, List.getD_eq_getElem?_getD, List.getElem?_eq_getElem (show i.toNat < l.length by omega)]
  rfl
theorem ints_set {l : List Int} {j : Nat} {x : Int} : (l.map D.int).set j (.int x) = (l.set j x).map D.int := by rw [List.map_set]
theorem m_index : meEv .index μ d [e] = (match resD μ d with
    | .lst ds => if (resD μ e).okEq && (D.lst ds).okEq then (idxOf (fun z => PyData.eqv z (resD μ e).py) (D.pys ds)).map fun j => (.int (j : Nat), μ) else none
    | _ => none) := rfl
end
end EM

/-! plain: parting in whole coins -/
namespace GC
open PySem PySem.Spec EM
open L2 hiding prD opI
open PyProof.Rows hiding cutD
theorem mapIdx_map' {α β γ : Type} {f : α → β} {g : Nat → β → γ} (l : List α) : (l.map f).mapIdx g = l.mapIdx fun i a => g i (f a) := by
  refine List.ext_getElem? fun i => ?_
  rw [List.getElem?_mapIdx, List.getElem?_mapIdx, List.getElem?_map]
  cases l[i]? <;> rfl
theorem map_mapIdx' {α β γ : Type} {f : Nat → α → β} {g : β → γ} (l : List α) : (l.mapIdx f).map g = l.mapIdx fun i a => g (f i a) := by
  refine List.ext_getElem? fun i => ?_
  rw [List.getElem?_map, List.getElem?_mapIdx, List.getElem?_mapIdx]
  cases l[i]? <;> rfl
/-! ### sorted pairs -/
def leP (p q : Int × Int) : Bool := decide (p.1 < q.1 ∨ (p.1 = q.1 ∧ p.2 ≤ q.2))
theorem leD_pr (μ : List Cell) (p q : Int × Int) : leD μ (prD p) (prD q) = leP p q := by
  unfold leD
  have h := congrFun (congrFun (PySem.W.dataLe_ii (β := Int × Int) (·.1) (·.2)) p) q
  refine Eq.trans ?_ h
  unfold PySem.W.dataLe PySem.W.sortLe
  simp only [res_pr]
  rfl
theorem ins1_map {α β : Type} {f : α → β} {le : α → α → Bool} {le' : β → β → Bool} (h : ∀ a b, le' (f a) (f b) = le a b) (x : α) : ∀ l : List α, ins1 le' (f x) (l.map f) = (ins1 le x l).map f
  | [] => rfl
  | y :: r => by
    rw [List.map_cons, ins1, ins1, h]
    split
    · rfl
    · rw [ins1_map h x r]; rfl
theorem isort_map {α β : Type} {f : α → β} {le : α → α → Bool} {le' : β → β → Bool} (h : ∀ a b, le' (f a) (f b) = le a b) : ∀ l : List α, isort le' (l.map f) = (isort le l).map f
  | [] => rfl
  | x :: r => by rw [List.map_cons, isort, isort, isort_map h r, ins1_map h]
theorem sort_prs (μ : List Cell) (l : List (Int × Int)) : sortD μ (l.map prD) = some ((isort leP l).map prD) := by
  unfold sortD
  have c1 : ((l.map prD).all fun d => (resD μ d).pure) = true := by
    rw [List.all_map, List.all_eq_true]
    intro p _
    show (resD μ (prD p)).pure = true
    rw [res_pr]
    rfl
  have em : ((l.map prD).map fun d => (resD μ d).py) = l.map fun p => PyData.tuple [.int p.1, .int p.2] := by
    rw [List.map_map]
    refine List.map_congr_left fun p _ => ?_
    show (resD μ (prD p)).py = _
    rw [res_pr]
    rfl
  have c2 : allAlike ((l.map prD).map fun d => (resD μ d).py) = true := by
    rw [em]
    unfold allAlike
    rw [List.all_map, List.all_eq_true]
    intro p _
    show ((l.map fun p => PyData.tuple [.int p.1, .int p.2]).all fun q => PySem.W.alike (PyData.tuple [.int p.1, .int p.2]) q) = true
    rw [List.all_map, List.all_eq_true]
    intro q _
    rfl
  have c3 : sortable ((l.map prD).map fun d => (resD μ d).py) = true := by
    rw [em]
    unfold sortable
    rw [Bool.or_eq_true]
    left
    rw [List.all_map, List.all_eq_true]
    intro p _
    rfl
  have c4 : ((l.map prD).all fun d => decide ((resD μ d).py.depth ≤ 60)) = true := by
    rw [List.all_map, List.all_eq_true]
    intro p _
    show decide ((resD μ (prD p)).py.depth ≤ 60) = true
    rw [res_pr]
    exact decide_eq_true (show (PyData.tuple [.int p.1, .int p.2]).depth ≤ 60 by simp [PyData.depth, PyData.depthAll])
  rw [c1, c2, c3, c4, isort_map (leD_pr μ)]
  rfl
theorem leP_total : PySem.W.TotalLe leP where
  total := fun a b => by
    unfold leP
    rw [decide_eq_true_eq, decide_eq_true_eq]
    omega
  trans := fun a b c h1 h2 => by
    unfold leP at *
    rw [decide_eq_true_eq] at *
    omega
/-! ### parting -/
def floorsOf (much : Int) (ps : List Int) : List Int := ps.map fun p => much * p / ps.sum
def remsOf (much : Int) (ps : List Int) : List Int := ps.map fun p => much * p % ps.sum
/-- the turn: those of whom most is cut off first -/
def turnOf (rs : List Int) : List (Int × Int) := isort leP (rs.mapIdx fun i r => (-r, (i : Int)))
def incAt (l : List Int) (i : Int) : List Int := l.set i.toNat (l.getD i.toNat 0 + 1)
def partedOf (much : Int) (ps : List Int) : List Int := if ps.sum = 0 then List.replicate ps.length 0 else
  ((turnOf (remsOf much ps)).take (much - (floorsOf much ps).sum).toNat).foldl (fun l q => incAt l q.2) (floorsOf much ps)
theorem sum_nn : ∀ {ps : List Int}, (∀ p ∈ ps, 0 ≤ p) → 0 ≤ ps.sum ∧ ∀ p ∈ ps, p ≤ ps.sum
  | [], _ => ⟨by simp, by simp⟩
  | x :: r, h => by
    obtain ⟨h1, h2⟩ := sum_nn (ps := r) fun p hp => h p (by simp [hp])
    have h0 := h x (by simp)
    rw [List.sum_cons]
    refine ⟨by omega, fun p hp => ?_⟩
    rcases List.mem_cons.mp hp with e | e
    · omega
    · have := h2 p e; omega
theorem sum_le : ∀ {ps : List Int} {m : Int}, (∀ p ∈ ps, p ≤ m) → ps.sum ≤ m * ps.length
  | [], m, _ => by simp
  | x :: r, m, h => by
    have h1 := sum_le (ps := r) (m := m) fun p hp => h p (by simp [hp])
    have h0 := h x (by simp)
    rw [List.sum_cons, List.length_cons]
    have : m * ((r.length + 1 : Nat) : Int) = m * r.length + m := by rw [Int.natCast_add, Int.mul_add]; simp
    rw [this]
    omega
theorem sum_split (much w : Int) : ∀ ps : List Int, much * ps.sum = w * (ps.map fun p => much * p / w).sum + (ps.map fun p => much * p % w).sum
  | [] => by simp
  | x :: r => by
    have ih := sum_split much w r
    have e := Int.mul_ediv_add_emod (much * x) w
    simp only [List.map_cons, List.sum_cons, Int.mul_add]
    omega
theorem rems_in {much : Int} {ps : List Int} (hw : 0 < ps.sum) : ∀ r ∈ remsOf much ps, 0 ≤ r ∧ r < ps.sum := fun r hr => by
  obtain ⟨p, _, rfl⟩ := List.mem_map.mp hr
  exact ⟨Int.emod_nonneg _ (by omega), Int.emod_lt_of_pos _ hw⟩
/-- how many coins are left: no more than there are people -/
theorem left_in {much : Int} {ps : List Int} (hw : 0 < ps.sum) : 0 ≤ much - (floorsOf much ps).sum ∧ much - (floorsOf much ps).sum ≤ ps.length := by
  have e := sum_split much ps.sum ps
  have h1 : 0 ≤ (remsOf much ps).sum := (sum_nn fun r hr => (rems_in hw r hr).1).1
  have h2 : (remsOf much ps).sum ≤ ps.sum * (remsOf much ps).length := sum_le fun r hr => Int.le_of_lt (rems_in hw r hr).2
  have h3 : (remsOf much ps).length = ps.length := by simp [remsOf]
  rw [h3] at h2
  have e2 : ps.sum * (much - (floorsOf much ps).sum) = (remsOf much ps).sum := by
    rw [Int.mul_sub, Int.mul_comm ps.sum much]
    show much * ps.sum - ps.sum * (ps.map fun p => much * p / ps.sum).sum = (ps.map fun p => much * p % ps.sum).sum
    omega
  constructor
  · by_cases z : 0 ≤ much - (floorsOf much ps).sum
    · exact z
    · have : ps.sum * (much - (floorsOf much ps).sum) < 0 := Int.mul_neg_of_pos_of_neg hw (by omega)
      omega
  · by_cases z : much - (floorsOf much ps).sum ≤ ps.length
    · exact z
    · have : ps.sum * (ps.length : Int) < ps.sum * (much - (floorsOf much ps).sum) := Int.mul_lt_mul_of_pos_left (by omega) hw
      omega
theorem turn_len (rs : List Int) : (turnOf rs).length = rs.length := by
  unfold turnOf
  rw [(isort_perm _).length_eq]
  simp
theorem turn_mem {rs : List Int} {q : Int × Int} (h : q ∈ turnOf rs) : ∃ i : Nat, i < rs.length ∧ q.2 = i ∧ rs[i]? = some (-q.1) := by
  have h1 := (isort_perm (le := leP) _).mem_iff.mp h
  obtain ⟨i, hi, e⟩ := List.mem_iff_getElem.mp h1
  rw [List.getElem_mapIdx] at e
  have hi' : i < rs.length := by simpa using hi
  refine ⟨i, hi', by rw [← e], ?_⟩
  rw [List.getElem?_eq_getElem hi', ← e]
  simp
theorem turn_ids (rs : List Int) : ((turnOf rs).map (·.2)).Nodup := by
  unfold turnOf
  rw [((isort_perm (le := leP) _).map _).nodup_iff]
  rw [List.Nodup, List.pairwise_iff_getElem]
  intro i j hi hj hij
  simp at hi hj ⊢
  omega
theorem turn_pw (rs : List Int) : (turnOf rs).Pairwise (fun p q => leP p q = true) := isort_pw leP_total _
theorem turn_all {rs : List Int} {i : Nat} {r : Int} (h : rs[i]? = some r) : (-r, (i : Int)) ∈ turnOf rs := by
  refine (isort_perm (le := leP) _).mem_iff.mpr ?_
  have hi : i < rs.length := by
    by_cases z : i < rs.length
    · exact z
    · rw [List.getElem?_eq_none (by omega)] at h; cases h
  rw [List.mem_iff_getElem]
  refine ⟨i, by simpa using hi, ?_⟩
  rw [List.getElem_mapIdx]
  rw [List.getElem?_eq_getElem hi] at h
  rw [Option.some.inj h]
theorem inc_len (l : List Int) (i : Int) : (incAt l i).length = l.length := by unfold incAt; rw [List.length_set]
theorem incs_len : ∀ (qs : List (Int × Int)) (l : List Int), (qs.foldl (fun l q => incAt l q.2) l).length = l.length
  | [], l => rfl
  | q :: r, l => by rw [List.foldl_cons, incs_len r, inc_len]
/-- each takes at most one more -/
theorem incs_get {qs : List (Int × Int)} (hn : (qs.map (·.2)).Nodup) (h0 : ∀ q ∈ qs, 0 ≤ q.2) (l : List Int) (i : Nat) (x : Int) (hx : l[i]? = some x) : ∃ y, (qs.foldl (fun l q => incAt l q.2) l)[i]? = some y ∧ (((i : Int) ∈ qs.map (·.2) ∧ y = x + 1) ∨ ((i : Int) ∉ qs.map (·.2) ∧ y = x)) := by
  induction qs generalizing l x with
  | nil => exact ⟨x, hx, .inr ⟨by simp, rfl⟩⟩
  | cons q r ih =>
    rw [List.map_cons, List.nodup_cons] at hn
    have hi : i < l.length := by
      by_cases z : i < l.length
      · exact z
      · rw [List.getElem?_eq_none (by omega)] at hx; cases hx
    rw [List.foldl_cons]
    by_cases e : q.2.toNat = i
    · have hq := h0 q (by simp)
      have e2 : q.2 = (i : Int) := by omega
      have h1 : (incAt l q.2)[i]? = some (x + 1) := by
        unfold incAt
        rw [e, List.getElem?_set_self hi, List.getD_eq_getElem?_getD, hx]
        rfl
      obtain ⟨y, h2, h3⟩ := ih hn.2 (fun p hp => h0 p (by simp [hp])) (incAt l q.2) (x + 1) h1
      refine ⟨y, h2, .inl ⟨by simp [e2], ?_⟩⟩
      rcases h3 with ⟨h3, _⟩ | ⟨_, h3⟩
      · rw [e2] at hn
        exact absurd h3 hn.1
      · exact h3
    · have h1 : (incAt l q.2)[i]? = some x := by
        unfold incAt
        rw [List.getElem?_set_ne e]
        exact hx
      obtain ⟨y, h2, h3⟩ := ih hn.2 (fun p hp => h0 p (by simp [hp])) (incAt l q.2) x h1
      refine ⟨y, h2, ?_⟩
      have hq := h0 q (by simp)
      have hne : (i : Int) ≠ q.2 := by omega
      rcases h3 with ⟨h3, h4⟩ | ⟨h3, h4⟩
      · exact .inl ⟨by simp [h3], h4⟩
      · exact .inr ⟨by simp only [List.map_cons, List.mem_cons, not_or]; exact ⟨hne, h3⟩, h4⟩
theorem sum_set : ∀ (l : List Int) (i : Nat) (x y : Int), l[i]? = some x → (l.set i y).sum = l.sum + (y - x)
  | [], i, x, y, h => by simp at h
  | a :: r, 0, x, y, h => by
    simp at h
    subst h
    rw [List.set_cons_zero, List.sum_cons, List.sum_cons]
    omega
  | a :: r, i + 1, x, y, h => by
    rw [List.set_cons_succ, List.sum_cons, List.sum_cons, sum_set r i x y (by simpa using h)]
    omega
theorem inc_sum {l : List Int} {i : Int} (h0 : 0 ≤ i) (h : i < l.length) : (incAt l i).sum = l.sum + 1 := by
  have hi : i.toNat < l.length := by omega
  unfold incAt
  rw [sum_set l i.toNat l[i.toNat] _ (List.getElem?_eq_getElem hi), List.getD_eq_getElem?_getD, List.getElem?_eq_getElem hi]
  simp
  omega
theorem incs_sum : ∀ (qs : List (Int × Int)) (l : List Int), (∀ q ∈ qs, 0 ≤ q.2 ∧ q.2 < l.length) → (qs.foldl (fun l q => incAt l q.2) l).sum = l.sum + qs.length
  | [], l, _ => by simp
  | q :: r, l, h => by
    have hq := h q (by simp)
    rw [List.foldl_cons, incs_sum r _ (fun p hp => by rw [inc_len]; exact h p (by simp [hp])), inc_sum hq.1 hq.2]
    simp
    omega
theorem turn_in {rs : List Int} {q : Int × Int} (h : q ∈ turnOf rs) : 0 ≤ q.2 ∧ q.2 < rs.length := by
  obtain ⟨i, h1, h2, _⟩ := turn_mem h
  omega
theorem floors_len (much : Int) (ps : List Int) : (floorsOf much ps).length = ps.length := by simp [floorsOf]
theorem rems_len (much : Int) (ps : List Int) : (remsOf much ps).length = ps.length := by simp [remsOf]
theorem parted_len (much : Int) (ps : List Int) : (partedOf much ps).length = ps.length := by
  unfold partedOf
  split
  · simp
  · rw [incs_len, floors_len]
/-- the coins come to what is parted -/
theorem parted_sum {much : Int} {ps : List Int} (hp : ∀ p ∈ ps, 0 ≤ p) (h0 : ps.sum = 0 → much = 0) : (partedOf much ps).sum = much := by
  unfold partedOf
  split
  · rename_i e
    rw [h0 e]
    induction ps.length with
    | zero => rfl
    | succ n ih => rw [List.replicate_succ, List.sum_cons, ih]; rfl
  · rename_i e
    have hw : 0 < ps.sum := by have := (sum_nn hp).1; omega
    have hl := left_in (much := much) hw
    rw [incs_sum _ _ (fun q hq => by
      have := turn_in (List.mem_of_mem_take hq)
      rw [rems_len] at this
      rw [floors_len]
      exact this), List.length_take, turn_len, rems_len]
    omega
/-- each takes what is rounded down, or one more -/
theorem parted_each {much : Int} {ps : List Int} (hw : ps.sum ≠ 0) {i : Nat} {p : Int} (hi : ps[i]? = some p) : ∃ y, (partedOf much ps)[i]? = some y ∧ (y = much * p / ps.sum ∨ y = much * p / ps.sum + 1) := by
  unfold partedOf
  rw [if_neg hw]
  have hx : (floorsOf much ps)[i]? = some (much * p / ps.sum) := by
    unfold floorsOf
    rw [List.getElem?_map, hi]
    rfl
  have hn : (((turnOf (remsOf much ps)).take (much - (floorsOf much ps).sum).toNat).map (·.2)).Nodup := by
    rw [List.map_take]
    exact List.Sublist.nodup (List.take_sublist _ _) (turn_ids _)
  obtain ⟨y, h1, h2⟩ := incs_get hn (fun q hq => (turn_in (List.mem_of_mem_take hq)).1) _ i _ hx
  refine ⟨y, h1, ?_⟩
  rcases h2 with ⟨_, h2⟩ | ⟨_, h2⟩
  · exact .inr h2
  · exact .inl h2
end GC

/-! plain: the coins given one by one to whom most is lacking -/
namespace GC
open PySem PySem.Spec EM
open L2 hiding prD opI
open PyProof.Rows hiding cutD
def outAt (l : List Int) (i : Int) : List Int := l.set i.toNat (-1)
theorem idx_ints {m : Int} : ∀ {rs : List Int} {j : Nat}, rs[j]? = some m → (∀ k, k < j → rs[k]? ≠ some m) → idxOf (fun z => PyData.eqv z (.int m)) (D.pys (rs.map .int)) = some j
  | [], j, h, _ => by simp at h
  | x :: r, 0, h, _ => by
    simp at h
    subst h
    rw [List.map_cons, D.pys, idxOf, D.py]
    simp [PyData.eqv]
  | x :: r, j + 1, h, h2 => by
    have hx : x ≠ m := fun e => h2 0 (by omega) (by simp [e])
    rw [List.map_cons, D.pys, idxOf, D.py]
    have : PyData.eqv (.int x) (.int m) = false := by simp [PyData.eqv, hx]
    rw [this, idx_ints (rs := r) (j := j) (by simpa using h) (fun k hk e => h2 (k + 1) (by omega) (by simpa using e))]
    rfl
theorem max_of {rs : List Int} {m : Int} (h1 : m ∈ rs) (h2 : ∀ y ∈ rs, y ≤ m) : maxI rs = some m := by
  cases rs with
  | nil => simp at h1
  | cons x r =>
    obtain ⟨f1, f2⟩ := foldl_max r x
    show some (r.foldl max x) = some m
    rw [Int.le_antisymm (h2 _ f1) (f2 m h1)]
theorem outs_get {qs : List (Int × Int)} (h0 : ∀ q ∈ qs, 0 ≤ q.2) : ∀ (l : List Int) (i : Nat) (x : Int), (qs.foldl (fun l q => outAt l q.2) l)[i]? = some x → ((i : Int) ∈ qs.map (·.2) ∧ x = -1) ∨ ((i : Int) ∉ qs.map (·.2) ∧ l[i]? = some x) := by
  induction qs with
  | nil => intro l i x h; exact .inr ⟨by simp, h⟩
  | cons q r ih =>
    intro l i x h
    rw [List.foldl_cons] at h
    have hq := h0 q (by simp)
    rcases ih (fun p hp => h0 p (by simp [hp])) _ i x h with ⟨h1, h2⟩ | ⟨h1, h2⟩
    · exact .inl ⟨by simp [h1], h2⟩
    · unfold outAt at h2
      rcases set_get h2 with ⟨e1, e2⟩ | ⟨e1, e2⟩
      · exact .inl ⟨by simp only [List.map_cons, List.mem_cons]; left; omega, e2⟩
      · refine .inr ⟨?_, e2⟩
        simp only [List.map_cons, List.mem_cons, not_or]
        exact ⟨by omega, h1⟩
theorem outs_keep {qs : List (Int × Int)} (h0 : ∀ q ∈ qs, 0 ≤ q.2) : ∀ (l : List Int) (i : Nat), (i : Int) ∉ qs.map (·.2) → (qs.foldl (fun l q => outAt l q.2) l)[i]? = l[i]? := by
  induction qs with
  | nil => intro l i _; rfl
  | cons q r ih =>
    intro l i h
    simp only [List.map_cons, List.mem_cons, not_or] at h
    have hq := h0 q (by simp)
    rw [List.foldl_cons, ih (fun p hp => h0 p (by simp [hp])) _ i h.2]
    unfold outAt
    rw [List.getElem?_set_ne (by omega)]
theorem outs_len : ∀ (qs : List (Int × Int)) (l : List Int), (qs.foldl (fun l q => outAt l q.2) l).length = l.length
  | [], l => rfl
  | q :: r, l => by rw [List.foldl_cons, outs_len r]; unfold outAt; rw [List.length_set]
/-- whom most is lacking is the next of the turn -/
theorem pick_next {rs : List Int} (hr : ∀ r ∈ rs, 0 ≤ r) {qs ts : List (Int × Int)} {q : Int × Int} (e : turnOf rs = qs ++ q :: ts) :
    maxI (qs.foldl (fun l q => outAt l q.2) rs) = some (-q.1) ∧ (qs.foldl (fun l q => outAt l q.2) rs)[q.2.toNat]? = some (-q.1) ∧ (∀ k, k < q.2.toNat → (qs.foldl (fun l q => outAt l q.2) rs)[k]? ≠ some (-q.1)) ∧ 0 ≤ q.2 ∧ q.2 < rs.length := by
  have hm : q ∈ turnOf rs := by rw [e]; simp
  have hmq : ∀ p ∈ qs, p ∈ turnOf rs := fun p hp => by rw [e]; simp [hp]
  obtain ⟨i, h1, h2, h3⟩ := turn_mem hm
  have h0 : ∀ p ∈ qs, 0 ≤ p.2 := fun p hp => (turn_in (hmq p hp)).1
  have hids := turn_ids rs
  rw [e, List.map_append, List.map_cons] at hids
  have hq0 : 0 ≤ -q.1 := hr _ (List.mem_of_getElem? h3)
  have hpw := turn_pw rs
  rw [e, List.pairwise_append, List.pairwise_cons] at hpw
  have hnot : (i : Int) ∉ qs.map (·.2) := fun z => by
    have := (List.nodup_append.mp hids).2.2 _ z q.2 (by simp)
    exact this (by omega)
  have hat : (qs.foldl (fun l q => outAt l q.2) rs)[i]? = some (-q.1) := by
    rw [outs_keep h0 rs i hnot]
    exact h3
  have later : ∀ (k : Nat) (y : Int), (qs.foldl (fun l q => outAt l q.2) rs)[k]? = some y → y = -1 ∨ leP q (-y, (k : Int)) = true := fun k y hy => by
    rcases outs_get h0 rs k y hy with ⟨_, z⟩ | ⟨z1, z2⟩
    · exact .inl z
    · right
      have hk := turn_all z2
      rw [e] at hk
      rcases List.mem_append.mp hk with z | z
      · exact absurd (List.mem_map.mpr ⟨_, z, rfl⟩) z1
      · rcases List.mem_cons.mp z with z | z
        · rw [z]
          unfold leP
          exact decide_eq_true (.inr ⟨rfl, Int.le_refl _⟩)
        · exact hpw.2.1.1 _ z
  have e2 : q.2.toNat = i := by omega
  refine ⟨max_of (List.mem_of_getElem? hat) fun y hy => ?_, by rw [e2]; exact hat, fun k hk z => ?_, by omega, by omega⟩
  · obtain ⟨k, hk⟩ := List.getElem?_of_mem hy
    rcases later k y hk with z | z
    · omega
    · unfold leP at z
      have z := of_decide_eq_true z
      simp only at z
      omega
  · rcases later k _ z with z | z
    · omega
    · unfold leP at z
      have z := of_decide_eq_true z
      simp only at z
      omega
end GC

namespace Wk04
open PySem PySem.Spec PyProof.Rows L2 EM
def FL : Nat → Str → Bool := fun _ _ => false
def SUB : Nat → Nat → Option Bool := fun _ _ => none
def a_is_count : C :=
    (.ret (.and (.isi (.v 0) .int) (.and (.not (.isi (.v 0) .bool)) (.chain .le .le (.v 1) (.v 0) (.v 2)))))
def pm_is_count : Pm := { fs := fun _ => fun _ => .no, gs := fun _ => fun _ _ => .no, fl := FL, sub := SUB }
def m_is_count : Fn := calmF (runP pm_is_count 3 3 a_is_count)
def Q_last_of_0 : X :=
    (.lc (.list (.v 0)) (.tup (.cons (.name 2) (.cons (.name 3) .nil))) (.tst (.op .le (.v 2) (.v 1))) (.v 3) [2, 3])
def a_last_of : C :=
    (.ret (.ix Q_last_of_0 (.neg (.k (.int 1)))))
def pm_last_of : Pm := { fs := fun _ => fun _ => .no, gs := fun _ => fun _ _ => .no, fl := FL, sub := SUB }
def m_last_of : Fn := calmF (runP pm_last_of 2 4 a_last_of)
def a_law_cell_at : C :=
    (.seq (.ite (.tst (.op .lt (.v 1) (.cb .len (.cons (.v 0) .nil)))) (.ret (.ix (.v 0) (.v 1))) .nx)
    (.ret (.k (.int 0))))
def pm_law_cell_at : Pm := { fs := fun _ => fun _ => .no, gs := fun _ => fun _ _ => .no, fl := FL, sub := SUB }
def m_law_cell_at : Fn := calmF (runP pm_law_cell_at 2 2 a_law_cell_at)
def a_law_draw : C :=
    (.seq (.asg (.name 3) (.tup (.cons (.k (.int 1000003)) (.cons (.k (.int 1000033)) (.cons (.k (.int 1000037)) (.cons (.k (.int 1000039)) (.cons (.k (.int 1000081)) (.cons (.k (.int 1000099)) (.cons (.k (.int 1000117)) (.cons (.k (.int 1000121)) (.cons (.k (.int 1000133)) (.cons (.k (.int 1000151)) (.cons (.k (.int 1000159)) (.cons (.k (.int 1000171)) (.cons (.k (.int 1000183)) (.cons (.k (.int 1000187)) (.cons (.k (.int 1000193)) (.cons (.k (.int 1000199)) .nil))))))))))))))))))
    (.ret (.op .mod (.op .mod (.op .add (.op .mul (.v 0) (.k (.int 48271))) (.op .mul (.v 1) (.k (.int 69621)))) (.ix (.v 3) (.op .mod (.v 1) (.k (.int 16))))) (.v 2))))
def pm_law_draw : Pm := { fs := fun _ => fun _ => .no, gs := fun _ => fun _ _ => .no, fl := FL, sub := SUB }
def m_law_draw : Fn := calmF (runP pm_law_draw 3 4 a_law_draw)
def a_law_whole : C :=
    (.ret (.and (.isi (.v 0) .int) (.not (.isi (.v 0) .bool))))
def pm_law_whole : Pm := { fs := fun _ => fun _ => .no, gs := fun _ => fun _ _ => .no, fl := FL, sub := SUB }
def m_law_whole : Fn := calmF (runP pm_law_whole 1 1 a_law_whole)
def L_law_amount_0 : C :=
    (.ite (.tst (.op .le (.v 2) (.v 1))) (.ret (.v 3)) .nx)
def R_law_amount_1 : C :=
    (.ret (.k (.int 0)))
def B_law_amount_2 : C :=
    (.seq (.for_ (.list (.rev (.v 0))) (.tup (.cons (.name 2) (.cons (.name 3) .nil))) L_law_amount_0)
    R_law_amount_1)
def a_law_amount : C :=
    B_law_amount_2
def pm_law_amount : Pm := { fs := fun _ => fun _ => .no, gs := fun _ => fun _ _ => .no, fl := FL, sub := SUB }
def m_law_amount : Fn := calmF (runP pm_law_amount 2 4 a_law_amount)
def L_law_due_0 : C :=
    (.seq (.asg (.name 8) (.bm .index (.v 6) (.cons (.cb .maxL (.cons (.v 6) .nil)) .nil)))
    (.asg (.tup (.cons (.sub (.v 3) (.v 8)) (.cons (.sub (.v 6) (.v 8)) .nil))) (.tup (.cons (.op .add (.ix (.v 3) (.v 8)) (.k (.int 1))) (.cons (.neg (.k (.int 1))) .nil)))))
def R_law_due_1 : C :=
    (.ret (.v 3))
def B_law_due_2 : C :=
    (.seq (.for_ (.rng1 (.cons (.op .sub (.v 0) (.cb .sum (.cons (.v 3) .nil))) .nil)) (.name 7) L_law_due_0)
    R_law_due_1)
def Q_law_due_3 : X :=
    (.lc (.zip (.cons (.v 1) (.cons (.v 3) .nil))) (.tup (.cons (.name 5) (.cons (.name 9) .nil))) .yes (.op .sub (.op .mul (.v 0) (.v 5)) (.op .mul (.v 2) (.v 9))) [5, 9])
def L_law_due_4 : C :=
    (.asg (.sub (.v 3) (.v 4)) (.op .fdiv (.op .sub (.op .mul (.v 0) (.v 5)) (.op .mod (.op .mul (.v 0) (.v 5)) (.v 2))) (.v 2)))
def R_law_due_5 : C :=
    (.seq (.asg (.name 6) (.cell Q_law_due_3))
    B_law_due_2)
def B_law_due_6 : C :=
    (.seq (.for_ (.enum (.cons (.v 1) .nil)) (.tup (.cons (.name 4) (.cons (.name 5) .nil))) L_law_due_4)
    R_law_due_5)
def a_law_due : C :=
    (.seq (.asg (.tup (.cons (.name 2) (.cons (.name 3) .nil))) (.tup (.cons (.cb .sum (.cons (.v 1) .nil)) (.cons (.cell (.op .rep (.lst (.cons (.k (.int 0)) .nil)) (.cb .len (.cons (.v 1) .nil)))) .nil))))
    (.seq (.ite (.tst (.op .eqS (.v 2) (.k (.int 0)))) (.ret (.v 3)) .nx)
    B_law_due_6))
def pm_law_due : Pm := { fs := fun _ => fun _ => .no, gs := fun _ => fun _ _ => .no, fl := FL, sub := SUB }
def m_law_due : Fn := calmF (runP pm_law_due 2 10 a_law_due)
def a_is_tier : C :=
    (.seq (.ite (.or (.not (.b (.isi (.v 0) .tuple))) (.tst (.op .neS (.cb .len (.cons (.v 0) .nil)) (.k (.int 2))))) (.ret (.k (.bl false))) .nx)
    (.ret (.and (.cp false 0 (.cons (.ix (.v 0) (.k (.int 0))) (.cons (.k (.int 0)) (.cons (.k (.int 36)) .nil)))) (.cp false 0 (.cons (.ix (.v 0) (.k (.int 1))) (.cons (.v 1) (.cons (.v 2) .nil)))))))
def pm_is_tier : Pm := { fs := fun n => match n with | 0 => m_is_count | _ => fun _ => .no, gs := fun _ => fun _ _ => .no, fl := FL, sub := SUB }
def m_is_tier : Fn := calmF (runP pm_is_tier 3 3 a_is_tier)
def a_check_count : C :=
    (.ite (.not (.b (.cp false 0 (.cons (.v 0) (.cons (.k (.int 0)) (.cons (.k (.int 36)) .nil)))))) .never .nx)
def pm_check_count : Pm := { fs := fun n => match n with | 0 => m_is_count | _ => fun _ => .no, gs := fun _ => fun _ _ => .no, fl := FL, sub := SUB }
def m_check_count : Fn := calmF (runP pm_check_count 1 1 a_check_count)
def Q_check_pieces_0 : X :=
    (.lc (.list (.v 0)) (.name 1) .yes (.cp false 0 (.cons (.v 1) (.cons (.k (.int 0)) (.cons (.k (.int 9)) .nil)))) [1])
def a_check_pieces : C :=
    (.seq (.ite (.or (.not (.b (.isi (.v 0) .list))) (.not (.tst (.chain .le .le (.k (.int 2)) (.cb .len (.cons (.v 0) .nil)) (.k (.int 4)))))) .never .nx)
    (.ite (.not (.b (.cb .all (.cons Q_check_pieces_0 .nil)))) .never .nx))
def pm_check_pieces : Pm := { fs := fun n => match n with | 0 => m_is_count | _ => fun _ => .no, gs := fun _ => fun _ _ => .no, fl := FL, sub := SUB }
def m_check_pieces : Fn := calmF (runP pm_check_pieces 1 2 a_check_pieces)
def a_cost_of : C :=
    (.seq (.ite (.tst (.op .eqS (.v 1) (.k (.int 0)))) (.ret (.k (.int 0))) .nx)
    (.ret (.op .add (.op .mul (.v 1) (.cp false 0 (.cons (.ix (.v 0) (.k (.int 0))) (.cons (.v 1) .nil)))) (.cp false 0 (.cons (.ix (.v 0) (.k (.int 1))) (.cons (.v 1) .nil))))))
def pm_cost_of : Pm := { fs := fun n => match n with | 0 => m_last_of | _ => fun _ => .no, gs := fun _ => fun _ _ => .no, fl := FL, sub := SUB }
def m_cost_of : Fn := calmF (runP pm_cost_of 2 2 a_cost_of)
def a_law_value : C :=
    (.seq (.ite (.tst (.op .ge (.v 0) (.op .pow (.k (.int 10)) (.k (.int 18))))) (.ret (.op .shr (.op .mod (.op .sub (.v 0) (.op .pow (.k (.int 10)) (.k (.int 18)))) (.op .pow (.k (.int 10)) (.k (.int 40)))) (.op .mul (.k (.int 3)) (.v 1)))) .nx)
    (.seq (.asg (.name 2) (.cp false 0 (.cons (.op .mulX (.op .add (.v 0) (.op .mul (.k (.int 977)) (.v 1))) (.op .add (.op .add (.v 0) (.op .mul (.k (.int 31)) (.v 1))) (.k (.int 5)))) (.cons (.op .add (.op .mod (.v 1) (.k (.int 9))) (.k (.int 1))) (.cons (.k (.int 999983)) .nil)))))
    (.ret (.op .add (.op .mul (.v 2) (.k (.int 1000003))) (.cp false 0 (.cons (.op .add (.op .mulX (.op .add (.v 0) (.op .mul (.k (.int 31)) (.v 1))) (.op .add (.v 0) (.k (.int 7)))) (.op .mul (.k (.int 977)) (.v 1))) (.cons (.op .add (.op .mod (.v 1) (.k (.int 7))) (.k (.int 2))) (.cons (.k (.int 1000003)) .nil))))))))
def pm_law_value : Pm := { fs := fun n => match n with | 0 => m_law_draw | _ => fun _ => .no, gs := fun _ => fun _ _ => .no, fl := FL, sub := SUB }
def m_law_value : Fn := calmF (runP pm_law_value 2 3 a_law_value)
def a_law_cost : C :=
    (.seq (.ite (.tst (.op .eqS (.v 1) (.k (.int 0)))) (.ret (.k (.int 0))) .nx)
    (.ret (.op .add (.op .mul (.v 1) (.cp false 0 (.cons (.ix (.v 0) (.k (.int 0))) (.cons (.v 1) .nil)))) (.cp false 0 (.cons (.ix (.v 0) (.k (.int 1))) (.cons (.v 1) .nil))))))
def pm_law_cost : Pm := { fs := fun n => match n with | 0 => m_law_amount | _ => fun _ => .no, gs := fun _ => fun _ _ => .no, fl := FL, sub := SUB }
def m_law_cost : Fn := calmF (runP pm_law_cost 2 2 a_law_cost)
def Q_are_tiers_0 : X :=
    (.lc (.zip (.cons (.v 0) (.cons (.sl (.v 0) (.some (.k (.int 1))) .none) .nil))) (.tup (.cons (.name 4) (.cons (.name 5) .nil))) .yes (.op .lt (.ix (.v 4) (.k (.int 0))) (.ix (.v 5) (.k (.int 0)))) [4, 5])
def Q_are_tiers_1 : X :=
    (.lc (.list (.v 0)) (.name 3) .yes (.cp false 0 (.cons (.v 3) (.cons (.v 1) (.cons (.v 2) .nil)))) [3])
def a_are_tiers : C :=
    (.seq (.ite (.or (.not (.b (.isi (.v 0) .list))) (.not (.tst (.chain .le .le (.k (.int 1)) (.cb .len (.cons (.v 0) .nil)) (.k (.int 3)))))) (.ret (.k (.bl false))) .nx)
    (.seq (.ite (.or (.not (.b (.cb .all (.cons Q_are_tiers_1 .nil)))) (.tst (.op .neS (.ix (.ix (.v 0) (.k (.int 0))) (.k (.int 0))) (.k (.int 0))))) (.ret (.k (.bl false))) .nx)
    (.ret (.cb .all (.cons Q_are_tiers_0 .nil)))))
def pm_are_tiers : Pm := { fs := fun n => match n with | 0 => m_is_tier | _ => fun _ => .no, gs := fun _ => fun _ _ => .no, fl := FL, sub := SUB }
def m_are_tiers : Fn := calmF (runP pm_are_tiers 3 6 a_are_tiers)
def L_law_tiers_0 : C :=
    (.seq (.asg (.name 10) (.op .fdiv (.cp false 0 (.cons (.op .add (.cp false 1 (.cons (.v 0) (.cons (.op .add (.v 1) (.op .mod (.v 9) (.k (.int 3)))) .nil))) (.op .mul (.k (.int 17)) (.v 9))) (.cons (.op .add (.k (.int 4)) (.v 9)) .nil))) (.k (.int 3))))
    (.seq (.drop (.bm .append (.v 6) (.cons (.tup (.cons (.v 7) (.cons (.v 8) .nil))) .nil)))
    (.seq (.asg (.name 7) (.op .add (.op .add (.v 7) (.k (.int 1))) (.op .mod (.v 10) (.ix (.tup (.cons (.k (.int 3)) (.cons (.k (.int 6)) (.cons (.k (.int 18)) (.cons (.k (.int 4)) .nil))))) (.op .mod (.op .fdiv (.v 5) (.k (.int 1000))) (.k (.int 4)))))))
    (.seq (.asg (.name 8) (.op .add (.v 2) (.op .mod (.op .fdiv (.v 10) (.k (.int 12))) (.op .add (.op .sub (.v 3) (.v 2)) (.k (.int 1))))))
    (.seq (.ite (.and (.b (.v 4)) (.tst (.op .gt (.v 8) (.ix (.ix (.v 6) (.neg (.k (.int 1)))) (.k (.int 1)))))) (.asg (.name 8) (.op .add (.v 2) (.op .fdiv (.op .sub (.ix (.ix (.v 6) (.neg (.k (.int 1)))) (.k (.int 1))) (.v 2)) (.op .add (.k (.int 2)) (.op .mod (.op .fdiv (.v 10) (.k (.int 2000))) (.k (.int 3))))))) .nx)
    (.ite (.tst (.op .gt (.v 7) (.k (.int 36)))) .brk .nx))))))
def R_law_tiers_1 : C :=
    (.ret (.v 6))
def B_law_tiers_2 : C :=
    (.seq (.for_ (.rng1 (.cons (.op .add (.k (.int 1)) (.op .mod (.v 5) (.k (.int 3)))) .nil)) (.name 9) L_law_tiers_0)
    R_law_tiers_1)
def a_law_tiers : C :=
    (.seq (.asg (.name 5) (.cp false 0 (.cons (.cp false 1 (.cons (.v 0) (.cons (.v 1) .nil))) (.cons (.k (.int 3)) .nil))))
    (.seq (.par3 6 7 8 (.cons (.cell (.lst .nil)) (.cons (.k (.int 0)) (.cons (.op .add (.v 2) (.op .mod (.op .fdiv (.v 5) (.k (.int 5))) (.op .add (.op .sub (.v 3) (.v 2)) (.k (.int 1))))) .nil))))
    B_law_tiers_2))
def pm_law_tiers : Pm := { fs := fun n => match n with | 0 => m_law_value | 1 => m_law_cell_at | _ => fun _ => .no, gs := fun _ => fun _ _ => .no, fl := FL, sub := SUB }
def m_law_tiers : Fn := calmF (runP pm_law_tiers 5 11 a_law_tiers)
def L_law_pieces_0 : C :=
    (.seq (.asg (.name 5) (.op .fdiv (.cp false 0 (.cons (.op .add (.cp false 1 (.cons (.v 0) (.cons (.op .add (.v 1) (.op .mod (.v 4) (.k (.int 4)))) .nil))) (.op .mul (.k (.int 11)) (.v 4))) (.cons (.op .add (.k (.int 1)) (.v 4)) .nil))) (.k (.int 3))))
    (.drop (.bm .append (.v 3) (.cons (.op .mod (.v 5) (.ix (.tup (.cons (.k (.int 10)) (.cons (.k (.int 4)) (.cons (.k (.int 2)) (.cons (.k (.int 10)) .nil))))) (.op .mod (.op .fdiv (.v 2) (.k (.int 3))) (.k (.int 4))))) .nil))))
def R_law_pieces_1 : C :=
    (.ret (.v 3))
def B_law_pieces_2 : C :=
    (.seq (.for_ (.rng1 (.cons (.op .add (.k (.int 2)) (.op .mod (.v 2) (.k (.int 3)))) .nil)) (.name 4) L_law_pieces_0)
    R_law_pieces_1)
def a_law_pieces : C :=
    (.seq (.par 2 3 (.cons (.cp false 0 (.cons (.cp false 1 (.cons (.v 0) (.cons (.v 1) .nil))) (.cons (.k (.int 6)) .nil))) (.cons (.cell (.lst .nil)) .nil)))
    B_law_pieces_2)
def pm_law_pieces : Pm := { fs := fun n => match n with | 0 => m_law_value | 1 => m_law_cell_at | _ => fun _ => .no, gs := fun _ => fun _ _ => .no, fl := FL, sub := SUB }
def m_law_pieces : Fn := calmF (runP pm_law_pieces 2 6 a_law_pieces)
def a_check_tariff : C :=
    (.seq (.ite (.or (.not (.b (.isi (.v 0) .tuple))) (.tst (.op .neS (.cb .len (.cons (.v 0) .nil)) (.k (.int 2))))) .never .nx)
    (.ite (.or (.not (.b (.cp false 0 (.cons (.ix (.v 0) (.k (.int 0))) (.cons (.k (.int 1)) (.cons (.k (.int 60)) .nil)))))) (.not (.b (.cp false 0 (.cons (.ix (.v 0) (.k (.int 1))) (.cons (.k (.int 0)) (.cons (.k (.int 200)) .nil))))))) .never .nx))
def pm_check_tariff : Pm := { fs := fun n => match n with | 0 => m_are_tiers | _ => fun _ => .no, gs := fun _ => fun _ _ => .no, fl := FL, sub := SUB }
def m_check_tariff : Fn := calmF (runP pm_check_tariff 1 1 a_check_tariff)
def a_law_tariff : C :=
    (.seq (.asg (.name 2) (.op .mod (.cp false 1 (.cons (.cp false 2 (.cons (.v 0) (.cons (.v 1) .nil))) (.cons (.k (.int 2)) .nil))) (.k (.int 4))))
    (.seq (.asg (.name 3) (.cp false 0 (.cons (.v 0) (.cons (.v 1) (.cons (.k (.int 1)) (.cons (.k (.int 60)) (.cons (.op .gt (.v 2) (.k (.int 0))) .nil)))))))
    (.ret (.tup (.cons (.v 3) (.cons (.cp false 0 (.cons (.v 0) (.cons (.op .add (.v 1) (.k (.int 1))) (.cons (.k (.int 0)) (.cons (.ix (.tup (.cons (.k (.int 200)) (.cons (.k (.int 30)) (.cons (.k (.int 200)) (.cons (.k (.int 9)) .nil))))) (.v 2)) (.cons (.op .eqS (.v 2) (.k (.int 2))) .nil)))))) .nil))))))
def pm_law_tariff : Pm := { fs := fun n => match n with | 0 => m_law_tiers | 1 => m_law_value | 2 => m_law_cell_at | _ => fun _ => .no, gs := fun _ => fun _ _ => .no, fl := FL, sub := SUB }
def m_law_tariff : Fn := calmF (runP pm_law_tariff 2 4 a_law_tariff)
def a_cost : C :=
    (.seq (.drop (.cp false 2 (.cons (.v 0) .nil)))
    (.seq (.drop (.cp false 1 (.cons (.v 1) .nil)))
    (.ret (.cp false 0 (.cons (.v 0) (.cons (.v 1) .nil))))))
def pm_cost : Pm := { fs := fun n => match n with | 0 => m_cost_of | 1 => m_check_count | 2 => m_check_tariff | _ => fun _ => .no, gs := fun _ => fun _ _ => .no, fl := FL, sub := SUB }
def m_cost : Fn := calmF (runP pm_cost 2 2 a_cost)
def L_parted_0 : C :=
    (.augS (.v 4) (.v 7) .add (.k (.int 1)))
def R_parted_1 : C :=
    (.ret (.v 4))
def B_parted_2 : C :=
    (.seq (.for_ (.list (.sl (.v 5) .none (.some (.op .sub (.v 3) (.cb .sum (.cons (.v 4) .nil)))))) (.tup (.cons (.name 6) (.cons (.name 7) .nil))) L_parted_0)
    R_parted_1)
def Q_parted_3 : X :=
    (.lc (.enum (.cons (.v 1) .nil)) (.tup (.cons (.name 7) (.cons (.name 8) .nil))) .yes (.tup (.cons (.neg (.op .mod (.op .mul (.v 3) (.v 8)) (.v 2))) (.cons (.v 7) .nil))) [7, 8])
def Q_parted_4 : X :=
    (.lc (.list (.v 1)) (.name 8) .yes (.op .fdiv (.op .mul (.v 3) (.v 8)) (.v 2)) [8])
def a_parted : C :=
    (.seq (.drop (.cp false 2 (.cons (.v 0) .nil)))
    (.seq (.drop (.cp false 1 (.cons (.v 1) .nil)))
    (.seq (.asg (.name 2) (.cb .sum (.cons (.v 1) .nil)))
    (.seq (.ite (.tst (.op .eqS (.v 2) (.k (.int 0)))) (.ret (.op .rep (.lst (.cons (.k (.int 0)) .nil)) (.cb .len (.cons (.v 1) .nil)))) .nx)
    (.seq (.asg (.name 3) (.cp false 0 (.cons (.v 0) (.cons (.v 2) .nil))))
    (.seq (.asg (.name 4) (.cell Q_parted_4))
    (.seq (.asg (.name 5) (.cb .sorted (.cons Q_parted_3 .nil)))
    B_parted_2)))))))
def pm_parted : Pm := { fs := fun n => match n with | 0 => m_cost_of | 1 => m_check_pieces | 2 => m_check_tariff | _ => fun _ => .no, gs := fun _ => fun _ _ => .no, fl := FL, sub := SUB }
def m_parted : Fn := calmF (runP pm_parted 2 9 a_parted)
def Q_law_0 : X :=
    (.lc (.zip (.cons (.v 8) (.cons (.v 7) .nil))) (.tup (.cons (.name 9) (.cons (.name 10) .nil))) .yes (.op .gt (.cb .abs (.cons (.op .sub (.v 9) (.v 10)) .nil)) (.k (.int 1))) [9, 10])
def Q_law_1 : X :=
    (.lc (.list (.v 7)) (.name 9) .yes (.cp false 4 (.cons (.v 9) .nil)) [9])
def L_law_2 : C :=
    (.seq (.asg (.name 7) (.cell (.cp false 0 (.cons (.v 2) (.cons (.v 4) .nil)))))
    (.seq (.ite (.or (.not (.b (.isi (.v 7) .list))) (.or (.tst (.op .neD (.v 7) (.cp false 2 (.cons (.v 5) (.cons (.v 3) .nil))))) (.tst (.op .neD (.v 4) (.v 3))))) (.ret (.k (.bl false))) .nx)
    (.seq (.ite (.or (.tst (.op .neD (.cb .sum (.cons (.v 7) .nil)) (.v 5))) (.not (.b (.cb .all (.cons Q_law_1 .nil))))) (.ret (.k (.bl false))) .nx)
    (.drop (.bm .append (.v 7) (.cons (.k (.int 0)) .nil))))))
def R_law_3 : C :=
    (.seq (.asg (.tup (.cons (.sub (.v 4) (.k (.int 0))) (.cons (.sub (.v 4) (.neg (.k (.int 1)))) .nil))) (.tup (.cons (.k (.int 9)) (.cons (.k (.int 1)) .nil))))
    (.seq (.ite (.tst (.op .neD (.cp false 0 (.cons (.v 2) (.cons (.v 4) .nil))) (.cp false 2 (.cons (.cp false 3 (.cons (.v 2) (.cons (.cb .sum (.cons (.v 4) .nil)) .nil))) (.cons (.v 4) .nil))))) (.ret (.k (.bl false))) .nx)
    (.seq (.asg (.name 8) (.rev (.cp false 0 (.cons (.v 2) (.cons (.rev (.v 3)) .nil)))))
    (.ite (.or (.tst (.op .neD (.cp false 1 (.cons (.v 2) (.cons (.cb .sum (.cons (.v 3) .nil)) .nil))) (.v 5))) (.b (.cb .any (.cons Q_law_0 .nil)))) (.ret (.k (.bl false))) .nx))))
def B_law_4 : C :=
    (.seq (.for_ (.rng1 (.cons (.k (.int 2)) .nil)) (.name 6) L_law_2)
    R_law_3)
def L_law_5 : C :=
    (.seq (.par 2 3 (.cons (.cp false 5 (.cons (.v 0) (.cons (.v 1) .nil))) (.cons (.cp false 6 (.cons (.v 0) (.cons (.v 1) .nil))) .nil)))
    (.seq (.par 4 5 (.cons (.cell (.cb .list (.cons (.v 3) .nil))) (.cons (.cp false 3 (.cons (.v 2) (.cons (.cb .sum (.cons (.v 3) .nil)) .nil))) .nil)))
    B_law_4))
def R_law_6 : C :=
    (.seq (.asg (.name 2) (.tup (.cons (.lst (.cons (.tup (.cons (.k (.int 0)) (.cons (.k (.int 10)) .nil))) .nil)) (.cons (.lst (.cons (.tup (.cons (.k (.int 0)) (.cons (.k (.int 1)) .nil))) .nil)) .nil))))
    (.seq (.ite (.or (.tst (.op .neD (.cp false 0 (.cons (.v 2) (.cons (.lst (.cons (.k (.int 1)) (.cons (.k (.int 1)) .nil))) .nil))) (.lst (.cons (.k (.int 11)) (.cons (.k (.int 10)) .nil))))) (.tst (.op .neD (.cp false 0 (.cons (.v 2) (.cons (.lst (.cons (.k (.int 0)) (.cons (.k (.int 0)) (.cons (.k (.int 0)) .nil)))) .nil))) (.lst (.cons (.k (.int 0)) (.cons (.k (.int 0)) (.cons (.k (.int 0)) .nil))))))) (.ret (.k (.bl false))) .nx)
    (.seq (.ite (.or (.tst (.op .neD (.cp false 0 (.cons (.v 2) (.cons (.lst (.cons (.k (.int 0)) (.cons (.k (.int 3)) .nil))) .nil))) (.lst (.cons (.k (.int 0)) (.cons (.k (.int 31)) .nil))))) (.tst (.op .neD (.cp false 0 (.cons (.tup (.cons (.lst (.cons (.tup (.cons (.k (.int 0)) (.cons (.k (.int 3)) .nil))) .nil)) (.cons (.lst (.cons (.tup (.cons (.k (.int 0)) (.cons (.k (.int 2)) .nil))) .nil)) .nil))) (.cons (.lst (.cons (.k (.int 1)) (.cons (.k (.int 1)) (.cons (.k (.int 1)) .nil)))) .nil))) (.lst (.cons (.k (.int 4)) (.cons (.k (.int 4)) (.cons (.k (.int 3)) .nil))))))) (.ret (.k (.bl false))) .nx)
    (.ret (.and (.op .eqD (.cp false 0 (.cons (.v 2) (.cons (.lst (.cons (.k (.int 1)) (.cons (.k (.int 2)) (.cons (.k (.int 4)) .nil)))) .nil))) (.lst (.cons (.k (.int 10)) (.cons (.k (.int 20)) (.cons (.k (.int 41)) .nil))))) (.op .eqD (.cp false 0 (.cons (.v 2) (.cons (.lst (.cons (.k (.int 3)) (.cons (.k (.int 3)) (.cons (.k (.int 1)) .nil)))) .nil))) (.lst (.cons (.k (.int 31)) (.cons (.k (.int 30)) (.cons (.k (.int 10)) .nil))))))))))
def B_law_7 : C :=
    (.seq (.for_ (.rng3 (.cons (.k (.int 0)) (.cons (.cb .max2 (.cons (.k (.int 1)) (.cons (.cb .min2 (.cons (.k (.int 9)) (.cons (.cb .len (.cons (.v 0) .nil)) .nil))) .nil))) (.cons (.k (.int 2)) .nil)))) (.name 1) L_law_5)
    R_law_6)
def a_law : C :=
    (.seq (.asg (.name 0) (.sl (.v 0) .none (.some (.k (.int 63)))))
    B_law_7)
def pm_law : Pm := { fs := fun n => match n with | 0 => m_parted | 1 => m_cost | 2 => m_law_due | 3 => m_law_cost | 4 => m_law_whole | 5 => m_law_tariff | 6 => m_law_pieces | _ => fun _ => .no, gs := fun _ => fun _ _ => .no, fl := FL, sub := SUB }
def m_law : Fn := calmF (runP pm_law 1 11 a_law)
end Wk04
namespace Wk04
open PySem PySem.Spec EM GC
open L2 hiding prD opI
open PyProof.Rows hiding cutD
local macro_rules | `(tactic| walk_at "ev") => `(tactic| simp (disch := first | assumption | omega | decide) only [C.ex, X.ev, Xs.ev, Xo.ev, T.ev, W.ev, Tg.put, Tgs.put, Tgs.len, startR, List.map_cons, List.map_nil, List.length_cons, List.length_nil, List.length_map, List.replicate, List.cons_append, List.nil_append, List.append_nil, List.getElem?_cons_zero, List.getElem?_cons_succ, List.set_cons_zero, List.set_cons_succ, bind_ok', bind_no', bind_er', fz_dat, fz_own, fz_er, toOu_ok, toOu_er, toOu_no, opt_some, opt_none, cell_own, o_add, o_sub, o_band, o_lt, o_le, o_gt, o_ge, o_mul, o_mulX, o_fdiv, o_fdivW, o_mod, o_modN, o_pow, o_shr, o_shl, o_eqI, o_neI, o_eqStr, o_neStr, o_isN, o_notN, o_isB, o_notB, o_eqD, o_neD, sM_lst, sL_lst, sL_scr, sA_lst, sA_scr, sA_tup, sT_tup, sA_tiers, sL_tiers, sM_tiers, sA_tariff, sA_pr, sT_pr, sA_ints, sL_ints, sM_ints, sM_loc, sL_loc, sA_loc, cL_loc, f_lst, f_scr, f_tiers, f_ints, f_loc, at0, at1, at2, at3, b_len, b_list, b_tuple, b_max2, b_min2, b_abs, b_int1b, b_sum, b_all, b_any, b_sorted, b_maxL, b_minL, asInts_map, asBools_map, asInts_f, asBools_f, zip_eq, enum_eq, m_append, set_sub, get_sub, ip_add', ip_sub', o_cat, o_rep, put_name, put_two, put_pr, Nat.zero_add, Nat.add_zero, flatD, Option.map_some, Option.map_none, Option.bind_some, Option.bind_none, Option.bind_fun_none, Option.isSome_some, Option.isSome_none, if_true, if_false, Nat.sub_self, Nat.reduceSub, Nat.reduceAdd, Nat.reduceMul, Nat.reduceLeDiff, Int.reduceNeg, reduceCtorEq, ↓reduceIte, isNon, Bool.false_eq_true, decide_true, decide_false, Bool.not_true, Bool.not_false, ty_int_int, ty_bool_int, ty_tuple_tup, ty_list_lst, ret_rt, retL_own, retL_dat, nx_nx, er_er, seqP_nx, seqP_rt, seqP_bk, seqP_ct, seqP_er, turn_nx, turn_ct, turn_bk, turn_rt, turn_er, wipeR, true_and, and_true, Int.cast_ofNat_Int, Int.reduceEq, Int.reduceLT, Int.reduceLE, Int.reduceAdd, Int.reduceSub, Int.reduceMul, Int.reduceMod, Int.reduceDiv, Int.reduceToNat, not_true_eq_false, not_false_eq_true])
local macro_rules | `(tactic| walk_at "evh") => `(tactic| simp (disch := first | assumption | omega | decide) only [C.ex, X.ev, Xs.ev, Xo.ev, T.ev, W.ev, Tg.put, Tgs.put, Tgs.len, startR, List.map_cons, List.map_nil, List.length_cons, List.length_nil, List.length_map, List.replicate, List.cons_append, List.nil_append, List.append_nil, List.getElem?_cons_zero, List.getElem?_cons_succ, List.set_cons_zero, List.set_cons_succ, bind_ok', bind_no', bind_er', fz_dat, fz_own, fz_er, toOu_ok, toOu_er, toOu_no, opt_some, opt_none, cell_own, o_add, o_sub, o_band, o_lt, o_le, o_gt, o_ge, o_mul, o_mulX, o_fdiv, o_fdivW, o_mod, o_modN, o_pow, o_shr, o_shl, o_eqI, o_neI, o_eqStr, o_neStr, o_isN, o_notN, o_isB, o_notB, o_eqD, o_neD, sM_lst, sL_lst, sL_scr, sA_lst, sA_scr, sA_tup, sT_tup, sA_tiers, sL_tiers, sM_tiers, sA_tariff, sA_pr, sT_pr, sA_ints, sL_ints, sM_ints, sM_loc, sL_loc, sA_loc, cL_loc, f_lst, f_scr, f_tiers, f_ints, f_loc, at0, at1, at2, at3, b_len, b_list, b_tuple, b_max2, b_min2, b_abs, b_int1b, b_sum, b_all, b_any, b_sorted, b_maxL, b_minL, asInts_map, asBools_map, asInts_f, asBools_f, zip_eq, enum_eq, m_append, set_sub, get_sub, ip_add', ip_sub', o_cat, o_rep, put_name, put_two, put_pr, Nat.zero_add, Nat.add_zero, flatD, Option.map_some, Option.map_none, Option.bind_some, Option.bind_none, Option.bind_fun_none, Option.isSome_some, Option.isSome_none, if_true, if_false, Nat.sub_self, Nat.reduceSub, Nat.reduceAdd, Nat.reduceMul, Nat.reduceLeDiff, Int.reduceNeg, reduceCtorEq, ↓reduceIte, isNon, Bool.false_eq_true, decide_true, decide_false, Bool.not_true, Bool.not_false, ty_int_int, ty_bool_int, ty_tuple_tup, ty_list_lst, ret_rt, retL_own, retL_dat, nx_nx, er_er, seqP_nx, seqP_rt, seqP_bk, seqP_ct, seqP_er, turn_nx, turn_ct, turn_bk, turn_rt, turn_er, wipeR, true_and, and_true, Int.cast_ofNat_Int, Int.reduceEq, Int.reduceLT, Int.reduceLE, Int.reduceAdd, Int.reduceSub, Int.reduceMul, Int.reduceMod, Int.reduceDiv, Int.reduceToNat, not_true_eq_false, not_false_eq_true, *])
theorem e_is_count (i a b : Int) : m_is_count [.int i, .int a, .int b] = .ret (.dat (.bl (decide (a ≤ i) && decide (i ≤ b)))) := by
  refine calm_ret (run_dat ?_ rfl rfl)
  unfold a_is_count
  walk_at "ev"
  cases decide (a ≤ i) <;> rfl
theorem e_last_of {ts : List (Int × Int)} {c v : Int} (hl : ts.length ≤ 1000) (hv : lastOf ts c = some v) : m_last_of [tiersD ts, .int c] = .ret (.dat (.int v)) := by
  refine calm_ret (run_dat ?_ rfl rfl)
  have q : X.ev pm_last_of Q_last_of_0 [some (tiersD ts), some (.int c), none, none] [] = .ok (.own ((ts.filter fun p => decide (p.1 ≤ c)).map fun p => .int p.2)) [] := by
    exact lc_filter (A := prD) (B := fun p => decide (p.1 ≤ c)) (G := fun p => .int p.2) (fun p => _) rfl rfl (by omega) (fun p _ => rfl) (fun p _ => rfl) (fun p _ _ => rfl)
  have h2 := last_at hv
  unfold a_last_of
  walk_at "evh"
theorem e_cost_of {t : Tariff} {c : Int} (ht : Tar t) (h0 : 0 ≤ c) (h1 : c ≤ 1000) : m_cost_of [tariffD t, .int c] = .ret (.dat (.int (costOf t c))) := by
  refine calm_ret (run_dat ?_ rfl rfl)
  by_cases hc : c = 0
  · subst hc
    unfold a_cost_of
    walk_at "ev"
    rfl
  · have a1 := tiers_last ht.pr h0
    have a2 := tiers_last ht.ca h0
    have l1 := ht.pr.most
    have l2 := ht.ca.most
    have k1 : ∀ μ, cpEv false (pm_cost_of.fs 0) μ [tiersD t.1, .int c] = .ok (.dat (.int (amt t.1 c))) μ := fun μ => call_eq (e_last_of (by omega) a1.1) (by simp [nl_cons, noLoc_tiers, nl_int, nl_nil])
    have k2 : ∀ μ, cpEv false (pm_cost_of.fs 0) μ [tiersD t.2, .int c] = .ok (.dat (.int (amt t.2 c))) μ := fun μ => call_eq (e_last_of (by omega) a2.1) (by simp [nl_cons, noLoc_tiers, nl_int, nl_nil])
    unfold a_cost_of
    rw [costOf, if_neg hc]
    walk_at "evh"
theorem e_is_tier {p : Int × Int} {a b : Int} (h : (0 ≤ p.1 ∧ p.1 ≤ 36) ∧ a ≤ p.2 ∧ p.2 ≤ b) : m_is_tier [prD p, .int a, .int b] = .ret (.dat (.bl true)) := by
  refine calm_ret (run_dat ?_ rfl rfl)
  have k1 : ∀ μ, cpEv false (pm_is_tier.fs 0) μ [.int p.1, .int 0, .int 36] = .ok (.dat (.bl true)) μ := fun μ => call_eq (by
    have := e_is_count p.1 0 36
    rw [decide_eq_true h.1.1, decide_eq_true h.1.2] at this
    exact this) rfl
  have k2 : ∀ μ, cpEv false (pm_is_tier.fs 0) μ [.int p.2, .int a, .int b] = .ok (.dat (.bl true)) μ := fun μ => call_eq (by
    have := e_is_count p.2 a b
    rw [decide_eq_true h.2.1, decide_eq_true h.2.2] at this
    exact this) rfl
  unfold a_is_tier prD
  walk_at "evh"
theorem pairs_rise {ts : List (Int × Int)} (h : risingB (ts.map (·.1)) = true) : ∀ q ∈ ts.zip (ts.drop 1), q.1.1 < q.2.1 := by
  have key : ∀ ts : List (Int × Int), risingB (ts.map (·.1)) = true → ∀ q ∈ ts.zip (ts.drop 1), q.1.1 < q.2.1 := by
    intro ts
    induction ts with
    | nil => intro _ q hq; simp at hq
    | cons x r ih =>
      intro h q hq
      cases r with
      | nil => simp at hq
      | cons y r =>
        have h' : (decide (x.1 < y.1) && risingB ((y :: r).map (·.1))) = true := h
        rw [Bool.and_eq_true, decide_eq_true_eq] at h'
        rw [List.drop_succ_cons, List.drop_zero, List.zip_cons_cons] at hq
        rcases List.mem_cons.mp hq with e | e
        · rw [e]; exact h'.1
        · exact ih h'.2 q (by rw [List.drop_succ_cons, List.drop_zero]; exact e)
  exact key ts h
theorem e_are_tiers {ts : List (Int × Int)} {a b : Int} (h : Tiers ts a b) : m_are_tiers [tiersD ts, .int a, .int b] = .ret (.dat (.bl true)) := by
  refine calm_ret (run_dat ?_ rfl rfl)
  have l1 := h.least
  have l2 := h.most
  have q1 : X.ev pm_are_tiers Q_are_tiers_1 [some (.lst (ts.map prD)), some (.int a), some (.int b), none, none, none] [] = .ok (.own (ts.map fun p => .bl true)) [] := by
    refine lc_map (A := prD) (fun p => _) rfl rfl (by omega) (fun p _ => rfl) (fun p hp => ?_)
    have k : ∀ μ, cpEv false (pm_are_tiers.fs 0) μ [prD p, .int a, .int b] = .ok (.dat (.bl true)) μ := fun μ => call_eq (e_is_tier (h.each p hp)) rfl
    walk_at "evh"
  have q2 : X.ev pm_are_tiers Q_are_tiers_0 [some (.lst (ts.map prD)), some (.int a), some (.int b), none, none, none] [] = .ok (.own ((ts.zip (ts.drop 1)).map fun q => .bl (decide (q.1.1 < q.2.1)))) [] := by
    have e : (ts.map prD).drop 1 = (ts.drop 1).map prD := by rw [List.map_drop]
    refine lc_map (A := fun q : (Int × Int) × (Int × Int) => .tup [prD q.1, prD q.2]) (sr := .zip (.fix (ts.map prD)) (.fix ((ts.drop 1).map prD))) (fun p => _) ?_ ?_ ?_ (fun p _ => rfl) (fun p hp => ?_)
    · walk_at "ev"
      rw [cutD_1, e]
    · show some (((ts.map prD).zip ((ts.drop 1).map prD)).map fun p => D.tup [p.1, p.2]) = _
      rw [List.zip_map, List.map_map]
      rfl
    · rw [List.length_zip]; omega
    · walk_at "ev"
  obtain ⟨v, e⟩ : ∃ v, atI (ts.map prD) 0 = some (prD (0, v)) := by
    obtain ⟨v, r, e, _⟩ := tiers_head h
    exact ⟨v, by rw [e]; exact at0⟩
  have c1 : decide (1 ≤ ((ts.length : Nat) : Int)) = true := decide_eq_true (by omega)
  have c2 : decide (((ts.length : Nat) : Int) ≤ 3) = true := decide_eq_true (by omega)
  have r1 : (ts.map fun _ => true).all id = true := by simp
  have r2 : ((ts.zip (ts.drop 1)).map fun q => decide (q.1.1 < q.2.1)).all id = true := by
    rw [List.all_map, List.all_eq_true]
    exact fun q hq => decide_eq_true (pairs_rise h.rise q hq)
  unfold a_are_tiers tiersD
  walk_at "evh"
theorem e_check_tariff {t : Tariff} (h : Tar t) : m_check_tariff [tariffD t] = .ret (.dat .non) := by
  refine calm_ret (run_non ?_ rfl)
  have k1 : ∀ μ, cpEv false (pm_check_tariff.fs 0) μ [tiersD t.1, .int 1, .int 60] = .ok (.dat (.bl true)) μ := fun μ => call_eq (e_are_tiers h.pr) (by simp [nl_cons, noLoc_tiers, nl_int, nl_nil])
  have k2 : ∀ μ, cpEv false (pm_check_tariff.fs 0) μ [tiersD t.2, .int 0, .int 200] = .ok (.dat (.bl true)) μ := fun μ => call_eq (e_are_tiers h.ca) (by simp [nl_cons, noLoc_tiers, nl_int, nl_nil])
  unfold a_check_tariff tariffD
  walk_at "evh"
theorem e_check_count {c : Int} (h0 : 0 ≤ c) (h1 : c ≤ 36) : m_check_count [.int c] = .ret (.dat .non) := by
  refine calm_ret (run_non ?_ rfl)
  have k1 : ∀ μ, cpEv false (pm_check_count.fs 0) μ [.int c, .int 0, .int 36] = .ok (.dat (.bl true)) μ := fun μ => call_eq (by
    have := e_is_count c 0 36
    rw [decide_eq_true h0, decide_eq_true h1] at this
    exact this) rfl
  unfold a_check_count
  walk_at "evh"
theorem e_cost {t : Tariff} {c : Int} (h : Tar t) (h0 : 0 ≤ c) (h1 : c ≤ 36) : m_cost [tariffD t, .int c] = .ret (.dat (.int (costOf t c))) := by
  refine calm_ret (run_dat ?_ rfl rfl)
  have k0 : ∀ μ, cpEv false m_check_tariff μ [tariffD t] = .ok (.dat .non) μ := fun μ => call_eq (e_check_tariff h) (by simp [nl_cons, noLoc_tariff, nl_nil])
  have k1 : ∀ μ, cpEv false m_check_count μ [.int c] = .ok (.dat .non) μ := fun μ => call_eq (e_check_count h0 h1) rfl
  have k2 : ∀ μ, cpEv false m_cost_of μ [tariffD t, .int c] = .ok (.dat (.int (costOf t c))) μ := fun μ => call_eq (e_cost_of h h0 (by omega)) (by simp [nl_cons, noLoc_tariff, nl_int, nl_nil])
  unfold a_cost pm_cost
  walk_at "evh"
theorem e_law_cell_at {ns : List Int} {k : Int} (h0 : 0 ≤ k) : m_law_cell_at [intsD ns, .int k] = .ret (.dat (.int (cellAt ns k))) := by
  refine calm_ret (run_dat ?_ rfl rfl)
  unfold a_law_cell_at
  by_cases hk : k < (ns.length : Int)
  · have h := cell_ix h0 hk
    walk_at "evh"
  · have h := cell_out hk
    walk_at "evh"
theorem e_law_draw {c k m : Int} (h0 : 0 ≤ k) (h1 : k ≤ 1000) (hm : 0 < m) : m_law_draw [.int c, .int k, .int m] = .ret (.dat (.int (drawOf c k m))) := by
  refine calm_ret (run_dat ?_ rfl rfl)
  obtain ⟨v, hv, p1, p2⟩ : ∃ v, v = primes.getD (k % 16).toNat 1 ∧ atI (primes.map D.int) (k % 16) = some (.int v) ∧ 0 < v := ⟨_, rfl, (prime_at h0).1, (prime_at h0).2⟩
  unfold drawOf
  rw [← hv]
  clear hv
  unfold primes at p1
  simp only [List.map_cons, List.map_nil] at p1
  unfold a_law_draw
  walk_at "evh"
theorem e_law_whole_int (i : Int) : m_law_whole [.int i] = .ret (.dat (.bl true)) := by
  refine calm_ret (run_dat ?_ rfl rfl)
  unfold a_law_whole
  walk_at "ev"
theorem e_law_value {c t : Int} {n : Nat} (hc : c.natAbs < 2 ^ n) (hn : n ≤ 10000000) (h0 : 0 ≤ t) (h1 : t ≤ 1000) : m_law_value [.int c, .int t] = .ret (.dat (.int (valueOf c t))) := by
  refine calm_ret (run_dat ?_ rfl rfl)
  have p1 : CPow 10 18 := ⟨by decide, by decide, by decide⟩
  have p2 : CPow 10 40 := ⟨by decide, by decide, by decide⟩
  have p3 : (0 : Int) < 10 ^ Int.toNat 40 := by decide
  by_cases hb : (10 : Int) ^ 18 ≤ c
  · have hd : decide ((10 : Int) ^ 18 ≤ c) = true := decide_eq_true hb
    rw [valueOf, if_pos hb]
    unfold a_law_value
    walk_at "evh"
  · have m1 := Int.emod_nonneg t (show (9 : Int) ≠ 0 by decide)
    have m2 := Int.emod_lt_of_pos t (show (0 : Int) < 9 by decide)
    have m3 := Int.emod_nonneg t (show (7 : Int) ≠ 0 by decide)
    have m4 := Int.emod_lt_of_pos t (show (0 : Int) < 7 by decide)
    have v1 := value_mul1 hc hn h0 h1
    have v2 := value_mul2 hc hn h0 h1
    have k1 : ∀ μ, cpEv false m_law_draw μ [.int ((c + 977 * t) * (c + 31 * t + 5)), .int (t % 9 + 1), .int 999983] = .ok (.dat (.int (drawOf ((c + 977 * t) * (c + 31 * t + 5)) (t % 9 + 1) 999983))) μ := fun μ => call_eq (e_law_draw (by omega) (by omega) (by decide)) rfl
    have k2 : ∀ μ, cpEv false m_law_draw μ [.int ((c + 31 * t) * (c + 7) + 977 * t), .int (t % 7 + 2), .int 1000003] = .ok (.dat (.int (drawOf ((c + 31 * t) * (c + 7) + 977 * t) (t % 7 + 2) 1000003))) μ := fun μ => call_eq (e_law_draw (by omega) (by omega) (by decide)) rfl
    have hd : decide ((10 : Int) ^ 18 ≤ c) = false := decide_eq_false hb
    rw [valueOf, if_neg hb]
    unfold a_law_value pm_law_value
    walk_at "evh"
theorem e_law_amount {ts : List (Int × Int)} {c : Int} (hl : ts.length ≤ 1000) : m_law_amount [tiersD ts, .int c] = .ret (.dat (.int (amt ts c))) := by
  refine calm_ret (run_dat ?_ rfl rfl)
  unfold a_law_amount B_law_amount_2
  refine p_for (A := prD) (l := ts.reverse) (fun l ρ μ => ∃ s2 s3, ρ = [some (tiersD ts), some (.int c), s2, s3] ∧ amt ts c = ((l.find? fun p => decide (p.1 ≤ c)).map (·.2)).getD 0) (sr := .one (.fix (ts.reverse.map prD))) (μ1 := []) ?_ rfl ⟨none, none, rfl, amount_find ts c⟩ ?_ ?_
  · walk_at "ev"
    rw [List.map_reverse]
  · rintro p r ρ μ ⟨s2, s3, rfl, hf⟩
    refine ⟨_, rfl, ?_⟩
    unfold L_law_amount_0
    by_cases hp : p.1 ≤ c
    · have hd : decide (p.1 ≤ c) = true := decide_eq_true hp
      walk_at "evh"
      simp [List.find?_cons, hd]
    · have hd : decide (p.1 ≤ c) = false := decide_eq_false hp
      walk_at "evh"
      exact ⟨_, _, rfl, by simp [List.find?_cons, hd]⟩
  · rintro ρ μ ⟨s2, s3, rfl, hf⟩
    unfold R_law_amount_1
    walk_at "ev"
    rw [hf]
    rfl
theorem e_law_cost {t : Tariff} {c : Int} (hl : t.1.length ≤ 1000 ∧ t.2.length ≤ 1000) (h0 : 0 ≤ c) (h1 : c ≤ 1000) : m_law_cost [tariffD t, .int c] = .ret (.dat (.int (costOf t c))) := by
  refine calm_ret (run_dat ?_ rfl rfl)
  by_cases hc : c = 0
  · subst hc
    unfold a_law_cost
    walk_at "ev"
    rfl
  · have k1 : ∀ μ, cpEv false m_law_amount μ [tiersD t.1, .int c] = .ok (.dat (.int (amt t.1 c))) μ := fun μ => call_eq (e_law_amount hl.1) (by simp [nl_cons, noLoc_tiers, nl_int, nl_nil])
    have k2 : ∀ μ, cpEv false m_law_amount μ [tiersD t.2, .int c] = .ok (.dat (.int (amt t.2 c))) μ := fun μ => call_eq (e_law_amount hl.2) (by simp [nl_cons, noLoc_tiers, nl_int, nl_nil])
    rw [costOf, if_neg hc]
    unfold a_law_cost pm_law_cost
    walk_at "evh"
theorem e_law_tiers {ns : List Int} {b least most : Int} {fal : Bool} (hc : Cells ns) (hb0 : 0 ≤ b) (hb1 : b ≤ 1000) (hl0 : 0 ≤ least) (hlm : least ≤ most) (hm1 : most ≤ 1000) :
    m_law_tiers [intsD ns, .int b, .int least, .int most, .bl fal] = .ret (.own ((tiersOf ns b least most fal).map prD)) := by
  refine calm_ret (run_own ?_ rfl (noLocs_map noLoc_pr _))
  have hv0 := valueOf_nn (cellAt ns b) 3
  have hdef : tiersOf ns b least most fal = tiersGo ns b least most fal (valueOf (cellAt ns b) 3) (natsI (1 + valueOf (cellAt ns b) 3 % 3).toNat) [] 0 (least + valueOf (cellAt ns b) 3 / 5 % (most - least + 1)) := rfl
  rw [hdef]
  obtain ⟨n, hn, hcell⟩ := hc.at b
  have k1 : ∀ μ, cpEv false (pm_law_tiers.fs 1) μ [intsD ns, .int b] = .ok (.dat (.int (cellAt ns b))) μ := fun μ => call_eq (e_law_cell_at hb0) (by simp [nl_cons, noLoc_ints, nl_int, nl_nil])
  have k2 : ∀ μ, cpEv false (pm_law_tiers.fs 0) μ [.int (cellAt ns b), .int 3] = .ok (.dat (.int (valueOf (cellAt ns b) 3))) μ := fun μ => call_eq (e_law_value hcell (by omega) (by decide) (by decide)) rfl
  generalize hv : valueOf (cellAt ns b) 3 = v at hv0 k2 ⊢
  have e0 : 0 ≤ v % 3 := Int.emod_nonneg _ (by decide)
  have e1 : v % 3 < 3 := Int.emod_lt_of_pos _ (by decide)
  have hp : 0 < most - least + 1 := by omega
  have hw := wideOf_pos v
  clear hdef
  unfold a_law_tiers
  walk_at "evh"
  unfold B_law_tiers_2
  refine p_for (A := D.int) (l := natsI (1 + v % 3).toNat) (fun l ρ μ => ∃ (found : List (Int × Int)) (count amount : Int) (s9 s10 : Option D), ρ = [some (intsD ns), some (.int b), some (.int least), some (.int most), some (.bl fal), some (.int v), some (.loc 0), some (.int count), some (.int amount), s9, s10] ∧ μ = [.lst (found.map prD)] ∧ (∀ a ∈ l, 0 ≤ a ∧ a < 3) ∧ found.length + l.length ≤ 1000 ∧
      tiersGo ns b least most fal v (natsI (1 + v % 3).toNat) [] 0 (least + v / 5 % (most - least + 1)) = tiersGo ns b least most fal v l found count amount) (sr := .one (.fix ((natsI (1 + v % 3).toNat).map D.int))) (μ1 := [.lst []]) ?_ rfl ⟨[], 0, _, none, none, rfl, rfl, ?_, ?_, rfl⟩ ?_ ?_
  · walk_at "ev"
    rw [rng1_nat (by omega) (by omega)]
    rfl
  · intro a ha
    have := mem_natsI ha
    omega
  · simp [natsI]
    omega
  · rintro a r ρ μ ⟨found, count, amount, s9, s10, rfl, rfl, hlr, hlen, hgo⟩
    have ha := hlr a (by simp)
    obtain ⟨n2, hn2, hcell2⟩ := hc.more (b + a % 3) (17 * a) (by have : (2 : Nat) ^ 20 = 1048576 := by decide
                                                                 omega)
    have hlast : atI ((found ++ [(count, amount)]).map prD) (-1) = some (prD (count, amount)) := by
      rw [List.map_append]
      exact atI_last _ _
    have ha3 := Int.emod_nonneg a (show (3 : Int) ≠ 0 by decide)
    have k3 : ∀ μ, cpEv false (pm_law_tiers.fs 1) μ [intsD ns, .int (b + a % 3)] = .ok (.dat (.int (cellAt ns (b + a % 3)))) μ := fun μ => call_eq (e_law_cell_at (by omega)) (by simp [nl_cons, noLoc_ints, nl_int, nl_nil])
    have k4 : ∀ μ, cpEv false (pm_law_tiers.fs 0) μ [.int (cellAt ns (b + a % 3) + 17 * a), .int (4 + a)] = .ok (.dat (.int (valueOf (cellAt ns (b + a % 3) + 17 * a) (4 + a)))) μ := fun μ => call_eq (e_law_value hcell2 hn2 (by omega) (by omega)) rfl
    have hlf : found.length < 100000 := by simp at hlen; omega
    have enum : valueOf (cellAt ns (b + a % 3) + 17 * a) (4 + a) / 3 = numberOf ns b a := rfl
    have d2 : 0 ≤ numberOf ns b a / 2000 % 3 := Int.emod_nonneg _ (by decide)
    have dlt : numberOf ns b a / 2000 % 3 < 3 := Int.emod_lt_of_pos _ (by decide)
    have hwp : 0 < wideOf v := by omega
    obtain ⟨_, _, hw3⟩ := hw
    have eapp : found.map prD ++ [.tup [.int count, .int amount]] = (found ++ [(count, amount)]).map prD := by rw [List.map_append]; rfl
    generalize hnum : numberOf ns b a = num at enum d2 dlt
    have ecount : count + 1 + num % wideOf v = countNext v count num := rfl
    refine ⟨_, rfl, ?_⟩
    have hgo2 : tiersGo ns b least most fal v (a :: r) found count amount = if 36 < countNext v count num then found ++ [(count, amount)] else tiersGo ns b least most fal v r (found ++ [(count, amount)]) (countNext v count num) (amountNext fal least most amount num) := by
      rw [← hnum]
      rfl
    have hlr2 : ∀ x ∈ r, 0 ≤ x ∧ x < 3 := fun x hx => hlr x (by simp [hx])
    have hlen2 : (found ++ [(count, amount)]).length + r.length ≤ 1000 := by simp at hlen ⊢; omega
    clear hlr
    have fin : ∀ (am : Int) (s9 s10 : Option D), am = amountNext fal least most amount num → TurnP (fun ρ μ => ∃ (found : List (Int × Int)) (count amount : Int) (s9 s10 : Option D), ρ = [some (intsD ns), some (.int b), some (.int least), some (.int most), some (.bl fal), some (.int v), some (.loc 0), some (.int count), some (.int amount), s9, s10] ∧ μ = [.lst (found.map prD)] ∧ (∀ a ∈ r, 0 ≤ a ∧ a < 3) ∧ found.length + r.length ≤ 1000 ∧
          tiersGo ns b least most fal v (natsI (1 + v % 3).toNat) [] 0 (least + v / 5 % (most - least + 1)) = tiersGo ns b least most fal v r found count amount)
        (fun ρ μ => RetL ((tiersGo ns b least most fal v (natsI (1 + v % 3).toNat) [] 0 (least + v / 5 % (most - least + 1))).map prD) (C.ex pm_law_tiers R_law_tiers_1 ρ μ))
        (RetL ((tiersGo ns b least most fal v (natsI (1 + v % 3).toNat) [] 0 (least + v / 5 % (most - least + 1))).map prD))
        (if decide (36 < countNext v count num) = true then Ou.bk [some (intsD ns), some (.int b), some (.int least), some (.int most), some (.bl fal), some (.int v), some (.loc 0), some (.int (countNext v count num)), some (.int am), s9, s10] [.lst ((found ++ [(count, amount)]).map prD)]
          else Ou.nx [some (intsD ns), some (.int b), some (.int least), some (.int most), some (.bl fal), some (.int v), some (.loc 0), some (.int (countNext v count num)), some (.int am), s9, s10] [.lst ((found ++ [(count, amount)]).map prD)]) := by
      intro am s9 s10 ham
      rw [hgo, hgo2]
      by_cases h36 : 36 < countNext v count num
      · rw [decide_eq_true h36, if_pos h36, if_pos rfl]
        unfold R_law_tiers_1
        walk_at "ev"
        exact .inr ⟨_, _, rfl, rfl⟩
      · rw [decide_eq_false h36, if_neg h36, if_neg Bool.false_ne_true]
        exact ⟨_, _, _, _, _, rfl, rfl, hlr2, hlen2, by rw [ham]⟩
    clear hgo hgo2
    by_cases hz : amount < least + num / 12 % (most - least + 1)
    · have hd : decide (amount < least + num / 12 % (most - least + 1)) = true := decide_eq_true hz
      cases fal with
      | true =>
        unfold L_law_tiers_0
        walk_at "evh"
        exact fin _ _ _ (by unfold amountNext; rw [hd]; rfl)
      | false =>
        unfold L_law_tiers_0
        walk_at "evh"
        exact fin _ _ _ (by unfold amountNext; rfl)
    · have hd : decide (amount < least + num / 12 % (most - least + 1)) = false := decide_eq_false hz
      cases fal with
      | true =>
        unfold L_law_tiers_0
        walk_at "evh"
        exact fin _ _ _ (by unfold amountNext; rw [hd]; rfl)
      | false =>
        unfold L_law_tiers_0
        walk_at "evh"
        exact fin _ _ _ (by unfold amountNext; rfl)
  · rintro ρ μ ⟨found, count, amount, s9, s10, rfl, rfl, _, _, hgo⟩
    unfold R_law_tiers_1
    walk_at "evh"
    exact .inr ⟨_, _, rfl, rfl⟩
theorem e_law_tariff {ns : List Int} {b : Int} (hc : Cells ns) (hb0 : 0 ≤ b) (hb1 : b ≤ 900) : m_law_tariff [intsD ns, .int b] = .ret (.dat (tariffD (tariffOf ns b))) := by
  refine calm_ret (run_dat ?_ rfl (noLoc_tariff _))
  obtain ⟨n, hn, hcell⟩ := hc.at b
  have hk := kind_in ns b
  obtain ⟨hm0, hm1, hm2⟩ := mostOf_ok hk.1 hk.2
  have k1 : ∀ μ, cpEv false m_law_cell_at μ [intsD ns, .int b] = .ok (.dat (.int (cellAt ns b))) μ := fun μ => call_eq (e_law_cell_at hb0) (by simp [nl_cons, noLoc_ints, nl_int, nl_nil])
  have k2 : ∀ μ, cpEv false m_law_value μ [.int (cellAt ns b), .int 2] = .ok (.dat (.int (valueOf (cellAt ns b) 2))) μ := fun μ => call_eq (e_law_value hcell (by omega) (by decide) (by decide)) rfl
  have e1 : valueOf (cellAt ns b) 2 % 4 = kindOf' ns b := rfl
  have k3 : ∀ μ, cpEv false m_law_tiers μ [intsD ns, .int b, .int 1, .int 60, .bl (decide (0 < kindOf' ns b))] = .ok (.own ((tiersOf ns b 1 60 (decide (0 < kindOf' ns b))).map prD)) μ := fun μ => call_eq (e_law_tiers hc hb0 (by omega) (by decide) (by decide) (by decide)) (by simp [nl_cons, noLoc_ints, nl_int, nl_bl, nl_nil])
  have k4 : ∀ μ, cpEv false m_law_tiers μ [intsD ns, .int (b + 1), .int 0, .int (mostOf (kindOf' ns b)), .bl (decide (kindOf' ns b = 2))] = .ok (.own ((tiersOf ns (b + 1) 0 (mostOf (kindOf' ns b)) (decide (kindOf' ns b = 2))).map prD)) μ := fun μ => call_eq (e_law_tiers hc (by omega) (by omega) (by decide) hm0 (by omega)) (by simp [nl_cons, noLoc_ints, nl_int, nl_bl, nl_nil])
  unfold a_law_tariff pm_law_tariff
  walk_at "evh"
  rfl
theorem e_law_pieces {ns : List Int} {b : Int} (hc : Cells ns) (hb0 : 0 ≤ b) (hb1 : b ≤ 900) : m_law_pieces [intsD ns, .int b] = .ret (.own ((piecesOf ns b).map .int)) := by
  refine calm_ret (run_own ?_ rfl (noLocs_ints _))
  obtain ⟨n, hn, hcell⟩ := hc.at b
  have k1 : ∀ μ, cpEv false (pm_law_pieces.fs 1) μ [intsD ns, .int b] = .ok (.dat (.int (cellAt ns b))) μ := fun μ => call_eq (e_law_cell_at hb0) (by simp [nl_cons, noLoc_ints, nl_int, nl_nil])
  have k2 : ∀ μ, cpEv false (pm_law_pieces.fs 0) μ [.int (cellAt ns b), .int 6] = .ok (.dat (.int (valueOf (cellAt ns b) 6))) μ := fun μ => call_eq (e_law_value hcell (by omega) (by decide) (by decide)) rfl
  unfold piecesOf
  generalize valueOf (cellAt ns b) 6 = v at k2 ⊢
  have e0 : 0 ≤ v % 3 := Int.emod_nonneg _ (by decide)
  have e1 : v % 3 < 3 := Int.emod_lt_of_pos _ (by decide)
  obtain ⟨w1, w2, w3⟩ := pieceWide_pos v
  have wp : 0 < pieceWide v := by omega
  unfold a_law_pieces
  walk_at "evh"
  unfold B_law_pieces_2
  refine p_for (A := D.int) (l := natsI (2 + v % 3).toNat) (fun l ρ μ => ∃ (found : List Int) (s4 s5 : Option D), ρ = [some (intsD ns), some (.int b), some (.int v), some (.loc 0), s4, s5] ∧ μ = [.lst (found.map .int)] ∧ (∀ a ∈ l, 0 ≤ a ∧ a < 4) ∧ found.length + l.length ≤ 1000 ∧
      (natsI (2 + v % 3).toNat).map (fun a => pieceNum ns b a % pieceWide v) = found ++ l.map fun a => pieceNum ns b a % pieceWide v) (sr := .one (.fix ((natsI (2 + v % 3).toNat).map D.int))) (μ1 := [.lst []]) ?_ rfl ⟨[], none, none, rfl, rfl, ?_, ?_, rfl⟩ ?_ ?_
  · walk_at "ev"
    rw [rng1_nat (by omega) (by omega)]
    rfl
  · intro a ha
    have := mem_natsI ha
    omega
  · simp [natsI]
    omega
  · rintro a r ρ μ ⟨found, s4, s5, rfl, rfl, hlr, hlen, hgo⟩
    have ha := hlr a (by simp)
    obtain ⟨n2, hn2, hcell2⟩ := hc.more (b + a % 4) (11 * a) (by have : (2 : Nat) ^ 20 = 1048576 := by decide
                                                                 omega)
    have ha3 := Int.emod_nonneg a (show (4 : Int) ≠ 0 by decide)
    have k3 : ∀ μ, cpEv false (pm_law_pieces.fs 1) μ [intsD ns, .int (b + a % 4)] = .ok (.dat (.int (cellAt ns (b + a % 4)))) μ := fun μ => call_eq (e_law_cell_at (by omega)) (by simp [nl_cons, noLoc_ints, nl_int, nl_nil])
    have k4 : ∀ μ, cpEv false (pm_law_pieces.fs 0) μ [.int (cellAt ns (b + a % 4) + 11 * a), .int (1 + a)] = .ok (.dat (.int (valueOf (cellAt ns (b + a % 4) + 11 * a) (1 + a)))) μ := fun μ => call_eq (e_law_value hcell2 hn2 (by omega) (by omega)) rfl
    have hlf : found.length < 100000 := by simp at hlen; omega
    have enum : valueOf (cellAt ns (b + a % 4) + 11 * a) (1 + a) / 3 = pieceNum ns b a := rfl
    have eapp : found.map D.int ++ [.int (pieceNum ns b a % pieceWide v)] = (found ++ [pieceNum ns b a % pieceWide v]).map D.int := by rw [List.map_append]; rfl
    have hlr2 : ∀ x ∈ r, 0 ≤ x ∧ x < 4 := fun x hx => hlr x (by simp [hx])
    refine ⟨_, rfl, ?_⟩
    clear hlr
    have hgo2 := hgo
    clear hgo
    unfold L_law_pieces_0
    walk_at "evh"
    refine ⟨_, _, _, rfl, rfl, hlr2, by simp at hlen ⊢; omega, ?_⟩
    simp
  · rintro ρ μ ⟨found, s4, s5, rfl, rfl, _, _, hgo⟩
    unfold R_law_pieces_1
    rw [hgo]
    walk_at "ev"
    exact .inr ⟨_, _, rfl, rfl⟩
theorem e_check_pieces {ps : List Int} (h : Pcs ps) : m_check_pieces [intsD ps] = .ret (.dat .non) := by
  refine calm_ret (run_non ?_ rfl)
  have l1 := h.least
  have l2 := h.most
  have q1 : X.ev pm_check_pieces Q_check_pieces_0 [some (.lst (ps.map .int)), none] [] = .ok (.own (ps.map fun p => .bl true)) [] := by
    refine lc_map (A := D.int) (fun p => _) rfl rfl (by omega) (fun p _ => rfl) (fun p hp => ?_)
    have hp := h.each p hp
    have k : ∀ μ, cpEv false (pm_check_pieces.fs 0) μ [.int p, .int 0, .int 9] = .ok (.dat (.bl true)) μ := fun μ => call_eq (by
      have := e_is_count p 0 9
      rw [decide_eq_true hp.1, decide_eq_true hp.2] at this
      exact this) rfl
    walk_at "evh"
  have c1 : decide (2 ≤ ((ps.length : Nat) : Int)) = true := decide_eq_true (by omega)
  have c2 : decide (((ps.length : Nat) : Int) ≤ 4) = true := decide_eq_true (by omega)
  have r1 : (ps.map fun _ => true).all id = true := by simp
  unfold a_check_pieces intsD
  walk_at "evh"
theorem cost_in {t : Tariff} {c : Int} (h : Tar t) (h0 : 0 ≤ c) (h1 : c ≤ 36) : 0 ≤ costOf t c ∧ costOf t c ≤ 2360 := by
  unfold costOf
  split
  · omega
  · have a1 := tiers_last h.pr h0
    have a2 := tiers_last h.ca h0
    have b1 : c * 1 ≤ c * amt t.1 c := Int.mul_le_mul_of_nonneg_left a1.2.1 h0
    have b2 : c * amt t.1 c ≤ c * 60 := Int.mul_le_mul_of_nonneg_left a1.2.2 h0
    omega
theorem pcs_sum {ps : List Int} (h : Pcs ps) : 0 ≤ ps.sum ∧ ps.sum ≤ 36 := by
  have h1 := (sum_nn fun p hp => (h.each p hp).1).1
  have h2 := sum_le (m := 9) fun p hp => (h.each p hp).2
  have := h.most
  omega
theorem cut_take {xs : List D} {k : Int} (h : 0 ≤ k) : EM.cutD xs none (some k) = xs.take k.toNat := by
  obtain ⟨n, rfl⟩ := Int.eq_ofNat_of_zero_le h
  exact cutD_to xs n
theorem e_parted {t : Tariff} {ps : List Int} (ht : Tar t) (hp : Pcs ps) : m_parted [tariffD t, intsD ps] = .ret (.own ((partedOf (costOf t ps.sum) ps).map .int)) := by
  refine calm_ret (run_own ?_ rfl (noLocs_ints _))
  have hs := pcs_sum hp
  have l1 := hp.least
  have l2 := hp.most
  have k0 : ∀ μ, cpEv false (pm_parted.fs 2) μ [tariffD t] = .ok (.dat .non) μ := fun μ => call_eq (e_check_tariff ht) (by simp [nl_cons, noLoc_tariff, nl_nil])
  have k1 : ∀ μ, cpEv false (pm_parted.fs 1) μ [intsD ps] = .ok (.dat .non) μ := fun μ => call_eq (e_check_pieces hp) (by simp [nl_cons, noLoc_ints, nl_nil])
  have k2 : ∀ μ, cpEv false (pm_parted.fs 0) μ [tariffD t, .int ps.sum] = .ok (.dat (.int (costOf t ps.sum))) μ := fun μ => call_eq (e_cost_of ht hs.1 (by omega)) (by simp [nl_cons, noLoc_tariff, nl_int, nl_nil])
  by_cases hw : ps.sum = 0
  · have hd : decide (ps.sum = 0) = true := decide_eq_true hw
    have e1 : partedOf (costOf t ps.sum) ps = List.replicate ps.length 0 := by unfold partedOf; rw [if_pos hw]
    rw [e1]
    have c1 : (-(2 ^ 62) ≤ ((ps.length : Nat) : Int) ∧ ((ps.length : Nat) : Int) ≤ 100000 ∧ 1 * ((ps.length : Nat) : Int).toNat ≤ 100000) = True := eq_true ⟨by omega, by omega, by omega⟩
    clear hw e1
    unfold a_parted
    walk_at "evh"
    left
    rw [Int.toNat_natCast]
    congr 1
    have : ∀ n : Nat, (List.replicate n [D.int 0]).flatten = (List.replicate n (0 : Int)).map D.int := fun n => by
      induction n with
      | zero => rfl
      | succ n ih => rw [List.replicate_succ, List.flatten_cons, ih, List.replicate_succ]; rfl
    exact this _
  · have hd : decide (ps.sum = 0) = false := decide_eq_false hw
    have hwp : 0 < ps.sum := by omega
    have hm := cost_in ht hs.1 hs.2
    have hp0 : ∀ p ∈ ps, 0 ≤ p := fun p hq => (hp.each p hq).1
    unfold partedOf
    rw [if_neg hw]
    generalize costOf t ps.sum = much at k2 hm ⊢
    have hl := left_in (much := much) hwp
    have q1 : X.ev pm_parted Q_parted_4 [some (tariffD t), some (intsD ps), some (.int ps.sum), some (.int much), none, none, none, none, none] [] = .ok (.own ((floorsOf much ps).map .int)) [] := by
      have : (floorsOf much ps).map D.int = ps.map fun p => .int (much * p / ps.sum) := by unfold floorsOf; rw [List.map_map]; rfl
      rw [this]
      refine lc_map (A := D.int) (fun p => _) rfl rfl (by omega) (fun p _ => rfl) (fun p hp => ?_)
      walk_at "evh"
    have q2 : ∀ μ, X.ev pm_parted Q_parted_3 [some (tariffD t), some (intsD ps), some (.int ps.sum), some (.int much), some (.loc 0), none, none, none, none] μ = .ok (.own (((remsOf much ps).mapIdx fun i r => (-r, (i : Int))).map prD)) μ := fun μ => by
      have : (((remsOf much ps).mapIdx fun i r => (-r, (i : Int))).map prD) = (ps.mapIdx fun i p => (i, p)).map fun x => .tup [.int (-(much * x.2 % ps.sum)), .int (x.1 : Nat)] := by
        unfold remsOf
        rw [mapIdx_map', map_mapIdx', map_mapIdx']
        rfl
      rw [this]
      refine lc_map (A := fun x : Nat × Int => .tup [.int (x.1 : Nat), .int x.2]) (sr := .enum (.fix (ps.map .int))) (fun p => _) rfl ?_ (by simp; omega) (fun p _ => rfl) (fun p hp => ?_)
      · show some ((ps.map D.int).mapIdx fun i y => D.tup [.int (i : Nat), y]) = _
        rw [mapIdx_map', map_mapIdx']
      · walk_at "evh"
    have srt : ∀ μ, sortD μ (((remsOf much ps).mapIdx fun i r => (-r, (i : Int))).map prD) = some ((turnOf (remsOf much ps)).map prD) := fun μ => sort_prs μ _
    unfold a_parted
    walk_at "evh"
    unfold B_parted_2
    generalize hk : much - (floorsOf much ps).sum = k at hl ⊢
    have hkk : k.toNat ≤ (turnOf (remsOf much ps)).length := by rw [turn_len, rems_len]; omega
    refine p_for (A := prD) (l := (turnOf (remsOf much ps)).take k.toNat) (fun l ρ μ => ∃ (found : List Int) (s6 s7 : Option D), ρ = [some (tariffD t), some (intsD ps), some (.int ps.sum), some (.int much), some (.loc 0), some (.lst ((turnOf (remsOf much ps)).map prD)), s6, s7, none] ∧ μ = [.lst (found.map .int)] ∧ found.length = ps.length ∧ (∀ q ∈ l, 0 ≤ q.2 ∧ q.2 < ps.length) ∧
      ((turnOf (remsOf much ps)).take k.toNat).foldl (fun l q => incAt l q.2) (floorsOf much ps) = l.foldl (fun l q => incAt l q.2) found) (sr := .one (.fix (((turnOf (remsOf much ps)).take k.toNat).map prD))) (μ1 := [.lst ((floorsOf much ps).map .int)]) ?_ rfl ⟨_, none, none, rfl, rfl, floors_len _ _, ?_, rfl⟩ ?_ ?_
    · walk_at "evh"
      rw [cut_take hl.1, List.map_take]
    · intro q hq
      have := turn_in (List.mem_of_mem_take hq)
      rw [rems_len] at this
      exact this
    · rintro q r ρ μ ⟨found, s6, s7, rfl, rfl, hlen, hr, hgo⟩
      have hq := hr q (by simp)
      have hr2 : ∀ x ∈ r, 0 ≤ x.2 ∧ x.2 < ps.length := fun x hx => hr x (by simp [hx])
      have g1 : (found.map D.int)[q.2.toNat]? = some (.int (found.getD q.2.toNat 0)) := by
        have := ints_at (l := found) hq.1 (by omega)
        unfold atI at this
        rw [List.length_map, ix_nat hq.1 (by omega)] at this
        exact this
      have g2 : ixN ps.length q.2 = some q.2.toNat := ix_nat hq.1 hq.2
      have e2 : (found.map D.int).set q.2.toNat (.int (found.getD q.2.toNat 0 + 1)) = (incAt found q.2).map D.int := ints_set
      refine ⟨_, rfl, ?_⟩
      clear hr
      rw [List.foldl_cons] at hgo
      rw [hgo]
      clear hgo
      unfold L_parted_0
      walk_at "evh"
      exact ⟨_, _, _, rfl, rfl, by rw [inc_len]; exact hlen, hr2, rfl⟩
    · rintro ρ μ ⟨found, s6, s7, rfl, rfl, _, _, hgo⟩
      rw [hgo]
      unfold R_parted_1
      walk_at "ev"
      exact .inr ⟨_, _, rfl, rfl⟩
theorem e_law_due {much : Int} {ps : List Int} (hm : 0 ≤ much ∧ much ≤ 2360) (hp : Pcs ps) : m_law_due [.int much, intsD ps] = .ret (.own ((partedOf much ps).map .int)) := by
  refine calm_ret (run_own ?_ rfl (noLocs_ints _))
  have hs := pcs_sum hp
  have l1 := hp.least
  have l2 := hp.most
  have c1 : (-(2 ^ 62) ≤ ((ps.length : Nat) : Int) ∧ ((ps.length : Nat) : Int) ≤ 100000 ∧ 1 * ((ps.length : Nat) : Int).toNat ≤ 100000) = True := eq_true ⟨by omega, by omega, by omega⟩
  have zeros : ∀ n : Nat, (List.replicate n [D.int 0]).flatten = (List.replicate n (0 : Int)).map D.int := fun n => by
    induction n with
    | zero => rfl
    | succ n ih => rw [List.replicate_succ, List.flatten_cons, ih, List.replicate_succ]; rfl
  by_cases hw : ps.sum = 0
  · have hd : decide (ps.sum = 0) = true := decide_eq_true hw
    have e1 : partedOf much ps = List.replicate ps.length 0 := by unfold partedOf; rw [if_pos hw]
    rw [e1]
    clear hw e1
    unfold a_law_due
    walk_at "evh"
    exact .inr ⟨_, _, rfl, by rw [Int.toNat_natCast]; rfl⟩
  · have hd : decide (ps.sum = 0) = false := decide_eq_false hw
    have hwp : 0 < ps.sum := by omega
    have hl := left_in (much := much) hwp
    have hp9 : ∀ p ∈ ps, 0 ≤ p ∧ p ≤ 9 := hp.each
    have hfl : ∀ (p : Int), (much * p - much * p % ps.sum) / ps.sum = much * p / ps.sum := fun p => by
      have e := Int.mul_ediv_add_emod (much * p) ps.sum
      have e2 : much * p - much * p % ps.sum = ps.sum * (much * p / ps.sum) := by omega
      rw [e2, Int.mul_ediv_cancel_left _ (by omega)]
    unfold partedOf
    rw [if_neg hw]
    unfold a_law_due
    walk_at "evh"
    rw [Int.toNat_natCast]
    unfold B_law_due_6
    refine p_for (A := fun x : Nat × Int => .tup [.int (x.1 : Nat), .int x.2]) (l := ps.mapIdx fun i p => (i, p)) (fun l ρ μ => ∃ (found : List Int) (s4 s5 : Option D) (j : Nat), ρ = [some (.int much), some (intsD ps), some (.int ps.sum), some (.loc 0), s4, s5, none, none, none, none] ∧ μ = [.lst (found.map .int)] ∧ found.length = ps.length ∧ (l = (ps.mapIdx fun i p => (i, p)).drop j) ∧ (∀ i, i < j → found[i]? = (floorsOf much ps)[i]?) ∧ j + l.length = ps.length) (sr := .enum (.fix (ps.map .int))) (μ1 := [.lst ((List.replicate ps.length (0 : Int)).map .int)]) ?_ ?_ ⟨_, none, none, 0, rfl, rfl, by simp, rfl, fun i hi => absurd hi (by omega), by simp⟩ ?_ ?_
    · walk_at "ev"
    · show some ((ps.map D.int).mapIdx fun i y => D.tup [.int (i : Nat), y]) = _
      rw [mapIdx_map', map_mapIdx']
    · rintro x r ρ μ ⟨found, s4, s5, j, rfl, rfl, hlen, hdr, hfd, hjl⟩
      have hj : j < ps.length := by simp at hjl; omega
      have hx : x = (j, ps[j]) ∧ r = (ps.mapIdx fun i p => (i, p)).drop (j + 1) := by
        rw [List.drop_eq_getElem_cons (by simpa using hj)] at hdr
        injection hdr with h1 h2
        exact ⟨by rw [h1]; simp, h2⟩
      obtain ⟨rfl, hr⟩ := hx
      have g2 : ixN ps.length ((j : Nat) : Int) = some j := by rw [ix_nat (by omega) (by omega)]; rfl
      have hp1 := hp9 ps[j] (List.getElem_mem hj)
      refine ⟨_, rfl, ?_⟩
      have fin : ∃ (found' : List Int) (s4 s5 : Option D) (j' : Nat), [some (D.int much), some (intsD ps), some (.int ps.sum), some (.loc 0), some (.int ((j : Nat) : Int)), some (.int ps[j]), none, none, none, none] = [some (D.int much), some (intsD ps), some (.int ps.sum), some (.loc 0), s4, s5, none, none, none, none] ∧ [Cell.lst ((found.map D.int).set j (.int (much * ps[j] / ps.sum)))] = [Cell.lst (found'.map .int)] ∧ found'.length = ps.length ∧ (r = (ps.mapIdx fun i p => (i, p)).drop j') ∧ (∀ i, i < j' → found'[i]? = (floorsOf much ps)[i]?) ∧ j' + r.length = ps.length := by
        refine ⟨found.set j (much * ps[j] / ps.sum), _, _, j + 1, rfl, by rw [ints_set], by rw [List.length_set]; exact hlen, hr, fun i hi => ?_, by simp at hjl; omega⟩
        by_cases e : j = i
        · subst e
          rw [List.getElem?_set_self (by omega)]
          unfold floorsOf
          rw [List.getElem?_map, List.getElem?_eq_getElem hj]
          rfl
        · rw [List.getElem?_set_ne e]
          exact hfd i (by omega)
      clear hdr hr hfd hjl
      generalize ps[j] = p at hp1 fin ⊢
      unfold L_law_due_4
      walk_at "evh"
    · rintro ρ μ ⟨found, s4, s5, j, rfl, rfl, hlen, hdr, hfd, hjl⟩
      have hj : j = ps.length := by simpa using hjl
      have ef : found = floorsOf much ps := by
        refine List.ext_getElem? fun i => ?_
        by_cases hi : i < j
        · exact hfd i hi
        · rw [List.getElem?_eq_none (by omega), List.getElem?_eq_none (by rw [floors_len]; omega)]
      subst ef
      clear hdr hfd hjl hlen
      have hrm : (remsOf much ps).map D.int = (ps.zip (floorsOf much ps)).map fun x => .int (much * x.1 - ps.sum * x.2) := by
        unfold remsOf floorsOf
        rw [List.map_map]
        refine List.ext_getElem? fun i => ?_
        rw [List.getElem?_map, List.getElem?_map]
        cases hx : ps[i]? with
        | none =>
          rw [show (ps.zip (ps.map fun p => much * p / ps.sum))[i]? = none from by
            rw [List.getElem?_eq_none_iff] at hx ⊢
            rw [List.length_zip]; omega]
          rfl
        | some p =>
          rw [show (ps.zip (ps.map fun p => much * p / ps.sum))[i]? = some (p, much * p / ps.sum) from List.getElem?_zip_eq_some.mpr ⟨hx, by rw [List.getElem?_map, hx]; rfl⟩]
          show some (D.int (much * p % ps.sum)) = some (D.int (much * p - ps.sum * (much * p / ps.sum)))
          have e := Int.mul_ediv_add_emod (much * p) ps.sum
          congr 2
          omega
      have hzl : (ps.zip (floorsOf much ps)).length = ps.length := by rw [List.length_zip, floors_len]; omega
      have q3 : ∀ s4 s5 : Option D, X.ev pm_law_due Q_law_due_3 [some (.int much), some (intsD ps), some (.int ps.sum), some (.loc 0), s4, s5, none, none, none, none] [.lst ((floorsOf much ps).map .int)] = .ok (.own ((remsOf much ps).map .int)) [.lst ((floorsOf much ps).map .int)] := fun s4 s5 => by
        rw [hrm]
        refine lc_mapC (A := fun x : Int × Int => .tup [.int x.1, .int x.2]) (sr := .zip (.fix (ps.map .int)) (.cell 0 ((floorsOf much ps).map D.int).length)) (fun p => _) rfl rfl ?_ ?_ ?_ ?_ (fun p _ => rfl) (fun p hp => ?_)
        · simp [Sr.ok, Sq.items, seqM]
        · rw [hzl]
          simp [Sr.len, Sq.len, floors_len]
        · intro i hi
          rw [hzl] at hi
          have h2 : i < (floorsOf much ps).length := by rw [floors_len]; exact hi
          rw [List.getElem?_map, show (ps.zip (floorsOf much ps))[i]? = some (ps[i], (floorsOf much ps)[i]) from List.getElem?_zip_eq_some.mpr ⟨List.getElem?_eq_getElem hi, List.getElem?_eq_getElem h2⟩]
          simp [Sr.item, Sq.items, seqM, hi, h2]
        · omega
        · have hw2 : (-18446744073709551616 < ps.sum ∧ ps.sum < 18446744073709551616) := by omega
          walk_at "evh"
      unfold R_law_due_5
      walk_at "evh"
      have hr0 : ∀ r ∈ remsOf much ps, 0 ≤ r := fun r hr => (rems_in hwp r hr).1
      unfold B_law_due_2
      generalize hk : much - (floorsOf much ps).sum = k at hl ⊢
      have htl : (turnOf (remsOf much ps)).length = ps.length := by rw [turn_len, rems_len]
      refine p_for (A := D.int) (l := natsI k.toNat) (fun l ρ μ => ∃ (qs ts : List (Int × Int)) (s7 s8 : Option D), ρ = [some (.int much), some (intsD ps), some (.int ps.sum), some (.loc 0), s4, s5, some (.loc 1), s7, s8, none] ∧ μ = [.lst ((qs.foldl (fun l q => incAt l q.2) (floorsOf much ps)).map .int), .lst ((qs.foldl (fun l q => outAt l q.2) (remsOf much ps)).map .int)] ∧ turnOf (remsOf much ps) = qs ++ ts ∧ qs.length + l.length = k.toNat)
        (sr := .one (.fix ((natsI k.toNat).map D.int))) (μ1 := [.lst ((floorsOf much ps).map .int), .lst ((remsOf much ps).map .int)]) ?_ rfl ⟨[], _, none, none, rfl, rfl, rfl, by simp [natsI]⟩ ?_ ?_
      · walk_at "evh"
        rw [rng1_nat (by omega) (by omega)]
        rfl
      · rintro x r ρ μ ⟨qs, ts, s7, s8, rfl, rfl, hts, hlen⟩
        cases ts with
        | nil =>
          exfalso
          rw [List.append_nil] at hts
          rw [hts] at htl
          simp at hlen
          omega
        | cons q ts =>
          obtain ⟨p1, p2, p3, p4, p5⟩ := pick_next hr0 hts
          rw [rems_len] at p5
          have i1 := incs_len qs (floorsOf much ps)
          have i2 := outs_len qs (remsOf much ps)
          rw [floors_len] at i1
          rw [rems_len] at i2
          have fin : ∃ (qs' ts' : List (Int × Int)) (s7 s8 : Option D), [some (D.int much), some (intsD ps), some (.int ps.sum), some (.loc 0), s4, s5, some (.loc 1), some (.int x), some (.int q.2), none] = [some (.int much), some (intsD ps), some (.int ps.sum), some (.loc 0), s4, s5, some (.loc 1), s7, s8, none] ∧ [Cell.lst ((incAt (qs.foldl (fun l q => incAt l q.2) (floorsOf much ps)) q.2).map .int), .lst ((outAt (qs.foldl (fun l q => outAt l q.2) (remsOf much ps)) q.2).map .int)] = [.lst ((qs'.foldl (fun l q => incAt l q.2) (floorsOf much ps)).map .int), .lst ((qs'.foldl (fun l q => outAt l q.2) (remsOf much ps)).map .int)] ∧ turnOf (remsOf much ps) = qs' ++ ts' ∧ qs'.length + r.length = k.toNat :=
            ⟨qs ++ [q], ts, _, _, rfl, by rw [List.foldl_append, List.foldl_append]; rfl, by rw [hts]; simp, by simp at hlen ⊢; omega⟩
          clear hts hlen
          generalize qs.foldl (fun l q => incAt l q.2) (floorsOf much ps) = found at fin i1 ⊢
          generalize qs.foldl (fun l q => outAt l q.2) (remsOf much ps) = rests at fin i2 p1 p2 p3 ⊢
          have hq : ((q.2.toNat : Nat) : Int) = q.2 := by omega
          have ix : meEv .index [.lst (found.map .int), .lst (rests.map .int)] (.loc 1) [.int (-q.1)] = some (.int q.2, [.lst (found.map .int), .lst (rests.map .int)]) := by
            rw [m_index, res_loc (n := 1) rfl (noLocs_ints rests), res_int]
            simp only
            rw [ok_int, show (D.lst (rests.map .int)).okEq = true from ok_ints rests, show (D.int (-q.1)).py = .int (-q.1) from by rw [D.py], idx_ints p2 p3]
            simp only [Bool.and_self, if_true, Option.map_some, hq]
          have a1 : atI (found.map D.int) q.2 = some (.int (found.getD q.2.toNat 0)) := ints_at p4 (by omega)
          have g2 : ixN ps.length q.2 = some q.2.toNat := ix_nat p4 p5
          have e1 : (found.map D.int).set q.2.toNat (.int (found.getD q.2.toNat 0 + 1)) = (incAt found q.2).map D.int := ints_set
          have e2 : (rests.map D.int).set q.2.toNat (.int (-1)) = (outAt rests q.2).map D.int := ints_set
          refine ⟨_, rfl, ?_⟩
          clear p2 p3 hrm q3
          unfold L_law_due_0
          walk_at "evh"
      · rintro ρ μ ⟨qs, ts, s7, s8, rfl, rfl, hts, hlen⟩
        unfold R_law_due_1
        have : (turnOf (remsOf much ps)).take k.toNat = qs := by
          rw [hts, ← hlen]
          simp
        rw [this]
        walk_at "ev"
        exact .inr ⟨_, _, rfl, rfl⟩
theorem get_old {μ : List Cell} {n : Nat} {c x : Cell} (h : μ[n]? = some c) : (μ ++ [x])[n]? = some c := by
  have : n < μ.length := by
    rcases Nat.lt_or_ge n μ.length with h1 | h1
    · exact h1
    · rw [List.getElem?_eq_none h1] at h
      cases h
  rw [List.getElem?_append_left this, h]
theorem get_new {μ : List Cell} {x : Cell} : (μ ++ [x])[μ.length]? = some x := by simp
theorem set_new {μ : List Cell} {x y : Cell} : (μ ++ [x]).set μ.length y = μ ++ [y] := by
  rw [List.set_append_right _ _ (Nat.le_refl _)]
  simp
theorem lt_of_get {μ : List Cell} {n : Nat} {c : Cell} (h : μ[n]? = some c) : n < μ.length := by
  rcases Nat.lt_or_ge n μ.length with h1 | h1
  · exact h1
  · rw [List.getElem?_eq_none h1] at h
    cases h
theorem get_set {μ : List Cell} {n : Nat} {c x : Cell} (h : μ[n]? = some c) : (μ.set n x)[n]? = some x := by
  rw [List.getElem?_set_self (lt_of_get h)]
theorem get_ne {μ : List Cell} {n m : Nat} {x : Cell} (h : n ≠ m) : (μ.set n x)[m]? = μ[m]? := by
  rw [List.getElem?_set_ne h]
section
variable {t : Tariff} {ps : List Int} {μ : List Cell} {h : Nat}
theorem flat_ints (l : List Int) : flatO (.own (l.map D.int)) = true := by
  simp [flatO, flatD]
theorem pt_fix (ht : Tar t) (hp : Pcs ps) : cpEv false (pm_law.fs 0) μ [tariffD t, intsD ps] = .ok (.own ((partedOf (costOf t ps.sum) ps).map .int)) μ := call_eq (e_parted ht hp) (by simp [nl_cons, noLoc_tariff, noLoc_ints, nl_nil])
theorem pt_loc (ht : Tar t) (hp : Pcs ps) (hh : μ[h]? = some (.lst (ps.map .int))) : cpEv false (pm_law.fs 0) μ [tariffD t, .loc h] = .ok (.own ((partedOf (costOf t ps.sum) ps).map .int)) μ := by
  refine cp_flat [tariffD t, intsD ps] ?_ (by simp [nl_cons, noLoc_tariff, noLoc_ints, nl_nil]) (e_parted ht hp) (flat_ints _)
  rw [List.map_cons, List.map_cons, List.map_nil, res_tariff, res_loc hh (noLocs_ints ps)]
  rfl
theorem du_fix {much : Int} (hm : 0 ≤ much ∧ much ≤ 2360) (hp : Pcs ps) : cpEv false (pm_law.fs 2) μ [.int much, intsD ps] = .ok (.own ((partedOf much ps).map .int)) μ := call_eq (e_law_due hm hp) (by simp [nl_cons, nl_int, noLoc_ints, nl_nil])
theorem du_loc {much : Int} (hm : 0 ≤ much ∧ much ≤ 2360) (hp : Pcs ps) (hh : μ[h]? = some (.lst (ps.map .int))) : cpEv false (pm_law.fs 2) μ [.int much, .loc h] = .ok (.own ((partedOf much ps).map .int)) μ := by
  refine cp_flat [.int much, intsD ps] ?_ (by simp [nl_cons, nl_int, noLoc_ints, nl_nil]) (e_law_due hm hp) (flat_ints _)
  rw [List.map_cons, List.map_cons, List.map_nil, res_int, res_loc hh (noLocs_ints ps)]
  rfl
end
theorem wh_int (i : Int) (μ : List Cell) : cpEv false (pm_law.fs 4) μ [.int i] = .ok (.dat (.bl true)) μ := call_eq (e_law_whole_int i) rfl
theorem eq_loc {μ : List Cell} {n : Nat} {l : List Int} (h : μ[n]? = some (.lst (l.map .int))) : eqRes μ (.loc n) (intsD l) = some true := eqRes_same (res_loc h (noLocs_ints l)) (res_ints μ l) (ok_ints l)
theorem eq_locL {μ : List Cell} {n : Nat} {l : List Int} (h : μ[n]? = some (.lst (l.map .int))) : eqRes μ (.loc n) (.lst (l.map .int)) = some true := eq_loc h
theorem eq_ints {μ : List Cell} {l : List Int} : eqRes μ (.lst (l.map .int)) (.lst (l.map .int)) = some true := eqRes_same (res_ints μ l) (res_ints μ l) (ok_ints l)
theorem eq_int {μ : List Cell} {i : Int} : eqRes μ (.int i) (.int i) = some true := eqRes_same (res_int μ i) (res_int μ i) (ok_int i)
theorem turn04 {t : Tariff} {ps : List Int} {μ : List Cell} {h : Nat} {s0 s1 s6 s7 s8 : Option D} (ht : Tar t) (hp : Pcs ps) (hh : μ[h]? = some (.lst (ps.map .int))) :
    L_law_2.ex pm_law [s0, s1, some (tariffD t), some (intsD ps), some (.loc h), some (.int (costOf t ps.sum)), s6, s7, s8, none, none] μ =
      .nx [s0, s1, some (tariffD t), some (intsD ps), some (.loc h), some (.int (costOf t ps.sum)), s6, some (.loc μ.length), s8, none, none] (μ ++ [.lst ((partedOf (costOf t ps.sum) ps ++ [0]).map .int)]) := by
  have hs := pcs_sum hp
  have hm := cost_in ht hs.1 hs.2
  have c1 := pt_loc ht hp hh
  have c2 : ∀ μ, cpEv false (pm_law.fs 2) μ [.int (costOf t ps.sum), intsD ps] = .ok (.own ((partedOf (costOf t ps.sum) ps).map .int)) μ := fun μ => du_fix hm hp
  have hsum : (partedOf (costOf t ps.sum) ps).sum = costOf t ps.sum := parted_sum (fun p hp' => (hp.each p hp').1) (fun e => by rw [e]; rfl)
  have hlen := parted_len (costOf t ps.sum) ps
  have l2 := hp.most
  generalize costOf t ps.sum = much at *
  generalize partedOf much ps = found at *
  have g1 : (μ ++ [Cell.lst (found.map .int)])[μ.length]? = some (.lst (found.map .int)) := get_new
  have g2 : (μ ++ [Cell.lst (found.map .int)])[h]? = some (.lst (ps.map .int)) := get_old hh
  have e1 := eq_locL g1
  have e2 := eq_loc g2
  have t1 := ty_list_loc g1
  have e3 : eqRes (μ ++ [Cell.lst (found.map .int)]) (.int much) (.int much) = some true := eq_int
  have q1 : X.ev pm_law Q_law_1 [s0, s1, some (tariffD t), some (intsD ps), some (.loc h), some (.int much), s6, some (.loc μ.length), s8, none, none] (μ ++ [Cell.lst (found.map .int)]) = .ok (.own (found.map fun _ => .bl true)) (μ ++ [Cell.lst (found.map .int)]) := by
    have hsr : (W.list (.v 7)).ev pm_law [s0, s1, some (tariffD t), some (intsD ps), some (.loc h), some (.int much), s6, some (.loc μ.length), s8, none, none] (μ ++ [Cell.lst (found.map .int)]) = .ok (.one (.cell μ.length (found.map D.int).length)) (μ ++ [Cell.lst (found.map .int)]) := by
      walk_at "evh"
    refine lc_mapC (A := D.int) (fun p => _) hsr rfl ?_ ?_ ?_ (by omega) (fun p _ => rfl) (fun p _ => ?_)
    · simp [Sr.ok, Sq.items, seqM]
    · simp [Sr.len, Sq.len]
    · intro i hi
      simp [Sr.item, Sq.items, seqM, hi]
    · walk_at "evh"
      rw [wh_int]
      rfl
  have ha : (found.map fun _ => true).all id = true := by simp
  have b1 : asBools (found.map fun _ => D.bl true) = some (found.map fun _ => true) := asBools_f (f := fun _ => true) found
  unfold L_law_2
  have hlf : found.length < 100000 := by omega
  clear hlen
  have eapp : found.map D.int ++ [.int 0] = (found ++ [0]).map D.int := by rw [List.map_append]; rfl
  have sn : (μ ++ [Cell.lst (found.map .int)]).set μ.length (.lst ((found ++ [0]).map .int)) = μ ++ [.lst ((found ++ [0]).map .int)] := set_new
  walk_at "evh"
theorem rev_sum (l : List Int) : l.reverse.sum = l.sum := by simp
theorem near04 {much : Int} {ps : List Int} {p : Int × Int} (h : p ∈ (partedOf much ps.reverse).reverse.zip (partedOf much ps ++ [0])) : (p.1 - p.2).natAbs ≤ 1 := by
  obtain ⟨i, hi⟩ := List.mem_iff_getElem?.mp h
  obtain ⟨h1, h2⟩ := List.getElem?_zip_eq_some.mp hi
  have hs : ps.reverse.sum = ps.sum := rev_sum ps
  have hil : i < ps.length := by
    rcases Nat.lt_or_ge i ps.length with z | z
    · exact z
    · rw [List.getElem?_eq_none (by simpa [parted_len] using z)] at h1
      cases h1
  rw [List.getElem?_append_left (by rw [parted_len]; exact hil)] at h2
  rw [List.getElem?_reverse (by rw [parted_len]; simpa using hil), parted_len, List.length_reverse] at h1
  by_cases hw : ps.sum = 0
  · unfold partedOf at h1 h2
    rw [if_pos hw] at h2
    rw [if_pos (by rw [hs]; exact hw)] at h1
    have a1 := List.mem_of_getElem? h1
    have a2 := List.mem_of_getElem? h2
    rw [List.mem_replicate] at a1 a2
    omega
  · obtain ⟨y, e1, e2⟩ := parted_each (much := much) hw (List.getElem?_eq_getElem hil)
    have hr : ps.reverse[ps.length - 1 - i]? = some ps[i] := by
      rw [List.getElem?_reverse (by omega), show ps.length - 1 - (ps.length - 1 - i) = i by omega]
      exact List.getElem?_eq_getElem hil
    obtain ⟨z, f1, f2⟩ := parted_each (much := much) (by rw [hs]; exact hw) hr
    rw [hs] at f2
    rw [e1] at h2
    rw [f1] at h1
    injection h1 with h1
    injection h2 with h2
    omega
def endsOf (ps : List Int) : List Int := (ps.set 0 9).set (ps.length - 1) 1
theorem ends_ok {ps : List Int} (h : Pcs ps) : Pcs (endsOf ps) := by
  have l1 := h.least
  have l2 := h.most
  refine ⟨by simpa [endsOf] using l1, by simpa [endsOf] using l2, fun p hp => ?_⟩
  unfold endsOf at hp
  rcases List.mem_or_eq_of_mem_set hp with hp | rfl
  · rcases List.mem_or_eq_of_mem_set hp with hp | rfl
    · exact h.each p hp
    · decide
  · decide
theorem rev_ok {ps : List Int} (h : Pcs ps) : Pcs ps.reverse := ⟨by simpa using h.least, by simpa using h.most, fun p hp => h.each p (by simpa using hp)⟩
theorem rest04 {t : Tariff} {ps : List Int} {μ : List Cell} {h f : Nat} {s0 s1 s6 s8 : Option D} (ht : Tar t) (hp : Pcs ps) (hh : μ[h]? = some (.lst (ps.map .int))) (hf : μ[f]? = some (.lst ((partedOf (costOf t ps.sum) ps ++ [0]).map .int))) (hn : h ≠ f) :
    R_law_3.ex pm_law [s0, s1, some (tariffD t), some (intsD ps), some (.loc h), some (.int (costOf t ps.sum)), s6, some (.loc f), s8, none, none] μ =
      .nx [s0, s1, some (tariffD t), some (intsD ps), some (.loc h), some (.int (costOf t ps.sum)), s6, some (.loc f), some (.lst ((partedOf (costOf t ps.sum) ps.reverse).reverse.map .int)), none, none] (μ.set h (.lst ((endsOf ps).map .int))) := by
  have hs := pcs_sum hp
  have hs2 := pcs_sum (ends_ok hp)
  have hm := cost_in ht hs.1 hs.2
  have hm2 := cost_in ht hs2.1 hs2.2
  have l1 := hp.least
  have l2 := hp.most
  have e1 : (ps.map D.int).set 0 (.int 9) = (ps.set 0 9).map D.int := ints_set
  have e2 : ((ps.set 0 9).map D.int).set (ps.length - 1) (.int 1) = (endsOf ps).map D.int := ints_set
  have g1 : (μ.set h (.lst ((ps.set 0 9).map D.int)))[h]? = some (.lst ((ps.set 0 9).map D.int)) := get_set hh
  have g2 : (μ.set h (.lst ((endsOf ps).map D.int)))[h]? = some (.lst ((endsOf ps).map D.int)) := get_set hh
  have g3 : (μ.set h (.lst ((endsOf ps).map D.int)))[f]? = some (.lst ((partedOf (costOf t ps.sum) ps ++ [0]).map .int)) := by rw [get_ne hn, hf]
  have ss : ∀ x y : Cell, (μ.set h x).set h y = μ.set h y := fun x y => by rw [List.set_set]
  have i1 : ixN ps.length 0 = some 0 := ixN_zero (by omega)
  have i2 : ixN ps.length (-1) = some (ps.length - 1) := ixN_last (by omega)
  have ll : (ps.set 0 9).length = ps.length := by simp
  have c0 := pt_loc ht (ends_ok hp) g2
  have c1 : ∀ μ, cpEv false (pm_law.fs 3) μ [tariffD t, .int (endsOf ps).sum] = .ok (.dat (.int (costOf t (endsOf ps).sum))) μ := fun μ => call_eq (e_law_cost ⟨by have := ht.pr.most; omega, by have := ht.ca.most; omega⟩ hs2.1 (by omega)) (by simp [nl_cons, noLoc_tariff, nl_int, nl_nil])
  have c2 := du_loc hm2 (ends_ok hp) g2
  have c3 : ∀ μ, cpEv false (pm_law.fs 0) μ [tariffD t, .lst (ps.reverse.map .int)] = .ok (.own ((partedOf (costOf t ps.sum) ps.reverse).map .int)) μ := fun μ => by
    have := pt_fix (μ := μ) ht (rev_ok hp)
    rw [rev_sum ps] at this
    exact this
  have c4 : ∀ μ, cpEv false (pm_law.fs 1) μ [tariffD t, .int ps.sum] = .ok (.dat (.int (costOf t ps.sum))) μ := fun μ => call_eq (e_cost ht hs.1 (by omega)) (by simp [nl_cons, noLoc_tariff, nl_int, nl_nil])
  have r1 : ∀ l : List Int, (l.map D.int).reverse = l.reverse.map D.int := fun l => by rw [List.map_reverse]
  have q0 : X.ev pm_law Q_law_0 [s0, s1, some (tariffD t), some (intsD ps), some (.loc h), some (.int (costOf t ps.sum)), s6, some (.loc f), some (.lst ((partedOf (costOf t ps.sum) ps.reverse).reverse.map .int)), none, none] (μ.set h (.lst ((endsOf ps).map .int))) = .ok (.own (((partedOf (costOf t ps.sum) ps.reverse).reverse.zip (partedOf (costOf t ps.sum) ps ++ [0])).map fun _ => .bl false)) (μ.set h (.lst ((endsOf ps).map .int))) := by
    have hzl : ((partedOf (costOf t ps.sum) ps.reverse).reverse.zip (partedOf (costOf t ps.sum) ps ++ [0])).length = ps.length := by simp [parted_len]
    have hnear : ∀ p ∈ (partedOf (costOf t ps.sum) ps.reverse).reverse.zip (partedOf (costOf t ps.sum) ps ++ [0]), (p.1 - p.2).natAbs ≤ 1 := fun p hp => near04 hp
    have hl1 : (partedOf (costOf t ps.sum) ps.reverse).reverse.length = ps.length := by simp [parted_len]
    have hl2 : (partedOf (costOf t ps.sum) ps ++ [0]).length = ps.length + 1 := by simp [parted_len]
    generalize (partedOf (costOf t ps.sum) ps.reverse).reverse = turned at *
    generalize partedOf (costOf t ps.sum) ps ++ [0] = found at *
    have hsr : (W.zip (.cons (.v 8) (.cons (.v 7) .nil))).ev pm_law [s0, s1, some (tariffD t), some (intsD ps), some (.loc h), some (.int (costOf t ps.sum)), s6, some (.loc f), some (.lst (turned.map .int)), none, none] (μ.set h (.lst ((endsOf ps).map .int))) = .ok (.zip (.fix (turned.map .int)) (.cell f (found.map D.int).length)) (μ.set h (.lst ((endsOf ps).map .int))) := by
      walk_at "evh"
    refine lc_mapC (A := fun x : Int × Int => .tup [.int x.1, .int x.2]) (fun p => _) hsr rfl ?_ ?_ ?_ (by omega) (fun p _ => rfl) (fun p hp => ?_)
    · simp [Sr.ok, Sq.items, seqM, g3]
    · rw [hzl]
      simp [Sr.len, Sq.len, hl1, hl2]
    · intro i hi
      rw [hzl] at hi
      have z1 : i < turned.length := by omega
      have z2 : i < found.length := by omega
      rw [List.getElem?_map, show (turned.zip found)[i]? = some (turned[i], found[i]) from List.getElem?_zip_eq_some.mpr ⟨List.getElem?_eq_getElem z1, List.getElem?_eq_getElem z2⟩]
      simp [Sr.item, Sq.items, seqM, g3, z1, z2]
    · have hq := hnear p hp
      have hd : decide ((1 : Int) < ((p.1 - p.2).natAbs : Int)) = false := decide_eq_false (by omega)
      walk_at "ev"
      simp
      omega
  have x1 : ∀ μ, eqRes μ (.int (costOf t ps.sum)) (.int (costOf t ps.sum)) = some true := fun μ => eq_int
  have x2 : ∀ μ, eqRes μ (.lst ((partedOf (costOf t (endsOf ps).sum) (endsOf ps)).map .int)) (.lst ((partedOf (costOf t (endsOf ps).sum) (endsOf ps)).map .int)) = some true := fun μ => eq_ints
  have b1 : ∀ l : List (Int × Int), asBools (l.map fun _ => D.bl false) = some (l.map fun _ => false) := fun l => asBools_f (f := fun _ => false) l
  have b2 : ∀ l : List (Int × Int), (l.map fun _ => false).any id = false := fun l => by simp
  clear l1 l2 hs hs2 hm hm2
  unfold R_law_3
  walk_at "evh"
theorem conc04 {t : Tariff} {ps qs : List Int} (ht : Tar t) (hp : Pcs ps) (e : partedOf (costOf t ps.sum) ps = qs) (μ : List Cell) : cpEv false (pm_law.fs 0) μ [tariffD t, intsD ps] = .ok (.own (qs.map .int)) μ := by
  rw [← e]
  exact pt_fix ht hp
def tar04a : Tariff := ([(0, 10)], [(0, 1)])
def tar04b : Tariff := ([(0, 3)], [(0, 2)])
theorem tar04a_ok : Tar tar04a := ⟨⟨by decide, by decide, by decide, rfl, rfl⟩, ⟨by decide, by decide, by decide, rfl, rfl⟩⟩
theorem tar04b_ok : Tar tar04b := ⟨⟨by decide, by decide, by decide, rfl, rfl⟩, ⟨by decide, by decide, by decide, rfl, rfl⟩⟩
theorem end04 {μ : List Cell} {s0 s1 s2 s3 s4 s5 s6 s7 s8 : Option D} : R_law_6.ex pm_law [s0, s1, s2, s3, s4, s5, s6, s7, s8, none, none] μ = .rt (.dat (.bl true)) μ := by
  have k1 : ∀ μ, cpEv false (pm_law.fs 0) μ [.tup [.lst [.tup [.int 0, .int 10]], .lst [.tup [.int 0, .int 1]]], .lst [.int 1, .int 1]] = .ok (.own [.int 11, .int 10]) μ := fun μ => conc04 (t := tar04a) (ps := [1, 1]) (qs := [11, 10]) tar04a_ok ⟨by decide, by decide, by decide⟩ (by decide +kernel) μ
  have k2 : ∀ μ, cpEv false (pm_law.fs 0) μ [.tup [.lst [.tup [.int 0, .int 10]], .lst [.tup [.int 0, .int 1]]], .lst [.int 0, .int 0, .int 0]] = .ok (.own [.int 0, .int 0, .int 0]) μ := fun μ => conc04 (t := tar04a) (ps := [0, 0, 0]) (qs := [0, 0, 0]) tar04a_ok ⟨by decide, by decide, by decide⟩ (by decide +kernel) μ
  have k3 : ∀ μ, cpEv false (pm_law.fs 0) μ [.tup [.lst [.tup [.int 0, .int 10]], .lst [.tup [.int 0, .int 1]]], .lst [.int 0, .int 3]] = .ok (.own [.int 0, .int 31]) μ := fun μ => conc04 (t := tar04a) (ps := [0, 3]) (qs := [0, 31]) tar04a_ok ⟨by decide, by decide, by decide⟩ (by decide +kernel) μ
  have k4 : ∀ μ, cpEv false (pm_law.fs 0) μ [.tup [.lst [.tup [.int 0, .int 3]], .lst [.tup [.int 0, .int 2]]], .lst [.int 1, .int 1, .int 1]] = .ok (.own [.int 4, .int 4, .int 3]) μ := fun μ => conc04 (t := tar04b) (ps := [1, 1, 1]) (qs := [4, 4, 3]) tar04b_ok ⟨by decide, by decide, by decide⟩ (by decide +kernel) μ
  have k5 : ∀ μ, cpEv false (pm_law.fs 0) μ [.tup [.lst [.tup [.int 0, .int 10]], .lst [.tup [.int 0, .int 1]]], .lst [.int 1, .int 2, .int 4]] = .ok (.own [.int 10, .int 20, .int 41]) μ := fun μ => conc04 (t := tar04a) (ps := [1, 2, 4]) (qs := [10, 20, 41]) tar04a_ok ⟨by decide, by decide, by decide⟩ (by decide +kernel) μ
  have k6 : ∀ μ, cpEv false (pm_law.fs 0) μ [.tup [.lst [.tup [.int 0, .int 10]], .lst [.tup [.int 0, .int 1]]], .lst [.int 3, .int 3, .int 1]] = .ok (.own [.int 31, .int 30, .int 10]) μ := fun μ => conc04 (t := tar04a) (ps := [3, 3, 1]) (qs := [31, 30, 10]) tar04a_ok ⟨by decide, by decide, by decide⟩ (by decide +kernel) μ
  have x1 : ∀ (μ : List Cell) (a b : Int), eqRes μ (.lst [.int a, .int b]) (.lst [.int a, .int b]) = some true := fun μ a b => eq_ints (l := [a, b])
  have x2 : ∀ (μ : List Cell) (a b c : Int), eqRes μ (.lst [.int a, .int b, .int c]) (.lst [.int a, .int b, .int c]) = some true := fun μ a b c => eq_ints (l := [a, b, c])
  unfold R_law_6
  walk_at "evh"
theorem law_true : ∀ ns : List Int, ns.length ≤ 63 → (∀ z ∈ ns, Builtin.Int.intBits z ≤ 1048576) → m_law [.scr (ns.map .int)] = .ret (.dat (.bl true)) := by
  intro ns hl hb
  have hc := cells_of hb
  refine calm_ret (run_dat ?_ rfl rfl)
  have c63 := cut63 hl
  obtain ⟨n, hr, hn5⟩ := rng3_even (m := max 1 (min 9 (ns.length : Int))) (by omega) (by omega)
  unfold a_law
  walk_at "evh"
  unfold B_law_7
  refine p_for (A := D.int) (l := evens n) (fun l ρ μ => ∃ (s1 s2 s3 s4 s5 s6 s7 s8 : Option D), ρ = [some (intsD ns), s1, s2, s3, s4, s5, s6, s7, s8, none, none] ∧ ∀ b ∈ l, 0 ≤ b ∧ b ≤ 8) (sr := .one (.fix ((evens n).map D.int))) (μ1 := []) ?_ rfl ⟨none, none, none, none, none, none, none, none, rfl, fun b hb => mem_evens hb hn5⟩ ?_ ?_
  · clear c63
    walk_at "evh"
  · rintro b r ρ μ ⟨s1, s2, s3, s4, s5, s6, s7, s8, rfl, hbs⟩
    have hb1 := hbs b (by simp)
    have hbr : ∀ b ∈ r, 0 ≤ b ∧ b ≤ 8 := fun b hb => hbs b (by simp [hb])
    have ht := tariffOf_ok ns b
    have hp := piecesOf_ok ns b
    have k5 : ∀ μ, cpEv false (pm_law.fs 5) μ [intsD ns, .int b] = .ok (.dat (tariffD (tariffOf ns b))) μ := fun μ => call_eq (e_law_tariff hc (by omega) (by omega)) (by simp [nl_cons, nl_int, noLoc_ints, nl_nil])
    have k6 : ∀ μ, cpEv false (pm_law.fs 6) μ [intsD ns, .int b] = .ok (.own ((piecesOf ns b).map .int)) μ := fun μ => call_eq (e_law_pieces hc (by omega) (by omega)) (by simp [nl_cons, nl_int, noLoc_ints, nl_nil])
    have hs := pcs_sum hp
    have k3 : ∀ μ, cpEv false (pm_law.fs 3) μ [tariffD (tariffOf ns b), .int (piecesOf ns b).sum] = .ok (.dat (.int (costOf (tariffOf ns b) (piecesOf ns b).sum))) μ := fun μ => call_eq (e_law_cost ⟨by have := ht.pr.most; omega, by have := ht.ca.most; omega⟩ hs.1 (by omega)) (by simp [nl_cons, noLoc_tariff, nl_int, nl_nil])
    generalize tariffOf ns b = t at *
    generalize piecesOf ns b = ps at *
    refine ⟨_, rfl, ?_⟩
    clear hbs hb1 hb c63 hr hs
    unfold L_law_5
    walk_at "evh"
    unfold B_law_4
    refine p_for (A := D.int) (l := natsI 2) (fun l ρ μ => ∃ (s6 s7 : Option D) (h : Nat), ρ = [some (intsD ns), some (.int b), some (tariffD t), some (intsD ps), some (.loc h), some (.int (costOf t ps.sum)), s6, s7, s8, none, none] ∧ μ[h]? = some (.lst (ps.map .int)) ∧ (l.length < 2 → ∃ f, s7 = some (.loc f) ∧ h ≠ f ∧ μ[f]? = some (.lst ((partedOf (costOf t ps.sum) ps ++ [0]).map .int)))) (sr := .one (.fix ((natsI 2).map D.int))) (μ1 := μ ++ [.lst (ps.map .int)]) ?_ rfl ⟨s6, s7, μ.length, rfl, get_new, fun h => absurd h (by decide)⟩ ?_ ?_
    · rfl
    · rintro a r' ρ μ ⟨s6, s7, h, rfl, hh, _⟩
      refine ⟨_, rfl, ?_⟩
      show TurnP _ _ _ (L_law_2.ex pm_law [some (intsD ns), some (.int b), some (tariffD t), some (intsD ps), some (.loc h), some (.int (costOf t ps.sum)), some (.int a), s7, s8, none, none] μ)
      rw [turn04 ht hp hh, turn_nx]
      refine ⟨_, _, h, rfl, get_old hh, fun _ => ⟨_, rfl, ?_, get_new⟩⟩
      have := lt_of_get hh
      omega
    · rintro ρ μ ⟨s6, s7, h, rfl, hh, hf⟩
      obtain ⟨f, rfl, hn, hf⟩ := hf (by decide)
      rw [rest04 ht hp hh hf hn]
      exact ⟨_, _, _, _, _, _, _, _, rfl, hbr⟩
  · rintro ρ μ ⟨s1, s2, s3, s4, s5, s6, s7, s8, rfl, _⟩
    rw [end04]
    rfl
end Wk04
namespace Wk04
open PySem PySem.Spec PyProof.Rows L2 EM
def topS (i : Nat) : Stmt := PySem.Challenge.pw_grouporder_k04_whole_parted.main.body.getD i (.Pass ⟨0, 0, 0, 0⟩)
abbrev s_is_count : Stmt := (topS 9)
theorem sc_is_count : FnScope ["thing", "least", "most"] ["thing", "least", "most"] (defScope s_is_count) := ⟨rfl, rfl, rfl, by decide +kernel, rfl, by decide +kernel, by decide +kernel⟩
abbrev s_last_of : Stmt := (topS 20)
theorem sc_last_of : FnScope ["tiers", "count", "begin", "amount"] ["tiers", "count"] (defScope s_last_of) := ⟨rfl, rfl, rfl, by decide +kernel, rfl, by decide +kernel, by decide +kernel⟩
abbrev s_law_cell_at : Stmt := (topS 25)
theorem sc_law_cell_at : FnScope ["_law_script", "_law_k"] ["_law_script", "_law_k"] (defScope s_law_cell_at) := ⟨rfl, rfl, rfl, by decide +kernel, rfl, by decide +kernel, by decide +kernel⟩
abbrev s_law_draw : Stmt := (topS 26)
theorem sc_law_draw : FnScope ["_law_cell", "_law_k", "_law_many", "_law_primes"] ["_law_cell", "_law_k", "_law_many"] (defScope s_law_draw) := ⟨rfl, rfl, rfl, by decide +kernel, rfl, by decide +kernel, by decide +kernel⟩
abbrev s_law_whole : Stmt := (topS 28)
theorem sc_law_whole : FnScope ["_law_number"] ["_law_number"] (defScope s_law_whole) := ⟨rfl, rfl, rfl, by decide +kernel, rfl, by decide +kernel, by decide +kernel⟩
abbrev s_law_amount : Stmt := (topS 32)
theorem sc_law_amount : FnScope ["_law_tiers_here", "_law_count", "_law_begin", "_law_amount_here"] ["_law_tiers_here", "_law_count"] (defScope s_law_amount) := ⟨rfl, rfl, rfl, by decide +kernel, rfl, by decide +kernel, by decide +kernel⟩
abbrev s_law_due : Stmt := (topS 34)
theorem sc_law_due : FnScope ["_law_much", "_law_pieces_here", "_law_whole_here", "_law_found", "_law_person", "_law_one", "_law_rests", "_law_turn", "_law_at", "_law_had"] ["_law_much", "_law_pieces_here"] (defScope s_law_due) := ⟨rfl, rfl, rfl, by decide +kernel, rfl, by decide +kernel, by decide +kernel⟩
abbrev s_is_tier : Stmt := (topS 15)
theorem sc_is_tier : FnScope ["thing", "least", "most"] ["thing", "least", "most"] (defScope s_is_tier) := ⟨rfl, rfl, rfl, by decide +kernel, rfl, by decide +kernel, by decide +kernel⟩
abbrev s_check_count : Stmt := (topS 18)
theorem sc_check_count : FnScope ["count"] ["count"] (defScope s_check_count) := ⟨rfl, rfl, rfl, by decide +kernel, rfl, by decide +kernel, by decide +kernel⟩
abbrev s_check_pieces : Stmt := (topS 19)
theorem sc_check_pieces : FnScope ["pieces", "one"] ["pieces"] (defScope s_check_pieces) := ⟨rfl, rfl, rfl, by decide +kernel, rfl, by decide +kernel, by decide +kernel⟩
abbrev s_cost_of : Stmt := (topS 21)
theorem sc_cost_of : FnScope ["tariff", "count"] ["tariff", "count"] (defScope s_cost_of) := ⟨rfl, rfl, rfl, by decide +kernel, rfl, by decide +kernel, by decide +kernel⟩
abbrev s_law_value : Stmt := (topS 27)
theorem sc_law_value : FnScope ["_law_cell", "_law_turn", "_law_blend"] ["_law_cell", "_law_turn"] (defScope s_law_value) := ⟨rfl, rfl, rfl, by decide +kernel, rfl, by decide +kernel, by decide +kernel⟩
abbrev s_law_cost : Stmt := (topS 33)
theorem sc_law_cost : FnScope ["_law_tariff_here", "_law_count"] ["_law_tariff_here", "_law_count"] (defScope s_law_cost) := ⟨rfl, rfl, rfl, by decide +kernel, rfl, by decide +kernel, by decide +kernel⟩
abbrev s_are_tiers : Stmt := (topS 16)
theorem sc_are_tiers : FnScope ["thing", "least", "most", "tier", "one", "other"] ["thing", "least", "most"] (defScope s_are_tiers) := ⟨rfl, rfl, rfl, by decide +kernel, rfl, by decide +kernel, by decide +kernel⟩
abbrev s_law_tiers : Stmt := (topS 29)
theorem sc_law_tiers : FnScope ["_law_script", "_law_by", "_law_least", "_law_most", "_law_falling", "_law_value_here", "_law_found", "_law_count", "_law_amount_here", "_law_at", "_law_number"] ["_law_script", "_law_by", "_law_least", "_law_most", "_law_falling"] (defScope s_law_tiers) := ⟨rfl, rfl, rfl, by decide +kernel, rfl, by decide +kernel, by decide +kernel⟩
abbrev s_law_pieces : Stmt := (topS 31)
theorem sc_law_pieces : FnScope ["_law_script", "_law_by", "_law_value_here", "_law_found", "_law_at", "_law_number"] ["_law_script", "_law_by"] (defScope s_law_pieces) := ⟨rfl, rfl, rfl, by decide +kernel, rfl, by decide +kernel, by decide +kernel⟩
abbrev s_check_tariff : Stmt := (topS 17)
theorem sc_check_tariff : FnScope ["tariff"] ["tariff"] (defScope s_check_tariff) := ⟨rfl, rfl, rfl, by decide +kernel, rfl, by decide +kernel, by decide +kernel⟩
abbrev s_law_tariff : Stmt := (topS 30)
theorem sc_law_tariff : FnScope ["_law_script", "_law_by", "_law_kind", "_law_prices"] ["_law_script", "_law_by"] (defScope s_law_tariff) := ⟨rfl, rfl, rfl, by decide +kernel, rfl, by decide +kernel, by decide +kernel⟩
abbrev s_cost : Stmt := (topS 22)
theorem sc_cost : FnScope ["tariff", "count"] ["tariff", "count"] (defScope s_cost) := ⟨rfl, rfl, rfl, by decide +kernel, rfl, by decide +kernel, by decide +kernel⟩
abbrev s_parted : Stmt := (topS 23)
theorem sc_parted : FnScope ["tariff", "pieces", "whole", "much", "found", "turn", "rest", "person", "one"] ["tariff", "pieces"] (defScope s_parted) := ⟨rfl, rfl, rfl, by decide +kernel, rfl, by decide +kernel, by decide +kernel⟩
abbrev s_law : Stmt := (topS 35)
theorem sc_law : FnScope ["_law_script", "_law_by", "_law_tariff_here", "_law_pieces_here", "_law_handed", "_law_much", "_law_again", "_law_found", "_law_turned", "_law_one", "_law_other"] ["_law_script"] (defScope s_law) := ⟨rfl, rfl, rfl, by decide +kernel, rfl, by decide +kernel, by decide +kernel⟩
structure Tx (K : PySem.W.Frag) (mg : Str → Option Value) (f : Nat → Addr) (fd : Nat → FuncData) (tk : Nat → Tok) (C : Nat → Addr) : Prop where
  F_is_count : Fun K "is_count" "is_count" s_is_count (f 0) (fd 0)
  g_is_count : mg "is_count" = some (.ref (f 0))
  b_is_count : Binds K (fd 0) ["thing", "least", "most"] []
  F_last_of : Fun K "last_of" "last_of" s_last_of (f 1) (fd 1)
  g_last_of : mg "last_of" = some (.ref (f 1))
  b_last_of : Binds K (fd 1) ["tiers", "count"] []
  F_law_cell_at : Fun K "_law_cell_at" "_law_cell_at" s_law_cell_at (f 2) (fd 2)
  g_law_cell_at : mg "_law_cell_at" = some (.ref (f 2))
  b_law_cell_at : Binds K (fd 2) ["_law_script", "_law_k"] []
  F_law_draw : Fun K "_law_draw" "_law_draw" s_law_draw (f 3) (fd 3)
  g_law_draw : mg "_law_draw" = some (.ref (f 3))
  b_law_draw : Binds K (fd 3) ["_law_cell", "_law_k", "_law_many"] []
  F_law_whole : Fun K "_law_whole" "_law_whole" s_law_whole (f 4) (fd 4)
  g_law_whole : mg "_law_whole" = some (.ref (f 4))
  b_law_whole : Binds K (fd 4) ["_law_number"] []
  F_law_amount : Fun K "_law_amount" "_law_amount" s_law_amount (f 5) (fd 5)
  g_law_amount : mg "_law_amount" = some (.ref (f 5))
  b_law_amount : Binds K (fd 5) ["_law_tiers_here", "_law_count"] []
  F_law_due : Fun K "_law_due" "_law_due" s_law_due (f 6) (fd 6)
  g_law_due : mg "_law_due" = some (.ref (f 6))
  b_law_due : Binds K (fd 6) ["_law_much", "_law_pieces_here"] []
  F_is_tier : Fun K "is_tier" "is_tier" s_is_tier (f 7) (fd 7)
  g_is_tier : mg "is_tier" = some (.ref (f 7))
  b_is_tier : Binds K (fd 7) ["thing", "least", "most"] []
  F_check_count : Fun K "check_count" "check_count" s_check_count (f 8) (fd 8)
  g_check_count : mg "check_count" = some (.ref (f 8))
  b_check_count : Binds K (fd 8) ["count"] []
  F_check_pieces : Fun K "check_pieces" "check_pieces" s_check_pieces (f 9) (fd 9)
  g_check_pieces : mg "check_pieces" = some (.ref (f 9))
  b_check_pieces : Binds K (fd 9) ["pieces"] []
  F_cost_of : Fun K "cost_of" "cost_of" s_cost_of (f 10) (fd 10)
  g_cost_of : mg "cost_of" = some (.ref (f 10))
  b_cost_of : Binds K (fd 10) ["tariff", "count"] []
  F_law_value : Fun K "_law_value" "_law_value" s_law_value (f 11) (fd 11)
  g_law_value : mg "_law_value" = some (.ref (f 11))
  b_law_value : Binds K (fd 11) ["_law_cell", "_law_turn"] []
  F_law_cost : Fun K "_law_cost" "_law_cost" s_law_cost (f 12) (fd 12)
  g_law_cost : mg "_law_cost" = some (.ref (f 12))
  b_law_cost : Binds K (fd 12) ["_law_tariff_here", "_law_count"] []
  F_are_tiers : Fun K "are_tiers" "are_tiers" s_are_tiers (f 13) (fd 13)
  g_are_tiers : mg "are_tiers" = some (.ref (f 13))
  b_are_tiers : Binds K (fd 13) ["thing", "least", "most"] []
  F_law_tiers : Fun K "_law_tiers" "_law_tiers" s_law_tiers (f 14) (fd 14)
  g_law_tiers : mg "_law_tiers" = some (.ref (f 14))
  b_law_tiers : Binds K (fd 14) ["_law_script", "_law_by", "_law_least", "_law_most", "_law_falling"] []
  F_law_pieces : Fun K "_law_pieces" "_law_pieces" s_law_pieces (f 15) (fd 15)
  g_law_pieces : mg "_law_pieces" = some (.ref (f 15))
  b_law_pieces : Binds K (fd 15) ["_law_script", "_law_by"] []
  F_check_tariff : Fun K "check_tariff" "check_tariff" s_check_tariff (f 16) (fd 16)
  g_check_tariff : mg "check_tariff" = some (.ref (f 16))
  b_check_tariff : Binds K (fd 16) ["tariff"] []
  F_law_tariff : Fun K "_law_tariff" "_law_tariff" s_law_tariff (f 17) (fd 17)
  g_law_tariff : mg "_law_tariff" = some (.ref (f 17))
  b_law_tariff : Binds K (fd 17) ["_law_script", "_law_by"] []
  F_cost : Fun K "cost" "cost" s_cost (f 18) (fd 18)
  g_cost : mg "cost" = some (.ref (f 18))
  b_cost : Binds K (fd 18) ["tariff", "count"] []
  F_parted : Fun K "parted" "parted" s_parted (f 19) (fd 19)
  g_parted : mg "parted" = some (.ref (f 19))
  b_parted : Binds K (fd 19) ["tariff", "pieces"] []
  F_law : Fun K "law" "law" s_law (f 20) (fd 20)
  g_law : mg "law" = some (.ref (f 20))
  b_law : Binds K (fd 20) ["_law_script"] []
  z_abs : mg "abs" = none
  z_all : mg "all" = none
  z_any : mg "any" = none
  z_bool : mg "bool" = none
  z_enumerate : mg "enumerate" = none
  z_int : mg "int" = none
  z_isinstance : mg "isinstance" = none
  z_len : mg "len" = none
  z_list : mg "list" = none
  z_max : mg "max" = none
  z_min : mg "min" = none
  z_range : mg "range" = none
  z_sorted : mg "sorted" = none
  z_sum : mg "sum" = none
  z_tuple : mg "tuple" = none
  z_zip : mg "zip" = none
  c_LEAST_PEOPLE : mg "LEAST_PEOPLE" = some (.int 2 (tk 0))
  c_MOST_PEOPLE : mg "MOST_PEOPLE" = some (.int 4 (tk 1))
  c_MOST_PIECES : mg "MOST_PIECES" = some (.int 9 (tk 2))
  c_MOST_COUNT : mg "MOST_COUNT" = some (.int 36 (tk 3))
  c_MOST_TIERS : mg "MOST_TIERS" = some (.int 3 (tk 4))
  c_MOST_PRICE : mg "MOST_PRICE" = some (.int 60 (tk 5))
  c_MOST_CARRIAGE : mg "MOST_CARRIAGE" = some (.int 200 (tk 6))
  ok : ∀ pm : Pm, pm.fl = FL → pm.sub = SUB → PmOk ⟨K, f, C⟩ pm
theorem units200 {k : Nat} {A : Around} (r : Room k A) : A.units + 200 < cLine := by have := r.un; omega
section
variable {P : Program} {w : World} {K : PySem.W.Frag} {mg : Str → Option Value} {base : Heap} {f : Nat → Addr} {fd : Nat → FuncData} {tk : Nat → Tok} {C : Nat → Addr}
theorem ok_is_count (T : Tx K mg f fd tk C) : FnOk P w K mg base CX0 1 (f 0) (fd 0) ["thing", "least", "most"] (spP ⟨K, f, C⟩ m_is_count) :=
  okC (Γ := ⟨K, f, C⟩) (pm := pm_is_count) (a := a_is_count) (N := ["thing", "least", "most"]) (ps := ["thing", "least", "most"]) (T.ok pm_is_count rfl rfl) T.F_is_count sc_is_count fun cdv A outer s H E hr => (pss_one (ps_ret (pe_and (pe_callB (k_isi (K := K)) (by rfl) T.z_isinstance (by decide +kernel) (pa_cons (pv 0) (pa_cons (pe_bltn (v := .ty "int") (by rfl) T.z_int (by decide +kernel) rfl) pa_nil))) (pe_and (pe_not (pe_callB (k_isi (K := K)) (by rfl) T.z_isinstance (by decide +kernel) (pa_cons (pv 0) (pa_cons (pe_bltn (v := .ty "bool") (by rfl) T.z_bool (by decide +kernel) rfl) pa_nil)))) (pe_one (pe_chain op_le op_le (pv 1) (pv 0) (pv 2)))))))
theorem ok_last_of (T : Tx K mg f fd tk C) : FnOk P w K mg base CX0 1 (f 1) (fd 1) ["tiers", "count"] (spP ⟨K, f, C⟩ m_last_of) :=
  okC (Γ := ⟨K, f, C⟩) (pm := pm_last_of) (a := a_last_of) (N := ["tiers", "count", "begin", "amount"]) (ps := ["tiers", "count"]) (T.ok pm_last_of rfl rfl) T.F_last_of sc_last_of fun cdv A outer s H E hr => (pss_one (ps_ret (pe_ix (k_ix (K := K)) (pe_lc (own := [("begin", 2), ("amount", 3)]) (g := (gTup K 2 (gCons (gName 2) (gCons (gName 3) gNil)))) (by rfl) sc_last_of.nd (ki_list (K := K) (pv 0)) (blkOk_by (N := ["tiers", "count", "begin", "amount"]) (sc := defScope s_last_of) (by decide +kernel)) (fun _ _ _ _ _ => (k_tup (K := K) rfl (pgs_cons (pg_name (i := 2) sc_last_of.nd rfl (.inl rfl)) (pgs_cons (pg_name (i := 3) sc_last_of.nd rfl (.inl rfl)) pgs_nil)))) (fun _ _ _ _ _ => (pts_one (pt_cmpR op_le (pv 2) (pv 1) (nomark _)))) (fun _ _ _ _ _ => (pv 3))) (pe_un un_neg pe_int) (fun _ _ => rfl))))
theorem ok_law_cell_at (T : Tx K mg f fd tk C) : FnOk P w K mg base CX0 1 (f 2) (fd 2) ["_law_script", "_law_k"] (spP ⟨K, f, C⟩ m_law_cell_at) :=
  okC (Γ := ⟨K, f, C⟩) (pm := pm_law_cell_at) (a := a_law_cell_at) (N := ["_law_script", "_law_k"]) (ps := ["_law_script", "_law_k"]) (T.ok pm_law_cell_at rfl rfl) T.F_law_cell_at sc_law_cell_at fun cdv A outer s H E hr => (pss_cons (ps_if (pt_cmpR op_lt (pv 1) (pe_callB (k_len (K := K)) (by rfl) T.z_len (by decide +kernel) (pa_cons (pv 0) pa_nil)) (nomark _)) (pss_one (ps_ret (pe_ix (k_ix (K := K)) (pv 0) (pv 1) (fun _ _ => rfl)))) pss_nil)
      (pss_one (ps_ret pe_int)))
theorem ok_law_draw (T : Tx K mg f fd tk C) : FnOk P w K mg base CX0 1 (f 3) (fd 3) ["_law_cell", "_law_k", "_law_many"] (spP ⟨K, f, C⟩ m_law_draw) :=
  okC (Γ := ⟨K, f, C⟩) (pm := pm_law_draw) (a := a_law_draw) (N := ["_law_cell", "_law_k", "_law_many", "_law_primes"]) (ps := ["_law_cell", "_law_k", "_law_many"]) (T.ok pm_law_draw rfl rfl) T.F_law_draw sc_law_draw fun cdv A outer s H E hr => (pss_cons (ps_set (i := 3) sc_law_draw.nd rfl (.inl rfl) (pe_tup (pa_cons pe_int (pa_cons pe_int (pa_cons pe_int (pa_cons pe_int (pa_cons pe_int (pa_cons pe_int (pa_cons pe_int (pa_cons pe_int (pa_cons pe_int (pa_cons pe_int (pa_cons pe_int (pa_cons pe_int (pa_cons pe_int (pa_cons pe_int (pa_cons pe_int (pa_cons pe_int pa_nil))))))))))))))))))
      (pss_one (ps_ret (pe_op op_mod (pe_op op_mod (pe_op op_add (pe_op op_mul (pv 0) pe_int) (pe_op op_mul (pv 1) pe_int)) (pe_ix (k_ix (K := K)) (pv 3) (pe_op op_mod (pv 1) pe_int) (fun _ _ => rfl))) (pv 2)))))
theorem ok_law_whole (T : Tx K mg f fd tk C) : FnOk P w K mg base CX0 1 (f 4) (fd 4) ["_law_number"] (spP ⟨K, f, C⟩ m_law_whole) :=
  okC (Γ := ⟨K, f, C⟩) (pm := pm_law_whole) (a := a_law_whole) (N := ["_law_number"]) (ps := ["_law_number"]) (T.ok pm_law_whole rfl rfl) T.F_law_whole sc_law_whole fun cdv A outer s H E hr => (pss_one (ps_ret (pe_and (pe_callB (k_isi (K := K)) (by rfl) T.z_isinstance (by decide +kernel) (pa_cons (pv 0) (pa_cons (pe_bltn (v := .ty "int") (by rfl) T.z_int (by decide +kernel) rfl) pa_nil))) (pe_one (pe_not (pe_callB (k_isi (K := K)) (by rfl) T.z_isinstance (by decide +kernel) (pa_cons (pv 0) (pa_cons (pe_bltn (v := .ty "bool") (by rfl) T.z_bool (by decide +kernel) rfl) pa_nil))))))))
theorem ok_law_amount (T : Tx K mg f fd tk C) : FnOk P w K mg base CX0 1 (f 5) (fd 5) ["_law_tiers_here", "_law_count"] (spP ⟨K, f, C⟩ m_law_amount) :=
  okC (Γ := ⟨K, f, C⟩) (pm := pm_law_amount) (a := a_law_amount) (N := ["_law_tiers_here", "_law_count", "_law_begin", "_law_amount_here"]) (ps := ["_law_tiers_here", "_law_count"]) (T.ok pm_law_amount rfl rfl) T.F_law_amount sc_law_amount fun cdv A outer s H E hr => (pss_cons (ps_for PassesOwn.never rfl (ki_list (K := K) (k_revL (K := K) (pv 0))) (k_tup (K := K) rfl (pgs_cons (pg_name (i := 2) sc_law_amount.nd rfl (.inl rfl)) (pgs_cons (pg_name (i := 3) sc_law_amount.nd rfl (.inl rfl)) pgs_nil))) (pss_one (ps_if (pt_cmpR op_le (pv 2) (pv 1) (nomark _)) (pss_one (ps_ret (pv 3))) pss_nil)))
      (pss_one (ps_ret pe_int)))
theorem ok_law_due (T : Tx K mg f fd tk C) : FnOk P w K mg base CX0 1 (f 6) (fd 6) ["_law_much", "_law_pieces_here"] (spP ⟨K, f, C⟩ m_law_due) :=
  okC (Γ := ⟨K, f, C⟩) (pm := pm_law_due) (a := a_law_due) (N := ["_law_much", "_law_pieces_here", "_law_whole_here", "_law_found", "_law_person", "_law_one", "_law_rests", "_law_turn", "_law_at", "_law_had"]) (ps := ["_law_much", "_law_pieces_here"]) (T.ok pm_law_due rfl rfl) T.F_law_due sc_law_due fun cdv A outer s H E hr => (pss_cons (ps_asg (pe_tup (pa_cons (pe_callB (k_sum (K := K)) (by rfl) T.z_sum (by decide +kernel) (pa_cons (pv 1) pa_nil)) (pa_cons (pe_op op_rep (pe_lst (pa_cons pe_int pa_nil)) (pe_callB (k_len (K := K)) (by rfl) T.z_len (by decide +kernel) (pa_cons (pv 1) pa_nil))) pa_nil))) (k_tup (K := K) rfl (pgs_cons (pg_name (i := 2) sc_law_due.nd rfl (.inr rfl)) (pgs_cons (pg_name (i := 3) sc_law_due.nd rfl (.inl rfl)) pgs_nil))))
      (pss_cons (ps_if (pt_cmpR op_eq (pv 2) pe_int (nomark _)) (pss_one (ps_ret (pv 3))) pss_nil)
      (pss_cons (ps_for PassesOwn.never rfl (ki_enum (K := K) (by rfl) T.z_enumerate (pa_cons (pv 1) pa_nil)) (k_tup (K := K) rfl (pgs_cons (pg_name (i := 4) sc_law_due.nd rfl (.inl rfl)) (pgs_cons (pg_name (i := 5) sc_law_due.nd rfl (.inl rfl)) pgs_nil))) (pss_one (ps_asg (pe_op op_fdiv (pe_op op_sub (pe_op op_mul (pv 0) (pv 5)) (pe_op op_mod (pe_op op_mul (pv 0) (pv 5)) (pv 2))) (pv 2)) (pg_sub (pv 3) (pv 4) set_list))))
      (pss_cons (ps_setLc (i := 6) (own := [("_law_one", 5), ("_law_had", 9)]) (g := (gTup K 2 (gCons (gName 5) (gCons (gName 9) gNil)))) (by rfl) sc_law_due.nd rfl rfl (sw_true rfl rfl rfl (by decide +kernel)) (ki_zip (K := K) (by rfl) T.z_zip (pa_cons (pv 1) (pa_cons (pv 3) pa_nil))) (blkOk_by (N := ["_law_much", "_law_pieces_here", "_law_whole_here", "_law_found", "_law_person", "_law_one", "_law_rests", "_law_turn", "_law_at", "_law_had"]) (sc := defScope s_law_due) (by decide +kernel)) (fun _ _ _ _ _ => (k_tup (K := K) rfl (pgs_cons (pg_name (i := 5) sc_law_due.nd rfl (.inl rfl)) (pgs_cons (pg_name (i := 9) sc_law_due.nd rfl (.inl rfl)) pgs_nil)))) (fun _ _ _ _ _ => pts_nil) (fun _ _ _ _ _ => (pe_op op_sub (pe_op op_mul (pv 0) (pv 5)) (pe_op op_mul (pv 2) (pv 9)))))
      (pss_cons (ps_for PassesOwn.never rfl (pi_range1 rfl T.z_range (pa_cons (pe_op op_sub (pv 0) (pe_callB (k_sum (K := K)) (by rfl) T.z_sum (by decide +kernel) (pa_cons (pv 3) pa_nil))) pa_nil)) (pg_name (i := 7) sc_law_due.nd rfl (.inl rfl)) (pss_cons (ps_set (i := 8) sc_law_due.nd rfl (.inl rfl) (k_bm (K := K) PySem.F.plainAttrs_list PySem.F.slot_list_index PySem.F.type_list_index (k_index (K := K) (units200 hr)) (pv 6) (pa_cons (pe_callB (k_max (K := K)) (by rfl) T.z_max (by decide +kernel) (pa_cons (pv 6) pa_nil)) pa_nil)))
      (pss_one (ps_asg (pe_tup (pa_cons (pe_op op_add (pe_ix (k_ix (K := K)) (pv 3) (pv 8) (fun _ _ => rfl)) pe_int) (pa_cons (pe_un un_neg pe_int) pa_nil))) (k_tup (K := K) rfl (pgs_cons (pg_sub (pv 3) (pv 8) set_list) (pgs_cons (pg_sub (pv 6) (pv 8) set_list) pgs_nil)))))))
      (pss_one (ps_ret (pv 3))))))))
theorem ok_is_tier (T : Tx K mg f fd tk C) : FnOk P w K mg base CX0 2 (f 7) (fd 7) ["thing", "least", "most"] (spP ⟨K, f, C⟩ m_is_tier) :=
  okC (Γ := ⟨K, f, C⟩) (pm := pm_is_tier) (a := a_is_tier) (N := ["thing", "least", "most"]) (ps := ["thing", "least", "most"]) (T.ok pm_is_tier rfl rfl) T.F_is_tier sc_is_tier fun cdv A outer s H E hr => (pss_cons (ps_if (PW.pt (pw_or (pt_not (pt_val (pe_callB (k_isi (K := K)) (by rfl) T.z_isinstance (by decide +kernel) (pa_cons (pv 0) (pa_cons (pe_bltn (v := .ty "tuple") (by rfl) T.z_tuple (by decide +kernel) rfl) pa_nil))))) (pw_or1 (pt_cmpR op_ne (pe_callB (k_len (K := K)) (by rfl) T.z_len (by decide +kernel) (pa_cons (pv 0) pa_nil)) pe_int (nomark _))))) (pss_one (ps_ret pe_bl)) pss_nil)
      (pss_one (ps_ret (pe_and (pe_call (ok_is_count T) (hr.mono (by decide)) (by rfl) T.g_is_count T.F_is_count.kp T.b_is_count .nil pass0 (pa_cons (pe_ix (k_ix (K := K)) (pv 0) pe_int (fun _ _ => rfl)) (pa_cons pe_int (pa_cons (pe_glob (v := .int 36) (by rfl) T.c_MOST_COUNT ⟨_, rfl⟩) pa_nil)))) (pe_one (pe_call (ok_is_count T) (hr.mono (by decide)) (by rfl) T.g_is_count T.F_is_count.kp T.b_is_count .nil pass0 (pa_cons (pe_ix (k_ix (K := K)) (pv 0) pe_int (fun _ _ => rfl)) (pa_cons (pv 1) (pa_cons (pv 2) pa_nil)))))))))
theorem ok_check_count (T : Tx K mg f fd tk C) : FnOk P w K mg base CX0 2 (f 8) (fd 8) ["count"] (spP ⟨K, f, C⟩ m_check_count) :=
  okC (Γ := ⟨K, f, C⟩) (pm := pm_check_count) (a := a_check_count) (N := ["count"]) (ps := ["count"]) (T.ok pm_check_count rfl rfl) T.F_check_count sc_check_count fun cdv A outer s H E hr => (pss_one (ps_if (pt_not (pt_val (pe_call (ok_is_count T) (hr.mono (by decide)) (by rfl) T.g_is_count T.F_is_count.kp T.b_is_count .nil pass0 (pa_cons (pv 0) (pa_cons pe_int (pa_cons (pe_glob (v := .int 36) (by rfl) T.c_MOST_COUNT ⟨_, rfl⟩) pa_nil)))))) (pss_one ps_never) pss_nil))
theorem ok_check_pieces (T : Tx K mg f fd tk C) : FnOk P w K mg base CX0 2 (f 9) (fd 9) ["pieces"] (spP ⟨K, f, C⟩ m_check_pieces) :=
  okC (Γ := ⟨K, f, C⟩) (pm := pm_check_pieces) (a := a_check_pieces) (N := ["pieces", "one"]) (ps := ["pieces"]) (T.ok pm_check_pieces rfl rfl) T.F_check_pieces sc_check_pieces fun cdv A outer s H E hr => (pss_cons (ps_if (PW.pt (pw_or (pt_not (pt_val (pe_callB (k_isi (K := K)) (by rfl) T.z_isinstance (by decide +kernel) (pa_cons (pv 0) (pa_cons (pe_bltn (v := .ty "list") (by rfl) T.z_list (by decide +kernel) rfl) pa_nil))))) (pw_or1 (pt_not (pt_chain op_le op_le (pe_glob (v := .int 2) (by rfl) T.c_LEAST_PEOPLE ⟨_, rfl⟩) (pe_callB (k_len (K := K)) (by rfl) T.z_len (by decide +kernel) (pa_cons (pv 0) pa_nil)) (pe_glob (v := .int 4) (by rfl) T.c_MOST_PEOPLE ⟨_, rfl⟩)))))) (pss_one ps_never) pss_nil)
      (pss_one (ps_if (pt_not (pt_val (pe_callB (k_all (K := K)) (by rfl) T.z_all (by decide +kernel) (pa_cons (pe_lc (own := [("one", 1)]) (g := (gName 1)) (by rfl) sc_check_pieces.nd (ki_list (K := K) (pv 0)) (blkOk_by (N := ["pieces", "one"]) (sc := defScope s_check_pieces) (by decide +kernel)) (fun _ _ _ _ _ => (pg_name (i := 1) sc_check_pieces.nd rfl (.inl rfl))) (fun _ _ _ _ _ => pts_nil) (fun _ _ _ _ _ => (pe_call (ok_is_count T) (hr.mono (by decide)) (by rfl) T.g_is_count T.F_is_count.kp T.b_is_count .nil pass0 (pa_cons (pv 1) (pa_cons pe_int (pa_cons (pe_glob (v := .int 9) (by rfl) T.c_MOST_PIECES ⟨_, rfl⟩) pa_nil)))))) pa_nil)))) (pss_one ps_never) pss_nil)))
theorem ok_cost_of (T : Tx K mg f fd tk C) : FnOk P w K mg base CX0 2 (f 10) (fd 10) ["tariff", "count"] (spP ⟨K, f, C⟩ m_cost_of) :=
  okC (Γ := ⟨K, f, C⟩) (pm := pm_cost_of) (a := a_cost_of) (N := ["tariff", "count"]) (ps := ["tariff", "count"]) (T.ok pm_cost_of rfl rfl) T.F_cost_of sc_cost_of fun cdv A outer s H E hr => (pss_cons (ps_if (pt_cmpR op_eq (pv 1) pe_int (nomark _)) (pss_one (ps_ret pe_int)) pss_nil)
      (pss_one (ps_ret (pe_op op_add (pe_op op_mul (pv 1) (pe_call (ok_last_of T) (hr.mono (by decide)) (by rfl) T.g_last_of T.F_last_of.kp T.b_last_of .nil pass0 (pa_cons (pe_ix (k_ix (K := K)) (pv 0) pe_int (fun _ _ => rfl)) (pa_cons (pv 1) pa_nil)))) (pe_call (ok_last_of T) (hr.mono (by decide)) (by rfl) T.g_last_of T.F_last_of.kp T.b_last_of .nil pass0 (pa_cons (pe_ix (k_ix (K := K)) (pv 0) pe_int (fun _ _ => rfl)) (pa_cons (pv 1) pa_nil)))))))
theorem ok_law_value (T : Tx K mg f fd tk C) : FnOk P w K mg base CX0 2 (f 11) (fd 11) ["_law_cell", "_law_turn"] (spP ⟨K, f, C⟩ m_law_value) :=
  okC (Γ := ⟨K, f, C⟩) (pm := pm_law_value) (a := a_law_value) (N := ["_law_cell", "_law_turn", "_law_blend"]) (ps := ["_law_cell", "_law_turn"]) (T.ok pm_law_value rfl rfl) T.F_law_value sc_law_value fun cdv A outer s H E hr => (pss_cons (ps_if (pt_cmpR op_ge (pv 0) (pe_op op_pow pe_int pe_int) (nomark _)) (pss_one (ps_ret (pe_op op_shr (pe_op op_mod (pe_op op_sub (pv 0) (pe_op op_pow pe_int pe_int)) (pe_op op_pow pe_int pe_int)) (pe_op op_mul pe_int (pv 1))))) pss_nil)
      (pss_cons (ps_set (i := 2) sc_law_value.nd rfl (.inl rfl) (pe_call (ok_law_draw T) (hr.mono (by decide)) (by rfl) T.g_law_draw T.F_law_draw.kp T.b_law_draw .nil pass0 (pa_cons (pe_op op_mulX (pe_op op_add (pv 0) (pe_op op_mul pe_int (pv 1))) (pe_op op_add (pe_op op_add (pv 0) (pe_op op_mul pe_int (pv 1))) pe_int)) (pa_cons (pe_op op_add (pe_op op_mod (pv 1) pe_int) pe_int) (pa_cons pe_int pa_nil)))))
      (pss_one (ps_ret (pe_op op_add (pe_op op_mul (pv 2) pe_int) (pe_call (ok_law_draw T) (hr.mono (by decide)) (by rfl) T.g_law_draw T.F_law_draw.kp T.b_law_draw .nil pass0 (pa_cons (pe_op op_add (pe_op op_mulX (pe_op op_add (pv 0) (pe_op op_mul pe_int (pv 1))) (pe_op op_add (pv 0) pe_int)) (pe_op op_mul pe_int (pv 1))) (pa_cons (pe_op op_add (pe_op op_mod (pv 1) pe_int) pe_int) (pa_cons pe_int pa_nil)))))))))
theorem ok_law_cost (T : Tx K mg f fd tk C) : FnOk P w K mg base CX0 2 (f 12) (fd 12) ["_law_tariff_here", "_law_count"] (spP ⟨K, f, C⟩ m_law_cost) :=
  okC (Γ := ⟨K, f, C⟩) (pm := pm_law_cost) (a := a_law_cost) (N := ["_law_tariff_here", "_law_count"]) (ps := ["_law_tariff_here", "_law_count"]) (T.ok pm_law_cost rfl rfl) T.F_law_cost sc_law_cost fun cdv A outer s H E hr => (pss_cons (ps_if (pt_cmpR op_eq (pv 1) pe_int (nomark _)) (pss_one (ps_ret pe_int)) pss_nil)
      (pss_one (ps_ret (pe_op op_add (pe_op op_mul (pv 1) (pe_call (ok_law_amount T) (hr.mono (by decide)) (by rfl) T.g_law_amount T.F_law_amount.kp T.b_law_amount .nil pass0 (pa_cons (pe_ix (k_ix (K := K)) (pv 0) pe_int (fun _ _ => rfl)) (pa_cons (pv 1) pa_nil)))) (pe_call (ok_law_amount T) (hr.mono (by decide)) (by rfl) T.g_law_amount T.F_law_amount.kp T.b_law_amount .nil pass0 (pa_cons (pe_ix (k_ix (K := K)) (pv 0) pe_int (fun _ _ => rfl)) (pa_cons (pv 1) pa_nil)))))))
theorem ok_are_tiers (T : Tx K mg f fd tk C) : FnOk P w K mg base CX0 3 (f 13) (fd 13) ["thing", "least", "most"] (spP ⟨K, f, C⟩ m_are_tiers) :=
  okC (Γ := ⟨K, f, C⟩) (pm := pm_are_tiers) (a := a_are_tiers) (N := ["thing", "least", "most", "tier", "one", "other"]) (ps := ["thing", "least", "most"]) (T.ok pm_are_tiers rfl rfl) T.F_are_tiers sc_are_tiers fun cdv A outer s H E hr => (pss_cons (ps_if (PW.pt (pw_or (pt_not (pt_val (pe_callB (k_isi (K := K)) (by rfl) T.z_isinstance (by decide +kernel) (pa_cons (pv 0) (pa_cons (pe_bltn (v := .ty "list") (by rfl) T.z_list (by decide +kernel) rfl) pa_nil))))) (pw_or1 (pt_not (pt_chain op_le op_le pe_int (pe_callB (k_len (K := K)) (by rfl) T.z_len (by decide +kernel) (pa_cons (pv 0) pa_nil)) (pe_glob (v := .int 3) (by rfl) T.c_MOST_TIERS ⟨_, rfl⟩)))))) (pss_one (ps_ret pe_bl)) pss_nil)
      (pss_cons (ps_if (PW.pt (pw_or (pt_not (pt_val (pe_callB (k_all (K := K)) (by rfl) T.z_all (by decide +kernel) (pa_cons (pe_lc (own := [("tier", 3)]) (g := (gName 3)) (by rfl) sc_are_tiers.nd (ki_list (K := K) (pv 0)) (blkOk_by (N := ["thing", "least", "most", "tier", "one", "other"]) (sc := defScope s_are_tiers) (by decide +kernel)) (fun _ _ _ _ _ => (pg_name (i := 3) sc_are_tiers.nd rfl (.inl rfl))) (fun _ _ _ _ _ => pts_nil) (fun _ _ _ _ _ => (pe_call (ok_is_tier T) (hr.mono (by decide)) (by rfl) T.g_is_tier T.F_is_tier.kp T.b_is_tier .nil pass0 (pa_cons (pv 3) (pa_cons (pv 1) (pa_cons (pv 2) pa_nil)))))) pa_nil)))) (pw_or1 (pt_cmpR op_ne (pe_ix (k_ix (K := K)) (pe_ix (k_ix (K := K)) (pv 0) pe_int (fun _ _ => rfl)) pe_int (fun _ _ => rfl)) pe_int (nomark _))))) (pss_one (ps_ret pe_bl)) pss_nil)
      (pss_one (ps_ret (pe_callB (k_all (K := K)) (by rfl) T.z_all (by decide +kernel) (pa_cons (pe_lc (own := [("one", 4), ("other", 5)]) (g := (gTup K 2 (gCons (gName 4) (gCons (gName 5) gNil)))) (by rfl) sc_are_tiers.nd (ki_zip (K := K) (by rfl) T.z_zip (pa_cons (pv 0) (pa_cons (pe_slice (k_sl (K := K)) (pv 0) (po_some pe_int) po_none) pa_nil))) (blkOk_by (N := ["thing", "least", "most", "tier", "one", "other"]) (sc := defScope s_are_tiers) (by decide +kernel)) (fun _ _ _ _ _ => (k_tup (K := K) rfl (pgs_cons (pg_name (i := 4) sc_are_tiers.nd rfl (.inl rfl)) (pgs_cons (pg_name (i := 5) sc_are_tiers.nd rfl (.inl rfl)) pgs_nil)))) (fun _ _ _ _ _ => pts_nil) (fun _ _ _ _ _ => (pe_cmpR op_lt (pe_ix (k_ix (K := K)) (pv 4) pe_int (fun _ _ => rfl)) (pe_ix (k_ix (K := K)) (pv 5) pe_int (fun _ _ => rfl)) (nomark _)))) pa_nil))))))
theorem ok_law_tiers (T : Tx K mg f fd tk C) : FnOk P w K mg base CX0 3 (f 14) (fd 14) ["_law_script", "_law_by", "_law_least", "_law_most", "_law_falling"] (spP ⟨K, f, C⟩ m_law_tiers) :=
  okC (Γ := ⟨K, f, C⟩) (pm := pm_law_tiers) (a := a_law_tiers) (N := ["_law_script", "_law_by", "_law_least", "_law_most", "_law_falling", "_law_value_here", "_law_found", "_law_count", "_law_amount_here", "_law_at", "_law_number"]) (ps := ["_law_script", "_law_by", "_law_least", "_law_most", "_law_falling"]) (T.ok pm_law_tiers rfl rfl) T.F_law_tiers sc_law_tiers fun cdv A outer s H E hr => (pss_cons (ps_set (i := 5) sc_law_tiers.nd rfl (.inl rfl) (pe_call (ok_law_value T) (hr.mono (by decide)) (by rfl) T.g_law_value T.F_law_value.kp T.b_law_value .nil pass0 (pa_cons (pe_call (ok_law_cell_at T) (hr.mono (by decide)) (by rfl) T.g_law_cell_at T.F_law_cell_at.kp T.b_law_cell_at .nil pass0 (pa_cons (pv 0) (pa_cons (pv 1) pa_nil))) (pa_cons pe_int pa_nil))))
      (pss_cons (ps_par3 (i := 6) (j := 7) (l := 8) (by rfl) sc_law_tiers.nd rfl rfl rfl (by decide) (by decide) (by decide) rfl rfl rfl (pa_cons (pe_lst pa_nil) (pa_cons pe_int (pa_cons (pe_op op_add (pv 2) (pe_op op_mod (pe_op op_fdiv (pv 5) pe_int) (pe_op op_add (pe_op op_sub (pv 3) (pv 2)) pe_int))) pa_nil))) (by rfl))
      (pss_cons (ps_for PassesOwn.never rfl (pi_range1 rfl T.z_range (pa_cons (pe_op op_add pe_int (pe_op op_mod (pv 5) pe_int)) pa_nil)) (pg_name (i := 9) sc_law_tiers.nd rfl (.inl rfl)) (pss_cons (ps_set (i := 10) sc_law_tiers.nd rfl (.inl rfl) (pe_op op_fdiv (pe_call (ok_law_value T) (hr.mono (by decide)) (by rfl) T.g_law_value T.F_law_value.kp T.b_law_value .nil pass0 (pa_cons (pe_op op_add (pe_call (ok_law_cell_at T) (hr.mono (by decide)) (by rfl) T.g_law_cell_at T.F_law_cell_at.kp T.b_law_cell_at .nil pass0 (pa_cons (pv 0) (pa_cons (pe_op op_add (pv 1) (pe_op op_mod (pv 9) pe_int)) pa_nil))) (pe_op op_mul pe_int (pv 9))) (pa_cons (pe_op op_add pe_int (pv 9)) pa_nil))) pe_int))
      (pss_cons (ps_expr (k_bm (K := K) PySem.F.plainAttrs_list PySem.F.slot_list_append PySem.F.type_list_append mt_append (pv 6) (pa_cons (pe_tup (pa_cons (pv 7) (pa_cons (pv 8) pa_nil))) pa_nil)))
      (pss_cons (ps_set (i := 7) sc_law_tiers.nd rfl (.inl rfl) (pe_op op_add (pe_op op_add (pv 7) pe_int) (pe_op op_mod (pv 10) (pe_ix (k_ix (K := K)) (pe_tup (pa_cons pe_int (pa_cons pe_int (pa_cons pe_int (pa_cons pe_int pa_nil))))) (pe_op op_mod (pe_op op_fdiv (pv 5) pe_int) pe_int) (fun _ _ => rfl)))))
      (pss_cons (ps_set (i := 8) sc_law_tiers.nd rfl (.inl rfl) (pe_op op_add (pv 2) (pe_op op_mod (pe_op op_fdiv (pv 10) pe_int) (pe_op op_add (pe_op op_sub (pv 3) (pv 2)) pe_int))))
      (pss_cons (ps_if (PW.pt (pw_and (pt_val (pv 4)) (pw_and1 (pt_cmpR op_gt (pv 8) (pe_ix (k_ix (K := K)) (pe_ix (k_ix (K := K)) (pv 6) (pe_un un_neg pe_int) (fun _ _ => rfl)) pe_int (fun _ _ => rfl)) (nomark _))))) (pss_one (ps_set (i := 8) sc_law_tiers.nd rfl (.inl rfl) (pe_op op_add (pv 2) (pe_op op_fdiv (pe_op op_sub (pe_ix (k_ix (K := K)) (pe_ix (k_ix (K := K)) (pv 6) (pe_un un_neg pe_int) (fun _ _ => rfl)) pe_int (fun _ _ => rfl)) (pv 2)) (pe_op op_add pe_int (pe_op op_mod (pe_op op_fdiv (pv 10) pe_int) pe_int)))))) pss_nil)
      (pss_one (ps_if (pt_cmpR op_gt (pv 7) pe_int (nomark _)) (pss_one ps_break) pss_nil))))))))
      (pss_one (ps_ret (pv 6))))))
theorem ok_law_pieces (T : Tx K mg f fd tk C) : FnOk P w K mg base CX0 3 (f 15) (fd 15) ["_law_script", "_law_by"] (spP ⟨K, f, C⟩ m_law_pieces) :=
  okC (Γ := ⟨K, f, C⟩) (pm := pm_law_pieces) (a := a_law_pieces) (N := ["_law_script", "_law_by", "_law_value_here", "_law_found", "_law_at", "_law_number"]) (ps := ["_law_script", "_law_by"]) (T.ok pm_law_pieces rfl rfl) T.F_law_pieces sc_law_pieces fun cdv A outer s H E hr => (pss_cons (ps_par (i := 2) (j := 3) (by rfl) sc_law_pieces.nd rfl rfl (by decide) rfl rfl (pa_cons (pe_call (ok_law_value T) (hr.mono (by decide)) (by rfl) T.g_law_value T.F_law_value.kp T.b_law_value .nil pass0 (pa_cons (pe_call (ok_law_cell_at T) (hr.mono (by decide)) (by rfl) T.g_law_cell_at T.F_law_cell_at.kp T.b_law_cell_at .nil pass0 (pa_cons (pv 0) (pa_cons (pv 1) pa_nil))) (pa_cons pe_int pa_nil))) (pa_cons (pe_lst pa_nil) pa_nil)) (by rfl))
      (pss_cons (ps_for PassesOwn.never rfl (pi_range1 rfl T.z_range (pa_cons (pe_op op_add pe_int (pe_op op_mod (pv 2) pe_int)) pa_nil)) (pg_name (i := 4) sc_law_pieces.nd rfl (.inl rfl)) (pss_cons (ps_set (i := 5) sc_law_pieces.nd rfl (.inl rfl) (pe_op op_fdiv (pe_call (ok_law_value T) (hr.mono (by decide)) (by rfl) T.g_law_value T.F_law_value.kp T.b_law_value .nil pass0 (pa_cons (pe_op op_add (pe_call (ok_law_cell_at T) (hr.mono (by decide)) (by rfl) T.g_law_cell_at T.F_law_cell_at.kp T.b_law_cell_at .nil pass0 (pa_cons (pv 0) (pa_cons (pe_op op_add (pv 1) (pe_op op_mod (pv 4) pe_int)) pa_nil))) (pe_op op_mul pe_int (pv 4))) (pa_cons (pe_op op_add pe_int (pv 4)) pa_nil))) pe_int))
      (pss_one (ps_expr (k_bm (K := K) PySem.F.plainAttrs_list PySem.F.slot_list_append PySem.F.type_list_append mt_append (pv 3) (pa_cons (pe_op op_mod (pv 5) (pe_ix (k_ix (K := K)) (pe_tup (pa_cons pe_int (pa_cons pe_int (pa_cons pe_int (pa_cons pe_int pa_nil))))) (pe_op op_mod (pe_op op_fdiv (pv 2) pe_int) pe_int) (fun _ _ => rfl))) pa_nil))))))
      (pss_one (ps_ret (pv 3)))))
theorem ok_check_tariff (T : Tx K mg f fd tk C) : FnOk P w K mg base CX0 4 (f 16) (fd 16) ["tariff"] (spP ⟨K, f, C⟩ m_check_tariff) :=
  okC (Γ := ⟨K, f, C⟩) (pm := pm_check_tariff) (a := a_check_tariff) (N := ["tariff"]) (ps := ["tariff"]) (T.ok pm_check_tariff rfl rfl) T.F_check_tariff sc_check_tariff fun cdv A outer s H E hr => (pss_cons (ps_if (PW.pt (pw_or (pt_not (pt_val (pe_callB (k_isi (K := K)) (by rfl) T.z_isinstance (by decide +kernel) (pa_cons (pv 0) (pa_cons (pe_bltn (v := .ty "tuple") (by rfl) T.z_tuple (by decide +kernel) rfl) pa_nil))))) (pw_or1 (pt_cmpR op_ne (pe_callB (k_len (K := K)) (by rfl) T.z_len (by decide +kernel) (pa_cons (pv 0) pa_nil)) pe_int (nomark _))))) (pss_one ps_never) pss_nil)
      (pss_one (ps_if (PW.pt (pw_or (pt_not (pt_val (pe_call (ok_are_tiers T) (hr.mono (by decide)) (by rfl) T.g_are_tiers T.F_are_tiers.kp T.b_are_tiers .nil pass0 (pa_cons (pe_ix (k_ix (K := K)) (pv 0) pe_int (fun _ _ => rfl)) (pa_cons pe_int (pa_cons (pe_glob (v := .int 60) (by rfl) T.c_MOST_PRICE ⟨_, rfl⟩) pa_nil)))))) (pw_or1 (pt_not (pt_val (pe_call (ok_are_tiers T) (hr.mono (by decide)) (by rfl) T.g_are_tiers T.F_are_tiers.kp T.b_are_tiers .nil pass0 (pa_cons (pe_ix (k_ix (K := K)) (pv 0) pe_int (fun _ _ => rfl)) (pa_cons pe_int (pa_cons (pe_glob (v := .int 200) (by rfl) T.c_MOST_CARRIAGE ⟨_, rfl⟩) pa_nil))))))))) (pss_one ps_never) pss_nil)))
theorem ok_law_tariff (T : Tx K mg f fd tk C) : FnOk P w K mg base CX0 4 (f 17) (fd 17) ["_law_script", "_law_by"] (spP ⟨K, f, C⟩ m_law_tariff) :=
  okC (Γ := ⟨K, f, C⟩) (pm := pm_law_tariff) (a := a_law_tariff) (N := ["_law_script", "_law_by", "_law_kind", "_law_prices"]) (ps := ["_law_script", "_law_by"]) (T.ok pm_law_tariff rfl rfl) T.F_law_tariff sc_law_tariff fun cdv A outer s H E hr => (pss_cons (ps_set (i := 2) sc_law_tariff.nd rfl (.inl rfl) (pe_op op_mod (pe_call (ok_law_value T) (hr.mono (by decide)) (by rfl) T.g_law_value T.F_law_value.kp T.b_law_value .nil pass0 (pa_cons (pe_call (ok_law_cell_at T) (hr.mono (by decide)) (by rfl) T.g_law_cell_at T.F_law_cell_at.kp T.b_law_cell_at .nil pass0 (pa_cons (pv 0) (pa_cons (pv 1) pa_nil))) (pa_cons pe_int pa_nil))) pe_int))
      (pss_cons (ps_set (i := 3) sc_law_tariff.nd rfl (.inl rfl) (pe_call (ok_law_tiers T) (hr.mono (by decide)) (by rfl) T.g_law_tiers T.F_law_tiers.kp T.b_law_tiers .nil pass0 (pa_cons (pv 0) (pa_cons (pv 1) (pa_cons pe_int (pa_cons pe_int (pa_cons (pe_cmpR op_gt (pv 2) pe_int (nomark _)) pa_nil)))))))
      (pss_one (ps_ret (pe_tup (pa_cons (pv 3) (pa_cons (pe_call (ok_law_tiers T) (hr.mono (by decide)) (by rfl) T.g_law_tiers T.F_law_tiers.kp T.b_law_tiers .nil pass0 (pa_cons (pv 0) (pa_cons (pe_op op_add (pv 1) pe_int) (pa_cons pe_int (pa_cons (pe_ix (k_ix (K := K)) (pe_tup (pa_cons pe_int (pa_cons pe_int (pa_cons pe_int (pa_cons pe_int pa_nil))))) (pv 2) (fun _ _ => rfl)) (pa_cons (pe_cmpR op_eq (pv 2) pe_int (nomark _)) pa_nil)))))) pa_nil)))))))
theorem ok_cost (T : Tx K mg f fd tk C) : FnOk P w K mg base CX0 5 (f 18) (fd 18) ["tariff", "count"] (spP ⟨K, f, C⟩ m_cost) :=
  okC (Γ := ⟨K, f, C⟩) (pm := pm_cost) (a := a_cost) (N := ["tariff", "count"]) (ps := ["tariff", "count"]) (T.ok pm_cost rfl rfl) T.F_cost sc_cost fun cdv A outer s H E hr => (pss_cons (ps_expr (pe_call (ok_check_tariff T) (hr.mono (by decide)) (by rfl) T.g_check_tariff T.F_check_tariff.kp T.b_check_tariff .nil pass0 (pa_cons (pv 0) pa_nil)))
      (pss_cons (ps_expr (pe_call (ok_check_count T) (hr.mono (by decide)) (by rfl) T.g_check_count T.F_check_count.kp T.b_check_count .nil pass0 (pa_cons (pv 1) pa_nil)))
      (pss_one (ps_ret (pe_call (ok_cost_of T) (hr.mono (by decide)) (by rfl) T.g_cost_of T.F_cost_of.kp T.b_cost_of .nil pass0 (pa_cons (pv 0) (pa_cons (pv 1) pa_nil)))))))
theorem ok_parted (T : Tx K mg f fd tk C) : FnOk P w K mg base CX0 5 (f 19) (fd 19) ["tariff", "pieces"] (spP ⟨K, f, C⟩ m_parted) :=
  okC (Γ := ⟨K, f, C⟩) (pm := pm_parted) (a := a_parted) (N := ["tariff", "pieces", "whole", "much", "found", "turn", "rest", "person", "one"]) (ps := ["tariff", "pieces"]) (T.ok pm_parted rfl rfl) T.F_parted sc_parted fun cdv A outer s H E hr => (pss_cons (ps_expr (pe_call (ok_check_tariff T) (hr.mono (by decide)) (by rfl) T.g_check_tariff T.F_check_tariff.kp T.b_check_tariff .nil pass0 (pa_cons (pv 0) pa_nil)))
      (pss_cons (ps_expr (pe_call (ok_check_pieces T) (hr.mono (by decide)) (by rfl) T.g_check_pieces T.F_check_pieces.kp T.b_check_pieces .nil pass0 (pa_cons (pv 1) pa_nil)))
      (pss_cons (ps_set (i := 2) sc_parted.nd rfl (.inr rfl) (pe_callB (k_sum (K := K)) (by rfl) T.z_sum (by decide +kernel) (pa_cons (pv 1) pa_nil)))
      (pss_cons (ps_if (pt_cmpR op_eq (pv 2) pe_int (nomark _)) (pss_one (ps_ret (pe_op op_rep (pe_lst (pa_cons pe_int pa_nil)) (pe_callB (k_len (K := K)) (by rfl) T.z_len (by decide +kernel) (pa_cons (pv 1) pa_nil))))) pss_nil)
      (pss_cons (ps_set (i := 3) sc_parted.nd rfl (.inr rfl) (pe_call (ok_cost_of T) (hr.mono (by decide)) (by rfl) T.g_cost_of T.F_cost_of.kp T.b_cost_of .nil pass0 (pa_cons (pv 0) (pa_cons (pv 2) pa_nil))))
      (pss_cons (ps_setLc (i := 4) (own := [("one", 8)]) (g := (gName 8)) (by rfl) sc_parted.nd rfl rfl (sw_true rfl rfl rfl (by decide +kernel)) (ki_list (K := K) (pv 1)) (blkOk_by (N := ["tariff", "pieces", "whole", "much", "found", "turn", "rest", "person", "one"]) (sc := defScope s_parted) (by decide +kernel)) (fun _ _ _ _ _ => (pg_name (i := 8) sc_parted.nd rfl (.inl rfl))) (fun _ _ _ _ _ => pts_nil) (fun _ _ _ _ _ => (pe_op op_fdiv (pe_op op_mul (pv 3) (pv 8)) (pv 2))))
      (pss_cons (ps_set (i := 5) sc_parted.nd rfl (.inl rfl) (pe_callB (k_sortedD (K := K) (units200 hr)) (by rfl) T.z_sorted (by decide +kernel) (pa_cons (pe_lc (own := [("person", 7), ("one", 8)]) (g := (gTup K 2 (gCons (gName 7) (gCons (gName 8) gNil)))) (by rfl) sc_parted.nd (ki_enum (K := K) (by rfl) T.z_enumerate (pa_cons (pv 1) pa_nil)) (blkOk_by (N := ["tariff", "pieces", "whole", "much", "found", "turn", "rest", "person", "one"]) (sc := defScope s_parted) (by decide +kernel)) (fun _ _ _ _ _ => (k_tup (K := K) rfl (pgs_cons (pg_name (i := 7) sc_parted.nd rfl (.inl rfl)) (pgs_cons (pg_name (i := 8) sc_parted.nd rfl (.inl rfl)) pgs_nil)))) (fun _ _ _ _ _ => pts_nil) (fun _ _ _ _ _ => (pe_tup (pa_cons (pe_un un_neg (pe_op op_mod (pe_op op_mul (pv 3) (pv 8)) (pv 2))) (pa_cons (pv 7) pa_nil))))) pa_nil)))
      (pss_cons (ps_for PassesOwn.never rfl (ki_list (K := K) (pe_slice (k_sl (K := K)) (pv 5) po_none (po_some (pe_op op_sub (pv 3) (pe_callB (k_sum (K := K)) (by rfl) T.z_sum (by decide +kernel) (pa_cons (pv 4) pa_nil)))))) (k_tup (K := K) rfl (pgs_cons (pg_name (i := 6) sc_parted.nd rfl (.inl rfl)) (pgs_cons (pg_name (i := 7) sc_parted.nd rfl (.inl rfl)) pgs_nil))) (pss_one (ps_augS (pv 4) (pv 7) (k_get (K := K)) pe_int ip_add set_list)))
      (pss_one (ps_ret (pv 4)))))))))))
theorem ok_law (T : Tx K mg f fd tk C) : FnOk P w K mg base CX0 6 (f 20) (fd 20) ["_law_script"] (spP ⟨K, f, C⟩ m_law) :=
  okC (Γ := ⟨K, f, C⟩) (pm := pm_law) (a := a_law) (N := ["_law_script", "_law_by", "_law_tariff_here", "_law_pieces_here", "_law_handed", "_law_much", "_law_again", "_law_found", "_law_turned", "_law_one", "_law_other"]) (ps := ["_law_script"]) (T.ok pm_law rfl rfl) T.F_law sc_law fun cdv A outer s H E hr => (pss_cons (ps_set (i := 0) sc_law.nd rfl (.inl rfl) (pe_slice (k_sl (K := K)) (pv 0) po_none (po_some pe_int)))
      (pss_cons (ps_for PassesOwn.never rfl (pi_range3 rfl T.z_range (pa_cons pe_int (pa_cons (pe_callB (call_max2 rfl) (by rfl) T.z_max (by decide +kernel) (pa_cons pe_int (pa_cons (pe_callB (call_min2 rfl) (by rfl) T.z_min (by decide +kernel) (pa_cons pe_int (pa_cons (pe_callB (k_len (K := K)) (by rfl) T.z_len (by decide +kernel) (pa_cons (pv 0) pa_nil)) pa_nil))) pa_nil))) (pa_cons pe_int pa_nil)))) (pg_name (i := 1) sc_law.nd rfl (.inl rfl)) (pss_cons (ps_par (i := 2) (j := 3) (by rfl) sc_law.nd rfl rfl (by decide) rfl rfl (pa_cons (pe_call (ok_law_tariff T) (hr.mono (by decide)) (by rfl) T.g_law_tariff T.F_law_tariff.kp T.b_law_tariff .nil pass0 (pa_cons (pv 0) (pa_cons (pv 1) pa_nil))) (pa_cons (pe_call (ok_law_pieces T) (hr.mono (by decide)) (by rfl) T.g_law_pieces T.F_law_pieces.kp T.b_law_pieces .nil pass0 (pa_cons (pv 0) (pa_cons (pv 1) pa_nil))) pa_nil)) (by rfl))
      (pss_cons (ps_par (i := 4) (j := 5) (by rfl) sc_law.nd rfl rfl (by decide) rfl rfl (pa_cons (pe_callTy (k_list (K := K)) (by rfl) T.z_list (by decide +kernel) (pa_cons (pv 3) pa_nil)) (pa_cons (pe_call (ok_law_cost T) (hr.mono (by decide)) (by rfl) T.g_law_cost T.F_law_cost.kp T.b_law_cost .nil pass0 (pa_cons (pv 2) (pa_cons (pe_callB (k_sum (K := K)) (by rfl) T.z_sum (by decide +kernel) (pa_cons (pv 3) pa_nil)) pa_nil))) pa_nil)) (by rfl))
      (pss_cons (ps_for PassesOwn.never rfl (pi_range1 rfl T.z_range (pa_cons pe_int pa_nil)) (pg_name (i := 6) sc_law.nd rfl (.inl rfl)) (pss_cons (ps_set (i := 7) sc_law.nd rfl (.inl rfl) (pe_call (ok_parted T) (hr.mono (by decide)) (by rfl) T.g_parted T.F_parted.kp T.b_parted .nil pass0 (pa_cons (pv 2) (pa_cons (pv 4) pa_nil))))
      (pss_cons (ps_if (PW.pt (pw_or (pt_not (pt_val (pe_callB (k_isi (K := K)) (by rfl) T.z_isinstance (by decide +kernel) (pa_cons (pv 7) (pa_cons (pe_bltn (v := .ty "list") (by rfl) T.z_list (by decide +kernel) rfl) pa_nil))))) (pw_or (pt_cmpR (k_neD (K := K) hr.units) (pv 7) (pe_call (ok_law_due T) (hr.mono (by decide)) (by rfl) T.g_law_due T.F_law_due.kp T.b_law_due .nil pass0 (pa_cons (pv 5) (pa_cons (pv 3) pa_nil))) (nomark _)) (pw_or1 (pt_cmpR (k_neD (K := K) hr.units) (pv 4) (pv 3) (nomark _)))))) (pss_one (ps_ret pe_bl)) pss_nil)
      (pss_cons (ps_if (PW.pt (pw_or (pt_cmpR (k_neD (K := K) hr.units) (pe_callB (k_sum (K := K)) (by rfl) T.z_sum (by decide +kernel) (pa_cons (pv 7) pa_nil)) (pv 5) (nomark _)) (pw_or1 (pt_not (pt_val (pe_callB (k_all (K := K)) (by rfl) T.z_all (by decide +kernel) (pa_cons (pe_lc (own := [("_law_one", 9)]) (g := (gName 9)) (by rfl) sc_law.nd (ki_list (K := K) (pv 7)) (blkOk_by (N := ["_law_script", "_law_by", "_law_tariff_here", "_law_pieces_here", "_law_handed", "_law_much", "_law_again", "_law_found", "_law_turned", "_law_one", "_law_other"]) (sc := defScope s_law) (by decide +kernel)) (fun _ _ _ _ _ => (pg_name (i := 9) sc_law.nd rfl (.inl rfl))) (fun _ _ _ _ _ => pts_nil) (fun _ _ _ _ _ => (pe_call (ok_law_whole T) (hr.mono (by decide)) (by rfl) T.g_law_whole T.F_law_whole.kp T.b_law_whole .nil pass0 (pa_cons (pv 9) pa_nil)))) pa_nil))))))) (pss_one (ps_ret pe_bl)) pss_nil)
      (pss_one (ps_expr (k_bm (K := K) PySem.F.plainAttrs_list PySem.F.slot_list_append PySem.F.type_list_append mt_append (pv 7) (pa_cons pe_int pa_nil))))))))
      (pss_cons (ps_asg (pe_tup (pa_cons pe_int (pa_cons pe_int pa_nil))) (k_tup (K := K) rfl (pgs_cons (pg_sub (pv 4) pe_int set_list) (pgs_cons (pg_sub (pv 4) (pe_un un_neg pe_int) set_list) pgs_nil))))
      (pss_cons (ps_if (pt_cmpR (k_neD (K := K) hr.units) (pe_call (ok_parted T) (hr.mono (by decide)) (by rfl) T.g_parted T.F_parted.kp T.b_parted .nil pass0 (pa_cons (pv 2) (pa_cons (pv 4) pa_nil))) (pe_call (ok_law_due T) (hr.mono (by decide)) (by rfl) T.g_law_due T.F_law_due.kp T.b_law_due .nil pass0 (pa_cons (pe_call (ok_law_cost T) (hr.mono (by decide)) (by rfl) T.g_law_cost T.F_law_cost.kp T.b_law_cost .nil pass0 (pa_cons (pv 2) (pa_cons (pe_callB (k_sum (K := K)) (by rfl) T.z_sum (by decide +kernel) (pa_cons (pv 4) pa_nil)) pa_nil))) (pa_cons (pv 4) pa_nil))) (nomark _)) (pss_one (ps_ret pe_bl)) pss_nil)
      (pss_cons (ps_set (i := 8) sc_law.nd rfl (.inl rfl) (k_revL (K := K) (pe_call (ok_parted T) (hr.mono (by decide)) (by rfl) T.g_parted T.F_parted.kp T.b_parted .nil pass0 (pa_cons (pv 2) (pa_cons (k_revL (K := K) (pv 3)) pa_nil)))))
      (pss_one (ps_if (PW.pt (pw_or (pt_cmpR (k_neD (K := K) hr.units) (pe_call (ok_cost T) (hr.mono (by decide)) (by rfl) T.g_cost T.F_cost.kp T.b_cost .nil pass0 (pa_cons (pv 2) (pa_cons (pe_callB (k_sum (K := K)) (by rfl) T.z_sum (by decide +kernel) (pa_cons (pv 3) pa_nil)) pa_nil))) (pv 5) (nomark _)) (pw_or1 (pt_val (pe_callB (k_any (K := K)) (by rfl) T.z_any (by decide +kernel) (pa_cons (pe_lc (own := [("_law_one", 9), ("_law_other", 10)]) (g := (gTup K 2 (gCons (gName 9) (gCons (gName 10) gNil)))) (by rfl) sc_law.nd (ki_zip (K := K) (by rfl) T.z_zip (pa_cons (pv 8) (pa_cons (pv 7) pa_nil))) (blkOk_by (N := ["_law_script", "_law_by", "_law_tariff_here", "_law_pieces_here", "_law_handed", "_law_much", "_law_again", "_law_found", "_law_turned", "_law_one", "_law_other"]) (sc := defScope s_law) (by decide +kernel)) (fun _ _ _ _ _ => (k_tup (K := K) rfl (pgs_cons (pg_name (i := 9) sc_law.nd rfl (.inl rfl)) (pgs_cons (pg_name (i := 10) sc_law.nd rfl (.inl rfl)) pgs_nil)))) (fun _ _ _ _ _ => pts_nil) (fun _ _ _ _ _ => (pe_cmpR op_gt (pe_callB call_abs (by rfl) T.z_abs (by decide +kernel) (pa_cons (pe_op op_sub (pv 9) (pv 10)) pa_nil)) pe_int (nomark _)))) pa_nil)))))) (pss_one (ps_ret pe_bl)) pss_nil)))))))))
      (pss_cons (ps_set (i := 2) sc_law.nd rfl (.inl rfl) (pe_tup (pa_cons (pe_lst (pa_cons (pe_tup (pa_cons pe_int (pa_cons pe_int pa_nil))) pa_nil)) (pa_cons (pe_lst (pa_cons (pe_tup (pa_cons pe_int (pa_cons pe_int pa_nil))) pa_nil)) pa_nil))))
      (pss_cons (ps_if (PW.pt (pw_or (pt_cmpR (k_neD (K := K) hr.units) (pe_call (ok_parted T) (hr.mono (by decide)) (by rfl) T.g_parted T.F_parted.kp T.b_parted .nil pass0 (pa_cons (pv 2) (pa_cons (pe_lst (pa_cons pe_int (pa_cons pe_int pa_nil))) pa_nil))) (pe_lst (pa_cons pe_int (pa_cons pe_int pa_nil))) (nomark _)) (pw_or1 (pt_cmpR (k_neD (K := K) hr.units) (pe_call (ok_parted T) (hr.mono (by decide)) (by rfl) T.g_parted T.F_parted.kp T.b_parted .nil pass0 (pa_cons (pv 2) (pa_cons (pe_lst (pa_cons pe_int (pa_cons pe_int (pa_cons pe_int pa_nil)))) pa_nil))) (pe_lst (pa_cons pe_int (pa_cons pe_int (pa_cons pe_int pa_nil)))) (nomark _))))) (pss_one (ps_ret pe_bl)) pss_nil)
      (pss_cons (ps_if (PW.pt (pw_or (pt_cmpR (k_neD (K := K) hr.units) (pe_call (ok_parted T) (hr.mono (by decide)) (by rfl) T.g_parted T.F_parted.kp T.b_parted .nil pass0 (pa_cons (pv 2) (pa_cons (pe_lst (pa_cons pe_int (pa_cons pe_int pa_nil))) pa_nil))) (pe_lst (pa_cons pe_int (pa_cons pe_int pa_nil))) (nomark _)) (pw_or1 (pt_cmpR (k_neD (K := K) hr.units) (pe_call (ok_parted T) (hr.mono (by decide)) (by rfl) T.g_parted T.F_parted.kp T.b_parted .nil pass0 (pa_cons (pe_tup (pa_cons (pe_lst (pa_cons (pe_tup (pa_cons pe_int (pa_cons pe_int pa_nil))) pa_nil)) (pa_cons (pe_lst (pa_cons (pe_tup (pa_cons pe_int (pa_cons pe_int pa_nil))) pa_nil)) pa_nil))) (pa_cons (pe_lst (pa_cons pe_int (pa_cons pe_int (pa_cons pe_int pa_nil)))) pa_nil))) (pe_lst (pa_cons pe_int (pa_cons pe_int (pa_cons pe_int pa_nil)))) (nomark _))))) (pss_one (ps_ret pe_bl)) pss_nil)
      (pss_one (ps_ret (pe_and (pe_cmpR (k_eqD (K := K) hr.units) (pe_call (ok_parted T) (hr.mono (by decide)) (by rfl) T.g_parted T.F_parted.kp T.b_parted .nil pass0 (pa_cons (pv 2) (pa_cons (pe_lst (pa_cons pe_int (pa_cons pe_int (pa_cons pe_int pa_nil)))) pa_nil))) (pe_lst (pa_cons pe_int (pa_cons pe_int (pa_cons pe_int pa_nil)))) (nomark _)) (pe_one (pe_cmpR (k_eqD (K := K) hr.units) (pe_call (ok_parted T) (hr.mono (by decide)) (by rfl) T.g_parted T.F_parted.kp T.b_parted .nil pass0 (pa_cons (pv 2) (pa_cons (pe_lst (pa_cons pe_int (pa_cons pe_int (pa_cons pe_int pa_nil)))) pa_nil))) (pe_lst (pa_cons pe_int (pa_cons pe_int (pa_cons pe_int pa_nil)))) (nomark _)))))))))))
end
theorem all_mk {l : PySem.W.OpenLaw} {w : World} {K : PySem.W.Frag} {h : Heap} {mg : Str → Option Value} {fa : Addr} (X : K.In h) (G : h.Ns mainGlobals mg) (hfa : mg "law" = some (.ref fa))
    {f0 : Addr} {od0 an0 : Option Addr} {sl0 : Array (Option Value)} {oc0 kV0 dc0 pm0 cd0 ct0 : Value}
    (a0 : PySem.W.nsIn K mainGlobals "is_count" = some (some (.ref f0)))
    (l0 : K.lookup f0 = some ⟨oc0, od0, .func (PySem.W.fnOf "is_count" "is_count" (defArgs s_is_count) (defBody s_is_count) (defScope s_is_count) .none kV0 dc0 pm0 an0 cd0 ct0), sl0⟩) (c0 : PySem.W.codeIn K cd0 "is_count" = true) (k0 : PySem.W.keepIn K (.ref f0) = true)
    {f1 : Addr} {od1 an1 : Option Addr} {sl1 : Array (Option Value)} {oc1 kV1 dc1 pm1 cd1 ct1 : Value}
    (a1 : PySem.W.nsIn K mainGlobals "last_of" = some (some (.ref f1)))
    (l1 : K.lookup f1 = some ⟨oc1, od1, .func (PySem.W.fnOf "last_of" "last_of" (defArgs s_last_of) (defBody s_last_of) (defScope s_last_of) .none kV1 dc1 pm1 an1 cd1 ct1), sl1⟩) (c1 : PySem.W.codeIn K cd1 "last_of" = true) (k1 : PySem.W.keepIn K (.ref f1) = true)
    {f2 : Addr} {od2 an2 : Option Addr} {sl2 : Array (Option Value)} {oc2 kV2 dc2 pm2 cd2 ct2 : Value}
    (a2 : PySem.W.nsIn K mainGlobals "_law_cell_at" = some (some (.ref f2)))
    (l2 : K.lookup f2 = some ⟨oc2, od2, .func (PySem.W.fnOf "_law_cell_at" "_law_cell_at" (defArgs s_law_cell_at) (defBody s_law_cell_at) (defScope s_law_cell_at) .none kV2 dc2 pm2 an2 cd2 ct2), sl2⟩) (c2 : PySem.W.codeIn K cd2 "_law_cell_at" = true) (k2 : PySem.W.keepIn K (.ref f2) = true)
    {f3 : Addr} {od3 an3 : Option Addr} {sl3 : Array (Option Value)} {oc3 kV3 dc3 pm3 cd3 ct3 : Value}
    (a3 : PySem.W.nsIn K mainGlobals "_law_draw" = some (some (.ref f3)))
    (l3 : K.lookup f3 = some ⟨oc3, od3, .func (PySem.W.fnOf "_law_draw" "_law_draw" (defArgs s_law_draw) (defBody s_law_draw) (defScope s_law_draw) .none kV3 dc3 pm3 an3 cd3 ct3), sl3⟩) (c3 : PySem.W.codeIn K cd3 "_law_draw" = true) (k3 : PySem.W.keepIn K (.ref f3) = true)
    {f4 : Addr} {od4 an4 : Option Addr} {sl4 : Array (Option Value)} {oc4 kV4 dc4 pm4 cd4 ct4 : Value}
    (a4 : PySem.W.nsIn K mainGlobals "_law_whole" = some (some (.ref f4)))
    (l4 : K.lookup f4 = some ⟨oc4, od4, .func (PySem.W.fnOf "_law_whole" "_law_whole" (defArgs s_law_whole) (defBody s_law_whole) (defScope s_law_whole) .none kV4 dc4 pm4 an4 cd4 ct4), sl4⟩) (c4 : PySem.W.codeIn K cd4 "_law_whole" = true) (k4 : PySem.W.keepIn K (.ref f4) = true)
    {f5 : Addr} {od5 an5 : Option Addr} {sl5 : Array (Option Value)} {oc5 kV5 dc5 pm5 cd5 ct5 : Value}
    (a5 : PySem.W.nsIn K mainGlobals "_law_amount" = some (some (.ref f5)))
    (l5 : K.lookup f5 = some ⟨oc5, od5, .func (PySem.W.fnOf "_law_amount" "_law_amount" (defArgs s_law_amount) (defBody s_law_amount) (defScope s_law_amount) .none kV5 dc5 pm5 an5 cd5 ct5), sl5⟩) (c5 : PySem.W.codeIn K cd5 "_law_amount" = true) (k5 : PySem.W.keepIn K (.ref f5) = true)
    {f6 : Addr} {od6 an6 : Option Addr} {sl6 : Array (Option Value)} {oc6 kV6 dc6 pm6 cd6 ct6 : Value}
    (a6 : PySem.W.nsIn K mainGlobals "_law_due" = some (some (.ref f6)))
    (l6 : K.lookup f6 = some ⟨oc6, od6, .func (PySem.W.fnOf "_law_due" "_law_due" (defArgs s_law_due) (defBody s_law_due) (defScope s_law_due) .none kV6 dc6 pm6 an6 cd6 ct6), sl6⟩) (c6 : PySem.W.codeIn K cd6 "_law_due" = true) (k6 : PySem.W.keepIn K (.ref f6) = true)
    {f7 : Addr} {od7 an7 : Option Addr} {sl7 : Array (Option Value)} {oc7 kV7 dc7 pm7 cd7 ct7 : Value}
    (a7 : PySem.W.nsIn K mainGlobals "is_tier" = some (some (.ref f7)))
    (l7 : K.lookup f7 = some ⟨oc7, od7, .func (PySem.W.fnOf "is_tier" "is_tier" (defArgs s_is_tier) (defBody s_is_tier) (defScope s_is_tier) .none kV7 dc7 pm7 an7 cd7 ct7), sl7⟩) (c7 : PySem.W.codeIn K cd7 "is_tier" = true) (k7 : PySem.W.keepIn K (.ref f7) = true)
    {f8 : Addr} {od8 an8 : Option Addr} {sl8 : Array (Option Value)} {oc8 kV8 dc8 pm8 cd8 ct8 : Value}
    (a8 : PySem.W.nsIn K mainGlobals "check_count" = some (some (.ref f8)))
    (l8 : K.lookup f8 = some ⟨oc8, od8, .func (PySem.W.fnOf "check_count" "check_count" (defArgs s_check_count) (defBody s_check_count) (defScope s_check_count) .none kV8 dc8 pm8 an8 cd8 ct8), sl8⟩) (c8 : PySem.W.codeIn K cd8 "check_count" = true) (k8 : PySem.W.keepIn K (.ref f8) = true)
    {f9 : Addr} {od9 an9 : Option Addr} {sl9 : Array (Option Value)} {oc9 kV9 dc9 pm9 cd9 ct9 : Value}
    (a9 : PySem.W.nsIn K mainGlobals "check_pieces" = some (some (.ref f9)))
    (l9 : K.lookup f9 = some ⟨oc9, od9, .func (PySem.W.fnOf "check_pieces" "check_pieces" (defArgs s_check_pieces) (defBody s_check_pieces) (defScope s_check_pieces) .none kV9 dc9 pm9 an9 cd9 ct9), sl9⟩) (c9 : PySem.W.codeIn K cd9 "check_pieces" = true) (k9 : PySem.W.keepIn K (.ref f9) = true)
    {f10 : Addr} {od10 an10 : Option Addr} {sl10 : Array (Option Value)} {oc10 kV10 dc10 pm10 cd10 ct10 : Value}
    (a10 : PySem.W.nsIn K mainGlobals "cost_of" = some (some (.ref f10)))
    (l10 : K.lookup f10 = some ⟨oc10, od10, .func (PySem.W.fnOf "cost_of" "cost_of" (defArgs s_cost_of) (defBody s_cost_of) (defScope s_cost_of) .none kV10 dc10 pm10 an10 cd10 ct10), sl10⟩) (c10 : PySem.W.codeIn K cd10 "cost_of" = true) (k10 : PySem.W.keepIn K (.ref f10) = true)
    {f11 : Addr} {od11 an11 : Option Addr} {sl11 : Array (Option Value)} {oc11 kV11 dc11 pm11 cd11 ct11 : Value}
    (a11 : PySem.W.nsIn K mainGlobals "_law_value" = some (some (.ref f11)))
    (l11 : K.lookup f11 = some ⟨oc11, od11, .func (PySem.W.fnOf "_law_value" "_law_value" (defArgs s_law_value) (defBody s_law_value) (defScope s_law_value) .none kV11 dc11 pm11 an11 cd11 ct11), sl11⟩) (c11 : PySem.W.codeIn K cd11 "_law_value" = true) (k11 : PySem.W.keepIn K (.ref f11) = true)
    {f12 : Addr} {od12 an12 : Option Addr} {sl12 : Array (Option Value)} {oc12 kV12 dc12 pm12 cd12 ct12 : Value}
    (a12 : PySem.W.nsIn K mainGlobals "_law_cost" = some (some (.ref f12)))
    (l12 : K.lookup f12 = some ⟨oc12, od12, .func (PySem.W.fnOf "_law_cost" "_law_cost" (defArgs s_law_cost) (defBody s_law_cost) (defScope s_law_cost) .none kV12 dc12 pm12 an12 cd12 ct12), sl12⟩) (c12 : PySem.W.codeIn K cd12 "_law_cost" = true) (k12 : PySem.W.keepIn K (.ref f12) = true)
    {f13 : Addr} {od13 an13 : Option Addr} {sl13 : Array (Option Value)} {oc13 kV13 dc13 pm13 cd13 ct13 : Value}
    (a13 : PySem.W.nsIn K mainGlobals "are_tiers" = some (some (.ref f13)))
    (l13 : K.lookup f13 = some ⟨oc13, od13, .func (PySem.W.fnOf "are_tiers" "are_tiers" (defArgs s_are_tiers) (defBody s_are_tiers) (defScope s_are_tiers) .none kV13 dc13 pm13 an13 cd13 ct13), sl13⟩) (c13 : PySem.W.codeIn K cd13 "are_tiers" = true) (k13 : PySem.W.keepIn K (.ref f13) = true)
    {f14 : Addr} {od14 an14 : Option Addr} {sl14 : Array (Option Value)} {oc14 kV14 dc14 pm14 cd14 ct14 : Value}
    (a14 : PySem.W.nsIn K mainGlobals "_law_tiers" = some (some (.ref f14)))
    (l14 : K.lookup f14 = some ⟨oc14, od14, .func (PySem.W.fnOf "_law_tiers" "_law_tiers" (defArgs s_law_tiers) (defBody s_law_tiers) (defScope s_law_tiers) .none kV14 dc14 pm14 an14 cd14 ct14), sl14⟩) (c14 : PySem.W.codeIn K cd14 "_law_tiers" = true) (k14 : PySem.W.keepIn K (.ref f14) = true)
    {f15 : Addr} {od15 an15 : Option Addr} {sl15 : Array (Option Value)} {oc15 kV15 dc15 pm15 cd15 ct15 : Value}
    (a15 : PySem.W.nsIn K mainGlobals "_law_pieces" = some (some (.ref f15)))
    (l15 : K.lookup f15 = some ⟨oc15, od15, .func (PySem.W.fnOf "_law_pieces" "_law_pieces" (defArgs s_law_pieces) (defBody s_law_pieces) (defScope s_law_pieces) .none kV15 dc15 pm15 an15 cd15 ct15), sl15⟩) (c15 : PySem.W.codeIn K cd15 "_law_pieces" = true) (k15 : PySem.W.keepIn K (.ref f15) = true)
    {f16 : Addr} {od16 an16 : Option Addr} {sl16 : Array (Option Value)} {oc16 kV16 dc16 pm16 cd16 ct16 : Value}
    (a16 : PySem.W.nsIn K mainGlobals "check_tariff" = some (some (.ref f16)))
    (l16 : K.lookup f16 = some ⟨oc16, od16, .func (PySem.W.fnOf "check_tariff" "check_tariff" (defArgs s_check_tariff) (defBody s_check_tariff) (defScope s_check_tariff) .none kV16 dc16 pm16 an16 cd16 ct16), sl16⟩) (c16 : PySem.W.codeIn K cd16 "check_tariff" = true) (k16 : PySem.W.keepIn K (.ref f16) = true)
    {f17 : Addr} {od17 an17 : Option Addr} {sl17 : Array (Option Value)} {oc17 kV17 dc17 pm17 cd17 ct17 : Value}
    (a17 : PySem.W.nsIn K mainGlobals "_law_tariff" = some (some (.ref f17)))
    (l17 : K.lookup f17 = some ⟨oc17, od17, .func (PySem.W.fnOf "_law_tariff" "_law_tariff" (defArgs s_law_tariff) (defBody s_law_tariff) (defScope s_law_tariff) .none kV17 dc17 pm17 an17 cd17 ct17), sl17⟩) (c17 : PySem.W.codeIn K cd17 "_law_tariff" = true) (k17 : PySem.W.keepIn K (.ref f17) = true)
    {f18 : Addr} {od18 an18 : Option Addr} {sl18 : Array (Option Value)} {oc18 kV18 dc18 pm18 cd18 ct18 : Value}
    (a18 : PySem.W.nsIn K mainGlobals "cost" = some (some (.ref f18)))
    (l18 : K.lookup f18 = some ⟨oc18, od18, .func (PySem.W.fnOf "cost" "cost" (defArgs s_cost) (defBody s_cost) (defScope s_cost) .none kV18 dc18 pm18 an18 cd18 ct18), sl18⟩) (c18 : PySem.W.codeIn K cd18 "cost" = true) (k18 : PySem.W.keepIn K (.ref f18) = true)
    {f19 : Addr} {od19 an19 : Option Addr} {sl19 : Array (Option Value)} {oc19 kV19 dc19 pm19 cd19 ct19 : Value}
    (a19 : PySem.W.nsIn K mainGlobals "parted" = some (some (.ref f19)))
    (l19 : K.lookup f19 = some ⟨oc19, od19, .func (PySem.W.fnOf "parted" "parted" (defArgs s_parted) (defBody s_parted) (defScope s_parted) .none kV19 dc19 pm19 an19 cd19 ct19), sl19⟩) (c19 : PySem.W.codeIn K cd19 "parted" = true) (k19 : PySem.W.keepIn K (.ref f19) = true)
    {f20 : Addr} {od20 an20 : Option Addr} {sl20 : Array (Option Value)} {oc20 kV20 dc20 pm20 cd20 ct20 : Value}
    (a20 : PySem.W.nsIn K mainGlobals "law" = some (some (.ref f20)))
    (l20 : K.lookup f20 = some ⟨oc20, od20, .func (PySem.W.fnOf "law" "law" (defArgs s_law) (defBody s_law) (defScope s_law) .none kV20 dc20 pm20 an20 cd20 ct20), sl20⟩) (c20 : PySem.W.codeIn K cd20 "law" = true) (k20 : PySem.W.keepIn K (.ref f20) = true)
    (z_abs : PySem.W.nsIn K mainGlobals "abs" = some none)
    (z_all : PySem.W.nsIn K mainGlobals "all" = some none)
    (z_any : PySem.W.nsIn K mainGlobals "any" = some none)
    (z_bool : PySem.W.nsIn K mainGlobals "bool" = some none)
    (z_enumerate : PySem.W.nsIn K mainGlobals "enumerate" = some none)
    (z_int : PySem.W.nsIn K mainGlobals "int" = some none)
    (z_isinstance : PySem.W.nsIn K mainGlobals "isinstance" = some none)
    (z_len : PySem.W.nsIn K mainGlobals "len" = some none)
    (z_list : PySem.W.nsIn K mainGlobals "list" = some none)
    (z_max : PySem.W.nsIn K mainGlobals "max" = some none)
    (z_min : PySem.W.nsIn K mainGlobals "min" = some none)
    (z_range : PySem.W.nsIn K mainGlobals "range" = some none)
    (z_sorted : PySem.W.nsIn K mainGlobals "sorted" = some none)
    (z_sum : PySem.W.nsIn K mainGlobals "sum" = some none)
    (z_tuple : PySem.W.nsIn K mainGlobals "tuple" = some none)
    (z_zip : PySem.W.nsIn K mainGlobals "zip" = some none)
    {t0 : Tok} (n_LEAST_PEOPLE : PySem.W.nsIn K mainGlobals "LEAST_PEOPLE" = some (some (.int 2 t0)))
    {t1 : Tok} (n_MOST_PEOPLE : PySem.W.nsIn K mainGlobals "MOST_PEOPLE" = some (some (.int 4 t1)))
    {t2 : Tok} (n_MOST_PIECES : PySem.W.nsIn K mainGlobals "MOST_PIECES" = some (some (.int 9 t2)))
    {t3 : Tok} (n_MOST_COUNT : PySem.W.nsIn K mainGlobals "MOST_COUNT" = some (some (.int 36 t3)))
    {t4 : Tok} (n_MOST_TIERS : PySem.W.nsIn K mainGlobals "MOST_TIERS" = some (some (.int 3 t4)))
    {t5 : Tok} (n_MOST_PRICE : PySem.W.nsIn K mainGlobals "MOST_PRICE" = some (some (.int 60 t5)))
    {t6 : Tok} (n_MOST_CARRIAGE : PySem.W.nsIn K mainGlobals "MOST_CARRIAGE" = some (some (.int 200 t6)))
    : ∃ fd : FuncData, (∀ (s : Shared) (v : Value), BindsTo s fd ⟨[v], []⟩ [("_law_script", v)]) ∧ ∃ Γ : Gm, Γ.K = K ∧ ∀ base : Heap, K.In base → base.Ns mainGlobals mg → FnOk l.prog w K mg base CX0 6 fa fd ["_law_script"] (spP Γ m_law) := by
  have e := hfa.symm.trans (PySem.W.mg_of X G a20)
  have e2 : f20 = fa := by injection e with e; injection e with e; exact e.symm
  subst e2
  have F0 := fun_mk (st := s_is_count) l0 c0 k0
  have b0 := F0.binds (ps := ["thing", "least", "most"]) fun _ _ _ _ _ _ us hl => match us, hl with | [_, _, _], _ => rfl
  have F1 := fun_mk (st := s_last_of) l1 c1 k1
  have b1 := F1.binds (ps := ["tiers", "count"]) fun _ _ _ _ _ _ us hl => match us, hl with | [_, _], _ => rfl
  have F2 := fun_mk (st := s_law_cell_at) l2 c2 k2
  have b2 := F2.binds (ps := ["_law_script", "_law_k"]) fun _ _ _ _ _ _ us hl => match us, hl with | [_, _], _ => rfl
  have F3 := fun_mk (st := s_law_draw) l3 c3 k3
  have b3 := F3.binds (ps := ["_law_cell", "_law_k", "_law_many"]) fun _ _ _ _ _ _ us hl => match us, hl with | [_, _, _], _ => rfl
  have F4 := fun_mk (st := s_law_whole) l4 c4 k4
  have b4 := F4.binds (ps := ["_law_number"]) fun _ _ _ _ _ _ us hl => match us, hl with | [_], _ => rfl
  have F5 := fun_mk (st := s_law_amount) l5 c5 k5
  have b5 := F5.binds (ps := ["_law_tiers_here", "_law_count"]) fun _ _ _ _ _ _ us hl => match us, hl with | [_, _], _ => rfl
  have F6 := fun_mk (st := s_law_due) l6 c6 k6
  have b6 := F6.binds (ps := ["_law_much", "_law_pieces_here"]) fun _ _ _ _ _ _ us hl => match us, hl with | [_, _], _ => rfl
  have F7 := fun_mk (st := s_is_tier) l7 c7 k7
  have b7 := F7.binds (ps := ["thing", "least", "most"]) fun _ _ _ _ _ _ us hl => match us, hl with | [_, _, _], _ => rfl
  have F8 := fun_mk (st := s_check_count) l8 c8 k8
  have b8 := F8.binds (ps := ["count"]) fun _ _ _ _ _ _ us hl => match us, hl with | [_], _ => rfl
  have F9 := fun_mk (st := s_check_pieces) l9 c9 k9
  have b9 := F9.binds (ps := ["pieces"]) fun _ _ _ _ _ _ us hl => match us, hl with | [_], _ => rfl
  have F10 := fun_mk (st := s_cost_of) l10 c10 k10
  have b10 := F10.binds (ps := ["tariff", "count"]) fun _ _ _ _ _ _ us hl => match us, hl with | [_, _], _ => rfl
  have F11 := fun_mk (st := s_law_value) l11 c11 k11
  have b11 := F11.binds (ps := ["_law_cell", "_law_turn"]) fun _ _ _ _ _ _ us hl => match us, hl with | [_, _], _ => rfl
  have F12 := fun_mk (st := s_law_cost) l12 c12 k12
  have b12 := F12.binds (ps := ["_law_tariff_here", "_law_count"]) fun _ _ _ _ _ _ us hl => match us, hl with | [_, _], _ => rfl
  have F13 := fun_mk (st := s_are_tiers) l13 c13 k13
  have b13 := F13.binds (ps := ["thing", "least", "most"]) fun _ _ _ _ _ _ us hl => match us, hl with | [_, _, _], _ => rfl
  have F14 := fun_mk (st := s_law_tiers) l14 c14 k14
  have b14 := F14.binds (ps := ["_law_script", "_law_by", "_law_least", "_law_most", "_law_falling"]) fun _ _ _ _ _ _ us hl => match us, hl with | [_, _, _, _, _], _ => rfl
  have F15 := fun_mk (st := s_law_pieces) l15 c15 k15
  have b15 := F15.binds (ps := ["_law_script", "_law_by"]) fun _ _ _ _ _ _ us hl => match us, hl with | [_, _], _ => rfl
  have F16 := fun_mk (st := s_check_tariff) l16 c16 k16
  have b16 := F16.binds (ps := ["tariff"]) fun _ _ _ _ _ _ us hl => match us, hl with | [_], _ => rfl
  have F17 := fun_mk (st := s_law_tariff) l17 c17 k17
  have b17 := F17.binds (ps := ["_law_script", "_law_by"]) fun _ _ _ _ _ _ us hl => match us, hl with | [_, _], _ => rfl
  have F18 := fun_mk (st := s_cost) l18 c18 k18
  have b18 := F18.binds (ps := ["tariff", "count"]) fun _ _ _ _ _ _ us hl => match us, hl with | [_, _], _ => rfl
  have F19 := fun_mk (st := s_parted) l19 c19 k19
  have b19 := F19.binds (ps := ["tariff", "pieces"]) fun _ _ _ _ _ _ us hl => match us, hl with | [_, _], _ => rfl
  have F20 := fun_mk (st := s_law) l20 c20 k20
  have b20 := F20.binds (ps := ["_law_script"]) fun _ _ _ _ _ _ us hl => match us, hl with | [_], _ => rfl
  have T : Tx K mg (fun n => match n with | 0 => f0 | 1 => f1 | 2 => f2 | 3 => f3 | 4 => f4 | 5 => f5 | 6 => f6 | 7 => f7 | 8 => f8 | 9 => f9 | 10 => f10 | 11 => f11 | 12 => f12 | 13 => f13 | 14 => f14 | 15 => f15 | 16 => f16 | 17 => f17 | 18 => f18 | 19 => f19 | _ => f20) (fun n => match n with | 0 => (PySem.W.fnOf "is_count" "is_count" (defArgs s_is_count) (defBody s_is_count) (defScope s_is_count) .none kV0 dc0 pm0 an0 cd0 ct0) | 1 => (PySem.W.fnOf "last_of" "last_of" (defArgs s_last_of) (defBody s_last_of) (defScope s_last_of) .none kV1 dc1 pm1 an1 cd1 ct1) | 2 => (PySem.W.fnOf "_law_cell_at" "_law_cell_at" (defArgs s_law_cell_at) (defBody s_law_cell_at) (defScope s_law_cell_at) .none kV2 dc2 pm2 an2 cd2 ct2) | 3 => (PySem.W.fnOf "_law_draw" "_law_draw" (defArgs s_law_draw) (defBody s_law_draw) (defScope s_law_draw) .none kV3 dc3 pm3 an3 cd3 ct3) | 4 => (PySem.W.fnOf "_law_whole" "_law_whole" (defArgs s_law_whole) (defBody s_law_whole) (defScope s_law_whole) .none kV4 dc4 pm4 an4 cd4 ct4) | 5 => (PySem.W.fnOf "_law_amount" "_law_amount" (defArgs s_law_amount) (defBody s_law_amount) (defScope s_law_amount) .none kV5 dc5 pm5 an5 cd5 ct5) | 6 => (PySem.W.fnOf "_law_due" "_law_due" (defArgs s_law_due) (defBody s_law_due) (defScope s_law_due) .none kV6 dc6 pm6 an6 cd6 ct6) | 7 => (PySem.W.fnOf "is_tier" "is_tier" (defArgs s_is_tier) (defBody s_is_tier) (defScope s_is_tier) .none kV7 dc7 pm7 an7 cd7 ct7) | 8 => (PySem.W.fnOf "check_count" "check_count" (defArgs s_check_count) (defBody s_check_count) (defScope s_check_count) .none kV8 dc8 pm8 an8 cd8 ct8) | 9 => (PySem.W.fnOf "check_pieces" "check_pieces" (defArgs s_check_pieces) (defBody s_check_pieces) (defScope s_check_pieces) .none kV9 dc9 pm9 an9 cd9 ct9) | 10 => (PySem.W.fnOf "cost_of" "cost_of" (defArgs s_cost_of) (defBody s_cost_of) (defScope s_cost_of) .none kV10 dc10 pm10 an10 cd10 ct10) | 11 => (PySem.W.fnOf "_law_value" "_law_value" (defArgs s_law_value) (defBody s_law_value) (defScope s_law_value) .none kV11 dc11 pm11 an11 cd11 ct11) | 12 => (PySem.W.fnOf "_law_cost" "_law_cost" (defArgs s_law_cost) (defBody s_law_cost) (defScope s_law_cost) .none kV12 dc12 pm12 an12 cd12 ct12) | 13 => (PySem.W.fnOf "are_tiers" "are_tiers" (defArgs s_are_tiers) (defBody s_are_tiers) (defScope s_are_tiers) .none kV13 dc13 pm13 an13 cd13 ct13) | 14 => (PySem.W.fnOf "_law_tiers" "_law_tiers" (defArgs s_law_tiers) (defBody s_law_tiers) (defScope s_law_tiers) .none kV14 dc14 pm14 an14 cd14 ct14) | 15 => (PySem.W.fnOf "_law_pieces" "_law_pieces" (defArgs s_law_pieces) (defBody s_law_pieces) (defScope s_law_pieces) .none kV15 dc15 pm15 an15 cd15 ct15) | 16 => (PySem.W.fnOf "check_tariff" "check_tariff" (defArgs s_check_tariff) (defBody s_check_tariff) (defScope s_check_tariff) .none kV16 dc16 pm16 an16 cd16 ct16) | 17 => (PySem.W.fnOf "_law_tariff" "_law_tariff" (defArgs s_law_tariff) (defBody s_law_tariff) (defScope s_law_tariff) .none kV17 dc17 pm17 an17 cd17 ct17) | 18 => (PySem.W.fnOf "cost" "cost" (defArgs s_cost) (defBody s_cost) (defScope s_cost) .none kV18 dc18 pm18 an18 cd18 ct18) | 19 => (PySem.W.fnOf "parted" "parted" (defArgs s_parted) (defBody s_parted) (defScope s_parted) .none kV19 dc19 pm19 an19 cd19 ct19) | _ => (PySem.W.fnOf "law" "law" (defArgs s_law) (defBody s_law) (defScope s_law) .none kV20 dc20 pm20 an20 cd20 ct20)) (fun n => match n with | 0 => t0 | 1 => t1 | 2 => t2 | 3 => t3 | 4 => t4 | 5 => t5 | _ => t6) (fun _ => 0) := {
    F_is_count := F0
    g_is_count := PySem.W.mg_of X G a0
    b_is_count := b0
    F_last_of := F1
    g_last_of := PySem.W.mg_of X G a1
    b_last_of := b1
    F_law_cell_at := F2
    g_law_cell_at := PySem.W.mg_of X G a2
    b_law_cell_at := b2
    F_law_draw := F3
    g_law_draw := PySem.W.mg_of X G a3
    b_law_draw := b3
    F_law_whole := F4
    g_law_whole := PySem.W.mg_of X G a4
    b_law_whole := b4
    F_law_amount := F5
    g_law_amount := PySem.W.mg_of X G a5
    b_law_amount := b5
    F_law_due := F6
    g_law_due := PySem.W.mg_of X G a6
    b_law_due := b6
    F_is_tier := F7
    g_is_tier := PySem.W.mg_of X G a7
    b_is_tier := b7
    F_check_count := F8
    g_check_count := PySem.W.mg_of X G a8
    b_check_count := b8
    F_check_pieces := F9
    g_check_pieces := PySem.W.mg_of X G a9
    b_check_pieces := b9
    F_cost_of := F10
    g_cost_of := PySem.W.mg_of X G a10
    b_cost_of := b10
    F_law_value := F11
    g_law_value := PySem.W.mg_of X G a11
    b_law_value := b11
    F_law_cost := F12
    g_law_cost := PySem.W.mg_of X G a12
    b_law_cost := b12
    F_are_tiers := F13
    g_are_tiers := PySem.W.mg_of X G a13
    b_are_tiers := b13
    F_law_tiers := F14
    g_law_tiers := PySem.W.mg_of X G a14
    b_law_tiers := b14
    F_law_pieces := F15
    g_law_pieces := PySem.W.mg_of X G a15
    b_law_pieces := b15
    F_check_tariff := F16
    g_check_tariff := PySem.W.mg_of X G a16
    b_check_tariff := b16
    F_law_tariff := F17
    g_law_tariff := PySem.W.mg_of X G a17
    b_law_tariff := b17
    F_cost := F18
    g_cost := PySem.W.mg_of X G a18
    b_cost := b18
    F_parted := F19
    g_parted := PySem.W.mg_of X G a19
    b_parted := b19
    F_law := F20
    g_law := PySem.W.mg_of X G a20
    b_law := b20
    z_abs := PySem.W.mg_none_of X G z_abs
    z_all := PySem.W.mg_none_of X G z_all
    z_any := PySem.W.mg_none_of X G z_any
    z_bool := PySem.W.mg_none_of X G z_bool
    z_enumerate := PySem.W.mg_none_of X G z_enumerate
    z_int := PySem.W.mg_none_of X G z_int
    z_isinstance := PySem.W.mg_none_of X G z_isinstance
    z_len := PySem.W.mg_none_of X G z_len
    z_list := PySem.W.mg_none_of X G z_list
    z_max := PySem.W.mg_none_of X G z_max
    z_min := PySem.W.mg_none_of X G z_min
    z_range := PySem.W.mg_none_of X G z_range
    z_sorted := PySem.W.mg_none_of X G z_sorted
    z_sum := PySem.W.mg_none_of X G z_sum
    z_tuple := PySem.W.mg_none_of X G z_tuple
    z_zip := PySem.W.mg_none_of X G z_zip
    c_LEAST_PEOPLE := PySem.W.mg_of X G n_LEAST_PEOPLE
    c_MOST_PEOPLE := PySem.W.mg_of X G n_MOST_PEOPLE
    c_MOST_PIECES := PySem.W.mg_of X G n_MOST_PIECES
    c_MOST_COUNT := PySem.W.mg_of X G n_MOST_COUNT
    c_MOST_TIERS := PySem.W.mg_of X G n_MOST_TIERS
    c_MOST_PRICE := PySem.W.mg_of X G n_MOST_PRICE
    c_MOST_CARRIAGE := PySem.W.mg_of X G n_MOST_CARRIAGE
    ok := fun pm h1 h2 => ⟨fun c f h => by rw [h1] at h; exact absurd h Bool.false_ne_true, fun c c' b h => by rw [h2] at h; exact absurd h (by intro z; cases z)⟩ }
  exact ⟨(PySem.W.fnOf "law" "law" (defArgs s_law) (defBody s_law) (defScope s_law) .none kV20 dc20 pm20 an20 cd20 ct20), fun s v => .of_eq rfl, ⟨K, _, _⟩, rfl, fun base _ _ => ok_law T⟩
end Wk04
open PySem PySem.W PyProof.Rows
set_option maxHeartbeats 0 in
theorem PySem.Challenge.cw_grouporder_k04_whole_parted_holds : PySem.Challenge.rw_grouporder_k04_whole_parted.Holds := by
  w_on; o_law; k_head; (case hw => w_witness2)
  k_fill
  refine EM.walk_end (l := PySem.Challenge.rw_grouporder_k04_whole_parted) (n := 63) (k := 6) (x := "_law_script") (g := Wk04.m_law) rfl (by decide) rfl ⟨rfl, by decide, by decide⟩ (fun w h Y => PySem.W.kIn_of Y) ?F Wk04.law_true
  case F =>
    intro w mg fa h KX G hmg
    refine' Wk04.all_mk KX G hmg ?a0 ?l0 ?c0 ?k0 ?a1 ?l1 ?c1 ?k1 ?a2 ?l2 ?c2 ?k2 ?a3 ?l3 ?c3 ?k3 ?a4 ?l4 ?c4 ?k4 ?a5 ?l5 ?c5 ?k5 ?a6 ?l6 ?c6 ?k6 ?a7 ?l7 ?c7 ?k7 ?a8 ?l8 ?c8 ?k8 ?a9 ?l9 ?c9 ?k9 ?a10 ?l10 ?c10 ?k10 ?a11 ?l11 ?c11 ?k11 ?a12 ?l12 ?c12 ?k12 ?a13 ?l13 ?c13 ?k13 ?a14 ?l14 ?c14 ?k14 ?a15 ?l15 ?c15 ?k15 ?a16 ?l16 ?c16 ?k16 ?a17 ?l17 ?c17 ?k17 ?a18 ?l18 ?c18 ?k18 ?a19 ?l19 ?c19 ?k19 ?a20 ?l20 ?c20 ?k20 ?z_abs ?z_all ?z_any ?z_bool ?z_enumerate ?z_int ?z_isinstance ?z_len ?z_list ?z_max ?z_min ?z_range ?z_sorted ?z_sum ?z_tuple ?z_zip ?n_LEAST_PEOPLE ?n_MOST_PEOPLE ?n_MOST_PIECES ?n_MOST_COUNT ?n_MOST_TIERS ?n_MOST_PRICE ?n_MOST_CARRIAGE
    (case a0 => k_is)
    (case l0 => k_is)
    (case c0 => k_is)
    (case k0 => k_is)
    (case a1 => k_is)
    (case l1 => k_is)
    (case c1 => k_is)
    (case k1 => k_is)
    (case a2 => k_is)
    (case l2 => k_is)
    (case c2 => k_is)
    (case k2 => k_is)
    (case a3 => k_is)
    (case l3 => k_is)
    (case c3 => k_is)
    (case k3 => k_is)
    (case a4 => k_is)
    (case l4 => k_is)
    (case c4 => k_is)
    (case k4 => k_is)
    (case a5 => k_is)
    (case l5 => k_is)
    (case c5 => k_is)
    (case k5 => k_is)
    (case a6 => k_is)
    (case l6 => k_is)
    (case c6 => k_is)
    (case k6 => k_is)
    (case a7 => k_is)
    (case l7 => k_is)
    (case c7 => k_is)
    (case k7 => k_is)
    (case a8 => k_is)
    (case l8 => k_is)
    (case c8 => k_is)
    (case k8 => k_is)
    (case a9 => k_is)
    (case l9 => k_is)
    (case c9 => k_is)
    (case k9 => k_is)
    (case a10 => k_is)
    (case l10 => k_is)
    (case c10 => k_is)
    (case k10 => k_is)
    (case a11 => k_is)
    (case l11 => k_is)
    (case c11 => k_is)
    (case k11 => k_is)
    (case a12 => k_is)
    (case l12 => k_is)
    (case c12 => k_is)
    (case k12 => k_is)
    (case a13 => k_is)
    (case l13 => k_is)
    (case c13 => k_is)
    (case k13 => k_is)
    (case a14 => k_is)
    (case l14 => k_is)
    (case c14 => k_is)
    (case k14 => k_is)
    (case a15 => k_is)
    (case l15 => k_is)
    (case c15 => k_is)
    (case k15 => k_is)
    (case a16 => k_is)
    (case l16 => k_is)
    (case c16 => k_is)
    (case k16 => k_is)
    (case a17 => k_is)
    (case l17 => k_is)
    (case c17 => k_is)
    (case k17 => k_is)
    (case a18 => k_is)
    (case l18 => k_is)
    (case c18 => k_is)
    (case k18 => k_is)
    (case a19 => k_is)
    (case l19 => k_is)
    (case c19 => k_is)
    (case k19 => k_is)
    (case a20 => k_is)
    (case l20 => k_is)
    (case c20 => k_is)
    (case k20 => k_is)
    (case z_abs => k_is)
    (case z_all => k_is)
    (case z_any => k_is)
    (case z_bool => k_is)
    (case z_enumerate => k_is)
    (case z_int => k_is)
    (case z_isinstance => k_is)
    (case z_len => k_is)
    (case z_list => k_is)
    (case z_max => k_is)
    (case z_min => k_is)
    (case z_range => k_is)
    (case z_sorted => k_is)
    (case z_sum => k_is)
    (case z_tuple => k_is)
    (case z_zip => k_is)
    (case n_LEAST_PEOPLE => k_is)
    (case n_MOST_PEOPLE => k_is)
    (case n_MOST_PIECES => k_is)
    (case n_MOST_COUNT => k_is)
    (case n_MOST_TIERS => k_is)
    (case n_MOST_PRICE => k_is)
    (case n_MOST_CARRIAGE => k_is)
