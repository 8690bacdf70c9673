import PyProof.Rows.All
import Wide.All
import OpenK.AllK
import Wide.FinOn
import HandS.ForMost
import HandS.Flow
import HandS.Deep
import HandS.IsInst
import HandS.Style
import HandS.Conv
import HandS.Defaults
import HandS.SortInts
import HandS.SetFor
import HandS.IterVal
import KE.KStateDown
import HandS.Head0
import HandS.Head1
import HandS.Head2
import HandS.HeadEnd
import HandS.HeadHook1
import HandS.HeadHook2
import HandS.DictComp
import HandS.TupSets
import PySem.Challenge.RW_orderyards_k37_whole_deeds_that_make_ord
set_option Elab.async false
set_option linter.all false
set_option maxRecDepth 100000
set_option maxHeartbeats 4000000
namespace BV
open PySem PySem.Spec L2
abbrev Sl := L2.St
/-! ## by-value layer: data, modes, representation -/
abbrev D := PyData
abbrev En := List (Option D)
def kD : Key → D
  | .inl i => .int i
  | .inr s => .str s
mutual
inductive Rp (K : PySem.W.Frag) (F : Hp) : V → D → Prop
  | non : Rp K F .non .none
  | bl (b : Bool) : Rp K F (.bl b) (.bool b)
  | int (i : Int) : Rp K F (.int i) (.int i)
  | str (x : Str) : Rp K F (.str x) (.str x)
  | lst {a : Addr} {xs : List V} {ds : List D} : F a = some (.lst xs) → RpL K F xs ds → Rp K F (.ref a) (.list ds)
  | tup {a : Addr} {xs : List V} {ds : List D} : SqT K F a xs → RpL K F xs ds → Rp K F (.ref a) (.tuple ds)
  | dct {a : Addr} {xs : List (Key × V)} {ds : List (D × D)} : F a = some (.dK xs) → RpK K F xs ds → Rp K F (.ref a) (.dict ds)
inductive RpL (K : PySem.W.Frag) (F : Hp) : List V → List D → Prop
  | nil : RpL K F [] []
  | cons {v : V} {vs : List V} {d : D} {ds : List D} : Rp K F v d → RpL K F vs ds → RpL K F (v :: vs) (d :: ds)
inductive RpK (K : PySem.W.Frag) (F : Hp) : List (Key × V) → List (D × D) → Prop
  | nil : RpK K F [] []
  | cons {k : Key} {v : V} {vs : List (Key × V)} {d : D} {ds : List (D × D)} : Rp K F v d → RpK K F vs ds → RpK K F ((k, v) :: vs) ((kD k, d) :: ds)
end
theorem sqT_same {K : PySem.W.Frag} {H H' : Hp} {a : Addr} {xs : List V} (e : Same H H') (h : SqT K H a xs) : SqT K H' a xs := by
  rcases h with (h | ⟨o, h⟩) | h
  · exact .inl (.inl (e _ _ h))
  · exact .inl (.inr ⟨o, e _ _ h⟩)
  · exact .inr h
section
variable {K : PySem.W.Frag} {F F' : Hp}
mutual
theorem Rp.mono (e : Same F F') : ∀ {v : V} {d : D}, Rp K F v d → Rp K F' v d
  | _, _, .non => .non
  | _, _, .bl b => .bl b
  | _, _, .int i => .int i
  | _, _, .str x => .str x
  | _, _, .lst h t => .lst (e _ _ h) (RpL.mono e t)
  | _, _, .tup h t => .tup (sqT_same e h) (RpL.mono e t)
  | _, _, .dct h t => .dct (e _ _ h) (RpK.mono e t)
theorem RpL.mono (e : Same F F') : ∀ {v : List V} {d : List D}, RpL K F v d → RpL K F' v d
  | _, _, .nil => .nil
  | _, _, .cons h t => .cons (Rp.mono e h) (RpL.mono e t)
theorem RpK.mono (e : Same F F') : ∀ {v : List (Key × V)} {d : List (D × D)}, RpK K F v d → RpK K F' v d
  | _, _, .nil => .nil
  | _, _, .cons h t => .cons (Rp.mono e h) (RpK.mono e t)
end
theorem RpL.length : ∀ {vs : List V} {ds : List D}, RpL K F vs ds → vs.length = ds.length
  | _, _, .nil => rfl
  | _, _, .cons _ t => by rw [List.length_cons, List.length_cons, RpL.length t]
theorem RpL.append : ∀ {vs ws : List V} {ds es : List D}, RpL K F vs ds → RpL K F ws es → RpL K F (vs ++ ws) (ds ++ es)
  | _, _, _, _, .nil, s => s
  | _, _, _, _, .cons h t, s => .cons h (RpL.append t s)
theorem RpL.get : ∀ {vs : List V} {ds : List D} {i : Nat} {d : D}, RpL K F vs ds → ds[i]? = some d → ∃ v, vs[i]? = some v ∧ Rp K F v d
  | _, _, _, _, .nil, e => by simp at e
  | _, _, 0, _, .cons h t, e => by simp at e; subst e; exact ⟨_, rfl, h⟩
  | _, _, i + 1, d, .cons _ t, e => by
    obtain ⟨v, h1, h2⟩ := RpL.get (i := i) (d := d) t (by simpa using e)
    exact ⟨v, by simpa using h1, h2⟩
theorem RpL.getV : ∀ {vs : List V} {ds : List D} {i : Nat} {v : V}, RpL K F vs ds → vs[i]? = some v → ∃ d, ds[i]? = some d ∧ Rp K F v d
  | _, _, _, _, .nil, e => by simp at e
  | _, _, 0, _, .cons h t, e => by simp at e; subst e; exact ⟨_, rfl, h⟩
  | _, _, i + 1, d, .cons _ t, e => by
    obtain ⟨v, h1, h2⟩ := RpL.getV (i := i) (v := d) t (by simpa using e)
    exact ⟨v, by simpa using h1, h2⟩
theorem RpL.set {v : V} {d : D} (r : Rp K F v d) : ∀ {vs : List V} {ds : List D} (i : Nat), RpL K F vs ds → RpL K F (vs.set i v) (ds.set i d)
  | _, _, _, .nil => .nil
  | _, _, 0, .cons _ t => .cons r t
  | _, _, i + 1, .cons h t => .cons h (RpL.set r i t)
theorem RpL.take : ∀ {vs : List V} {ds : List D} (n : Nat), RpL K F vs ds → RpL K F (vs.take n) (ds.take n)
  | _, _, 0, _ => .nil
  | _, _, _ + 1, .nil => .nil
  | _, _, n + 1, .cons r t => .cons r (RpL.take n t)
theorem RpL.drop : ∀ {vs : List V} {ds : List D} (n : Nat), RpL K F vs ds → RpL K F (vs.drop n) (ds.drop n)
  | _, _, 0, r => r
  | _, _, _ + 1, .nil => .nil
  | _, _, n + 1, .cons _ t => RpL.drop n t
theorem RpL.reverse {vs : List V} {ds : List D} (h : RpL K F vs ds) : RpL K F vs.reverse ds.reverse := by
  induction vs generalizing ds with
  | nil => cases h; exact .nil
  | cons v vs ih =>
    cases h with
    | cons r t => rw [List.reverse_cons, List.reverse_cons]; exact (ih t).append (.cons r .nil)
theorem RpL.eraseIdx : ∀ {vs : List V} {ds : List D} (i : Nat), RpL K F vs ds → RpL K F (vs.eraseIdx i) (ds.eraseIdx i)
  | _, _, _, .nil => .nil
  | _, _, 0, .cons _ t => t
  | _, _, i + 1, .cons h t => .cons h (RpL.eraseIdx i t)
theorem RpL.dropLast {vs : List V} {ds : List D} (h : RpL K F vs ds) : RpL K F vs.dropLast ds.dropLast := by
  rw [List.dropLast_eq_take, List.dropLast_eq_take, h.length]
  exact h.take _
/- data without dicts, for the library -/
mutual
def noDict : D → Bool
  | .none | .bool _ | .int _ | .str _ => true
  | .list ds => noDicts ds
  | .tuple ds => noDicts ds
  | .dict _ => false
def noDicts : List D → Bool
  | [] => true
  | d :: ds => noDict d && noDicts ds
end
mutual
theorem Rp.dp (e : Same F F') : ∀ {v : V} {d : D}, Rp K F v d → noDict d = true → Dp K F' v d
  | _, _, .non, _ => .non
  | _, _, .bl b, _ => .bl b
  | _, _, .int i, _ => .int i
  | _, _, .str x, _ => .str x
  | _, _, .lst h t, n => .lst (SqL.of (e _ _ h)) (RpL.dp e t (by simpa [noDict] using n))
  | _, _, .tup h t, n => .tup (sqT_same e h) (RpL.dp e t (by simpa [noDict] using n))
  | _, _, .dct _ _, n => by simp [noDict] at n
theorem RpL.dp (e : Same F F') : ∀ {v : List V} {d : List D}, RpL K F v d → noDicts d = true → DpAll K F' v d
  | _, _, .nil, _ => .nil
  | _, _, .cons h t, n => by
    simp only [noDicts, Bool.and_eq_true] at n
    exact .cons (Rp.dp e h n.1) (RpL.dp e t n.2)
end
mutual
theorem noDict_lay : ∀ {d : D}, d.canLay0 = true → noDict d = true
  | .none, _ => rfl
  | .bool _, _ => rfl
  | .int _, _ => rfl
  | .str _, _ => rfl
  | .list ds, h => by simp only [noDict]; exact noDicts_lay (by simpa [PyData.canLay0] using h)
  | .tuple ds, h => by simp only [noDict]; exact noDicts_lay (by simpa [PyData.canLay0] using h)
  | .dict _, h => by simp [PyData.canLay0] at h
theorem noDicts_lay : ∀ {ds : List D}, PyData.canLayAll0 ds = true → noDicts ds = true
  | [], _ => rfl
  | d :: ds, h => by
    simp only [PyData.canLayAll0, Bool.and_eq_true] at h
    simp only [noDicts, Bool.and_eq_true]
    exact ⟨noDict_lay h.1, noDicts_lay h.2⟩
end
theorem Rp.ref_list {a : Addr} {ds : List D} (h : Rp K F (.ref a) (.list ds)) : ∃ xs, F a = some (.lst xs) ∧ RpL K F xs ds := by
  cases h with | lst h t => exact ⟨_, h, t⟩
theorem Rp.list {v : V} {ds : List D} (h : Rp K F v (.list ds)) : ∃ a xs, v = .ref a ∧ F a = some (.lst xs) ∧ RpL K F xs ds := by
  cases h with | lst h t => exact ⟨_, _, rfl, h, t⟩
theorem Rp.tuple {v : V} {ds : List D} (h : Rp K F v (.tuple ds)) : ∃ a xs, v = .ref a ∧ SqT K F a xs ∧ RpL K F xs ds := by
  cases h with | tup h t => exact ⟨_, _, rfl, h, t⟩
theorem Rp.dict {v : V} {ds : List (D × D)} (h : Rp K F v (.dict ds)) : ∃ a xs, v = .ref a ∧ F a = some (.dK xs) ∧ RpK K F xs ds := by
  cases h with | dct h t => exact ⟨_, _, rfl, h, t⟩
theorem Rp.int' {v : V} {i : Int} (h : Rp K F v (.int i)) : v = .int i := by cases h; rfl
theorem Rp.bool' {v : V} {i : Bool} (h : Rp K F v (.bool i)) : v = .bl i := by cases h; rfl
theorem Rp.str' {v : V} {i : Str} (h : Rp K F v (.str i)) : v = .str i := by cases h; rfl
theorem Rp.none' {v : V} (h : Rp K F v .none) : v = .non := by cases h; rfl
theorem RpL.ints : ∀ {vs : List V} {ns : List Int}, RpL K F vs (ns.map .int) → vs = ns.map .int
  | _, [], .nil => rfl
  | _, n :: ns, .cons h t => by rw [h.int', RpL.ints t]; rfl
theorem RpL.of_ints : ∀ (ns : List Int), RpL K F (ns.map .int) (ns.map .int)
  | [] => .nil
  | n :: ns => .cons (.int n) (RpL.of_ints ns)
theorem RpL.bools : ∀ {vs : List V} {ns : List Bool}, RpL K F vs (ns.map .bool) → vs = ns.map .bl
  | _, [], .nil => rfl
  | _, n :: ns, .cons h t => by rw [h.bool', RpL.bools t]; rfl
theorem RpL.strs : ∀ {vs : List V} {ns : List Str}, RpL K F vs (ns.map .str) → vs = ns.map .str
  | _, [], .nil => rfl
  | _, n :: ns, .cons h t => by rw [h.str', RpL.strs t]; rfl
end
/-- what a slot holds: a value that never changes any more (val); a list of one's own; a dict of one's own; the script -/
inductive Md where
  | val | lst (m : Md) | dct | scr | zip (n : Nat)
  deriving DecidableEq
def Md.own : Md → Bool
  | .val => false
  | _ => true
inductive OwA (P : V → D → List Addr → Prop) : List V → List D → List Addr → Prop
  | nil : OwA P [] [] []
  | cons {v : V} {d : D} {fp : List Addr} {vs : List V} {ds : List D} {fps : List Addr} : P v d fp → OwA P vs ds fps → OwA P (v :: vs) (d :: ds) (fp ++ fps)
/-- a zip object that waits -/
def zipTrk (H : Hp) (z TI TO i1 i2 a b : Addr) : Prop :=
  H z = some (.ext fun h => IsZip h z TI TO .none) ∧ H TI = some (.ext fun h => IsPair h TI (.ref i1) (.ref i2)) ∧ H TO = some (.ext fun h => IsPair h TO .none .none) ∧ H i1 = some (.ext fun h => h.IsListIter i1 a 0) ∧ H i2 = some (.ext fun h => h.IsListIter i2 b 0)
def Ow (K : PySem.W.Frag) (F H : Hp) : Md → V → D → List Addr → Prop
  | .val, v, d, fp => Rp K F v d ∧ fp = []
  | .scr, v, d, fp => (∃ (a : Addr) (ns : List Int), v = .ref a ∧ SqL K F a (ns.map V.int) ∧ d = .list (ns.map .int)) ∧ fp = []
  | .lst m, v, d, fp => ∃ a xs ds fps, v = .ref a ∧ d = .list ds ∧ H a = some (.lst xs) ∧ OwA (Ow K F H m) xs ds fps ∧ fp = a :: fps
  | .dct, v, d, fp => ∃ a xs ds, v = .ref a ∧ d = .dict ds ∧ H a = some (.dK xs) ∧ RpK K F xs ds ∧ fp = [a]
  | .zip n, v, d, fp => ∃ (z TI TO i1 i2 a b : Addr) (xs ys : List V) (ds es : List D), v = .ref z ∧ d = .tuple [.list ds, .list es] ∧ zipTrk H z TI TO i1 i2 a b ∧ ZipApart z TI TO i1 i2 a b ∧ (n ≤ z ∧ n ≤ TI ∧ n ≤ TO ∧ n ≤ i1 ∧ n ≤ i2) ∧
      F a = some (.lst xs) ∧ F b = some (.lst ys) ∧ RpL K F xs ds ∧ RpL K F ys es ∧ fp = [z, TI, TO, i1, i2]
theorem OwA.imp {P P' : V → D → List Addr → Prop} : ∀ {vs : List V} {ds : List D} {fp : List Addr}, OwA P vs ds fp → (∀ v d q, (∀ a ∈ q, a ∈ fp) → P v d q → P' v d q) → OwA P' vs ds fp
  | _, _, _, .nil, _ => .nil
  | _, _, _, .cons h t, f => .cons (f _ _ _ (fun _ ha => List.mem_append_left _ ha) h) (OwA.imp t fun v d q hq => f v d q fun a ha => List.mem_append_right _ (hq a ha))
section
variable {K : PySem.W.Frag} {F F' H H' : Hp}
theorem Ow.keep (e : Same F F') : ∀ {m : Md} {v : V} {d : D} {fp : List Addr}, Ow K F H m v d fp → (∀ a ∈ fp, H' a = H a) → Ow K F' H' m v d fp
  | .val, _, _, _, ⟨h, q⟩, _ => ⟨h.mono e, q⟩
  | .scr, _, _, _, ⟨⟨a, ns, h1, h2, h3⟩, q⟩, _ => ⟨⟨a, ns, h1, Same.seq e h2, h3⟩, q⟩
  | .lst m, _, _, _, ⟨a, xs, ds, fps, h1, h2, h3, h4, h5⟩, k => by
    subst h5
    exact ⟨a, xs, ds, fps, h1, h2, (k a List.mem_cons_self).trans h3, h4.imp fun v d q hq h => Ow.keep e h fun b hb => k b (List.mem_cons_of_mem _ (hq b hb)), rfl⟩
  | .dct, _, _, _, ⟨a, xs, ds, h1, h2, h3, h4, h5⟩, k => by
    subst h5
    exact ⟨a, xs, ds, h1, h2, (k a List.mem_cons_self).trans h3, h4.mono e, rfl⟩
  | .zip n, _, _, _, ⟨z, TI, TO, i1, i2, a, b, xs, ys, ds, es, h1, h2, ⟨t1, t2, t3, t4, t5⟩, h4, h5, h6, h7, h8, h9, h10⟩, k => by
    subst h10
    exact ⟨z, TI, TO, i1, i2, a, b, xs, ys, ds, es, h1, h2, ⟨(k z (by simp)).trans t1, (k TI (by simp)).trans t2, (k TO (by simp)).trans t3, (k i1 (by simp)).trans t4, (k i2 (by simp)).trans t5⟩, h4, h5, e _ _ h6, e _ _ h7, h8.mono e, h9.mono e, rfl⟩
theorem OwA.live {P : V → D → List Addr → Prop} (hP : ∀ v d q, P v d q → ∀ a ∈ q, H a ≠ none) : ∀ {vs : List V} {ds : List D} {fp : List Addr}, OwA P vs ds fp → ∀ a ∈ fp, H a ≠ none
  | _, _, _, .nil, _, h => by simp at h
  | _, _, _, .cons p t, a, h => by
    rcases List.mem_append.mp h with h | h
    · exact hP _ _ _ p a h
    · exact OwA.live hP t a h
theorem Ow.live : ∀ {m : Md} {v : V} {d : D} {fp : List Addr}, Ow K F H m v d fp → ∀ a ∈ fp, H a ≠ none
  | .val, _, _, _, ⟨_, q⟩, a, h => by subst q; simp at h
  | .scr, _, _, _, ⟨_, q⟩, a, h => by subst q; simp at h
  | .lst m, _, _, _, ⟨b, xs, ds, fps, h1, h2, h3, h4, h5⟩, a, h => by
    subst h5
    rcases List.mem_cons.mp h with h | h
    · subst h; rw [h3]; simp
    · exact OwA.live (fun v d q p => Ow.live p) h4 a h
  | .dct, _, _, _, ⟨b, xs, ds, h1, h2, h3, h4, h5⟩, a, h => by
    subst h5
    have e : a = b := by simpa using h
    subst e; rw [h3]; simp
  | .zip n, _, _, _, ⟨z, TI, TO, i1, i2, a, b, xs, ys, ds, es, h1, h2, ⟨t1, t2, t3, t4, t5⟩, h4, h5, h6, h7, h8, h9, h10⟩, c, h => by
    subst h10
    simp only [List.mem_cons, List.not_mem_nil, or_false] at h
    rcases h with e | e | e | e | e
    · subst e; rw [t1]; simp
    · subst e; rw [t2]; simp
    · subst e; rw [t3]; simp
    · subst e; rw [t4]; simp
    · subst e; rw [t5]; simp
/-- what was one's own becomes frozen -/
def frz (F H : Hp) (s : List Addr) : Hp := fun a => if a ∈ s then H a else F a
theorem frz_sub {s : List Addr} (e : Same F H) : Same (frz F H s) H := fun a o h => by
  unfold frz at h
  split at h
  · exact h
  · exact e a o h
theorem frz_ext {s : List Addr} (n : ∀ a ∈ s, F a = none) : Same F (frz F H s) := fun a o h => by
  unfold frz
  split
  · rename_i hs; rw [n a hs] at h; cases h
  · exact h
theorem OwA.rp {P : V → D → List Addr → Prop} (hP : ∀ v d q, (∀ a ∈ q, H' a = H a) → P v d q → Rp K H' v d) : ∀ {vs : List V} {ds : List D} {fp : List Addr}, OwA P vs ds fp → (∀ a ∈ fp, H' a = H a) → RpL K H' vs ds
  | _, _, _, .nil, _ => .nil
  | _, _, _, .cons p t, h => .cons (hP _ _ _ (fun a ha => h a (List.mem_append_left _ ha)) p) (OwA.rp hP t fun a ha => h a (List.mem_append_right _ ha))
def Md.fz : Md → Bool
  | .scr => false
  | .zip _ => false
  | .lst m => m.fz
  | _ => true
theorem Ow.rp (e : Same F F') : ∀ {m : Md} {v : V} {d : D} {fp : List Addr}, Ow K F H m v d fp → (∀ a ∈ fp, F' a = H a) → m.fz = true → Rp K F' v d
  | .val, _, _, _, ⟨h, _⟩, _, _ => h.mono e
  | .scr, _, _, _, _, _, z => by simp [Md.fz] at z
  | .zip _, _, _, _, _, _, z => by simp [Md.fz] at z
  | .lst m, _, _, _, ⟨a, xs, ds, fps, h1, h2, h3, h4, h5⟩, k, z => by
    subst h1 h2 h5
    refine .lst ((k a List.mem_cons_self).trans h3) ?_
    exact OwA.rp (P := Ow K F H m) (H := H) (fun v d q hq h => Ow.rp (m := m) e h hq z) h4 fun b hb => k b (List.mem_cons_of_mem _ hb)
  | .dct, _, _, _, ⟨a, xs, ds, h1, h2, h3, h4, h5⟩, k, _ => by
    subst h1 h2 h5
    exact .dct ((k a List.mem_cons_self).trans h3) (h4.mono e)
end
/-! ## states -/
abbrev Fp := Nat → List Addr
structure StR (K : PySem.W.Frag) (Γ : List Md) (ρ : En) (σ : Sl) (F H : Hp) (fp : Fp) : Prop where
  sub : Same F H
  len : ρ.length = σ.length
  lenG : Γ.length = σ.length
  slot : ∀ i d, ρ[i]? = some (some d) → ∃ v, σ[i]? = some (some v) ∧ Ow K F H (Γ.getD i .val) v d (fp i)
  emp : ∀ i, (∀ d, ρ[i]? ≠ some (some d)) → fp i = []
  nd : ∀ i, (fp i).Nodup
  dis : ∀ i j a, a ∈ fp i → a ∈ fp j → i = j
  fr : ∀ i a, a ∈ fp i → F a = none
structure Step (F H : Hp) (fp : Fp) (F' H' : Hp) (fp' : Fp) : Prop where
  ff : Same F F'
  hh : ∀ a o, H a = some o → (∀ i, a ∉ fp i) → H' a = some o
  live : ∀ a, H a ≠ none → H' a ≠ none ∨ ∃ i, a ∈ fp i
  new : ∀ a, F' a ≠ none → F a ≠ none ∨ H a = none ∨ ∃ i, a ∈ fp i
  nfp : ∀ i a, a ∈ fp' i → H a = none ∨ ∃ j, a ∈ fp j
structure Alloc (F H F' H' : Hp) : Prop where
  ff : Same F F'
  hh : Same H H'
  sub : Same F' H'
  new : ∀ a, F' a ≠ none → F a ≠ none ∨ H a = none
section
variable {K : PySem.W.Frag} {Γ : List Md} {ρ : En} {σ : Sl} {F H F' H' F'' H'' : Hp} {fp fp' fp'' : Fp}
theorem StR.live (S : StR K Γ ρ σ F H fp) {i : Nat} {a : Addr} (h : a ∈ fp i) : H a ≠ none := by
  by_cases e : ∃ d, ρ[i]? = some (some d)
  · obtain ⟨d, e⟩ := e
    obtain ⟨v, _, o⟩ := S.slot i d e
    exact o.live a h
  · rw [S.emp i fun d q => e ⟨d, q⟩] at h; simp at h
theorem Step.refl (F H : Hp) (fp : Fp) : Step F H fp F H fp := ⟨Same.refl _, fun _ _ h _ => h, fun _ h => .inl h, fun _ h => .inl h, fun i a h => .inr ⟨i, h⟩⟩
theorem Step.dead (s : Step F H fp F' H' fp') {a : Addr} (h : H' a = none) : H a = none ∨ ∃ i, a ∈ fp i := by
  cases q : H a with
  | none => exact .inl rfl
  | some o =>
    rcases s.live a (by rw [q]; simp) with z | z
    · exact absurd h z
    · exact .inr z
theorem Step.trans (s : Step F H fp F' H' fp') (t : Step F' H' fp' F'' H'' fp'') : Step F H fp F'' H'' fp'' where
  ff := s.ff.trans t.ff
  hh := fun a o h n => t.hh a o (s.hh a o h n) fun i hi => by
    rcases s.nfp i a hi with z | ⟨j, z⟩
    · rw [z] at h; cases h
    · exact n j z
  live := fun a h => by
    rcases s.live a h with z | z
    · rcases t.live a z with w | ⟨i, w⟩
      · exact .inl w
      · rcases s.nfp i a w with y | y
        · exact absurd y h
        · exact .inr y
    · exact .inr z
  new := fun a h => by
    rcases t.new a h with z | z | ⟨i, z⟩
    · exact s.new a z
    · exact .inr (s.dead z)
    · rcases s.nfp i a z with z | z
      · exact .inr (.inl z)
      · exact .inr (.inr z)
  nfp := fun i a h => by
    rcases t.nfp i a h with z | ⟨j, z⟩
    · exact s.dead z
    · exact s.nfp j a z
theorem Alloc.refl (e : Same F H) : Alloc F H F H := ⟨Same.refl _, Same.refl _, e, fun _ h => .inl h⟩
theorem Alloc.trans (s : Alloc F H F' H') (t : Alloc F' H' F'' H'') : Alloc F H F'' H'' where
  ff := s.ff.trans t.ff
  hh := s.hh.trans t.hh
  sub := t.sub
  new := fun a h => by
    rcases t.new a h with z | z
    · exact s.new a z
    · refine .inr ?_
      exact s.hh.free z
theorem Alloc.step (s : Alloc F H F' H') : Step F H fp F' H' fp where
  ff := s.ff
  hh := fun a o h _ => s.hh a o h
  live := fun a h => by
    cases q : H a with
    | none => exact absurd q h
    | some o => exact .inl (by rw [s.hh a o q]; simp)
  new := fun a h => (s.new a h).elim .inl fun z => .inr (.inl z)
  nfp := fun i a h => .inr ⟨i, h⟩
/-- an object is laid, frozen at once -/
theorem Alloc.new1 {p : Addr} {o : HO} (e : Same F H) (hp : H p = none) : Alloc F H (upd F p o) (upd H p o) where
  ff := fun a u h => by rw [upd_ne (ne_of_none (e a u h) hp)]; exact h
  hh := fun a u h => by rw [upd_ne (ne_of_none h hp)]; exact h
  sub := fun a u h => by
    by_cases q : a = p
    · subst q; rw [upd_same] at h ⊢; exact h
    · rw [upd_ne q] at h ⊢; exact e a u h
  new := fun a h => by
    by_cases q : a = p
    · subst q; exact .inr hp
    · rw [upd_ne q] at h; exact .inl h
/-- the state stays where all its own stays -/
theorem StR.stay (S : StR K Γ ρ σ F H fp) (ff : Same F F') (sub : Same F' H') (own : ∀ i a, a ∈ fp i → H' a = H a) (fr : ∀ i a, a ∈ fp i → F' a = none) : StR K Γ ρ σ F' H' fp :=
  ⟨sub, S.len, S.lenG, fun i d e => let ⟨v, h1, h2⟩ := S.slot i d e; ⟨v, h1, h2.keep ff fun a ha => own i a ha⟩, S.emp, S.nd, S.dis, fr⟩
theorem StR.alloc (S : StR K Γ ρ σ F H fp) (A : Alloc F H F' H') : StR K Γ ρ σ F' H' fp :=
  S.stay A.ff A.sub (fun i a h => by
    cases q : H a with
    | none => exact absurd q (S.live h)
    | some o => exact A.hh a o q) fun i a h => by
      cases q : F' a with
      | none => rfl
      | some o =>
        rcases A.new a (by rw [q]; simp) with z | z
        · exact absurd (S.fr i a h) z
        · exact absurd z (S.live h)
/-- a slot is set -/
def fpSet (fp : Fp) (i : Nat) (q : List Addr) : Fp := fun j => if j = i then q else fp j
theorem fpSet_same {i : Nat} {q : List Addr} : fpSet fp i q i = q := by unfold fpSet; rw [if_pos rfl]
theorem fpSet_ne {i j : Nat} {q : List Addr} (h : j ≠ i) : fpSet fp i q j = fp j := by unfold fpSet; rw [if_neg h]
theorem StR.set {i : Nat} {m : Md} {v : V} {d : D} {q : List Addr} (S : StR K Γ ρ σ F H fp) (hi : i < σ.length) (o : Ow K F H m v d q) (nd : q.Nodup) (fr : ∀ a ∈ q, F a = none) (dis : ∀ j a, j ≠ i → a ∈ q → a ∉ fp j) :
    StR K (Γ.set i m) (ρ.set i (some d)) (σ.set i (some v)) F H (fpSet fp i q) where
  sub := S.sub
  len := by simp [S.len]
  lenG := by simp [S.lenG]
  slot := fun j e h => by
    by_cases hj : j = i
    · subst hj
      rw [List.getElem?_set_self (by rw [S.len]; exact hi)] at h
      cases h
      refine ⟨v, by rw [List.getElem?_set_self hi], ?_⟩
      rw [fpSet_same, List.getD_eq_getElem?_getD, List.getElem?_set_self (by rw [S.lenG]; exact hi)]
      exact o
    · rw [List.getElem?_set_ne (Ne.symm hj)] at h
      obtain ⟨w, h1, h2⟩ := S.slot j e h
      refine ⟨w, by rw [List.getElem?_set_ne (Ne.symm hj)]; exact h1, ?_⟩
      rw [fpSet_ne hj, List.getD_eq_getElem?_getD, List.getElem?_set_ne (Ne.symm hj), ← List.getD_eq_getElem?_getD]
      exact h2
  emp := fun j h => by
    by_cases hj : j = i
    · subst hj
      exact absurd (by rw [List.getElem?_set_self (by rw [S.len]; exact hi)]) (h d)
    · rw [fpSet_ne hj]
      exact S.emp j fun e q => h e (by rw [List.getElem?_set_ne (Ne.symm hj)]; exact q)
  nd := fun j => by
    by_cases hj : j = i
    · subst hj; rw [fpSet_same]; exact nd
    · rw [fpSet_ne hj]; exact S.nd j
  dis := fun j k a h1 h2 => by
    by_cases hj : j = i
    · by_cases hk : k = i
      · rw [hj, hk]
      · subst hj
        rw [fpSet_same] at h1
        rw [fpSet_ne hk] at h2
        exact absurd h2 (dis k a hk h1)
    · by_cases hk : k = i
      · subst hk
        rw [fpSet_same] at h2
        rw [fpSet_ne hj] at h1
        exact absurd h1 (dis j a hj h2)
      · rw [fpSet_ne hj] at h1
        rw [fpSet_ne hk] at h2
        exact S.dis j k a h1 h2
  fr := fun j a h => by
    by_cases hj : j = i
    · subst hj; rw [fpSet_same] at h; exact fr a h
    · rw [fpSet_ne hj] at h; exact S.fr j a h
theorem StR.setV {i : Nat} {v : V} {d : D} (S : StR K Γ ρ σ F H fp) (hi : i < σ.length) (o : Rp K F v d) :
    StR K (Γ.set i .val) (ρ.set i (some d)) (σ.set i (some v)) F H (fpSet fp i []) :=
  S.set (m := .val) hi ⟨o, rfl⟩ List.nodup_nil (fun _ h => by simp at h) fun _ _ _ h => by simp at h
theorem step_set {i : Nat} {q : List Addr} (h : ∀ a ∈ q, H a = none ∨ ∃ j, a ∈ fp j) : Step F H fp F H (fpSet fp i q) :=
  ⟨Same.refl _, fun _ _ h _ => h, fun _ h => .inl h, fun _ h => .inl h, fun j a z => by
    by_cases hj : j = i
    · subst hj; rw [fpSet_same] at z; exact h a z
    · rw [fpSet_ne hj] at z; exact .inr ⟨j, z⟩⟩
/-- a slot is forgotten -/
theorem StR.drop {i : Nat} (S : StR K Γ ρ σ F H fp) : StR K Γ (ρ.set i none) σ F H (fpSet fp i []) where
  sub := S.sub
  len := by simp [S.len]
  lenG := S.lenG
  slot := fun j e h => by
    by_cases hj : j = i
    · subst hj
      by_cases hl : j < ρ.length
      · rw [List.getElem?_set_self hl] at h; cases h
      · rw [List.getElem?_eq_none (by simpa using hl)] at h; cases h
    · rw [List.getElem?_set_ne (Ne.symm hj)] at h
      rw [fpSet_ne hj]
      exact S.slot j e h
  emp := fun j h => by
    by_cases hj : j = i
    · subst hj; rw [fpSet_same]
    · rw [fpSet_ne hj]
      exact S.emp j fun e q => h e (by rw [List.getElem?_set_ne (Ne.symm hj)]; exact q)
  nd := fun j => by
    by_cases hj : j = i
    · subst hj; rw [fpSet_same]; exact List.nodup_nil
    · rw [fpSet_ne hj]; exact S.nd j
  dis := fun j k a h1 h2 => by
    by_cases hj : j = i
    · subst hj; rw [fpSet_same] at h1; simp at h1
    · by_cases hk : k = i
      · subst hk; rw [fpSet_same] at h2; simp at h2
      · rw [fpSet_ne hj] at h1
        rw [fpSet_ne hk] at h2
        exact S.dis j k a h1 h2
  fr := fun j a h => by
    by_cases hj : j = i
    · subst hj; rw [fpSet_same] at h; simp at h
    · rw [fpSet_ne hj] at h; exact S.fr j a h
end
end BV

set_option Elab.async false
set_option linter.all false
set_option maxRecDepth 100000
set_option maxHeartbeats 4000000
namespace BV
open PySem PySem.Spec L2
/-! ## judgements -/
abbrev FE := En → Option (D × En)
abbrev FT := En → Option (Bool × En)
abbrev FL := En → Option (List D × En)
abbrev FA := En → Option (List (Option D) × En)
section
variable (K : PySem.W.Frag) (Γ : List Md)
def tV (f : FE) : TE := fun σ H Q => ∃ ρ F fp d ρ', StR K Γ ρ σ F H fp ∧ f ρ = some (d, ρ') ∧ ∀ v H' F' fp', Step F H fp F' H' fp' → StR K Γ ρ' σ F' H' fp' → Rp K F' v d → Q v H'
def tB (f : FT) : TT := fun σ H Q => ∃ ρ F fp d ρ', StR K Γ ρ σ F H fp ∧ f ρ = some (d, ρ') ∧ ∀ H' F' fp', Step F H fp F' H' fp' → StR K Γ ρ' σ F' H' fp' → Q d H'
def tL (f : FL) : TA := fun σ H Q => ∃ ρ F fp d ρ', StR K Γ ρ σ F H fp ∧ f ρ = some (d, ρ') ∧ ∀ v H' F' fp', Step F H fp F' H' fp' → StR K Γ ρ' σ F' H' fp' → RpL K F' v d → Q v H'
/-- one's own, new -/
structure Own1 (K : PySem.W.Frag) (m : Md) (F H : Hp) (fp : Fp) (F' H' : Hp) (fp' : Fp) (v : V) (d : D) (q : List Addr) : Prop where
  ow : Ow K F' H' m v d q
  nd : q.Nodup
  fr : ∀ a ∈ q, F' a = none
  dis : ∀ a ∈ q, ∀ i, a ∉ fp' i
  new : ∀ a ∈ q, H a = none ∨ ∃ j, a ∈ fp j
def tO (m : Md) (f : FE) : TE := fun σ H Q => ∃ ρ F fp d ρ', StR K Γ ρ σ F H fp ∧ f ρ = some (d, ρ') ∧ ∀ v H' F' fp' q, Step F H fp F' H' fp' → StR K Γ ρ' σ F' H' fp' → Own1 K m F H fp F' H' fp' v d q → Q v H'
inductive ArgR (F : Hp) (σ : Sl) (x : Nat) : List V → List (Option D) → Prop
  | nil : ArgR F σ x [] []
  | val {v : V} {d : D} {vs : List V} {ods : List (Option D)} : Rp K F v d → ArgR F σ x vs ods → ArgR F σ x (v :: vs) (some d :: ods)
  | io {v : V} {vs : List V} {ods : List (Option D)} : σ[x]? = some (some v) → ArgR F σ x vs ods → ArgR F σ x (v :: vs) (none :: ods)
def tAr (x : Nat) (f : FA) : TA := fun σ H Q => ∃ ρ F fp d ρ', StR K Γ ρ σ F H fp ∧ f ρ = some (d, ρ') ∧ ∀ v H' F' fp', Step F H fp F' H' fp' → StR K Γ ρ' σ F' H' fp' → ArgR K F' σ x v d → Q v H'
end
abbrev BE (X : Cx) (Γ : List Md) (e : Expr) (f : FE) : Prop := PE X e (tV X.K Γ f)
abbrev BO (X : Cx) (Γ : List Md) (m : Md) (e : Expr) (f : FE) : Prop := PE X e (tO X.K Γ m f)
abbrev BT (X : Cx) (Γ : List Md) (e : Expr) (f : FT) : Prop := PT X e (tB X.K Γ f)
abbrev BW (X : Cx) (Γ : List Md) (e : Expr) (f : FT) : Prop := PW X e (tB X.K Γ f)
abbrev BL (X : Cx) (Γ : List Md) (es : List Expr) (f : FL) : Prop := PA X es (tL X.K Γ f)
abbrev BA (X : Cx) (Γ : List Md) (x : Nat) (es : List Expr) (f : FA) : Prop := PA X es (tAr X.K Γ x f)
theorem weakE {X : Cx} {e : Expr} {t t' : TE} (h : PE X e t) (w : ∀ σ H Q, t' σ H Q → t σ H Q) : PE X e t' := ⟨fun pins s σ H Q I q => h.run pins s σ H Q I (w σ H Q q)⟩
theorem weakT {X : Cx} {e : Expr} {t t' : TT} (h : PT X e t) (w : ∀ σ H Q, t' σ H Q → t σ H Q) : PT X e t' := ⟨fun pins s σ H Q I q => h.run pins s σ H Q I (w σ H Q q)⟩
theorem weakW {X : Cx} {e : Expr} {t t' : TT} (h : PW X e t) (w : ∀ σ H Q, t' σ H Q → t σ H Q) : PW X e t' := ⟨fun wh pins s σ H Q I q => h.run wh pins s σ H Q I (w σ H Q q)⟩
theorem weakA {X : Cx} {e : List Expr} {t t' : TA} (h : PA X e t) (w : ∀ σ H Q, t' σ H Q → t σ H Q) : PA X e t' := ⟨fun pos pins s σ H Q I q => h.run pos pins s σ H Q I (w σ H Q q)⟩
theorem weakS {X : Cx} {e : Stmt} {t t' : TS} (h : PS X e t) (w : ∀ D σ H, t' D σ H → t D σ H) : PS X e t' := ⟨fun pins s σ H D I q => h.run pins s σ H D I (w D σ H q)⟩
theorem weakSs {X : Cx} {e : List Stmt} {t t' : TS} (h : PSs X e t) (w : ∀ D σ H, t' D σ H → t D σ H) : PSs X e t' := ⟨fun pins s σ H D I q => h.run pins s σ H D I (w D σ H q)⟩
theorem frzStep {K : PySem.W.Frag} {Γ : List Md} {ρ : En} {σ : Sl} {F H F' H' : Hp} {fp fp' : Fp} {m : Md} {v : V} {d : D} {q : List Addr} (s : Step F H fp F' H' fp') (S : StR K Γ ρ σ F' H' fp') (o : Own1 K m F H fp F' H' fp' v d q) (z : m.fz = true) :
    Step F H fp (frz F' H' q) H' fp' ∧ StR K Γ ρ σ (frz F' H' q) H' fp' ∧ Rp K (frz F' H' q) v d := by
  have fx : Same F' (frz F' H' q) := frz_ext o.fr
  refine ⟨⟨s.ff.trans fx, s.hh, s.live, fun a h => ?_, s.nfp⟩, S.stay fx (frz_sub S.sub) (fun _ _ _ => rfl) (fun i a h => ?_), o.ow.rp fx (fun a ha => by unfold frz; rw [if_pos ha]) z⟩
  · by_cases ha : a ∈ q
    · exact .inr (o.new a ha)
    · unfold frz at h
      rw [if_neg ha] at h
      exact s.new a h
  · unfold frz
    rw [if_neg (fun ha => o.dis a ha i h)]
    exact S.fr i a h
/-- frozen -/
theorem be_frz {X : Cx} {Γ : List Md} {m : Md} {e : Expr} {f : FE} (h : BO X Γ m e f) (z : m.fz = true := by rfl) : BE X Γ e f := weakE h fun σ H Q ⟨ρ, F, fp, d, ρ', S, hf, q⟩ =>
  ⟨ρ, F, fp, d, ρ', S, hf, fun v H' F' fp' p s S' o => by
    obtain ⟨s1, S1, r1⟩ := frzStep s S' o z
    exact q v H' _ fp' s1 S1 r1⟩
section
variable {X : Cx} {Γ : List Md} {pos : Pos}
/-! ### names, constants -/
def varE (i : Nat) : FE := fun ρ => match ρ[i]? with
  | some (some d) => some (d, ρ)
  | _ => none
theorem varE_eq {i : Nat} {ρ ρ' : En} {d : D} (h : varE i ρ = some (d, ρ')) : ρ[i]? = some (some d) ∧ ρ' = ρ := by
  unfold varE at h
  split at h
  · rename_i e; cases h; exact ⟨e, rfl⟩
  · cases h
theorem be_var (i : Nat) {x : Str} (hm : Γ.getD i .val = .val := by rfl) (hN : X.N[i]? = some x := by rfl) (hv : Vis X.env.scope x := by first | exact Or.inl rfl | exact Or.inr (Or.inl rfl) | exact Or.inr (Or.inr rfl)) (hd : (x == ("__debug__" : Str)) = false := by decide)
    (hcd : (x == ("__classdict__" : Str)) = false := by decide) : BE X Γ (.Name x pos) (varE i) := weakE (pe_var hN hv hd hcd) fun σ H Q ⟨ρ, F, fp, d, ρ', S, hf, q⟩ => by
  obtain ⟨e, rfl⟩ := varE_eq hf
  obtain ⟨v, h1, h2⟩ := S.slot i d e
  rw [hm] at h2
  exact ⟨v, h1, q v H F fp (Step.refl _ _ _) S h2.1⟩
def cE (d : D) : FE := fun ρ => some (d, ρ)
theorem be_c {e : Expr} {v : V} {d : D} (h : PE X e (tC v)) (r : ∀ F, Rp X.K F v d) : BE X Γ e (cE d) := weakE h fun σ H Q ⟨ρ, F, fp, d', ρ', S, hf, q⟩ => by
  cases hf
  exact q v H F fp (Step.refl _ _ _) S (r F)
theorem be_int {i : Int} {j} : BE X Γ (.Constant (.int i) j pos) (cE (.int i)) := be_c pe_int fun _ => .int i
theorem be_bl {i : Bool} {j} : BE X Γ (.Constant (.bool i) j pos) (cE (.bool i)) := be_c pe_bl fun _ => .bl i
theorem be_str {i : Str} {j} : BE X Γ (.Constant (.str i) j pos) (cE (.str i)) := be_c pe_str fun _ => .str i
theorem be_non {j} : BE X Γ (.Constant .none j pos) (cE .none) := be_c pe_non fun _ => .non
/-! ### operators by values -/
def DOp (K : PySem.W.Frag) (r : R2) (o : D → D → Option D) : Prop := ∀ (F H : Hp) (x y : V) (dx dy d : D) (Q : VK), Same F H → Rp K F x dx → Rp K F y dy → o dx dy = some d → (∀ v H' F', Alloc F H F' H' → Rp K F' v d → Q v H') → r x y H Q
def DUn (K : PySem.W.Frag) (r : V → Hp → VK → Prop) (o : D → Option D) : Prop := ∀ (F H : Hp) (x : V) (dx d : D) (Q : VK), Same F H → Rp K F x dx → o dx = some d → (∀ v H' F', Alloc F H F' H' → Rp K F' v d → Q v H') → r x H Q
def DCall (K : PySem.W.Frag) (r : List V → Hp → VK → Prop) (o : List D → Option D) : Prop := ∀ (F H : Hp) (x : List V) (dx : List D) (d : D) (Q : VK), Same F H → RpL K F x dx → o dx = some d → (∀ v H' F', Alloc F H F' H' → Rp K F' v d → Q v H') → r x H Q
theorem DOp.or {K : PySem.W.Frag} {r r' : R2} {o o' : D → D → Option D} (h : DOp K r o) (h' : DOp K r' o') : DOp K (fun x y H Q => r x y H Q ∨ r' x y H Q) (fun a b => (o a b).or (o' a b)) := fun F H x y dx dy d Q e rx ry ho q => by
  have ho : (o dx dy).or (o' dx dy) = some d := ho
  cases hx : o dx dy with
  | some z =>
    rw [hx] at ho
    cases ho
    exact .inl (h F H x y dx dy _ Q e rx ry hx q)
  | none =>
    rw [hx] at ho
    exact .inr (h' F H x y dx dy d Q e rx ry ho q)
theorem DCall.or {K : PySem.W.Frag} {r r' : List V → Hp → VK → Prop} {o o' : List D → Option D} (h : DCall K r o) (h' : DCall K r' o') : DCall K (fun x H Q => r x H Q ∨ r' x H Q) (fun a => (o a).or (o' a)) := fun F H x dx d Q e rx ho q => by
  have ho : (o dx).or (o' dx) = some d := ho
  cases hx : o dx with
  | some z =>
    rw [hx] at ho
    cases ho
    exact .inl (h F H x dx _ Q e rx hx q)
  | none =>
    rw [hx] at ho
    exact .inr (h' F H x dx d Q e rx ho q)
def opE (o : D → D → Option D) (fa fb : FE) : FE := fun ρ => match fa ρ with
  | none => none
  | some (x, ρ1) => match fb ρ1 with
    | none => none
    | some (y, ρ2) => match o x y with
      | none => none
      | some d => some (d, ρ2)
theorem opE_eq {o : D → D → Option D} {fa fb : FE} {ρ ρ' : En} {d : D} (h : opE o fa fb ρ = some (d, ρ')) : ∃ x ρ1 y, fa ρ = some (x, ρ1) ∧ fb ρ1 = some (y, ρ') ∧ o x y = some d := by
  unfold opE at h
  split at h
  · cases h
  · rename_i x ρ1 h1
    split at h
    · cases h
    · rename_i y ρ2 h2
      split at h
      · cases h
      · rename_i z h3
        cases h
        exact ⟨_, _, _, h1, h2, h3⟩
theorem tOp_of {K : PySem.W.Frag} {r : R2} {o : D → D → Option D} {fa fb : FE} (hd : DOp K r o) : ∀ σ H Q, tV K Γ (opE o fa fb) σ H Q → tOp r (tV K Γ fa) (tV K Γ fb) σ H Q := fun σ H Q ⟨ρ, F, fp, d, ρ', S, hf, q⟩ => by
  obtain ⟨x, ρ1, y, h1, h2, h3⟩ := opE_eq hf
  refine ⟨ρ, F, fp, x, ρ1, S, h1, fun v H1 F1 fp1 s1 S1 r1 => ⟨ρ1, F1, fp1, y, ρ', S1, h2, fun u H2 F2 fp2 s2 S2 r2 => ?_⟩⟩
  refine hd F2 H2 v u x y d Q S2.sub (r1.mono s2.ff) r2 h3 fun w H3 F3 A r3 => ?_
  exact q w H3 F3 fp2 ((s1.trans s2).trans A.step) (S2.alloc A) r3
theorem be_op {op : Operator} {r : R2} {o : D → D → Option D} {a b : Expr} {fa fb : FE} (ho : OpR X (binaryOp op) r) (hd : DOp X.K r o) (ha : BE X Γ a fa) (hb : BE X Γ b fb) : BE X Γ (.BinOp a op b pos) (opE o fa fb) := weakE (pe_op ho ha hb) (tOp_of hd)
theorem be_cmp {op : CmpOp} {r : R2} {o : D → D → Option D} {a b : Expr} {fa fb : FE} (ho : OpR X (compareOp op) r) (hd : DOp X.K r o) (ha : BE X Γ a fa) (hb : BE X Γ b fb) (hm : behindInMarks op b = false := by first | exact nomark _ | rfl) : BE X Γ (.Compare a [op] [b] pos) (opE o fa fb) := weakE (pe_cmpR ho ha hb hm) (tOp_of hd)
theorem be_ix {r : R2} {o : D → D → Option D} {a b : Expr} {fa fb : FE} (ho : IxR X r) (hd : DOp X.K r o) (ha : BE X Γ a fa) (hb : BE X Γ b fb) (hs : PlainIx b := by exact fun _ _ => rfl) : BE X Γ (.Subscript a b pos) (opE o fa fb) := weakE (pe_ix ho ha hb hs) (tOp_of hd)
def unE (o : D → Option D) (fa : FE) : FE := fun ρ => match fa ρ with
  | none => none
  | some (x, ρ1) => match o x with
    | none => none
    | some d => some (d, ρ1)
theorem unE_eq {o : D → Option D} {fa : FE} {ρ ρ' : En} {d : D} (h : unE o fa ρ = some (d, ρ')) : ∃ x, fa ρ = some (x, ρ') ∧ o x = some d := by
  unfold unE at h
  split at h
  · cases h
  · rename_i x ρ1 h1
    split at h
    · cases h
    · rename_i z h3
      cases h
      exact ⟨_, h1, h3⟩
theorem tUn_of {K : PySem.W.Frag} {r : V → Hp → VK → Prop} {o : D → Option D} {fa : FE} (hd : DUn K r o) : ∀ σ H Q, tV K Γ (unE o fa) σ H Q → tV K Γ fa σ H fun x H1 => r x H1 Q := fun σ H Q ⟨ρ, F, fp, d, ρ', S, hf, q⟩ => by
  obtain ⟨x, h1, h3⟩ := unE_eq hf
  refine ⟨ρ, F, fp, x, ρ', S, h1, fun v H1 F1 fp1 s1 S1 r1 => ?_⟩
  refine hd F1 H1 v x d Q S1.sub r1 h3 fun w H3 F3 A r3 => ?_
  exact q w H3 F3 fp1 (s1.trans A.step) (S1.alloc A) r3
theorem be_un {op : UnaryOp} {r : V → Hp → VK → Prop} {o : D → Option D} {a : Expr} {fa : FE} (ho : UnR X (unaryOp op) r) (hd : DUn X.K r o) (ha : BE X Γ a fa) : BE X Γ (.UnaryOp op a pos) (unE o fa) := weakE (pe_un ho ha) (tUn_of hd)
/-! ### tests -/
def bE (fa : FE) : FT := fun ρ => match fa ρ with
  | some (.bool b, ρ1) => some (b, ρ1)
  | _ => none
theorem bE_eq {fa : FE} {ρ ρ' : En} {b : Bool} (h : bE fa ρ = some (b, ρ')) : fa ρ = some (.bool b, ρ') := by
  unfold bE at h
  split at h
  · rename_i h1; cases h; exact h1
  · cases h
theorem bt_val {e : Expr} {f : FE} (h : BE X Γ e f) (he : ∀ whole, isTrue e X.env whole = (do let v ← whole; standAt e.pos; holding [v] (truthy v)) := by intro _; rfl) : BT X Γ e (bE f) := weakT (pt_val h he) fun σ H Q ⟨ρ, F, fp, d, ρ', S, hf, q⟩ =>
  ⟨ρ, F, fp, _, ρ', S, bE_eq hf, fun v H1 F1 fp1 s1 S1 r1 => ⟨d, r1.bool', q H1 F1 fp1 s1 S1⟩⟩
theorem bt_cmp {op : CmpOp} {r : R2} {o : D → D → Option D} {a b : Expr} {fa fb : FE} (ho : OpR X (compareOp op) r) (hd : DOp X.K r o) (ha : BE X Γ a fa) (hb : BE X Γ b fb) (hm : behindInMarks op b = false := by first | exact nomark _ | rfl) : BT X Γ (.Compare a [op] [b] pos) (bE (opE o fa fb)) :=
  weakT (pt_cmpR ho ha hb hm) fun σ H Q ⟨ρ, F, fp, d, ρ', S, hf, q⟩ => tOp_of (Γ := Γ) hd σ H _ ⟨ρ, F, fp, _, ρ', S, bE_eq hf, fun v H1 F1 fp1 s1 S1 r1 => ⟨d, r1.bool', q H1 F1 fp1 s1 S1⟩⟩
def notT (f : FT) : FT := fun ρ => match f ρ with
  | none => none
  | some (b, ρ1) => some (!b, ρ1)
theorem bt_not {a : Expr} {f : FT} (h : BT X Γ a f) : BT X Γ (.UnaryOp .Not a pos) (notT f) := weakT (pt_not h) fun σ H Q ⟨ρ, F, fp, d, ρ', S, hf, q⟩ => by
  unfold notT at hf
  split at hf
  · cases hf
  · rename_i h1
    cases hf
    exact ⟨ρ, F, fp, _, ρ', S, h1, q⟩
def andT (f g : FT) : FT := fun ρ => match f ρ with
  | none => none
  | some (true, ρ1) => g ρ1
  | some (false, ρ1) => some (false, ρ1)
def orT (f g : FT) : FT := fun ρ => match f ρ with
  | none => none
  | some (true, ρ1) => some (true, ρ1)
  | some (false, ρ1) => g ρ1
theorem tAnd_of {K : PySem.W.Frag} {f g : FT} : ∀ σ H Q, tB K Γ (andT f g) σ H Q → tAnd (tB K Γ f) (tB K Γ g) σ H Q := fun σ H Q ⟨ρ, F, fp, d, ρ', S, hf, q⟩ => by
  unfold andT at hf
  split at hf
  · cases hf
  · rename_i h1
    exact ⟨ρ, F, fp, _, _, S, h1, fun H1 F1 fp1 s1 S1 => iteT ⟨_, F1, fp1, d, ρ', S1, hf, fun H2 F2 fp2 s2 S2 => q H2 F2 fp2 (s1.trans s2) S2⟩⟩
  · rename_i h1
    cases hf
    exact ⟨ρ, F, fp, _, _, S, h1, fun H1 F1 fp1 s1 S1 => iteF (q H1 F1 fp1 s1 S1)⟩
theorem tOr_of {K : PySem.W.Frag} {f g : FT} : ∀ σ H Q, tB K Γ (orT f g) σ H Q → tOr (tB K Γ f) (tB K Γ g) σ H Q := fun σ H Q ⟨ρ, F, fp, d, ρ', S, hf, q⟩ => by
  unfold orT at hf
  split at hf
  · cases hf
  · rename_i h1
    cases hf
    exact ⟨ρ, F, fp, _, _, S, h1, fun H1 F1 fp1 s1 S1 => iteT (q H1 F1 fp1 s1 S1)⟩
  · rename_i h1
    exact ⟨ρ, F, fp, _, _, S, h1, fun H1 F1 fp1 s1 S1 => iteF ⟨_, F1, fp1, d, ρ', S1, hf, fun H2 F2 fp2 s2 S2 => q H2 F2 fp2 (s1.trans s2) S2⟩⟩
theorem bw_and1 {a : Expr} {f : FT} (h : BT X Γ a f) : BW X Γ (.BoolOp .And [a] pos) f := pw_and1 h
theorem bw_or1 {a : Expr} {f : FT} (h : BT X Γ a f) : BW X Γ (.BoolOp .Or [a] pos) f := pw_or1 h
theorem bw_and {a b : Expr} {rest : List Expr} {f g : FT} (ha : BT X Γ a f) (hb : BW X Γ (.BoolOp .And (b :: rest) pos) g) : BW X Γ (.BoolOp .And (a :: b :: rest) pos) (andT f g) := weakW (pw_and ha hb) tAnd_of
theorem bw_or {a b : Expr} {rest : List Expr} {f g : FT} (ha : BT X Γ a f) (hb : BW X Γ (.BoolOp .Or (b :: rest) pos) g) : BW X Γ (.BoolOp .Or (a :: b :: rest) pos) (orT f g) := weakW (pw_or ha hb) tOr_of
theorem bt_w {a : Expr} {f : FT} (h : BW X Γ a f) : BT X Γ a f := h.pt
/-! ### and, or, not as values (bools) -/
def andE (f g : FE) : FE := fun ρ => match f ρ with
  | some (.bool true, ρ1) => g ρ1
  | some (.bool false, ρ1) => some (.bool false, ρ1)
  | _ => none
def orE (f g : FE) : FE := fun ρ => match f ρ with
  | some (.bool true, ρ1) => some (.bool true, ρ1)
  | some (.bool false, ρ1) => g ρ1
  | _ => none
theorem be_one {op} {a : Expr} {f : FE} (h : BE X Γ a f) : BE X Γ (.BoolOp op [a] pos) f := pe_one h
theorem be_and {a b : Expr} {rest : List Expr} {f g : FE} (ha : BE X Γ a f) (hb : BE X Γ (.BoolOp .And (b :: rest) pos) g) : BE X Γ (.BoolOp .And (a :: b :: rest) pos) (andE f g) := weakE (pe_and ha hb) fun σ H Q ⟨ρ, F, fp, d, ρ', S, hf, q⟩ => by
  unfold andE at hf
  split at hf
  · rename_i h1
    exact ⟨ρ, F, fp, _, _, S, h1, fun v H1 F1 fp1 s1 S1 r => ⟨_, r.bool', iteT ⟨_, F1, fp1, d, ρ', S1, hf, fun v H2 F2 fp2 s2 S2 r2 => q v H2 F2 fp2 (s1.trans s2) S2 r2⟩⟩⟩
  · rename_i h1
    cases hf
    exact ⟨ρ, F, fp, _, _, S, h1, fun v H1 F1 fp1 s1 S1 r => ⟨_, r.bool', iteF (q _ H1 F1 fp1 s1 S1 (.bl _))⟩⟩
  · cases hf
theorem be_or {a b : Expr} {rest : List Expr} {f g : FE} (ha : BE X Γ a f) (hb : BE X Γ (.BoolOp .Or (b :: rest) pos) g) : BE X Γ (.BoolOp .Or (a :: b :: rest) pos) (orE f g) := weakE (pe_or ha hb) fun σ H Q ⟨ρ, F, fp, d, ρ', S, hf, q⟩ => by
  unfold orE at hf
  split at hf
  · rename_i h1
    cases hf
    exact ⟨ρ, F, fp, _, _, S, h1, fun v H1 F1 fp1 s1 S1 r => ⟨_, r.bool', iteT (q _ H1 F1 fp1 s1 S1 (.bl _))⟩⟩
  · rename_i h1
    exact ⟨ρ, F, fp, _, _, S, h1, fun v H1 F1 fp1 s1 S1 r => ⟨_, r.bool', iteF ⟨_, F1, fp1, d, ρ', S1, hf, fun v H2 F2 fp2 s2 S2 r2 => q v H2 F2 fp2 (s1.trans s2) S2 r2⟩⟩⟩
  · cases hf
def notE (f : FE) : FE := fun ρ => match f ρ with
  | some (.bool b, ρ1) => some (.bool (!b), ρ1)
  | _ => none
theorem be_not {a : Expr} {f : FE} (h : BE X Γ a f) : BE X Γ (.UnaryOp .Not a pos) (notE f) := weakE (pe_not h) fun σ H Q ⟨ρ, F, fp, d, ρ', S, hf, q⟩ => by
  unfold notE at hf
  split at hf
  · rename_i h1
    cases hf
    exact ⟨ρ, F, fp, _, _, S, h1, fun v H1 F1 fp1 s1 S1 r => ⟨_, r.bool', q _ H1 F1 fp1 s1 S1 (.bl _)⟩⟩
  · cases hf
def ifE (c : FT) (f g : FE) : FE := fun ρ => match c ρ with
  | none => none
  | some (true, ρ1) => f ρ1
  | some (false, ρ1) => g ρ1
theorem be_if {c a b : Expr} {fc : FT} {f g : FE} (hc : BT X Γ c fc) (ha : BE X Γ a f) (hb : BE X Γ b g) : BE X Γ (.IfExp c a b pos) (ifE fc f g) := weakE (pe_ifExp hc ha hb) fun σ H Q ⟨ρ, F, fp, d, ρ', S, hf, q⟩ => by
  unfold ifE at hf
  split at hf
  · cases hf
  · rename_i h1
    exact ⟨ρ, F, fp, _, _, S, h1, fun H1 F1 fp1 s1 S1 => iteT ⟨_, F1, fp1, d, ρ', S1, hf, fun v H2 F2 fp2 s2 S2 r2 => q v H2 F2 fp2 (s1.trans s2) S2 r2⟩⟩
  · rename_i h1
    exact ⟨ρ, F, fp, _, _, S, h1, fun H1 F1 fp1 s1 S1 => iteF ⟨_, F1, fp1, d, ρ', S1, hf, fun v H2 F2 fp2 s2 S2 r2 => q v H2 F2 fp2 (s1.trans s2) S2 r2⟩⟩
theorem bo_if {c a b : Expr} {fc : FT} {f g : FE} {m : Md} (hc : BT X Γ c fc) (ha : BO X Γ m a f) (hb : BO X Γ m b g) : BO X Γ m (.IfExp c a b pos) (ifE fc f g) := weakE (pe_ifExp hc ha hb) fun σ H Q ⟨ρ, F, fp, d, ρ', S, hf, q⟩ => by
  have go : ∀ {H1 F1 fp1 ρ1 h}, Step F H fp F1 H1 fp1 → StR X.K Γ ρ1 σ F1 H1 fp1 → h ρ1 = some (d, ρ') → tO X.K Γ m h σ H1 Q := fun {H1 F1 fp1 ρ1 h} s1 S1 hf => ⟨_, F1, fp1, d, ρ', S1, hf, fun v H2 F2 fp2 p s2 S2 o => q v H2 F2 fp2 p (s1.trans s2) S2 ⟨o.ow, o.nd, o.fr, o.dis, fun a ha => by
    rcases o.new a ha with z | ⟨j, z⟩
    · exact s1.dead z
    · exact s1.nfp j a z⟩⟩
  unfold ifE at hf
  split at hf
  · cases hf
  · rename_i h1
    exact ⟨ρ, F, fp, _, _, S, h1, fun H1 F1 fp1 s1 S1 => iteT (go s1 S1 hf)⟩
  · rename_i h1
    exact ⟨ρ, F, fp, _, _, S, h1, fun H1 F1 fp1 s1 S1 => iteF (go s1 S1 hf)⟩
/-! ### chains -/
def chainE (o o' : D → D → Option D) (fa fb fc : FE) : FE := fun ρ => match fa ρ with
  | none => none
  | some (x, ρ1) => match fb ρ1 with
    | none => none
    | some (y, ρ2) => match o x y with
      | some (.bool false) => some (.bool false, ρ2)
      | some (.bool true) => (match fc ρ2 with
        | none => none
        | some (z, ρ3) => match o' y z with
          | none => none
          | some d => some (d, ρ3))
      | _ => none
theorem chainE_eq {o o' : D → D → Option D} {fa fb fc : FE} {ρ ρ' : En} {d : D} (h : chainE o o' fa fb fc ρ = some (d, ρ')) : ∃ x ρ1 y ρ2, fa ρ = some (x, ρ1) ∧ fb ρ1 = some (y, ρ2) ∧
    ((o x y = some (.bool false) ∧ d = .bool false ∧ ρ' = ρ2) ∨ (o x y = some (.bool true) ∧ ∃ z, fc ρ2 = some (z, ρ') ∧ o' y z = some d)) := by
  unfold chainE at h
  split at h
  · cases h
  · rename_i x ρ1 h1
    split at h
    · cases h
    · rename_i y ρ2 h2
      refine ⟨x, ρ1, y, ρ2, h1, h2, ?_⟩
      split at h
      · rename_i h3
        cases h
        exact .inl ⟨h3, rfl, rfl⟩
      · rename_i h3
        split at h
        · cases h
        · rename_i z ρ3 h4
          split at h
          · cases h
          · rename_i h5
            cases h
            exact .inr ⟨h3, z, h4, h5⟩
      · cases h
theorem tChain_of {K : PySem.W.Frag} {r r' : R2} {o o' : D → D → Option D} {fa fb fc : FE} (hd : DOp K r o) (hd' : DOp K r' o') : ∀ σ H Q, tV K Γ (chainE o o' fa fb fc) σ H Q → tChain r r' (tV K Γ fa) (tV K Γ fb) (tV K Γ fc) σ H Q := fun σ H Q ⟨ρ, F, fp, d, ρ', S, hf, q⟩ => by
  obtain ⟨x, ρ1, y, ρ2, h1, h2, h3⟩ := chainE_eq hf
  refine ⟨ρ, F, fp, x, ρ1, S, h1, fun v H1 F1 fp1 s1 S1 r1 => ⟨ρ1, F1, fp1, y, ρ2, S1, h2, fun u H2 F2 fp2 s2 S2 r2 => ?_⟩⟩
  rcases h3 with ⟨h3, rfl, rfl⟩ | ⟨h3, z, h4, h5⟩
  · refine hd F2 H2 v u x y _ _ S2.sub (r1.mono s2.ff) r2 h3 fun w H3 F3 A r3 => ⟨false, r3.bool', ?_⟩
    exact iteF (q _ H3 F3 fp2 ((s1.trans s2).trans A.step) (S2.alloc A) (.bl _))
  · refine hd F2 H2 v u x y _ _ S2.sub (r1.mono s2.ff) r2 h3 fun w H3 F3 A r3 => ⟨true, r3.bool', iteT ?_⟩
    refine ⟨ρ2, F3, fp2, z, ρ', S2.alloc A, h4, fun u2 H4 F4 fp4 s4 S4 r4 => ?_⟩
    refine hd' F4 H4 u u2 y z d Q S4.sub ((r2.mono A.ff).mono s4.ff) r4 h5 fun w2 H5 F5 A5 r5 => ?_
    exact q w2 H5 F5 fp4 ((((s1.trans s2).trans A.step).trans s4).trans A5.step) (S4.alloc A5) r5
theorem be_chain {op op' : CmpOp} {r r' : R2} {o o' : D → D → Option D} {a b c : Expr} {fa fb fc : FE} (ho : OpR X (compareOp op) r) (hd : DOp X.K r o) (ho' : OpR X (compareOp op') r') (hd' : DOp X.K r' o') (ha : BE X Γ a fa) (hb : BE X Γ b fb) (hc : BE X Γ c fc) (hm : lastMarks [op, op'] [b, c] = false := by with_unfolding_all rfl) :
    BE X Γ (.Compare a [op, op'] [b, c] pos) (chainE o o' fa fb fc) := weakE (pe_chain ho ho' ha hb hc hm) (tChain_of hd hd')
theorem bt_chain {op op' : CmpOp} {r r' : R2} {o o' : D → D → Option D} {a b c : Expr} {fa fb fc : FE} (ho : OpR X (compareOp op) r) (hd : DOp X.K r o) (ho' : OpR X (compareOp op') r') (hd' : DOp X.K r' o') (ha : BE X Γ a fa) (hb : BE X Γ b fb) (hc : BE X Γ c fc) (hm : lastMarks [op, op'] [b, c] = false := by with_unfolding_all rfl) :
    BT X Γ (.Compare a [op, op'] [b, c] pos) (bE (chainE o o' fa fb fc)) := weakT (pt_chain ho ho' ha hb hc hm) fun σ H Q ⟨ρ, F, fp, d, ρ', S, hf, q⟩ =>
  tChain_of (Γ := Γ) hd hd' σ H _ ⟨ρ, F, fp, _, ρ', S, bE_eq hf, fun v H1 F1 fp1 s1 S1 r1 => ⟨d, r1.bool', q H1 F1 fp1 s1 S1⟩⟩
end
end BV

set_option Elab.async false
set_option linter.all false
set_option maxRecDepth 100000
set_option maxHeartbeats 4000000
namespace BV
open PySem PySem.Spec L2
/-! ## statements -/
inductive Fl where
  | nx | bk | ct | rt (d : D)
abbrev FS := En → Option (Fl × En)
abbrev FG := D → En → Option En
def Pin (ms : List Md) (vp : Nat → V) (σ : Sl) : Prop := ∀ p, (ms.getD p .val).own = true → σ[p]? = some (some (vp p))
theorem Pin.set {ms : List Md} {vp : Nat → V} {σ : Sl} {i : Nat} {x : Option V} (h : Pin ms vp σ) (n : (ms.getD i .val).own = false) : Pin ms vp (σ.set i x) := fun p hp => by
  have e : i ≠ p := fun q => by rw [q, hp] at n; cases n
  rw [List.getElem?_set_ne e]
  exact h p hp
def Out1 (K : PySem.W.Frag) (ms : List Md) (vp : Nat → V) (ρ : En) (F H : Hp) (fp : Fp) : Prop :=
  ∃ Γr σ, StR K Γr ρ σ F H fp ∧ Pin ms vp σ ∧ ∀ p, (ms.getD p .val).own = true → Γr.getD p .val = ms.getD p .val
theorem Own1.back {K : PySem.W.Frag} {m : Md} {F H F1 H1 F' H' : Hp} {fp fp1 fp' : Fp} {v : V} {d : D} {q : List Addr} (s : Step F H fp F1 H1 fp1) (o : Own1 K m F1 H1 fp1 F' H' fp' v d q) : Own1 K m F H fp F' H' fp' v d q :=
  ⟨o.ow, o.nd, o.fr, o.dis, fun a ha => by
    rcases o.new a ha with z | ⟨j, z⟩
    · exact s.dead z
    · exact s.nfp j a z⟩
def FlP (K : PySem.W.Frag) (ms : List Md) (rm : Md) (Γl Γ' : List Md) (Dn : Ends) (F H : Hp) (fp : Fp) (vp : Nat → V) (ρ' : En) : Fl → Prop
  | .nx => ∀ σ' H' F' fp', Step F H fp F' H' fp' → StR K Γ' ρ' σ' F' H' fp' → Pin ms vp σ' → Dn.nx σ' H'
  | .bk => ∀ σ' H' F' fp', Step F H fp F' H' fp' → StR K Γl ρ' σ' F' H' fp' → Pin ms vp σ' → Dn.bk σ' H'
  | .ct => ∀ σ' H' F' fp', Step F H fp F' H' fp' → StR K Γl ρ' σ' F' H' fp' → Pin ms vp σ' → Dn.ct σ' H'
  | .rt d => ∀ v H' F' fp' q, Step F H fp F' H' fp' → Out1 K ms vp ρ' F' H' fp' → Own1 K rm F H fp F' H' fp' v d q → Dn.rt v H'
def tS (K : PySem.W.Frag) (ms : List Md) (rm : Md) (Γl Γ Γ' : List Md) (f : FS) : TS := fun Dn σ H => ∃ ρ F fp fl ρ' vp, StR K Γ ρ σ F H fp ∧ Pin ms vp σ ∧ f ρ = some (fl, ρ') ∧ FlP K ms rm Γl Γ' Dn F H fp vp ρ' fl
theorem FlP.back {K : PySem.W.Frag} {ms : List Md} {rm : Md} {Γl Γ' : List Md} {Dn : Ends} {F H F1 H1 : Hp} {fp fp1 : Fp} {vp : Nat → V} {ρ' : En} {fl : Fl} (s : Step F H fp F1 H1 fp1) (h : FlP K ms rm Γl Γ' Dn F H fp vp ρ' fl) : FlP K ms rm Γl Γ' Dn F1 H1 fp1 vp ρ' fl := by
  cases fl with
  | nx => exact fun σ' H' F' fp' t => h σ' H' F' fp' (s.trans t)
  | bk => exact fun σ' H' F' fp' t => h σ' H' F' fp' (s.trans t)
  | ct => exact fun σ' H' F' fp' t => h σ' H' F' fp' (s.trans t)
  | rt d => exact fun v H' F' fp' q t o w => h v H' F' fp' q (s.trans t) o (w.back s)
abbrev BS (X : Cx) (ms : List Md) (rm : Md) (Γl Γ Γ' : List Md) (s : Stmt) (f : FS) : Prop := PS X s (tS X.K ms rm Γl Γ Γ' f)
abbrev BSs (X : Cx) (ms : List Md) (rm : Md) (Γl Γ Γ' : List Md) (s : List Stmt) (f : FS) : Prop := PSs X s (tS X.K ms rm Γl Γ Γ' f)
section
variable {X : Cx} {ms : List Md} {rm : Md} {Γl Γ Γ1 Γ' : List Md} {pos : Pos}
def nxS : FS := fun ρ => some (.nx, ρ)
def bkS : FS := fun ρ => some (.bk, ρ)
def ctS : FS := fun ρ => some (.ct, ρ)
theorem bss_nil : BSs X ms rm Γl Γ Γ [] nxS := weakSs pss_nil fun Dn σ H ⟨ρ, F, fp, fl, ρ', vp, S, P, hf, q⟩ => by
  cases hf
  exact q σ H F fp (Step.refl _ _ _) S P
theorem bs_pass : BS X ms rm Γl Γ Γ (.Pass pos) nxS := weakS ps_pass fun Dn σ H ⟨ρ, F, fp, fl, ρ', vp, S, P, hf, q⟩ => by
  cases hf
  exact q σ H F fp (Step.refl _ _ _) S P
theorem bs_break : BS X ms rm Γ Γ Γ' (.Break pos) bkS := weakS ps_break fun Dn σ H ⟨ρ, F, fp, fl, ρ', vp, S, P, hf, q⟩ => by
  cases hf
  exact q σ H F fp (Step.refl _ _ _) S P
theorem bs_cont : BS X ms rm Γ Γ Γ' (.Continue pos) ctS := weakS ps_continue fun Dn σ H ⟨ρ, F, fp, fl, ρ', vp, S, P, hf, q⟩ => by
  cases hf
  exact q σ H F fp (Step.refl _ _ _) S P
def seqS (f g : FS) : FS := fun ρ => match f ρ with
  | none => none
  | some (.nx, ρ1) => g ρ1
  | some (.bk, ρ1) => some (.bk, ρ1)
  | some (.ct, ρ1) => some (.ct, ρ1)
  | some (.rt d, ρ1) => some (.rt d, ρ1)
theorem bss_cons {s : Stmt} {r : List Stmt} {f g : FS} (h1 : BS X ms rm Γl Γ Γ1 s f) (h2 : BSs X ms rm Γl Γ1 Γ' r g) : BSs X ms rm Γl Γ Γ' (s :: r) (seqS f g) := weakSs (pss_cons h1 h2) fun Dn σ H ⟨ρ, F, fp, fl, ρ', vp, S, P, hf, q⟩ => by
  unfold seqS at hf
  split at hf
  · cases hf
  · rename_i h1
    exact ⟨ρ, F, fp, .nx, _, vp, S, P, h1, fun σ1 H1 F1 fp1 s1 S1 P1 => ⟨_, F1, fp1, fl, ρ', vp, S1, P1, hf, q.back s1⟩⟩
  · rename_i h1
    cases hf
    exact ⟨ρ, F, fp, .bk, _, vp, S, P, h1, q⟩
  · rename_i h1
    cases hf
    exact ⟨ρ, F, fp, .ct, _, vp, S, P, h1, q⟩
  · rename_i h1
    cases hf
    exact ⟨ρ, F, fp, .rt _, _, vp, S, P, h1, q⟩
/-- a slot that was one's own is frozen ahead of the rest -/
theorem bss_frz (i : Nat) {r : List Stmt} {f : FS} (h : BSs X ms rm Γl (Γ.set i .val) Γ' r f) (z : (Γ.getD i .val).fz = true := by rfl) : BSs X ms rm Γl Γ Γ' r f := weakSs h fun Dn σ H ⟨ρ, F, fp, fl, ρ', vp, S, P, hf, q⟩ => by
  have ns : ∀ a ∈ fp i, F a = none := fun a ha => S.fr i a ha
  have fx : Same F (frz F H (fp i)) := frz_ext ns
  have st : Step F H fp (frz F H (fp i)) H (fpSet fp i []) := ⟨fx, fun _ _ h _ => h, fun _ h => .inl h, fun a h => by
    by_cases ha : a ∈ fp i
    · exact .inr (.inr ⟨i, ha⟩)
    · unfold frz at h
      rw [if_neg ha] at h
      exact .inl h, fun j a h => by
      by_cases hj : j = i
      · subst hj; rw [fpSet_same] at h; simp at h
      · rw [fpSet_ne hj] at h; exact .inr ⟨j, h⟩⟩
  have S' : StR X.K (Γ.set i .val) ρ σ (frz F H (fp i)) H (fpSet fp i []) := by
    refine ⟨frz_sub S.sub, S.len, by rw [List.length_set]; exact S.lenG, fun j d e => ?_, fun j h => ?_, fun j => ?_, fun j k a h1 h2 => ?_, fun j a h => ?_⟩
    · obtain ⟨v, h1, h2⟩ := S.slot j d e
      refine ⟨v, h1, ?_⟩
      by_cases hj : j = i
      · subst hj
        have hl : j < Γ.length := by
          rw [S.lenG]
          exact (List.getElem?_eq_some_iff.mp h1).1
        rw [fpSet_same, List.getD_eq_getElem?_getD, List.getElem?_set_self hl]
        exact ⟨h2.rp fx (fun a ha => by unfold frz; rw [if_pos ha]) z, rfl⟩
      · rw [fpSet_ne hj, List.getD_eq_getElem?_getD, List.getElem?_set_ne (Ne.symm hj), ← List.getD_eq_getElem?_getD]
        exact h2.keep fx fun _ _ => rfl
    · by_cases hj : j = i
      · subst hj; rw [fpSet_same]
      · rw [fpSet_ne hj]; exact S.emp j h
    · by_cases hj : j = i
      · subst hj; rw [fpSet_same]; exact List.nodup_nil
      · rw [fpSet_ne hj]; exact S.nd j
    · by_cases hj : j = i
      · subst hj; rw [fpSet_same] at h1; simp at h1
      · by_cases hk : k = i
        · subst hk; rw [fpSet_same] at h2; simp at h2
        · rw [fpSet_ne hj] at h1
          rw [fpSet_ne hk] at h2
          exact S.dis j k a h1 h2
    · by_cases hj : j = i
      · subst hj; rw [fpSet_same] at h; simp at h
      · rw [fpSet_ne hj] at h
        unfold frz
        rw [if_neg (fun ha => hj (S.dis j i a h ha))]
        exact S.fr j a h
  exact ⟨ρ, _, _, fl, ρ', vp, S', P, hf, q.back st⟩
/-! ### stores -/
def asgS (i : Nat) (f : FE) : FS := fun ρ => match f ρ with
  | none => none
  | some (d, ρ1) => some (.nx, ρ1.set i (some d))
theorem own_step {K : PySem.W.Frag} {m : Md} {F H F' H' : Hp} {fp fp' : Fp} {v : V} {d : D} {q : List Addr} {i : Nat} (s : Step F H fp F' H' fp') (o : Own1 K m F H fp F' H' fp' v d q) : Step F H fp F' H' (fpSet fp' i q) :=
  ⟨s.ff, s.hh, s.live, s.new, fun j a h => by
    by_cases hj : j = i
    · subst hj; rw [fpSet_same] at h; exact o.new a h
    · rw [fpSet_ne hj] at h; exact s.nfp j a h⟩
theorem own_set {K : PySem.W.Frag} {m : Md} {F H F' H' : Hp} {fp fp' : Fp} {v : V} {d : D} {q : List Addr} {i : Nat} {ρ : En} {σ : Sl} {Γ : List Md} (S : StR K Γ ρ σ F' H' fp') (o : Own1 K m F H fp F' H' fp' v d q) (hi : i < σ.length) :
    StR K (Γ.set i m) (ρ.set i (some d)) (σ.set i (some v)) F' H' (fpSet fp' i q) :=
  S.set hi o.ow o.nd o.fr fun j a _ ha => o.dis a ha j
theorem nil_step {F H F' H' : Hp} {fp fp' : Fp} {i : Nat} (s : Step F H fp F' H' fp') : Step F H fp F' H' (fpSet fp' i []) :=
  ⟨s.ff, s.hh, s.live, s.new, fun j a h => by
    by_cases hj : j = i
    · subst hj; rw [fpSet_same] at h; simp at h
    · rw [fpSet_ne hj] at h; exact s.nfp j a h⟩
theorem tAsg_of {K : PySem.W.Frag} {i : Nat} {f : FE} (hi : i < Γ.length) (hp : (ms.getD i .val).own = false) : ∀ Dn σ H, tS K ms rm Γl Γ (Γ.set i .val) (asgS i f) Dn σ H → tAsg (tV K Γ f) (gName i) Dn σ H := fun Dn σ H ⟨ρ, F, fp, fl, ρ', vp, S, P, hf, q⟩ => by
  unfold asgS at hf
  split at hf
  · cases hf
  · rename_i d ρ1 h1
    cases hf
    exact ⟨ρ, F, fp, d, ρ1, S, h1, fun v H1 F1 fp1 s1 S1 r1 => q _ _ F1 _ (nil_step s1) (S1.setV (by rw [← S1.lenG]; exact hi) r1) (P.set hp)⟩
theorem tAsgO_of {K : PySem.W.Frag} {i : Nat} {f : FE} {m : Md} (hi : i < Γ.length) (hp : (ms.getD i .val).own = false) : ∀ Dn σ H, tS K ms rm Γl Γ (Γ.set i m) (asgS i f) Dn σ H → tAsg (tO K Γ m f) (gName i) Dn σ H := fun Dn σ H ⟨ρ, F, fp, fl, ρ', vp, S, P, hf, q⟩ => by
  unfold asgS at hf
  split at hf
  · cases hf
  · rename_i d ρ1 h1
    cases hf
    exact ⟨ρ, F, fp, d, ρ1, S, h1, fun v H1 F1 fp1 p s1 S1 o => q _ _ F1 _ (own_step s1 o) (own_set S1 o (by rw [← S1.lenG]; exact hi)) (P.set hp)⟩
theorem bs_set (i : Nat) {x : Str} {e : Expr} {f : FE} {pos' : Pos} (hN : X.N.Nodup) (he : BE X Γ e f) (hi : X.N[i]? = some x := by rfl) (hx : Loc X.env.scope x := by first | exact Or.inl rfl | exact Or.inr rfl) (hl : i < Γ.length := by exact Nat.le_of_ble_eq_true rfl) (hp : (ms.getD i .val).own = false := by rfl)
    (hs : swapsWith e (some (.Name x pos')) pos.line X.env = pure false := by rfl) (hf : X.fn x = true ∨ X.env.scope.names.lookup x = some .local := by first | exact .inl rfl | exact .inr rfl) : BS X ms rm Γl Γ (Γ.set i .val) (.Assign [.Name x pos'] e pos) (asgS i f) :=
  weakS (ps_set hN hi hx he hs hf) (tAsg_of hl hp)
theorem bs_setO (i : Nat) {m : Md} {x : Str} {e : Expr} {f : FE} {pos' : Pos} (hN : X.N.Nodup) (he : BO X Γ m e f) (hi : X.N[i]? = some x := by rfl) (hx : Loc X.env.scope x := by first | exact Or.inl rfl | exact Or.inr rfl) (hl : i < Γ.length := by exact Nat.le_of_ble_eq_true rfl) (hp : (ms.getD i .val).own = false := by rfl)
    (hs : swapsWith e (some (.Name x pos')) pos.line X.env = pure false := by rfl) (hf : X.fn x = true ∨ X.env.scope.names.lookup x = some .local := by first | exact .inl rfl | exact .inr rfl) : BS X ms rm Γl Γ (Γ.set i m) (.Assign [.Name x pos'] e pos) (asgS i f) :=
  weakS (ps_set hN hi hx he hs hf) (tAsgO_of hl hp)
def exS (f : FE) : FS := fun ρ => match f ρ with
  | none => none
  | some (_, ρ1) => some (.nx, ρ1)
theorem bs_expr {e : Expr} {f : FE} (he : BE X Γ e f) (hs : swapsWith e none pos.line X.env = pure false := by rfl) : BS X ms rm Γl Γ Γ (.Expr e pos) (exS f) := weakS (ps_expr he hs) fun Dn σ H ⟨ρ, F, fp, fl, ρ', vp, S, P, hf, q⟩ => by
  unfold exS at hf
  split at hf
  · cases hf
  · rename_i d ρ1 h1
    cases hf
    exact ⟨ρ, F, fp, d, _, S, h1, fun v H1 F1 fp1 s1 S1 r1 => q σ H1 F1 fp1 s1 S1 P⟩
def okR (ms Γ : List Md) : Bool := (List.range ms.length).all fun p => !(ms.getD p .val).own || decide (Γ.getD p .val = ms.getD p .val)
theorem okR_ok {ms Γ : List Md} (h : okR ms Γ = true) : ∀ p, (ms.getD p .val).own = true → Γ.getD p .val = ms.getD p .val := fun p hp => by
  by_cases hl : p < ms.length
  · have q := List.all_eq_true.mp h p (List.mem_range.mpr hl)
    rw [hp] at q
    simpa using q
  · rw [List.getD_eq_getElem?_getD, List.getElem?_eq_none (by omega)] at hp
    cases hp
def retS (f : FE) : FS := fun ρ => match f ρ with
  | none => none
  | some (d, ρ1) => some (.rt d, ρ1)
theorem own_val {K : PySem.W.Frag} {F H F' H' : Hp} {fp fp' : Fp} {v : V} {d : D} (r : Rp K F' v d) : Own1 K .val F H fp F' H' fp' v d [] := ⟨⟨r, rfl⟩, List.nodup_nil, fun _ h => by simp at h, fun _ h => by simp at h, fun _ h => by simp at h⟩
theorem bs_ret {e : Expr} {f : FE} (he : BE X Γ e f) (hr : okR ms Γ = true := by rfl) : BS X ms .val Γl Γ Γ' (.Return (some e) pos) (retS f) := weakS (ps_ret he) fun Dn σ H ⟨ρ, F, fp, fl, ρ', vp, S, P, hf, q⟩ => by
  unfold retS at hf
  split at hf
  · cases hf
  · rename_i d ρ1 h1
    cases hf
    exact ⟨ρ, F, fp, d, _, S, h1, fun v H1 F1 fp1 s1 S1 r1 => q v H1 F1 fp1 [] s1 ⟨Γ, σ, S1, P, okR_ok hr⟩ (own_val r1)⟩
theorem bs_retO {e : Expr} {f : FE} {m : Md} (he : BO X Γ m e f) (hr : okR ms Γ = true := by rfl) : BS X ms m Γl Γ Γ' (.Return (some e) pos) (retS f) := weakS (ps_ret he) fun Dn σ H ⟨ρ, F, fp, fl, ρ', vp, S, P, hf, q⟩ => by
  unfold retS at hf
  split at hf
  · cases hf
  · rename_i d ρ1 h1
    cases hf
    exact ⟨ρ, F, fp, d, _, S, h1, fun v H1 F1 fp1 p s1 S1 o => q v H1 F1 fp1 p s1 ⟨Γ, σ, S1, P, okR_ok hr⟩ o⟩
def retN : FS := fun ρ => some (.rt .none, ρ)
theorem bs_retN (hr : okR ms Γ = true := by rfl) : BS X ms .val Γl Γ Γ' (.Return none pos) retN := weakS ps_retN fun Dn σ H ⟨ρ, F, fp, fl, ρ', vp, S, P, hf, q⟩ => by
  cases hf
  exact q .non H F fp [] (Step.refl _ _ _) ⟨Γ, σ, S, P, okR_ok hr⟩ (own_val .non)
/-- return x, x one's own: it is handed on -/
def retV (i : Nat) : FS := fun ρ => match ρ[i]? with
  | some (some d) => some (.rt d, ρ.set i none)
  | _ => none
theorem bs_retV (i : Nat) {x : Str} {p : Pos} (hm : Γ.getD i .val = rm := by rfl) (hp : (ms.getD i .val).own = false := by rfl) (hr : okR ms Γ = true := by rfl) (hN : X.N[i]? = some x := by rfl) (hv : Vis X.env.scope x := by first | exact Or.inl rfl | exact Or.inr (Or.inl rfl) | exact Or.inr (Or.inr rfl)) (hd : (x == ("__debug__" : Str)) = false := by decide)
    (hcd : (x == ("__classdict__" : Str)) = false := by decide) : BS X ms rm Γl Γ Γ' (.Return (some (.Name x p)) pos) (retV i) := weakS (ps_ret (pe_var hN hv hd hcd)) fun Dn σ H ⟨ρ, F, fp, fl, ρ', vp, S, P, hf, q⟩ => by
  unfold retV at hf
  split at hf
  · rename_i d e
    cases hf
    obtain ⟨v, h1, h2⟩ := S.slot i d e
    rw [hm] at h2
    refine ⟨v, h1, q v H F (fpSet fp i []) (fp i) (nil_step (Step.refl _ _ _)) ⟨Γ, σ, S.drop, P, okR_ok hr⟩ ⟨h2, S.nd i, fun a ha => S.fr i a ha, fun a ha j hj => ?_, fun a ha => .inr ⟨i, ha⟩⟩⟩
    by_cases e : j = i
    · subst e; rw [fpSet_same] at hj; simp at hj
    · rw [fpSet_ne e] at hj
      exact e (S.dis j i a hj ha)
  · cases hf
def ifS (c : FT) (f g : FS) : FS := fun ρ => match c ρ with
  | none => none
  | some (true, ρ1) => f ρ1
  | some (false, ρ1) => g ρ1
theorem bs_if {c : Expr} {a b : List Stmt} {fc : FT} {f g : FS} (hc : BT X Γ c fc) (ha : BSs X ms rm Γl Γ Γ' a f) (hb : BSs X ms rm Γl Γ Γ' b g) : BS X ms rm Γl Γ Γ' (.If c a b pos) (ifS fc f g) := weakS (ps_if hc ha hb) fun Dn σ H ⟨ρ, F, fp, fl, ρ', vp, S, P, hf, q⟩ => by
  unfold ifS at hf
  split at hf
  · cases hf
  · rename_i h1
    exact ⟨ρ, F, fp, _, _, S, h1, fun H1 F1 fp1 s1 S1 => iteT ⟨_, F1, fp1, fl, ρ', vp, S1, P, hf, q.back s1⟩⟩
  · rename_i h1
    exact ⟨ρ, F, fp, _, _, S, h1, fun H1 F1 fp1 s1 S1 => iteF ⟨_, F1, fp1, fl, ρ', vp, S1, P, hf, q.back s1⟩⟩
end
/-! ### targets of loops, unpackings -/
def tG (K : PySem.W.Frag) (ms : List Md) (Γ : List Md) (is : List Nat) (g : FG) : TG := fun v σ H Q => ∃ ρ F fp d ρ' vp, StR K Γ ρ σ F H fp ∧ Pin ms vp σ ∧ Rp K F v d ∧ g d ρ = some ρ' ∧
  ∀ σ' H' F' fp', Step F H fp F' H' fp' → StR K Γ ρ' σ' F' H' fp' → Pin ms vp σ' → (∀ vs, (∀ i ∈ is, i ∈ vs) → wipe σ' vs = wipe σ vs) → Q σ' H'
abbrev BG (X : Cx) (ms : List Md) (Γ : List Md) (is : List Nat) (tg : Expr) (g : FG) : Prop := PG X tg (tG X.K ms Γ is g)
theorem weakG {X : Cx} {e : Expr} {t t' : TG} (h : PG X e t) (w : ∀ v σ H Q, t' v σ H Q → t v σ H Q) : PG X e t' := ⟨fun pins s σ H v u Q I r q => h.run pins s σ H v u Q I r (w v σ H Q q)⟩
theorem wipe_set {σ : Sl} {i : Nat} {x : Option V} : ∀ {vs : List Nat}, i ∈ vs → wipe (σ.set i x) vs = wipe σ vs
  | v :: vs, h => by
    unfold wipe
    by_cases e : i ∈ vs
    · rw [wipe_set e]
    · have ei : i = v := (List.mem_cons.mp h).resolve_right e
      subst ei
      have go : ∀ {ws : List Nat}, i ∉ ws → wipe (σ.set i x) ws = (wipe σ ws).set i x := by
        intro ws
        induction ws with
        | nil => intro _; rfl
        | cons w ws ih =>
          intro hw
          simp only [List.mem_cons, not_or] at hw
          unfold wipe
          rw [ih hw.2, List.set_comm _ _ hw.1]
      rw [go e, List.set_set]
theorem wipe_wipe (σ : Sl) : ∀ vs : List Nat, wipe (wipe σ vs) vs = wipe σ vs := fun vs => by
  have h : ∀ (ws : List Nat) (τ : Sl), (∀ i ∈ ws, i ∈ vs) → wipe (wipe τ ws) vs = wipe τ vs := by
    intro ws
    induction ws with
    | nil => intro τ _; rfl
    | cons w ws ih =>
      intro τ h
      show wipe ((wipe τ ws).set w none) vs = wipe τ vs
      rw [wipe_set (h w List.mem_cons_self)]
      exact ih τ fun i hi => h i (List.mem_cons_of_mem _ hi)
  exact h vs σ fun _ h => h
def gN (i : Nat) : FG := fun d ρ => some (ρ.set i (some d))
section
variable {X : Cx} {ms : List Md} {rm : Md} {Γl Γ Γ1 Γ' : List Md} {pos : Pos}
theorem set_val {i : Nat} (h : Γ.getD i .val = .val) : Γ.set i .val = Γ := by
  by_cases hl : i < Γ.length
  · rw [List.getD_eq_getElem?_getD, List.getElem?_eq_getElem hl] at h
    have h' : Γ[i] = .val := h
    rw [← h']
    exact List.set_getElem_self hl
  · exact List.set_eq_of_length_le (by omega)
theorem bg_name (i : Nat) {x : Str} (hN : X.N.Nodup) (hi : X.N[i]? = some x := by rfl) (hx : Loc X.env.scope x := by first | exact Or.inl rfl | exact Or.inr rfl) (hl : i < Γ.length := by exact Nat.le_of_ble_eq_true rfl) (hg : Γ.getD i .val = .val := by rfl) (hp : (ms.getD i .val).own = false := by rfl)
    (hf : X.fn x = true ∨ X.env.scope.names.lookup x = some .local := by first | exact .inl rfl | exact .inr rfl) : BG X ms Γ [i] (.Name x pos) (gN i) := weakG (pg_name hN hi hx hf) fun v σ H Q ⟨ρ, F, fp, d, ρ', vp, S, P, r, hg', q⟩ => by
  cases hg'
  have S1 := S.setV (i := i) (by rw [← S.lenG]; exact hl) r
  rw [set_val hg] at S1
  exact q _ H F _ (nil_step (Step.refl _ _ _)) S1 (P.set hp) fun vs hv => wipe_set (hv i (by simp))
/-- a tuple of names: (a, b, ..) = a tuple of that length -/
def gTs : List FG → List D → En → Option En
  | [], [], ρ => some ρ
  | g :: gs, d :: ds, ρ => (match g d ρ with
    | none => none
    | some ρ1 => gTs gs ds ρ1)
  | _, _, _ => none
def gT (gs : List FG) : FG := fun d ρ => match d with
  | .tuple ds => gTs gs ds ρ
  | _ => none
def tGs (K : PySem.W.Frag) (ms : List Md) (Γ : List Md) (is : List Nat) (gs : List FG) : TGs := fun v σ H Q => ∃ ρ F fp d ρ' vp, StR K Γ ρ σ F H fp ∧ Pin ms vp σ ∧ RpL K F v d ∧ gTs gs d ρ = some ρ' ∧
  ∀ σ' H' F' fp', Step F H fp F' H' fp' → StR K Γ ρ' σ' F' H' fp' → Pin ms vp σ' → (∀ vs, (∀ i ∈ is, i ∈ vs) → wipe σ' vs = wipe σ vs) → Q σ' H'
abbrev BGs (X : Cx) (ms : List Md) (Γ : List Md) (is : List Nat) (tg : List Expr) (g : List FG) : Prop := PGs X tg (tGs X.K ms Γ is g)
theorem weakGs {X : Cx} {e : List Expr} {t t' : TGs} (h : PGs X e t) (w : ∀ v σ H Q, t' v σ H Q → t v σ H Q) : PGs X e t' := ⟨fun pins s σ H v u Q I r q => h.run pins s σ H v u Q I r (w v σ H Q q)⟩
theorem bgs_nil : BGs X ms Γ [] [] [] := weakGs pgs_nil fun v σ H Q ⟨ρ, F, fp, d, ρ', vp, S, P, r, hg', q⟩ => by
  cases d with
  | nil =>
    cases r
    cases hg'
    exact ⟨rfl, q σ H F fp (Step.refl _ _ _) S P fun _ _ => rfl⟩
  | cons _ _ => cases hg'
theorem bgs_cons {e : Expr} {es : List Expr} {g : FG} {gs : List FG} {is js : List Nat} (h1 : BG X ms Γ is e g) (h2 : BGs X ms Γ js es gs)
    (hs : (assignEach (e :: es) X.env).map (·.2) = assign e X.env :: (assignEach es X.env).map (·.2) := by rfl) : BGs X ms Γ (is ++ js) (e :: es) (g :: gs) := weakGs (pgs_cons h1 h2 hs) fun v σ H Q ⟨ρ, F, fp, d, ρ', vp, S, P, r, hg', q⟩ => by
  cases d with
  | nil => cases hg'
  | cons d ds =>
    cases r with
    | cons r1 r2 =>
      unfold gTs at hg'
      split at hg'
      · cases hg'
      · rename_i ρ1 h
        refine ⟨_, _, rfl, ρ, F, fp, d, ρ1, vp, S, P, r1, h, fun σ1 H1 F1 fp1 s1 S1 P1 w1 => ?_⟩
        refine ⟨ρ1, F1, fp1, ds, ρ', vp, S1, P1, r2.mono s1.ff, hg', fun σ2 H2 F2 fp2 s2 S2 P2 w2 => ?_⟩
        exact q σ2 H2 F2 fp2 (s1.trans s2) S2 P2 fun vs hv => (w2 vs fun i hi => hv i (List.mem_append_right _ hi)).trans (w1 vs fun i hi => hv i (List.mem_append_left _ hi))
theorem gTs_len : ∀ {gs : List FG} {ds : List D} {ρ ρ' : En}, gTs gs ds ρ = some ρ' → ds.length = gs.length
  | [], [], _, _, _ => rfl
  | [], _ :: _, _, _, h => by simp [gTs] at h
  | _ :: _, [], _, _, h => by simp [gTs] at h
  | g :: gs, d :: ds, ρ, ρ', h => by
    unfold gTs at h
    split at h
    · cases h
    · rw [List.length_cons, List.length_cons, gTs_len h]
theorem bg_tup {es : List Expr} {gs : List FG} {is : List Nat} {k : Nat} (hc : X.calm = true) (h : BGs X ms Γ is es gs) (hn : (assignEach es X.env).length = gs.length := by rfl) (hst : (assignEach es X.env).findIdx? (·.1) = none := by rfl) : BG X ms Γ is (.Tuple es k pos) (gT gs) := weakG (pg_tup hc h hn hst) fun v σ H Q ⟨ρ, F, fp, d, ρ', vp, S, P, r, hg', q⟩ => by
  cases d with
  | tuple ds =>
    obtain ⟨a, xs, rfl, h1, h2⟩ := r.tuple
    exact ⟨a, xs, rfl, sqT_same S.sub h1, by rw [h2.length]; exact gTs_len hg', ρ, F, fp, ds, ρ', vp, S, P, h2, hg', q⟩
  | _ => cases hg'
/-- target = value -/
def asgG (f : FE) (g : FG) : FS := fun ρ => match f ρ with
  | none => none
  | some (d, ρ1) => match g d ρ1 with
    | none => none
    | some ρ2 => some (.nx, ρ2)
theorem bs_asg {tg e : Expr} {f : FE} {g : FG} {is : List Nat} (he : BE X Γ e f) (hg : BG X ms Γ is tg g) (hs : swapsWithSole [tg] e pos.line X.env = pure false := by rfl) (hw : swappedStores [tg] e X.env = pure none := by rfl)
    (h1 : (assignEach [tg] X.env).map (·.2) = [assign tg X.env] := by rfl) : BS X ms rm Γl Γ Γ (.Assign [tg] e pos) (asgG f g) := weakS (ps_asg he hg hs hw h1) fun Dn σ H ⟨ρ, F, fp, fl, ρ', vp, S, P, hf, q⟩ => by
  unfold asgG at hf
  split at hf
  · cases hf
  · rename_i d ρ1 h1
    split at hf
    · cases hf
    · rename_i ρ2 h2
      cases hf
      exact ⟨ρ, F, fp, d, ρ1, S, h1, fun v H1 F1 fp1 s1 S1 r1 => ⟨ρ1, F1, fp1, d, _, vp, S1, P, r1, h2, fun σ2 H2 F2 fp2 s2 S2 P2 _ => q σ2 H2 F2 fp2 (s1.trans s2) S2 P2⟩⟩
end
/-! ### what loops walk -/
def ItD (K : PySem.W.Frag) (J : It) (F : Hp) (ds : List D) : Prop := ∀ (i : Nat) (F2 H : Hp), Same F F2 → Same F2 H →
  (∀ d, ds[i]? = some d → J.go i H ∧ ∀ x H', J.yld i H x H' → ∃ F', Alloc F2 H F' H' ∧ Rp K F' x d) ∧ (ds.length ≤ i → J.stop i H)
def tI (K : PySem.W.Frag) (Γ : List Md) (f : FL) : TI := fun σ H R => ∃ ρ F fp ds ρ', StR K Γ ρ σ F H fp ∧ f ρ = some (ds, ρ') ∧ ∀ J H' F' fp', Step F H fp F' H' fp' → StR K Γ ρ' σ F' H' fp' → ItD K J F' ds → R J H'
abbrev BI (X : Cx) (Γ : List Md) (tg it : Expr) (f : FL) : Prop := PI X tg it (tI X.K Γ f)
theorem weakI {X : Cx} {tg e : Expr} {t t' : TI} (h : PI X tg e t) (w : ∀ σ H R, t' σ H R → t σ H R) : PI X tg e t' := ⟨fun pins s σ H R I q => h.run pins s σ H R I (w σ H R q)⟩
def forL (g : FG) (b : FS) : List D → FS
  | [], ρ => some (.nx, ρ)
  | d :: ds, ρ => match g d ρ with
    | none => none
    | some ρ1 => match b ρ1 with
      | none => none
      | some (.nx, ρ2) => forL g b ds ρ2
      | some (.ct, ρ2) => forL g b ds ρ2
      | some (.bk, ρ2) => some (.nx, ρ2)
      | some (.rt d, ρ2) => some (.rt d, ρ2)
def forS (f : FL) (g : FG) (b : FS) : FS := fun ρ => match f ρ with
  | none => none
  | some (ds, ρ1) => forL g b ds ρ1
section
variable {X : Cx} {ms : List Md} {rm : Md} {Γl Γ Γ1 Γ' : List Md} {pos : Pos}
theorem bs_for {tg it : Expr} {body : List Stmt} {f : FL} {g : FG} {b : FS} {is : List Nat} (hp : PassesOwn (model X.prog X.w) X.A X.env X.xe) (hc : X.calm = true) (hi : BI X Γ tg it f) (hg : BG X ms Γ is tg g) (hb : BSs X ms rm Γ Γ Γ body b)
    (hs : ∀ x, foldedSetIterable it X.env x = pure x := by intro _; rfl) : BS X ms rm Γl Γ Γ (.For tg it body [] pos) (forS f g b) := weakS (ps_for hp hc hi hg hb hs) fun Dn σ H ⟨ρ, F, fp, fl, ρ', vp, S, P, hf, q⟩ => by
  unfold forS at hf
  split at hf
  · cases hf
  · rename_i ds ρ1 h1
    refine ⟨ρ, F, fp, ds, ρ1, S, h1, fun J H1 F1 fp1 s1 S1 hJ => ?_⟩
    refine ⟨fun i m σ2 H2 => ∃ ρ2 F2 fp2, StR X.K Γ ρ2 σ2 F2 H2 fp2 ∧ Pin ms vp σ2 ∧ Step F H fp F2 H2 fp2 ∧ Same F1 F2 ∧ m = ds.length - i ∧ forL g b (ds.drop i) ρ2 = some (fl, ρ'), ⟨ds.length, ρ1, F1, fp1, S1, P, s1, Same.refl _, by simp, by simpa using hf⟩, ?_⟩
    rintro i m σ2 H2 ⟨ρ2, F2, fp2, S2, P2, s2, fx, rfl, hL⟩
    obtain ⟨go, stop⟩ := hJ i F2 H2 fx S2.sub
    cases hd : ds[i]? with
    | none =>
      have hl : ds.length ≤ i := List.getElem?_eq_none_iff.mp hd
      rw [List.drop_eq_nil_of_le hl] at hL
      cases hL
      exact .inl ⟨stop hl, q σ2 H2 F2 fp2 s2 S2 P2⟩
    | some d =>
      have hl : i < ds.length := (List.getElem?_eq_some_iff.mp hd).1
      have hd' : ds.drop i = d :: ds.drop (i + 1) := by
        rw [List.drop_eq_getElem_cons hl]
        have e := (List.getElem?_eq_some_iff.mp hd).2
        rw [e]
      rw [hd'] at hL
      obtain ⟨go1, go2⟩ := go d hd
      refine .inr ⟨go1, fun σ3 H3 => ∃ ρ3 F3 fp3, StR X.K Γ ρ3 σ3 F3 H3 fp3 ∧ Pin ms vp σ3 ∧ Step F H fp F3 H3 fp3 ∧ Same F1 F3 ∧ forL g b (ds.drop (i + 1)) ρ3 = some (fl, ρ'), ?_, ?_⟩
      · rintro σ3 H3 ⟨ρ3, F3, fp3, S3, P3, s3, fx3, hL3⟩
        exact ⟨ds.length - (i + 1), by omega, ρ3, F3, fp3, S3, P3, s3, fx3, rfl, hL3⟩
      · intro x H3 hy
        obtain ⟨F3, A, r3⟩ := go2 x H3 hy
        have S3 := S2.alloc A
        have s3 : Step F H fp F3 H3 fp2 := s2.trans A.step
        unfold forL at hL
        split at hL
        · cases hL
        · rename_i ρ3 hg3
          refine ⟨ρ2, F3, fp2, d, ρ3, vp, S3, P2, r3, hg3, fun σ4 H4 F4 fp4 s4 S4 P4 _ => ?_⟩
          have s4' := s3.trans s4
          split at hL
          · cases hL
          · rename_i ρ4 hb4
            exact ⟨ρ3, F4, fp4, .nx, ρ4, vp, S4, P4, hb4, fun σ5 H5 F5 fp5 s5 S5 P5 => ⟨ρ4, F5, fp5, S5, P5, s4'.trans s5, ((fx.trans A.ff).trans s4.ff).trans s5.ff, hL⟩⟩
          · rename_i ρ4 hb4
            exact ⟨ρ3, F4, fp4, .ct, ρ4, vp, S4, P4, hb4, fun σ5 H5 F5 fp5 s5 S5 P5 => ⟨ρ4, F5, fp5, S5, P5, s4'.trans s5, ((fx.trans A.ff).trans s4.ff).trans s5.ff, hL⟩⟩
          · rename_i ρ4 hb4
            cases hL
            exact ⟨ρ3, F4, fp4, .bk, _, vp, S4, P4, hb4, fun σ5 H5 F5 fp5 s5 S5 P5 => q σ5 H5 F5 fp5 (s4'.trans s5) S5 P5⟩
          · rename_i d4 ρ4 hb4
            cases hL
            refine ⟨ρ3, F4, fp4, .rt d4, _, vp, S4, P4, hb4, ?_⟩
            exact FlP.back (ms := ms) (rm := rm) (Γl := Γl) (Γ' := Γ) (Dn := Dn) (fl := .rt d4) s4' q
/-! ### while -/
def whileL (c : FT) (b : FS) : Nat → FS
  | 0, _ => none
  | n + 1, ρ => match c ρ with
    | none => none
    | some (false, ρ1) => some (.nx, ρ1)
    | some (true, ρ1) => match b ρ1 with
      | none => none
      | some (.nx, ρ2) => whileL c b n ρ2
      | some (.ct, ρ2) => whileL c b n ρ2
      | some (.bk, ρ2) => some (.nx, ρ2)
      | some (.rt d, ρ2) => some (.rt d, ρ2)
theorem bs_while (n : Nat) {c : Expr} {body : List Stmt} {fc : FT} {b : FS} (hp : PassesOwn (model X.prog X.w) X.A X.env X.xe) (hc : BT X Γ c fc) (hb : BSs X ms rm Γ Γ Γ body b) : BS X ms rm Γl Γ Γ (.While c body [] pos) (whileL fc b n) := weakS (ps_while hp hc hb) fun Dn σ H ⟨ρ, F, fp, fl, ρ', vp, S, P, hf, q⟩ => by
  refine ⟨fun m σ2 H2 => ∃ ρ2 F2 fp2, StR X.K Γ ρ2 σ2 F2 H2 fp2 ∧ Pin ms vp σ2 ∧ Step F H fp F2 H2 fp2 ∧ whileL fc b m ρ2 = some (fl, ρ'), ⟨n, ρ, F, fp, S, P, Step.refl _ _ _, hf⟩, ?_⟩
  rintro m σ2 H2 ⟨ρ2, F2, fp2, S2, P2, s2, hL⟩
  cases m with
  | zero => cases hL
  | succ m =>
    unfold whileL at hL
    split at hL
    · cases hL
    · rename_i ρ3 h3
      cases hL
      exact ⟨ρ2, F2, fp2, false, _, S2, h3, fun H3 F3 fp3 s3 S3 => iteF (q σ2 H3 F3 fp3 (s2.trans s3) S3 P2)⟩
    · rename_i ρ3 h3
      refine ⟨ρ2, F2, fp2, true, ρ3, S2, h3, fun H3 F3 fp3 s3 S3 => iteT ⟨fun σ4 H4 => ∃ ρ4 F4 fp4, StR X.K Γ ρ4 σ4 F4 H4 fp4 ∧ Pin ms vp σ4 ∧ Step F H fp F4 H4 fp4 ∧ whileL fc b m ρ4 = some (fl, ρ'), ?_, ?_⟩⟩
      · rintro σ4 H4 ⟨ρ4, F4, fp4, S4, P4, s4, hL4⟩
        exact ⟨m, Nat.lt_succ_self m, ρ4, F4, fp4, S4, P4, s4, hL4⟩
      · have s3' := s2.trans s3
        split at hL
        · cases hL
        · rename_i ρ4 hb4
          exact ⟨ρ3, F3, fp3, .nx, ρ4, vp, S3, P2, hb4, fun σ5 H5 F5 fp5 s5 S5 P5 => ⟨ρ4, F5, fp5, S5, P5, s3'.trans s5, hL⟩⟩
        · rename_i ρ4 hb4
          exact ⟨ρ3, F3, fp3, .ct, ρ4, vp, S3, P2, hb4, fun σ5 H5 F5 fp5 s5 S5 P5 => ⟨ρ4, F5, fp5, S5, P5, s3'.trans s5, hL⟩⟩
        · rename_i ρ4 hb4
          cases hL
          exact ⟨ρ3, F3, fp3, .bk, _, vp, S3, P2, hb4, fun σ5 H5 F5 fp5 s5 S5 P5 => q σ5 H5 F5 fp5 (s3'.trans s5) S5 P5⟩
        · rename_i d4 ρ4 hb4
          cases hL
          refine ⟨ρ3, F3, fp3, .rt d4, _, vp, S3, P2, hb4, ?_⟩
          exact FlP.back (ms := ms) (rm := rm) (Γl := Γl) (Γ' := Γ) (Dn := Dn) (fl := .rt d4) s3' q
end
end BV

set_option Elab.async false
set_option linter.all false
set_option maxRecDepth 100000
set_option maxHeartbeats 4000000
namespace BV
open PySem PySem.Spec L2
/-! ## comprehensions -/
def wipeE (ρ : En) : List Nat → En
  | [] => ρ
  | v :: vs => (wipeE ρ vs).set v none
def backE (ρ ρ2 : En) : List Nat → En
  | [] => ρ2
  | v :: vs => (backE ρ ρ2 vs).set v (ρ.getD v none)
def fpWipe (fp : Fp) : List Nat → Fp
  | [] => fp
  | v :: vs => fpSet (fpWipe fp vs) v []
theorem wipeE_get {ρ : En} {i : Nat} {d : D} : ∀ {vs : List Nat}, (wipeE ρ vs)[i]? = some (some d) → ρ[i]? = some (some d) ∧ i ∉ vs
  | [], h => ⟨h, by simp⟩
  | v :: vs, h => by
    unfold wipeE at h
    by_cases hi : v = i
    · subst hi
      by_cases hv : v < (wipeE ρ vs).length
      · rw [List.getElem?_set_self hv] at h; cases h
      · rw [List.getElem?_eq_none (by simpa using hv)] at h; cases h
    · rw [List.getElem?_set_ne hi] at h
      obtain ⟨h1, h2⟩ := wipeE_get h
      exact ⟨h1, by simp only [List.mem_cons, not_or]; exact ⟨fun e => hi e.symm, h2⟩⟩
theorem wipeE_len (ρ : En) : ∀ vs : List Nat, (wipeE ρ vs).length = ρ.length
  | [] => rfl
  | v :: vs => by unfold wipeE; rw [List.length_set, wipeE_len ρ vs]
theorem backE_len (ρ ρ2 : En) : ∀ vs : List Nat, (backE ρ ρ2 vs).length = ρ2.length
  | [] => rfl
  | v :: vs => by unfold backE; rw [List.length_set, backE_len ρ ρ2 vs]
theorem backE_get {ρ ρ2 : En} {i : Nat} {d : D} : ∀ {vs : List Nat}, (backE ρ ρ2 vs)[i]? = some (some d) → (i ∈ vs ∧ ρ[i]? = some (some d)) ∨ (i ∉ vs ∧ ρ2[i]? = some (some d))
  | [], h => .inr ⟨by simp, h⟩
  | v :: vs, h => by
    unfold backE at h
    by_cases hi : v = i
    · subst hi
      by_cases hv : v < (backE ρ ρ2 vs).length
      · rw [List.getElem?_set_self hv] at h
        have h' : ρ.getD v none = some d := Option.some.inj h
        rw [List.getD_eq_getElem?_getD] at h'
        refine .inl ⟨by simp, ?_⟩
        cases e : ρ[v]? with
        | none => rw [e] at h'; cases h'
        | some o => rw [e] at h'; rw [show o = some d from h']
      · rw [List.getElem?_eq_none (by simpa using hv)] at h; cases h
    · rw [List.getElem?_set_ne hi] at h
      rcases backE_get h with ⟨h1, h2⟩ | ⟨h1, h2⟩
      · exact .inl ⟨List.mem_cons_of_mem _ h1, h2⟩
      · exact .inr ⟨by simp only [List.mem_cons, not_or]; exact ⟨fun e => hi e.symm, h1⟩, h2⟩
theorem wipe_get {σ : Sl} {i : Nat} : ∀ {vs : List Nat}, i ∉ vs → (wipe σ vs)[i]? = σ[i]?
  | [], _ => rfl
  | v :: vs, h => by
    simp only [List.mem_cons, not_or] at h
    unfold wipe
    rw [List.getElem?_set_ne (Ne.symm h.1)]
    exact wipe_get h.2
theorem fpWipe_in {fp : Fp} {i : Nat} : ∀ {vs : List Nat}, i ∈ vs → fpWipe fp vs i = []
  | v :: vs, h => by
    unfold fpWipe
    by_cases e : i = v
    · subst e; exact fpSet_same
    · rw [fpSet_ne e]; exact fpWipe_in ((List.mem_cons.mp h).resolve_left e)
theorem fpWipe_out {fp : Fp} {i : Nat} : ∀ {vs : List Nat}, i ∉ vs → fpWipe fp vs i = fp i
  | [], _ => rfl
  | v :: vs, h => by
    simp only [List.mem_cons, not_or] at h
    unfold fpWipe
    rw [fpSet_ne h.1]; exact fpWipe_out h.2
section
variable {K : PySem.W.Frag} {ms : List Md} {Γ : List Md} {ρ : En} {σ : Sl} {F H F' H' : Hp} {fp fp' : Fp}
/-- the block's own names are forgotten within -/
theorem StR.wipe (S : StR K Γ ρ σ F H fp) (vs : List Nat) : StR K Γ (wipeE ρ vs) (wipe σ vs) F H (fpWipe fp vs) where
  sub := S.sub
  len := by rw [wipeE_len, wipe_length]; exact S.len
  lenG := by rw [wipe_length]; exact S.lenG
  slot := fun i d e => by
    obtain ⟨e1, e2⟩ := wipeE_get e
    obtain ⟨v, h1, h2⟩ := S.slot i d e1
    exact ⟨v, by rw [wipe_get e2]; exact h1, by rw [fpWipe_out e2]; exact h2⟩
  emp := fun i h => by
    by_cases hi : i ∈ vs
    · exact fpWipe_in hi
    · rw [fpWipe_out hi]
      refine S.emp i fun d e => h d ?_
      have go : ∀ ws : List Nat, i ∉ ws → (wipeE ρ ws)[i]? = ρ[i]? := by
        intro ws
        induction ws with
        | nil => intro _; rfl
        | cons w ws ih =>
          intro hw
          simp only [List.mem_cons, not_or] at hw
          unfold wipeE
          rw [List.getElem?_set_ne (Ne.symm hw.1)]
          exact ih hw.2
      rw [go vs hi]
      exact e
  nd := fun i => by
    by_cases hi : i ∈ vs
    · rw [fpWipe_in hi]; exact List.nodup_nil
    · rw [fpWipe_out hi]; exact S.nd i
  dis := fun i j a h1 h2 => by
    by_cases hi : i ∈ vs
    · rw [fpWipe_in hi] at h1; simp at h1
    · by_cases hj : j ∈ vs
      · rw [fpWipe_in hj] at h2; simp at h2
      · rw [fpWipe_out hi] at h1
        rw [fpWipe_out hj] at h2
        exact S.dis i j a h1 h2
  fr := fun i a h => by
    by_cases hi : i ∈ vs
    · rw [fpWipe_in hi] at h; simp at h
    · rw [fpWipe_out hi] at h; exact S.fr i a h
theorem wipe_step (s : Step F H fp F' H' fp') (vs : List Nat) : Step F H fp F' H' (fpWipe fp' vs) := ⟨s.ff, s.hh, s.live, s.new, fun i a h => by
    by_cases hi : i ∈ vs
    · rw [fpWipe_in hi] at h; simp at h
    · rw [fpWipe_out hi] at h; exact s.nfp i a h⟩
/-- from within a block back to the frame; vs: names that hold frozen things in the frame -/
theorem StR.back {ρ2 : En} {vs : List Nat} (S0 : StR K Γ ρ σ F H fp) (S : StR K Γ ρ2 (L2.wipe σ vs) F' H' fp') (s : Same F F') (hv : ∀ i ∈ vs, Γ.getD i .val = .val) (hw : ∀ i ∈ vs, ∀ d, ρ2[i]? ≠ some (some d)) : StR K Γ (backE ρ ρ2 vs) σ F' H' fp' where
  sub := S.sub
  len := by
    have h := S.len
    rw [wipe_length] at h
    rw [backE_len]; exact h
  lenG := S0.lenG
  slot := fun i d e => by
    rcases backE_get e with ⟨h1, h2⟩ | ⟨h1, h2⟩
    · obtain ⟨v, q1, q2⟩ := S0.slot i d h2
      rw [hv i h1] at q2 ⊢
      refine ⟨v, q1, ⟨q2.1.mono s, S.emp i (hw i h1)⟩⟩
    · obtain ⟨v, q1, q2⟩ := S.slot i d h2
      rw [wipe_get h1] at q1
      exact ⟨v, q1, q2⟩
  emp := fun i h => by
    refine S.emp i fun d e => ?_
    have hi : i ∉ vs := fun hi => hw i hi d e
    refine h d ?_
    have go : ∀ ws : List Nat, i ∉ ws → (backE ρ ρ2 ws)[i]? = ρ2[i]? := by
      intro ws
      induction ws with
      | nil => intro _; rfl
      | cons w ws ih =>
        intro hw
        simp only [List.mem_cons, not_or] at hw
        unfold backE
        rw [List.getElem?_set_ne (Ne.symm hw.1)]
        exact ih hw.2
    rw [go vs hi]
    exact e
  nd := S.nd
  dis := S.dis
  fr := S.fr
def Pend (pq : List Addr) (F H : Hp) (fp : Fp) : Prop := ∀ a ∈ pq, H a ≠ none ∧ F a = none ∧ ∀ i, a ∉ fp i
theorem Pend.step {pq : List Addr} (p : Pend pq F H fp) (s : Step F H fp F' H' fp') : Pend pq F' H' fp' ∧ ∀ a ∈ pq, H' a = H a := by
  have k : ∀ a ∈ pq, H' a = H a := fun a ha => by
    obtain ⟨h1, h2, h3⟩ := p a ha
    cases e : H a with
    | none => exact absurd e h1
    | some o => exact s.hh a o e h3
  refine ⟨fun a ha => ?_, k⟩
  obtain ⟨h1, h2, h3⟩ := p a ha
  refine ⟨by rw [k a ha]; exact h1, ?_, fun i hi => ?_⟩
  · cases e : F' a with
    | none => rfl
    | some o =>
      rcases s.new a (by rw [e]; simp) with z | z | ⟨i, z⟩
      · exact absurd h2 z
      · exact absurd z h1
      · exact absurd z (h3 i)
  · rcases s.nfp i a hi with z | ⟨j, z⟩
    · exact h1 z
    · exact h3 j z
theorem OwA.append {P : V → D → List Addr → Prop} : ∀ {vs ws : List V} {ds es : List D} {p q : List Addr}, OwA P vs ds p → OwA P ws es q → OwA P (vs ++ ws) (ds ++ es) (p ++ q)
  | _, _, _, _, _, _, .nil, s => s
  | _, _, _, _, _, _, .cons h t, s => by
    rw [List.append_assoc]
    exact .cons h (OwA.append t s)
theorem OwA.one {P : V → D → List Addr → Prop} {v : V} {d : D} {q : List Addr} (h : P v d q) : OwA P [v] [d] q := by
  have e := OwA.cons h (OwA.nil (P := P))
  rw [List.append_nil] at e
  exact e
end
abbrev BTs (X : Cx) (Γ : List Md) (es : List Expr) (f : FT) : Prop := PTs X es (tB X.K Γ f)
def yT : FT := fun ρ => some (true, ρ)
theorem bts_nil {X : Cx} {Γ : List Md} : BTs X Γ [] yT := ⟨fun pins s σ H Q I ⟨ρ, F, fp, d, ρ', S, hf, q⟩ => pts_nil.run pins s σ H Q I (by cases hf; exact q H F fp (Step.refl _ _ _) S)⟩
theorem bts_one {X : Cx} {Γ : List Md} {c : Expr} {f : FT} (h : BT X Γ c f) : BTs X Γ [c] f := pts_one h
theorem be_bo {X : Cx} {Γ : List Md} {e : Expr} {f : FE} (h : BE X Γ e f) : BO X Γ .val e f := weakE h fun σ H Q ⟨ρ, F, fp, d, ρ', S, hf, q⟩ =>
  ⟨ρ, F, fp, d, ρ', S, hf, fun v H' F' fp' s S' r => q v H' F' fp' [] s S' (own_val r)⟩
def lcL (g : FG) (t : FT) (e : FE) (vs : List Nat) : List D → En → Option (List D × En)
  | [], ρ => some ([], ρ)
  | d :: ds, ρ => match g d ρ with
    | none => none
    | some ρ1 => match t ρ1 with
      | none => none
      | some (true, ρ2) => (match e ρ2 with
        | none => none
        | some (y, ρ3) => match lcL g t e vs ds (wipeE ρ3 vs) with
          | none => none
          | some (ys, ρ4) => some (y :: ys, ρ4))
      | some (false, ρ2) => lcL g t e vs ds (wipeE ρ2 vs)
def lcE (f : FL) (g : FG) (t : FT) (e : FE) (vs : List Nat) : FE := fun ρ => match f ρ with
  | none => none
  | some (ds, ρ1) => if ds.length ≤ 1000000 then (match lcL g t e vs ds (wipeE ρ1 vs) with
    | none => none
    | some (ys, ρ2) => some (.list ys, backE ρ1 ρ2 vs)) else none
theorem million : 1000000 ≤ sizeLine := by rw [sizeLine_eq]; decide
section
variable {X : Cx} {Γ : List Md} {pos : Pos}
theorem tLc_of {K : PySem.W.Frag} {f : FL} {g : FG} {t : FT} {e : FE} {is : List Nat} {m : Md} (vs : List Nat) (hv : ∀ i ∈ vs, Γ.getD i .val = .val) (his : ∀ i ∈ is, i ∈ vs) : ∀ σ H Q, tO K Γ (.lst m) (lcE f g t e vs) σ H Q → tLc (tI K Γ f) (tG K [] Γ is g) (tB K Γ t) (tO K Γ m e) vs σ H Q := fun σ H Q ⟨ρ, F, fp, d, ρ', S, hf, q⟩ => by
  unfold lcE at hf
  split at hf
  · cases hf
  · rename_i ds ρ1 h1
    split at hf
    case isFalse => cases hf
    rename_i hlen
    split at hf
    · cases hf
    · rename_i ys ρ2 h2
      cases hf
      refine ⟨ρ, F, fp, ds, ρ1, S, h1, fun J H1 F1 fp1 s1 S1 hJ D hD => ?_⟩
      have hHD : H D = none ∨ ∃ i, D ∈ fp i := s1.dead hD
      have hFD : F1 D = none := S1.sub.free hD
      have updS : ∀ {F4 H4 fp4 o}, Step F H fp F4 H4 fp4 → Step F H fp F4 (upd H4 D o) fp4 := fun {F4 H4 fp4 o} s => ⟨s.ff, fun a u h n => by
          have ne : a ≠ D := fun z => by
            subst z
            rcases hHD with w | ⟨i, w⟩
            · rw [w] at h; cases h
            · exact n i w
          rw [upd_ne ne]; exact s.hh a u h n, fun a h => by
          by_cases ha : a = D
          · subst ha; rw [upd_same]; exact .inl (by simp)
          · rw [upd_ne ha]; exact s.live a h, s.new, s.nfp⟩
      have updR : ∀ {F4 H4 fp4 o ρ4 σ4}, StR K Γ ρ4 σ4 F4 H4 fp4 → F4 D = none → (∀ i, D ∉ fp4 i) → StR K Γ ρ4 σ4 F4 (upd H4 D o) fp4 := fun {F4 H4 fp4 o ρ4 σ4} S hF hn =>
        S.stay (Same.refl _) (fun a u h => by rw [upd_ne (ne_of_none h hF)]; exact S.sub a u h) (fun i a h => upd_ne fun z => hn i (z ▸ h)) S.fr
      have nfp1 : ∀ i, D ∉ fp1 i := fun i h => S1.live h hD
      refine ⟨fun i k H2 => ∃ (ρ3 : En) (F2 : Hp) (fp2 : Fp) (acc : List V) (dn : List PyData) (qs : List Addr) (zs : List PyData), StR K Γ ρ3 (wipe σ vs) F2 H2 fp2 ∧ (∀ j ∈ vs, ∀ d, ρ3[j]? ≠ some (some d)) ∧ Step F H fp F2 H2 fp2 ∧ Same F1 F2 ∧ H2 D = some (.lst acc) ∧ acc.length ≤ i ∧
        OwA (Ow K F2 H2 m) acc dn qs ∧ (D :: qs).Nodup ∧ Pend (D :: qs) F2 H2 fp2 ∧ (∀ a ∈ qs, H a = none ∨ ∃ j, a ∈ fp j) ∧ k = ds.length - i ∧ lcL g t e vs (ds.drop i) ρ3 = some (zs, ρ2) ∧ dn ++ zs = ys, ?_, ?_⟩
      · refine ⟨ds.length, wipeE ρ1 vs, F1, fpWipe fp1 vs, [], [], [], ys, ?_, fun j hj d h => (wipeE_get h).2 hj, ?_, Same.refl _, upd_same, Nat.zero_le _, .nil, by simp, ?_, fun a h => by simp at h, by simp, by simpa using h2, rfl⟩
        · refine updR (S1.wipe vs) hFD fun i h => ?_
          by_cases hi : i ∈ vs
          · rw [fpWipe_in hi] at h; simp at h
          · rw [fpWipe_out hi] at h; exact nfp1 i h
        · exact updS (wipe_step s1 vs)
        · intro a ha
          have e : a = D := by simpa using ha
          subst e
          refine ⟨by rw [upd_same]; simp, hFD, fun i h => ?_⟩
          by_cases hi : i ∈ vs
          · rw [fpWipe_in hi] at h; simp at h
          · rw [fpWipe_out hi] at h; exact nfp1 i h
      · rintro i k H2 ⟨ρ3, F2, fp2, acc, dn, qs, zs, S2, nv, s2, fx, hA, hl, hO, hnd, hP, hnew, rfl, hL, hz⟩
        obtain ⟨go, stop⟩ := hJ i F2 H2 fx S2.sub
        cases hd : ds[i]? with
        | none =>
          have hli : ds.length ≤ i := List.getElem?_eq_none_iff.mp hd
          rw [List.drop_eq_nil_of_le hli] at hL
          cases hL
          rw [List.append_nil] at hz
          subst hz
          refine .inl ⟨stop hli, q _ H2 F2 fp2 (D :: qs) s2 (S1.back S2 fx hv nv) ⟨⟨D, acc, dn, qs, rfl, rfl, hA, hO, rfl⟩, hnd, fun a ha => (hP a ha).2.1, fun a ha j => (hP a ha).2.2 j, fun a ha => ?_⟩⟩
          rcases List.mem_cons.mp ha with e | ha
          · subst e; exact hHD
          · exact hnew a ha
        | some d =>
          have hli : i < ds.length := (List.getElem?_eq_some_iff.mp hd).1
          have hd' : ds.drop i = d :: ds.drop (i + 1) := by
            rw [List.drop_eq_getElem_cons hli]
            have e := (List.getElem?_eq_some_iff.mp hd).2
            rw [e]
          rw [hd'] at hL
          obtain ⟨go1, go2⟩ := go d hd
          refine .inr ⟨go1, fun H3 => ∃ (ρ3 : En) (F2 : Hp) (fp2 : Fp) (acc : List V) (dn : List PyData) (qs : List Addr) (zs : List PyData), StR K Γ ρ3 (wipe σ vs) F2 H3 fp2 ∧ (∀ j ∈ vs, ∀ d, ρ3[j]? ≠ some (some d)) ∧ Step F H fp F2 H3 fp2 ∧ Same F1 F2 ∧ H3 D = some (.lst acc) ∧ acc.length ≤ i + 1 ∧
            OwA (Ow K F2 H3 m) acc dn qs ∧ (D :: qs).Nodup ∧ Pend (D :: qs) F2 H3 fp2 ∧ (∀ a ∈ qs, H a = none ∨ ∃ j, a ∈ fp j) ∧ lcL g t e vs (ds.drop (i + 1)) ρ3 = some (zs, ρ2) ∧ dn ++ zs = ys, ?_, ?_⟩
          · rintro H3 ⟨ρ4, F4, fp4, acc4, dn4, qs4, zs4, h1, h2, h3, h4, h5, h6, h7, h8, h9, h10, h11, h12⟩
            exact ⟨ds.length - (i + 1), by omega, ρ4, F4, fp4, acc4, dn4, qs4, zs4, h1, h2, h3, h4, h5, h6, h7, h8, h9, h10, rfl, h11, h12⟩
          · intro x H3 hy
            obtain ⟨F3, A, r3⟩ := go2 x H3 hy
            have S3 := S2.alloc A
            unfold lcL at hL
            split at hL
            · cases hL
            · rename_i ρ4 hg4
              refine ⟨ρ3, F3, fp2, d, ρ4, fun _ => .non, S3, fun p hp => by simp [Md.own] at hp, r3, hg4, fun σ4 H4 F4 fp4 s4 S4 P4 w4 => ?_⟩
              have wσ : wipe σ4 vs = wipe σ vs := (w4 vs his).trans (wipe_wipe σ vs)
              refine ⟨wσ, ?_⟩
              have s24 : Step F2 H2 fp2 F4 H4 fp4 := (A.step (fp := fp2)).trans s4
              split at hL
              · cases hL
              · rename_i ρ5 ht5
                refine ⟨ρ4, F4, fp4, true, ρ5, S4, ht5, fun H5 F5 fp5 s5 S5 => iteT ?_⟩
                split at hL
                · cases hL
                · rename_i y ρ6 he6
                  refine ⟨ρ5, F5, fp5, y, ρ6, S5, he6, fun v H6 F6 fp6 qy s6 S6 o6 => ?_⟩
                  have s26 : Step F2 H2 fp2 F6 H6 fp6 := (s24.trans s5).trans s6
                  obtain ⟨hP6, k6⟩ := hP.step s26
                  split at hL
                  · cases hL
                  · rename_i zs7 ρ7 hl7
                    cases hL
                    refine ⟨acc, (k6 D List.mem_cons_self).trans hA, by have := million; omega, ?_⟩
                    have o2 := o6.back (s24.trans s5)
                    have qyn : ∀ a ∈ qy, a ∉ D :: qs := fun a ha hm => by
                      rcases o2.new a ha with z | ⟨j, z⟩
                      · exact (hP a hm).1 z
                      · exact (hP a hm).2.2 j z
                    have qyD : ∀ a ∈ qy, a ≠ D := fun a ha z => qyn a ha (by rw [z]; exact List.mem_cons_self)
                    have fD6 : F6 D = none := (hP6 D List.mem_cons_self).2.1
                    have S6w := S6.wipe vs
                    rw [show L2.wipe σ4 vs = L2.wipe σ vs from wσ] at S6w
                    have nD : ∀ i, D ∉ fpWipe fp6 vs i := fun j h => by
                      by_cases hj : j ∈ vs
                      · rw [fpWipe_in hj] at h; simp at h
                      · rw [fpWipe_out hj] at h; exact (hP6 D List.mem_cons_self).2.2 j h
                    refine ⟨wipeE ρ6 vs, F6, fpWipe fp6 vs, acc ++ [v], dn ++ [y], qs ++ qy, zs7, updR S6w fD6 nD, fun j hj d h => (wipeE_get h).2 hj, updS (wipe_step (s2.trans s26) vs), fx.trans s26.ff, upd_same, by rw [List.length_append, List.length_singleton]; omega, ?_, ?_, ?_, ?_, hl7, by rw [List.append_assoc]; exact hz⟩
                    · refine OwA.append (hO.imp fun v d q hq h => h.keep s26.ff fun a ha => ?_) (OwA.one (o6.ow.keep (Same.refl _) fun a ha => upd_ne (qyD a ha)))
                      have hm : a ∈ D :: qs := List.mem_cons_of_mem _ (hq a ha)
                      have ne : a ≠ D := fun z => by
                        have h1 := (List.nodup_cons.mp hnd).1
                        exact h1 (z ▸ hq a ha)
                      rw [upd_ne ne]
                      exact k6 a hm
                    · rw [← List.cons_append]
                      refine List.nodup_append.mpr ⟨hnd, o6.nd, fun a h1 b h2 z => qyn b h2 (z ▸ h1)⟩
                    · intro a ha
                      have nfw : ∀ j, a ∉ fp6 j → a ∉ fpWipe fp6 vs j := fun j h1 h2 => by
                        by_cases hj : j ∈ vs
                        · rw [fpWipe_in hj] at h2; simp at h2
                        · rw [fpWipe_out hj] at h2; exact h1 h2
                      rw [← List.cons_append] at ha
                      rcases List.mem_append.mp ha with ha | ha
                      · obtain ⟨z1, z2, z3⟩ := hP6 a ha
                        refine ⟨?_, z2, fun j => nfw j (z3 j)⟩
                        by_cases e : a = D
                        · subst e; rw [upd_same]; simp
                        · rw [upd_ne e]; exact z1
                      · refine ⟨?_, o6.fr a ha, fun j => nfw j (o6.dis a ha j)⟩
                        rw [upd_ne (qyD a ha)]
                        exact o6.ow.live a ha
                    · intro a ha
                      rcases List.mem_append.mp ha with ha | ha
                      · exact hnew a ha
                      · exact ((o2.back s2).new a ha)
              · rename_i ρ5 ht5
                refine ⟨ρ4, F4, fp4, false, ρ5, S4, ht5, fun H5 F5 fp5 s5 S5 => iteF ?_⟩
                have s25 : Step F2 H2 fp2 F5 H5 fp5 := s24.trans s5
                obtain ⟨hP5, k5⟩ := hP.step s25
                have S5w := S5.wipe vs
                rw [show L2.wipe σ4 vs = L2.wipe σ vs from wσ] at S5w
                refine ⟨wipeE ρ5 vs, F5, fpWipe fp5 vs, acc, dn, qs, zs, S5w, fun j hj d h => (wipeE_get h).2 hj, wipe_step (s2.trans s25) vs, fx.trans s25.ff, (k5 D List.mem_cons_self).trans hA, by omega, hO.imp fun v d q hq h => h.keep s25.ff fun a ha => k5 a (List.mem_cons_of_mem _ (hq a ha)), hnd, fun a ha => ?_, hnew, hL, hz⟩
                obtain ⟨z1, z2, z3⟩ := hP5 a ha
                refine ⟨z1, z2, fun j h2 => ?_⟩
                by_cases hj : j ∈ vs
                · rw [fpWipe_in hj] at h2; simp at h2
                · rw [fpWipe_out hj] at h2; exact z3 j h2
/-- [elt for tg in iter if ..] -/
theorem bo_lc {elt tg iter : Expr} {ifs : List Expr} {scope : Scope} (own : List (Str × Nat)) {f : FL} {g : FG} {t : FT} {e : FE} {is : List Nat} {m : Md} (hc : X.calm = true) (hN : X.N.Nodup) (hi : BI X Γ tg iter f) (ok : BlkOk X.N X.env.scope scope own)
    (hg : ∀ (s : Shared) (H : Hp) (C : Addr) (cl : List (Str × Addr)) (fp : List Addr), BG (X.blk s H scope (compEnvC scope cl C X.env) fp) [] Γ is tg g) (ht : ∀ (s : Shared) (H : Hp) (C : Addr) (cl : List (Str × Addr)) (fp : List Addr), BTs (X.blk s H scope (compEnvC scope cl C X.env) fp) Γ ifs t)
    (he : ∀ (s : Shared) (H : Hp) (C : Addr) (cl : List (Str × Addr)) (fp : List Addr), BO (X.blk s H scope (compEnvC scope cl C X.env) fp) Γ m elt e) (hv : ∀ i ∈ own.map (·.2), Γ.getD i .val = .val := by first | decide | ((try intro i hi); (try simp only [List.map_cons, List.map_nil, List.mem_cons, List.not_mem_nil, or_false] at hi); (repeat' (rcases hi with hi | hi)) <;> (first | rfl | (subst hi; rfl)))) (his : ∀ i ∈ is, i ∈ own.map (·.2) := by decide) (hs : ∀ x, foldedSetIterable iter X.env x = pure x := by intro _; rfl) :
    BO X Γ (.lst m) (.ListComp elt [⟨tg, iter, ifs, 0⟩] scope pos) (lcE f g t e (own.map (·.2))) := weakE (pe_lc hc hN hi ok hg ht he hs) (tLc_of (own.map (·.2)) hv his)
theorem bs_setLc (i : Nat) {ms : List Md} {rm : Md} {Γl : List Md} {y : Str} {py : Pos} {elt tg iter : Expr} {ifs : List Expr} {scope : Scope} (own : List (Str × Nat)) {spos : Pos} {f : FL} {g : FG} {t : FT} {e : FE} {is : List Nat} {m : Md} (hc : X.calm = true) (hN : X.N.Nodup) (hy : X.N[i]? = some y) (hyl : X.env.scope.names.lookup y = some .local)
    (hsw : swapsWith (.ListComp elt [⟨tg, iter, ifs, 0⟩] scope pos) (some (.Name y py)) spos.line X.env = pure true) (hi : BI X Γ tg iter f) (ok : BlkOk X.N X.env.scope scope own)
    (hg : ∀ (s : Shared) (H : Hp) (C : Addr) (cl : List (Str × Addr)) (fp : List Addr), BG (X.blk s H scope (compEnvC scope cl C X.env) fp) [] Γ is tg g) (ht : ∀ (s : Shared) (H : Hp) (C : Addr) (cl : List (Str × Addr)) (fp : List Addr), BTs (X.blk s H scope (compEnvC scope cl C X.env) fp) Γ ifs t)
    (he : ∀ (s : Shared) (H : Hp) (C : Addr) (cl : List (Str × Addr)) (fp : List Addr), BO (X.blk s H scope (compEnvC scope cl C X.env) fp) Γ m elt e) (hv : ∀ i ∈ own.map (·.2), Γ.getD i .val = .val := by first | decide | ((try intro i hi); (try simp only [List.map_cons, List.map_nil, List.mem_cons, List.not_mem_nil, or_false] at hi); (repeat' (rcases hi with hi | hi)) <;> (first | rfl | (subst hi; rfl)))) (his : ∀ i ∈ is, i ∈ own.map (·.2) := by decide) (hl : i < Γ.length := by exact Nat.le_of_ble_eq_true rfl) (hp : (ms.getD i .val).own = false := by rfl) (hs : ∀ x, foldedSetIterable iter X.env x = pure x := by intro _; rfl) :
    BS X ms rm Γl Γ (Γ.set i (.lst m)) (.Assign [.Name y py] (.ListComp elt [⟨tg, iter, ifs, 0⟩] scope pos) spos) (asgS i (lcE f g t e (own.map (·.2)))) :=
  weakS (ps_setLc (wi := tI X.K Γ f) (g := tG X.K [] Γ is g) (tt := tB X.K Γ t) (te := tO X.K Γ m e) hc hN hy hyl hsw hi ok hg ht he hs) fun Dn σ H h => by
    have h1 := tAsgO_of (K := X.K) (m := .lst m) (f := lcE f g t e (own.map (·.2))) hl hp Dn σ H h
    exact tLc_of (K := X.K) (f := f) (g := g) (t := t) (e := e) (is := is) (m := m) _ hv his σ H (fun x H1 => gName i x σ H1 Dn.nx) h1
end
end BV

set_option Elab.async false
set_option linter.all false
set_option maxRecDepth 100000
set_option maxHeartbeats 4000000
namespace BV
open PySem PySem.Spec L2
/-! ## displays -/
def nilL : FL := fun ρ => some ([], ρ)
def consL (f : FE) (g : FL) : FL := fun ρ => match f ρ with
  | none => none
  | some (d, ρ1) => match g ρ1 with
    | none => none
    | some (ds, ρ2) => some (d :: ds, ρ2)
def tupE (f : FL) : FE := fun ρ => match f ρ with
  | none => none
  | some (ds, ρ1) => if ds.length ≤ 1000000 then some (.tuple ds, ρ1) else none
def lstE (f : FL) : FE := fun ρ => match f ρ with
  | none => none
  | some (ds, ρ1) => if ds.length ≤ 1000000 then some (.list ds, ρ1) else none
section
variable {X : Cx} {Γ : List Md} {pos : Pos}
theorem bl_nil : BL X Γ [] nilL := weakA pa_nil fun σ H Q ⟨ρ, F, fp, d, ρ', S, hf, q⟩ => by
  cases hf
  exact q [] H F fp (Step.refl _ _ _) S .nil
theorem bl_cons {e : Expr} {es : List Expr} {f : FE} {g : FL} (ha : BE X Γ e f) (hr : BL X Γ es g) (hs : starEach (e :: es) X.env = (false, eval e X.env) :: starEach es X.env := by rfl) : BL X Γ (e :: es) (consL f g) := weakA (pa_cons ha hr hs) fun σ H Q ⟨ρ, F, fp, d, ρ', S, hf, q⟩ => by
  unfold consL at hf
  split at hf
  · cases hf
  · rename_i d1 ρ1 h1
    split at hf
    · cases hf
    · rename_i ds ρ2 h2
      cases hf
      exact ⟨ρ, F, fp, d1, ρ1, S, h1, fun v H1 F1 fp1 s1 S1 r1 => ⟨ρ1, F1, fp1, ds, _, S1, h2, fun vs H2 F2 fp2 s2 S2 r2 => q (v :: vs) H2 F2 fp2 (s1.trans s2) S2 (.cons (r1.mono s2.ff) r2)⟩⟩
theorem be_tup {es : List Expr} {f : FL} {x1} (h : BL X Γ es f) : BE X Γ (.Tuple es x1 pos) (tupE f) := weakE (pe_tup h) fun σ H Q ⟨ρ, F, fp, d, ρ', S, hf, q⟩ => by
  unfold tupE at hf
  split at hf
  · cases hf
  · rename_i ds ρ1 h1
    split at hf
    case isFalse => cases hf
    rename_i hl
    cases hf
    refine ⟨ρ, F, fp, ds, _, S, h1, fun vs H1 F1 fp1 s1 S1 r1 => ⟨by rw [r1.length]; exact Nat.le_trans hl million, fun p hp => ?_⟩⟩
    have A := Alloc.new1 (o := .tup vs) S1.sub hp
    exact q _ _ _ fp1 (s1.trans A.step) (S1.alloc A) (.tup (SqT.of upd_same) (r1.mono A.ff))
theorem new_own {K : PySem.W.Frag} {ρ : En} {σ : Sl} {F H : Hp} {fp : Fp} {p : Addr} {o : HO} (S : StR K Γ ρ σ F H fp) (hp : H p = none) : Step F H fp F (upd H p o) fp ∧ StR K Γ ρ σ F (upd H p o) fp ∧ F p = none ∧ ∀ i, p ∉ fp i := by
  have hF : F p = none := S.sub.free hp
  have hn : ∀ i, p ∉ fp i := fun i h => S.live h hp
  refine ⟨⟨Same.refl _, fun a u h _ => by rw [upd_ne (ne_of_none h hp)]; exact h, fun a h => .inl ?_, fun a h => .inl h, fun i a h => .inr ⟨i, h⟩⟩, S.stay (Same.refl _) (fun a u h => by rw [upd_ne (ne_of_none h hF)]; exact S.sub a u h) (fun i a h => upd_ne fun z => hn i (z ▸ h)) S.fr, hF, hn⟩
  by_cases e : a = p
  · subst e; rw [upd_same]; simp
  · rw [upd_ne e]; exact h
theorem owA_val {K : PySem.W.Frag} {F H : Hp} : ∀ {vs : List V} {ds : List D}, RpL K F vs ds → OwA (Ow K F H .val) vs ds []
  | _, _, .nil => .nil
  | _, _, .cons h t => OwA.cons (fp := []) ⟨h, rfl⟩ (owA_val t)
theorem owA_rp {K : PySem.W.Frag} {F H : Hp} : ∀ {vs : List V} {ds : List D} {q : List Addr}, OwA (Ow K F H .val) vs ds q → RpL K F vs ds ∧ q = []
  | _, _, _, .nil => ⟨.nil, rfl⟩
  | _, _, _, .cons h t => by
    obtain ⟨h1, h2⟩ := h
    obtain ⟨t1, t2⟩ := owA_rp t
    subst h2 t2
    exact ⟨.cons h1 t1, rfl⟩
theorem own_new {K : PySem.W.Frag} {ρ : En} {σ : Sl} {F H : Hp} {fp : Fp} {p : Addr} {xs : List V} {ds : List D} (S : StR K Γ ρ σ F H fp) (hp : H p = none) (r : RpL K F xs ds) : Own1 K (.lst .val) F H fp F (upd H p (.lst xs)) fp (.ref p) (.list ds) [p] := by
  have hF : F p = none := S.sub.free hp
  refine ⟨⟨p, xs, ds, [], rfl, rfl, upd_same, owA_val r, rfl⟩, by simp, fun a ha => ?_, fun a ha i h => ?_, fun a ha => ?_⟩
  · have e : a = p := by simpa using ha
    subst e; exact hF
  · have e : a = p := by simpa using ha
    subst e; exact S.live h hp
  · have e : a = p := by simpa using ha
    subst e; exact .inl hp
theorem bo_lst {es : List Expr} {f : FL} (h : BL X Γ es f) : BO X Γ (.lst .val) (.List es pos) (lstE f) := weakE (pe_lst h) fun σ H Q ⟨ρ, F, fp, d, ρ', S, hf, q⟩ => by
  unfold lstE at hf
  split at hf
  · cases hf
  · rename_i ds ρ1 h1
    split at hf
    case isFalse => cases hf
    rename_i hl
    cases hf
    refine ⟨ρ, F, fp, ds, _, S, h1, fun vs H1 F1 fp1 s1 S1 r1 => ⟨by rw [r1.length]; exact Nat.le_trans hl million, fun p hp => ?_⟩⟩
    obtain ⟨s2, S2, _, _⟩ := new_own (o := .lst vs) S1 hp
    exact q _ _ _ fp1 [p] (s1.trans s2) S2 ((own_new S1 hp r1).back s1)
/-- an empty list of any mode -/
theorem bo_nil {m : Md} : BO X Γ (.lst m) (.List [] pos) (cE (.list [])) := weakE (pe_lst pa_nil) fun σ H Q ⟨ρ, F, fp, d, ρ', S, hf, q⟩ => by
  cases hf
  refine ⟨Nat.zero_le _, fun p hp => ?_⟩
  obtain ⟨s2, S2, hF, hn⟩ := new_own (o := .lst []) S hp
  refine q _ _ _ fp [p] s2 S2 ⟨⟨p, [], [], [], rfl, rfl, upd_same, .nil, rfl⟩, by simp, fun a ha => ?_, fun a ha => ?_, fun a ha => ?_⟩
  · have e : a = p := by simpa using ha
    subst e; exact hF
  · have e : a = p := by simpa using ha
    subst e; exact hn
  · have e : a = p := by simpa using ha
    subst e; exact .inl hp
end
/-! ## calls of defs -/
def spV (K : PySem.W.Frag) (ms : List Md) (rm : Md) (M : List D → Option (D × En)) : Sp := fun vs H Q _ => ∃ ds F fp d outs, StR K ms (ds.map some) (vs.map some) F H fp ∧ M ds = some (d, outs) ∧
  ∀ v H' F' fp' q, Step F H fp F' H' fp' → StR K ms outs (vs.map some) F' H' fp' → Own1 K rm F H fp F' H' fp' v d q → Q v H'
def callE0 (M : List D → Option (D × En)) (f : FL) : FE := fun ρ => match f ρ with
  | none => none
  | some (ds, ρ1) => match M ds with
    | none => none
    | some (d, _) => some (d, ρ1)
def allVal (ms : List Md) : Bool := ms.all fun m => decide (m = .val)
theorem allVal_ok {ms : List Md} (h : allVal ms = true) (j : Nat) : ms.getD j .val = .val := by
  rw [List.getD_eq_getElem?_getD]
  cases e : ms[j]? with
  | none => rfl
  | some m => exact of_decide_eq_true (List.all_eq_true.mp h m (List.mem_of_getElem? e))
theorem args_val {K : PySem.W.Frag} {ms : List Md} {vs : List V} {ds : List D} {F H : Hp} (hv : allVal ms = true) (hl : vs.length = ms.length) (sub : Same F H) (r : RpL K F vs ds) : StR K ms (ds.map some) (vs.map some) F H (fun _ => []) where
  sub := sub
  len := by rw [List.length_map, List.length_map, r.length]
  lenG := by rw [List.length_map, hl]
  slot := fun i d e => by
    rw [List.getElem?_map] at e
    cases e1 : ds[i]? with
    | none => rw [e1] at e; cases e
    | some d' =>
      rw [e1] at e
      cases e
      obtain ⟨v, h1, h2⟩ := r.get e1
      refine ⟨v, by rw [List.getElem?_map, h1]; rfl, ?_⟩
      rw [allVal_ok hv]
      exact ⟨h2, rfl⟩
  emp := fun _ _ => rfl
  nd := fun _ => List.nodup_nil
  dis := fun _ _ _ h => by simp at h
  fr := fun _ _ h => by simp at h
section
variable {X : Cx} {Γ : List Md} {pos p : Pos} {k : Nat} {f : Addr} {fd : FuncData} {ps : List Str} {ms : List Md} {rm : Md} {M : List D → Option (D × En)} {x : Str}
theorem callS {K : PySem.W.Frag} {ρ : En} {σ : Sl} {F H F' H' : Hp} {fp fp' : Fp} {v : V} {d : D} {q : List Addr} {outs : En} {τ : Sl} (S : StR K Γ ρ σ F H fp) (s : Step F H (fun _ => []) F' H' fp') (So : StR K ms outs τ F' H' fp') (o : Own1 K rm F H (fun _ => []) F' H' fp' v d q) :
    Step F H fp F' H' fp ∧ StR K Γ ρ σ F' H' fp ∧ Own1 K rm F H fp F' H' fp v d q := by
  have hk : ∀ i a, a ∈ fp i → H' a = H a := fun i a h => by
    cases e : H a with
    | none => exact absurd e (S.live h)
    | some u => exact s.hh a u e fun j hj => by simp at hj
  refine ⟨⟨s.ff, fun a u h _ => s.hh a u h fun j hj => by simp at hj, fun a h => (s.live a h).imp id fun ⟨j, hj⟩ => by simp at hj, fun a h => ?_, fun i a h => .inr ⟨i, h⟩⟩, S.stay s.ff So.sub hk fun i a h => ?_, ⟨o.ow, o.nd, o.fr, fun a ha i h => ?_, fun a ha => ?_⟩⟩
  · rcases s.new a h with z | z | ⟨j, z⟩
    · exact .inl z
    · exact .inr (.inl z)
    · simp at z
  · cases e : F' a with
    | none => rfl
    | some u =>
      rcases s.new a (by rw [e]; simp) with z | z | ⟨j, z⟩
      · exact absurd (S.fr i a h) z
      · exact absurd z (S.live h)
      · simp at z
  · rcases o.new a ha with z | ⟨j, z⟩
    · exact S.live h z
    · simp at z
  · rcases o.new a ha with z | ⟨j, z⟩
    · exact .inl z
    · simp at z
def LenOk (M : List D → Option (D × En)) (n : Nat) : Prop := ∀ ds r, M ds = some r → ds.length = n
theorem tCall0_of {K : PySem.W.Frag} {fa : FL} {E : XK} (hv : allVal ms = true) (hl : LenOk M ms.length) : ∀ σ H Q, tO K Γ rm (callE0 M fa) σ H Q → tCall (spV K ms rm M) [] E (tL K Γ fa) σ H Q := fun σ H Q ⟨ρ, F, fp, d, ρ', S, hf, q⟩ => by
  unfold callE0 at hf
  split at hf
  · cases hf
  · rename_i ds ρ1 h1
    split at hf
    · cases hf
    · rename_i d1 outs hM
      cases hf
      refine ⟨ρ, F, fp, ds, _, S, h1, fun vs H1 F1 fp1 s1 S1 r1 => ?_⟩
      show spV K ms rm M (vs ++ []) H1 Q E
      rw [List.append_nil]
      refine ⟨ds, F1, fun _ => [], d, outs, args_val hv (by rw [r1.length]; exact hl _ _ hM) S1.sub r1, hM, fun v H2 F2 fp2 w s2 S2 o => ?_⟩
      obtain ⟨s3, S3, o3⟩ := callS S1 s2 S2 o
      exact q v H2 F2 fp1 w (s1.trans s3) S3 (o3.back s1)
theorem bo_call0 {e : Expr} {es : List Expr} {fa : FL} (F : FnOk X.prog X.w X.K X.mg X.base CX0 k f fd ps (spV X.K ms rm M)) (hr : Room k X.A) (hm : X.mg x = some (.ref f)) (hk : PySem.W.keepIn X.K (.ref f) = true) (hb : Binds X.K fd ps []) (hl : LenOk M ms.length) (ha : BL X Γ (e :: es) fa) (hv : allVal ms = true := by rfl) (hg : Gl X x := by rfl)
    (hdb : (x == ("__debug__" : Str)) = false := by decide) (he : starEach (e :: es) X.env = (false, eval e X.env) :: starEach es X.env := by rfl) (hpl : (backTo pos (starEach es X.env)).any (·.1) = false := by rfl) :
    BO X Γ rm (.Call (.Name x p) (e :: es) [] pos) (callE0 M fa) := weakE (pe_call (E := E0) F hr hg hm hk hb .nil pass0 ha hdb he hpl) (tCall0_of hv hl)
theorem be_call0 {e : Expr} {es : List Expr} {fa : FL} (F : FnOk X.prog X.w X.K X.mg X.base CX0 k f fd ps (spV X.K ms .val M)) (hr : Room k X.A) (hm : X.mg x = some (.ref f)) (hk : PySem.W.keepIn X.K (.ref f) = true) (hb : Binds X.K fd ps []) (hl : LenOk M ms.length) (ha : BL X Γ (e :: es) fa) (hv : allVal ms = true := by rfl) (hg : Gl X x := by rfl)
    (hdb : (x == ("__debug__" : Str)) = false := by decide) (he : starEach (e :: es) X.env = (false, eval e X.env) :: starEach es X.env := by rfl) (hpl : (backTo pos (starEach es X.env)).any (·.1) = false := by rfl) :
    BE X Γ (.Call (.Name x p) (e :: es) [] pos) (callE0 M fa) := be_frz (m := .val) (bo_call0 F hr hm hk hb hl ha hv hg hdb he hpl)
/-- f(): no argument -/
theorem bo_callN (F : FnOk X.prog X.w X.K X.mg X.base CX0 k f fd ps (spV X.K [] rm M)) (hr : Room k X.A) (hm : X.mg x = some (.ref f)) (hk : PySem.W.keepIn X.K (.ref f) = true) (hb : Binds X.K fd ps []) (hl : LenOk M 0) (hg : Gl X x := by rfl)
    (hdb : (x == ("__debug__" : Str)) = false := by decide) : BO X Γ rm (.Call (.Name x p) [] [] pos) (callE0 M nilL) := weakE (pe_call0 (E := E0) F hr hg hm hk hb .nil pass0 hdb) fun σ H Q h => by
  obtain ⟨ρ, F, fp, d, ρ1, S, h1, q⟩ := tCall0_of (ms := []) (E := E0) rfl hl σ H Q h
  cases h1
  exact q [] H F fp (Step.refl _ _ _) S .nil
/-! ### one argument of one's own goes in and out -/
def ioA (i : Nat) (g : FA) : FA := fun ρ => match g ρ with
  | none => none
  | some (ds, ρ2) => some (none :: ds, ρ2)
def nilA : FA := fun ρ => some ([], ρ)
def consA (f : FE) (g : FA) : FA := fun ρ => match f ρ with
  | none => none
  | some (d, ρ1) => match g ρ1 with
    | none => none
    | some (ds, ρ2) => some (some d :: ds, ρ2)
theorem ba_nil {i : Nat} : BA X Γ i [] nilA := weakA pa_nil fun σ H Q ⟨ρ, F, fp, d, ρ', S, hf, q⟩ => by
  cases hf
  exact q [] H F fp (Step.refl _ _ _) S .nil
theorem ArgR.mono {K : PySem.W.Frag} {F F' : Hp} {σ : Sl} {i : Nat} (e : Same F F') : ∀ {vs : List V} {ds : List (Option D)}, ArgR K F σ i vs ds → ArgR K F' σ i vs ds
  | _, _, .nil => .nil
  | _, _, .val r t => .val (r.mono e) (ArgR.mono e t)
  | _, _, .io r t => .io r (ArgR.mono e t)
theorem ba_cons {i : Nat} {e : Expr} {es : List Expr} {f : FE} {g : FA} (ha : BE X Γ e f) (hr : BA X Γ i es g) (hs : starEach (e :: es) X.env = (false, eval e X.env) :: starEach es X.env := by rfl) : BA X Γ i (e :: es) (consA f g) := weakA (pa_cons ha hr hs) fun σ H Q ⟨ρ, F, fp, d, ρ', S, hf, q⟩ => by
  unfold consA at hf
  split at hf
  · cases hf
  · rename_i d1 ρ1 h1
    split at hf
    · cases hf
    · rename_i ds ρ2 h2
      cases hf
      exact ⟨ρ, F, fp, d1, ρ1, S, h1, fun v H1 F1 fp1 s1 S1 r1 => ⟨ρ1, F1, fp1, ds, _, S1, h2, fun vs H2 F2 fp2 s2 S2 r2 => q (v :: vs) H2 F2 fp2 (s1.trans s2) S2 (.val (r1.mono s2.ff) r2)⟩⟩
/-- the name in slot i, which must hold something -/
def ioA' (i : Nat) (g : FA) : FA := fun ρ => match ρ[i]? with
  | some (some _) => (match g ρ with
    | none => none
    | some (ds, ρ2) => some (none :: ds, ρ2))
  | _ => none
theorem ba_io {i : Nat} {y : Str} {py : Pos} {es : List Expr} {g : FA} (hr : BA X Γ i es g) (hN : X.N[i]? = some y := by rfl) (hv : Vis X.env.scope y := by first | exact Or.inl rfl | exact Or.inr (Or.inl rfl) | exact Or.inr (Or.inr rfl)) (hd : (y == ("__debug__" : Str)) = false := by decide)
    (hcd : (y == ("__classdict__" : Str)) = false := by decide) (hs : starEach (.Name y py :: es) X.env = (false, eval (.Name y py) X.env) :: starEach es X.env := by rfl) : BA X Γ i (.Name y py :: es) (ioA' i g) := weakA (pa_cons (pe_var hN hv hd hcd) hr hs) fun σ H Q ⟨ρ, F, fp, d, ρ', S, hf, q⟩ => by
  unfold ioA' at hf
  split at hf
  · rename_i d1 h0
    split at hf
    · cases hf
    · rename_i ds ρ2 h2
      cases hf
      obtain ⟨v, h1, _⟩ := S.slot i d1 h0
      exact ⟨v, h1, ρ, F, fp, ds, _, S, h2, fun vs H2 F2 fp2 s2 S2 r2 => q (v :: vs) H2 F2 fp2 s2 S2 (.io h1 r2)⟩
  · cases hf
def okA : Nat → List (Option D) → Bool
  | 0, none :: r => r.all Option.isSome
  | n + 1, some _ :: r => okA n r
  | _, _ => false
theorem okA_ok : ∀ {p : Nat} {ods : List (Option D)}, okA p ods = true → ods[p]? = some none ∧ ∀ j : Nat, ods[j]? = some none → j = p
  | 0, none :: r, h => ⟨rfl, fun j e => by
    cases j with
    | zero => rfl
    | succ j =>
      have q := List.all_eq_true.mp h none (List.mem_of_getElem? (by simpa using e))
      cases q⟩
  | n + 1, some _ :: r, h => by
    obtain ⟨h1, h2⟩ := okA_ok (p := n) (ods := r) h
    refine ⟨by simpa using h1, fun j e => ?_⟩
    cases j with
    | zero => simp at e
    | succ j => rw [h2 j (by simpa using e)]
  | 0, [], h => by cases h
  | 0, some _ :: _, h => by cases h
  | _ + 1, [], h => by cases h
  | _ + 1, none :: _, h => by cases h
theorem ArgR.length {K : PySem.W.Frag} {F : Hp} {σ : Sl} {i : Nat} : ∀ {vs : List V} {ds : List (Option D)}, ArgR K F σ i vs ds → vs.length = ds.length
  | _, _, .nil => rfl
  | _, _, .val _ t => by rw [List.length_cons, List.length_cons, ArgR.length t]
  | _, _, .io _ t => by rw [List.length_cons, List.length_cons, ArgR.length t]
theorem ArgR.get {K : PySem.W.Frag} {F : Hp} {σ : Sl} {i : Nat} : ∀ {vs : List V} {ds : List (Option D)} {j : Nat} {o : Option D}, ArgR K F σ i vs ds → ds[j]? = some o → ∃ v, vs[j]? = some v ∧ (match o with | some d => Rp K F v d | none => σ[i]? = some (some v))
  | _, _, _, _, .nil, e => by simp at e
  | _, _, 0, _, .val r t, e => by simp at e; subst e; exact ⟨_, rfl, r⟩
  | _, _, 0, _, .io r t, e => by simp at e; subst e; exact ⟨_, rfl, r⟩
  | _, _, j + 1, o, .val r t, e => by
    obtain ⟨v, h1, h2⟩ := ArgR.get (j := j) (o := o) t (by simpa using e)
    exact ⟨v, by simpa using h1, h2⟩
  | _, _, j + 1, o, .io r t, e => by
    obtain ⟨v, h1, h2⟩ := ArgR.get (j := j) (o := o) t (by simpa using e)
    exact ⟨v, by simpa using h1, h2⟩
def okIo (ms : List Md) (p : Nat) : Bool := (List.range ms.length).all fun j => decide (j = p) || decide (ms.getD j .val = .val)
theorem okIo_ok {ms : List Md} {p : Nat} (h : okIo ms p = true) {j : Nat} (hj : j ≠ p) : ms.getD j .val = .val := by
  by_cases hl : j < ms.length
  · have q := List.all_eq_true.mp h j (List.mem_range.mpr hl)
    simpa [hj] using q
  · rw [List.getD_eq_getElem?_getD, List.getElem?_eq_none (by omega)]; rfl
def callE1 (M : List D → Option (D × En)) (i p : Nat) (f : FA) : FE := fun ρ => match f ρ with
  | none => none
  | some (ods, ρ1) => match ρ1[i]? with
    | some (some dx) => if okA p ods = true then (match M (ods.map (·.getD dx)) with
      | none => none
      | some (d, outs) => some (d, ρ1.set i (outs.getD p none))) else none
    | _ => none
theorem args_io {K : PySem.W.Frag} {ρ : En} {σ : Sl} {F H : Hp} {fp : Fp} {i p : Nat} {dx : D} {vs : List V} {ods : List (Option D)} (S : StR K Γ ρ σ F H fp) (r : ArgR K F σ i vs ods) (hx : ρ[i]? = some (some dx)) (hm : Γ.getD i .val = ms.getD p .val) (hio : okIo ms p = true) (hl : vs.length = ms.length) (ho : okA p ods = true) :
    StR K ms ((ods.map (·.getD dx)).map some) (vs.map some) F H (fun j => if j = p then fp i else []) := by
  obtain ⟨h1, h2⟩ := okA_ok ho
  refine ⟨S.sub, by simp [r.length], by rw [List.length_map, hl], fun j d e => ?_, fun j h => ?_, fun j => ?_, fun j k a ha hb => ?_, fun j a h => ?_⟩
  · rw [List.getElem?_map, List.getElem?_map] at e
    cases e1 : ods[j]? with
    | none => rw [e1] at e; cases e
    | some o =>
      rw [e1] at e
      obtain ⟨v, q1, q2⟩ := r.get e1
      refine ⟨v, by rw [List.getElem?_map, q1]; rfl, ?_⟩
      cases o with
      | some d' =>
        have ed : d' = d := by simpa using e
        subst ed
        have nj : j ≠ p := fun z => by rw [z, h1] at e1; cases e1
        rw [okIo_ok hio nj, if_neg nj]
        exact ⟨q2, rfl⟩
      | none =>
        have ed : dx = d := by simpa using e
        subst ed
        have ej := h2 j e1
        subst ej
        obtain ⟨v', w1, w2⟩ := S.slot i _ hx
        have q2' : σ[i]? = some (some v) := q2
        rw [w1] at q2'
        cases q2'
        rw [if_pos rfl, ← hm]
        exact w2
  · by_cases hj : j = p
    · subst hj
      exfalso
      refine h dx ?_
      rw [List.getElem?_map, List.getElem?_map, h1]
      rfl
    · exact if_neg hj
  · show (if j = p then fp i else []).Nodup
    split
    · exact S.nd i
    · exact List.nodup_nil
  · have ha' : a ∈ (if j = p then fp i else []) := ha
    have hb' : a ∈ (if k = p then fp i else []) := hb
    split at ha'
    · split at hb'
      · rename_i e1 e2; rw [e1, e2]
      · simp at hb'
    · simp at ha'
  · have h' : a ∈ (if j = p then fp i else []) := h
    split at h'
    · exact S.fr i a h'
    · simp at h'
theorem callS1 {K : PySem.W.Frag} {ρ : En} {σ : Sl} {F H F' H' : Hp} {fp fp' : Fp} {v : V} {d : D} {q : List Addr} {outs : En} {vs : List V} {i p : Nat} (S : StR K Γ ρ σ F H fp) (s : Step F H (fun j => if j = p then fp i else []) F' H' fp') (So : StR K ms outs (vs.map some) F' H' fp') (o : Own1 K rm F H (fun j => if j = p then fp i else []) F' H' fp' v d q)
    (hm : Γ.getD i .val = ms.getD p .val) (hi : ∃ v, σ[i]? = some (some v) ∧ vs[p]? = some v) :
    Step F H fp F' H' (fpSet fp i (fp' p)) ∧ StR K Γ (ρ.set i (outs.getD p none)) σ F' H' (fpSet fp i (fp' p)) ∧ Own1 K rm F H fp F' H' (fpSet fp i (fp' p)) v d q := by
  obtain ⟨vi, hi1, hi2⟩ := hi
  have hil : i < σ.length := (List.getElem?_eq_some_iff.mp hi1).1
  have inI : ∀ {j a}, a ∈ (if j = p then fp i else []) → a ∈ fp i := fun {j a} h => by
    split at h
    · exact h
    · simp at h
  have hk : ∀ j a, j ≠ i → a ∈ fp j → H' a = H a := fun j a hj h => by
    cases e : H a with
    | none => exact absurd e (S.live h)
    | some u => exact s.hh a u e fun k hk => hj (S.dis j i a h (inI hk))
  have hf : ∀ j a, j ≠ i → a ∈ fp j → F' a = none := fun j a hj h => by
    cases e : F' a with
    | none => rfl
    | some u =>
      rcases s.new a (by rw [e]; simp) with z | z | ⟨k, z⟩
      · exact absurd (S.fr j a h) z
      · exact absurd z (S.live h)
      · exact absurd (S.dis j i a h (inI z)) hj
  have hdj : ∀ j a, j ≠ i → a ∈ fp' p → a ∉ fp j := fun j a hj h h2 => by
    rcases s.nfp p a h with z | ⟨k, z⟩
    · exact S.live h2 z
    · exact hj (S.dis j i a h2 (inI z))
  refine ⟨⟨s.ff, fun a u h n => s.hh a u h fun j hj => n i (inI hj), fun a h => (s.live a h).imp id fun ⟨j, hj⟩ => ⟨i, inI hj⟩, fun a h => ?_, fun j a h => ?_⟩, ⟨So.sub, by rw [List.length_set]; exact S.len, S.lenG, fun j e h => ?_, fun j h => ?_, fun j => ?_, fun j k a h1 h2 => ?_, fun j a h => ?_⟩, ⟨o.ow, o.nd, o.fr, fun a ha j h => ?_, fun a ha => ?_⟩⟩
  · rcases s.new a h with z | z | ⟨j, z⟩
    · exact .inl z
    · exact .inr (.inl z)
    · exact .inr (.inr ⟨i, inI z⟩)
  · by_cases hj : j = i
    · subst hj
      rw [fpSet_same] at h
      rcases s.nfp p a h with z | ⟨k, z⟩
      · exact .inl z
      · exact .inr ⟨_, inI z⟩
    · rw [fpSet_ne hj] at h; exact .inr ⟨j, h⟩
  · by_cases hj : j = i
    · subst hj
      rw [List.getElem?_set_self (by rw [S.len]; exact hil)] at h
      have h' : outs.getD p none = some e := Option.some.inj h
      have h2 : outs[p]? = some (some e) := by
        rw [List.getD_eq_getElem?_getD] at h'
        cases w : outs[p]? with
        | none => rw [w] at h'; cases h'
        | some z => rw [w] at h'; rw [show z = some e from h']
      obtain ⟨v', w1, w2⟩ := So.slot p e h2
      rw [List.getElem?_map, hi2] at w1
      have ev : vi = v' := by simpa using w1
      subst ev
      refine ⟨vi, hi1, ?_⟩
      rw [fpSet_same, hm]
      exact w2
    · rw [List.getElem?_set_ne (Ne.symm hj)] at h
      obtain ⟨w, w1, w2⟩ := S.slot j e h
      refine ⟨w, w1, ?_⟩
      rw [fpSet_ne hj]
      exact w2.keep s.ff fun a ha => hk j a hj ha
  · by_cases hj : j = i
    · subst hj
      rw [fpSet_same]
      refine So.emp p fun e h2 => h e ?_
      rw [List.getElem?_set_self (by rw [S.len]; exact hil), List.getD_eq_getElem?_getD, h2]
      rfl
    · rw [fpSet_ne hj]
      exact S.emp j fun e h2 => h e (by rw [List.getElem?_set_ne (Ne.symm hj)]; exact h2)
  · by_cases hj : j = i
    · subst hj; rw [fpSet_same]; exact So.nd p
    · rw [fpSet_ne hj]; exact S.nd j
  · by_cases hj : j = i
    · by_cases hk2 : k = i
      · rw [hj, hk2]
      · subst hj
        rw [fpSet_same] at h1
        rw [fpSet_ne hk2] at h2
        exact absurd h2 (hdj k a hk2 h1)
    · by_cases hk2 : k = i
      · subst hk2
        rw [fpSet_same] at h2
        rw [fpSet_ne hj] at h1
        exact absurd h1 (hdj j a hj h2)
      · rw [fpSet_ne hj] at h1
        rw [fpSet_ne hk2] at h2
        exact S.dis j k a h1 h2
  · by_cases hj : j = i
    · subst hj; rw [fpSet_same] at h; exact So.fr p a h
    · rw [fpSet_ne hj] at h; exact hf j a hj h
  · by_cases hj : j = i
    · subst hj; rw [fpSet_same] at h; exact o.dis a ha p h
    · rw [fpSet_ne hj] at h
      rcases o.new a ha with z | ⟨k, z⟩
      · exact S.live h z
      · exact hj (S.dis j i a h (inI z))
  · rcases o.new a ha with z | ⟨j, z⟩
    · exact .inl z
    · exact .inr ⟨i, inI z⟩
theorem tCall1_of {K : PySem.W.Frag} {fa : FA} {E : XK} {i p : Nat} (hm : Γ.getD i .val = ms.getD p .val) (hio : okIo ms p = true) (hl : LenOk M ms.length) : ∀ σ H Q, tO K Γ rm (callE1 M i p fa) σ H Q → tCall (spV K ms rm M) [] E (tAr K Γ i fa) σ H Q := fun σ H Q ⟨ρ, F, fp, d, ρ', S, hf, q⟩ => by
  unfold callE1 at hf
  split at hf
  · cases hf
  · rename_i ods ρ1 h1
    split at hf
    · rename_i dx hx
      split at hf
      case isFalse => cases hf
      rename_i hok
      split at hf
      · cases hf
      · rename_i d1 outs hM
        cases hf
        refine ⟨ρ, F, fp, ods, ρ1, S, h1, fun vs H1 F1 fp1 s1 S1 r1 => ?_⟩
        show spV K ms rm M (vs ++ []) H1 Q E
        rw [List.append_nil]
        have hlen : vs.length = ms.length := by
          have e := hl _ _ hM
          rw [List.length_map] at e
          rw [r1.length, e]
        refine ⟨_, F1, _, d, outs, args_io S1 r1 hx hm hio hlen hok, hM, fun v H2 F2 fp2 w s2 S2 o => ?_⟩
        obtain ⟨w1, w2⟩ := r1.get (okA_ok hok).1
        obtain ⟨s3, S3, o3⟩ := callS1 S1 s2 S2 o hm ⟨w1, w2.2, w2.1⟩
        exact q v H2 F2 _ w (s1.trans s3) S3 (o3.back s1)
    · cases hf
theorem bo_call1 (i p' : Nat) {e : Expr} {es : List Expr} {fa : FA} (F : FnOk X.prog X.w X.K X.mg X.base CX0 k f fd ps (spV X.K ms rm M)) (hr : Room k X.A) (hm : X.mg x = some (.ref f)) (hk : PySem.W.keepIn X.K (.ref f) = true) (hb : Binds X.K fd ps []) (hl : LenOk M ms.length) (ha : BA X Γ i (e :: es) fa) (hmd : Γ.getD i .val = ms.getD p' .val := by rfl) (hio : okIo ms p' = true := by rfl) (hg : Gl X x := by rfl)
    (hdb : (x == ("__debug__" : Str)) = false := by decide) (he : starEach (e :: es) X.env = (false, eval e X.env) :: starEach es X.env := by rfl) (hpl : (backTo pos (starEach es X.env)).any (·.1) = false := by rfl) :
    BO X Γ rm (.Call (.Name x p) (e :: es) [] pos) (callE1 M i p' fa) := weakE (pe_call (E := E0) F hr hg hm hk hb .nil pass0 ha hdb he hpl) (tCall1_of hmd hio hl)
theorem be_call1 (i p' : Nat) {e : Expr} {es : List Expr} {fa : FA} (F : FnOk X.prog X.w X.K X.mg X.base CX0 k f fd ps (spV X.K ms .val M)) (hr : Room k X.A) (hm : X.mg x = some (.ref f)) (hk : PySem.W.keepIn X.K (.ref f) = true) (hb : Binds X.K fd ps []) (hl : LenOk M ms.length) (ha : BA X Γ i (e :: es) fa) (hmd : Γ.getD i .val = ms.getD p' .val := by rfl) (hio : okIo ms p' = true := by rfl) (hg : Gl X x := by rfl)
    (hdb : (x == ("__debug__" : Str)) = false := by decide) (he : starEach (e :: es) X.env = (false, eval e X.env) :: starEach es X.env := by rfl) (hpl : (backTo pos (starEach es X.env)).any (·.1) = false := by rfl) :
    BE X Γ (.Call (.Name x p) (e :: es) [] pos) (callE1 M i p' fa) := be_frz (m := .val) (bo_call1 i p' F hr hm hk hb hl ha hmd hio hg hdb he hpl)
end
/-! ## a def keeps its promise -/
def outs : List Md → En → En
  | [], _ => []
  | _ :: ms, [] => none :: outs ms []
  | m :: ms, o :: ρ => (if m.own then o else none) :: outs ms ρ
theorem outs_len : ∀ (ms : List Md) (ρ : En), (outs ms ρ).length = ms.length
  | [], _ => rfl
  | _ :: ms, [] => by unfold outs; rw [List.length_cons, List.length_cons, outs_len ms []]
  | m :: ms, o :: ρ => by unfold outs; rw [List.length_cons, List.length_cons, outs_len ms ρ]
theorem outs_get : ∀ {ms : List Md} {ρ : En} {p : Nat} {d : D}, (outs ms ρ)[p]? = some (some d) → (ms.getD p .val).own = true ∧ ρ[p]? = some (some d)
  | [], _, _, _, h => by simp [outs] at h
  | _ :: ms, [], 0, _, h => by simp [outs] at h
  | _ :: ms, [], p + 1, d, h => by
    have h' : (outs ms [])[p]? = some (some d) := by simpa [outs] using h
    have := (outs_get h').2
    simp at this
  | m :: ms, o :: ρ, 0, d, h => by
    have h' : (if m.own then o else none) = some d := by simpa [outs] using h
    split at h'
    · rename_i e; subst h'; exact ⟨by simpa using e, rfl⟩
    · cases h'
  | m :: ms, o :: ρ, p + 1, d, h => by
    have h' : (outs ms ρ)[p]? = some (some d) := by simpa [outs] using h
    obtain ⟨h1, h2⟩ := outs_get h'
    exact ⟨by simpa using h1, by simpa using h2⟩
def defM (n : Nat) (ms : List Md) (rm : Md) (b : FS) : List D → Option (D × En) := fun ds => if ds.length = ms.length then
  (match b (ds.map some ++ List.replicate (n - ds.length) none) with
    | some (.rt d, ρ') => some (d, outs ms ρ')
    | some (.nx, ρ') => if rm = .val then some (.none, outs ms ρ') else none
    | _ => none) else none
theorem defM_len {n : Nat} {ms : List Md} {rm : Md} {b : FS} : LenOk (defM n ms rm b) ms.length := fun ds r h => by
  unfold defM at h
  split at h
  · assumption
  · cases h
section
variable {P : Program} {w : World} {K : PySem.W.Frag} {mg : Str → Option Value} {base : Heap} {x qual : Str} {params : Arguments} {body : List Stmt} {scope : Scope} {f : Addr} {fd : FuncData} {N ps : List Str} {k : Nat} {ms : List Md} {rm : Md} {b : FS} {Γe : List Md}
theorem out_spec {ds : List D} {vs : List V} {ρ' : En} {F H F' H' : Hp} {fp fp' : Fp} {v : V} {d : D} {q : List Addr} {vp : Nat → V} (hvp : ∀ p v, vs[p]? = some v → vp p = v) (hl : vs.length = ms.length) (s : Step F H fp F' H' fp') (o1 : Out1 K ms vp ρ' F' H' fp') (o : Own1 K rm F H fp F' H' fp' v d q) :
    ∃ fp2, Step F H fp F' H' fp2 ∧ StR K ms (outs ms ρ') (vs.map some) F' H' fp2 ∧ Own1 K rm F H fp F' H' fp2 v d q := by
  obtain ⟨Γr, σ, S, P, ag⟩ := o1
  have pick : ∀ p, ∃ l : List Addr, (∀ a ∈ l, a ∈ fp' p) ∧ l.Nodup ∧ ((∃ d, (outs ms ρ')[p]? = some (some d)) → l = fp' p) ∧ ((∀ d, (outs ms ρ')[p]? ≠ some (some d)) → l = []) := fun p => by
    by_cases h : ∃ d, (outs ms ρ')[p]? = some (some d)
    · exact ⟨fp' p, fun _ h => h, S.nd p, fun _ => rfl, fun z => absurd h (by rintro ⟨d, h⟩; exact z d h)⟩
    · exact ⟨[], fun _ h => by simp at h, List.nodup_nil, fun z => absurd z h, fun _ => rfl⟩
  refine ⟨fun p => Classical.choose (pick p), ⟨s.ff, s.hh, s.live, s.new, fun p a h => s.nfp p a ((Classical.choose_spec (pick p)).1 a h)⟩, ⟨S.sub, by rw [outs_len, List.length_map, hl], by rw [List.length_map, hl], fun p d h => ?_, fun p h => (Classical.choose_spec (pick p)).2.2.2 h, fun p => (Classical.choose_spec (pick p)).2.1, fun i j a h1 h2 => ?_, fun i a h => ?_⟩, ⟨o.ow, o.nd, o.fr, fun a ha i h => o.dis a ha i ((Classical.choose_spec (pick i)).1 a h), o.new⟩⟩
  · obtain ⟨h1, h2⟩ := outs_get h
    obtain ⟨v', w1, w2⟩ := S.slot p d h2
    have hp := P p h1
    rw [hp] at w1
    cases w1
    have hpl : p < vs.length := by
      rw [hl]
      refine Nat.lt_of_not_le fun z => ?_
      rw [List.getD_eq_getElem?_getD, List.getElem?_eq_none z] at h1
      cases h1
    have e := List.getElem?_eq_getElem hpl
    refine ⟨vp p, by rw [List.getElem?_map, e, hvp p _ e]; rfl, ?_⟩
    rw [ag p h1] at w2
    show Ow K F' H' (ms.getD p .val) (vp p) d (Classical.choose (pick p))
    rw [(Classical.choose_spec (pick p)).2.2.1 ⟨d, h⟩]
    exact w2
  · exact S.dis i j a ((Classical.choose_spec (pick i)).1 a h1) ((Classical.choose_spec (pick j)).1 a h2)
  · exact S.fr i a ((Classical.choose_spec (pick i)).1 a h)
theorem ok_def (F : FunD K x qual params body scope [] [] f fd) (sc : FnScope N ps scope) (hps : ms.length = ps.length) (hN : ps.length ≤ N.length) (hr : okR ms Γe = true)
    (hb : ∀ (cdv : Value) (A : Around) (outer : List PySem.Env) (s : Shared) (H : Hp) (E : XK), Room k (A.deeper (PyProof.Rows.envOfC qual scope s.heap.objs.size f cdv)) →
      BSs (cxOf CX0 P w K mg base N qual scope f cdv A outer s H E).nox ms rm [] (ms ++ List.replicate (N.length - ms.length) .val) Γe body b) : FnOk P w K mg base CX0 (k + 1) f fd ps (spV K ms rm (defM N.length ms rm b)) := by
  refine F.ok sc (fun vs H Q E h => ?_) (fun cdv A outer s H vs Q E hr1 h => ?_)
  · obtain ⟨ds, F, fp, d, outs, S, hM, q⟩ := h
    have e := S.lenG
    rw [List.length_map] at e
    rw [← e, hps]
  · refine ⟨_, (hb cdv A outer s H E hr1).nox, ?_⟩
    obtain ⟨ds, F, fp, d, out, S, hM, q⟩ := h
    have hvl : vs.length = ms.length := by
      have e := S.lenG
      rw [List.length_map] at e
      exact e.symm
    have hdl : ds.length = vs.length := by
      have e := S.len
      rw [List.length_map, List.length_map] at e
      exact e
    unfold defM at hM
    split at hM
    case isFalse => cases hM
    rename_i hdm
    have S0 : StR K (ms ++ List.replicate (N.length - ms.length) .val) (ds.map some ++ List.replicate (N.length - ds.length) none) (L2.start N vs) F H fp := by
      refine ⟨S.sub, ?_, ?_, fun i e h => ?_, fun i h => ?_, S.nd, S.dis, S.fr⟩
      · simp [L2.start, hdl]
      · simp [L2.start, hvl]
      · have hi : i < ds.length := by
          refine Nat.lt_of_not_le fun z => ?_
          rw [List.getElem?_append_right (by simpa using z)] at h
          have := List.mem_of_getElem? h
          have := List.eq_of_mem_replicate this
          cases this
        rw [List.getElem?_append_left (by simpa using hi)] at h
        obtain ⟨v, w1, w2⟩ := S.slot i e h
        refine ⟨v, ?_, ?_⟩
        · unfold L2.start
          rw [List.getElem?_append_left (by rw [List.length_map]; omega)]
          exact w1
        · rw [List.getD_eq_getElem?_getD, List.getElem?_append_left (by omega), ← List.getD_eq_getElem?_getD]
          exact w2
      · refine S.emp i fun e h2 => h e ?_
        rw [List.getElem?_append_left]
        · exact h2
        · exact (List.getElem?_eq_some_iff.mp h2).1
    have hvp : ∀ (p : Nat) (v : V), vs[p]? = some v → vs.getD p .non = v := fun p v h => by rw [List.getD_eq_getElem?_getD, h]; rfl
    have P0 : Pin ms (fun p => vs.getD p .non) (L2.start N vs) := fun p hp => by
      have hpl : p < vs.length := by
        rw [hvl]
        refine Nat.lt_of_not_le fun z => ?_
        rw [List.getD_eq_getElem?_getD, List.getElem?_eq_none z] at hp
        cases hp
      have e := List.getElem?_eq_getElem hpl
      unfold L2.start
      rw [List.getElem?_append_left (by simpa using hpl), List.getElem?_map, e]
      show some (some vs[p]) = some (some (vs.getD p .non))
      rw [hvp p _ e]
    split at hM
    · rename_i d1 ρ' hbody
      cases hM
      refine ⟨_, F, fp, .rt d, ρ', fun p => vs.getD p .non, S0, P0, hbody, fun v H' F' fp' qs s1 o1 o => ?_⟩
      obtain ⟨fp2, s2, S2, o2⟩ := out_spec (ds := ds) hvp hvl s1 o1 o
      exact q v H' F' fp2 qs s2 S2 o2
    · rename_i ρ' hbody
      split at hM
      case isFalse => cases hM
      rename_i hrm
      subst hrm
      cases hM
      refine ⟨_, F, fp, .nx, ρ', fun p => vs.getD p .non, S0, P0, hbody, fun σ' H' F' fp' s1 S1 P1 => ?_⟩
      obtain ⟨fp2, s2, S2, o2⟩ := out_spec (ds := ds) (rm := .val) (q := []) hvp hvl s1 ⟨Γe, σ', S1, P1, okR_ok hr⟩ (own_val (v := .non) (d := .none) .non)
      exact q .non H' F' fp2 [] s2 S2 o2
    · cases hM
end
end BV

set_option Elab.async false
set_option linter.all false
set_option maxRecDepth 100000
set_option maxHeartbeats 4000000
namespace BV
open PySem PySem.Spec L2
/-! ## operations on data -/
def addD : D → D → Option D
  | .int i, .int j => some (.int (i + j))
  | .str x, .str y => if x.length + y.length ≤ 1000000 then some (.str (x ++ y)) else none
  | .list x, .list y => if x.length + y.length ≤ 1000000 then some (.list (x ++ y)) else none
  | .tuple x, .tuple y => if x.length + y.length ≤ 1000000 ∧ x ≠ [] then some (.tuple (x ++ y)) else none
  | _, _ => none
def subD : D → D → Option D
  | .int i, .int j => some (.int (i - j))
  | _, _ => none
def mulD : D → D → Option D
  | .int i, .int j => if i.natAbs < 18446744073709551616 ∨ j.natAbs < 18446744073709551616 then some (.int (i * j)) else none
  | .list x, .int j => if x.length * j.toNat ≤ 1000000 ∧ j.natAbs < 1000000 then some (.list (List.replicate j.toNat x).flatten) else none
  | _, _ => none
def fdivD : D → D → Option D
  | .int i, .int j => if 0 < j ∧ j < 1073741824 then some (.int (i / j)) else none
  | _, _ => none
def modD : D → D → Option D
  | .int i, .int j => if 0 < j then some (.int (i % j)) else none
  | _, _ => none
def ltD : D → D → Option D
  | .int i, .int j => some (.bool (decide (i < j)))
  | _, _ => none
def leD : D → D → Option D
  | .int i, .int j => some (.bool (decide (i ≤ j)))
  | _, _ => none
def gtD : D → D → Option D
  | .int i, .int j => some (.bool (decide (j < i)))
  | _, _ => none
def geD : D → D → Option D
  | .int i, .int j => some (.bool (decide (j ≤ i)))
  | _, _ => none
def eqD : D → D → Option D := fun x y => if SeqAt.shaped x = true ∧ SeqAt.shaped y = true then some (.bool (PyData.eqv x y)) else none
def neD : D → D → Option D := fun x y => if SeqAt.shaped x = true ∧ SeqAt.shaped y = true then some (.bool (!PyData.eqv x y)) else none
def isNone : D → Bool
  | .none => true
  | _ => false
def isD : D → D → Option D
  | x, .none => some (.bool (isNone x))
  | .bool x, .bool y => some (.bool (decide (x = y)))
  | _, _ => none
def isnotD : D → D → Option D
  | x, .none => some (.bool (!isNone x))
  | .bool x, .bool y => some (.bool (!decide (x = y)))
  | _, _ => none
def inD : D → D → Option D
  | x, .list ys => if SeqAt.shaped x = true ∧ SeqAt.shaped (.list ys) = true then some (.bool (ys.any fun z => PyData.eqv z x)) else none
  | x, .tuple ys => if SeqAt.shaped x = true ∧ SeqAt.shaped (.tuple ys) = true then some (.bool (ys.any fun z => PyData.eqv z x)) else none
  | _, _ => none
def notinD : D → D → Option D
  | x, .list ys => if SeqAt.shaped x = true ∧ SeqAt.shaped (.list ys) = true then some (.bool (!ys.any fun z => PyData.eqv z x)) else none
  | x, .tuple ys => if SeqAt.shaped x = true ∧ SeqAt.shaped (.tuple ys) = true then some (.bool (!ys.any fun z => PyData.eqv z x)) else none
  | _, _ => none
def negD : D → Option D
  | .int i => some (.int (-i))
  | _ => none
def ixD : D → D → Option D
  | .list xs, .int i => atI xs i
  | .tuple xs, .int i => atI xs i
  | .str x, .int i => if x.length ≤ 1000000 then (atI x.cps.toList i).map fun c => .str ⟨#[c]⟩ else none
  | _, _ => none
section
variable {X : Cx} {K : PySem.W.Frag}
theorem same_upd {F H : Hp} {p : Addr} {o : HO} (e : Same F H) (hp : H p = none) : Same F (upd F p o) := fun a u h => by rw [upd_ne (ne_of_none (e a u h) hp)]; exact h
theorem d_I0 {g : Int → Int → V} {o : D → D → Option D} (h : ∀ x y d, o x y = some d → ∃ i j, x = .int i ∧ y = .int j ∧ ∀ F, Rp K F (g i j) d) : DOp K (rI0 g) o := fun F H x y dx dy d Q e rx ry ho q => by
  obtain ⟨i, j, rfl, rfl, r⟩ := h dx dy d ho
  exact ⟨i, j, rx.int', ry.int', q _ _ _ (Alloc.refl e) (r F)⟩
theorem d_sub : DOp K (rI0 fun i j => .int (i - j)) subD := d_I0 fun x y d h => by
  unfold subD at h
  split at h
  · cases h; exact ⟨_, _, rfl, rfl, fun F => .int _⟩
  · cases h
theorem d_lt : DOp K (rI0 fun i j => .bl (decide (i < j))) ltD := d_I0 fun x y d h => by
  unfold ltD at h
  split at h
  · cases h; exact ⟨_, _, rfl, rfl, fun F => .bl _⟩
  · cases h
theorem d_le : DOp K (rI0 fun i j => .bl (decide (i ≤ j))) leD := d_I0 fun x y d h => by
  unfold leD at h
  split at h
  · cases h; exact ⟨_, _, rfl, rfl, fun F => .bl _⟩
  · cases h
theorem d_gt : DOp K (rI0 fun i j => .bl (decide (j < i))) gtD := d_I0 fun x y d h => by
  unfold gtD at h
  split at h
  · cases h; exact ⟨_, _, rfl, rfl, fun F => .bl _⟩
  · cases h
theorem d_ge : DOp K (rI0 fun i j => .bl (decide (j ≤ i))) geD := d_I0 fun x y d h => by
  unfold geD at h
  split at h
  · cases h; exact ⟨_, _, rfl, rfl, fun F => .bl _⟩
  · cases h
def rAddA (K : PySem.W.Frag) : R2 := fun x y H Q => (rI0 fun i j => .int (i + j)) x y H Q ∨ (∃ i j, x = .str i ∧ y = .str j ∧ i.length + j.length ≤ sizeLine ∧ Q (.str (i ++ j)) H) ∨ rCat x y H Q ∨ rCatT K x y H Q
theorem op_addA : OpR X (binaryOp .Add) (rAddA X.K) := op_add.or (op_add_str.or (op_cat.or op_catT))
theorem d_add : DOp K (rAddA K) addD := fun F H x y dx dy d Q e rx ry h q => by
  have ml := million
  unfold addD at h
  split at h
  · cases h
    exact .inl ⟨_, _, rx.int', ry.int', q _ _ _ (Alloc.refl e) (.int _)⟩
  · split at h
    case isFalse => cases h
    rename_i hl
    cases h
    exact .inr (.inl ⟨_, _, rx.str', ry.str', Nat.le_trans hl ml, q _ _ _ (Alloc.refl e) (.str _)⟩)
  · split at h
    case isFalse => cases h
    rename_i hl
    cases h
    obtain ⟨a, xs, rfl, h1, h2⟩ := rx.list
    obtain ⟨b, ys, rfl, h3, h4⟩ := ry.list
    refine .inr (.inr (.inl ⟨a, b, xs, ys, rfl, rfl, e _ _ h1, e _ _ h3, by rw [h2.length, h4.length]; exact Nat.le_trans hl ml, fun p hp => ?_⟩))
    have A := Alloc.new1 (o := .lst (xs ++ ys)) e hp
    exact q _ _ _ A (.lst upd_same ((h2.append h4).mono A.ff))
  · split at h
    case isFalse => cases h
    rename_i hl
    cases h
    obtain ⟨a, xs, rfl, h1, h2⟩ := rx.tuple
    obtain ⟨b, ys, rfl, h3, h4⟩ := ry.tuple
    have hx : xs ≠ [] := fun z => by
      subst z
      cases h2
      exact hl.2 rfl
    refine .inr (.inr (.inr ⟨a, b, xs, ys, rfl, rfl, sqT_same e h1, sqT_same e h3, hx, by rw [h2.length, h4.length]; exact Nat.le_trans hl.1 ml, fun z => ?_, fun _ p hp => ?_⟩))
    · subst z
      cases h4
      rw [List.append_nil] at q
      exact q _ _ _ (Alloc.refl e) (.tup h1 h2)
    · have A := Alloc.new1 (o := .tup (xs ++ ys)) e hp
      exact q _ _ _ A (.tup (SqT.of upd_same) ((h2.append h4).mono A.ff))
  · cases h
def rMulA : R2 := fun x y H Q => (rI CMul fun i j => .int (i * j)) x y H Q ∨ rRep x y H Q
theorem op_mulA : OpR X (binaryOp .Mult) rMulA := op_mul.or op_rep
theorem natAbs64 {i : Int} (h : i.natAbs < 18446744073709551616) : -(2 ^ 64) < i ∧ i < 2 ^ 64 := by
  have e : (2 : Int) ^ 64 = 18446744073709551616 := by decide
  rw [e]
  omega
theorem RpL.rep {F : Hp} {xs : List V} {ds : List D} (h : RpL K F xs ds) : ∀ k : Nat, RpL K F (List.replicate k xs).flatten (List.replicate k ds).flatten
  | 0 => .nil
  | k + 1 => by
    rw [List.replicate_succ, List.replicate_succ, List.flatten_cons, List.flatten_cons]
    exact h.append (RpL.rep h k)
theorem d_mul : DOp K rMulA mulD := fun F H x y dx dy d Q e rx ry h q => by
  have ml := million
  unfold mulD at h
  split at h
  · split at h
    case isFalse => cases h
    rename_i hl
    cases h
    refine .inl ⟨_, _, rx.int', ry.int', hl.imp natAbs64 natAbs64, q _ _ _ (Alloc.refl e) (.int _)⟩
  · split at h
    case isFalse => cases h
    rename_i hl
    cases h
    obtain ⟨a, xs, rfl, h1, h2⟩ := rx.list
    refine .inr ⟨a, _, xs, rfl, ry.int', e _ _ h1, by omega, by omega, by rw [h2.length]; exact Nat.le_trans hl.1 ml, fun p hp => q _ _ _ (Alloc.new1 e hp) (.lst upd_same ((h2.rep _).mono (same_upd e hp)))⟩
  · cases h
theorem d_fdiv : DOp K (rI CDiv fun i j => .int (i / j)) fdivD := fun F H x y dx dy d Q e rx ry h q => by
  unfold fdivD at h
  split at h
  · split at h
    case isFalse => cases h
    rename_i hl
    cases h
    exact ⟨_, _, rx.int', ry.int', hl, q _ _ _ (Alloc.refl e) (.int _)⟩
  · cases h
theorem d_mod : DOp K (rI (fun _ j => 0 < j) fun i j => .int (i % j)) modD := fun F H x y dx dy d Q e rx ry h q => by
  unfold modD at h
  split at h
  · split at h
    case isFalse => cases h
    rename_i hl
    cases h
    exact ⟨_, _, rx.int', ry.int', hl, q _ _ _ (Alloc.refl e) (.int _)⟩
  · cases h
theorem d_eq : DOp K (rEqD K) eqD := fun F H x y dx dy d Q e rx ry h q => by
  unfold eqD at h
  split at h
  case isFalse => cases h
  rename_i hl
  cases h
  exact ⟨dx, dy, rx.dp e (noDict_lay (SeqAt.canLay_of_shaped hl.1)), ry.dp e (noDict_lay (SeqAt.canLay_of_shaped hl.2)), hl.1, hl.2, q _ _ _ (Alloc.refl e) (.bl _)⟩
theorem d_ne : DOp K (rNeD K) neD := fun F H x y dx dy d Q e rx ry h q => by
  unfold neD at h
  split at h
  case isFalse => cases h
  rename_i hl
  cases h
  exact ⟨dx, dy, rx.dp e (noDict_lay (SeqAt.canLay_of_shaped hl.1)), ry.dp e (noDict_lay (SeqAt.canLay_of_shaped hl.2)), hl.1, hl.2, q _ _ _ (Alloc.refl e) (.bl _)⟩
def rIsA : R2 := fun x y H Q => (y = .non ∧ Q (.bl (decide (x = .non))) H) ∨ rIsB x y H Q
theorem op_isA : OpR X (compareOp .Is) rIsA := op_isN.or op_isBl
def rIsnotA : R2 := fun x y H Q => (y = .non ∧ Q (.bl (!decide (x = .non))) H) ∨ rNotB x y H Q
theorem op_isnotA : OpR X (compareOp .IsNot) rIsnotA := op_notN.or op_notBl
theorem Rp.isnon {F : Hp} {v : V} {d : D} (r : Rp K F v d) : decide (v = .non) = isNone d := by
  cases r <;> rfl
theorem d_is : DOp K rIsA isD := fun F H x y dx dy d Q e rx ry h q => by
  unfold isD at h
  split at h
  · cases h
    refine .inl ⟨ry.none', ?_⟩
    rw [rx.isnon]
    exact q _ _ _ (Alloc.refl e) (.bl _)
  · cases h
    exact .inr ⟨_, _, rx.bool', ry.bool', q _ _ _ (Alloc.refl e) (.bl _)⟩
  · cases h
theorem d_isnot : DOp K rIsnotA isnotD := fun F H x y dx dy d Q e rx ry h q => by
  unfold isnotD at h
  split at h
  · cases h
    refine .inl ⟨ry.none', ?_⟩
    rw [rx.isnon]
    exact q _ _ _ (Alloc.refl e) (.bl _)
  · cases h
    exact .inr ⟨_, _, rx.bool', ry.bool', q _ _ _ (Alloc.refl e) (.bl _)⟩
  · cases h
/-! ### in -/
def rInT (K : PySem.W.Frag) : R2 := fun x y H Q => ∃ d ds, Dp K H x d ∧ Dp K H y (.tuple ds) ∧ SeqAt.shaped d = true ∧ SeqAt.shaped (.tuple ds) = true ∧ Q (.bl (ds.any fun z => PyData.eqv z d)) H
def rNotInT (K : PySem.W.Frag) : R2 := fun x y H Q => ∃ d ds, Dp K H x d ∧ Dp K H y (.tuple ds) ∧ SeqAt.shaped d = true ∧ SeqAt.shaped (.tuple ds) = true ∧ Q (.bl (!ds.any fun z => PyData.eqv z d)) H
theorem room_in {A : Around} {ds : List PyData} {d : PyData} (h : SeqAt.shaped d = true) (hu : A.units + 65 < cLine) : A.units + 1 + min (PyData.depthAll ds) d.depth < cLine := by
  have h1 := SeqAt.depth_of_shaped h
  have h2 : min (PyData.depthAll ds) d.depth ≤ d.depth := Nat.min_le_right _ _
  omega
theorem op_inT (hu : X.A.units + 65 < cLine) : OpR X (compareOp .In) (rInT X.K) := by
  intro pins s σ H x y v u Q I rx ry h
  obtain ⟨d, ds, hd, he, sd, se, q⟩ := h
  obtain ⟨as, r1⟩ := Dp.reads I d x v hd rx
  obtain ⟨bs, r2⟩ := Dp.reads I (.tuple ds) y u he ry
  exact SeqAt.in_tuple_reads r2 r1 (SeqAt.canLay_of_shaped se) (SeqAt.canLay_of_shaped sd) (room_in sd hu) ⟨.bl _, H, I, rfl, q⟩
theorem op_notInT (hu : X.A.units + 65 < cLine) : OpR X (compareOp .NotIn) (rNotInT X.K) := by
  intro pins s σ H x y v u Q I rx ry h
  obtain ⟨d, ds, hd, he, sd, se, q⟩ := h
  obtain ⟨as, r1⟩ := Dp.reads I d x v hd rx
  obtain ⟨bs, r2⟩ := Dp.reads I (.tuple ds) y u he ry
  exact SeqAt.notIn_tuple_reads r2 r1 (SeqAt.canLay_of_shaped se) (SeqAt.canLay_of_shaped sd) (room_in sd hu) ⟨.bl _, H, I, rfl, q⟩
def rInA (K : PySem.W.Frag) : R2 := fun x y H Q => rInD K x y H Q ∨ rInT K x y H Q
def rNotInA (K : PySem.W.Frag) : R2 := fun x y H Q => rNotInD K x y H Q ∨ rNotInT K x y H Q
theorem op_inA (hu : X.A.units + 65 < cLine) : OpR X (compareOp .In) (rInA X.K) := (op_inD hu).or (op_inT hu)
theorem op_notInA (hu : X.A.units + 65 < cLine) : OpR X (compareOp .NotIn) (rNotInA X.K) := (op_notInD hu).or (op_notInT hu)
theorem d_in : DOp K (rInA K) inD := fun F H x y dx dy d Q e rx ry h q => by
  unfold inD at h
  split at h
  · split at h
    case isFalse => cases h
    rename_i hl
    cases h
    exact .inl ⟨dx, _, rx.dp e (noDict_lay (SeqAt.canLay_of_shaped hl.1)), ry.dp e (noDict_lay (SeqAt.canLay_of_shaped hl.2)), hl.1, hl.2, q _ _ _ (Alloc.refl e) (.bl _)⟩
  · split at h
    case isFalse => cases h
    rename_i hl
    cases h
    exact .inr ⟨dx, _, rx.dp e (noDict_lay (SeqAt.canLay_of_shaped hl.1)), ry.dp e (noDict_lay (SeqAt.canLay_of_shaped hl.2)), hl.1, hl.2, q _ _ _ (Alloc.refl e) (.bl _)⟩
  · cases h
theorem d_notin : DOp K (rNotInA K) notinD := fun F H x y dx dy d Q e rx ry h q => by
  unfold notinD at h
  split at h
  · split at h
    case isFalse => cases h
    rename_i hl
    cases h
    exact .inl ⟨dx, _, rx.dp e (noDict_lay (SeqAt.canLay_of_shaped hl.1)), ry.dp e (noDict_lay (SeqAt.canLay_of_shaped hl.2)), hl.1, hl.2, q _ _ _ (Alloc.refl e) (.bl _)⟩
  · split at h
    case isFalse => cases h
    rename_i hl
    cases h
    exact .inr ⟨dx, _, rx.dp e (noDict_lay (SeqAt.canLay_of_shaped hl.1)), ry.dp e (noDict_lay (SeqAt.canLay_of_shaped hl.2)), hl.1, hl.2, q _ _ _ (Alloc.refl e) (.bl _)⟩
  · cases h
theorem d_neg : DUn K (rU fun i => .int (-i)) negD := fun F H x dx d Q e rx h q => by
  unfold negD at h
  split at h
  · cases h
    exact ⟨_, rx.int', q _ _ _ (Alloc.refl e) (.int _)⟩
  · cases h
theorem RpL.atI {F : Hp} {xs : List V} {ds : List D} {i : Int} {d : D} (r : RpL K F xs ds) (h : atI ds i = some d) : ∃ v, L2.atI xs i = some v ∧ Rp K F v d := by
  unfold L2.atI at h ⊢
  rw [r.length]
  cases e : ixN ds.length i with
  | none => rw [e] at h; cases h
  | some j =>
    rw [e] at h
    exact r.get (i := j) h
theorem d_ix : DOp K (rIx K) ixD := fun F H x y dx dy d Q e rx ry h q => by
  have ml := million
  unfold ixD at h
  split at h
  · obtain ⟨a, xs, rfl, h1, h2⟩ := rx.list
    obtain ⟨v, h3, h4⟩ := h2.atI h
    exact .inl ⟨a, xs, _, v, rfl, ry.int', SqL.of (e _ _ h1), h3, q _ _ _ (Alloc.refl e) h4⟩
  · obtain ⟨a, xs, rfl, h1, h2⟩ := rx.tuple
    obtain ⟨v, h3, h4⟩ := h2.atI h
    exact .inr (.inl ⟨a, xs, _, v, rfl, ry.int', sqT_same e h1, h3, q _ _ _ (Alloc.refl e) h4⟩)
  · split at h
    case isFalse => cases h
    rename_i hl
    rename_i x' i' hl0
    cases h3 : L2.atI (Str.cps _).toList _ with
    | none => rw [h3] at h; cases h
    | some c =>
      rw [h3] at h
      cases h
      exact .inr (.inr ⟨_, _, c, rx.str', ry.int', Nat.le_trans (by assumption) ml, h3, q _ _ _ (Alloc.refl e) (.str _)⟩)
  · cases h
end
end BV

set_option Elab.async false
set_option linter.all false
set_option maxRecDepth 100000
set_option maxHeartbeats 4000000
namespace BV
open PySem PySem.Spec L2
/-! ## calls of built-ins -/
def clE (o : List D → Option D) (f : FL) : FE := fun ρ => match f ρ with
  | none => none
  | some (ds, ρ1) => match o ds with
    | none => none
    | some d => some (d, ρ1)
theorem clE_eq {o : List D → Option D} {f : FL} {ρ ρ' : En} {d : D} (h : clE o f ρ = some (d, ρ')) : ∃ ds, f ρ = some (ds, ρ') ∧ o ds = some d := by
  unfold clE at h
  split at h
  · cases h
  · rename_i ds ρ1 h1
    split at h
    · cases h
    · rename_i d' h2
      cases h
      exact ⟨ds, h1, h2⟩
/-- a new list of one's own -/
def DNew (K : PySem.W.Frag) (r : List V → Hp → VK → Prop) (o : List D → Option D) : Prop := ∀ (F H : Hp) (x : List V) (dx : List D) (d : D) (Q : VK), Same F H → RpL K F x dx → o dx = some d →
  (∃ ds, d = .list ds ∧ ((∀ p xs, H p = none → RpL K F xs ds → Q (.ref p) (upd H p (.lst xs))) → r x H Q))
section
variable {X : Cx} {Γ : List Md} {pos p : Pos}
theorem tCB_of {K : PySem.W.Frag} {r : List V → Hp → VK → Prop} {o : List D → Option D} {f : FL} (hd : DCall K r o) : ∀ σ H Q, tV K Γ (clE o f) σ H Q → tCB r (tL K Γ f) σ H Q := fun σ H Q ⟨ρ, F, fp, d, ρ', S, hf, q⟩ => by
  obtain ⟨ds, h1, h2⟩ := clE_eq hf
  exact ⟨ρ, F, fp, ds, ρ', S, h1, fun vs H1 F1 fp1 s1 S1 r1 => hd F1 H1 vs ds d Q S1.sub r1 h2 fun w H2 F2 A r2 => q w H2 F2 fp1 (s1.trans A.step) (S1.alloc A) r2⟩
theorem tCBO_of {K : PySem.W.Frag} {r : List V → Hp → VK → Prop} {o : List D → Option D} {f : FL} (hd : DNew K r o) : ∀ σ H Q, tO K Γ (.lst .val) (clE o f) σ H Q → tCB r (tL K Γ f) σ H Q := fun σ H Q ⟨ρ, F, fp, d, ρ', S, hf, q⟩ => by
  obtain ⟨ds, h1, h2⟩ := clE_eq hf
  refine ⟨ρ, F, fp, ds, ρ', S, h1, fun vs H1 F1 fp1 s1 S1 r1 => ?_⟩
  obtain ⟨es, rfl, k⟩ := hd F1 H1 vs ds d Q S1.sub r1 h2
  refine k fun p xs hp rx => ?_
  obtain ⟨s2, S2, _, _⟩ := new_own (o := .lst xs) S1 hp
  exact q _ _ _ fp1 [p] (s1.trans s2) S2 ((own_new S1 hp rx).back s1)
theorem be_callB {x : Str} {id : String} {r : List V → Hp → VK → Prop} {o : List D → Option D} {e : Expr} {es : List Expr} {f : FL} (hc : CallR X (.builtin id) r) (hd : DCall X.K r o) (hm : X.mg x = none) (hv : bootBuiltins x = some (.builtin id)) (ha : BL X Γ (e :: es) f) (hg : Gl X x := by rfl) (hn : x ≠ "__name__" := by decide) (hdb : (x == ("__debug__" : Str)) = false := by decide)
    (h1 : starEach (e :: es) X.env = (false, eval e X.env) :: starEach es X.env := by rfl) (h2 : (backTo pos (starEach es X.env)).any (·.1) = false := by rfl) : BE X Γ (.Call (.Name x p) (e :: es) [] pos) (clE o f) := weakE (pe_callB hc hg hm hv ha hn hdb h1 h2) (tCB_of hd)
theorem be_callTy {x : Str} {T : String} {r : List V → Hp → VK → Prop} {o : List D → Option D} {e : Expr} {es : List Expr} {f : FL} (hc : CallR X (.type T) r) (hd : DCall X.K r o) (hm : X.mg x = none) (hv : bootBuiltins x = some (.type T)) (ha : BL X Γ (e :: es) f) (hg : Gl X x := by rfl) (hn : x ≠ "__name__" := by decide) (hdb : (x == ("__debug__" : Str)) = false := by decide)
    (h1 : starEach (e :: es) X.env = (false, eval e X.env) :: starEach es X.env := by rfl) (h2 : (backTo pos (starEach es X.env)).any (·.1) = false := by rfl) : BE X Γ (.Call (.Name x p) (e :: es) [] pos) (clE o f) := weakE (pe_callTy hc hg hm hv ha hn hdb h1 h2) (tCB_of hd)
theorem bo_callB {x : Str} {id : String} {r : List V → Hp → VK → Prop} {o : List D → Option D} {e : Expr} {es : List Expr} {f : FL} (hc : CallR X (.builtin id) r) (hd : DNew X.K r o) (hm : X.mg x = none) (hv : bootBuiltins x = some (.builtin id)) (ha : BL X Γ (e :: es) f) (hg : Gl X x := by rfl) (hn : x ≠ "__name__" := by decide) (hdb : (x == ("__debug__" : Str)) = false := by decide)
    (h1 : starEach (e :: es) X.env = (false, eval e X.env) :: starEach es X.env := by rfl) (h2 : (backTo pos (starEach es X.env)).any (·.1) = false := by rfl) : BO X Γ (.lst .val) (.Call (.Name x p) (e :: es) [] pos) (clE o f) := weakE (pe_callB hc hg hm hv ha hn hdb h1 h2) (tCBO_of hd)
theorem bo_callTy {x : Str} {T : String} {r : List V → Hp → VK → Prop} {o : List D → Option D} {e : Expr} {es : List Expr} {f : FL} (hc : CallR X (.type T) r) (hd : DNew X.K r o) (hm : X.mg x = none) (hv : bootBuiltins x = some (.type T)) (ha : BL X Γ (e :: es) f) (hg : Gl X x := by rfl) (hn : x ≠ "__name__" := by decide) (hdb : (x == ("__debug__" : Str)) = false := by decide)
    (h1 : starEach (e :: es) X.env = (false, eval e X.env) :: starEach es X.env := by rfl) (h2 : (backTo pos (starEach es X.env)).any (·.1) = false := by rfl) : BO X Γ (.lst .val) (.Call (.Name x p) (e :: es) [] pos) (clE o f) := weakE (pe_callTy hc hg hm hv ha hn hdb h1 h2) (tCBO_of hd)
end
/-! ### which -/
theorem hu65 {A : Around} {k : Nat} (hr : Room k A) : A.units + 65 < cLine := by have := hr.un; omega
theorem hu64 {A : Around} {k : Nat} (hr : Room k A) : A.units + 64 < cLine := by have := hr.un; omega
theorem hu1 {A : Around} {k : Nat} (hr : Room k A) : A.units + 1 < cLine := by have := hr.un; omega
def intsOf : List D → Option (List Int)
  | [] => some []
  | .int i :: r => (intsOf r).map (i :: ·)
  | _ => none
def boolsOf : List D → Option (List Bool)
  | [] => some []
  | .bool i :: r => (boolsOf r).map (i :: ·)
  | _ => none
theorem intsOf_eq : ∀ {ds : List D} {ns : List Int}, intsOf ds = some ns → ds = ns.map .int
  | [], ns, h => by cases h; rfl
  | .int i :: r, ns, h => by
    unfold intsOf at h
    cases e : intsOf r with
    | none => rw [e] at h; cases h
    | some ms => rw [e] at h; cases h; rw [List.map_cons, intsOf_eq e]
  | .none :: _, _, h => by cases h
  | .bool _ :: _, _, h => by cases h
  | .str _ :: _, _, h => by cases h
  | .list _ :: _, _, h => by cases h
  | .tuple _ :: _, _, h => by cases h
  | .dict _ :: _, _, h => by cases h
theorem intsOf_map : ∀ ns : List Int, intsOf (ns.map .int) = some ns
  | [] => rfl
  | n :: ns => by rw [List.map_cons]; unfold intsOf; rw [intsOf_map ns]; rfl
theorem boolsOf_eq : ∀ {ds : List D} {ns : List Bool}, boolsOf ds = some ns → ds = ns.map .bool
  | [], ns, h => by cases h; rfl
  | .bool i :: r, ns, h => by
    unfold boolsOf at h
    cases e : boolsOf r with
    | none => rw [e] at h; cases h
    | some ms => rw [e] at h; cases h; rw [List.map_cons, boolsOf_eq e]
  | .none :: _, _, h => by cases h
  | .int _ :: _, _, h => by cases h
  | .str _ :: _, _, h => by cases h
  | .list _ :: _, _, h => by cases h
  | .tuple _ :: _, _, h => by cases h
  | .dict _ :: _, _, h => by cases h
theorem boolsOf_map : ∀ ns : List Bool, boolsOf (ns.map .bool) = some ns
  | [] => rfl
  | n :: ns => by rw [List.map_cons]; unfold boolsOf; rw [boolsOf_map ns]; rfl
def insI (x : Int) : List Int → List Int
  | [] => [x]
  | y :: r => if x ≤ y then x :: y :: r else y :: insI x r
def sortI : List Int → List Int
  | [] => []
  | x :: r => insI x (sortI r)
theorem insI_perm (x : Int) : ∀ l : List Int, (insI x l).Perm (x :: l)
  | [] => .refl _
  | y :: r => by
    unfold insI
    split
    · exact .refl _
    · exact ((insI_perm x r).cons y).trans (List.Perm.swap x y r)
theorem sortI_perm : ∀ l : List Int, (sortI l).Perm l
  | [] => .refl _
  | x :: r => (insI_perm x _).trans ((sortI_perm r).cons x)
theorem insI_sorted (x : Int) : ∀ l : List Int, l.Pairwise (· ≤ ·) → (insI x l).Pairwise (· ≤ ·)
  | [], _ => List.pairwise_singleton _ _
  | y :: r, h => by
    obtain ⟨h1, h2⟩ := List.pairwise_cons.mp h
    unfold insI
    split
    · rename_i hxy
      refine List.pairwise_cons.mpr ⟨fun z hz => ?_, h⟩
      rcases List.mem_cons.mp hz with e | hz
      · subst e; exact hxy
      · have := h1 z hz; omega
    · rename_i hxy
      refine List.pairwise_cons.mpr ⟨fun z hz => ?_, insI_sorted x r h2⟩
      rcases List.mem_cons.mp ((insI_perm x r).mem_iff.mp hz) with e | hz
      · subst e; omega
      · exact h1 z hz
theorem sortI_sorted : ∀ l : List Int, (sortI l).Pairwise (· ≤ ·)
  | [] => .nil
  | x :: r => insI_sorted x _ (sortI_sorted r)
theorem sorted_perm_eq : ∀ {l m : List Int}, l.Perm m → l.Pairwise (· ≤ ·) → m.Pairwise (· ≤ ·) → l = m
  | [], m, h, _, _ => (List.nil_perm.mp h).symm
  | x :: l, [], h, _, _ => absurd (List.perm_nil.mp h) (by simp)
  | x :: l, y :: m, h, hl, hm => by
    obtain ⟨h1, h2⟩ := List.pairwise_cons.mp hl
    obtain ⟨h3, h4⟩ := List.pairwise_cons.mp hm
    have e : x = y := by
      have hx : x ∈ y :: m := h.mem_iff.mp List.mem_cons_self
      have hy : y ∈ x :: l := h.mem_iff.mpr List.mem_cons_self
      rcases List.mem_cons.mp hx with e | hx
      · exact e
      · rcases List.mem_cons.mp hy with e | hy
        · exact e.symm
        · have a := h3 x hx
          have b := h1 y hy
          omega
    subst e
    rw [sorted_perm_eq (List.perm_cons x |>.mp h) h2 h4]
def lenD : List D → Option D
  | [.list ds] => some (.int ds.length)
  | [.tuple ds] => some (.int ds.length)
  | [.str s] => if s.length ≤ 1000000 then some (.int s.length) else none
  | _ => none
def absD : List D → Option D
  | [.int i] => some (.int (if i < 0 then -i else i))
  | _ => none
def intD : List D → Option D
  | [.int i] => some (.int i)
  | [.bool b] => some (.int (if b then 1 else 0))
  | _ => none
def anyD : List D → Option D
  | [.list ds] => (boolsOf ds).map fun bs => .bool (bs.any id)
  | _ => none
def allD : List D → Option D
  | [.list ds] => (boolsOf ds).map fun bs => .bool (bs.all id)
  | _ => none
def sumD : List D → Option D
  | [.list ds] => (intsOf ds).map fun ns => .int ns.sum
  | _ => none
def max2D : List D → Option D
  | [.int i, .int j] => some (.int (if j > i then j else i))
  | _ => none
def min2D : List D → Option D
  | [.int i, .int j] => some (.int (if j < i then j else i))
  | _ => none
def maxI : List Int → Int
  | [] => 0
  | [x] => x
  | x :: y :: r => max x (maxI (y :: r))
def minI : List Int → Int
  | [] => 0
  | [x] => x
  | x :: y :: r => min x (minI (y :: r))
theorem maxI_mem : ∀ {l : List Int}, l ≠ [] → maxI l ∈ l ∧ ∀ y ∈ l, y ≤ maxI l
  | [], h => absurd rfl h
  | [x], _ => ⟨List.mem_cons_self, fun y hy => by simp at hy; subst hy; exact Int.le_refl _⟩
  | x :: y :: r, _ => by
    obtain ⟨h1, h2⟩ := maxI_mem (l := y :: r) (by simp)
    show max x (maxI (y :: r)) ∈ _ ∧ ∀ z ∈ _, z ≤ max x (maxI (y :: r))
    refine ⟨?_, fun z hz => ?_⟩
    · by_cases h : x ≤ maxI (y :: r)
      · rw [Int.max_eq_right h]; exact List.mem_cons_of_mem _ h1
      · rw [Int.max_eq_left (by omega)]; exact List.mem_cons_self
    · rcases List.mem_cons.mp hz with e | hz
      · subst e; omega
      · have := h2 z hz; omega
theorem minI_mem : ∀ {l : List Int}, l ≠ [] → minI l ∈ l ∧ ∀ y ∈ l, minI l ≤ y
  | [], h => absurd rfl h
  | [x], _ => ⟨List.mem_cons_self, fun y hy => by simp at hy; subst hy; exact Int.le_refl _⟩
  | x :: y :: r, _ => by
    obtain ⟨h1, h2⟩ := minI_mem (l := y :: r) (by simp)
    show min x (minI (y :: r)) ∈ _ ∧ ∀ z ∈ _, min x (minI (y :: r)) ≤ z
    refine ⟨?_, fun z hz => ?_⟩
    · by_cases h : x ≤ minI (y :: r)
      · rw [Int.min_eq_left h]; exact List.mem_cons_self
      · rw [Int.min_eq_right (by omega)]; exact List.mem_cons_of_mem _ h1
    · rcases List.mem_cons.mp hz with e | hz
      · subst e; omega
      · have := h2 z hz; omega
def maxD : List D → Option D
  | [.list ds] => match intsOf ds with
    | some (n :: ns) => some (.int (maxI (n :: ns)))
    | _ => none
  | _ => none
def minD : List D → Option D
  | [.list ds] => match intsOf ds with
    | some (n :: ns) => some (.int (minI (n :: ns)))
    | _ => none
  | _ => none
def sortedD : List D → Option D
  | [.list ds] => (intsOf ds).map fun ns => .list ((sortI ns).map .int)
  | _ => none
def listD : List D → Option D
  | [.list ds] => some (.list ds)
  | [.tuple ds] => some (.list ds)
  | _ => none
def tupleD : List D → Option D
  | [.list ds] => some (.tuple ds)
  | [.tuple ds] => some (.tuple ds)
  | _ => none
theorem RpL.one {K : PySem.W.Frag} {F : Hp} {vs : List V} {d : D} (r : RpL K F vs [d]) : ∃ v, vs = [v] ∧ Rp K F v d := by
  cases r with
  | cons h t => cases t; exact ⟨_, rfl, h⟩
theorem RpL.two {K : PySem.W.Frag} {F : Hp} {vs : List V} {d e : D} (r : RpL K F vs [d, e]) : ∃ v w, vs = [v, w] ∧ Rp K F v d ∧ Rp K F w e := by
  cases r with
  | cons h t =>
    obtain ⟨w, rfl, h2⟩ := t.one
    exact ⟨_, w, rfl, h, h2⟩
section
variable {X : Cx} {K : PySem.W.Frag}
theorem dc_len : DCall K (fun xs H Q => ∃ x n, xs = [x] ∧ LenV K x H n ∧ Q (.int n) H) lenD := fun F H x dx d Q e r h q => by
  have ml := million
  unfold lenD at h
  split at h
  · cases h
    obtain ⟨v, rfl, rv⟩ := r.one
    obtain ⟨a, xs, rfl, h1, h2⟩ := rv.list
    refine ⟨_, xs.length, rfl, .inl ⟨xs, SqL.of (e _ _ h1), rfl⟩, ?_⟩
    rw [h2.length]
    exact q _ _ _ (Alloc.refl e) (.int _)
  · cases h
    obtain ⟨v, rfl, rv⟩ := r.one
    obtain ⟨a, xs, rfl, h1, h2⟩ := rv.tuple
    refine ⟨_, xs.length, rfl, .inr ⟨xs, sqT_same e h1, rfl⟩, ?_⟩
    rw [h2.length]
    exact q _ _ _ (Alloc.refl e) (.int _)
  · split at h
    case isFalse => cases h
    rename_i hl
    cases h
    obtain ⟨v, rfl, rv⟩ := r.one
    obtain rfl := rv.str'
    exact ⟨_, _, rfl, ⟨Nat.le_trans hl ml, rfl⟩, q _ _ _ (Alloc.refl e) (.int _)⟩
  · cases h
theorem dc_abs : DCall K (fun xs H Q => ∃ i, xs = [.int i] ∧ Q (.int (if i < 0 then -i else i)) H) absD := fun F H x dx d Q e r h q => by
  unfold absD at h
  split at h
  · cases h
    obtain ⟨v, rfl, rv⟩ := r.one
    obtain rfl := rv.int'
    exact ⟨_, rfl, q _ _ _ (Alloc.refl e) (.int _)⟩
  · cases h
theorem dc_int : DCall K (fun xs H Q => (∃ i, xs = [.int i] ∧ Q (.int i) H) ∨ ∃ k, xs = [.bl k] ∧ Q (.int (if k then 1 else 0)) H) intD := fun F H x dx d Q e r h q => by
  unfold intD at h
  split at h
  · cases h
    obtain ⟨v, rfl, rv⟩ := r.one
    obtain rfl := rv.int'
    exact .inl ⟨_, rfl, q _ _ _ (Alloc.refl e) (.int _)⟩
  · cases h
    obtain ⟨v, rfl, rv⟩ := r.one
    obtain rfl := rv.bool'
    exact .inr ⟨_, rfl, q _ _ _ (Alloc.refl e) (.int _)⟩
  · cases h
theorem RpL.bl_of {F : Hp} {vs : List V} {ds : List D} {bs : List Bool} (r : RpL K F vs ds) (h : boolsOf ds = some bs) : vs = bs.map .bl := by
  rw [boolsOf_eq h] at r
  exact r.bools
theorem RpL.int_of {F : Hp} {vs : List V} {ds : List D} {bs : List Int} (r : RpL K F vs ds) (h : intsOf ds = some bs) : vs = bs.map .int := by
  rw [intsOf_eq h] at r
  exact r.ints
theorem dc_any : DCall K (rAny K) anyD := fun F H x dx d Q e r h q => by
  unfold anyD at h
  split at h
  · rename_i ds
    cases hb : boolsOf ds with
    | none => rw [hb] at h; cases h
    | some bs =>
      rw [hb] at h
      cases h
      obtain ⟨v, rfl, rv⟩ := r.one
      obtain ⟨a, xs, rfl, h1, h2⟩ := rv.list
      have e1 := h2.bl_of hb
      subst e1
      exact ⟨a, bs, rfl, SqL.of (e _ _ h1), q _ _ _ (Alloc.refl e) (.bl _)⟩
  · cases h
theorem dc_all : DCall K (rAll K) allD := fun F H x dx d Q e r h q => by
  unfold allD at h
  split at h
  · rename_i ds
    cases hb : boolsOf ds with
    | none => rw [hb] at h; cases h
    | some bs =>
      rw [hb] at h
      cases h
      obtain ⟨v, rfl, rv⟩ := r.one
      obtain ⟨a, xs, rfl, h1, h2⟩ := rv.list
      have e1 := h2.bl_of hb
      subst e1
      exact ⟨a, bs, rfl, SqL.of (e _ _ h1), q _ _ _ (Alloc.refl e) (.bl _)⟩
  · cases h
theorem dc_sum : DCall K (rSum K) sumD := fun F H x dx d Q e r h q => by
  unfold sumD at h
  split at h
  · rename_i ds
    cases hb : intsOf ds with
    | none => rw [hb] at h; cases h
    | some bs =>
      rw [hb] at h
      cases h
      obtain ⟨v, rfl, rv⟩ := r.one
      obtain ⟨a, xs, rfl, h1, h2⟩ := rv.list
      have e1 := h2.int_of hb
      subst e1
      exact ⟨a, bs, rfl, SqL.of (e _ _ h1), q _ _ _ (Alloc.refl e) (.int _)⟩
  · cases h
theorem dc_max2 : DCall K (fun xs H Q => ∃ i j, xs = [.int i, .int j] ∧ Q (.int (if j > i then j else i)) H) max2D := fun F H x dx d Q e r h q => by
  unfold max2D at h
  split at h
  · cases h
    obtain ⟨v, w, rfl, r1, r2⟩ := r.two
    obtain rfl := r1.int'
    obtain rfl := r2.int'
    exact ⟨_, _, rfl, q _ _ _ (Alloc.refl e) (.int _)⟩
  · cases h
theorem dc_min2 : DCall K (fun xs H Q => ∃ i j, xs = [.int i, .int j] ∧ Q (.int (if j < i then j else i)) H) min2D := fun F H x dx d Q e r h q => by
  unfold min2D at h
  split at h
  · cases h
    obtain ⟨v, w, rfl, r1, r2⟩ := r.two
    obtain rfl := r1.int'
    obtain rfl := r2.int'
    exact ⟨_, _, rfl, q _ _ _ (Alloc.refl e) (.int _)⟩
  · cases h
theorem dc_max : DCall K (rMax K) maxD := fun F H x dx d Q e r h q => by
  unfold maxD at h
  split at h
  · rename_i ds
    split at h
    · rename_i n ns hb
      cases h
      obtain ⟨v, rfl, rv⟩ := r.one
      obtain ⟨a, xs, rfl, h1, h2⟩ := rv.list
      have e1 := h2.int_of hb
      subst e1
      refine ⟨a, n :: ns, rfl, SqL.of (e _ _ h1), Nat.succ_pos _, fun m hm hle => ?_⟩
      obtain ⟨m1, m2⟩ := maxI_mem (l := n :: ns) (by simp)
      have e2 : m = maxI (n :: ns) := Int.le_antisymm (m2 m hm) (hle _ m1)
      rw [e2]
      exact q _ _ _ (Alloc.refl e) (.int _)
    · cases h
  · cases h
theorem dc_min : DCall K (rMin K) minD := fun F H x dx d Q e r h q => by
  unfold minD at h
  split at h
  · rename_i ds
    split at h
    · rename_i n ns hb
      cases h
      obtain ⟨v, rfl, rv⟩ := r.one
      obtain ⟨a, xs, rfl, h1, h2⟩ := rv.list
      have e1 := h2.int_of hb
      subst e1
      refine ⟨a, n :: ns, rfl, SqL.of (e _ _ h1), Nat.succ_pos _, fun m hm hle => ?_⟩
      obtain ⟨m1, m2⟩ := minI_mem (l := n :: ns) (by simp)
      have e2 : m = minI (n :: ns) := Int.le_antisymm (hle _ m1) (m2 m hm)
      rw [e2]
      exact q _ _ _ (Alloc.refl e) (.int _)
    · cases h
  · cases h
theorem dc_tuple : DCall K (fun xs H Q => ∃ p ys, xs = [.ref p] ∧ ((SqL K H p ys ∧ ∀ l, H l = none → Q (.ref l) (upd H l (.tup ys))) ∨ (SqT K H p ys ∧ Q (.ref p) H))) tupleD := fun F H x dx d Q e r h q => by
  unfold tupleD at h
  split at h
  · cases h
    obtain ⟨v, rfl, rv⟩ := r.one
    obtain ⟨a, xs, rfl, h1, h2⟩ := rv.list
    refine ⟨a, xs, rfl, .inl ⟨SqL.of (e _ _ h1), fun l hl => ?_⟩⟩
    have A := Alloc.new1 (o := .tup xs) e hl
    exact q _ _ _ A (.tup (SqT.of upd_same) (h2.mono A.ff))
  · cases h
    obtain ⟨v, rfl, rv⟩ := r.one
    obtain ⟨a, xs, rfl, h1, h2⟩ := rv.tuple
    exact ⟨a, xs, rfl, .inr ⟨sqT_same e h1, q _ _ _ (Alloc.refl e) (.tup h1 h2)⟩⟩
  · cases h
theorem dn_list : DNew K (fun xs H Q => ∃ p ys, xs = [.ref p] ∧ (SqL K H p ys ∨ SqT K H p ys) ∧ ∀ l, H l = none → Q (.ref l) (upd H l (.lst ys))) listD := fun F H x dx d Q e r h => by
  unfold listD at h
  split at h
  · cases h
    obtain ⟨v, rfl, rv⟩ := r.one
    obtain ⟨a, xs, rfl, h1, h2⟩ := rv.list
    exact ⟨_, rfl, fun q => ⟨a, xs, rfl, .inl (SqL.of (e _ _ h1)), fun l hl => q l xs hl h2⟩⟩
  · cases h
    obtain ⟨v, rfl, rv⟩ := r.one
    obtain ⟨a, xs, rfl, h1, h2⟩ := rv.tuple
    exact ⟨_, rfl, fun q => ⟨a, xs, rfl, .inr (sqT_same e h1), fun l hl => q l xs hl h2⟩⟩
  · cases h
theorem dn_sorted : DNew K (rSortedI K) sortedD := fun F H x dx d Q e r h => by
  unfold sortedD at h
  split at h
  · rename_i ds
    cases hb : intsOf ds with
    | none => rw [hb] at h; cases h
    | some ns =>
      rw [hb] at h
      cases h
      obtain ⟨v, rfl, rv⟩ := r.one
      obtain ⟨a, xs, rfl, h1, h2⟩ := rv.list
      have e1 := h2.int_of hb
      subst e1
      refine ⟨_, rfl, fun q => ⟨a, ns, rfl, SqL.of (e _ _ h1), fun ns' p hp hs hn => ?_⟩⟩
      have e2 : ns' = sortI ns := sorted_perm_eq (hp.trans (sortI_perm ns).symm) hs (sortI_sorted ns)
      subst e2
      exact q p _ hn (RpL.of_ints _)
  · cases h
end
end BV

set_option Elab.async false
set_option linter.all false
set_option maxRecDepth 100000
set_option maxHeartbeats 4000000
namespace BV
open PySem PySem.Spec L2
/-! ## isinstance -/
inductive Ty where
  | int | bool | str | list | tuple | dict
  deriving DecidableEq
def Ty.nm : Ty → String
  | .int => "int"
  | .bool => "bool"
  | .str => "str"
  | .list => "list"
  | .tuple => "tuple"
  | .dict => "dict"
def tyNm : D → String
  | .none => "NoneType"
  | .bool _ => "bool"
  | .int _ => "int"
  | .str _ => "str"
  | .list _ => "list"
  | .tuple _ => "tuple"
  | .dict _ => "dict"
def isT : Ty → D → Bool
  | .int, .int _ => true
  | .int, .bool _ => true
  | .bool, .bool _ => true
  | .str, .str _ => true
  | .list, .list _ => true
  | .tuple, .tuple _ => true
  | .dict, .dict _ => true
  | _, _ => false
theorem kit_isT (t : Ty) (d : D) : kitB (tyNm d) t.nm = some (isT t d) := by
  cases d <;> cases t <;> (simp only [tyNm, Ty.nm, isT]; decide +kernel)
theorem Rp.tyX {K : PySem.W.Frag} {F H : Hp} {v : V} {d : D} (e : Same F H) (r : Rp K F v d) : TyX K H v (.type (tyNm d)) := by
  cases r with
  | non => exact .base .non
  | bl b => exact .base (.bl b)
  | int i => exact .base (.int i)
  | str x => exact .base (.str x)
  | lst h t => exact .base (.lst (e _ _ h))
  | tup h t =>
    rcases sqT_same e h with (h | ⟨o, h⟩) | ⟨o, its, n, h1, h2, _⟩
    · exact .base (.tup h)
    · exact .fTuple h
    · exact .kTuple h1 h2
  | dct h t => exact .base (.dK (e _ _ h))
section
variable {X : Cx} {Γ : List Md} {pos p p2 : Pos}
def isiE (t : Ty) (f : FE) : FE := fun ρ => match f ρ with
  | none => none
  | some (d, ρ1) => some (.bool (isT t d), ρ1)
theorem be_isi (t : Ty) {T : Str} {e : Expr} {f : FE} (hm : X.mg "isinstance" = none) (hmT : X.mg T = none) (he : BE X Γ e f) (hT : bootBuiltins T = some (.type t.nm) := by decide +kernel) (hg : Gl X "isinstance" := by rfl) (hgT : Gl X T := by rfl) (hn : T ≠ "__name__" := by decide) (hdb : (T == ("__debug__" : Str)) = false := by decide)
    (h1 : starEach (e :: [.Name T p2]) X.env = (false, eval e X.env) :: starEach [.Name T p2] X.env := by rfl) (h1' : starEach [.Name T p2] X.env = (false, eval (.Name T p2) X.env) :: starEach [] X.env := by rfl) (h2 : (backTo pos (starEach [.Name T p2] X.env)).any (·.1) = false := by rfl) : BE X Γ (.Call (.Name "isinstance" p) [e, .Name T p2] [] pos) (isiE t f) :=
  weakE (pe_callB call_isi hg hm PyProof.Rows.boot_isinstance (pa_cons he (pa_cons (pe_bltn (v := .ty t.nm) hgT hmT hT rfl hn hdb) pa_nil h1') h1) (by decide) (by decide) h1 h2) fun σ H Q ⟨ρ, F, fp, d, ρ', S, hf, q⟩ => by
    unfold isiE at hf
    split at hf
    · cases hf
    · rename_i d1 ρ1 h3
      cases hf
      refine ⟨ρ, F, fp, d1, _, S, h3, fun v H1 F1 fp1 s1 S1 r1 => ?_⟩
      show tC (.ty t.nm) σ H1 _
      exact ⟨v, .ty t.nm, _, _, isT t d1, rfl, .ty _, r1.tyX S1.sub, kit_ty (kit_isT t d1), q _ H1 F1 fp1 s1 S1 (.bl _)⟩
/-! ## slices -/
abbrev FO := En → Option (Option Int × En)
def noO : FO := fun ρ => some (none, ρ)
def atO (f : FE) : FO := fun ρ => match f ρ with
  | some (.int i, ρ1) => some (some i, ρ1)
  | _ => none
def tPo (K : PySem.W.Frag) (Γ : List Md) (f : FO) : TO := fun σ H Q => ∃ ρ F fp d ρ', StR K Γ ρ σ F H fp ∧ f ρ = some (d, ρ') ∧ ∀ H' F' fp', Step F H fp F' H' fp' → StR K Γ ρ' σ F' H' fp' → Q d H'
abbrev BP (X : Cx) (Γ : List Md) (e : Option Expr) (f : FO) : Prop := PO X e (tPo X.K Γ f)
theorem weakO {X : Cx} {e : Option Expr} {t t' : TO} (h : PO X e t) (w : ∀ σ H Q, t' σ H Q → t σ H Q) : PO X e t' := ⟨fun pins s σ H Q I q => h.run pins s σ H Q I (w σ H Q q)⟩
theorem bp_none : BP X Γ none noO := weakO po_none fun σ H Q ⟨ρ, F, fp, d, ρ', S, hf, q⟩ => by
  cases hf
  exact q H F fp (Step.refl _ _ _) S
theorem bp_some {e : Expr} {f : FE} (h : BE X Γ e f) : BP X Γ (some e) (atO f) := weakO (po_some h) fun σ H Q ⟨ρ, F, fp, d, ρ', S, hf, q⟩ => by
  unfold atO at hf
  split at hf
  · rename_i i ρ1 h1
    cases hf
    exact ⟨ρ, F, fp, _, _, S, h1, fun v H1 F1 fp1 s1 S1 r1 => ⟨i, r1.int', q H1 F1 fp1 s1 S1⟩⟩
  · cases hf
def cutD (ds : List D) (lo hi : Option Int) : List D := (ds.drop (HT.sIx ds.length 0 lo)).take (HT.sIx ds.length ds.length hi - HT.sIx ds.length 0 lo)
theorem RpL.cut {K : PySem.W.Frag} {F : Hp} {xs : List V} {ds : List D} (r : RpL K F xs ds) (lo hi : Option Int) : RpL K F (cutV xs lo hi) (cutD ds lo hi) := by
  unfold cutV cutD
  rw [r.length]
  exact (r.drop _).take _
def slD : D → Option Int → Option Int → Option D
  | .list ds, lo, hi => some (.list (cutD ds lo hi))
  | .tuple ds, lo, hi => if HT.sIx ds.length 0 lo = 0 ∧ HT.sIx ds.length ds.length hi = ds.length then none else some (.tuple (cutD ds lo hi))
  | .str s, lo, hi => if s.length ≤ 1000000 then some (.str (cutS s lo hi)) else none
  | _, _, _ => none
def slE (f : FE) (g h : FO) : FE := fun ρ => match f ρ with
  | none => none
  | some (d, ρ1) => match g ρ1 with
    | none => none
    | some (lo, ρ2) => match h ρ2 with
      | none => none
      | some (hi, ρ3) => match slD d lo hi with
        | none => none
        | some e => some (e, ρ3)
theorem slE_eq {f : FE} {g h : FO} {ρ ρ' : En} {d : D} (hf : slE f g h ρ = some (d, ρ')) : ∃ x ρ1 lo ρ2 hi, f ρ = some (x, ρ1) ∧ g ρ1 = some (lo, ρ2) ∧ h ρ2 = some (hi, ρ') ∧ slD x lo hi = some d := by
  unfold slE at hf
  split at hf
  · cases hf
  · split at hf
    · cases hf
    · split at hf
      · cases hf
      · split at hf
        · cases hf
        · cases hf
          exact ⟨_, _, _, _, _, by assumption, by assumption, by assumption, by assumption⟩
def rSlA (K : PySem.W.Frag) : V → Option Int → Option Int → Hp → VK → Prop := fun x lo hi H Q => rSlL K x lo hi H Q ∨ rSlT K x lo hi H Q ∨ rSlS x lo hi H Q
theorem sl_any : SlR X (rSlA X.K) := sl_list.or (sl_tup.or sl_str)
theorem be_slice {e : Expr} {lo hi : Option Expr} {f : FE} {g h : FO} (he : BE X Γ e f) (hl : BP X Γ lo g) (hu : BP X Γ hi h) : BE X Γ (.Subscript e (.Slice lo hi none p2) pos) (slE f g h) := weakE (pe_slice sl_any he hl hu) fun σ H Q ⟨ρ, F, fp, d, ρ', S, hf, q⟩ => by
  have ml := million
  obtain ⟨x, ρ1, l, ρ2, u, h1, h2, h3, h4⟩ := slE_eq hf
  refine ⟨ρ, F, fp, x, ρ1, S, h1, fun v H1 F1 fp1 s1 S1 r1 => ⟨ρ1, F1, fp1, l, ρ2, S1, h2, fun H2 F2 fp2 s2 S2 => ⟨ρ2, F2, fp2, u, ρ', S2, h3, fun H3 F3 fp3 s3 S3 => ?_⟩⟩⟩
  have r3 := (r1.mono s2.ff).mono s3.ff
  have s13 := (s1.trans s2).trans s3
  unfold slD at h4
  split at h4
  · cases h4
    obtain ⟨a, xs, rfl, w1, w2⟩ := r3.list
    refine .inl ⟨a, xs, rfl, SqL.of (S3.sub _ _ w1), fun p hp => ?_⟩
    have A := Alloc.new1 (o := .lst (cutV xs l u)) S3.sub hp
    exact q _ _ _ fp3 (s13.trans A.step) (S3.alloc A) (.lst upd_same ((w2.cut l u).mono A.ff))
  · split at h4
    case isTrue => cases h4
    rename_i hw
    cases h4
    obtain ⟨a, xs, rfl, w1, w2⟩ := r3.tuple
    refine .inr (.inl ⟨a, xs, rfl, sqT_same S3.sub w1, by rw [w2.length]; exact hw, fun p hp => ?_⟩)
    have A := Alloc.new1 (o := .tup (cutV xs l u)) S3.sub hp
    exact q _ _ _ fp3 (s13.trans A.step) (S3.alloc A) (.tup (SqT.of upd_same) ((w2.cut l u).mono A.ff))
  · split at h4
    case isFalse => cases h4
    rename_i hw
    cases h4
    obtain rfl := r3.str'
    exact .inr (.inr ⟨_, rfl, Nat.le_trans hw ml, q _ _ _ fp3 s13 S3 (.str _)⟩)
  · cases h4
/-- of the script: a new list -/
def slScr (i : Nat) (g h : FO) : FE := fun ρ => match ρ[i]? with
  | some (some (.list ds)) => (match g ρ with
    | none => none
    | some (lo, ρ2) => match h ρ2 with
      | none => none
      | some (hi, ρ3) => some (.list (cutD ds lo hi), ρ3))
  | _ => none
theorem RpL.of_cut {K : PySem.W.Frag} {F : Hp} (ns : List Int) (lo hi : Option Int) : RpL K F (cutV (ns.map .int) lo hi) (cutD (ns.map .int) lo hi) := (RpL.of_ints ns).cut lo hi
theorem be_sliceScr (i : Nat) {x : Str} {lo hi : Option Expr} {g h : FO} (hl : BP X Γ lo g) (hu : BP X Γ hi h) (hm : Γ.getD i .val = .scr := by rfl) (hN : X.N[i]? = some x := by rfl) (hv : Vis X.env.scope x := by first | exact Or.inl rfl | exact Or.inr (Or.inl rfl) | exact Or.inr (Or.inr rfl)) (hd : (x == ("__debug__" : Str)) = false := by decide)
    (hcd : (x == ("__classdict__" : Str)) = false := by decide) : BE X Γ (.Subscript (.Name x p) (.Slice lo hi none p2) pos) (slScr i g h) := weakE (pe_slice sl_list (pe_var hN hv hd hcd) hl hu) fun σ H Q ⟨ρ, F, fp, d, ρ', S, hf, q⟩ => by
  unfold slScr at hf
  split at hf
  · rename_i ds h0
    split at hf
    · cases hf
    · rename_i l ρ2 h2
      split at hf
      · cases hf
      · rename_i u ρ3 h3
        cases hf
        obtain ⟨v, w1, w2⟩ := S.slot i _ h0
        rw [hm] at w2
        obtain ⟨⟨a, ns, rfl, hs, hd⟩, _⟩ := w2
        cases hd
        refine ⟨_, w1, ρ, F, fp, l, ρ2, S, h2, fun H2 F2 fp2 s2 S2 => ⟨ρ2, F2, fp2, u, _, S2, h3, fun H3 F3 fp3 s3 S3 => ?_⟩⟩
        refine ⟨a, ns.map .int, rfl, Same.seq S3.sub (Same.seq s3.ff (Same.seq s2.ff hs)), fun p hp => ?_⟩
        have A := Alloc.new1 (o := .lst (cutV (ns.map .int) l u)) S3.sub hp
        exact q _ _ _ fp3 ((s2.trans s3).trans A.step) (S3.alloc A) (.lst upd_same (RpL.of_cut ns l u))
  · cases hf
/-- list(script) -/
def listScr (i : Nat) : FE := fun ρ => match ρ[i]? with
  | some (some (.list ds)) => some (.list ds, ρ)
  | _ => none
theorem bo_listScr (i : Nat) {x : Str} {px : Pos} (hmL : X.mg "list" = none) (hm : Γ.getD i .val = .scr := by rfl) (hgL : Gl X "list" := by rfl) (hN : X.N[i]? = some x := by rfl) (hv : Vis X.env.scope x := by first | exact Or.inl rfl | exact Or.inr (Or.inl rfl) | exact Or.inr (Or.inr rfl)) (hd : (x == ("__debug__" : Str)) = false := by decide)
    (hcd : (x == ("__classdict__" : Str)) = false := by decide) (h1 : starEach (.Name x px :: []) X.env = (false, eval (.Name x px) X.env) :: starEach [] X.env := by rfl) : BO X Γ (.lst .val) (.Call (.Name "list" p) [.Name x px] [] pos) (listScr i) :=
  weakE (pe_callTy call_list_of hgL hmL PyProof.Rows.boot_list (pa_cons (pe_var hN hv hd hcd) pa_nil h1) (by decide) (by decide) h1 rfl) fun σ H Q ⟨ρ, F, fp, d, ρ', S, hf, q⟩ => by
  unfold listScr at hf
  split at hf
  · rename_i ds h0
    cases hf
    obtain ⟨v, w1, w2⟩ := S.slot i _ h0
    rw [hm] at w2
    obtain ⟨⟨a, ns, rfl, hs, hd⟩, _⟩ := w2
    cases hd
    refine ⟨_, w1, a, ns.map .int, rfl, .inl (Same.seq S.sub hs), fun l hl => ?_⟩
    obtain ⟨s2, S2, _, _⟩ := new_own (o := .lst (ns.map .int)) S hl
    exact q _ _ _ fp [l] s2 S2 (own_new S hl (RpL.of_ints ns))
  · cases hf
def revE (f : FE) : FE := fun ρ => match f ρ with
  | some (.list ds, ρ1) => some (.list ds.reverse, ρ1)
  | _ => none
/-- xs[::-1] -/
theorem be_rev {e : Expr} {f : FE} {k : Nat} {p1 p2 p3 : Pos} (he : BE X Γ e f) : BE X Γ (.Subscript e (.Slice none none (some (.UnaryOp .USub (.Constant (.int 1) k p1) p2)) p3) pos) (revE f) := weakE (pe_revL he) fun σ H Q ⟨ρ, F, fp, d, ρ', S, hf, q⟩ => by
  unfold revE at hf
  split at hf
  · rename_i ds ρ1 h1
    cases hf
    refine ⟨ρ, F, fp, _, _, S, h1, fun v H1 F1 fp1 s1 S1 r1 => ?_⟩
    obtain ⟨a, xs, rfl, w1, w2⟩ := r1.list
    refine ⟨a, xs, rfl, SqL.of (S1.sub _ _ w1), fun p hp => ?_⟩
    have A := Alloc.new1 (o := .lst xs.reverse) S1.sub hp
    exact q _ _ _ fp1 (s1.trans A.step) (S1.alloc A) (.lst upd_same (w2.reverse.mono A.ff))
  · cases hf
/-! ## what is walked -/
def seqL (f : FE) : FL := fun ρ => match f ρ with
  | some (.list ds, ρ1) => some (ds, ρ1)
  | some (.tuple ds, ρ1) => some (ds, ρ1)
  | _ => none
def lstL (f : FE) : FL := fun ρ => match f ρ with
  | some (.list ds, ρ1) => some (ds, ρ1)
  | _ => none
def tplL (f : FE) : FL := fun ρ => match f ρ with
  | some (.tuple ds, ρ1) => some (ds, ρ1)
  | _ => none
theorem itd_list {K : PySem.W.Frag} {F : Hp} {a : Addr} {xs : List V} {ds : List D} (h : F a = some (.lst xs)) (r : RpL K F xs ds) : ItD K (Itl K a) F ds := fun i F2 H fx hs => by
  have sq : SqL K H a xs := SqL.of (hs _ _ (fx _ _ h))
  refine ⟨fun d hd => ?_, fun hl => ⟨xs, sq, by rw [r.length]; exact hl⟩⟩
  obtain ⟨v, h1, h2⟩ := r.get hd
  refine ⟨⟨xs, v, sq, h1⟩, fun x H' ⟨e, hy⟩ => ?_⟩
  subst e
  have e2 := (hy xs sq).symm.trans h1
  cases e2
  exact ⟨F2, Alloc.refl hs, h2.mono fx⟩
theorem itd_tup {K : PySem.W.Frag} {F : Hp} {a : Addr} {xs : List V} {ds : List D} (h : SqT K F a xs) (r : RpL K F xs ds) : ItD K (Itt K a) F ds := fun i F2 H fx hs => by
  have sq : SqT K H a xs := sqT_same hs (sqT_same fx h)
  refine ⟨fun d hd => ?_, fun hl => ⟨xs, sq, by rw [r.length]; exact hl⟩⟩
  obtain ⟨v, h1, h2⟩ := r.get hd
  refine ⟨⟨xs, v, sq, h1⟩, fun x H' ⟨e, hy⟩ => ?_⟩
  subst e
  have e2 := (hy xs sq).symm.trans h1
  cases e2
  exact ⟨F2, Alloc.refl hs, h2.mono fx⟩
theorem bi_lst {tg e : Expr} {f : FE} (he : BE X Γ e f) : BI X Γ tg e (lstL f) := weakI (pi_list he) fun σ H R ⟨ρ, F, fp, ds, ρ', S, hf, q⟩ => by
  unfold lstL at hf
  split at hf
  · rename_i es ρ1 h1
    cases hf
    refine ⟨ρ, F, fp, _, _, S, h1, fun v H1 F1 fp1 s1 S1 r1 => ?_⟩
    obtain ⟨a, xs, rfl, w1, w2⟩ := r1.list
    exact ⟨a, rfl, ⟨xs, SqL.of (S1.sub _ _ w1)⟩, q _ H1 F1 fp1 s1 S1 (itd_list w1 w2)⟩
  · cases hf
theorem bi_tup {tg e : Expr} {f : FE} (he : BE X Γ e f) : BI X Γ tg e (tplL f) := weakI (pi_tup he) fun σ H R ⟨ρ, F, fp, ds, ρ', S, hf, q⟩ => by
  unfold tplL at hf
  split at hf
  · rename_i es ρ1 h1
    cases hf
    refine ⟨ρ, F, fp, _, _, S, h1, fun v H1 F1 fp1 s1 S1 r1 => ?_⟩
    obtain ⟨a, xs, rfl, w1, w2⟩ := r1.tuple
    exact ⟨a, rfl, ⟨xs, sqT_same S1.sub w1⟩, q _ H1 F1 fp1 s1 S1 (itd_tup w1 w2)⟩
  · cases hf
/-- a list or a tuple -/
theorem bi_seq {tg e : Expr} {f : FE} (he : BE X Γ e f) : BI X Γ tg e (seqL f) := ⟨fun pins s σ H R I ⟨ρ, F, fp, ds, ρ', S, hf, q⟩ => by
  unfold seqL at hf
  split at hf
  · rename_i es ρ1 h1
    cases hf
    exact (bi_lst (tg := tg) he).run pins s σ H R I ⟨ρ, F, fp, ds, ρ', S, by unfold lstL; rw [h1], q⟩
  · rename_i es ρ1 h1
    cases hf
    exact (bi_tup (tg := tg) he).run pins s σ H R I ⟨ρ, F, fp, ds, ρ', S, by unfold tplL; rw [h1], q⟩
  · cases hf⟩
def rgD (lo : Int) (n : Nat) : List D := (List.range n).map fun (i : Nat) => .int (lo + (i : Int))
theorem rgD_get {lo : Int} {n i : Nat} {d : D} (h : (rgD lo n)[i]? = some d) : i < n ∧ d = .int (lo + (i : Int)) := by
  unfold rgD at h
  rw [List.getElem?_map] at h
  by_cases hi : i < n
  · rw [List.getElem?_range hi] at h
    exact ⟨hi, (Option.some.inj h).symm⟩
  · rw [List.getElem?_eq_none (by simpa using hi)] at h
    cases h
theorem itd_rng {K : PySem.W.Frag} {F : Hp} (lo : Int) (n : Nat) : ItD K (Itr lo n) F (rgD lo n) := fun i F2 H fx hs => by
  refine ⟨fun d hd => ?_, fun hl => by
    have : (rgD lo n).length = n := by simp [rgD]
    show n ≤ i
    omega⟩
  obtain ⟨h1, rfl⟩ := rgD_get hd
  refine ⟨h1, fun x H' ⟨e, hy⟩ => ?_⟩
  subst e hy
  exact ⟨F2, Alloc.refl hs, .int _⟩
def rg1L (f : FE) : FL := fun ρ => match f ρ with
  | some (.int j, ρ1) => if -1000000 ≤ j ∧ j ≤ 1000000 then some (rgD 0 j.toNat, ρ1) else none
  | _ => none
def rg2L (f g : FE) : FL := fun ρ => match f ρ with
  | some (.int i, ρ1) => (match g ρ1 with
    | some (.int j, ρ2) => if -1000000 ≤ i ∧ i ≤ 1000000 ∧ -1000000 ≤ j ∧ j ≤ 1000000 then some (rgD i (j - i).toNat, ρ2) else none
    | _ => none)
  | _ => none
theorem bi_rg1 {tg e : Expr} {f : FE} (hm : X.mg "range" = none) (he : BE X Γ e f) (hg : Gl X "range" := by rfl) (hs : starEach [e] X.env = [(false, eval e X.env)] := by rfl) : BI X Γ tg (.Call (.Name "range" p) [e] [] pos) (rg1L f) := weakI (pi_range1 hg hm (pa_cons he pa_nil (by rw [hs]; rfl)) hs) fun σ H R ⟨ρ, F, fp, ds, ρ', S, hf, q⟩ => by
  unfold rg1L at hf
  split at hf
  · rename_i j ρ1 h1
    split at hf
    case isFalse => cases hf
    rename_i hb
    cases hf
    refine ⟨ρ, F, fp, _, _, S, h1, fun v H1 F1 fp1 s1 S1 r1 => ?_⟩
    obtain rfl := r1.int'
    exact ⟨j, rfl, by omega, by omega, q _ H1 F1 fp1 s1 S1 (itd_rng 0 _)⟩
  · cases hf
theorem bi_rg2 {tg e e2 : Expr} {f g : FE} (hm : X.mg "range" = none) (he : BE X Γ e f) (he2 : BE X Γ e2 g) (hg : Gl X "range" := by rfl) (hs : starEach [e, e2] X.env = [(false, eval e X.env), (false, eval e2 X.env)] := by rfl) (hs2 : starEach [e2] X.env = [(false, eval e2 X.env)] := by rfl) :
    BI X Γ tg (.Call (.Name "range" p) [e, e2] [] pos) (rg2L f g) := weakI (pi_range2 hg hm (pa_cons he (pa_cons he2 pa_nil (by rw [hs2]; rfl)) (by rw [hs, hs2])) hs hs2) fun σ H R ⟨ρ, F, fp, ds, ρ', S, hf, q⟩ => by
  unfold rg2L at hf
  split at hf
  · rename_i i ρ1 h1
    split at hf
    · rename_i j ρ2 h2
      split at hf
      case isFalse => cases hf
      rename_i hb
      cases hf
      refine ⟨ρ, F, fp, _, _, S, h1, fun v H1 F1 fp1 s1 S1 r1 => ⟨ρ1, F1, fp1, _, _, S1, h2, fun v2 H2 F2 fp2 s2 S2 r2 => ?_⟩⟩
      obtain rfl := r1.int'
      obtain rfl := r2.int'
      exact ⟨i, j, rfl, ⟨by omega, by omega, by omega, by omega⟩, q _ H2 F2 fp2 (s1.trans s2) S2 (itd_rng i _)⟩
    · cases hf
  · cases hf
def zipD : List D → List D → List D
  | a :: as, b :: bs => .tuple [a, b] :: zipD as bs
  | _, _ => []
theorem zipD_get : ∀ {as bs : List D} {i : Nat} {d : D}, (zipD as bs)[i]? = some d → ∃ a b, as[i]? = some a ∧ bs[i]? = some b ∧ d = .tuple [a, b]
  | a :: as, b :: bs, 0, d, h => by simp [zipD] at h; exact ⟨a, b, rfl, rfl, h.symm⟩
  | a :: as, b :: bs, i + 1, d, h => by
    obtain ⟨x, y, h1, h2, h3⟩ := zipD_get (as := as) (bs := bs) (i := i) (d := d) (by simpa [zipD] using h)
    exact ⟨x, y, by simpa using h1, by simpa using h2, h3⟩
  | [], bs, i, d, h => by simp [zipD] at h
  | _ :: _, [], i, d, h => by simp [zipD] at h
theorem zipD_end : ∀ {as bs : List D} {i : Nat}, (zipD as bs).length ≤ i → as.length ≤ i ∨ bs.length ≤ i
  | [], _, _, _ => .inl (Nat.zero_le _)
  | _ :: _, [], _, _ => .inr (Nat.zero_le _)
  | a :: as, b :: bs, 0, h => by simp [zipD] at h
  | a :: as, b :: bs, i + 1, h => by
    rcases zipD_end (as := as) (bs := bs) (i := i) (by simpa [zipD] using h) with z | z
    · exact .inl (by simpa using z)
    · exact .inr (by simpa using z)
theorem itd_zip {K : PySem.W.Frag} {F : Hp} {a b : Addr} {xs ys : List V} {ds es : List D} (h : F a = some (.lst xs)) (h' : F b = some (.lst ys)) (r : RpL K F xs ds) (r' : RpL K F ys es) : ItD K (Itz K a b) F (zipD ds es) := fun i F2 H fx hs => by
  have sq : SqL K H a xs := SqL.of (hs _ _ (fx _ _ h))
  have sq' : SqL K H b ys := SqL.of (hs _ _ (fx _ _ h'))
  refine ⟨fun d hd => ?_, fun hl => ⟨xs, ys, sq, sq', by rw [r.length, r'.length]; exact zipD_end hl⟩⟩
  obtain ⟨d1, d2, e1, e2, rfl⟩ := zipD_get hd
  obtain ⟨v1, h1, h2⟩ := r.get e1
  obtain ⟨v2, h3, h4⟩ := r'.get e2
  refine ⟨⟨xs, ys, v1, v2, sq, sq', h1, h3⟩, fun x H' ⟨T, x1, x2, ex, hT, eH, q1, q2⟩ => ?_⟩
  subst ex eH
  have g1 := (q1 xs sq).symm.trans h1
  have g2 := (q2 ys sq').symm.trans h3
  cases g1
  cases g2
  have A := Alloc.new1 (o := .tup [v1, v2]) hs hT
  exact ⟨_, A, .tup (SqT.of upd_same) (.cons ((h2.mono fx).mono A.ff) (.cons ((h4.mono fx).mono A.ff) .nil))⟩
def zipL (f g : FE) : FL := fun ρ => match f ρ with
  | some (.list a, ρ1) => (match g ρ1 with
    | some (.list b, ρ2) => some (zipD a b, ρ2)
    | _ => none)
  | _ => none
theorem bi_zip {e e2 : Expr} {elts : List Expr} {kk : Nat} {tpos : Pos} {f g : FE} (hm : X.mg "zip" = none) (he : BE X Γ e f) (he2 : BE X Γ e2 g) (hg : Gl X "zip" := by rfl)
    (hs : starEach [e, e2] X.env = (false, eval e X.env) :: starEach [e2] X.env := by rfl) (hs2 : starEach [e2] X.env = (false, eval e2 X.env) :: starEach [] X.env := by rfl) (hpl : (backTo pos (starEach [e2] X.env)).any (·.1) = false := by rfl) : BI X Γ (.Tuple elts kk tpos) (.Call (.Name "zip" p) [e, e2] [] pos) (zipL f g) :=
  weakI (pi_zip hg hm (pa_cons he (pa_cons he2 pa_nil hs2) hs) hs hpl) fun σ H R ⟨ρ, F, fp, ds, ρ', S, hf, q⟩ => by
  unfold zipL at hf
  split at hf
  · rename_i a ρ1 h1
    split at hf
    · rename_i b ρ2 h2
      cases hf
      refine ⟨ρ, F, fp, _, _, S, h1, fun v H1 F1 fp1 s1 S1 r1 => ⟨ρ1, F1, fp1, _, _, S1, h2, fun v2 H2 F2 fp2 s2 S2 r2 => ?_⟩⟩
      obtain ⟨p1, xs, rfl, w1, w2⟩ := (r1.mono s2.ff).list
      obtain ⟨p2, ys, rfl, w3, w4⟩ := r2.list
      exact ⟨p1, p2, xs, ys, rfl, SqL.of (S2.sub _ _ w1), SqL.of (S2.sub _ _ w3), q _ H2 F2 fp2 (s1.trans s2) S2 (itd_zip w1 w3 w2 w4)⟩
    · cases hf
  · cases hf
def enumD (n : Nat) : List D → List D
  | [] => []
  | d :: ds => .tuple [.int (n : Int), d] :: enumD (n + 1) ds
theorem enumD_get : ∀ {ds : List D} {n i : Nat} {d : D}, (enumD n ds)[i]? = some d → ∃ a, ds[i]? = some a ∧ d = .tuple [.int ((n + i : Nat) : Int), a]
  | a :: as, n, 0, d, h => by simp [enumD] at h; exact ⟨a, rfl, h.symm⟩
  | a :: as, n, i + 1, d, h => by
    obtain ⟨x, h1, h2⟩ := enumD_get (ds := as) (n := n + 1) (i := i) (d := d) (by simpa [enumD] using h)
    exact ⟨x, by simpa using h1, by rw [h2, show n + 1 + i = n + (i + 1) by omega]⟩
  | [], _, _, _, h => by simp [enumD] at h
theorem enumD_len : ∀ (ds : List D) (n : Nat), (enumD n ds).length = ds.length
  | [], _ => rfl
  | _ :: ds, n => by unfold enumD; rw [List.length_cons, List.length_cons, enumD_len ds]
theorem itd_enum {K : PySem.W.Frag} {F : Hp} {a : Addr} {xs : List V} {ds : List D} (h : F a = some (.lst xs)) (r : RpL K F xs ds) : ItD K (Ite K a) F (enumD 0 ds) := fun i F2 H fx hs => by
  have sq : SqL K H a xs := SqL.of (hs _ _ (fx _ _ h))
  refine ⟨fun d hd => ?_, fun hl => ⟨xs, sq, by rw [r.length, ← enumD_len ds 0]; exact hl⟩⟩
  obtain ⟨d1, e1, rfl⟩ := enumD_get hd
  obtain ⟨v1, h1, h2⟩ := r.get e1
  refine ⟨⟨xs, v1, sq, h1⟩, fun x H' ⟨T, x1, ex, hT, eH, q1⟩ => ?_⟩
  subst ex eH
  have g1 := (q1 xs sq).symm.trans h1
  cases g1
  have A := Alloc.new1 (o := .tup [.int (i : Nat), v1]) hs hT
  refine ⟨_, A, .tup (SqT.of upd_same) (.cons ?_ (.cons ((h2.mono fx).mono A.ff) .nil))⟩
  rw [Nat.zero_add]
  exact .int _
def enumL (f : FE) : FL := fun ρ => match f ρ with
  | some (.list a, ρ1) => some (enumD 0 a, ρ1)
  | _ => none
theorem bi_enum {e : Expr} {elts : List Expr} {kk : Nat} {tpos : Pos} {f : FE} (hm : X.mg "enumerate" = none) (he : BE X Γ e f) (hg : Gl X "enumerate" := by rfl) (hs : starEach [e] X.env = [(false, eval e X.env)] := by rfl) : BI X Γ (.Tuple elts kk tpos) (.Call (.Name "enumerate" p) [e] [] pos) (enumL f) :=
  weakI (pi_enum hg hm (pa_cons he pa_nil (by rw [hs]; rfl)) hs) fun σ H R ⟨ρ, F, fp, ds, ρ', S, hf, q⟩ => by
  unfold enumL at hf
  split at hf
  · rename_i a ρ1 h1
    cases hf
    refine ⟨ρ, F, fp, _, _, S, h1, fun v H1 F1 fp1 s1 S1 r1 => ?_⟩
    obtain ⟨p1, xs, rfl, w1, w2⟩ := r1.list
    exact ⟨p1, xs, rfl, SqL.of (S1.sub _ _ w1), q _ H1 F1 fp1 s1 S1 (itd_enum w1 w2)⟩
  · cases hf
/-- list(range(..)) -/
def lrg1E (f : FE) : FE := fun ρ => match rg1L f ρ with
  | none => none
  | some (ds, ρ1) => some (.list ds, ρ1)
def lrg2E (f g : FE) : FE := fun ρ => match rg2L f g ρ with
  | none => none
  | some (ds, ρ1) => some (.list ds, ρ1)
theorem RpL.rg {K : PySem.W.Frag} {F : Hp} (a b : Int) : RpL K F (rgV a b) (rgD a (b - a).toNat) := by
  unfold rgV rgD
  generalize List.range (b - a).toNat = l
  induction l with
  | nil => exact .nil
  | cons i l ih => rw [List.map_cons, List.map_cons]; exact .cons (.int _) ih
theorem bo_lrg1 {e : Expr} {f : FE} {p3 pos3 : Pos} (hc : X.calm = true) (hml : X.mg "list" = none) (hm : X.mg "range" = none) (he : BE X Γ e f) (hgl : Gl X "list" := by rfl) (hg : Gl X "range" := by rfl) (hs : starEach [e] X.env = (false, eval e X.env) :: starEach [] X.env := by rfl)
    (na : starEach [.Call (.Name "range" p3) [e] [] pos3] X.env = (false, eval (.Call (.Name "range" p3) [e] [] pos3) X.env) :: starEach [] X.env := by rfl) : BO X Γ (.lst .val) (.Call (.Name "list" p) [.Call (.Name "range" p3) [e] [] pos3] [] pos) (lrg1E f) :=
  weakE (pe_listRg hc hgl hml (prg_1 hg hm he hs) na) fun σ H Q ⟨ρ, F, fp, d, ρ', S, hf, q⟩ => by
  unfold lrg1E rg1L at hf
  split at hf
  · cases hf
  · rename_i ds ρ0 h0
    split at h0
    · rename_i j ρ1 h1
      split at h0
      case isFalse => cases h0
      rename_i hb
      cases h0
      cases hf
      refine ⟨ρ, F, fp, _, _, S, h1, fun v H1 F1 fp1 s1 S1 r1 => ?_⟩
      obtain rfl := r1.int'
      refine ⟨j, rfl, ⟨by omega, by omega, by omega, by omega, by omega⟩, fun p hp => ?_⟩
      obtain ⟨s2, S2, _, _⟩ := new_own (o := .lst (rgV 0 j)) S1 hp
      have rr := RpL.rg (K := X.K) (F := F1) 0 j
      rw [Int.sub_zero] at rr
      exact q _ _ _ fp1 [p] (s1.trans s2) S2 ((own_new S1 hp rr).back s1)
    · cases h0
theorem bo_lrg2 {e e2 : Expr} {f g : FE} {p3 pos3 : Pos} (hc : X.calm = true) (hml : X.mg "list" = none) (hm : X.mg "range" = none) (he : BE X Γ e f) (he2 : BE X Γ e2 g) (hgl : Gl X "list" := by rfl) (hg : Gl X "range" := by rfl) (hs : starEach [e, e2] X.env = (false, eval e X.env) :: starEach [e2] X.env := by rfl) (hs2 : starEach [e2] X.env = (false, eval e2 X.env) :: starEach [] X.env := by rfl)
    (na : starEach [.Call (.Name "range" p3) [e, e2] [] pos3] X.env = (false, eval (.Call (.Name "range" p3) [e, e2] [] pos3) X.env) :: starEach [] X.env := by rfl) (hp2 : (backTo pos3 (starEach [e2] X.env)).any (·.1) = false := by rfl) : BO X Γ (.lst .val) (.Call (.Name "list" p) [.Call (.Name "range" p3) [e, e2] [] pos3] [] pos) (lrg2E f g) :=
  weakE (pe_listRg hc hgl hml (prg_2 hg hm he he2 hs hs2 hp2) na) fun σ H Q ⟨ρ, F, fp, d, ρ', S, hf, q⟩ => by
  unfold lrg2E rg2L at hf
  split at hf
  · cases hf
  · rename_i ds ρ0 h0
    split at h0
    · rename_i i ρ1 h1
      split at h0
      · rename_i j ρ2 h2
        split at h0
        case isFalse => cases h0
        rename_i hb
        cases h0
        cases hf
        refine ⟨ρ, F, fp, _, _, S, h1, fun v H1 F1 fp1 s1 S1 r1 => ⟨ρ1, F1, fp1, _, _, S1, h2, fun v2 H2 F2 fp2 s2 S2 r2 => ?_⟩⟩
        obtain rfl := r1.int'
        obtain rfl := r2.int'
        refine ⟨i, j, rfl, rfl, ⟨by omega, by omega, by omega, by omega, by omega⟩, fun p hp => ?_⟩
        obtain ⟨s3, S3, _, _⟩ := new_own (o := .lst (rgV i j)) S2 hp
        exact q _ _ _ fp2 [p] ((s1.trans s2).trans s3) S3 ((own_new S2 hp (RpL.rg i j)).back (s1.trans s2))
      · cases h0
    · cases h0
end
end BV

set_option Elab.async false
set_option linter.all false
set_option maxRecDepth 100000
set_option maxHeartbeats 4000000
namespace BV
open PySem PySem.Spec L2
/-! ## what is one's own is changed -/
section
variable {K : PySem.W.Frag} {Γ : List Md} {ρ : En} {σ : Sl} {F0 H0 F H : Hp} {fp0 fp : Fp}
theorem chg {i : Nat} {a : Addr} {o : HO} {v : V} {d' : D} {q' : List Addr} (s : Step F0 H0 fp0 F H fp) (S : StR K Γ ρ σ F H fp) (ha : a ∈ fp i) (hv : σ[i]? = some (some v)) (ow : Ow K F (upd H a o) (Γ.getD i .val) v d' q') (nd : q'.Nodup) (fr : ∀ b ∈ q', F b = none) (dis : ∀ b ∈ q', ∀ j, j ≠ i → b ∉ fp j)
    (new : ∀ b ∈ q', b ∈ fp i ∨ H0 b = none ∨ ∃ j, b ∈ fp0 j) : Step F0 H0 fp0 F (upd H a o) (fpSet fp i q') ∧ StR K Γ (ρ.set i (some d')) σ F (upd H a o) (fpSet fp i q') := by
  have hi : i < σ.length := (List.getElem?_eq_some_iff.mp hv).1
  refine ⟨⟨s.ff, fun b u h n => ?_, fun b h => ?_, s.new, fun j b h => ?_⟩, ⟨fun b u h => ?_, by rw [List.length_set]; exact S.len, S.lenG, fun j e h => ?_, fun j h => ?_, fun j => ?_, fun j k b h1 h2 => ?_, fun j b h => ?_⟩⟩
  · have ne : b ≠ a := fun z => by
      subst z
      rcases s.nfp i b ha with z | ⟨j, z⟩
      · rw [z] at h; cases h
      · exact n j z
    rw [upd_ne ne]
    exact s.hh b u h n
  · by_cases e : b = a
    · subst e; rw [upd_same]; exact .inl (by simp)
    · rw [upd_ne e]; exact s.live b h
  · by_cases hj : j = i
    · subst hj
      rw [fpSet_same] at h
      rcases new b h with z | z
      · exact s.nfp _ b z
      · exact z
    · rw [fpSet_ne hj] at h; exact s.nfp j b h
  · have ne : b ≠ a := fun z => by
      subst z
      rw [S.fr i b ha] at h; cases h
    rw [upd_ne ne]; exact S.sub b u h
  · by_cases hj : j = i
    · subst hj
      rw [List.getElem?_set_self (by rw [S.len]; exact hi)] at h
      cases h
      exact ⟨v, hv, by rw [fpSet_same]; exact ow⟩
    · rw [List.getElem?_set_ne (Ne.symm hj)] at h
      obtain ⟨w, w1, w2⟩ := S.slot j e h
      refine ⟨w, w1, ?_⟩
      rw [fpSet_ne hj]
      exact w2.keep (Same.refl _) fun b hb => upd_ne fun z => hj (S.dis j i a (z ▸ hb) ha)
  · by_cases hj : j = i
    · subst hj
      exact absurd (by rw [List.getElem?_set_self (by rw [S.len]; exact hi)]) (h d')
    · rw [fpSet_ne hj]
      exact S.emp j fun e w => h e (by rw [List.getElem?_set_ne (Ne.symm hj)]; exact w)
  · by_cases hj : j = i
    · subst hj; rw [fpSet_same]; exact nd
    · rw [fpSet_ne hj]; exact S.nd j
  · by_cases hj : j = i
    · by_cases hk : k = i
      · rw [hj, hk]
      · subst hj
        rw [fpSet_same] at h1
        rw [fpSet_ne hk] at h2
        exact absurd h2 (dis b h1 k hk)
    · by_cases hk : k = i
      · subst hk
        rw [fpSet_same] at h2
        rw [fpSet_ne hj] at h1
        exact absurd h1 (dis b h2 j hj)
      · rw [fpSet_ne hj] at h1
        rw [fpSet_ne hk] at h2
        exact S.dis j k b h1 h2
  · by_cases hj : j = i
    · subst hj; rw [fpSet_same] at h; exact fr b h
    · rw [fpSet_ne hj] at h; exact S.fr j b h
/-- .. the same addresses, or fewer -/
theorem chg1 {i : Nat} {a : Addr} {o : HO} {v : V} {d' : D} {q' : List Addr} (s : Step F0 H0 fp0 F H fp) (S : StR K Γ ρ σ F H fp) (ha : a ∈ fp i) (hv : σ[i]? = some (some v)) (ow : Ow K F (upd H a o) (Γ.getD i .val) v d' q') (nd : q'.Nodup) (hq : ∀ b ∈ q', b ∈ fp i) :
    Step F0 H0 fp0 F (upd H a o) (fpSet fp i q') ∧ StR K Γ (ρ.set i (some d')) σ F (upd H a o) (fpSet fp i q') :=
  chg s S ha hv ow nd (fun b hb => S.fr i b (hq b hb)) (fun b hb j hj h => hj (S.dis j i b h (hq b hb))) fun b hb => .inl (hq b hb)
theorem StR.lst {i : Nat} {m : Md} {d : D} (S : StR K Γ ρ σ F H fp) (hm : Γ.getD i .val = .lst m) (h : ρ[i]? = some (some d)) : ∃ a xs ds fps, σ[i]? = some (some (.ref a)) ∧ d = .list ds ∧ H a = some (.lst xs) ∧ OwA (Ow K F H m) xs ds fps ∧ fp i = a :: fps := by
  obtain ⟨v, h1, h2⟩ := S.slot i d h
  rw [hm] at h2
  obtain ⟨a, xs, ds, fps, rfl, rfl, h3, h4, h5⟩ := h2
  exact ⟨a, xs, ds, fps, h1, rfl, h3, h4, h5⟩
theorem StR.lstV {i : Nat} {d : D} (S : StR K Γ ρ σ F H fp) (hm : Γ.getD i .val = .lst .val) (h : ρ[i]? = some (some d)) : ∃ a xs ds, σ[i]? = some (some (.ref a)) ∧ d = .list ds ∧ H a = some (.lst xs) ∧ RpL K F xs ds ∧ fp i = [a] := by
  obtain ⟨a, xs, ds, fps, h1, h2, h3, h4, h5⟩ := S.lst hm h
  obtain ⟨h6, rfl⟩ := owA_rp h4
  exact ⟨a, xs, ds, h1, h2, h3, h6, h5⟩
theorem StR.dct {i : Nat} {d : D} (S : StR K Γ ρ σ F H fp) (hm : Γ.getD i .val = .dct) (h : ρ[i]? = some (some d)) : ∃ a xs ds, σ[i]? = some (some (.ref a)) ∧ d = .dict ds ∧ H a = some (.dK xs) ∧ RpK K F xs ds ∧ fp i = [a] := by
  obtain ⟨v, h1, h2⟩ := S.slot i d h
  rw [hm] at h2
  obtain ⟨a, xs, ds, rfl, rfl, h3, h4, h5⟩ := h2
  exact ⟨a, xs, ds, h1, rfl, h3, h4, h5⟩
theorem OwA.length {P : V → D → List Addr → Prop} : ∀ {vs : List V} {ds : List D} {q : List Addr}, OwA P vs ds q → vs.length = ds.length
  | _, _, _, .nil => rfl
  | _, _, _, .cons _ t => by rw [List.length_cons, List.length_cons, OwA.length t]
end
section
variable {X : Cx} {ms : List Md} {rm : Md} {Γl Γ : List Md} {pos p apos cpos : Pos}
def appS (i : Nat) (f : FE) : FS := fun ρ => match ρ[i]? with
  | some (some (.list _)) => (match f ρ with
    | none => none
    | some (d, ρ1) => match ρ1[i]? with
      | some (some (.list ds)) => if ds.length < 1000000 then some (.nx, ρ1.set i (some (.list (ds ++ [d])))) else none
      | _ => none)
  | _ => none
theorem bs_append (i : Nat) {m : Md} {x : Str} {e : Expr} {f : FE} (he : BO X Γ m e f) (hm : Γ.getD i .val = .lst m := by rfl) (hN : X.N[i]? = some x := by rfl) (hv : Vis X.env.scope x := by first | exact Or.inl rfl | exact Or.inr (Or.inl rfl) | exact Or.inr (Or.inr rfl)) (hd : (x == ("__debug__" : Str)) = false := by decide)
    (hcd : (x == ("__classdict__" : Str)) = false := by decide) (hbase : attributeBase (.Name x p) "append" X.env (eval (.Name x p) X.env) = eval (.Name x p) X.env := by rfl)
    (hfew : ((backTo cpos (starEach (e :: []) X.env)).all (fun x => !x.1) && (backToKw cpos (keywordEach [] X.env)).all (fun x => x.1.isSome)
      && decide ((e :: []).length + ([] : List Keyword).length + (if ([] : List Keyword).isEmpty then 0 else 1) < 30)) = true := by rfl)
    (hline : (apos.endLine == cpos.line) = true := by rfl) (hs : starEach (e :: []) X.env = (false, eval e X.env) :: starEach [] X.env := by rfl) (hsw : swapsWith (.Call (.Attribute (.Name x p) "append" apos) [e] [] cpos) none pos.line X.env = pure false := by rfl) :
    BS X ms rm Γl Γ Γ (.Expr (.Call (.Attribute (.Name x p) "append" apos) [e] [] cpos) pos) (appS i f) :=
  weakS (ps_expr (pe_bm PySem.F.plainAttrs_list PySem.F.slot_list_append PySem.F.type_list_append mt_append (pe_var hN hv hd hcd) (pa_cons he pa_nil hs) hbase hfew hline hs rfl) hsw) fun Dn σ H ⟨ρ, F, fp, fl, ρ', vp, S, P, hf, q⟩ => by
  unfold appS at hf
  split at hf
  · rename_i ds0 h0
    split at hf
    · cases hf
    · rename_i d ρ1 h1
      split at hf
      · rename_i ds h2
        split at hf
        case isFalse => cases hf
        rename_i hl
        cases hf
        obtain ⟨a, xs0, _, fps0, g1, _, g2, _, _⟩ := S.lst hm h0
        refine ⟨.ref a, g1, .inl ⟨rfl, xs0, SqL.of g2⟩, ?_⟩
        refine ⟨ρ, F, fp, d, ρ1, S, h1, fun v H1 F1 fp1 qv s1 S1 o1 => ?_⟩
        obtain ⟨a', xs, ds', fps, g3, ed, g4, g5, g6⟩ := S1.lst hm h2
        rw [g1] at g3
        cases g3
        cases ed
        refine ⟨a, xs, v, rfl, rfl, g4, by have := million; rw [g5.length]; omega, ?_⟩
        have ain : a ∈ fp1 i := by rw [g6]; exact List.mem_cons_self
        have fin : ∀ b ∈ fps, b ∈ fp1 i := fun b hb => by rw [g6]; exact List.mem_cons_of_mem _ hb
        have nd := S1.nd i
        rw [g6] at nd
        have na : ∀ b ∈ fps, b ≠ a := fun b hb z => (List.nodup_cons.mp nd).1 (z ▸ hb)
        have nq : ∀ b ∈ qv, b ≠ a := fun b hb z => o1.dis b hb i (z ▸ ain)
        obtain ⟨s2, S2⟩ := chg (i := i) (a := a) (o := .lst (xs ++ [v])) (v := .ref a) (d' := .list (ds ++ [d])) (q' := a :: (fps ++ qv)) s1 S1 ain g1
          (by rw [hm]; exact ⟨a, xs ++ [v], ds ++ [d], fps ++ qv, rfl, rfl, upd_same, OwA.append (g5.imp fun v d q hq h => h.keep (Same.refl _) fun b hb => upd_ne (na b (hq b hb))) (OwA.one (o1.ow.keep (Same.refl _) fun b hb => upd_ne (nq b hb))), rfl⟩)
          (by
            refine List.nodup_cons.mpr ⟨fun h => ?_, List.nodup_append.mpr ⟨(List.nodup_cons.mp nd).2, o1.nd, fun b h1 c h2 z => o1.dis c h2 i (z ▸ fin b h1)⟩⟩
            rcases List.mem_append.mp h with h | h
            · exact na a h rfl
            · exact nq a h rfl)
          (fun b hb => by
            rcases List.mem_cons.mp hb with e | hb
            · subst e; exact S1.fr i _ ain
            · rcases List.mem_append.mp hb with h | h
              · exact S1.fr i b (fin b h)
              · exact o1.fr b h)
          (fun b hb j hj hbj => by
            rcases List.mem_cons.mp hb with e | hb
            · subst e; exact hj (S1.dis j i _ hbj ain)
            · rcases List.mem_append.mp hb with h | h
              · exact hj (S1.dis j i _ hbj (fin b h))
              · exact o1.dis b h j hbj)
          (fun b hb => by
            rcases List.mem_cons.mp hb with e | hb
            · subst e; exact .inl ain
            · rcases List.mem_append.mp hb with h | h
              · exact .inl (fin b h)
              · exact .inr (o1.new b h))
        exact q σ _ F1 _ s2 S2 P
      · cases hf
  · cases hf
/-! ### pop -/
def popE (i : Nat) : FE := fun ρ => match ρ[i]? with
  | some (some (.list ds)) => (match ds[ds.length - 1]? with
    | some d => some (d, ρ.set i (some (.list ds.dropLast)))
    | none => none)
  | _ => none
theorem be_pop (i : Nat) {x : Str} (hm : Γ.getD i .val = .lst .val := by rfl) (hN : X.N[i]? = some x := by rfl) (hv : Vis X.env.scope x := by first | exact Or.inl rfl | exact Or.inr (Or.inl rfl) | exact Or.inr (Or.inr rfl)) (hd : (x == ("__debug__" : Str)) = false := by decide)
    (hcd : (x == ("__classdict__" : Str)) = false := by decide) (hbase : attributeBase (.Name x p) "pop" X.env (eval (.Name x p) X.env) = eval (.Name x p) X.env := by rfl) (hline : (apos.endLine == cpos.line) = true := by rfl) : BE X Γ (.Call (.Attribute (.Name x p) "pop" apos) [] [] cpos) (popE i) :=
  weakE (pe_bm0 PySem.F.plainAttrs_list PySem.F.slot_list_pop PySem.F.type_list_pop mt_pop (pe_var hN hv hd hcd) hbase hline) fun σ H Q ⟨ρ, F, fp, d, ρ', S, hf, q⟩ => by
  unfold popE at hf
  split at hf
  · rename_i ds h0
    split at hf
    · rename_i d1 h1
      cases hf
      obtain ⟨a, xs, ds', g1, ed, g2, g3, g4⟩ := S.lstV hm h0
      cases ed
      obtain ⟨v, w1, w2⟩ := g3.get h1
      refine ⟨.ref a, g1, .inl ⟨rfl, xs, SqL.of g2⟩, a, xs, v, rfl, rfl, g2, by rw [g3.length]; exact w1, ?_⟩
      have ain : a ∈ fp i := by rw [g4]; exact List.mem_cons_self
      obtain ⟨s2, S2⟩ := chg1 (i := i) (a := a) (o := .lst xs.dropLast) (v := .ref a) (d' := .list ds.dropLast) (q' := [a]) (Step.refl _ _ _) S ain g1
        (by rw [hm]; exact ⟨a, xs.dropLast, ds.dropLast, [], rfl, rfl, upd_same, owA_val g3.dropLast, rfl⟩) (by simp) (fun b hb => by
          have e : b = a := by simpa using hb
          subst e; exact ain)
      exact q v _ F _ s2 S2 w2
    · cases hf
  · cases hf
def popAtE (i : Nat) (f : FE) : FE := fun ρ => match ρ[i]? with
  | some (some (.list _)) => (match f ρ with
    | some (.int j, ρ1) => (match ρ1[i]? with
      | some (some (.list ds)) => (match seqIndex? j ds.length with
        | some k => (match ds[k]? with
          | some d => if j.natAbs < 1000000 then some (d, ρ1.set i (some (.list (ds.eraseIdx k)))) else none
          | none => none)
        | none => none)
      | _ => none)
    | _ => none)
  | _ => none
theorem be_popAt (i : Nat) {x : Str} {e : Expr} {f : FE} (he : BE X Γ e f) (hm : Γ.getD i .val = .lst .val := by rfl) (hN : X.N[i]? = some x := by rfl) (hv : Vis X.env.scope x := by first | exact Or.inl rfl | exact Or.inr (Or.inl rfl) | exact Or.inr (Or.inr rfl)) (hd : (x == ("__debug__" : Str)) = false := by decide)
    (hcd : (x == ("__classdict__" : Str)) = false := by decide) (hbase : attributeBase (.Name x p) "pop" X.env (eval (.Name x p) X.env) = eval (.Name x p) X.env := by rfl)
    (hfew : ((backTo cpos (starEach (e :: []) X.env)).all (fun x => !x.1) && (backToKw cpos (keywordEach [] X.env)).all (fun x => x.1.isSome)
      && decide ((e :: []).length + ([] : List Keyword).length + (if ([] : List Keyword).isEmpty then 0 else 1) < 30)) = true := by rfl)
    (hline : (apos.endLine == cpos.line) = true := by rfl) (hs : starEach (e :: []) X.env = (false, eval e X.env) :: starEach [] X.env := by rfl) : BE X Γ (.Call (.Attribute (.Name x p) "pop" apos) [e] [] cpos) (popAtE i f) :=
  weakE (pe_bm PySem.F.plainAttrs_list PySem.F.slot_list_pop PySem.F.type_list_pop mt_popAt (pe_var hN hv hd hcd) (pa_cons he pa_nil hs) hbase hfew hline hs rfl) fun σ H Q ⟨ρ, F, fp, d, ρ', S, hf, q⟩ => by
  unfold popAtE at hf
  split at hf
  · rename_i ds0 h0
    split at hf
    · rename_i j ρ1 h1
      split at hf
      · rename_i ds h2
        split at hf
        · rename_i k hk
          split at hf
          · rename_i d1 h3
            split at hf
            case isFalse => cases hf
            rename_i hj
            cases hf
            obtain ⟨a, xs0, _, g1, _, g2, _, _⟩ := S.lstV hm h0
            refine ⟨.ref a, g1, .inl ⟨rfl, xs0, SqL.of g2⟩, ρ, F, fp, _, ρ1, S, h1, fun vj H1 F1 fp1 s1 S1 r1 => ?_⟩
            obtain rfl := r1.int'
            obtain ⟨a', xs, ds', g3, ed, g4, g5, g6⟩ := S1.lstV hm h2
            rw [g1] at g3
            cases g3
            cases ed
            obtain ⟨v, w1, w2⟩ := g5.get h3
            refine ⟨a, xs, j, k, v, rfl, rfl, g4, by omega, by omega, by rw [g5.length]; exact hk, w1, ?_⟩
            have ain : a ∈ fp1 i := by rw [g6]; exact List.mem_cons_self
            obtain ⟨s2, S2⟩ := chg1 (i := i) (a := a) (o := .lst (xs.eraseIdx k)) (v := .ref a) (d' := .list (ds.eraseIdx k)) (q' := [a]) s1 S1 ain g1
              (by rw [hm]; exact ⟨a, xs.eraseIdx k, ds.eraseIdx k, [], rfl, rfl, upd_same, owA_val (g5.eraseIdx k), rfl⟩) (by simp) (fun b hb => by
                have e : b = a := by simpa using hb
                subst e; exact ain)
            exact q v _ F1 _ s2 S2 w2
          · cases hf
        · cases hf
      · cases hf
    · cases hf
  · cases hf
/-! ### x[e] of one's own list; x[e] = v -/
def ixO (i : Nat) (f : FE) : FE := fun ρ => match ρ[i]? with
  | some (some (.list _)) => (match f ρ with
    | some (.int j, ρ1) => (match ρ1[i]? with
      | some (some (.list ds)) => (match atI ds j with
        | some d => some (d, ρ1)
        | none => none)
      | _ => none)
    | _ => none)
  | _ => none
theorem be_ixO (i : Nat) {x : Str} {e : Expr} {f : FE} (he : BE X Γ e f) (hm : Γ.getD i .val = .lst .val := by rfl) (hN : X.N[i]? = some x := by rfl) (hv : Vis X.env.scope x := by first | exact Or.inl rfl | exact Or.inr (Or.inl rfl) | exact Or.inr (Or.inr rfl)) (hd : (x == ("__debug__" : Str)) = false := by decide)
    (hcd : (x == ("__classdict__" : Str)) = false := by decide) (hs : PlainIx e := by exact fun _ _ => rfl) : BE X Γ (.Subscript (.Name x p) e pos) (ixO i f) := weakE (pe_ix ix_list (pe_var hN hv hd hcd) he hs) fun σ H Q ⟨ρ, F, fp, d, ρ', S, hf, q⟩ => by
  unfold ixO at hf
  split at hf
  · rename_i ds0 h0
    split at hf
    · rename_i j ρ1 h1
      split at hf
      · rename_i ds h2
        split at hf
        · rename_i d1 h3
          cases hf
          obtain ⟨a, xs0, _, g1, _, g2, _, _⟩ := S.lstV hm h0
          refine ⟨.ref a, g1, ρ, F, fp, _, _, S, h1, fun vj H1 F1 fp1 s1 S1 r1 => ?_⟩
          obtain rfl := r1.int'
          obtain ⟨a', xs, ds', g3, ed, g4, g5, g6⟩ := S1.lstV hm h2
          rw [g1] at g3
          cases g3
          cases ed
          obtain ⟨v, w1, w2⟩ := g5.atI h3
          exact ⟨a, xs, j, v, rfl, rfl, SqL.of g4, w1, q v H1 F1 fp1 s1 S1 w2⟩
        · cases hf
      · cases hf
    · cases hf
  · cases hf
def setS (i : Nat) (f g : FE) : FS := fun ρ => match f ρ with
  | none => none
  | some (d, ρ1) => match ρ1[i]? with
    | some (some (.list _)) => (match g ρ1 with
      | some (.int j, ρ2) => (match ρ2[i]? with
        | some (some (.list ds)) => (match ixN ds.length j with
          | some k => some (.nx, ρ2.set i (some (.list (ds.set k d))))
          | none => none)
        | _ => none)
      | _ => none)
    | _ => none
theorem bs_setI (i : Nat) {x : Str} {e e2 : Expr} {f g : FE} {tpos : Pos} (he : BE X Γ e f) (he2 : BE X Γ e2 g) (hm : Γ.getD i .val = .lst .val := by rfl) (hN : X.N[i]? = some x := by rfl) (hv : Vis X.env.scope x := by first | exact Or.inl rfl | exact Or.inr (Or.inl rfl) | exact Or.inr (Or.inr rfl)) (hd : (x == ("__debug__" : Str)) = false := by decide)
    (hcd : (x == ("__classdict__" : Str)) = false := by decide) (hs : swapsWithSole [.Subscript (.Name x p) e2 tpos] e pos.line X.env = pure false := by rfl) (hw : swappedStores [.Subscript (.Name x p) e2 tpos] e X.env = pure none := by rfl)
    (h1 : (assignEach [.Subscript (.Name x p) e2 tpos] X.env).map (·.2) = [assign (.Subscript (.Name x p) e2 tpos) X.env] := by rfl)
    (ha : ∀ v, assign (.Subscript (.Name x p) e2 tpos) X.env v = (do
      let ov ← holding [v] (eval (.Name x p) X.env)
      let iv ← holding [v, ov] (eval e2 X.env)
      standAt tpos
      holding [v, ov, iv] (setItem ov iv v)
      release [v, ov, iv] []) := by intro _; rfl) : BS X ms rm Γl Γ Γ (.Assign [.Subscript (.Name x p) e2 tpos] e pos) (setS i f g) :=
  weakS (ps_asg he (pg_sub (pe_var hN hv hd hcd) he2 set_list ha) hs hw h1) fun Dn σ H ⟨ρ, F, fp, fl, ρ', vp, S, P, hf, q⟩ => by
  unfold setS at hf
  split at hf
  · cases hf
  · rename_i d ρ1 h1
    split at hf
    · rename_i ds0 h0
      split at hf
      · rename_i j ρ2 h2
        split at hf
        · rename_i ds h3
          split at hf
          · rename_i k hk
            cases hf
            refine ⟨ρ, F, fp, d, ρ1, S, h1, fun v H1 F1 fp1 s1 S1 r1 => ?_⟩
            obtain ⟨a, xs0, _, g1, _, g2, _, _⟩ := S1.lstV hm h0
            refine ⟨.ref a, g1, ρ1, F1, fp1, _, ρ2, S1, h2, fun vj H2 F2 fp2 s2 S2 r2 => ?_⟩
            obtain rfl := r2.int'
            obtain ⟨a', xs, ds', g3, ed, g4, g5, g6⟩ := S2.lstV hm h3
            rw [g1] at g3
            cases g3
            cases ed
            refine ⟨a, xs, j, k, rfl, rfl, g4, by rw [g5.length]; exact hk, ?_⟩
            have ain : a ∈ fp2 i := by rw [g6]; exact List.mem_cons_self
            obtain ⟨s3, S3⟩ := chg1 (i := i) (a := a) (o := .lst (xs.set k v)) (v := .ref a) (d' := .list (ds.set k d)) (q' := [a]) (s1.trans s2) S2 ain g1
              (by rw [hm]; exact ⟨a, xs.set k v, ds.set k d, [], rfl, rfl, upd_same, owA_val (g5.set (r1.mono s2.ff) k), rfl⟩) (by simp) (fun b hb => by
                have e : b = a := by simpa using hb
                subst e; exact ain)
            exact q σ _ F2 _ s3 S3 P
          · cases hf
        · cases hf
      · cases hf
    · cases hf
/-! ### dicts -/
def keyD : D → Option Key
  | .int i => some (.inl i)
  | .str s => some (.inr s)
  | _ => none
def keyEq : D → D → Bool
  | .int i, .int j => decide (i = j)
  | .str s, .str t => decide (s = t)
  | _, _ => false
def lookD (k : D) : List (D × D) → Option D
  | [] => none
  | (k', d) :: r => if keyEq k' k = true then some d else lookD k r
def putD (k d : D) (ds : List (D × D)) : List (D × D) := if (ds.any fun p => keyEq p.1 k) = true then ds.map (fun p => if keyEq p.1 k = true then (p.1, d) else p) else ds ++ [(k, d)]
end
section
variable {K : PySem.W.Frag} {F : Hp}
theorem keyEq_kD (a b : Key) : keyEq (kD a) (kD b) = decide (a = b) := by
  cases a with
  | inl i => cases b with
    | inl j => show decide (i = j) = _; by_cases h : i = j <;> simp [h]
    | inr t => show false = _; simp
  | inr s => cases b with
    | inl j => show false = _; simp
    | inr t => show decide (s = t) = _; by_cases h : s = t <;> simp [h]
theorem keyD_eq {d : D} {k : Key} (h : keyD d = some k) : d = kD k := by
  unfold keyD at h
  split at h <;> first | (cases h; rfl) | cases h
theorem Rp.key {v : V} {k : Key} (r : Rp K F v (kD k)) : v = kV k := by
  cases k with
  | inl i => exact r.int'
  | inr s => exact r.str'
theorem rp_key (k : Key) : Rp K F (kV k) (kD k) := by
  cases k with
  | inl i => exact .int i
  | inr s => exact .str s
theorem RpK.look {k : Key} : ∀ {xs : List (Key × V)} {ds : List (D × D)}, RpK K F xs ds → (∀ d, lookD (kD k) ds = some d → ∃ v, valV xs k = some v ∧ Rp K F v d) ∧ (lookD (kD k) ds = none → valV xs k = none)
  | _, _, .nil => ⟨fun d h => by simp [lookD] at h, fun _ => rfl⟩
  | _, _, .cons (k := k') (d := d') r t => by
    obtain ⟨h1, h2⟩ := RpK.look (k := k) t
    unfold lookD
    rw [keyEq_kD]
    by_cases e : k' = k
    · rw [if_pos (by simpa using e), valV_pos e]
      exact ⟨fun d h => by cases h; exact ⟨_, rfl, r⟩, fun h => by cases h⟩
    · rw [if_neg (by simpa using e), valV_neg e]
      exact ⟨h1, h2⟩
theorem RpK.append : ∀ {xs ys : List (Key × V)} {ds es : List (D × D)}, RpK K F xs ds → RpK K F ys es → RpK K F (xs ++ ys) (ds ++ es)
  | _, _, _, _, .nil, s => s
  | _, _, _, _, .cons h t, s => .cons h (RpK.append t s)
theorem RpK.length : ∀ {xs : List (Key × V)} {ds : List (D × D)}, RpK K F xs ds → xs.length = ds.length
  | _, _, .nil => rfl
  | _, _, .cons _ t => by rw [List.length_cons, List.length_cons, RpK.length t]
theorem RpK.any {k : Key} : ∀ {xs : List (Key × V)} {ds : List (D × D)}, RpK K F xs ds → (xs.any fun kv => decide (kv.1 = k)) = ds.any fun p => keyEq p.1 (kD k)
  | _, _, .nil => rfl
  | _, _, .cons r t => by rw [List.any_cons, List.any_cons, RpK.any t, keyEq_kD]
theorem RpK.repl {k : Key} {v : V} {d : D} (rv : Rp K F v d) : ∀ {xs : List (Key × V)} {ds : List (D × D)}, RpK K F xs ds → RpK K F (xs.map fun kv => if kv.1 = k then (kv.1, v) else kv) (ds.map fun p => if keyEq p.1 (kD k) = true then (p.1, d) else p)
  | _, _, .nil => .nil
  | _, _, .cons (k := k') r t => by
    rw [List.map_cons, List.map_cons, keyEq_kD]
    by_cases e : k' = k
    · rw [if_pos e, if_pos (by simpa using e)]
      exact .cons rv (RpK.repl rv t)
    · rw [if_neg e, if_neg (by simpa using e)]
      exact .cons r (RpK.repl rv t)
theorem RpK.put {k : Key} {v : V} {d : D} (rv : Rp K F v d) {xs : List (Key × V)} {ds : List (D × D)} (r : RpK K F xs ds) : RpK K F (putK xs k v) (putD (kD k) d ds) := by
  unfold putK putD
  rw [r.any]
  split
  · exact r.repl rv
  · exact r.append (.cons rv .nil)
end
section
variable {X : Cx} {ms : List Md} {rm : Md} {Γl Γ : List Md} {pos p apos cpos : Pos}
/-- x[e], x a dict of one's own -/
def dgetO (i : Nat) (f : FE) : FE := fun ρ => match ρ[i]? with
  | some (some (.dict _)) => (match f ρ with
    | some (k, ρ1) => (match ρ1[i]? with
      | some (some (.dict ds)) => (match keyD k with
        | none => none
        | some _ => match lookD k ds with
          | some d => some (d, ρ1)
          | none => none)
      | _ => none)
    | none => none)
  | _ => none
theorem be_dgetO (i : Nat) {x : Str} {e : Expr} {f : FE} (hu : X.A.units + 1 < cLine) (he : BE X Γ e f) (hm : Γ.getD i .val = .dct := by rfl) (hN : X.N[i]? = some x := by rfl) (hv : Vis X.env.scope x := by first | exact Or.inl rfl | exact Or.inr (Or.inl rfl) | exact Or.inr (Or.inr rfl)) (hd : (x == ("__debug__" : Str)) = false := by decide)
    (hcd : (x == ("__classdict__" : Str)) = false := by decide) (hs : NoSl e := by exact fun _ _ => rfl) : BE X Γ (.Subscript (.Name x p) e pos) (dgetO i f) := weakE (pe_dget hu (pe_var hN hv hd hcd) he hs) fun σ H Q ⟨ρ, F, fp, d, ρ', S, hf, q⟩ => by
  unfold dgetO at hf
  split at hf
  · rename_i ds0 h0
    split at hf
    · rename_i k ρ1 h1
      split at hf
      · rename_i ds h2
        split at hf
        · cases hf
        · rename_i kk hk
          split at hf
          · rename_i d1 h3
            cases hf
            obtain ⟨a, xs0, _, g1, _, g2, _, _⟩ := S.dct hm h0
            refine ⟨.ref a, g1, ρ, F, fp, _, _, S, h1, fun vj H1 F1 fp1 s1 S1 r1 => ?_⟩
            obtain ⟨a', xs, ds', g3, ed, g4, g5, g6⟩ := S1.dct hm h2
            rw [g1] at g3
            cases g3
            cases ed
            obtain rfl := keyD_eq hk
            obtain rfl := r1.key
            obtain ⟨v, w1, w2⟩ := (g5.look (k := kk)).1 _ h3
            exact ⟨a, v, rfl, .inl ⟨xs, kk, .inl g4, rfl, w1.symm⟩, q v H1 F1 fp1 s1 S1 w2⟩
          · cases hf
      · cases hf
    · cases hf
  · cases hf
/-- x[e], x a dict that does not change -/
def dgetE (f g : FE) : FE := fun ρ => match f ρ with
  | some (.dict ds, ρ1) => (match g ρ1 with
    | some (k, ρ2) => (match keyD k with
      | none => none
      | some _ => match lookD k ds with
        | some d => some (d, ρ2)
        | none => none)
    | none => none)
  | _ => none
theorem be_dget {e e2 : Expr} {f g : FE} (hu : X.A.units + 1 < cLine) (he : BE X Γ e f) (he2 : BE X Γ e2 g) (hs : NoSl e2 := by exact fun _ _ => rfl) : BE X Γ (.Subscript e e2 pos) (dgetE f g) := weakE (pe_dget hu he he2 hs) fun σ H Q ⟨ρ, F, fp, d, ρ', S, hf, q⟩ => by
  unfold dgetE at hf
  split at hf
  · rename_i ds ρ1 h1
    split at hf
    · rename_i k ρ2 h2
      split at hf
      · cases hf
      · rename_i kk hk
        split at hf
        · rename_i d1 h3
          cases hf
          refine ⟨ρ, F, fp, _, _, S, h1, fun v1 H1 F1 fp1 s1 S1 r1 => ⟨ρ1, F1, fp1, _, _, S1, h2, fun v2 H2 F2 fp2 s2 S2 r2 => ?_⟩⟩
          obtain ⟨a, xs, rfl, w1, w2⟩ := (r1.mono s2.ff).dict
          obtain rfl := keyD_eq hk
          obtain rfl := r2.key
          obtain ⟨v, w3, w4⟩ := (w2.look (k := kk)).1 _ h3
          exact ⟨a, v, rfl, .inl ⟨xs, kk, .inl (S2.sub _ _ w1), rfl, w3.symm⟩, q v H2 F2 fp2 (s1.trans s2) S2 w4⟩
        · cases hf
    · cases hf
  · cases hf
/-- x[e] = v -/
def dputS (i : Nat) (f g : FE) : FS := fun ρ => match f ρ with
  | none => none
  | some (d, ρ1) => match ρ1[i]? with
    | some (some (.dict _)) => (match g ρ1 with
      | some (k, ρ2) => (match ρ2[i]? with
        | some (some (.dict ds)) => (match keyD k with
          | some _ => if ds.length < 1000000 then some (.nx, ρ2.set i (some (.dict (putD k d ds)))) else none
          | none => none)
        | _ => none)
      | none => none)
    | _ => none
theorem bs_dput (i : Nat) {x : Str} {e e2 : Expr} {f g : FE} {tpos : Pos} (hu : X.A.units + 1 < cLine) (he : BE X Γ e f) (he2 : BE X Γ e2 g) (hm : Γ.getD i .val = .dct := by rfl) (hN : X.N[i]? = some x := by rfl) (hv : Vis X.env.scope x := by first | exact Or.inl rfl | exact Or.inr (Or.inl rfl) | exact Or.inr (Or.inr rfl)) (hd : (x == ("__debug__" : Str)) = false := by decide)
    (hcd : (x == ("__classdict__" : Str)) = false := by decide) (hs : swapsWith e (some (.Subscript (.Name x p) e2 tpos)) pos.line X.env = pure false := by rfl) : BS X ms rm Γl Γ Γ (.Assign [.Subscript (.Name x p) e2 tpos] e pos) (dputS i f g) :=
  weakS (ps_dput hu (pe_var hN hv hd hcd) he2 he hs) fun Dn σ H ⟨ρ, F, fp, fl, ρ', vp, S, P, hf, q⟩ => by
  unfold dputS at hf
  split at hf
  · cases hf
  · rename_i d ρ1 h1
    split at hf
    · rename_i ds0 h0
      split at hf
      · rename_i k ρ2 h2
        split at hf
        · rename_i ds h3
          split at hf
          · rename_i kk hk
            split at hf
            case isFalse => cases hf
            rename_i hl
            cases hf
            refine ⟨ρ, F, fp, d, ρ1, S, h1, fun v H1 F1 fp1 s1 S1 r1 => ?_⟩
            obtain ⟨a, xs0, _, g1, _, g2, _, _⟩ := S1.dct hm h0
            refine ⟨.ref a, g1, ρ1, F1, fp1, _, ρ2, S1, h2, fun vj H2 F2 fp2 s2 S2 r2 => ?_⟩
            obtain ⟨a', xs, ds', g3, ed, g4, g5, g6⟩ := S2.dct hm h3
            rw [g1] at g3
            cases g3
            cases ed
            obtain rfl := keyD_eq hk
            obtain rfl := r2.key
            refine ⟨a, _, rfl, .inl ⟨xs, kk, g4, rfl, by have := million; rw [g5.length]; omega, rfl⟩, ?_⟩
            have ain : a ∈ fp2 i := by rw [g6]; exact List.mem_cons_self
            obtain ⟨s3, S3⟩ := chg1 (i := i) (a := a) (o := .dK (putK xs kk v)) (v := .ref a) (d' := .dict (putD (kD kk) d ds)) (q' := [a]) (s1.trans s2) S2 ain g1
              (by rw [hm]; exact ⟨a, putK xs kk v, _, rfl, rfl, upd_same, g5.put (r1.mono s2.ff), rfl⟩) (by simp) (fun b hb => by
                have e : b = a := by simpa using hb
                subst e; exact ain)
            exact q σ _ F2 _ s3 S3 P
          · cases hf
        · cases hf
      · cases hf
    · cases hf
/-- k in d -/
def dinE (neg : Bool) (f g : FE) : FE := fun ρ => match f ρ with
  | some (k, ρ1) => (match g ρ1 with
    | some (.dict ds, ρ2) => (match keyD k with
      | some _ => some (.bool (if neg then !(lookD k ds).isSome else (lookD k ds).isSome), ρ2)
      | none => none)
    | _ => none)
  | none => none
/-- {k: v, ..} -/
def prE : List (FE × FE) → En → Option (List (D × D) × En)
  | [], ρ => some ([], ρ)
  | (f, g) :: r, ρ => match f ρ with
    | none => none
    | some (k, ρ1) => match g ρ1 with
      | none => none
      | some (d, ρ2) => match keyD k with
        | none => none
        | some _ => match prE r ρ2 with
          | none => none
          | some (ds, ρ3) => some ((k, d) :: ds, ρ3)
def mergeD (ds more : List (D × D)) : List (D × D) := more.foldl (fun acc p => putD p.1 p.2 acc) ds
def dispE (l : List (FE × FE)) : FE := fun ρ => match prE l ρ with
  | none => none
  | some (ds, ρ1) => if ds.length ≤ 15 then some (.dict (mergeD [] ds), ρ1) else none
def trs (K : PySem.W.Frag) (Γ : List Md) (l : List (FE × FE)) : List (TE × TE) := l.map fun x => (tV K Γ x.1, tV K Γ x.2)
theorem RpK.mono' {K : PySem.W.Frag} {F F' : Hp} (e : Same F F') {v : List (Key × V)} {d : List (D × D)} (r : RpK K F v d) : RpK K F' v d := r.mono e
theorem pairs_of {K : PySem.W.Frag} : ∀ (l : List (FE × FE)) (σ : Sl) (H : Hp) (Q : List (V × V) → Hp → Prop) (ρ : En) (F : Hp) (fp : Fp) (ds : List (D × D)) (ρ' : En), StR K Γ ρ σ F H fp → prE l ρ = some (ds, ρ') →
    (∀ (kvs : List (Key × V)) H' F' fp', Step F H fp F' H' fp' → StR K Γ ρ' σ F' H' fp' → RpK K F' kvs ds → Q (kvs.map fun kv => (kV kv.1, kv.2)) H') → tPairs (trs K Γ l) σ H Q
  | [], σ, H, Q, ρ, F, fp, ds, ρ', S, hf, q => by
    cases hf
    exact q [] H F fp (Step.refl _ _ _) S .nil
  | (f, g) :: r, σ, H, Q, ρ, F, fp, ds, ρ', S, hf, q => by
    unfold prE at hf
    split at hf
    · cases hf
    · rename_i k ρ1 h1
      split at hf
      · cases hf
      · rename_i d ρ2 h2
        split at hf
        · cases hf
        · rename_i kk hk
          split at hf
          · cases hf
          · rename_i es ρ3 h3
            cases hf
            refine ⟨ρ, F, fp, k, ρ1, S, h1, fun v1 H1 F1 fp1 s1 S1 r1 => ⟨ρ1, F1, fp1, d, ρ2, S1, h2, fun v2 H2 F2 fp2 s2 S2 r2 => ?_⟩⟩
            refine pairs_of r σ H2 _ ρ2 F2 fp2 es _ S2 h3 fun kvs H3 F3 fp3 s3 S3 r3 => ?_
            obtain rfl := keyD_eq hk
            obtain rfl := r1.key
            exact q ((kk, v2) :: kvs) H3 F3 fp3 ((s1.trans s2).trans s3) S3 (.cons (r2.mono s3.ff) r3)
theorem RpK.merge {K : PySem.W.Frag} {F : Hp} : ∀ {more : List (Key × V)} {es : List (D × D)} {xs : List (Key × V)} {ds : List (D × D)}, RpK K F more es → RpK K F xs ds → RpK K F (mergeK xs more) (mergeD ds es)
  | _, _, _, _, .nil, r => r
  | _, _, _, _, .cons (k := k) h t, r => by
    have e := RpK.merge t (r.put (k := k) h)
    exact e
theorem bo_disp {keys : List (Option Expr)} {values : List Expr} {l : List (FE × FE)} (h : PPs X pos keys values (trs X.K Γ l)) (hall : keys.all (·.isSome) = true := by rfl) (hl : keys.length = values.length := by rfl) (h0 : keys ≠ [] := by intro z; cases z) (h15 : keys.length ≤ 15 := by decide) : BO X Γ .dct (.Dict keys values pos) (dispE l) :=
  weakE (pe_disp h hall hl h0 h15) fun σ H Q ⟨ρ, F, fp, d, ρ', S, hf, q⟩ p hp => by
  unfold dispE at hf
  split at hf
  · cases hf
  · rename_i ds ρ1 h1
    split at hf
    case isFalse => cases hf
    rename_i h15
    cases hf
    obtain ⟨s0, S0, hF, hn⟩ := new_own (o := .dK []) S hp
    refine pairs_of l σ _ _ ρ F fp ds _ S0 h1 fun kvs H1 F1 fp1 s1 S1 r1 => ?_
    have pend : Pend [p] F (upd H p (.dK [])) fp := fun a ha => by
      have e : a = p := by simpa using ha
      subst e
      exact ⟨by rw [upd_same]; simp, hF, hn⟩
    obtain ⟨pend1, k1⟩ := pend.step s1
    have hp1 : H1 p = some (.dK []) := (k1 p (by simp)).trans upd_same
    obtain ⟨_, pF, pn⟩ := pend1 p (by simp)
    refine ⟨hp1, kvs, rfl, by rw [r1.length]; exact h15, ?_⟩
    have s01 := s0.trans s1
    have s2 : Step F H fp F1 (upd H1 p (.dK (mergeK [] kvs))) fp1 := ⟨s01.ff, fun a u h n => by rw [upd_ne (ne_of_none h hp)]; exact s01.hh a u h n, fun a h => by
      by_cases e : a = p
      · subst e; rw [upd_same]; exact .inl (by simp)
      · rw [upd_ne e]; exact s01.live a h, s01.new, s01.nfp⟩
    have S2 : StR X.K Γ ρ' σ F1 (upd H1 p (.dK (mergeK [] kvs))) fp1 := S1.stay (Same.refl _) (fun a u h => by rw [upd_ne (ne_of_none h pF)]; exact S1.sub a u h) (fun i a h => upd_ne fun z => pn i (z ▸ h)) S1.fr
    refine q (.ref p) _ F1 fp1 [p] s2 S2 ⟨⟨p, _, _, rfl, rfl, upd_same, r1.merge .nil, rfl⟩, by simp, fun a ha => ?_, fun a ha => ?_, fun a ha => ?_⟩
    · have e : a = p := by simpa using ha
      subst e; exact pF
    · have e : a = p := by simpa using ha
      subst e; exact pn
    · have e : a = p := by simpa using ha
      subst e; exact .inl hp
theorem bo_dnil : BO X Γ .dct (.Dict [] [] pos) (cE (.dict [])) := weakE pe_dnewK fun σ H Q ⟨ρ, F, fp, d, ρ', S, hf, q⟩ p hp => by
  cases hf
  obtain ⟨s0, S0, hF, hn⟩ := new_own (o := .dK []) S hp
  refine q (.ref p) _ F fp [p] s0 S0 ⟨⟨p, _, _, rfl, rfl, upd_same, .nil, rfl⟩, by simp, fun a ha => ?_, fun a ha => ?_, fun a ha => ?_⟩
  · have e : a = p := by simpa using ha
    subst e; exact hF
  · have e : a = p := by simpa using ha
    subst e; exact hn
  · have e : a = p := by simpa using ha
    subst e; exact .inl hp
/-! ## what is one's own is lent -/
def lend (Γ : List Md) : List Md := Γ.map fun m => if m = .scr then .scr else .val
def okB (Γ : List Md) : Bool := Γ.all fun m => decide (m = .scr) || m.fz
theorem lend_getD {i : Nat} : (lend Γ).getD i .val = if Γ.getD i .val = .scr then .scr else .val := by
  unfold lend
  rw [List.getD_eq_getElem?_getD, List.getElem?_map, List.getD_eq_getElem?_getD]
  cases Γ[i]? with
  | none => rfl
  | some m => rfl
def inFp (fp : Fp) (a : Addr) : Prop := ∃ i, a ∈ fp i
open Classical in
noncomputable def frzA (F H : Hp) (fp : Fp) : Hp := fun a => if inFp fp a then H a else F a
theorem lent {K : PySem.W.Frag} {ρ : En} {σ : Sl} {F H : Hp} {fp : Fp} (S : StR K Γ ρ σ F H fp) (ok : okB Γ = true) : StR K (lend Γ) ρ σ (frzA F H fp) H (fun _ => []) := by
  have fx : Same F (frzA F H fp) := fun a o h => by
    unfold frzA
    split
    · rename_i hs
      obtain ⟨i, hs⟩ := hs
      rw [S.fr i a hs] at h; cases h
    · exact h
  refine ⟨fun a o h => ?_, S.len, by unfold lend; rw [List.length_map]; exact S.lenG, fun i d e => ?_, fun _ _ => rfl, fun _ => List.nodup_nil, fun _ _ _ h => by simp at h, fun _ _ h => by simp at h⟩
  · unfold frzA at h
    split at h
    · exact h
    · exact S.sub a o h
  · obtain ⟨v, h1, h2⟩ := S.slot i d e
    refine ⟨v, h1, ?_⟩
    rw [lend_getD]
    split
    · rename_i hs
      rw [hs] at h2
      obtain ⟨⟨a, ns, g1, g2, g3⟩, _⟩ := h2
      exact ⟨⟨a, ns, g1, Same.seq fx g2, g3⟩, rfl⟩
    · rename_i hs
      have z : (Γ.getD i .val).fz = true := by
        rw [List.getD_eq_getElem?_getD] at hs ⊢
        cases e2 : Γ[i]? with
        | none => rfl
        | some m =>
          have := List.all_eq_true.mp ok m (List.mem_of_getElem? e2)
          rw [e2] at hs
          simpa [show ¬ m = .scr from hs] using this
      exact ⟨h2.rp fx (fun a ha => by unfold frzA; rw [if_pos ⟨i, ha⟩]) z, rfl⟩
theorem lent_back {K : PySem.W.Frag} {ρ ρ' : En} {σ : Sl} {F H F' H' : Hp} {fp fp' : Fp} (S : StR K Γ ρ σ F H fp) (s : Step (frzA F H fp) H (fun _ => []) F' H' fp') : Step F H fp F H' fp ∧ StR K Γ ρ σ F H' fp := by
  have hh : ∀ a o, H a = some o → H' a = some o := fun a o h => s.hh a o h fun _ h => by simp at h
  refine ⟨⟨Same.refl _, fun a o h _ => hh a o h, fun a h => ?_, fun a h => .inl h, fun i a h => .inr ⟨i, h⟩⟩, S.stay (Same.refl _) (fun a o h => hh a o (S.sub a o h)) (fun i a h => ?_) S.fr⟩
  · cases e : H a with
    | none => exact absurd e h
    | some o => exact .inl (by rw [hh a o e]; simp)
  · cases e : H a with
    | none => exact absurd e (S.live h)
    | some o => exact hh a o e
def scalar : D → Bool
  | .none | .bool _ | .int _ | .str _ => true
  | _ => false
def borE (f : FE) : FE := fun ρ => match f ρ with
  | some (d, _) => if scalar d = true then some (d, ρ) else none
  | none => none
def borT (f : FT) : FT := fun ρ => match f ρ with
  | some (b, _) => some (b, ρ)
  | none => none
theorem Rp.scal {K : PySem.W.Frag} {F F' : Hp} {v : V} {d : D} (r : Rp K F v d) (h : scalar d = true) : Rp K F' v d := by
  cases r <;> first | exact .non | exact .bl _ | exact .int _ | exact .str _ | cases h
theorem be_lend {e : Expr} {f : FE} (h : BE X (lend Γ) e f) (ok : okB Γ = true := by rfl) : BE X Γ e (borE f) := weakE h fun σ H Q ⟨ρ, F, fp, d, ρ', S, hf, q⟩ => by
  unfold borE at hf
  split at hf
  · rename_i d1 ρ1 h1
    split at hf
    case isFalse => cases hf
    rename_i hs
    cases hf
    refine ⟨ρ, _, _, _, _, lent S ok, h1, fun v H1 F1 fp1 s1 S1 r1 => ?_⟩
    obtain ⟨s2, S2⟩ := lent_back (ρ' := ρ) S s1
    exact q v H1 F fp s2 S2 (r1.scal hs)
  · cases hf
theorem bt_lend {e : Expr} {f : FT} (h : BT X (lend Γ) e f) (ok : okB Γ = true := by rfl) : BT X Γ e (borT f) := weakT h fun σ H Q ⟨ρ, F, fp, d, ρ', S, hf, q⟩ => by
  unfold borT at hf
  split at hf
  · rename_i d1 ρ1 h1
    cases hf
    refine ⟨ρ, _, _, _, _, lent S ok, h1, fun H1 F1 fp1 s1 S1 => ?_⟩
    obtain ⟨s2, S2⟩ := lent_back (ρ' := ρ) S s1
    exact q H1 F fp s2 S2
  · cases hf
/-! ## methods of what does not change -/
def idxD (d : D) : List D → Nat → Option Nat
  | [], _ => none
  | x :: r, n => if PyData.eqv x d = true then some n else idxD d r (n + 1)
theorem idxD_ok {d : D} : ∀ {ds : List D} {n k : Nat}, idxD d ds n = some k → ∃ j, k = n + j ∧ ∃ z, ds[j]? = some z ∧ PyData.eqv z d = true ∧ ∀ (m : Nat) (z' : D), m < j → ds[m]? = some z' → PyData.eqv z' d = false
  | [], n, k, h => by cases h
  | x :: r, n, k, h => by
    unfold idxD at h
    split at h
    · rename_i e
      cases h
      exact ⟨0, rfl, x, rfl, e, fun m z' hm => by omega⟩
    · rename_i e
      obtain ⟨j, h1, z, h2, h3, h4⟩ := idxD_ok h
      refine ⟨j + 1, by omega, z, by simpa using h2, h3, fun m z' hm hz => ?_⟩
      cases m with
      | zero => simp at hz; subst hz; simpa using e
      | succ m => exact h4 m z' (by omega) (by simpa using hz)
def indexE (f g : FE) : FE := fun ρ => match f ρ with
  | some (.list ds, ρ1) => (match g ρ1 with
    | some (d, ρ2) => if SeqAt.shaped (.list ds) = true ∧ SeqAt.shaped d = true then (match idxD d ds 0 with
      | some k => some (.int (k : Int), ρ2)
      | none => none) else none
    | none => none)
  | _ => none
theorem be_index {o e : Expr} {f g : FE} (hu : X.A.units + 65 < cLine) (ho : BE X Γ o f) (he : BE X Γ e g) (hbase : attributeBase o "index" X.env (eval o X.env) = eval o X.env := by rfl)
    (hfew : ((backTo cpos (starEach (e :: []) X.env)).all (fun x => !x.1) && (backToKw cpos (keywordEach [] X.env)).all (fun x => x.1.isSome)
      && decide ((e :: []).length + ([] : List Keyword).length + (if ([] : List Keyword).isEmpty then 0 else 1) < 30)) = true := by rfl)
    (hline : (apos.endLine == cpos.line) = true := by rfl) (hs : starEach (e :: []) X.env = (false, eval e X.env) :: starEach [] X.env := by rfl) : BE X Γ (.Call (.Attribute o "index" apos) [e] [] cpos) (indexE f g) :=
  weakE (pe_bm PySem.F.plainAttrs_list PySem.F.slot_list_index PySem.F.type_list_index (mt_indexD hu) ho (pa_cons he pa_nil hs) hbase hfew hline hs rfl) fun σ H Q ⟨ρ, F, fp, d, ρ', S, hf, q⟩ => by
  unfold indexE at hf
  split at hf
  · rename_i ds ρ1 h1
    split at hf
    · rename_i d1 ρ2 h2
      split at hf
      case isFalse => cases hf
      rename_i hs
      split at hf
      · rename_i k hk
        cases hf
        refine ⟨ρ, F, fp, _, ρ1, S, h1, fun v H1 F1 fp1 s1 S1 r1 => ?_⟩
        obtain ⟨a, xs, rfl, w1, w2⟩ := r1.list
        refine ⟨.inl ⟨rfl, xs, SqL.of (S1.sub _ _ w1)⟩, ρ1, F1, fp1, _, _, S1, h2, fun v2 H2 F2 fp2 s2 S2 r2 => ?_⟩
        obtain ⟨j, e1, z, h3, h4, h5⟩ := idxD_ok hk
        have ej : k = j := by omega
        subst ej
        exact ⟨a, v2, d1, ds, k, z, rfl, rfl, (r1.mono s2.ff).dp S2.sub (noDict_lay (SeqAt.canLay_of_shaped hs.1)), r2.dp S2.sub (noDict_lay (SeqAt.canLay_of_shaped hs.2)), hs.1, hs.2, h3, h4, h5, q _ H2 F2 fp2 (s1.trans s2) S2 (.int _)⟩
      · cases hf
    · cases hf
  · cases hf
end
end BV

set_option Elab.async false
set_option linter.all false
set_option maxRecDepth 100000
set_option maxHeartbeats 4000000
namespace BV
open PySem PySem.Spec L2
/-! ## p = zip(xs, ys), walked later -/
def trk5 (H : Hp) (z TI TO i1 i2 a b : Addr) : Hp :=
  upd (upd (upd (upd (upd H i1 (.ext fun h => h.IsListIter i1 a 0)) i2 (.ext fun h => h.IsListIter i2 b 0)) TI (.ext fun h => IsPair h TI (.ref i1) (.ref i2))) TO (.ext fun h => IsPair h TO .none .none)) z (.ext fun h => IsZip h z TI TO .none)
theorem trk5_other {H : Hp} {z TI TO i1 i2 a b c : Addr} (h : c ∉ [z, TI, TO, i1, i2]) : trk5 H z TI TO i1 i2 a b c = H c := by
  simp only [List.mem_cons, List.not_mem_nil, or_false, not_or] at h
  unfold trk5
  rw [upd_ne h.1, upd_ne h.2.2.1, upd_ne h.2.1, upd_ne h.2.2.2.2, upd_ne h.2.2.2.1]
theorem trk5_trk {H : Hp} {z TI TO i1 i2 a b : Addr} (D : ZipApart z TI TO i1 i2 a b) : zipTrk (trk5 H z TI TO i1 i2 a b) z TI TO i1 i2 a b := by
  unfold trk5
  refine ⟨upd_same, ?_, ?_, ?_, ?_⟩
  · rw [upd_ne D.TIz, upd_ne D.TITO, upd_same]
  · rw [upd_ne D.TOz, upd_same]
  · rw [upd_ne D.i1z, upd_ne (Ne.symm D.TOi1), upd_ne (Ne.symm D.TIi1), upd_ne D.i12, upd_same]
  · rw [upd_ne D.i2z, upd_ne (Ne.symm D.TOi2), upd_ne (Ne.symm D.TIi2), upd_same]
def tZipV (K : PySem.W.Frag) (n : Nat) (ta : TA) : TE := fun σ H Q => ta σ H fun vs H1 => ∃ a b xs ys, vs = [.ref a, .ref b] ∧ SqL K H1 a xs ∧ SqL K H1 b ys ∧
  ∀ z TI TO i1 i2, ZipApart z TI TO i1 i2 a b → (∀ c ∈ [z, TI, TO, i1, i2], n ≤ c ∧ H1 c = none) → Q (.ref z) (trk5 H1 z TI TO i1 i2 a b)
section
variable {X : Cx} {pos p tpos : Pos}
theorem inv_trk5 {pins : List (Addr × Obj)} {σ : Sl} {H : Hp} {s : Shared} {h' : Heap} {z TI TO i1 i2 a b : Addr} (I : Inv X pins σ H s) (k : ∀ b u, s.heap.get? b = some u → h'.get? b = some u) (hn : ∀ c ∈ [z, TI, TO, i1, i2], s.heap.objs.size ≤ c)
    (D : ZipApart z TI TO i1 i2 a b) (hz : IsZip h' z TI TO .none) (hTI : IsPair h' TI (.ref i1) (.ref i2)) (hTO : IsPair h' TO .none .none) (h1 : h'.IsListIter i1 a 0) (h2 : h'.IsListIter i2 b 0) :
    Inv X pins σ (trk5 H z TI TO i1 i2 a b) { s with heap := h' } := by
  have fr : ∀ c ∈ [z, TI, TO, i1, i2], H c = none := fun c hc => I.hok.fresh (hn c hc)
  have oth : ∀ c u, H c = some u → trk5 H z TI TO i1 i2 a b c = some u := fun c u e => by
    rw [trk5_other fun hc => by rw [fr c hc] at e; cases e]
    exact e
  have hok : HOk X.prog X.w (trk5 H z TI TO i1 i2 a b) h' := fun c u e => by
    by_cases hc : c ∈ [z, TI, TO, i1, i2]
    · obtain ⟨t1, t2, t3, t4, t5⟩ := trk5_trk (H := H) D
      simp only [List.mem_cons, List.not_mem_nil, or_false] at hc
      rcases hc with w | w | w | w | w
      · subst w; rw [t1] at e; cases e
        exact ⟨hz, ⟨_, hz⟩, fun g1 g2 q1 q2 => q2 _ q1⟩
      · subst w; rw [t2] at e; cases e
        exact ⟨hTI, ⟨_, hTI⟩, fun g1 g2 q1 q2 => q2 _ q1⟩
      · subst w; rw [t3] at e; cases e
        exact ⟨hTO, ⟨_, hTO⟩, fun g1 g2 q1 q2 => q2 _ q1⟩
      · subst w; rw [t4] at e; cases e
        obtain ⟨o, ho, r⟩ := id h1
        exact ⟨h1, ⟨_, ho⟩, fun g1 g2 ⟨o, ho, r⟩ q2 => ⟨o, q2 _ ho, r⟩⟩
      · subst w; rw [t5] at e; cases e
        obtain ⟨o, ho, r⟩ := id h2
        exact ⟨h2, ⟨_, ho⟩, fun g1 g2 ⟨o, ho, r⟩ q2 => ⟨o, q2 _ ho, r⟩⟩
    · rw [trk5_other hc] at e
      exact (I.hok c u e).stay (fun d v _ q => k d v q) (fun d q => oth d _ q) fun d xs q => oth d _ q
  have un : Un X.fs [] H (trk5 H z TI TO i1 i2 a b) s.heap h' := ⟨fun b u q _ _ _ => k b u q, fun b u q _ _ _ => ⟨u.slots, k b u q⟩, fun b u q n _ => by
      rw [trk5_other fun hc => absurd (Nat.lt_of_lt_of_le (Heap.lt_size q) (hn b hc)) (Nat.lt_irrefl _)]
      exact n, fun b u q _ => ⟨u, k b u q⟩, fun b xs q => oth b _ q, fun b o u q => oth b _ q, fun b ps q => ⟨#[], by rw [oth b _ q]; simp⟩⟩
  exact I.un (t' := s.toks) un hok
theorem pe_zipV {e e2 : Expr} {ta : TA} (hg : Gl X "zip") (hm : X.mg "zip" = none) (ha : PA X [e, e2] ta)
    (hs : starEach [e, e2] X.env = (false, eval e X.env) :: starEach [e2] X.env := by rfl) (hpl : (backTo pos (starEach [e2] X.env)).any (·.1) = false := by rfl) :
    PE X (.Call (.Name "zip" p) [e, e2] [] pos) (tZipV X.K X.s_0.heap.objs.size ta) := by
  refine ⟨fun pins s σ H Q I h => ?_⟩
  refine PyProof.Rows.Call_ (ld_blt I hg hm PyProof.Rows.boot_zip (PyProof.Rows.callWith_type1 (thn (ha.run pos pins s σ H _ I h) fun us s1 ⟨vs, H1, I1, r1, q1⟩ => ?_) hs hpl))
  obtain ⟨a, b, xs, ys, ex, hqx, hqy, q⟩ := q1
  subst ex
  cases r1 with
  | cons r rr =>
    cases rr with
    | cons r' rr =>
      cases rr
      cases r
      cases r'
      obtain ⟨its, rv, p1, _⟩ := I1.list hqx
      obtain ⟨its2, rv2, p2, _⟩ := I1.list hqy
      have la : a < s1.heap.objs.size := p1.lt
      have lb : b < s1.heap.objs.size := p2.lt
      refine call_zip_2 p1.isList p2.isList fun h' hz hTI hTO h1 h2 hsz hk => ?_
      have D := PySem.W.ktu_apart s1.heap.objs.size a b la lb
      have hn : ∀ c ∈ [s1.heap.objs.size + 4, s1.heap.objs.size + 2, s1.heap.objs.size + 3, s1.heap.objs.size, s1.heap.objs.size + 1], s1.heap.objs.size ≤ c := fun c hc => by
        simp only [List.mem_cons, List.not_mem_nil, or_false] at hc
        rcases hc with w | w | w | w | w
        · rw [w]; exact Nat.le_add_right _ _
        · rw [w]; exact Nat.le_add_right _ _
        · rw [w]; exact Nat.le_add_right _ _
        · rw [w]; exact Nat.le_refl _
        · rw [w]; exact Nat.le_add_right _ _
      exact ⟨.ref _, _, inv_trk5 I1 hk hn D hz hTI hTO h1 h2, rfl, q _ _ _ _ _ D fun c hc => ⟨Nat.le_trans I1.sz (hn c hc), I1.hok.fresh (hn c hc)⟩⟩
def drop5 (H : Hp) (z TI TO i1 i2 : Addr) : Hp := ItX.dropH (ItX.dropH (ItX.dropH (ItX.dropH (ItX.dropH H z) TI) TO) i1) i2
theorem drop5_other {H : Hp} {z TI TO i1 i2 c : Addr} (h : c ∉ [z, TI, TO, i1, i2]) : drop5 H z TI TO i1 i2 c = H c := by
  simp only [List.mem_cons, List.not_mem_nil, or_false, not_or] at h
  unfold drop5
  rw [ItX.dropH_ne h.2.2.2.2, ItX.dropH_ne h.2.2.2.1, ItX.dropH_ne h.2.2.1, ItX.dropH_ne h.2.1, ItX.dropH_ne h.1]
theorem drop5_in {H : Hp} {z TI TO i1 i2 c : Addr} (h : c ∈ [z, TI, TO, i1, i2]) : drop5 H z TI TO i1 i2 c = none := by
  have none_drop : ∀ {H : Hp} {d : Addr}, H c = none → ItX.dropH H d c = none := fun {H d} e => by
    by_cases hd : c = d
    · rw [hd, ItX.dropH_same]
    · rw [ItX.dropH_ne hd]; exact e
  simp only [List.mem_cons, List.not_mem_nil, or_false] at h
  unfold drop5
  rcases h with w | w | w | w | w
  · subst w; exact none_drop (none_drop (none_drop (none_drop ItX.dropH_same)))
  · subst w; exact none_drop (none_drop (none_drop ItX.dropH_same))
  · subst w; exact none_drop (none_drop ItX.dropH_same)
  · subst w; exact none_drop ItX.dropH_same
  · subst w; exact ItX.dropH_same
def iZipV (K : PySem.W.Frag) (n k : Nat) : TI := fun σ H R => ∃ z TI TO i1 i2 a b, σ[k]? = some (some (.ref z)) ∧ zipTrk H z TI TO i1 i2 a b ∧ ZipApart z TI TO i1 i2 a b ∧ (∀ c ∈ [z, TI, TO, i1, i2], n ≤ c) ∧ R (Itz K a b) (drop5 H z TI TO i1 i2)
theorem pi_zipV {elts : List Expr} {kk k : Nat} {x : Str} (hN : X.N[k]? = some x) (hv : Vis X.env.scope x) (hd : (x == ("__debug__" : Str)) = false := by decide) (hcd : (x == ("__classdict__" : Str)) = false := by decide) :
    PI X (.Tuple elts kk tpos) (.Name x p) (iZipV X.K X.s_0.heap.objs.size k) := by
  refine ⟨fun pins s σ H R I h => ?_⟩
  obtain ⟨z, TI, TO, i1, i2, a, b, hs, ⟨t1, t2, t3, t4, t5⟩, D, hn, q⟩ := h
  refine thn ((pe_var (pos := p) (i := k) hN hv hd hcd).run pins s σ H (fun v H1 => v = .ref z ∧ H1 = H) I ⟨.ref z, hs, rfl, rfl⟩) fun u s1 ⟨v, H1, I1, r1, ev, eH⟩ => ?_
  subst ev
  rw [eH] at I1
  cases r1
  have g1 : IsZip s1.heap z TI TO .none := (I1.hok z _ t1).1
  have g2 : IsPair s1.heap TI (.ref i1) (.ref i2) := (I1.hok TI _ t2).1
  have g3 : IsPair s1.heap TO .none .none := (I1.hok TO _ t3).1
  have g4 : s1.heap.IsListIter i1 a 0 := (I1.hok i1 _ t4).1
  have g5 : s1.heap.IsListIter i2 b 0 := (I1.hok i2 _ t5).1
  have J1 := ItX.inv_drop I1 t1
  have J2 := ItX.inv_drop J1 (show ItX.dropH H z TI = _ by rw [ItX.dropH_ne D.TIz]; exact t2)
  have J3 := ItX.inv_drop J2 (show ItX.dropH (ItX.dropH H z) TI TO = _ by rw [ItX.dropH_ne (Ne.symm D.TITO), ItX.dropH_ne D.TOz]; exact t3)
  have J4 := ItX.inv_drop J3 (show ItX.dropH (ItX.dropH (ItX.dropH H z) TI) TO i1 = _ by rw [ItX.dropH_ne (Ne.symm D.TOi1), ItX.dropH_ne (Ne.symm D.TIi1), ItX.dropH_ne D.i1z]; exact t4)
  have J5 := ItX.inv_drop J4 (show ItX.dropH (ItX.dropH (ItX.dropH (ItX.dropH H z) TI) TO) i1 i2 = _ by rw [ItX.dropH_ne (Ne.symm D.i12), ItX.dropH_ne (Ne.symm D.TOi2), ItX.dropH_ne (Ne.symm D.TIi2), ItX.dropH_ne D.i2z]; exact t5)
  have trk : ∀ c ∈ [z, TI, TO, i1, i2], ∃ u, H c = some u := fun c hc => by
    simp only [List.mem_cons, List.not_mem_nil, or_false] at hc
    rcases hc with w | w | w | w | w
    · rw [w]; exact ⟨_, t1⟩
    · rw [w]; exact ⟨_, t2⟩
    · rw [w]; exact ⟨_, t3⟩
    · rw [w]; exact ⟨_, t4⟩
    · rw [w]; exact ⟨_, t5⟩
  refine wpAny_pyIter_zip g1 ?_
  refine ⟨z, [z, TI, TO, i1, i2], _, _, drop5 H z TI TO i1 i2, rfl, J5, turn_zip D, ⟨g1, g2, ⟨_, _, g3⟩, g4, g5⟩, fun c hc => ?_, q⟩
  obtain ⟨u, hu⟩ := trk c hc
  obtain ⟨_, f1, f2, f3, f4, f5⟩ := ItX.inv_fp I1 hu (hn c hc)
  exact ⟨drop5_in hc, f1, f2, f3, f4, f5⟩
/-! ### by value -/
variable {Γ : List Md}
def zipC (f g : FE) : FE := fun ρ => match f ρ with
  | some (.list a, ρ1) => (match g ρ1 with
    | some (.list b, ρ2) => some (.tuple [.list a, .list b], ρ2)
    | _ => none)
  | _ => none
theorem bo_zip {e e2 : Expr} {f g : FE} (hm : X.mg "zip" = none) (he : BE X Γ e f) (he2 : BE X Γ e2 g) (hg : Gl X "zip" := by rfl)
    (hs : starEach [e, e2] X.env = (false, eval e X.env) :: starEach [e2] X.env := by rfl) (hs2 : starEach [e2] X.env = (false, eval e2 X.env) :: starEach [] X.env := by rfl) (hpl : (backTo pos (starEach [e2] X.env)).any (·.1) = false := by rfl) : BO X Γ (.zip X.s_0.heap.objs.size) (.Call (.Name "zip" p) [e, e2] [] pos) (zipC f g) :=
  weakE (pe_zipV hg hm (pa_cons he (pa_cons he2 pa_nil hs2) hs) hs hpl) fun σ H Q ⟨ρ, F, fp, d, ρ', S, hf, q⟩ => by
  unfold zipC at hf
  split at hf
  · rename_i da ρ1 h1
    split at hf
    · rename_i db ρ2 h2
      cases hf
      refine ⟨ρ, F, fp, _, _, S, h1, fun v1 H1 F1 fp1 s1 S1 r1 => ⟨ρ1, F1, fp1, _, _, S1, h2, fun v2 H2 F2 fp2 s2 S2 r2 => ?_⟩⟩
      obtain ⟨a, xs, rfl, w1, w2⟩ := (r1.mono s2.ff).list
      obtain ⟨b, ys, rfl, w3, w4⟩ := r2.list
      refine ⟨a, b, xs, ys, rfl, SqL.of (S2.sub _ _ w1), SqL.of (S2.sub _ _ w3), fun z TI TO i1 i2 Dz hc => ?_⟩
      have hF : ∀ c ∈ [z, TI, TO, i1, i2], F2 c = none := fun c h => S2.sub.free (hc c h).2
      have hn : ∀ c ∈ [z, TI, TO, i1, i2], ∀ i, c ∉ fp2 i := fun c h i hi => S2.live hi (hc c h).2
      have oth : ∀ c u, H2 c = some u → trk5 H2 z TI TO i1 i2 a b c = some u := fun c u e => by
        rw [trk5_other fun h => by rw [(hc c h).2] at e; cases e]
        exact e
      have s3 : Step F2 H2 fp2 F2 (trk5 H2 z TI TO i1 i2 a b) fp2 := ⟨Same.refl _, fun c u e _ => oth c u e, fun c h => by
        cases e : H2 c with
        | none => exact absurd e h
        | some u => exact .inl (by rw [oth c u e]; simp), fun c h => .inl h, fun i c h => .inr ⟨i, h⟩⟩
      have S3 : StR X.K Γ ρ' σ F2 (trk5 H2 z TI TO i1 i2 a b) fp2 := S2.stay (Same.refl _) (fun c u e => oth c u (S2.sub c u e)) (fun i c h => trk5_other fun z => hn c z i h) S2.fr
      refine q (.ref z) _ F2 fp2 [z, TI, TO, i1, i2] ((s1.trans s2).trans s3) S3 ⟨⟨z, TI, TO, i1, i2, a, b, xs, ys, da, db, rfl, rfl, trk5_trk Dz, Dz, ⟨(hc z (by simp)).1, (hc TI (by simp)).1, (hc TO (by simp)).1, (hc i1 (by simp)).1, (hc i2 (by simp)).1⟩, w1, w3, w2, w4, rfl⟩, ?_, hF, hn, fun c h => ?_⟩
      · have := Dz.TIz; have := Dz.TOz; have := Dz.i1z; have := Dz.i2z; have := Dz.TITO; have := Dz.TIi1; have := Dz.TIi2; have := Dz.TOi1; have := Dz.TOi2; have := Dz.i12
        simp only [List.nodup_cons, List.mem_cons, List.not_mem_nil, or_false, not_or, List.nodup_nil, and_true, not_false_iff]
        exact ⟨⟨Ne.symm Dz.TIz, Ne.symm Dz.TOz, Ne.symm Dz.i1z, Ne.symm Dz.i2z⟩, ⟨Dz.TITO, Dz.TIi1, Dz.TIi2⟩, ⟨Dz.TOi1, Dz.TOi2⟩, Dz.i12⟩
      · exact (s1.trans s2).dead (hc c h).2
    · cases hf
  · cases hf
def zipVL (i : Nat) : FL := fun ρ => match ρ[i]? with
  | some (some (.tuple [.list a, .list b])) => some (zipD a b, ρ.set i none)
  | _ => none
theorem bi_zipV (i : Nat) {elts : List Expr} {kk : Nat} {x : Str} (hm : Γ.getD i .val = .zip X.s_0.heap.objs.size := by rfl) (hN : X.N[i]? = some x := by rfl) (hv : Vis X.env.scope x := by first | exact Or.inl rfl | exact Or.inr (Or.inl rfl) | exact Or.inr (Or.inr rfl)) (hd : (x == ("__debug__" : Str)) = false := by decide) (hcd : (x == ("__classdict__" : Str)) = false := by decide) :
    BI X Γ (.Tuple elts kk tpos) (.Name x p) (zipVL i) := weakI (pi_zipV hN hv hd hcd) fun σ H R ⟨ρ, F, fp, ds, ρ', S, hf, q⟩ => by
  unfold zipVL at hf
  split at hf
  · rename_i da db h0
    cases hf
    obtain ⟨v, g1, g2⟩ := S.slot i _ h0
    rw [hm] at g2
    obtain ⟨z, TI, TO, i1, i2, a, b, xs, ys, ds, es, rfl, ed, t, Dz, ⟨n1, n2, n3, n4, n5⟩, w1, w2, w3, w4, w5⟩ := g2
    cases ed
    refine ⟨z, TI, TO, i1, i2, a, b, g1, t, Dz, fun c hc => ?_, ?_⟩
    · simp only [List.mem_cons, List.not_mem_nil, or_false] at hc
      rcases hc with w | w | w | w | w
      · rw [w]; exact n1
      · rw [w]; exact n2
      · rw [w]; exact n3
      · rw [w]; exact n4
      · rw [w]; exact n5
    · have inI : ∀ c, c ∈ [z, TI, TO, i1, i2] → c ∈ fp i := fun c hc => by rw [w5]; exact hc
      have S1 := S.drop (i := i)
      have s1 : Step F H fp F (drop5 H z TI TO i1 i2) (fpSet fp i []) := ⟨Same.refl _, fun c u e n => by rw [drop5_other fun hc => n i (inI c hc)]; exact e, fun c h => by
        by_cases hc : c ∈ [z, TI, TO, i1, i2]
        · exact .inr ⟨i, inI c hc⟩
        · rw [drop5_other hc]; exact .inl h, fun c h => .inl h, fun j c h => by
        by_cases hj : j = i
        · subst hj; rw [fpSet_same] at h; simp at h
        · rw [fpSet_ne hj] at h; exact .inr ⟨j, h⟩⟩
      refine q (Itz X.K a b) _ F _ s1 (S1.stay (Same.refl _) (fun c u e => ?_) (fun j c h => ?_) S1.fr) (itd_zip w1 w2 w3 w4)
      · rw [drop5_other fun hc => by rw [S.fr i c (inI c hc)] at e; cases e]
        exact S.sub c u e
      · by_cases hj : j = i
        · subst hj; rw [fpSet_same] at h; simp at h
        · rw [fpSet_ne hj] at h
          exact drop5_other fun hc => hj (S.dis j i c h (inI c hc))
  · cases hf
end
end BV

set_option Elab.async false
set_option linter.all false
set_option maxRecDepth 100000
set_option maxHeartbeats 4000000
namespace BV
open PySem PySem.Spec L2
/-! ## defs by name -/
structure OkD (P : Program) (w : World) (K : PySem.W.Frag) (mg : Str → Option Value) (base : Heap) (k : Nat) (x : Str) (ps : List Str) (ms : List Md) (rm : Md) (M : List D → Option (D × En)) : Prop where
  ex : ∃ fd, (∃ oc od osl, K.lookup (He.ga K x) = some ⟨oc, od, .func fd, osl⟩) ∧ Binds K fd ps [] ∧ FnOk P w K mg base CX0 k (He.ga K x) fd ps (spV K ms rm M)
  g : mg x = some (.ref (He.ga K x))
  kp : PySem.W.keepIn K (.ref (He.ga K x)) = true
  len : LenOk M ms.length
theorem OkD.mono {P : Program} {w : World} {K : PySem.W.Frag} {mg : Str → Option Value} {base : Heap} {j k : Nat} {x : Str} {ps : List Str} {ms : List Md} {rm : Md} {M : List D → Option (D × En)} (O : OkD P w K mg base j x ps ms rm M) (h : j ≤ k) : OkD P w K mg base k x ps ms rm M :=
  ⟨let ⟨fd, l, b, f⟩ := O.ex; ⟨fd, l, b, f.mono h⟩, O.g, O.kp, O.len⟩
/-- a def of the text -/
structure DefIn (K : PySem.W.Frag) (mg : Str → Option Value) (x : Str) (st : Stmt) : Prop where
  ex : ∃ fd, FunD K x x (defArgs st) (defBody st) (defScope st) [] [] (He.ga K x) fd
  g : mg x = some (.ref (He.ga K x))
def BindsOk (st : Stmt) (ps : List Str) (x : Str) : Prop := ∀ (kV doc pm : Value) (an : Option Addr) (cdv ct : Value) (us : List Value), us.length = ps.length → bindArgs (PySem.W.fnOf x x (defArgs st) (defBody st) (defScope st) .none kV doc pm an cdv ct) ⟨us, []⟩ = pure (ps.zip us)
section
variable {P : Program} {w : World} {K : PySem.W.Frag} {mg : Str → Option Value} {base : Heap} {k : Nat} {x : Str} {N ps : List Str} {st : Stmt} {ms : List Md} {rm : Md} {b : FS} {Γe : List Md}
theorem fun_look {fd : FuncData} (F : FunD K x x (defArgs st) (defBody st) (defScope st) [] [] (He.ga K x) fd) : ∃ oc od osl, K.lookup (He.ga K x) = some ⟨oc, od, .func fd, osl⟩ := by
  obtain ⟨oc, od, dV, kV, doc, pm, an, cdv, ct, osl, rfl, l, _⟩ := F.ex
  exact ⟨oc, od, osl, l⟩
theorem okD_def (F : DefIn K mg x st) (sc : FnScope N ps (defScope st)) (bd : BindsOk st ps x) (hps : ms.length = ps.length) (hN : ps.length ≤ N.length) (hr : okR ms Γe = true)
    (hb : ∀ (cdv : Value) (A : Around) (outer : List PySem.Env) (s : Shared) (H : Hp) (E : XK), Room k (A.deeper (PyProof.Rows.envOfC x (defScope st) s.heap.objs.size (He.ga K x) cdv)) →
      BSs (cxOf CX0 P w K mg base N x (defScope st) (He.ga K x) cdv A outer s H E).nox ms rm [] (ms ++ List.replicate (N.length - ms.length) .val) Γe (defBody st) b) : OkD P w K mg base (k + 1) x ps ms rm (defM N.length ms rm b) := by
  obtain ⟨fd, F1⟩ := F.ex
  exact ⟨⟨fd, fun_look F1, F1.bindsN bd, ok_def F1 sc hps hN hr hb⟩, F.g, F1.kp, defM_len⟩
/-- a def that is never come to -/
theorem okD_none (F : DefIn K mg x st) (bd : BindsOk st ps x) : OkD P w K mg base k x ps ms rm (fun _ => none) := by
  obtain ⟨fd, F1⟩ := F.ex
  refine ⟨⟨fd, fun_look F1, F1.bindsN bd, ⟨fun vs H Q E h => ?_, fun A outer s H args us vs Q E _ _ _ _ h => ?_⟩⟩, F.g, F1.kp, fun ds r h => by cases h⟩
  · obtain ⟨_, _, _, _, _, _, h, _⟩ := h
    cases h
  · obtain ⟨_, _, _, _, _, _, h, _⟩ := h
    cases h
end
section
variable {X : Cx} {Γ : List Md} {pos p : Pos} {k : Nat} {ps : List Str} {ms : List Md} {rm : Md} {M : List D → Option (D × En)} {x : Str}
theorem bo_callD {e : Expr} {es : List Expr} {fa : FL} (O : OkD X.prog X.w X.K X.mg X.base k x ps ms rm M) (hr : Room k X.A) (ha : BL X Γ (e :: es) fa) (hv : allVal ms = true := by rfl) (hg : Gl X x := by rfl)
    (hdb : (x == ("__debug__" : Str)) = false := by decide) (he : starEach (e :: es) X.env = (false, eval e X.env) :: starEach es X.env := by rfl) (hpl : (backTo pos (starEach es X.env)).any (·.1) = false := by rfl) :
    BO X Γ rm (.Call (.Name x p) (e :: es) [] pos) (callE0 M fa) := by
  obtain ⟨fd, _, b, F⟩ := O.ex
  exact bo_call0 F hr O.g O.kp b O.len ha hv hg hdb he hpl
theorem be_callD {e : Expr} {es : List Expr} {fa : FL} (O : OkD X.prog X.w X.K X.mg X.base k x ps ms .val M) (hr : Room k X.A) (ha : BL X Γ (e :: es) fa) (hv : allVal ms = true := by rfl) (hg : Gl X x := by rfl)
    (hdb : (x == ("__debug__" : Str)) = false := by decide) (he : starEach (e :: es) X.env = (false, eval e X.env) :: starEach es X.env := by rfl) (hpl : (backTo pos (starEach es X.env)).any (·.1) = false := by rfl) :
    BE X Γ (.Call (.Name x p) (e :: es) [] pos) (callE0 M fa) := be_frz (m := .val) (bo_callD O hr ha hv hg hdb he hpl)
theorem bo_callDN (O : OkD X.prog X.w X.K X.mg X.base k x ps [] rm M) (hr : Room k X.A) (hg : Gl X x := by rfl) (hdb : (x == ("__debug__" : Str)) = false := by decide) : BO X Γ rm (.Call (.Name x p) [] [] pos) (callE0 M nilL) := by
  obtain ⟨fd, _, b, F⟩ := O.ex
  exact bo_callN F hr O.g O.kp b O.len hg hdb
theorem bo_callD1 (i p' : Nat) {e : Expr} {es : List Expr} {fa : FA} (O : OkD X.prog X.w X.K X.mg X.base k x ps ms rm M) (hr : Room k X.A) (ha : BA X Γ i (e :: es) fa) (hmd : Γ.getD i .val = ms.getD p' .val := by rfl) (hio : okIo ms p' = true := by rfl) (hg : Gl X x := by rfl)
    (hdb : (x == ("__debug__" : Str)) = false := by decide) (he : starEach (e :: es) X.env = (false, eval e X.env) :: starEach es X.env := by rfl) (hpl : (backTo pos (starEach es X.env)).any (·.1) = false := by rfl) :
    BO X Γ rm (.Call (.Name x p) (e :: es) [] pos) (callE1 M i p' fa) := by
  obtain ⟨fd, _, b, F⟩ := O.ex
  exact bo_call1 i p' F hr O.g O.kp b O.len ha hmd hio hg hdb he hpl
theorem be_callD1 (i p' : Nat) {e : Expr} {es : List Expr} {fa : FA} (O : OkD X.prog X.w X.K X.mg X.base k x ps ms .val M) (hr : Room k X.A) (ha : BA X Γ i (e :: es) fa) (hmd : Γ.getD i .val = ms.getD p' .val := by rfl) (hio : okIo ms p' = true := by rfl) (hg : Gl X x := by rfl)
    (hdb : (x == ("__debug__" : Str)) = false := by decide) (he : starEach (e :: es) X.env = (false, eval e X.env) :: starEach es X.env := by rfl) (hpl : (backTo pos (starEach es X.env)).any (·.1) = false := by rfl) :
    BE X Γ (.Call (.Name x p) (e :: es) [] pos) (callE1 M i p' fa) := be_frz (m := .val) (bo_callD1 i p' O hr ha hmd hio hg hdb he hpl)
/-! ### name op= e -/
variable {Γl : List Md}
def augS (i : Nat) (o : D → D → Option D) (f : FE) : FS := fun ρ => match ρ[i]? with
  | some (some x) => (match f ρ with
    | none => none
    | some (y, ρ1) => match o x y with
      | none => none
      | some d => some (.nx, ρ1.set i (some d)))
  | _ => none
theorem bs_aug (i : Nat) {op : Operator} {r : R2} {o : D → D → Option D} {y : Str} {e : Expr} {f : FE} {pos' : Pos} (hN : X.N.Nodup) (ho : OpR X (inplaceOp op) r) (hd : DOp X.K r o) (he : BE X Γ e f) (hi : X.N[i]? = some y := by rfl) (hx : Loc X.env.scope y := by first | exact Or.inl rfl | exact Or.inr rfl) (hl : i < Γ.length := by exact Nat.le_of_ble_eq_true rfl) (hm : Γ.getD i .val = .val := by rfl) (hp : (ms.getD i .val).own = false := by rfl)
    (hf : X.fn y = true ∨ X.env.scope.names.lookup y = some .local := by first | exact .inl rfl | exact .inr rfl) : BS X ms rm Γl Γ Γ (.AugAssign (.Name y pos') op e pos) (augS i o f) :=
  weakS (ps_aug hN hi hx he (ti := r) (fun pins s σ H x y v u Q I r1 r2 h => ho pins s σ H x y v u Q I r1 r2 h) hf) fun Dn σ H ⟨ρ, F, fp, fl, ρ', vp, S, P, hf, q⟩ => by
  unfold augS at hf
  split at hf
  · rename_i dx h0
    split at hf
    · cases hf
    · rename_i dy ρ1 h1
      split at hf
      · cases hf
      · rename_i d h2
        cases hf
        obtain ⟨v, g1, g2⟩ := S.slot i _ h0
        rw [hm] at g2
        refine ⟨v, g1, ρ, F, fp, _, _, S, h1, fun u H1 F1 fp1 s1 S1 r1 => ?_⟩
        refine hd F1 H1 v u dx dy d _ S1.sub (g2.1.mono s1.ff) r1 h2 fun z H2 F2 A r2 => ?_
        have S2 := (S1.alloc A).setV (i := i) (v := z) (d := d) (by rw [← S1.lenG]; exact hl) r2
        rw [set_val hm] at S2
        exact q _ _ F2 _ (nil_step (s1.trans A.step)) S2 (P.set hp)
  · cases hf
end
/-! ## the module's tables -/
mutual
def datB (K : PySem.W.Frag) : D → Value → Bool
  | .none, .none => true
  | .bool b, .bool c => b == c
  | .int i, .int j _ => decide (i = j)
  | .str x, .str y _ => decide (x = y)
  | .tuple ds, .ref a => (match K.lookup a with
    | some ⟨.type c, _, .seq its _, _⟩ => decide (c = "tuple") && (decide (its.size ≤ sizeLine) && datBs K ds its.toList)
    | _ => false)
  | _, _ => false
def datBs (K : PySem.W.Frag) : List D → List Value → Bool
  | [], [] => true
  | d :: ds, u :: us => datB K d u && datBs K ds us
  | _, _ => false
end
section
variable {K : PySem.W.Frag}
mutual
theorem datB_ok : ∀ {d : D} {u : Value}, datB K d u = true → ∃ v, RelV v u ∧ ∀ F, Rp K F v d
  | .none, u, h => by cases u <;> first | exact ⟨.non, rfl, fun F => .non⟩ | (simp [datB] at h)
  | .bool b, u, h => by
    cases u <;> first | (simp [datB] at h; done) | skip
    rename_i c
    have e : b = c := by simpa [datB] using h
    subst e
    exact ⟨.bl b, rfl, fun F => .bl b⟩
  | .int i, u, h => by
    cases u <;> first | (simp [datB] at h; done) | skip
    rename_i j t
    have e : i = j := by simpa [datB] using h
    subst e
    exact ⟨.int i, ⟨t, rfl⟩, fun F => .int i⟩
  | .str i, u, h => by
    cases u <;> first | (simp [datB] at h; done) | skip
    rename_i j t
    have e : i = j := by simpa [datB] using h
    subst e
    exact ⟨.str i, ⟨t, rfl⟩, fun F => .str i⟩
  | .list ds, u, h => by cases u <;> simp [datB] at h
  | .dict ds, u, h => by cases u <;> simp [datB] at h
  | .tuple ds, u, h => by
    cases u <;> first | (simp [datB] at h; done) | skip
    rename_i a
    unfold datB at h
    split at h
    · rename_i c od its n sl hk
      simp only [Bool.and_eq_true, decide_eq_true_eq] at h
      obtain ⟨hc, hz, hs⟩ := h
      subst hc
      obtain ⟨vs, r, q⟩ := datBs_ok hs
      exact ⟨.ref a, rfl, fun F => .tup (.inr ⟨_, its, n, hk, rfl, rfl, hz, r⟩) (q F)⟩
    · cases h
theorem datBs_ok : ∀ {ds : List D} {us : List Value}, datBs K ds us = true → ∃ vs, Vals vs us ∧ ∀ F, RpL K F vs ds
  | [], [], _ => ⟨[], .nil, fun F => .nil⟩
  | d :: ds, u :: us, h => by
    unfold datBs at h
    simp only [Bool.and_eq_true] at h
    obtain ⟨v, r1, q1⟩ := datB_ok h.1
    obtain ⟨vs, r2, q2⟩ := datBs_ok h.2
    exact ⟨v :: vs, .cons r1 r2, fun F => .cons (q1 F) (q2 F)⟩
  | [], _ :: _, h => by simp [datBs] at h
  | _ :: _, [], h => by simp [datBs] at h
end
end
def DatB (K : PySem.W.Frag) (p : Str × D) : Bool := match PySem.W.nsIn K mainGlobals p.1 with
  | some (some u) => datB K p.2 u
  | _ => false
/-- the module's name x holds the data d -/
def Tab (K : PySem.W.Frag) (mg : Str → Option Value) (x : Str) (d : D) : Prop := ∃ u v, mg x = some u ∧ RelV v u ∧ ∀ F, Rp K F v d
theorem DatB.tab {K : PySem.W.Frag} {h : Heap} {mg : Str → Option Value} (X : K.In h) (G : h.Ns mainGlobals mg) {x : Str} {d : D} (e : DatB K (x, d) = true) : Tab K mg x d := by
  unfold DatB at e
  split at e
  · rename_i u hu
    obtain ⟨v, r, q⟩ := datB_ok e
    exact ⟨u, v, PySem.W.mg_of X G hu, r, q⟩
  · cases e
theorem be_tab {X : Cx} {Γ : List Md} {pos : Pos} {x : Str} {d : D} (T : Tab X.K X.mg x d) (hg : Gl X x := by rfl) (hd : (x == ("__debug__" : Str)) = false := by decide) : BE X Γ (.Name x pos) (cE d) := by
  obtain ⟨u, v, e, r, q⟩ := T
  exact be_c (pe_glob hg e r hd) q
/-! ## the hook -/
abbrev AlB : Type := He.AlD × Bool
def obsB (fa : List He.Fa) (fn : List He.DefD) (dt : List (Str × D)) (K : PySem.W.Frag) : AlB := (He.obsD fa fn K, dt.all (DatB K))
def valB (fn : List He.DefD) : AlB := (He.valD fn, true)
def SaysB (fa : List He.Fa) (fn : List He.DefD) (dt : List (Str × D)) (K : PySem.W.Frag) : Prop := obsB fa fn dt K = valB fn
def obsBG (n : Nat) (fa : List He.Fa) (fn : List He.DefD) (dt : List (Str × D)) (g : Addr → Option Obj) : AlB := obsB fa fn dt (He.frG g (He.asD g n))
def hookB (n : Nat) (fa : List He.Fa) (fn : List He.DefD) (dt : List (Str × D)) : PySem.W.Hook where
  α := AlB
  obs := fun s => obsBG n fa fn dt s.heap.get?
  val := fun _ => valB fn
  says := fun _ h => ∃ K : PySem.W.Frag, K.In h ∧ SaysB fa fn dt K
  of := fun _ _ e => ⟨_, He.frG_in, e⟩
  keeps := fun _ _ _ ⟨K, hK, c⟩ k => ⟨K, PySem.W.Frag.In.keeps hK k, c⟩
theorem obsBG_eq {n : Nat} {fa : List He.Fa} {fn : List He.DefD} {dt : List (Str × D)} {g : Addr → Option Obj} {s : Shared} (h : ∀ a, g a = s.heap.get? a) : obsBG n fa fn dt g = (hookB n fa fn dt).obs s := by
  have e : g = s.heap.get? := funext h
  rw [e] <;> rfl
theorem SaysB.d {fa : List He.Fa} {fn : List He.DefD} {dt : List (Str × D)} {K : PySem.W.Frag} (c : SaysB fa fn dt K) : He.SaysD fa fn K := congrArg (fun z : AlB => z.1) c
theorem SaysB.tab {fa : List He.Fa} {fn : List He.DefD} {dt : List (Str × D)} {K : PySem.W.Frag} {h : Heap} {mg : Str → Option Value} (X : K.In h) (G : h.Ns mainGlobals mg) (c : SaysB fa fn dt K) (i : Nat) {x : Str} {d : D} (e : dt[i]? = some (x, d) := by rfl) : Tab K mg x d :=
  DatB.tab X G (List.all_eq_true.mp (show dt.all (DatB K) = true from congrArg (fun z : AlB => z.2) c) _ (List.mem_of_getElem? e))
theorem SaysB.fn {fa : List He.Fa} {fn : List He.DefD} {dt : List (Str × D)} {K : PySem.W.Frag} {h : Heap} {mg : Str → Option Value} (X : K.In h) (G : h.Ns mainGlobals mg) (c : SaysB fa fn dt K) (i j : Nat) {x : Str} {st : Stmt} (e : fn[i]? = some ⟨(x, none), x, x, defArgs st, defBody st, defScope st, [], []⟩ := by rfl) (e2 : fa[j]? = some (.glo x) := by rfl) : DefIn K mg x st :=
  ⟨c.d.def_ i e, He.glo_ok X G (c.d.fact j e2)⟩
theorem SaysB.free {fa : List He.Fa} {fn : List He.DefD} {dt : List (Str × D)} {K : PySem.W.Frag} {h : Heap} {mg : Str → Option Value} (X : K.In h) (G : h.Ns mainGlobals mg) (c : SaysB fa fn dt K) (j : Nat) {x : Str} (e2 : fa[j]? = some (.free x) := by rfl) : mg x = none := He.free_ok X G (c.d.fact j e2)
/-- the law's call, from its plain function -/
theorem law_sp {K : PySem.W.Frag} {M : List D → Option (D × En)} (hM : ∀ ns : List Int, ns.length ≤ 63 → ∃ o, M [.list (ns.map .int)] = some (.bool true, o)) (H : Hp) (a : Addr) (ns : List Int) (hl : ns.length ≤ 63) (hs : SqL K H a (ns.map V.int)) :
    spV K [.scr] .val M [.ref a] H (fun v _ => v = .bl true) fun _ _ _ => False := by
  obtain ⟨o, e⟩ := hM ns hl
  refine ⟨[.list (ns.map .int)], H, fun _ => [], .bool true, o, ⟨Same.refl _, rfl, rfl, fun i d h => ?_, fun _ _ => rfl, fun _ => List.nodup_nil, fun _ _ _ h => by simp at h, fun _ _ h => by simp at h⟩, e, fun v H' F' fp' q _ _ w => w.ow.1.bool'⟩
  cases i with
  | zero =>
    cases h
    exact ⟨.ref a, rfl, ⟨a, ns, rfl, hs, rfl⟩, rfl⟩
  | succ i => simp at h
theorem facts_end {P : Program} {w : World} {K : PySem.W.Frag} {h : Heap} {mg : Str → Option Value} {k : Nat} {fa : Addr} {st : Stmt} {M : List D → Option (D × En)} (F : DefIn K mg "law" st) (bd : BindsOk st ["script"] "law") (hfa : mg "law" = some (.ref fa))
    (O : ∀ base : Heap, K.In base → base.Ns mainGlobals mg → OkD P w K mg base k "law" ["script"] [.scr] .val M) : ∃ fd : FuncData, (∀ (s : Shared) (v : Value), BindsTo s fd ⟨[v], []⟩ [("script", v)]) ∧ ∀ base : Heap, K.In base → base.Ns mainGlobals mg → FnOk P w K mg base CX0 k fa fd ["script"] (spV K [.scr] .val M) := by
  obtain ⟨fd, F1⟩ := F.ex
  obtain ⟨oc, od, osl, l⟩ := fun_look F1
  have e : fa = He.ga K "law" := by
    have q := hfa.symm.trans F.g
    cases q
    rfl
  subst e
  refine ⟨fd, fun s v => F1.bindsA bd s [v] rfl, fun base h1 h2 => ?_⟩
  obtain ⟨fd', ⟨oc', od', osl', l'⟩, b, f⟩ := (O base h1 h2).ex
  rw [l] at l'
  cases l'
  exact f
end BV

set_option Elab.async false
set_option linter.all false
set_option maxRecDepth 100000
set_option maxHeartbeats 4000000
namespace BV
open PySem PySem.Spec L2
/-! ## what is never run; stores side by side; more op= -/
section
variable {X : Cx} {ms : List Md} {rm m : Md} {Γl Γ Γ' : List Md} {e : Expr} {es : List Expr} {st : Stmt} {sts : List Stmt}
def deadE : FE := fun _ => none
def deadT : FT := fun _ => none
def deadL : FL := fun _ => none
def deadS : FS := fun _ => none
theorem be_dead : BE X Γ e deadE := ⟨fun _ _ _ _ _ _ ⟨_, _, _, _, _, _, z, _⟩ => nomatch z⟩
theorem bo_dead : BO X Γ m e deadE := ⟨fun _ _ _ _ _ _ ⟨_, _, _, _, _, _, z, _⟩ => nomatch z⟩
theorem bt_dead : BT X Γ e deadT := ⟨fun _ _ _ _ _ _ ⟨_, _, _, _, _, _, z, _⟩ => nomatch z⟩
theorem bl_dead : BL X Γ es deadL := ⟨fun _ _ _ _ _ _ _ ⟨_, _, _, _, _, _, z, _⟩ => nomatch z⟩
theorem bi_dead {tg : Expr} : BI X Γ tg e deadL := ⟨fun _ _ _ _ _ _ ⟨_, _, _, _, _, _, z, _⟩ => nomatch z⟩
theorem bs_dead : BS X ms rm Γl Γ Γ' st deadS := ⟨fun _ _ _ _ _ _ ⟨_, _, _, _, _, _, _, _, z, _⟩ => nomatch z⟩
theorem bss_dead : BSs X ms rm Γl Γ Γ' sts deadS := ⟨fun _ _ _ _ _ _ ⟨_, _, _, _, _, _, _, _, z, _⟩ => nomatch z⟩
end
def addI : D → D → Option D
  | .int i, .int j => some (.int (i + j))
  | _, _ => none
section
variable {X : Cx} {K : PySem.W.Frag} {ms : List Md} {rm : Md} {Γl Γ : List Md} {pos : Pos}
theorem d_addI : DOp K (rI0 fun i j => .int (i + j)) addI := d_I0 fun x y d h => by
  unfold addI at h
  split at h
  · cases h; exact ⟨_, _, rfl, rfl, fun _ => .int _⟩
  · cases h
/-- a, b = x, y -/
def parS (i j : Nat) (f : FL) : FS := fun ρ => match f ρ with
  | some ([x, y], ρ1) => some (.nx, (ρ1.set i (some x)).set j (some y))
  | _ => none
theorem bs_par (i j : Nat) {x y : Str} {a b : Expr} {f : FL} {px py pt : Pos} {kt k2 pt2} (hc : X.calm = true) (hN : X.N.Nodup) (ha : BL X Γ [a, b] f) (hi : X.N[i]? = some x := by rfl) (hj : X.N[j]? = some y := by rfl) (hij : i ≠ j := by decide)
    (hx : X.env.scope.names.lookup x = some .local := by rfl) (hy : X.env.scope.names.lookup y = some .local := by rfl)
    (hw : swappedStores [.Tuple [.Name x px, .Name y py] kt pt] (.Tuple [a, b] k2 pt2) X.env = pure (some [x, y]) := by rfl) (hs : swapsWithSole [.Tuple [.Name x px, .Name y py] kt pt] (.Tuple [a, b] k2 pt2) pos.line X.env = pure false := by rfl)
    (hl : i < Γ.length := by exact Nat.le_of_ble_eq_true rfl) (hl2 : j < Γ.length := by exact Nat.le_of_ble_eq_true rfl) (hp : (ms.getD i .val).own = false := by rfl) (hp2 : (ms.getD j .val).own = false := by rfl) :
    BS X ms rm Γl Γ ((Γ.set i .val).set j .val) (.Assign [.Tuple [.Name x px, .Name y py] kt pt] (.Tuple [a, b] k2 pt2) pos) (parS i j f) := weakS (ps_par hc hN hi hj hij hx hy ha hw hs) fun Dn σ H ⟨ρ, F, fp, fl, ρ', vp, S, P, hf, q⟩ => by
  unfold parS at hf
  split at hf
  case h_2 => cases hf
  rename_i dx dy ρ1 h1
  cases hf
  refine ⟨ρ, F, fp, _, ρ1, S, h1, fun vs H1 F1 fp1 s1 S1 r1 => ?_⟩
  cases r1 with | cons ra rt =>
  cases rt with | cons rb rn =>
  cases rn
  refine ⟨_, _, rfl, ?_⟩
  have S2 := S1.setV (i := i) (by rw [← S1.lenG]; exact hl) ra
  have S3 := S2.setV (i := j) (by rw [← S2.lenG, List.length_set]; exact hl2) rb
  exact q _ _ F1 _ (nil_step (nil_step s1)) S3 ((P.set hp).set hp2)
/-- a, b, c = x, y, z -/
def par3S (i j l : Nat) (f : FL) : FS := fun ρ => match f ρ with
  | some ([x, y, z], ρ1) => some (.nx, ((ρ1.set i (some x)).set j (some y)).set l (some z))
  | _ => none
theorem bs_par3 (i j l : Nat) {x y z : Str} {a b c : Expr} {f : FL} {px py pz pt : Pos} {kt k2 pt2} (hc : X.calm = true) (hN : X.N.Nodup) (ha : BL X Γ [a, b, c] f) (hi : X.N[i]? = some x := by rfl) (hj : X.N[j]? = some y := by rfl) (hk : X.N[l]? = some z := by rfl) (hij : i ≠ j := by decide) (hil : i ≠ l := by decide) (hjl : j ≠ l := by decide)
    (hx : X.env.scope.names.lookup x = some .local := by rfl) (hy : X.env.scope.names.lookup y = some .local := by rfl) (hz : X.env.scope.names.lookup z = some .local := by rfl)
    (hw : swappedStores [.Tuple [.Name x px, .Name y py, .Name z pz] kt pt] (.Tuple [a, b, c] k2 pt2) X.env = pure (some [x, y, z]) := by rfl) (hs : swapsWithSole [.Tuple [.Name x px, .Name y py, .Name z pz] kt pt] (.Tuple [a, b, c] k2 pt2) pos.line X.env = pure false := by rfl)
    (hl : i < Γ.length := by exact Nat.le_of_ble_eq_true rfl) (hl2 : j < Γ.length := by exact Nat.le_of_ble_eq_true rfl) (hl3 : l < Γ.length := by exact Nat.le_of_ble_eq_true rfl) (hp : (ms.getD i .val).own = false := by rfl) (hp2 : (ms.getD j .val).own = false := by rfl) (hp3 : (ms.getD l .val).own = false := by rfl) :
    BS X ms rm Γl Γ (((Γ.set i .val).set j .val).set l .val) (.Assign [.Tuple [.Name x px, .Name y py, .Name z pz] kt pt] (.Tuple [a, b, c] k2 pt2) pos) (par3S i j l f) := weakS (ps_par3 hc hN hi hj hk hij hil hjl hx hy hz ha hw hs) fun Dn σ H ⟨ρ, F, fp, fl, ρ', vp, S, P, hf, q⟩ => by
  unfold par3S at hf
  split at hf
  case h_2 => cases hf
  rename_i dx dy dz ρ1 h1
  cases hf
  refine ⟨ρ, F, fp, _, ρ1, S, h1, fun vs H1 F1 fp1 s1 S1 r1 => ?_⟩
  cases r1 with | cons ra rt =>
  cases rt with | cons rb rt =>
  cases rt with | cons rc rn =>
  cases rn
  refine ⟨_, _, _, rfl, ?_⟩
  have S2 := S1.setV (i := i) (by rw [← S1.lenG]; exact hl) ra
  have S3 := S2.setV (i := j) (by rw [← S2.lenG, List.length_set]; exact hl2) rb
  have S4 := S3.setV (i := l) (by rw [← S3.lenG, List.length_set, List.length_set]; exact hl3) rc
  exact q _ _ F1 _ (nil_step (nil_step (nil_step s1))) S4 (((P.set hp).set hp2).set hp3)
end
end BV

set_option Elab.async false
set_option linter.all false
set_option maxRecDepth 100000
set_option maxHeartbeats 4000000
namespace BV
open PySem PySem.Spec L2
/-! ## {k: v for g in f if t} -/
def dcL (g : FG) (t : FT) (ek ev : FE) (vs : List Nat) : List D → List (D × D) → En → Option (List (D × D) × En)
  | [], acc, ρ => some (acc, ρ)
  | d :: ds, acc, ρ => match g d ρ with
    | none => none
    | some ρ1 => match t ρ1 with
      | none => none
      | some (true, ρ2) => (match ek ρ2 with
        | none => none
        | some (y, ρ3) => match ev ρ3 with
          | none => none
          | some (z, ρ4) => match keyD y with
            | none => none
            | some _ => dcL g t ek ev vs ds (putD y z acc) (wipeE ρ4 vs))
      | some (false, ρ2) => dcL g t ek ev vs ds acc (wipeE ρ2 vs)
def dcE (f : FL) (g : FG) (t : FT) (ek ev : FE) (vs : List Nat) : FE := fun ρ => match f ρ with
  | none => none
  | some (ds, ρ1) => if ds.length ≤ 1000000 then (match dcL g t ek ev vs ds [] (wipeE ρ1 vs) with
    | none => none
    | some (ys, ρ2) => some (.dict ys, backE ρ1 ρ2 vs)) else none
theorem putK_len (xs : List (Key × V)) (k : Key) (v : V) : (putK xs k v).length ≤ xs.length + 1 := by
  unfold putK
  split
  · rw [List.length_map]; omega
  · rw [List.length_append]; simp
section
variable {X : Cx} {Γ : List Md} {pos : Pos}
theorem tDc_of {K : PySem.W.Frag} {f : FL} {g : FG} {t : FT} {ek ev : FE} {is : List Nat} (vs : List Nat) (hv : ∀ i ∈ vs, Γ.getD i .val = .val) (his : ∀ i ∈ is, i ∈ vs) : ∀ σ H Q, tO K Γ .dct (dcE f g t ek ev vs) σ H Q → tDc (tI K Γ f) (tG K [] Γ is g) (tB K Γ t) (tV K Γ ek) (tV K Γ ev) vs σ H Q := fun σ H Q ⟨ρ, F, fp, d, ρ', S, hf, q⟩ => by
  unfold dcE at hf
  split at hf
  · cases hf
  · rename_i ds ρ1 h1
    split at hf
    case isFalse => cases hf
    rename_i hlen
    split at hf
    · cases hf
    · rename_i ys ρ2 h2
      cases hf
      refine ⟨ρ, F, fp, ds, ρ1, S, h1, fun J H1 F1 fp1 s1 S1 hJ D hD => ?_⟩
      have hHD : H D = none ∨ ∃ i, D ∈ fp i := s1.dead hD
      have hFD : F1 D = none := S1.sub.free hD
      have updS : ∀ {F4 H4 fp4 o}, Step F H fp F4 H4 fp4 → Step F H fp F4 (upd H4 D o) fp4 := fun {F4 H4 fp4 o} s => ⟨s.ff, fun a u h n => by
          have ne : a ≠ D := fun z => by
            subst z
            rcases hHD with w | ⟨i, w⟩
            · rw [w] at h; cases h
            · exact n i w
          rw [upd_ne ne]; exact s.hh a u h n, fun a h => by
          by_cases ha : a = D
          · subst ha; rw [upd_same]; exact .inl (by simp)
          · rw [upd_ne ha]; exact s.live a h, s.new, s.nfp⟩
      have updR : ∀ {F4 H4 fp4 o ρ4 σ4}, StR K Γ ρ4 σ4 F4 H4 fp4 → F4 D = none → (∀ i, D ∉ fp4 i) → StR K Γ ρ4 σ4 F4 (upd H4 D o) fp4 := fun {F4 H4 fp4 o ρ4 σ4} S hF hn =>
        S.stay (Same.refl _) (fun a u h => by rw [upd_ne (ne_of_none h hF)]; exact S.sub a u h) (fun i a h => upd_ne fun z => hn i (z ▸ h)) S.fr
      have nfp1 : ∀ i, D ∉ fp1 i := fun i h => S1.live h hD
      refine ⟨fun i k H2 => ∃ (ρ3 : En) (F2 : Hp) (fp2 : Fp) (acc : List (Key × V)) (dn : List (PyData × PyData)), StR K Γ ρ3 (wipe σ vs) F2 H2 fp2 ∧ (∀ j ∈ vs, ∀ d, ρ3[j]? ≠ some (some d)) ∧ Step F H fp F2 H2 fp2 ∧ Same F1 F2 ∧ H2 D = some (.dK acc) ∧ acc.length ≤ i ∧
        RpK K F2 acc dn ∧ Pend [D] F2 H2 fp2 ∧ k = ds.length - i ∧ dcL g t ek ev vs (ds.drop i) dn ρ3 = some (ys, ρ2), ?_, ?_⟩
      · refine ⟨ds.length, wipeE ρ1 vs, F1, fpWipe fp1 vs, [], [], ?_, fun j hj d h => (wipeE_get h).2 hj, ?_, Same.refl _, upd_same, Nat.zero_le _, .nil, ?_, by simp, by simpa using h2⟩
        · refine updR (S1.wipe vs) hFD fun i h => ?_
          by_cases hi : i ∈ vs
          · rw [fpWipe_in hi] at h; simp at h
          · rw [fpWipe_out hi] at h; exact nfp1 i h
        · exact updS (wipe_step s1 vs)
        · intro a ha
          have e : a = D := by simpa using ha
          subst e
          refine ⟨by rw [upd_same]; simp, hFD, fun i h => ?_⟩
          by_cases hi : i ∈ vs
          · rw [fpWipe_in hi] at h; simp at h
          · rw [fpWipe_out hi] at h; exact nfp1 i h
      · rintro i k H2 ⟨ρ3, F2, fp2, acc, dn, S2, nv, s2, fx, hA, hl, hR, hP, rfl, hL⟩
        obtain ⟨go, stop⟩ := hJ i F2 H2 fx S2.sub
        cases hd : ds[i]? with
        | none =>
          have hli : ds.length ≤ i := List.getElem?_eq_none_iff.mp hd
          rw [List.drop_eq_nil_of_le hli] at hL
          cases hL
          refine .inl ⟨stop hli, q _ H2 F2 fp2 [D] s2 (S1.back S2 fx hv nv) ⟨⟨D, acc, _, rfl, rfl, hA, hR, rfl⟩, by simp, fun a ha => (hP a ha).2.1, fun a ha j => (hP a ha).2.2 j, fun a ha => ?_⟩⟩
          have e : a = D := by simpa using ha
          subst e; exact hHD
        | some d =>
          have hli : i < ds.length := (List.getElem?_eq_some_iff.mp hd).1
          have hd' : ds.drop i = d :: ds.drop (i + 1) := by
            rw [List.drop_eq_getElem_cons hli]
            have e := (List.getElem?_eq_some_iff.mp hd).2
            rw [e]
          rw [hd'] at hL
          obtain ⟨go1, go2⟩ := go d hd
          refine .inr ⟨go1, fun H3 => ∃ (ρ3 : En) (F2 : Hp) (fp2 : Fp) (acc : List (Key × V)) (dn : List (PyData × PyData)), StR K Γ ρ3 (wipe σ vs) F2 H3 fp2 ∧ (∀ j ∈ vs, ∀ d, ρ3[j]? ≠ some (some d)) ∧ Step F H fp F2 H3 fp2 ∧ Same F1 F2 ∧ H3 D = some (.dK acc) ∧ acc.length ≤ i + 1 ∧
            RpK K F2 acc dn ∧ Pend [D] F2 H3 fp2 ∧ dcL g t ek ev vs (ds.drop (i + 1)) dn ρ3 = some (ys, ρ2), ?_, ?_⟩
          · rintro H3 ⟨ρ4, F4, fp4, acc4, dn4, h1, h2, h3, h4, h5, h6, h7, h8, h9⟩
            exact ⟨ds.length - (i + 1), by omega, ρ4, F4, fp4, acc4, dn4, h1, h2, h3, h4, h5, h6, h7, h8, rfl, h9⟩
          · intro x H3 hy
            obtain ⟨F3, A, r3⟩ := go2 x H3 hy
            have S3 := S2.alloc A
            unfold dcL at hL
            split at hL
            · cases hL
            · rename_i ρ4 hg4
              refine ⟨ρ3, F3, fp2, d, ρ4, fun _ => .non, S3, fun p hp => by simp [Md.own] at hp, r3, hg4, fun σ4 H4 F4 fp4 s4 S4 P4 w4 => ?_⟩
              have wσ : wipe σ4 vs = wipe σ vs := (w4 vs his).trans (wipe_wipe σ vs)
              refine ⟨wσ, ?_⟩
              have s24 : Step F2 H2 fp2 F4 H4 fp4 := (A.step (fp := fp2)).trans s4
              split at hL
              · cases hL
              · rename_i ρ5 ht5
                refine ⟨ρ4, F4, fp4, true, ρ5, S4, ht5, fun H5 F5 fp5 s5 S5 => iteT ?_⟩
                split at hL
                · cases hL
                · rename_i y ρ6 he6
                  refine ⟨ρ5, F5, fp5, y, ρ6, S5, he6, fun vk H6 F6 fp6 s6 S6 r6 => ?_⟩
                  split at hL
                  · cases hL
                  · rename_i z ρ7 he7
                    refine ⟨ρ6, F6, fp6, z, ρ7, S6, he7, fun v H7 F7 fp7 s7 S7 r7 => ?_⟩
                    have s27 : Step F2 H2 fp2 F7 H7 fp7 := ((s24.trans s5).trans s6).trans s7
                    obtain ⟨hP7, k7⟩ := hP.step s27
                    split at hL
                    · cases hL
                    · rename_i kk hk
                      obtain rfl := keyD_eq hk
                      obtain rfl := r6.key
                      refine ⟨acc, kk, rfl, (k7 D List.mem_cons_self).trans hA, by have := million; omega, ?_⟩
                      have fD7 : F7 D = none := (hP7 D List.mem_cons_self).2.1
                      have S7w := S7.wipe vs
                      rw [show L2.wipe σ4 vs = L2.wipe σ vs from wσ] at S7w
                      have nD : ∀ i, D ∉ fpWipe fp7 vs i := fun j h => by
                        by_cases hj : j ∈ vs
                        · rw [fpWipe_in hj] at h; simp at h
                        · rw [fpWipe_out hj] at h; exact (hP7 D List.mem_cons_self).2.2 j h
                      refine ⟨wipeE ρ7 vs, F7, fpWipe fp7 vs, putK acc kk v, putD (kD kk) z dn, updR S7w fD7 nD, fun j hj d h => (wipeE_get h).2 hj, updS (wipe_step (s2.trans s27) vs), fx.trans s27.ff, upd_same, by have := putK_len acc kk v; omega, (hR.mono' s27.ff).put r7, fun a ha => ?_, hL⟩
                      have e : a = D := by simpa using ha
                      subst e
                      exact ⟨by rw [upd_same]; simp, fD7, nD⟩
              · rename_i ρ5 ht5
                refine ⟨ρ4, F4, fp4, false, ρ5, S4, ht5, fun H5 F5 fp5 s5 S5 => iteF ?_⟩
                have s25 : Step F2 H2 fp2 F5 H5 fp5 := s24.trans s5
                obtain ⟨hP5, k5⟩ := hP.step s25
                have S5w := S5.wipe vs
                rw [show L2.wipe σ4 vs = L2.wipe σ vs from wσ] at S5w
                refine ⟨wipeE ρ5 vs, F5, fpWipe fp5 vs, acc, dn, S5w, fun j hj d h => (wipeE_get h).2 hj, wipe_step (s2.trans s25) vs, fx.trans s25.ff, (k5 D List.mem_cons_self).trans hA, by omega, hR.mono' s25.ff, fun a ha => ?_, hL⟩
                obtain ⟨z1, z2, z3⟩ := hP5 a ha
                refine ⟨z1, z2, fun j h2 => ?_⟩
                by_cases hj : j ∈ vs
                · rw [fpWipe_in hj] at h2; simp at h2
                · rw [fpWipe_out hj] at h2; exact z3 j h2
theorem bo_dc {kx vx tg iter : Expr} {ifs : List Expr} {scope : Scope} (own : List (Str × Nat)) {f : FL} {g : FG} {t : FT} {ek ev : FE} {is : List Nat} (hc : X.calm = true) (hN : X.N.Nodup) (hi : BI X Γ tg iter f) (ok : BlkOk X.N X.env.scope scope own)
    (hg : ∀ (s : Shared) (H : Hp) (C : Addr) (cl : List (Str × Addr)) (fp : List Addr), BG (X.blk s H scope (compEnvC scope cl C X.env) fp) [] Γ is tg g) (ht : ∀ (s : Shared) (H : Hp) (C : Addr) (cl : List (Str × Addr)) (fp : List Addr), BTs (X.blk s H scope (compEnvC scope cl C X.env) fp) Γ ifs t)
    (hk : ∀ (s : Shared) (H : Hp) (C : Addr) (cl : List (Str × Addr)) (fp : List Addr), BE (X.blk s H scope (compEnvC scope cl C X.env) fp) Γ kx ek) (he : ∀ (s : Shared) (H : Hp) (C : Addr) (cl : List (Str × Addr)) (fp : List Addr), BE (X.blk s H scope (compEnvC scope cl C X.env) fp) Γ vx ev)
    (hv : ∀ i ∈ own.map (·.2), Γ.getD i .val = .val := by first | decide | ((try intro i hi); (try simp only [List.map_cons, List.map_nil, List.mem_cons, List.not_mem_nil, or_false] at hi); (repeat' (rcases hi with hi | hi)) <;> (first | rfl | (subst hi; rfl)))) (his : ∀ i ∈ is, i ∈ own.map (·.2) := by decide) (hs : ∀ x, foldedSetIterable iter X.env x = pure x := by intro _; rfl) :
    BO X Γ .dct (.DictComp kx vx [⟨tg, iter, ifs, 0⟩] scope pos) (dcE f g t ek ev (own.map (·.2))) := weakE (pe_dc hc hN hi ok hg ht hk he hs) (tDc_of (own.map (·.2)) hv his)
end
end BV

set_option Elab.async false
set_option linter.all false
set_option maxRecDepth 100000
set_option maxHeartbeats 4000000
namespace BV
open PySem PySem.Spec PyProof.Rows L2
/-! ## name = {k: v for ..} on one line -/
section
variable {X : Cx} {Γ : List Md} {pos : Pos}
theorem ps_setDc {i : Nat} {y : Str} {py : Pos} {kx vx tg iter : Expr} {ifs : List Expr} {scope : Scope} {own : List (Str × Nat)} {spos : Pos} {wi : TI} {g : TG} {tt : TT} {tk tv : TE} (hc : X.calm = true) (hN : X.N.Nodup) (hy : X.N[i]? = some y) (hyl : X.env.scope.names.lookup y = some .local)
    (hsw : swapsWith (.DictComp kx vx [⟨tg, iter, ifs, 0⟩] scope pos) (some (.Name y py)) spos.line X.env = pure true) (hi : PI X tg iter wi) (ok : BlkOk X.N X.env.scope scope own)
    (hg : ∀ (s : Shared) (H : Hp) (C : Addr) (cl : List (Str × Addr)) (fp : List Addr), PG (X.blk s H scope (compEnvC scope cl C X.env) fp) tg g) (ht : ∀ (s : Shared) (H : Hp) (C : Addr) (cl : List (Str × Addr)) (fp : List Addr), PTs (X.blk s H scope (compEnvC scope cl C X.env) fp) ifs tt)
    (hk : ∀ (s : Shared) (H : Hp) (C : Addr) (cl : List (Str × Addr)) (fp : List Addr), PE (X.blk s H scope (compEnvC scope cl C X.env) fp) kx tk) (he : ∀ (s : Shared) (H : Hp) (C : Addr) (cl : List (Str × Addr)) (fp : List Addr), PE (X.blk s H scope (compEnvC scope cl C X.env) fp) vx tv)
    (hs : ∀ x, foldedSetIterable iter X.env x = pure x) : PS X (.Assign [.Name y py] (.DictComp kx vx [⟨tg, iter, ifs, 0⟩] scope pos) spos) (tAsg (tDc wi g tt tk tv (own.map (·.2))) (gName i)) := ⟨fun pins s σ H Dn I h => by
  rw [exec_Assign_Name_used _ _ _ _ hsw]
  refine wpAny_bind (wpAny_standAt (wpAny_bind ?_))
  show wpAny _ X.A (do let _ ← comprehension (.DictComp kx vx [⟨tg, iter, ifs, 0⟩] scope pos) scope X.env (firstIterPos [⟨tg, iter, ifs, 0⟩] pos) newDict false (eval iter X.env) (some (assign (.Name y py) X.env))) _ _ s
  have h' : tDc wi g tt tk tv (own.map (·.2)) σ H (fun x H1 => gName i x σ H1 Dn.nx) := h
  refine wpAny_bind (thn (dc_core (Qf := fun _ s' => SP X pins Dn .next s') hc hN I hi ok hg ht hk he hs h' fun A C s' m H' I' q hn f => ?_) fun _ s' hq => wpAny_pure (wpAny_pure hq))
  obtain ⟨f0, f1, f2, f3, f4, f5⟩ := f
  show wpAny _ _ (assign (.Name y py) X.env (.ref A)) _ _ _
  refine wpAny_assign_Name (store_ok2 (v := V.ref A) I' hN hy (.inl hyl) rfl (fun s2 I2 ⟨a, sb, ha⟩ => ?_) (.inr hyl))
  have haC : C ≠ a := ha.elim (fun z => by rw [z]; exact f1) fun z e => f4 y a z e.symm
  exact ⟨m, hn.sameBut sb haC, fun h3 sb3 => ⟨_, H', I2.turned (t' := s2.toks) (fun b o hb e => (sb3.2 b hb).trans e) f0 f1 f3 f4 f5, q⟩⟩⟩
theorem swd_true {kx vx : Expr} {gs : List Comprehension} {scope : Scope} {py : Pos} {y : Str} {l : Nat} {env : Env} (hk : env.scope.kind = .function) (hy : env.scope.names.lookup y = some .local) (hl : (py.line == pos.line) = true) (ha : (scope.names.any fun (n, k) => n == y && (k == .local || k == .cell)) = false) :
    swapsWith (.DictComp kx vx gs scope pos) (some (.Name y py)) l env = pure true := by
  have h1 : env.kindOf y = some .local := hy
  have h2 : env.blockKind = .function := by unfold Env.blockKind; rw [hk]; rfl
  unfold swapsWith
  simp only [h2, h1, ha, Expr.pos, hl] <;> rfl
theorem bs_setDc (i : Nat) {ms : List Md} {rm : Md} {Γl : List Md} {y : Str} {py : Pos} {kx vx tg iter : Expr} {ifs : List Expr} {scope : Scope} (own : List (Str × Nat)) {spos : Pos} {f : FL} {g : FG} {t : FT} {ek ev : FE} {is : List Nat} (hc : X.calm = true) (hN : X.N.Nodup) (hy : X.N[i]? = some y) (hyl : X.env.scope.names.lookup y = some .local)
    (hsw : swapsWith (.DictComp kx vx [⟨tg, iter, ifs, 0⟩] scope pos) (some (.Name y py)) spos.line X.env = pure true) (hi : BI X Γ tg iter f) (ok : BlkOk X.N X.env.scope scope own)
    (hg : ∀ (s : Shared) (H : Hp) (C : Addr) (cl : List (Str × Addr)) (fp : List Addr), BG (X.blk s H scope (compEnvC scope cl C X.env) fp) [] Γ is tg g) (ht : ∀ (s : Shared) (H : Hp) (C : Addr) (cl : List (Str × Addr)) (fp : List Addr), BTs (X.blk s H scope (compEnvC scope cl C X.env) fp) Γ ifs t)
    (hk : ∀ (s : Shared) (H : Hp) (C : Addr) (cl : List (Str × Addr)) (fp : List Addr), BE (X.blk s H scope (compEnvC scope cl C X.env) fp) Γ kx ek) (he : ∀ (s : Shared) (H : Hp) (C : Addr) (cl : List (Str × Addr)) (fp : List Addr), BE (X.blk s H scope (compEnvC scope cl C X.env) fp) Γ vx ev)
    (hv : ∀ i ∈ own.map (·.2), Γ.getD i .val = .val := by first | decide | ((try intro i hi); (try simp only [List.map_cons, List.map_nil, List.mem_cons, List.not_mem_nil, or_false] at hi); (repeat' (rcases hi with hi | hi)) <;> (first | rfl | (subst hi; rfl)))) (his : ∀ i ∈ is, i ∈ own.map (·.2) := by decide) (hl : i < Γ.length := by exact Nat.le_of_ble_eq_true rfl) (hp : (ms.getD i .val).own = false := by rfl) (hs : ∀ x, foldedSetIterable iter X.env x = pure x := by intro _; rfl) :
    BS X ms rm Γl Γ (Γ.set i .dct) (.Assign [.Name y py] (.DictComp kx vx [⟨tg, iter, ifs, 0⟩] scope pos) spos) (asgS i (dcE f g t ek ev (own.map (·.2)))) :=
  weakS (ps_setDc (wi := tI X.K Γ f) (g := tG X.K [] Γ is g) (tt := tB X.K Γ t) (tk := tV X.K Γ ek) (tv := tV X.K Γ ev) hc hN hy hyl hsw hi ok hg ht hk he hs) fun Dn σ H h => by
    have h1 := tAsgO_of (K := X.K) (m := .dct) (f := dcE f g t ek ev (own.map (·.2))) hl hp Dn σ H h
    exact tDc_of (K := X.K) (f := f) (g := g) (t := t) (ek := ek) (ev := ev) (is := is) _ hv his σ H (fun x H1 => gName i x σ H1 Dn.nx) h1
end
end BV

set_option Elab.async false
set_option linter.all false
set_option maxRecDepth 100000
set_option maxHeartbeats 4000000
namespace BV
open PySem PySem.Spec L2
/-! ## len(sorted(set(xs))), xs a list of tuples of ints -/
def tupsOf : List D → Option (List (List Int))
  | [] => some []
  | .tuple ds :: r => match intsOf ds with
    | some ns => (tupsOf r).map (ns :: ·)
    | none => none
  | _ => none
def distI : List (List Int) → List (List Int)
  | [] => []
  | x :: r => if x ∈ r then distI r else x :: distI r
theorem distI_mem {y : List Int} : ∀ {l : List (List Int)}, y ∈ distI l ↔ y ∈ l
  | [] => Iff.rfl
  | x :: r => by
    unfold distI
    split
    · rename_i h
      rw [distI_mem, List.mem_cons]
      exact ⟨.inr, fun z => z.elim (fun e => e ▸ h) id⟩
    · rw [List.mem_cons, List.mem_cons, distI_mem]
theorem distI_nodup : ∀ l : List (List Int), (distI l).Nodup
  | [] => .nil
  | x :: r => by
    unfold distI
    split
    · exact distI_nodup r
    · rename_i h
      exact List.nodup_cons.mpr ⟨fun z => h (distI_mem.mp z), distI_nodup r⟩
/-- tuples of one length (one at least), all things in [0, 1000) -/
def evenB : List (List Int) → Bool
  | [] => true
  | x :: r => decide (1 ≤ x.length) && (x :: r).all fun y => decide (y.length = x.length) && y.all fun m => decide (0 ≤ m) && decide (m < 1000)
def lenSetE (f : FE) : FE := fun ρ => match f ρ with
  | some (.list ds, ρ1) => (match tupsOf ds with
    | some ks => if ks.length < 64 ∧ evenB ks = true then some (.int (distI ks).length, ρ1) else none
    | none => none)
  | _ => none
section
variable {X : Cx} {K : PySem.W.Frag} {Γ : List Md} {F H : Hp}
theorem RpL.tups : ∀ {vs : List V} {ds : List D} {ks : List (List Int)}, RpL K F vs ds → tupsOf ds = some ks → ∃ L : List (Addr × List Int), vs = L.map (fun p => V.ref p.1) ∧ L.map (·.2) = ks ∧ ∀ p ∈ L, SqT K F p.1 (p.2.map V.int)
  | _, [], ks, .nil, h => by cases h; exact ⟨[], rfl, rfl, fun p hp => by cases hp⟩
  | _, d :: ds, ks, .cons (v := v) (vs := vs) r t, h => by
    unfold tupsOf at h
    split at h
    · rename_i z; cases z
    · rename_i es _ e
      cases e
      split at h
      · rename_i ns hn
        cases e2 : tupsOf ds with
        | none => rw [e2] at h; cases h
        | some kr =>
          rw [e2] at h
          cases h
          obtain ⟨L, h1, h2, h3⟩ := RpL.tups t e2
          obtain ⟨a, xs, rfl, hq, hr⟩ := r.tuple
          have ex := hr.int_of hn
          subst ex
          refine ⟨(a, ns) :: L, by rw [List.map_cons, h1], by rw [List.map_cons, h2], fun p hp => ?_⟩
          rcases List.mem_cons.mp hp with e | hp
          · subst e; exact hq
          · exact h3 p hp
      · cases h
    · cases h
theorem same_updH {p : Addr} {o : HO} (e : Same F H) (hp : H p = none) : Same F (upd H p o) := fun a u h => by rw [upd_ne (ne_of_none (e a u h) hp)]; exact e a u h
theorem Alloc.junk {p : Addr} {o : HO} (e : Same F H) (hp : H p = none) : Alloc F H F (upd H p o) :=
  ⟨Same.refl _, fun a u h => by rw [upd_ne (fun z => by rw [z, hp] at h; cases h)]; exact h, same_updH e hp, fun a h => .inl h⟩
theorem be_lenSet {e : Expr} {f : FE} {p1 p2 p3 q1 q2 pos : Pos} (hcalm : X.calm = true) (hu : X.A.units + 64 < cLine) (hml : X.mg "len" = none) (hms : X.mg "sorted" = none) (hmt : X.mg "set" = none) (he : BE X Γ e f) (hgl : Gl X "len" := by rfl) (hgs : Gl X "sorted" := by rfl) (hgt : Gl X "set" := by rfl)
    (h1 : starEach [e] X.env = (false, eval e X.env) :: starEach [] X.env := by rfl) (h2 : (backTo q1 (starEach [] X.env)).any (·.1) = false := by rfl) :
    BE X Γ (.Call (.Name "len" p1) [.Call (.Name "sorted" p2) [.Call (.Name "set" p3) [e] [] q1] [] q2] [] pos) (lenSetE f) := by
  have a1 := pe_callTy (pos := q1) (p := p3) (cr_setOfT (X := X) hcalm hu) hgt hmt PyProof.Rows.boot_set (pa_cons he pa_nil h1) (by decide) (by decide) h1 h2
  have a2 := pe_callB (pos := q2) (p := p2) (cr_sortedT (X := X) hcalm) hgs hms PyProof.Rows.boot_sorted (pa_cons a1 pa_nil rfl) (by decide) (by decide) rfl rfl
  have a3 := pe_callB (pos := pos) (p := p1) (call_len_seq (X := X)) hgl hml PySem.boot_len (pa_cons a2 pa_nil rfl) (by decide) (by decide) rfl rfl
  refine weakE a3 fun σ H Q ⟨ρ, F, fp, d, ρ', S, hf, q⟩ => ?_
  unfold lenSetE at hf
  split at hf
  case h_2 => cases hf
  rename_i ds ρ1 e1
  split at hf
  case h_2 => cases hf
  rename_i ks hk
  split at hf
  case isFalse => cases hf
  rename_i hb
  cases hf
  refine ⟨ρ, F, fp, .list ds, ρ', S, e1, fun v H1 F1 fp1 s1 S1 r1 => ?_⟩
  obtain ⟨a, xs, rfl, ha, rx⟩ := r1.list
  obtain ⟨L, rfl, hL, hT⟩ := rx.tups hk
  have hlen : L.length = ks.length := by rw [← hL, List.length_map]
  refine ⟨a, L, rfl, SqL.of (S1.sub _ _ ha), fun p hp => sqT_same S1.sub (hT p hp), by rw [hlen]; exact hb.1, fun a2 L2 ha2 hsub hall => ?_⟩
  have sub2 : ∀ {o}, Same F1 (upd H1 a2 o) := fun {o} => same_updH S1.sub ha2
  have hev : ∃ n, 1 ≤ n ∧ ∀ p ∈ L, p.2.length = n ∧ TS.Bd 1000 p.2 := by
    cases ks with
    | nil => exact ⟨1, Nat.le_refl _, fun p hp => by rw [List.length_eq_zero_iff.mp hlen] at hp; cases hp⟩
    | cons k0 kr =>
      have q2 := hb.2
      unfold evenB at q2
      obtain ⟨q3, q4⟩ := Bool.and_eq_true_iff.mp q2
      refine ⟨k0.length, of_decide_eq_true q3, fun p hp => ?_⟩
      have hm : p.2 ∈ k0 :: kr := by rw [← hL]; exact List.mem_map.mpr ⟨p, hp, rfl⟩
      obtain ⟨q5, q6⟩ := Bool.and_eq_true_iff.mp (List.all_eq_true.mp q4 _ hm)
      refine ⟨of_decide_eq_true q5, fun m hm => ?_⟩
      obtain ⟨q7, q8⟩ := Bool.and_eq_true_iff.mp (List.all_eq_true.mp q6 m hm)
      exact ⟨of_decide_eq_true q7, of_decide_eq_true q8⟩
  obtain ⟨n, hn, hev⟩ := hev
  refine ⟨a2, L2, n, 1000, rfl, upd_same, fun p hp => sqT_same sub2 (hT p (hsub p hp)), hn, fun p hp => hev p (hsub p hp), fun L3 p3 hperm hnd hl3 _ hp3 => ?_⟩
  have el : L3.length = (distI ks).length := by
    have hp2 : (L3.map (·.2)).Perm (distI ks) := by
      refine (List.perm_ext_iff_of_nodup hnd (distI_nodup ks)).mpr fun y => ?_
      rw [distI_mem, ← hL]
      constructor
      · intro hy
        obtain ⟨z, hz, rfl⟩ := List.mem_map.mp hy
        exact List.mem_map.mpr ⟨z, hsub z (hperm.mem_iff.mp hz), rfl⟩
      · intro hy
        obtain ⟨z, hz, rfl⟩ := List.mem_map.mp hy
        obtain ⟨w, hw, e⟩ := List.mem_map.mp (hall z hz)
        exact List.mem_map.mpr ⟨w, hperm.mem_iff.mpr hw, e⟩
    rw [← hp2.length_eq, List.length_map]
  refine ⟨p3, L3.map fun q => V.ref q.1, rfl, .inl (SqL.of upd_same), ?_⟩
  rw [List.length_map, el]
  have A1 : Alloc F1 H1 F1 (upd H1 a2 (SetTO X.prog X.w a2 L2)) := .junk S1.sub ha2
  have A2 : Alloc F1 (upd H1 a2 (SetTO X.prog X.w a2 L2)) F1 (upd (upd H1 a2 (SetTO X.prog X.w a2 L2)) p3 (.lst (L3.map fun q => V.ref q.1))) := .junk sub2 hp3
  exact q _ _ F1 fp1 (s1.trans (A1.trans A2).step) (S1.alloc (A1.trans A2)) (.int _)
end
end BV

set_option Elab.async false
set_option linter.all false
set_option maxRecDepth 100000
set_option maxHeartbeats 4000000
namespace BV
open PySem PySem.Spec L2
/-! ## plain laws: loops and draws -/
theorem seq_nx {f g : FS} {ρ ρ' : En} (h : f ρ = some (.nx, ρ')) : seqS f g ρ = g ρ' := by unfold seqS; rw [h]
theorem defM_rt {n : Nat} {ms : List Md} {rm : Md} {b : FS} {ds : List D} {d : D} {ρ' : En} (h : b (ds.map some ++ List.replicate (n - ds.length) none) = some (.rt d, ρ')) (hl : ds.length = ms.length := by rfl) : defM n ms rm b ds = some (d, outs ms ρ') := by
  unfold defM
  rw [if_pos hl, h]
theorem for_nx {f : FL} {g : FG} {b : FS} {ρ ρ1 ρ' : En} {l : List D} (hf : f ρ = some (l, ρ1)) (h : forL g b l ρ1 = some (.nx, ρ')) : forS f g b ρ = some (.nx, ρ') := by
  unfold forS
  rw [hf]; exact h
theorem rg1_ev {f : FE} {ρ ρ1 : En} {j : Int} (hf : f ρ = some (.int j, ρ1)) (h : -1000000 ≤ j ∧ j ≤ 1000000) : rg1L f ρ = some (rgD 0 j.toNat, ρ1) := by
  unfold rg1L
  rw [hf]; exact if_pos h
theorem rg2_ev {f g : FE} {ρ ρ1 ρ2 : En} {i j : Int} (hf : f ρ = some (.int i, ρ1)) (hg : g ρ1 = some (.int j, ρ2)) (hi : -1000000 ≤ i ∧ i ≤ 1000000) (hj : -1000000 ≤ j ∧ j ≤ 1000000) : rg2L f g ρ = some (rgD i (j - i).toNat, ρ2) := by
  unfold rg2L
  rw [hf]
  show (match g ρ1 with
    | some (.int j, ρ2) => if -1000000 ≤ i ∧ i ≤ 1000000 ∧ -1000000 ≤ j ∧ j ≤ 1000000 then some (rgD i (j - i).toNat, ρ2) else none
    | _ => none) = _
  rw [hg]; exact if_pos ⟨hi.1, hi.2, hj.1, hj.2⟩
theorem lrg1_ev {f : FE} {ρ ρ1 : En} {l : List D} (h : rg1L f ρ = some (l, ρ1)) : lrg1E f ρ = some (.list l, ρ1) := by
  unfold lrg1E; rw [h]
theorem lrg2_ev {f g : FE} {ρ ρ1 : En} {l : List D} (h : rg2L f g ρ = some (l, ρ1)) : lrg2E f g ρ = some (.list l, ρ1) := by
  unfold lrg2E; rw [h]
theorem asg_ev {i : Nat} {f : FE} {ρ ρ1 : En} {d : D} (h : f ρ = some (d, ρ1)) : asgS i f ρ = some (.nx, ρ1.set i (some d)) := by
  unfold asgS; rw [h]
theorem forL_ok {g : FG} {b : FS} {I : En → Prop} : ∀ (l : List D), (∀ d ∈ l, ∀ ρ, I ρ → ∃ ρ1 ρ2, g d ρ = some ρ1 ∧ (b ρ1 = some (.nx, ρ2) ∨ b ρ1 = some (.ct, ρ2)) ∧ I ρ2) → ∀ ρ, I ρ → ∃ ρ', forL g b l ρ = some (.nx, ρ') ∧ I ρ'
  | [], _, ρ, i => ⟨ρ, rfl, i⟩
  | d :: l, h, ρ, i => by
    obtain ⟨ρ1, ρ2, h1, h2, i2⟩ := h d List.mem_cons_self ρ i
    obtain ⟨ρ', h3, i3⟩ := forL_ok l (fun d hd => h d (List.mem_cons_of_mem _ hd)) ρ2 i2
    refine ⟨ρ', ?_, i3⟩
    unfold forL
    rw [h1]
    rcases h2 with h2 | h2 <;> · simp only [h2]; exact h3
/-- a loop that leaves the state as it found it, up to the loop's name -/
theorem lcL_map {g : FG} {e : FE} {vs : List Nat} {F : D → D} {ρ : En} : ∀ (l : List D), (∀ d ∈ l, ∃ ρ1, g d ρ = some ρ1 ∧ ∃ ρ2, e ρ1 = some (F d, ρ2) ∧ wipeE ρ2 vs = ρ) → lcL g yT e vs l ρ = some (l.map F, ρ)
  | [], _ => rfl
  | d :: l, h => by
    obtain ⟨ρ1, h1, ρ2, h2, h3⟩ := h d List.mem_cons_self
    have q := lcL_map l (fun d hd => h d (List.mem_cons_of_mem _ hd))
    unfold lcL
    simp only [h1, show yT ρ1 = some (true, ρ1) from rfl, h2, h3, q]; rfl
theorem set_set (ρ : En) (j : Nat) (a b : Option D) : (ρ.set j a).set j b = ρ.set j b := List.set_set ..
theorem set_back {ρ : En} {j : Nat} (h : j < ρ.length) : (ρ.set j none).set j (ρ.getD j none) = ρ := by
  rw [List.set_set, List.getD_eq_getElem?_getD, List.getElem?_eq_getElem h]; exact List.set_getElem_self h
/-- [e for j in l] -/
theorem lc_map {f : FL} {e : FE} {j : Nat} {ρ ρ0 : En} {l : List D} {F : D → D} (hf : f ρ0 = some (l, ρ)) (hl : l.length ≤ 1000000) (hj : j < ρ.length) (h : ∀ d ∈ l, e (ρ.set j (some d)) = some (F d, ρ.set j (some d))) :
    lcE f (gN j) yT e [j] ρ0 = some (.list (l.map F), ρ) := by
  unfold lcE
  rw [hf]
  have q := lcL_map (g := gN j) (e := e) (vs := [j]) (F := F) (ρ := ρ.set j none) l fun d hd => ⟨_, rfl, _, by rw [List.set_set]; exact h d hd, by
    show (ρ.set j (some d)).set j none = _
    rw [List.set_set]⟩
  simp only [hl, if_true]
  have q' : lcL (gN j) yT e [j] l (wipeE ρ [j]) = some (l.map F, ρ.set j none) := q
  rw [q']
  show some (_, (ρ.set j none).set j (ρ.getD j none)) = _
  rw [set_back hj]
theorem boolsOf_fn (l : List D) (F : D → Bool) : boolsOf (l.map fun d => .bool (F d)) = some (l.map F) := by
  induction l with
  | nil => rfl
  | cons a l ih => simp only [List.map_cons, boolsOf, ih, Option.map_some]
theorem any_lc {f : FL} {e : FE} {j : Nat} {ρ ρ0 : En} {l : List D} {F : D → Bool} (hf : f ρ0 = some (l, ρ)) (hl : l.length ≤ 1000000) (hj : j < ρ.length) (h : ∀ d ∈ l, e (ρ.set j (some d)) = some (.bool (F d), ρ.set j (some d))) :
    clE anyD (consL (lcE f (gN j) yT e [j]) nilL) ρ0 = some (.bool (l.any F), ρ) := by
  unfold clE consL
  rw [lc_map (F := fun d => .bool (F d)) hf hl hj h]
  simp only [nilL, anyD, boolsOf_fn, Option.map_some, List.any_map]
  rfl
theorem all_lc {f : FL} {e : FE} {j : Nat} {ρ ρ0 : En} {l : List D} {F : D → Bool} (hf : f ρ0 = some (l, ρ)) (hl : l.length ≤ 1000000) (hj : j < ρ.length) (h : ∀ d ∈ l, e (ρ.set j (some d)) = some (.bool (F d), ρ.set j (some d))) :
    clE allD (consL (lcE f (gN j) yT e [j]) nilL) ρ0 = some (.bool (l.all F), ρ) := by
  unfold clE consL
  rw [lc_map (F := fun d => .bool (F d)) hf hl hj h]
  simp only [nilL, allD, boolsOf_fn, Option.map_some, List.all_map]
  rfl
/-- comprehensions whose parts draw: an invariant, and what each thing satisfies -/
theorem lcL_ok {g : FG} {e : FE} {vs : List Nat} {I : En → Prop} {P : D → Prop} : ∀ (l : List D), (∀ d ∈ l, ∀ ρ, I ρ → ∃ ρ1, g d ρ = some ρ1 ∧ ∃ y ρ2, e ρ1 = some (y, ρ2) ∧ P y ∧ I (wipeE ρ2 vs)) → ∀ ρ, I ρ → ∃ ys ρ', lcL g yT e vs l ρ = some (ys, ρ') ∧ I ρ' ∧ ys.length = l.length ∧ ∀ y ∈ ys, P y
  | [], _, ρ, i => ⟨[], ρ, rfl, i, rfl, fun y h => by cases h⟩
  | d :: l, h, ρ, i => by
    obtain ⟨ρ1, h1, y, ρ2, h2, hp, i2⟩ := h d List.mem_cons_self ρ i
    obtain ⟨ys, ρ', h3, i3, hl, hy⟩ := lcL_ok l (fun d hd => h d (List.mem_cons_of_mem _ hd)) _ i2
    refine ⟨y :: ys, ρ', ?_, i3, by simp [hl], fun z hz => ?_⟩
    · unfold lcL
      simp only [h1, show yT ρ1 = some (true, ρ1) from rfl, h2, h3]
    · rcases List.mem_cons.mp hz with e | hz
      · subst e; exact hp
      · exact hy z hz
/-- the desk of draws -/
def drD (ns : List Int) (a : Int) : D := .dict [(.str "numbers", .list (ns.map .int)), (.str "at", .int a)]
def Dr (d : D) : Prop := ∃ ns a, d = drD ns a ∧ ns ≠ [] ∧ ns.length < 1073741824 ∧ 0 ≤ a
theorem atI_lt {α : Type} {xs : List α} {i : Int} (h0 : 0 ≤ i) (h1 : i < xs.length) : ∃ x, atI xs i = some x ∧ xs[i.toNat]? = some x := by
  have h2 : i.toNat < xs.length := by omega
  refine ⟨xs[i.toNat], ?_, List.getElem?_eq_getElem h2⟩
  unfold atI ixN
  rw [if_pos h0, if_pos h1]
  exact List.getElem?_eq_getElem h2
theorem atI_nat {α : Type} {xs : List α} {i : Nat} (h1 : i < xs.length) : atI xs (i : Int) = some xs[i] := by
  unfold atI ixN
  rw [if_pos (by omega), if_pos (by omega)]
  exact List.getElem?_eq_getElem h1
/-- the orders that draws without laying back can give -/
def ordersN : Nat → List Int → List (List Int)
  | 0, _ => [[]]
  | n + 1, l => (List.range l.length).flatMap fun i => (ordersN n (l.eraseIdx i)).map ((l.getD i 0) :: ·)
theorem forL_cnt {g : FG} {b : FS} {I : Nat → En → Prop} : ∀ (l : List D) (n : Nat), (∀ d ∈ l, ∀ i ρ, i < n + l.length → I i ρ → ∃ ρ1, g d ρ = some ρ1 ∧ ∃ ρ2, (b ρ1 = some (.nx, ρ2) ∨ b ρ1 = some (.ct, ρ2)) ∧ I (i + 1) ρ2) → ∀ ρ, I n ρ → ∃ ρ', forL g b l ρ = some (.nx, ρ') ∧ I (n + l.length) ρ'
  | [], n, _, ρ, i => ⟨ρ, rfl, i⟩
  | d :: l, n, h, ρ, i => by
    obtain ⟨ρ1, h1, ρ2, h2, i2⟩ := h d List.mem_cons_self n ρ (by simp) i
    obtain ⟨ρ', h3, i3⟩ := forL_cnt l (n + 1) (fun d hd i ρ hi => h d (List.mem_cons_of_mem _ hd) i ρ (by simp only [List.length_cons]; omega)) ρ2 i2
    refine ⟨ρ', ?_, by rw [show n + (d :: l).length = n + 1 + l.length by simp only [List.length_cons]; omega]; exact i3⟩
    unfold forL
    rw [h1]
    rcases h2 with h2 | h2 <;> · simp only [h2]; exact h3
theorem forL_rg {g : FG} {b : FS} {I : Nat → En → Prop} {n : Nat} (lo : Int) (h : ∀ i ρ, i < n → I i ρ → ∃ ρ1, g (.int (lo + i)) ρ = some ρ1 ∧ ∃ ρ2, (b ρ1 = some (.nx, ρ2) ∨ b ρ1 = some (.ct, ρ2)) ∧ I (i + 1) ρ2) : ∀ ρ, I 0 ρ → ∃ ρ', forL g b (rgD lo n) ρ = some (.nx, ρ') ∧ I n ρ' := by
  have key : ∀ m k, m + k = n → ∀ ρ, I m ρ → ∃ ρ', forL g b ((List.range' m k).map fun (i : Nat) => .int (lo + (i : Int))) ρ = some (.nx, ρ') ∧ I n ρ' := by
    intro m k
    induction k generalizing m with
    | zero => intro e ρ i; rw [show m = n by omega] at i; exact ⟨ρ, rfl, i⟩
    | succ k ih =>
      intro e ρ i
      obtain ⟨ρ1, h1, ρ2, h2, i2⟩ := h m ρ (by omega) i
      obtain ⟨ρ', h3, i3⟩ := ih (m + 1) (by omega) ρ2 i2
      refine ⟨ρ', ?_, i3⟩
      rw [List.range'_succ, List.map_cons]
      unfold forL
      rw [h1]
      rcases h2 with h2 | h2 <;> · simp only [h2]; exact h3
  intro ρ i
  have q := key 0 n (by omega) ρ i
  rw [← List.range_eq_range'] at q
  exact q
/-! ## what a part ends with -/
def Post (f : FS) (ρ : En) (Q : Fl → En → Prop) : Prop := ∃ fl ρ', f ρ = some (fl, ρ') ∧ Q fl ρ'
theorem po_nx {ρ : En} {Q : Fl → En → Prop} (h : Q .nx ρ) : Post nxS ρ Q := ⟨.nx, ρ, rfl, h⟩
theorem po_seq {f g : FS} {ρ ρ1 : En} {Q : Fl → En → Prop} (h : f ρ = some (.nx, ρ1)) (k : Post g ρ1 Q) : Post (seqS f g) ρ Q := by
  obtain ⟨fl, ρ', e, q⟩ := k
  exact ⟨fl, ρ', (seq_nx h).trans e, q⟩
theorem po_asg {i : Nat} {f : FE} {g : FS} {ρ ρ1 : En} {d : D} {Q : Fl → En → Prop} (h : f ρ = some (d, ρ1)) (k : Post g (ρ1.set i (some d)) Q) : Post (seqS (asgS i f) g) ρ Q := po_seq (asg_ev h) k
theorem po_ret {f : FE} {g : FS} {ρ ρ1 : En} {d : D} {Q : Fl → En → Prop} (h : f ρ = some (d, ρ1)) (q : Q (.rt d) ρ1) : Post (seqS (retS f) g) ρ Q := ⟨.rt d, ρ1, by unfold seqS retS; rw [h], q⟩
theorem po_if0 {c : FT} {a b : FS} {ρ ρ1 : En} {Q : Fl → En → Prop} (h : c ρ = some (false, ρ1)) (k : Post b ρ1 Q) : Post (seqS (ifS c a nxS) b) ρ Q := po_seq (by unfold ifS; rw [h]; rfl) k
theorem po_if {c : FT} {a a' b : FS} {ρ ρ1 : En} {v : Bool} {Q : Fl → En → Prop} (h : c ρ = some (v, ρ1)) (k1 : v = true → Post (seqS a b) ρ1 Q) (k0 : v = false → Post (seqS a' b) ρ1 Q) : Post (seqS (ifS c a a') b) ρ Q := by
  cases v with
  | true =>
    obtain ⟨fl, ρ', e, q⟩ := k1 rfl
    refine ⟨fl, ρ', ?_, q⟩
    rw [← e]
    unfold seqS ifS
    rw [h]
  | false =>
    obtain ⟨fl, ρ', e, q⟩ := k0 rfl
    refine ⟨fl, ρ', ?_, q⟩
    rw [← e]
    unfold seqS ifS
    rw [h]
theorem po_for {f : FL} {g : FG} {b c : FS} {ρ ρ1 : En} {l : List D} {Q : Fl → En → Prop} {I : En → Prop} (hf : f ρ = some (l, ρ1)) (i : I ρ1) (hb : ∀ d ∈ l, ∀ ρ, I ρ → ∃ ρ2, g d ρ = some ρ2 ∧ Post b ρ2 fun fl ρ3 => (fl = .nx ∨ fl = .ct) ∧ I ρ3) (k : ∀ ρ, I ρ → Post c ρ Q) : Post (seqS (forS f g b) c) ρ Q := by
  obtain ⟨ρ', e, i'⟩ := forL_ok (g := g) (b := b) (I := I) l (fun d hd ρ i => by
    obtain ⟨ρ2, e2, fl, ρ3, e3, q1, q2⟩ := hb d hd ρ i
    refine ⟨ρ2, ρ3, e2, ?_, q2⟩
    rcases q1 with q1 | q1 <;> subst q1
    · exact .inl e3
    · exact .inr e3) ρ1 i
  exact po_seq (for_nx hf e) (k ρ' i')
theorem po_for_nx {f : FL} {g : FG} {b c : FS} {ρ ρ1 ρ' : En} {l : List D} {Q : Fl → En → Prop} (hf : f ρ = some (l, ρ1)) (h : forL g b l ρ1 = some (.nx, ρ')) (k : Post c ρ' Q) : Post (seqS (forS f g b) c) ρ Q := po_seq (for_nx hf h) k
theorem po_for_rt {f : FL} {g : FG} {b c : FS} {ρ ρ1 ρ' : En} {l : List D} {d : D} {Q : Fl → En → Prop} (hf : f ρ = some (l, ρ1)) (h : forL g b l ρ1 = some (.rt d, ρ')) (k : Q (.rt d) ρ') : Post (seqS (forS f g b) c) ρ Q := ⟨.rt d, ρ', by unfold seqS forS; rw [hf]; show (match forL g b l ρ1 with | none => none | some (.nx, ρ1) => c ρ1 | some (.bk, ρ1) => some (Fl.bk, ρ1) | some (.ct, ρ1) => some (Fl.ct, ρ1) | some (.rt d, ρ1) => some (Fl.rt d, ρ1)) = _; rw [h], k⟩
/-- a def whose body ends so -/
theorem defM_po {n : Nat} {ms : List Md} {rm : Md} {b : FS} {ds : List D} {P : D → Prop} (h : Post b (ds.map some ++ List.replicate (n - ds.length) none) fun fl _ => ∃ d, fl = .rt d ∧ P d) (hl : ds.length = ms.length := by rfl) : ∃ d o, defM n ms rm b ds = some (d, o) ∧ P d := by
  obtain ⟨fl, ρ', e, d, rfl, p⟩ := h
  exact ⟨d, _, defM_rt e hl, p⟩
theorem lc_ok {f : FL} {e : FE} {j : Nat} {ρ ρ0 : En} {l : List D} {I : En → Prop} {P : D → Prop} (hf : f ρ0 = some (l, ρ)) (hl : l.length ≤ 1000000) (i : I (ρ.set j none)) (h : ∀ d ∈ l, ∀ ρ, I ρ → ∃ y ρ2, e (ρ.set j (some d)) = some (y, ρ2) ∧ P y ∧ I (ρ2.set j none)) :
    ∃ ys ρ', lcE f (gN j) yT e [j] ρ0 = some (.list ys, ρ'.set j (ρ.getD j none)) ∧ I ρ' ∧ ys.length = l.length ∧ ∀ y ∈ ys, P y := by
  obtain ⟨ys, ρ', e1, i', h1, h2⟩ := lcL_ok (g := gN j) (e := e) (vs := [j]) (I := I) (P := P) l (fun d hd ρ i => by
    obtain ⟨y, ρ2, e2, p, i2⟩ := h d hd ρ i
    exact ⟨_, rfl, y, ρ2, e2, p, i2⟩) _ i
  refine ⟨ys, ρ', ?_, i', h1, h2⟩
  unfold lcE
  rw [hf]
  simp only [hl, if_true]
  have q : lcL (gN j) yT e [j] l (wipeE ρ [j]) = some (ys, ρ') := e1
  rw [q]
  rfl
theorem rg_mem {n : Nat} {d : D} (h : d ∈ rgD 0 n) : ∃ i : Nat, i < n ∧ d = .int i := by
  obtain ⟨i, hi, rfl⟩ := List.mem_map.mp h
  exact ⟨i, List.mem_range.mp hi, by rw [Int.zero_add]⟩
/-- the answer true, told by a test that the kernel runs -/
def saysT (o : Option (D × En)) : Bool := match o with
  | some (.bool b, _) => b
  | _ => false
theorem saysT_ok {o : Option (D × En)} (h : saysT o = true) : ∃ z, o = some (.bool true, z) := by
  unfold saysT at h
  split at h
  · subst h; exact ⟨_, rfl⟩
  · cases h
/-- two answers alike, told by a test -/
def bothB (u v : Option (D × En)) : Bool := match u, v with | some (.bool a, _), some (.bool b, _) => a == b | _, _ => false
theorem bothB_ok {u v : Option (D × En)} (a : bothB u v = true) : ∃ x o1 o2, u = some (.bool x, o1) ∧ v = some (.bool x, o2) := by
  unfold bothB at a
  split at a
  · rename_i x ox y oy
    have e : x = y := by simpa using a
    subst e
    exact ⟨_, _, _, rfl, rfl⟩
  · cases a
def boolOf (u : Option (D × En)) : Bool := match u with | some (.bool b, _) => b | _ => false
def foundB (u : Option (D × En)) (b : Bool) : Bool := match u with | some (v, _) => isNone v == !b | _ => false
theorem foundB_ok {u : Option (D × En)} {b : Bool} (a : foundB u b = true) : ∃ v o, u = some (v, o) ∧ isNone v = !b := by
  unfold foundB at a
  split at a
  · exact ⟨_, _, rfl, by simpa using a⟩
  · cases a
end BV

set_option Elab.async false
set_option linter.all false
set_option maxRecDepth 100000
set_option maxHeartbeats 4000000
namespace BV
open PySem PySem.Spec L2
/-! ## expressions, one by one -/
theorem op_ev {o : D → D → Option D} {fa fb : FE} {ρ ρ1 ρ2 : En} {x y z : D} (ha : fa ρ = some (x, ρ1)) (hb : fb ρ1 = some (y, ρ2)) (h : o x y = some z) : opE o fa fb ρ = some (z, ρ2) := by
  unfold opE; rw [ha]; dsimp only; rw [hb]; dsimp only; rw [h]
theorem c0_ev {M : List D → Option (D × En)} {f : FL} {ρ ρ1 o : En} {ds : List D} {d : D} (h : f ρ = some (ds, ρ1)) (hm : M ds = some (d, o)) : callE0 M f ρ = some (d, ρ1) := by
  unfold callE0; rw [h]; dsimp only; rw [hm]
theorem cl_ev {f : FE} {g : FL} {ρ ρ1 ρ2 : En} {d : D} {ds : List D} (h : f ρ = some (d, ρ1)) (hg : g ρ1 = some (ds, ρ2)) : consL f g ρ = some (d :: ds, ρ2) := by
  unfold consL; rw [h]; dsimp only; rw [hg]
theorem bE_ev {f : FE} {ρ ρ1 : En} {b : Bool} (h : f ρ = some (.bool b, ρ1)) : bE f ρ = some (b, ρ1) := by
  unfold bE; rw [h]
theorem not_ev {f : FE} {ρ ρ1 : En} {b : Bool} (h : f ρ = some (.bool b, ρ1)) : notE f ρ = some (.bool (!b), ρ1) := by
  unfold notE; rw [h]
theorem nT_ev {f : FT} {ρ ρ1 : En} {b : Bool} (h : f ρ = some (b, ρ1)) : notT f ρ = some (!b, ρ1) := by
  unfold notT; rw [h]
theorem orT_ev {f g : FT} {ρ ρ1 ρ2 : En} {b : Bool} (h : f ρ = some (false, ρ1)) (h2 : g ρ1 = some (b, ρ2)) : orT f g ρ = some (b, ρ2) := by
  unfold orT; rw [h]; exact h2
theorem c1_ev {M : List D → Option (D × En)} {i p : Nat} {f : FA} {ρ ρ1 o : En} {ods : List (Option D)} {dx d : D} (h : f ρ = some (ods, ρ1)) (hx : ρ1[i]? = some (some dx)) (ok : okA p ods = true) (hm : M (ods.map (·.getD dx)) = some (d, o)) : callE1 M i p f ρ = some (d, ρ1.set i (o.getD p none)) := by
  unfold callE1; rw [h]; dsimp only; rw [hx]; dsimp only; rw [if_pos ok, hm]
theorem c1_to {M : List D → Option (D × En)} {i p : Nat} {f : FA} {ρ ρ1 o ρ' : En} {ods : List (Option D)} {dx d : D} (h : f ρ = some (ods, ρ1)) (hx : ρ1[i]? = some (some dx)) (ok : okA p ods = true) (hm : M (ods.map (·.getD dx)) = some (d, o)) (hs : ρ1.set i (o.getD p none) = ρ') : callE1 M i p f ρ = some (d, ρ') := by
  rw [c1_ev h hx ok hm, hs]
theorem cA_ev {f : FE} {g : FA} {ρ ρ1 ρ2 : En} {d : D} {ds : List (Option D)} (h : f ρ = some (d, ρ1)) (hg : g ρ1 = some (ds, ρ2)) : consA f g ρ = some (some d :: ds, ρ2) := by
  unfold consA; rw [h]; dsimp only; rw [hg]
theorem io_ev {i : Nat} {g : FA} {ρ ρ2 : En} {dx : D} {ds : List (Option D)} (hx : ρ[i]? = some (some dx)) (hg : g ρ = some (ds, ρ2)) : ioA' i g ρ = some (none :: ds, ρ2) := by
  unfold ioA'; rw [hx]; dsimp only; rw [hg]
theorem ce_ev {o : List D → Option D} {f : FL} {ρ ρ1 : En} {ds : List D} {d : D} (h : f ρ = some (ds, ρ1)) (ho : o ds = some d) : clE o f ρ = some (d, ρ1) := by
  unfold clE; rw [h]; dsimp only; rw [ho]
end BV

set_option Elab.async false
set_option linter.all false
set_option maxRecDepth 100000
set_option maxHeartbeats 4000000
namespace BV
open PySem PySem.Spec L2
theorem lcL_filt {g : FG} {t : FT} {e : FE} {vs : List Nat} {p : D → Bool} {F : D → D} {ρ : En} : ∀ (l : List D), (∀ d ∈ l, ∃ ρ1, g d ρ = some ρ1 ∧ t ρ1 = some (p d, ρ1) ∧ e ρ1 = some (F d, ρ1) ∧ wipeE ρ1 vs = ρ) → lcL g t e vs l ρ = some ((l.filter p).map F, ρ)
  | [], _ => rfl
  | d :: l, h => by
    obtain ⟨ρ1, h1, h2, h3, h4⟩ := h d List.mem_cons_self
    have q := lcL_filt l (fun d hd => h d (List.mem_cons_of_mem _ hd))
    unfold lcL
    cases hp : p d with
    | true =>
      rw [hp] at h2
      simp only [h1, h2, h3, h4, q, List.filter_cons_of_pos hp, List.map_cons]
    | false =>
      rw [hp] at h2
      have hn : ¬ p d = true := by rw [hp]; decide
      simp only [h1, h2, h4, q, List.filter_cons_of_neg hn]
/-- [e(j) for j in l if t(j)] -/
theorem lc_filt {f : FL} {t : FT} {e : FE} {j : Nat} {ρ ρ0 : En} {l : List D} {p : D → Bool} {F : D → D} (hf : f ρ0 = some (l, ρ)) (hl : l.length ≤ 1000000) (hj : j < ρ.length) (h : ∀ d ∈ l, t (ρ.set j (some d)) = some (p d, ρ.set j (some d)) ∧ e (ρ.set j (some d)) = some (F d, ρ.set j (some d))) :
    lcE f (gN j) t e [j] ρ0 = some (.list ((l.filter p).map F), ρ) := by
  unfold lcE
  rw [hf]
  have q := lcL_filt (g := gN j) (t := t) (e := e) (vs := [j]) (p := p) (F := F) (ρ := ρ.set j none) l fun d hd => ⟨_, rfl, by rw [List.set_set]; exact (h d hd).1, by rw [List.set_set]; exact (h d hd).2, by
    show ((ρ.set j none).set j (some d)).set j none = _
    rw [List.set_set, List.set_set]⟩
  simp only [hl, if_true]
  have q' : lcL (gN j) t e [j] l (wipeE ρ [j]) = some ((l.filter p).map F, ρ.set j none) := q
  rw [q']
  show some (_, (ρ.set j none).set j (ρ.getD j none)) = _
  rw [set_back hj]
theorem lc_filt0 {f : FL} {t : FT} {j : Nat} {ρ ρ0 : En} {l : List D} {p : D → Bool} (hf : f ρ0 = some (l, ρ)) (hl : l.length ≤ 1000000) (hj : j < ρ.length) (h : ∀ d ∈ l, t (ρ.set j (some d)) = some (p d, ρ.set j (some d))) :
    lcE f (gN j) t (varE j) [j] ρ0 = some (.list (l.filter p), ρ) := by
  have q := lc_filt (F := fun d => d) (e := varE j) hf hl hj fun d hd => ⟨h d hd, by
    have e : (ρ.set j (some d))[j]? = some (some d) := by rw [List.getElem?_set_self hj]
    unfold varE; rw [e]⟩
  rw [List.map_id'] at q
  exact q
theorem rgD_succ (lo : Int) (n : Nat) : rgD lo (n + 1) = .int lo :: rgD (lo + 1) n := by
  unfold rgD
  rw [List.range_succ_eq_map, List.map_cons, List.map_map]
  congr 1
  · simp
  · refine List.map_congr_left fun a _ => ?_
    show PyData.int _ = PyData.int _
    congr 1
    show lo + ((a + 1 : Nat) : Int) = lo + 1 + a
    omega
theorem rgD_len (lo : Int) (n : Nat) : (rgD lo n).length = n := by simp [rgD]
/-- filtering a range by a test on its numbers -/
theorem rgD_filter (n : Nat) (p : D → Bool) : (rgD 0 n).filter p = ((List.range n).filter fun (k : Nat) => p (.int (k : Int))).map fun (k : Nat) => PyData.int (k : Int) := by
  unfold rgD
  rw [List.filter_map]
  have e : ∀ l : List Nat, l.map (fun (i : Nat) => PyData.int (0 + (i : Int))) = l.map fun (k : Nat) => PyData.int (k : Int) := fun l => List.map_congr_left fun a _ => by rw [Int.zero_add]
  rw [e]
  congr 1
  refine List.filter_congr fun a _ => ?_
  show p (.int (0 + (a : Int))) = _
  rw [Int.zero_add]
end BV

set_option Elab.async false
set_option linter.all false
set_option maxRecDepth 100000
set_option maxHeartbeats 4000000
namespace BV
open PySem PySem.Spec L2
theorem ix_ev {fa fb : FE} {ρ ρ1 ρ2 : En} {xs : List D} {i : Int} {z : D} (ha : fa ρ = some (.list xs, ρ1)) (hb : fb ρ1 = some (.int i, ρ2)) (h : atI xs i = some z) : opE ixD fa fb ρ = some (z, ρ2) := op_ev ha hb h
theorem ixt_ev {fa fb : FE} {ρ ρ1 ρ2 : En} {xs : List D} {i : Int} {z : D} (ha : fa ρ = some (.tuple xs, ρ1)) (hb : fb ρ1 = some (.int i, ρ2)) (h : atI xs i = some z) : opE ixD fa fb ρ = some (z, ρ2) := op_ev ha hb h
theorem atI_get {α : Type} {xs : List α} {i : Nat} {x : α} (h : xs[i]? = some x) : atI xs (i : Int) = some x := by
  have hl := (List.getElem?_eq_some_iff.mp h).1
  unfold atI ixN
  rw [if_pos (by omega), if_pos (by omega)]
  exact h
theorem atI_last {α : Type} {xs : List α} {x : α} (h : xs.getLast? = some x) : atI xs (-1 : Int) = some x := by
  cases xs with
  | nil => cases h
  | cons y ys =>
    unfold atI ixN
    rw [if_neg (by omega), if_pos (by simp only [List.length_cons]; omega)]
    rw [List.getLast?_eq_getElem?] at h
    rw [show ((-1 : Int) + ((y :: ys).length : Nat)).toNat = (y :: ys).length - 1 by simp only [List.length_cons]; omega]
    exact h
/-- x[:i], x[i:] of a list -/
theorem slhi_ev {f g : FE} {ρ ρ1 ρ2 : En} {xs : List D} {i : Nat} (hf : f ρ = some (.list xs, ρ1)) (hg : g ρ1 = some (.int (i : Int), ρ2)) : slE f noO (atO g) ρ = some (.list (xs.take i), ρ2) := by
  unfold slE
  rw [hf]
  show (match atO g ρ1 with | none => none | some (hi, ρ3) => match slD (.list xs) none hi with | none => none | some e => some (e, ρ3)) = _
  unfold atO
  rw [hg]
  show some (PyData.list (cutD xs none (some (i : Int))), ρ2) = _
  unfold cutD
  rw [HT.sIx_none, HT.sIx_nat, List.drop_zero, Nat.sub_zero]
  congr 3
  rw [Nat.min_comm]
  by_cases h : i ≤ xs.length
  · rw [Nat.min_eq_right h]
  · rw [Nat.min_eq_left (by omega), List.take_of_length_le (Nat.le_refl _), List.take_of_length_le (by omega)]
theorem sllo_ev {f g : FE} {ρ ρ1 ρ2 : En} {xs : List D} {i : Nat} (hf : f ρ = some (.list xs, ρ1)) (hg : g ρ1 = some (.int (i : Int), ρ2)) : slE f (atO g) noO ρ = some (.list (xs.drop i), ρ2) := by
  unfold slE
  rw [hf]
  show (match atO g ρ1 with | none => none | some (lo, ρ2) => match noO ρ2 with | none => none | some (hi, ρ3) => match slD (.list xs) lo hi with | none => none | some e => some (e, ρ3)) = _
  unfold atO
  rw [hg]
  show some (PyData.list (cutD xs (some (i : Int)) none), ρ2) = _
  unfold cutD
  rw [HT.sIx_none, HT.sIx_nat]
  congr 3
  by_cases h : i ≤ xs.length
  · rw [Nat.min_eq_left h]
    exact List.take_of_length_le (by rw [List.length_drop]; omega)
  · rw [Nat.min_eq_right (by omega), List.drop_of_length_le (Nat.le_refl _), List.drop_of_length_le (by omega), List.take_nil]
theorem ad_ev {fa fb : FE} {ρ ρ1 ρ2 : En} {xs ys : List D} (ha : fa ρ = some (.list xs, ρ1)) (hb : fb ρ1 = some (.list ys, ρ2)) (hl : xs.length + ys.length ≤ 1000000) : opE addD fa fb ρ = some (.list (xs ++ ys), ρ2) := op_ev ha hb (if_pos hl)
theorem len_ev {f : FE} {ρ ρ1 : En} {xs : List D} (h : f ρ = some (.list xs, ρ1)) : clE lenD (consL f nilL) ρ = some (.int xs.length, ρ1) := ce_ev (cl_ev h rfl) rfl
theorem lst_ev {f : FL} {ρ ρ1 : En} {ds : List D} (h : f ρ = some (ds, ρ1)) (hl : ds.length ≤ 1000000 := by simp) : lstE f ρ = some (.list ds, ρ1) := by
  unfold lstE; rw [h]; exact if_pos hl
theorem chain_ev {o o' : D → D → Option D} {fa fb fc : FE} {ρ ρ1 ρ2 ρ3 : En} {x y z : D} {p q : Bool} (ha : fa ρ = some (x, ρ1)) (hb : fb ρ1 = some (y, ρ2)) (hc : fc ρ2 = some (z, ρ3)) (e : ρ3 = ρ2) (h1 : o x y = some (.bool p)) (h2 : o' y z = some (.bool q)) : chainE o o' fa fb fc ρ = some (.bool (p && q), ρ2) := by
  subst e
  unfold chainE
  rw [ha]; dsimp only; rw [hb]; dsimp only; rw [h1]
  cases p with
  | false => rfl
  | true => dsimp only; rw [hc]; dsimp only; rw [h2]; rfl
theorem if_ev {c : FT} {f g : FE} {ρ ρ1 ρ2 : En} {b : Bool} {d : D} (hc : c ρ = some (b, ρ1)) (h : (if b = true then f else g) ρ1 = some (d, ρ2)) : ifE c f g ρ = some (d, ρ2) := by
  unfold ifE; rw [hc]
  cases b <;> exact h
theorem po_asgG {f : FE} {g : FG} {b : FS} {ρ ρ1 ρ2 : En} {d : D} {Q : Fl → En → Prop} (h : f ρ = some (d, ρ1)) (hg : g d ρ1 = some ρ2) (k : Post b ρ2 Q) : Post (seqS (asgG f g) b) ρ Q := po_seq (by unfold asgG; rw [h]; dsimp only; rw [hg]) k
theorem if0_ev {c : FT} {a : FS} {ρ ρ1 : En} (h : c ρ = some (false, ρ1)) : ifS c a nxS ρ = some (.nx, ρ1) := by unfold ifS; rw [h]; rfl
theorem if1_nx {c : FT} {a b : FS} {ρ ρ1 ρ2 : En} (h : c ρ = some (true, ρ1)) (ha : a ρ1 = some (.nx, ρ2)) : ifS c (seqS a nxS) b ρ = some (.nx, ρ2) := by
  unfold ifS
  rw [h]
  exact (seq_nx ha).trans rfl
theorem if1_ret {c : FT} {f : FE} {a b r : FS} {ρ ρ1 ρ2 : En} {d : D} (h : c ρ = some (true, ρ1)) (hf : f ρ1 = some (d, ρ2)) : seqS (ifS c (seqS (retS f) a) b) r ρ = some (.rt d, ρ2) := by
  unfold seqS ifS
  rw [h]
  dsimp only
  unfold retS
  rw [hf]
theorem forL_cons {g : FG} {b : FS} {d : D} {l : List D} {ρ ρ1 ρ2 : En} (h1 : g d ρ = some ρ1) (h2 : b ρ1 = some (.nx, ρ2)) : forL g b (d :: l) ρ = forL g b l ρ2 := by
  conv => lhs; unfold forL
  rw [h1]; dsimp only; rw [h2]
theorem forL_ret {g : FG} {b : FS} {d x : D} {l : List D} {ρ ρ1 ρ2 : En} (h1 : g d ρ = some ρ1) (h2 : b ρ1 = some (.rt x, ρ2)) : forL g b (d :: l) ρ = some (.rt x, ρ2) := by
  unfold forL
  rw [h1]; dsimp only; rw [h2]
end BV

set_option Elab.async false
set_option linter.all false
set_option maxRecDepth 100000
set_option maxHeartbeats 4000000
namespace BV
open PySem PySem.Spec L2
/-! ## data without dicts, and how deep -/
def Nice : Nat → D → Prop
  | 0, _ => False
  | _ + 1, .none => True
  | _ + 1, .bool _ => True
  | _ + 1, .int _ => True
  | _ + 1, .str s => PyData.canLay0 (.str s) = true
  | n + 1, .list ds => ds.length ≤ 1000000 ∧ ∀ d ∈ ds, Nice n d
  | n + 1, .tuple ds => ds.length ≤ 1000000 ∧ ∀ d ∈ ds, Nice n d
  | _ + 1, .dict _ => False
theorem nice_all {n : Nat} : ∀ {ds : List D}, (∀ d ∈ ds, PyData.canLay0 d = true ∧ PyData.depth d ≤ n) → PyData.canLayAll0 ds = true ∧ PyData.depthAll ds ≤ n
  | [], _ => ⟨rfl, Nat.zero_le _⟩
  | d :: ds, h => by
    obtain ⟨h1, h2⟩ := h d List.mem_cons_self
    obtain ⟨h3, h4⟩ := nice_all (ds := ds) fun d hd => h d (List.mem_cons_of_mem _ hd)
    refine ⟨?_, ?_⟩
    · unfold PyData.canLayAll0; rw [h1, h3]; rfl
    · unfold PyData.depthAll; omega
theorem nice_lay : ∀ (n : Nat) (d : D), Nice n d → PyData.canLay0 d = true ∧ PyData.depth d ≤ n
  | 0, _, h => h.elim
  | _ + 1, .none, _ => ⟨rfl, Nat.zero_le _⟩
  | _ + 1, .bool _, _ => ⟨rfl, Nat.zero_le _⟩
  | _ + 1, .int _, _ => ⟨rfl, Nat.zero_le _⟩
  | _ + 1, .str s, h => ⟨h, Nat.zero_le _⟩
  | n + 1, .list ds, h => by
    obtain ⟨h1, h2⟩ := nice_all fun d hd => nice_lay n d (h.2 d hd)
    exact ⟨h1, Nat.succ_le_succ h2⟩
  | n + 1, .tuple ds, h => by
    obtain ⟨h1, h2⟩ := nice_all fun d hd => nice_lay n d (h.2 d hd)
    exact ⟨h1, Nat.succ_le_succ h2⟩
theorem nice_shaped {n : Nat} {d : D} (h : Nice n d) (hn : n ≤ 64) : SeqAt.shaped d = true := by
  obtain ⟨h1, h2⟩ := nice_lay n d h
  unfold SeqAt.shaped
  rw [h1, Bool.true_and]
  exact decide_eq_true (by omega)
mutual
theorem eqv_refl : ∀ d : D, PyData.canLay0 d = true → PyData.eqv d d = true
  | .none, _ => rfl
  | .bool b, _ => by show (b == b) = true; exact beq_self_eq_true b
  | .int i, _ => by show (i == i) = true; exact beq_self_eq_true i
  | .str s, _ => by show (s == s) = true; exact beq_self_eq_true s
  | .list ds, h => eqvAll_refl ds h
  | .tuple ds, h => eqvAll_refl ds h
  | .dict _, h => by cases h
theorem eqvAll_refl : ∀ ds : List D, PyData.canLayAll0 ds = true → PyData.eqvAll ds ds = true
  | [], _ => rfl
  | d :: ds, h => by
    have h' : (PyData.canLay0 d && PyData.canLayAll0 ds) = true := h
    obtain ⟨h1, h2⟩ := Bool.and_eq_true_iff.mp h'
    show (PyData.eqv d d && PyData.eqvAll ds ds) = true
    rw [eqv_refl d h1, eqvAll_refl ds h2]; rfl
end
theorem eq_refl_ev {n : Nat} {d : D} (h : Nice n d) (hn : n ≤ 64) : eqD d d = some (.bool true) := by
  unfold eqD
  rw [if_pos ⟨nice_shaped h hn, nice_shaped h hn⟩, eqv_refl d (nice_lay n d h).1]
theorem eqv_ints : ∀ a b : List Int, PyData.eqvAll (a.map .int) (b.map .int) = decide (a = b)
  | [], [] => by simp [PyData.eqvAll]
  | [], _ :: _ => by simp [PyData.eqvAll]
  | _ :: _, [] => by simp [PyData.eqvAll]
  | x :: a, y :: b => by
    show ((x == y) && PyData.eqvAll (a.map .int) (b.map .int)) = _
    rw [eqv_ints a b]
    by_cases h : x = y <;> by_cases h2 : a = b <;> simp [h, h2]
theorem and_evT {f g : FE} {ρ ρ1 ρ2 : En} {d : D} (h : f ρ = some (.bool true, ρ1)) (h2 : g ρ1 = some (d, ρ2)) : andE f g ρ = some (d, ρ2) := by
  unfold andE; rw [h]; exact h2
/-- what stands behind a return is never run -/
theorem po_seq_ret {a b : FS} {ρ : En} {d : D} (h : Post a ρ fun fl _ => fl = .rt d) : Post (seqS a b) ρ fun fl _ => fl = .rt d := by
  obtain ⟨fl, ρ', e, rfl⟩ := h
  exact ⟨_, ρ', by unfold seqS; rw [e], rfl⟩
theorem nice_ints {n : Nat} {ns : List Int} (h : ns.length ≤ 1000000) : Nice (n + 2) (.list (ns.map .int)) := by
  refine ⟨by rw [List.length_map]; exact h, fun d hd => ?_⟩
  obtain ⟨i, _, rfl⟩ := List.mem_map.mp hd
  trivial
end BV

set_option Elab.async false
set_option linter.all false
set_option maxRecDepth 100000
set_option maxHeartbeats 4000000
namespace My
open PySem PySem.Spec L2 BV
def top (i : Nat) : Stmt := PySem.Challenge.pw_orderyards_k37_whole_deeds_that_make_ord.main.body.getD i (.Pass ⟨0, 0, 0, 0⟩)
abbrev s__law_draws : Stmt := top 4
abbrev s__law_next : Stmt := top 5
abbrev s__law_order : Stmt := top 9
abbrev s__law_copy : Stmt := top 8
abbrev s_deeds_of : Stmt := top 1
abbrev s_order_of_deeds : Stmt := top 2
abbrev s__law_same : Stmt := top 7
abbrev s__law_pick : Stmt := top 6
abbrev s__law_deeds : Stmt := top 11
abbrev s__law_done : Stmt := top 10
abbrev s_law : Stmt := top 12
def B__law_draws : FS :=
  (seqS (asgS 1 (cE (.list [])))
  (seqS (forS (seqL (opE addD (clE listD (consL (slScr 0 noO (atO (cE (.int 8)))) nilL)) (lstE (consL (cE (.int 7)) nilL)))) (gN 2)
  (seqS (asgS 3 (clE absD (consL (clE intD (consL (varE 2) nilL)) nilL)))
  (seqS (asgS 4 (opE addD (opE modD (clE intD (consL (varE 2) nilL)) (cE (.int 1000003))) (cE (.int 1))))
  (seqS (forS (rg1L (cE (.int 40))) (gN 5)
  (seqS (ifS (bE (opE geD (varE 3) (cE (.int 1048576))))
  (seqS (appS 1 (opE modD (clE intD (consL (varE 3) nilL)) (cE (.int 1048576))))
  (seqS (asgS 3 (opE fdivD (varE 3) (cE (.int 1048576))))
  nxS))
  (seqS (asgS 4 (opE modD (clE intD (consL (opE addD (opE addD (opE addD (opE mulD (varE 4) (cE (.int 48271))) (opE mulD (cE (.int 11)) (varE 5))) (cE (.int 7))) (varE 3)) nilL)) (cE (.int 2147483647))))
  (seqS (appS 1 (opE modD (clE intD (consL (opE fdivD (opE mulD (varE 4) (cE (.int 2862933555777941757))) (cE (.int 1024))) nilL)) (cE (.int 1048576))))
  nxS)))
  nxS))
  nxS))))
  (seqS (retS (dispE [((cE (.str ("numbers" : Str))), (varE 1)), ((cE (.str ("at" : Str))), (cE (.int 0)))]))
  nxS)))
def M__law_draws : List D → Option (D × En) := defM 6 [.scr] .dct B__law_draws
abbrev N__law_draws : List Str := ["script", "numbers", "cell", "rest", "mixed", "k"]
def B__law_next : FS :=
  (seqS (asgS 2 (clE intD (consL (dgetO 0 (cE (.str ("at" : Str)))) nilL)))
  (seqS (dputS 0 (opE addD (varE 2) (cE (.int 1))) (cE (.str ("at" : Str))))
  (seqS (retS (opE modD (clE intD (consL (opE addD (opE ixD (dgetO 0 (cE (.str ("numbers" : Str)))) (opE modD (varE 2) (clE lenD (consL (dgetO 0 (cE (.str ("numbers" : Str)))) nilL)))) (opE mulD (cE (.int 31)) (opE fdivD (varE 2) (clE lenD (consL (dgetO 0 (cE (.str ("numbers" : Str)))) nilL))))) nilL)) (varE 1)))
  nxS)))
def M__law_next : List D → Option (D × En) := defM 3 [.dct, .val] .val B__law_next
abbrev N__law_next : List Str := ["draws", "bound", "at"]
def B__law_order : FS :=
  (seqS (asgS 2 (lrg2E (cE (.int 1)) (opE addD (varE 1) (cE (.int 1)))))
  (seqS (asgS 3 (cE (.list [])))
  (seqS (forS (rg1L (varE 1)) (gN 4)
  (seqS (appS 3 (popAtE 2 (callE1 M__law_next 0 0 (ioA' 0 (consA (borE (clE lenD (consL (varE 2) nilL))) nilA)))))
  nxS))
  (seqS (retS (varE 3))
  nxS))))
def M__law_order : List D → Option (D × En) := defM 5 [.dct, .val] .val B__law_order
abbrev N__law_order : List Str := ["draws", "many", "left", "found", "turn"]
def B__law_copy (self : List D → Option (D × En)) : FS :=
  (seqS (ifS (bE (isiE .list (varE 0)))
  (seqS (retS (lcE (seqL (varE 0)) (gN 1) yT (callE0 self (consL (varE 1) nilL)) [1]))
  nxS)
  nxS)
  (seqS (ifS (bE (isiE .tuple (varE 0)))
  (seqS (retS (clE tupleD (consL (lcE (seqL (varE 0)) (gN 1) yT (callE0 self (consL (varE 1) nilL)) [1]) nilL)))
  nxS)
  nxS)
  (seqS (ifS (bE (isiE .dict (varE 0)))
  (seqS (retS deadE)
  nxS)
  nxS)
  (seqS (retS (varE 0))
  nxS))))
def M__law_copy : Nat → List D → Option (D × En)
  | 0 => fun _ => none
  | n + 1 => defM 3 [.val] .val (B__law_copy (M__law_copy n))
abbrev N__law_copy : List Str := ["thing", "part", "key"]
def B_deeds_of : FS :=
  (seqS (asgS 1 (cE (.list [])))
  (seqS (asgS 2 (dcE (rg1L (clE lenD (consL (varE 0) nilL))) (gN 5) yT (opE ixD (varE 0) (varE 5)) (varE 5) [5]))
  (seqS (asgS 3 (lstE (consL (tupE (consL (cE (.int 0)) (consL (clE lenD (consL (varE 0) nilL)) nilL))) nilL)))
  (seqS (forS (rg2L (cE (.int 1)) (opE addD (clE lenD (consL (varE 0) nilL)) (cE (.int 1)))) (gN 4)
  (seqS (asgS 5 (dgetO 2 (varE 4)))
  (seqS (asgS 6 (opE ixD (lcE (rg1L (clE lenD (consL (varE 3) nilL))) (gN 11) (bE (chainE leD ltD (opE ixD (opE ixD (varE 3) (varE 11)) (cE (.int 0))) (varE 5) (opE ixD (opE ixD (varE 3) (varE 11)) (cE (.int 1))))) (varE 11) [11]) (cE (.int 0))))
  (seqS (asgG (opE ixD (varE 3) (varE 6)) (gT [(gN 7), (gN 8)]))
  (seqS (asgS 9 (lcE (seqL (lstE (consL (tupE (consL (varE 7) (consL (varE 5) nilL))) (consL (tupE (consL (opE addD (varE 5) (cE (.int 1))) (consL (varE 8) nilL))) nilL)))) (gN 12) (bE (opE ltD (opE ixD (varE 12) (cE (.int 0))) (opE ixD (varE 12) (cE (.int 1))))) (varE 12) [12]))
  (seqS (asgS 10 (ifE (bE (opE eqD (clE lenD (consL (varE 9) nilL)) (cE (.int 0)))) (cE (.str ("fill" : Str))) (cE (.str ("middle" : Str)))))
  (seqS (ifS (bE (opE eqD (clE lenD (consL (varE 9) nilL)) (cE (.int 1))))
  (seqS (asgS 10 (ifE (bE (opE gtD (opE ixD (opE ixD (varE 9) (cE (.int 0))) (cE (.int 0))) (varE 5))) (cE (.str ("left" : Str))) (cE (.str ("right" : Str)))))
  nxS)
  nxS)
  (seqS (appS 1 (tupE (consL (varE 6) (consL (varE 10) nilL))))
  (seqS (asgS 3 (opE addD (opE addD (slE (varE 3) noO (atO (varE 6))) (varE 9)) (slE (varE 3) (atO (opE addD (varE 6) (cE (.int 1)))) noO)))
  nxS)))))))))
  (seqS (retS (varE 1))
  nxS)))))
def M_deeds_of : List D → Option (D × En) := defM 13 [.val] .val B_deeds_of
abbrev N_deeds_of : List Str := ["order", "found", "at", "slots", "value", "place", "slot", "low", "high", "news", "word", "k", "one"]
def B_order_of_deeds : FS :=
  (seqS (asgS 1 (ifE (bE (opE gtD (clE lenD (consL (varE 0) nilL)) (cE (.int 0)))) (lstE (consL (cE .none) nilL)) (cE (.list []))))
  (seqS (forS (rg2L (cE (.int 1)) (opE addD (clE lenD (consL (varE 0) nilL)) (cE (.int 1)))) (gN 2)
  (seqS (asgG (opE ixD (varE 0) (opE subD (varE 2) (cE (.int 1)))) (gT [(gN 3), (gN 4)]))
  (seqS (asgS 5 (lcE (rg1L (clE lenD (consL (varE 1) nilL))) (gN 8) (bE (opE isD (opE ixD (varE 1) (varE 8)) (cE .none))) (varE 8) [8]))
  (seqS (ifS (notT (bE (chainE leD ltD (cE (.int 0)) (varE 3) (clE lenD (consL (varE 5) nilL)))))
  (seqS (retS (cE .none))
  nxS)
  nxS)
  (seqS (asgS 6 (opE ixD (varE 5) (varE 3)))
  (seqS (asgS 7 (dgetE (dispE [((cE (.str ("fill" : Str))), (lstE (consL (varE 2) nilL))), ((cE (.str ("left" : Str))), (lstE (consL (varE 2) (consL (cE .none) nilL)))), ((cE (.str ("right" : Str))), (lstE (consL (cE .none) (consL (varE 2) nilL)))), ((cE (.str ("middle" : Str))), (lstE (consL (cE .none) (consL (varE 2) (consL (cE .none) nilL)))))]) (varE 4)))
  (seqS (asgS 1 (opE addD (opE addD (slE (varE 1) noO (atO (varE 6))) (varE 7)) (slE (varE 1) (atO (opE addD (varE 6) (cE (.int 1)))) noO)))
  nxS)))))))
  (seqS (retS (ifE (bE (opE inD (cE .none) (varE 1))) (cE .none) (varE 1)))
  nxS)))
def M_order_of_deeds : List D → Option (D × En) := defM 9 [.val] .val B_order_of_deeds
abbrev N_order_of_deeds : List Str := ["deeds", "row", "value", "slot", "word", "free", "at", "news", "k"]
def B__law_same (self : List D → Option (D × En)) : FS :=
  (seqS (ifS (bE (opE isD (varE 1) (cE .none)))
  (seqS (retS (opE isD (varE 0) (cE .none)))
  nxS)
  nxS)
  (seqS (ifS (bE (isiE .bool (varE 1)))
  (seqS (retS (andE (isiE .bool (varE 0)) (opE eqD (varE 0) (varE 1))))
  nxS)
  nxS)
  (seqS (ifS (bE (isiE .int (varE 1)))
  (seqS (retS (andE (isiE .int (varE 0)) (andE (notE (isiE .bool (varE 0))) (opE eqD (varE 0) (varE 1)))))
  nxS)
  nxS)
  (seqS (ifS (bE (isiE .str (varE 1)))
  (seqS (retS (andE (isiE .str (varE 0)) (opE eqD (varE 0) (varE 1))))
  nxS)
  nxS)
  (seqS (ifS (bE (isiE .dict (varE 1)))
  (seqS (ifS (orT (notT (bE (isiE .dict (varE 0)))) (orT (bE (opE neD (clE lenD (consL (varE 0) nilL)) (clE lenD (consL (varE 1) nilL)))) (notT (bE (clE allD (consL (lcE (seqL (varE 1)) (gN 2) yT (opE inD (varE 2) (varE 0)) [2]) nilL))))))
  (seqS (retS (cE (.bool false)))
  nxS)
  nxS)
  (seqS (retS (clE allD (consL (lcE (seqL (varE 1)) (gN 2) yT (callE0 self (consL (opE ixD (varE 0) (varE 2)) (consL (opE ixD (varE 1) (varE 2)) nilL))) [2]) nilL)))
  nxS))
  nxS)
  (seqS (ifS (bE (isiE .list (varE 1)))
  (seqS (retS (andE (isiE .list (varE 0)) (andE (opE eqD (clE lenD (consL (varE 0) nilL)) (clE lenD (consL (varE 1) nilL))) (clE allD (consL (lcE (rg1L (clE lenD (consL (varE 1) nilL))) (gN 3) yT (callE0 self (consL (opE ixD (varE 0) (varE 3)) (consL (opE ixD (varE 1) (varE 3)) nilL))) [3]) nilL)))))
  nxS)
  nxS)
  (seqS (retS (andE (isiE .tuple (varE 0)) (andE (opE eqD (clE lenD (consL (varE 0) nilL)) (clE lenD (consL (varE 1) nilL))) (clE allD (consL (lcE (rg1L (clE lenD (consL (varE 1) nilL))) (gN 3) yT (callE0 self (consL (opE ixD (varE 0) (varE 3)) (consL (opE ixD (varE 1) (varE 3)) nilL))) [3]) nilL)))))
  nxS)))))))
def M__law_same : Nat → List D → Option (D × En)
  | 0 => fun _ => none
  | n + 1 => defM 4 [.val, .val] .val (B__law_same (M__law_same n))
abbrev N__law_same : List Str := ["x", "due", "key", "k"]
def B__law_pick : FS :=
  (seqS (retS (opE ixD (varE 1) (callE1 M__law_next 0 0 (ioA' 0 (consA (clE lenD (consL (varE 1) nilL)) nilA)))))
  nxS)
def M__law_pick : List D → Option (D × En) := defM 2 [.dct, .val] .val B__law_pick
abbrev N__law_pick : List Str := ["draws", "things"]
def B__law_deeds : FS :=
  (seqS (asgS 1 (cE (.list [])))
  (seqS (forS (rg2L (cE (.int 1)) (opE addD (clE lenD (consL (varE 0) nilL)) (cE (.int 1)))) (gN 2)
  (seqS (asgS 3 (indexE (varE 0) (varE 2)))
  (seqS (asgS 4 (cE (.list [])))
  (seqS (asgS 5 (cE (.list [])))
  (seqS (forS (rg1L (opE addD (clE lenD (consL (varE 0) nilL)) (cE (.int 1)))) (gN 6)
  (seqS (ifS (orT (bE (opE eqD (varE 6) (clE lenD (consL (varE 0) nilL)))) (bE (opE ltD (opE ixD (varE 0) (varE 6)) (varE 2))))
  (seqS (ifS (bE (opE gtD (clE lenD (consL (varE 5) nilL)) (cE (.int 0))))
  (seqS (appS 4 (varE 5))
  nxS)
  nxS)
  (seqS (asgS 5 (cE (.list [])))
  nxS))
  (seqS (asgS 5 (opE addD (varE 5) (lstE (consL (varE 6) nilL))))
  nxS))
  nxS))
  (seqS (asgS 7 (opE ixD (lcE (rg1L (borE (clE lenD (consL (varE 4) nilL)))) (gN 12) (bE (opE inD (varE 3) (ixO 4 (varE 12)))) (varE 12) [12]) (cE (.int 0))))
  (seqS (asgS 8 (ixO 4 (varE 7)))
  (seqS (parS 9 10 (consL (opE ltD (opE ixD (varE 8) (cE (.int 0))) (varE 3)) (consL (opE gtD (opE ixD (varE 8) (unE negD (cE (.int 1)))) (varE 3)) nilL)))
  (seqS (asgS 11 (ifE (andT (bE (varE 9)) (bE (varE 10))) (cE (.str ("middle" : Str))) (ifE (bE (varE 9)) (cE (.str ("right" : Str))) (ifE (bE (varE 10)) (cE (.str ("left" : Str))) (cE (.str ("fill" : Str)))))))
  (seqS (appS 1 (tupE (consL (varE 7) (consL (varE 11) nilL))))
  nxS))))))))))
  (seqS (retS (varE 1))
  nxS)))
def M__law_deeds : List D → Option (D × En) := defM 13 [.val] .val B__law_deeds
abbrev N__law_deeds : List Str := ["order", "found", "value", "place", "stretches", "here", "at", "slot", "row", "left", "right", "word", "k"]
def B__law_done : FS :=
  (seqS (asgS 1 (ifE (bE (opE gtD (clE lenD (consL (varE 0) nilL)) (cE (.int 0)))) (lstE (consL (cE .none) nilL)) (cE (.list []))))
  (seqS (forS (rg1L (clE lenD (consL (varE 0) nilL))) (gN 2)
  (seqS (asgS 3 (lcE (rg1L (clE lenD (consL (varE 1) nilL))) (gN 6) (bE (opE isD (opE ixD (varE 1) (varE 6)) (cE .none))) (varE 6) [6]))
  (seqS (asgG (opE ixD (varE 0) (varE 2)) (gT [(gN 4), (gN 5)]))
  (seqS (ifS (orT (bE (opE geD (varE 4) (clE lenD (consL (varE 3) nilL)))) (bE (opE ltD (varE 4) (cE (.int 0)))))
  (seqS (retS (cE .none))
  nxS)
  nxS)
  (seqS (asgS 6 (opE ixD (varE 3) (varE 4)))
  (seqS (asgS 7 (ifE (bE (opE inD (varE 5) (lstE (consL (cE (.str ("right" : Str))) (consL (cE (.str ("middle" : Str))) nilL))))) (lstE (consL (cE .none) nilL)) (cE (.list []))))
  (seqS (asgS 8 (ifE (bE (opE inD (varE 5) (lstE (consL (cE (.str ("left" : Str))) (consL (cE (.str ("middle" : Str))) nilL))))) (lstE (consL (cE .none) nilL)) (cE (.list []))))
  (seqS (asgS 1 (opE addD (opE addD (opE addD (opE addD (slE (varE 1) noO (atO (varE 6))) (varE 7)) (lstE (consL (opE addD (varE 2) (cE (.int 1))) nilL))) (varE 8)) (slE (varE 1) (atO (opE addD (varE 6) (cE (.int 1)))) noO)))
  nxS))))))))
  (seqS (retS (ifE (bE (opE inD (cE .none) (varE 1))) (cE .none) (varE 1)))
  nxS)))
def M__law_done : List D → Option (D × En) := defM 9 [.val] .val B__law_done
abbrev N__law_done : List Str := ["deeds", "row", "k", "free", "slot", "word", "at", "left", "right"]
def B_law : FS :=
  (seqS (asgS 1 (callE1 M__law_draws 0 0 (ioA' 0 nilA)))
  (seqS (forS (rg1L (cE (.int 5))) (gN 2)
  (seqS (asgS 3 (callE1 M__law_order 1 0 (ioA' 1 (consA (callE1 M__law_next 1 0 (ioA' 1 (consA (cE (.int 10)) nilA))) nilA))))
  (seqS (asgS 4 (callE0 (M__law_copy 6) (consL (varE 3) nilL)))
  (seqS (asgS 5 (callE0 M_deeds_of (consL (varE 3) nilL)))
  (seqS (ifS (orT (notT (bE (callE0 (M__law_same 6) (consL (varE 5) (consL (callE0 M__law_deeds (consL (varE 3) nilL)) nilL))))) (orT (notT (bE (callE0 (M__law_same 6) (consL (callE0 M_order_of_deeds (consL (varE 5) nilL)) (consL (varE 3) nilL))))) (notT (bE (callE0 (M__law_same 6) (consL (varE 3) (consL (varE 4) nilL)))))))
  (seqS (retS (cE (.bool false)))
  nxS)
  nxS)
  (seqS (asgS 6 (lcE (rg1L (callE1 M__law_next 1 0 (ioA' 1 (consA (cE (.int 6)) nilA)))) (gN 17) yT (tupE (consL (callE1 M__law_next 1 0 (ioA' 1 (consA (cE (.int 3)) nilA))) (consL (callE1 M__law_pick 1 0 (ioA' 1 (consA (lstE (consL (cE (.str ("fill" : Str))) (consL (cE (.str ("left" : Str))) (consL (cE (.str ("middle" : Str))) (consL (cE (.str ("right" : Str))) (consL (cE (.str ("fill" : Str))) nilL)))))) nilA))) nilL))) [17]))
  (seqS (ifS (andT (bE (opE eqD (callE1 M__law_next 1 0 (ioA' 1 (consA (cE (.int 2)) nilA))) (cE (.int 0)))) (bE (opE gtD (clE lenD (consL (varE 5) nilL)) (cE (.int 0)))))
  (seqS (asgS 7 (callE1 M__law_next 1 0 (ioA' 1 (consA (clE lenD (consL (varE 5) nilL)) nilA))))
  (seqS (asgS 6 (opE addD (opE addD (slE (varE 5) noO (atO (varE 7))) (lstE (consL (tupE (consL (callE1 M__law_pick 1 0 (ioA' 1 (consA (lstE (consL (cE (.int 0)) (consL (cE (.int 1)) (consL (unE negD (cE (.int 1))) (consL (cE (.int 5)) nilL))))) nilA))) (consL (callE1 M__law_pick 1 0 (ioA' 1 (consA (lstE (consL (cE (.str ("fill" : Str))) (consL (cE (.str ("middle" : Str))) nilL))) nilA))) nilL))) nilL))) (slE (varE 5) (atO (opE addD (varE 7) (cE (.int 1)))) noO)))
  nxS))
  nxS)
  (seqS (asgS 8 (callE0 M_order_of_deeds (consL (clE listD (consL (varE 6) nilL)) nilL)))
  (seqS (ifS (orT (notT (bE (callE0 (M__law_same 6) (consL (varE 8) (consL (callE0 M__law_done (consL (varE 6) nilL)) nilL))))) (andT (bE (opE isnotD (varE 8) (cE .none))) (notT (bE (callE0 (M__law_same 6) (consL (callE0 M_deeds_of (consL (varE 8) nilL)) (consL (varE 6) nilL)))))))
  (seqS (retS (cE (.bool false)))
  nxS)
  nxS)
  nxS)))))))))
  (seqS (asgS 9 (opE addD (cE (.int 1)) (callE1 M__law_next 1 0 (ioA' 1 (consA (cE (.int 4)) nilA)))))
  (seqS (asgS 10 (lstE (consL (cE (.list [])) nilL)))
  (seqS (forS (rg1L (varE 9)) (gN 2)
  (seqS (asgS 11 (cE (.list [])))
  (seqS (forS (seqL (varE 10)) (gN 6)
  (seqS (asgS 12 (opE addD (cE (.int 1)) (clE sumD (consL (lcE (seqL (varE 6)) (gT [(gN 13), (gN 18)]) yT (dgetE (dispE [((cE (.str ("fill" : Str))), (unE negD (cE (.int 1)))), ((cE (.str ("left" : Str))), (cE (.int 0))), ((cE (.str ("middle" : Str))), (cE (.int 1))), ((cE (.str ("right" : Str))), (cE (.int 0)))]) (varE 18)) [13, 18]) nilL))))
  (seqS (forS (rg1L (varE 12)) (gN 13)
  (seqS (asgS 11 (opE addD (varE 11) (lcE (seqL (lstE (consL (cE (.str ("fill" : Str))) (consL (cE (.str ("left" : Str))) (consL (cE (.str ("middle" : Str))) (consL (cE (.str ("right" : Str))) nilL)))))) (gN 18) yT (opE addD (varE 6) (lstE (consL (tupE (consL (varE 13) (consL (varE 18) nilL))) nilL))) [18])))
  nxS))
  nxS)))
  (seqS (asgS 10 (varE 11))
  nxS))))
  (seqS (asgS 14 (lcE (seqL (varE 10)) (gN 6) yT (callE0 M_order_of_deeds (consL (varE 6) nilL)) [6]))
  (seqS (asgS 15 (lcE (seqL (varE 14)) (gN 3) (bE (opE isnotD (varE 3) (cE .none))) (varE 3) [3]))
  (seqS (asgS 16 (cE (.int 1)))
  (seqS (forS (rg1L (varE 9)) (gN 17)
  (seqS (asgS 16 (opE mulD (varE 16) (opE addD (varE 17) (cE (.int 1)))))
  nxS))
  (seqS (retS (andE (opE eqD (clE lenD (consL (varE 15) nilL)) (varE 16)) (opE eqD (lenSetE (lcE (seqL (varE 15)) (gN 3) yT (clE tupleD (consL (varE 3) nilL)) [3])) (varE 16))))
  nxS))))))))))
def M_law : List D → Option (D × En) := defM 19 [.scr] .val B_law
abbrev N_law : List Str := ["script", "draws", "turn", "order", "kept", "told", "deeds", "at", "made", "many", "rows", "news", "free", "slot", "orders", "some", "total", "k", "word"]
structure Tx (K : PySem.W.Frag) (mg : Str → Option Value) : Prop where
  n_abs : mg "abs" = none
  n_all : mg "all" = none
  n_bool : mg "bool" = none
  n_dict : mg "dict" = none
  n_int : mg "int" = none
  n_isinstance : mg "isinstance" = none
  n_len : mg "len" = none
  n_list : mg "list" = none
  n_range : mg "range" = none
  n_set : mg "set" = none
  n_sorted : mg "sorted" = none
  n_str : mg "str" = none
  n_sum : mg "sum" = none
  n_tuple : mg "tuple" = none
end My

set_option Elab.async false
set_option linter.all false
set_option maxRecDepth 100000
set_option maxHeartbeats 4000000
namespace My
open PySem PySem.Spec L2 BV
section
variable {P : Program} {w : World} {K : PySem.W.Frag} {mg : Str → Option Value} {base : Heap}
theorem sc__law_draws : FnScope N__law_draws ["script"] (defScope s__law_draws) := ⟨rfl, rfl, rfl, by decide +kernel, rfl, by decide +kernel, by decide +kernel⟩
theorem bd__law_draws : BindsOk s__law_draws ["script"] "_law_draws" := fun _ _ _ _ _ _ us hl => match us, hl with | [_], _ => rfl
theorem ok__law_draws (T : Tx K mg) (F : DefIn K mg "_law_draws" s__law_draws) : OkD P w K mg base 1 "_law_draws" ["script"] [.scr] .dct M__law_draws := by
  refine okD_def (k := 0) (Γe := [.scr, .val, .val, .val, .val, .val]) F sc__law_draws bd__law_draws rfl (by decide) rfl fun cdv A outer s H E hr => ?_
  exact (bss_cons (bs_setO 1 sc__law_draws.nd (bo_nil (m := .val)))
  (bss_cons (bs_for PassesOwn.never rfl (bi_seq (be_op op_addA d_add (be_frz (bo_callTy call_list_of dn_list T.n_list PyProof.Rows.boot_list (bl_cons (be_sliceScr 0 bp_none (bp_some be_int)) bl_nil))) (be_frz (bo_lst (bl_cons be_int bl_nil))))) (bg_name 2 sc__law_draws.nd)
  (bss_cons (bs_set 3 sc__law_draws.nd (be_callB call_abs dc_abs T.n_abs PyProof.Rows.boot_abs (bl_cons (be_callTy call_int1 dc_int T.n_int PyProof.Rows.boot_int (bl_cons (be_var 2) bl_nil)) bl_nil)))
  (bss_cons (bs_set 4 sc__law_draws.nd (be_op op_addA d_add (be_op op_mod d_mod (be_callTy call_int1 dc_int T.n_int PyProof.Rows.boot_int (bl_cons (be_var 2) bl_nil)) be_int) be_int))
  (bss_cons (bs_for PassesOwn.never rfl (bi_rg1 T.n_range be_int) (bg_name 5 sc__law_draws.nd)
  (bss_cons (bs_if (bt_cmp op_ge d_ge (be_var 3) be_int)
  (bss_cons (bs_append 1 (be_bo (be_op op_mod d_mod (be_callTy call_int1 dc_int T.n_int PyProof.Rows.boot_int (bl_cons (be_var 3) bl_nil)) be_int)))
  (bss_cons (bs_set 3 sc__law_draws.nd (be_op op_fdiv d_fdiv (be_var 3) be_int))
  bss_nil))
  (bss_cons (bs_set 4 sc__law_draws.nd (be_op op_mod d_mod (be_callTy call_int1 dc_int T.n_int PyProof.Rows.boot_int (bl_cons (be_op op_addA d_add (be_op op_addA d_add (be_op op_addA d_add (be_op op_mulA d_mul (be_var 4) be_int) (be_op op_mulA d_mul be_int (be_var 5))) be_int) (be_var 3)) bl_nil)) be_int))
  (bss_cons (bs_append 1 (be_bo (be_op op_mod d_mod (be_callTy call_int1 dc_int T.n_int PyProof.Rows.boot_int (bl_cons (be_op op_fdiv d_fdiv (be_op op_mulA d_mul (be_var 4) be_int) be_int) bl_nil)) be_int)))
  bss_nil)))
  bss_nil))
  bss_nil))))
  (bss_frz 1 (bss_cons (bs_retO (bo_disp (l := [((cE (.str ("numbers" : Str))), (varE 1)), ((cE (.str ("at" : Str))), (cE (.int 0)))]) (pps_cons be_str (be_var 1) (pps_cons be_str be_int pps_nil))))
  bss_nil))))

theorem sc__law_next : FnScope N__law_next ["draws", "bound"] (defScope s__law_next) := ⟨rfl, rfl, rfl, by decide +kernel, rfl, by decide +kernel, by decide +kernel⟩
theorem bd__law_next : BindsOk s__law_next ["draws", "bound"] "_law_next" := fun _ _ _ _ _ _ us hl => match us, hl with | [_, _], _ => rfl
theorem ok__law_next (T : Tx K mg) (F : DefIn K mg "_law_next" s__law_next) : OkD P w K mg base 1 "_law_next" ["draws", "bound"] [.dct, .val] .val M__law_next := by
  refine okD_def (k := 0) (Γe := [.dct, .val, .val]) F sc__law_next bd__law_next rfl (by decide) rfl fun cdv A outer s H E hr => ?_
  exact (bss_cons (bs_set 2 sc__law_next.nd (be_callTy call_int1 dc_int T.n_int PyProof.Rows.boot_int (bl_cons (be_dgetO 0 (hu1 hr) be_str) bl_nil)))
  (bss_cons (bs_dput 0 (hu1 hr) (be_op op_addA d_add (be_var 2) be_int) be_str)
  (bss_cons (bs_ret (be_op op_mod d_mod (be_callTy call_int1 dc_int T.n_int PyProof.Rows.boot_int (bl_cons (be_op op_addA d_add (be_ix ix_seq d_ix (be_dgetO 0 (hu1 hr) be_str) (be_op op_mod d_mod (be_var 2) (be_callB call_len dc_len T.n_len PySem.boot_len (bl_cons (be_dgetO 0 (hu1 hr) be_str) bl_nil)))) (be_op op_mulA d_mul be_int (be_op op_fdiv d_fdiv (be_var 2) (be_callB call_len dc_len T.n_len PySem.boot_len (bl_cons (be_dgetO 0 (hu1 hr) be_str) bl_nil))))) bl_nil)) (be_var 1)))
  bss_nil)))

theorem sc__law_order : FnScope N__law_order ["draws", "many"] (defScope s__law_order) := ⟨rfl, rfl, rfl, by decide +kernel, rfl, by decide +kernel, by decide +kernel⟩
theorem bd__law_order : BindsOk s__law_order ["draws", "many"] "_law_order" := fun _ _ _ _ _ _ us hl => match us, hl with | [_, _], _ => rfl
theorem ok__law_order (T : Tx K mg) (F : DefIn K mg "_law_order" s__law_order) (O__law_next : OkD P w K mg base 1 "_law_next" ["draws", "bound"] [.dct, .val] .val M__law_next) : OkD P w K mg base 2 "_law_order" ["draws", "many"] [.dct, .val] .val M__law_order := by
  refine okD_def (k := 1) (Γe := [.dct, .val, (.lst .val), .val, .val]) F sc__law_order bd__law_order rfl (by decide) rfl fun cdv A outer s H E hr => ?_
  exact (bss_cons (bs_setO 2 sc__law_order.nd (bo_lrg2 rfl T.n_list T.n_range be_int (be_op op_addA d_add (be_var 1) be_int)))
  (bss_cons (bs_setO 3 sc__law_order.nd (bo_nil (m := .val)))
  (bss_cons (bs_for PassesOwn.never rfl (bi_rg1 T.n_range (be_var 1)) (bg_name 4 sc__law_order.nd)
  (bss_cons (bs_append 3 (be_bo (be_popAt 2 (be_callD1 0 0 O__law_next (hr.mono (by decide)) (ba_io (ba_cons (be_lend (be_callB call_len dc_len T.n_len PySem.boot_len (bl_cons (be_var 2) bl_nil))) ba_nil))))))
  bss_nil))
  (bss_frz 3 (bss_cons (bs_ret (be_var 3))
  bss_nil)))))

theorem sc__law_copy : FnScope N__law_copy ["thing"] (defScope s__law_copy) := ⟨rfl, rfl, rfl, by decide +kernel, rfl, by decide +kernel, by decide +kernel⟩
theorem bd__law_copy : BindsOk s__law_copy ["thing"] "_law_copy" := fun _ _ _ _ _ _ us hl => match us, hl with | [_], _ => rfl
theorem ok__law_copy (T : Tx K mg) (F : DefIn K mg "_law_copy" s__law_copy) : ∀ n : Nat, OkD P w K mg base (0 + n) "_law_copy" ["thing"] [.val] .val (M__law_copy n)
  | 0 => okD_none F bd__law_copy
  | n + 1 => by
    have O__law_copy := ok__law_copy T F n
    refine okD_def (k := 0 + n) (Γe := [.val, .val, .val]) F sc__law_copy bd__law_copy rfl (by decide) rfl fun cdv A outer s H E hr => ?_
    have hr0 := hr
    exact (bss_cons (bs_if (bt_val (be_isi .list T.n_isinstance T.n_list (be_var 0)))
  (bss_cons (bs_ret (be_frz (bo_lc [("part", 1)] rfl sc__law_copy.nd (bi_seq (be_var 0)) (blkOk_by (N := N__law_copy) (sc := defScope s__law_copy) (by decide +kernel)) (fun _ _ _ _ _ => (bg_name 1 sc__law_copy.nd)) (fun _ _ _ _ _ => bts_nil) (fun _ _ _ _ _ => (be_bo (be_callD O__law_copy (hr.mono (by omega)) (bl_cons (be_var 1) bl_nil)))))))
  bss_nil)
  bss_nil)
  (bss_cons (bs_if (bt_val (be_isi .tuple T.n_isinstance T.n_tuple (be_var 0)))
  (bss_cons (bs_ret (be_callTy call_tuple_of dc_tuple T.n_tuple PyProof.Rows.boot_tuple (bl_cons (be_frz (bo_lc [("part", 1)] rfl sc__law_copy.nd (bi_seq (be_var 0)) (blkOk_by (N := N__law_copy) (sc := defScope s__law_copy) (by decide +kernel)) (fun _ _ _ _ _ => (bg_name 1 sc__law_copy.nd)) (fun _ _ _ _ _ => bts_nil) (fun _ _ _ _ _ => (be_bo (be_callD O__law_copy (hr.mono (by omega)) (bl_cons (be_var 1) bl_nil)))))) bl_nil)))
  bss_nil)
  bss_nil)
  (bss_cons (bs_if (bt_val (be_isi .dict T.n_isinstance T.n_dict (be_var 0)))
  (bss_cons (bs_ret be_dead)
  bss_nil)
  bss_nil)
  (bss_cons (bs_ret (be_var 0))
  bss_nil))))

theorem sc_deeds_of : FnScope N_deeds_of ["order"] (defScope s_deeds_of) := ⟨rfl, rfl, rfl, by decide +kernel, rfl, by decide +kernel, by decide +kernel⟩
theorem bd_deeds_of : BindsOk s_deeds_of ["order"] "deeds_of" := fun _ _ _ _ _ _ us hl => match us, hl with | [_], _ => rfl
theorem ok_deeds_of (T : Tx K mg) (F : DefIn K mg "deeds_of" s_deeds_of) : OkD P w K mg base 1 "deeds_of" ["order"] [.val] .val M_deeds_of := by
  refine okD_def (k := 0) (Γe := [.val, .val, .dct, .val, .val, .val, .val, .val, .val, .val, .val, .val, .val]) F sc_deeds_of bd_deeds_of rfl (by decide) rfl fun cdv A outer s H E hr => ?_
  exact (bss_cons (bs_setO 1 sc_deeds_of.nd (bo_nil (m := .val)))
  (bss_cons (bs_setDc 2 [("place", 5)] rfl sc_deeds_of.nd rfl rfl (swd_true rfl rfl rfl (by decide +kernel)) (bi_rg1 T.n_range (be_callB call_len dc_len T.n_len PySem.boot_len (bl_cons (be_var 0) bl_nil))) (blkOk_by (N := N_deeds_of) (sc := defScope s_deeds_of) (by decide +kernel)) (fun _ _ _ _ _ => (bg_name 5 sc_deeds_of.nd)) (fun _ _ _ _ _ => bts_nil) (fun _ _ _ _ _ => (be_ix ix_seq d_ix (be_var 0) (be_var 5))) (fun _ _ _ _ _ => (be_var 5)))
  (bss_cons (bs_set 3 sc_deeds_of.nd (be_frz (bo_lst (bl_cons (be_tup (bl_cons be_int (bl_cons (be_callB call_len dc_len T.n_len PySem.boot_len (bl_cons (be_var 0) bl_nil)) bl_nil))) bl_nil))))
  (bss_cons (bs_for PassesOwn.never rfl (bi_rg2 T.n_range be_int (be_op op_addA d_add (be_callB call_len dc_len T.n_len PySem.boot_len (bl_cons (be_var 0) bl_nil)) be_int)) (bg_name 4 sc_deeds_of.nd)
  (bss_cons (bs_set 5 sc_deeds_of.nd (be_dgetO 2 (hu1 hr) (be_var 4)))
  (bss_cons (bs_set 6 sc_deeds_of.nd (be_ix ix_seq d_ix (be_frz (bo_lc [("k", 11)] rfl sc_deeds_of.nd (bi_rg1 T.n_range (be_callB call_len dc_len T.n_len PySem.boot_len (bl_cons (be_var 3) bl_nil))) (blkOk_by (N := N_deeds_of) (sc := defScope s_deeds_of) (by decide +kernel)) (fun _ _ _ _ _ => (bg_name 11 sc_deeds_of.nd)) (fun _ _ _ _ _ => (bts_one (bt_chain op_le d_le op_lt d_lt (be_ix ix_seq d_ix (be_ix ix_seq d_ix (be_var 3) (be_var 11)) be_int) (be_var 5) (be_ix ix_seq d_ix (be_ix ix_seq d_ix (be_var 3) (be_var 11)) be_int)))) (fun _ _ _ _ _ => (be_bo (be_var 11))))) be_int))
  (bss_cons (bs_asg (be_ix ix_seq d_ix (be_var 3) (be_var 6)) (bg_tup rfl (bgs_cons (bg_name 7 sc_deeds_of.nd) (bgs_cons (bg_name 8 sc_deeds_of.nd) bgs_nil))))
  (bss_cons (bs_setLc 9 [("one", 12)] rfl sc_deeds_of.nd rfl rfl (sw_true rfl rfl rfl (by decide +kernel)) (bi_seq (be_frz (bo_lst (bl_cons (be_tup (bl_cons (be_var 7) (bl_cons (be_var 5) bl_nil))) (bl_cons (be_tup (bl_cons (be_op op_addA d_add (be_var 5) be_int) (bl_cons (be_var 8) bl_nil))) bl_nil))))) (blkOk_by (N := N_deeds_of) (sc := defScope s_deeds_of) (by decide +kernel)) (fun _ _ _ _ _ => (bg_name 12 sc_deeds_of.nd)) (fun _ _ _ _ _ => (bts_one (bt_cmp op_lt d_lt (be_ix ix_seq d_ix (be_var 12) be_int) (be_ix ix_seq d_ix (be_var 12) be_int)))) (fun _ _ _ _ _ => (be_bo (be_var 12))))
  (bss_frz 9 (bss_cons (bs_set 10 sc_deeds_of.nd (be_if (bt_cmp (op_eqD (hu64 hr)) d_eq (be_callB call_len dc_len T.n_len PySem.boot_len (bl_cons (be_var 9) bl_nil)) be_int) be_str be_str))
  (bss_cons (bs_if (bt_cmp (op_eqD (hu64 hr)) d_eq (be_callB call_len dc_len T.n_len PySem.boot_len (bl_cons (be_var 9) bl_nil)) be_int)
  (bss_cons (bs_set 10 sc_deeds_of.nd (be_if (bt_cmp op_gt d_gt (be_ix ix_seq d_ix (be_ix ix_seq d_ix (be_var 9) be_int) be_int) (be_var 5)) be_str be_str))
  bss_nil)
  bss_nil)
  (bss_cons (bs_append 1 (be_bo (be_tup (bl_cons (be_var 6) (bl_cons (be_var 10) bl_nil)))))
  (bss_cons (bs_set 3 sc_deeds_of.nd (be_op op_addA d_add (be_op op_addA d_add (be_slice (be_var 3) bp_none (bp_some (be_var 6))) (be_var 9)) (be_slice (be_var 3) (bp_some (be_op op_addA d_add (be_var 6) be_int)) bp_none)))
  bss_nil))))))))))
  (bss_frz 1 (bss_cons (bs_ret (be_var 1))
  bss_nil))))))

theorem sc_order_of_deeds : FnScope N_order_of_deeds ["deeds"] (defScope s_order_of_deeds) := ⟨rfl, rfl, rfl, by decide +kernel, rfl, by decide +kernel, by decide +kernel⟩
theorem bd_order_of_deeds : BindsOk s_order_of_deeds ["deeds"] "order_of_deeds" := fun _ _ _ _ _ _ us hl => match us, hl with | [_], _ => rfl
theorem ok_order_of_deeds (T : Tx K mg) (F : DefIn K mg "order_of_deeds" s_order_of_deeds) : OkD P w K mg base 1 "order_of_deeds" ["deeds"] [.val] .val M_order_of_deeds := by
  refine okD_def (k := 0) (Γe := [.val, .val, .val, .val, .val, .val, .val, .val, .val]) F sc_order_of_deeds bd_order_of_deeds rfl (by decide) rfl fun cdv A outer s H E hr => ?_
  exact (bss_cons (bs_set 1 sc_order_of_deeds.nd (be_if (bt_cmp op_gt d_gt (be_callB call_len dc_len T.n_len PySem.boot_len (bl_cons (be_var 0) bl_nil)) be_int) (be_frz (bo_lst (bl_cons be_non bl_nil))) (be_frz (bo_nil (m := .val)))))
  (bss_cons (bs_for PassesOwn.never rfl (bi_rg2 T.n_range be_int (be_op op_addA d_add (be_callB call_len dc_len T.n_len PySem.boot_len (bl_cons (be_var 0) bl_nil)) be_int)) (bg_name 2 sc_order_of_deeds.nd)
  (bss_cons (bs_asg (be_ix ix_seq d_ix (be_var 0) (be_op op_sub d_sub (be_var 2) be_int)) (bg_tup rfl (bgs_cons (bg_name 3 sc_order_of_deeds.nd) (bgs_cons (bg_name 4 sc_order_of_deeds.nd) bgs_nil))))
  (bss_cons (bs_setLc 5 [("k", 8)] rfl sc_order_of_deeds.nd rfl rfl (sw_true rfl rfl rfl (by decide +kernel)) (bi_rg1 T.n_range (be_callB call_len dc_len T.n_len PySem.boot_len (bl_cons (be_var 1) bl_nil))) (blkOk_by (N := N_order_of_deeds) (sc := defScope s_order_of_deeds) (by decide +kernel)) (fun _ _ _ _ _ => (bg_name 8 sc_order_of_deeds.nd)) (fun _ _ _ _ _ => (bts_one (bt_cmp op_isA d_is (be_ix ix_seq d_ix (be_var 1) (be_var 8)) be_non))) (fun _ _ _ _ _ => (be_bo (be_var 8))))
  (bss_frz 5 (bss_cons (bs_if (bt_not (bt_chain op_le d_le op_lt d_lt be_int (be_var 3) (be_callB call_len dc_len T.n_len PySem.boot_len (bl_cons (be_var 5) bl_nil))))
  (bss_cons (bs_ret be_non)
  bss_nil)
  bss_nil)
  (bss_cons (bs_set 6 sc_order_of_deeds.nd (be_ix ix_seq d_ix (be_var 5) (be_var 3)))
  (bss_cons (bs_set 7 sc_order_of_deeds.nd (be_dget (hu1 hr) (be_frz (bo_disp (l := [((cE (.str ("fill" : Str))), (lstE (consL (varE 2) nilL))), ((cE (.str ("left" : Str))), (lstE (consL (varE 2) (consL (cE .none) nilL)))), ((cE (.str ("right" : Str))), (lstE (consL (cE .none) (consL (varE 2) nilL)))), ((cE (.str ("middle" : Str))), (lstE (consL (cE .none) (consL (varE 2) (consL (cE .none) nilL)))))]) (pps_cons be_str (be_frz (bo_lst (bl_cons (be_var 2) bl_nil))) (pps_cons be_str (be_frz (bo_lst (bl_cons (be_var 2) (bl_cons be_non bl_nil)))) (pps_cons be_str (be_frz (bo_lst (bl_cons be_non (bl_cons (be_var 2) bl_nil)))) (pps_cons be_str (be_frz (bo_lst (bl_cons be_non (bl_cons (be_var 2) (bl_cons be_non bl_nil))))) pps_nil)))))) (be_var 4)))
  (bss_cons (bs_set 1 sc_order_of_deeds.nd (be_op op_addA d_add (be_op op_addA d_add (be_slice (be_var 1) bp_none (bp_some (be_var 6))) (be_var 7)) (be_slice (be_var 1) (bp_some (be_op op_addA d_add (be_var 6) be_int)) bp_none)))
  bss_nil))))))))
  (bss_cons (bs_ret (be_if (bt_cmp (op_inA (hu65 hr)) d_in be_non (be_var 1)) be_non (be_var 1)))
  bss_nil)))

theorem sc__law_same : FnScope N__law_same ["x", "due"] (defScope s__law_same) := ⟨rfl, rfl, rfl, by decide +kernel, rfl, by decide +kernel, by decide +kernel⟩
theorem bd__law_same : BindsOk s__law_same ["x", "due"] "_law_same" := fun _ _ _ _ _ _ us hl => match us, hl with | [_, _], _ => rfl
theorem ok__law_same (T : Tx K mg) (F : DefIn K mg "_law_same" s__law_same) : ∀ n : Nat, OkD P w K mg base (0 + n) "_law_same" ["x", "due"] [.val, .val] .val (M__law_same n)
  | 0 => okD_none F bd__law_same
  | n + 1 => by
    have O__law_same := ok__law_same T F n
    refine okD_def (k := 0 + n) (Γe := [.val, .val, .val, .val]) F sc__law_same bd__law_same rfl (by decide) rfl fun cdv A outer s H E hr => ?_
    have hr0 := hr
    exact (bss_cons (bs_if (bt_cmp op_isA d_is (be_var 1) be_non)
  (bss_cons (bs_ret (be_cmp op_isA d_is (be_var 0) be_non))
  bss_nil)
  bss_nil)
  (bss_cons (bs_if (bt_val (be_isi .bool T.n_isinstance T.n_bool (be_var 1)))
  (bss_cons (bs_ret (be_and (be_isi .bool T.n_isinstance T.n_bool (be_var 0)) (be_one (be_cmp (op_eqD (hu64 hr)) d_eq (be_var 0) (be_var 1)))))
  bss_nil)
  bss_nil)
  (bss_cons (bs_if (bt_val (be_isi .int T.n_isinstance T.n_int (be_var 1)))
  (bss_cons (bs_ret (be_and (be_isi .int T.n_isinstance T.n_int (be_var 0)) (be_and (be_not (be_isi .bool T.n_isinstance T.n_bool (be_var 0))) (be_one (be_cmp (op_eqD (hu64 hr)) d_eq (be_var 0) (be_var 1))))))
  bss_nil)
  bss_nil)
  (bss_cons (bs_if (bt_val (be_isi .str T.n_isinstance T.n_str (be_var 1)))
  (bss_cons (bs_ret (be_and (be_isi .str T.n_isinstance T.n_str (be_var 0)) (be_one (be_cmp (op_eqD (hu64 hr)) d_eq (be_var 0) (be_var 1)))))
  bss_nil)
  bss_nil)
  (bss_cons (bs_if (bt_val (be_isi .dict T.n_isinstance T.n_dict (be_var 1)))
  (bss_cons (bs_if (bt_w (bw_or (bt_not (bt_val (be_isi .dict T.n_isinstance T.n_dict (be_var 0)))) (bw_or (bt_cmp (op_neD (hu64 hr)) d_ne (be_callB call_len dc_len T.n_len PySem.boot_len (bl_cons (be_var 0) bl_nil)) (be_callB call_len dc_len T.n_len PySem.boot_len (bl_cons (be_var 1) bl_nil))) (bw_or1 (bt_not (bt_val (be_callB (cr_all rfl) dc_all T.n_all (by decide +kernel) (bl_cons (be_frz (bo_lc [("key", 2)] rfl sc__law_same.nd (bi_seq (be_var 1)) (blkOk_by (N := N__law_same) (sc := defScope s__law_same) (by decide +kernel)) (fun _ _ _ _ _ => (bg_name 2 sc__law_same.nd)) (fun _ _ _ _ _ => bts_nil) (fun _ _ _ _ _ => (be_bo (be_cmp (op_inA (hu65 hr)) d_in (be_var 2) (be_var 0)))))) bl_nil))))))))
  (bss_cons (bs_ret be_bl)
  bss_nil)
  bss_nil)
  (bss_cons (bs_ret (be_callB (cr_all rfl) dc_all T.n_all (by decide +kernel) (bl_cons (be_frz (bo_lc [("key", 2)] rfl sc__law_same.nd (bi_seq (be_var 1)) (blkOk_by (N := N__law_same) (sc := defScope s__law_same) (by decide +kernel)) (fun _ _ _ _ _ => (bg_name 2 sc__law_same.nd)) (fun _ _ _ _ _ => bts_nil) (fun _ _ _ _ _ => (be_bo (be_callD O__law_same (hr.mono (by omega)) (bl_cons (be_ix ix_seq d_ix (be_var 0) (be_var 2)) (bl_cons (be_ix ix_seq d_ix (be_var 1) (be_var 2)) bl_nil))))))) bl_nil)))
  bss_nil))
  bss_nil)
  (bss_cons (bs_if (bt_val (be_isi .list T.n_isinstance T.n_list (be_var 1)))
  (bss_cons (bs_ret (be_and (be_isi .list T.n_isinstance T.n_list (be_var 0)) (be_and (be_cmp (op_eqD (hu64 hr)) d_eq (be_callB call_len dc_len T.n_len PySem.boot_len (bl_cons (be_var 0) bl_nil)) (be_callB call_len dc_len T.n_len PySem.boot_len (bl_cons (be_var 1) bl_nil))) (be_one (be_callB (cr_all rfl) dc_all T.n_all (by decide +kernel) (bl_cons (be_frz (bo_lc [("k", 3)] rfl sc__law_same.nd (bi_rg1 T.n_range (be_callB call_len dc_len T.n_len PySem.boot_len (bl_cons (be_var 1) bl_nil))) (blkOk_by (N := N__law_same) (sc := defScope s__law_same) (by decide +kernel)) (fun _ _ _ _ _ => (bg_name 3 sc__law_same.nd)) (fun _ _ _ _ _ => bts_nil) (fun _ _ _ _ _ => (be_bo (be_callD O__law_same (hr.mono (by omega)) (bl_cons (be_ix ix_seq d_ix (be_var 0) (be_var 3)) (bl_cons (be_ix ix_seq d_ix (be_var 1) (be_var 3)) bl_nil))))))) bl_nil))))))
  bss_nil)
  bss_nil)
  (bss_cons (bs_ret (be_and (be_isi .tuple T.n_isinstance T.n_tuple (be_var 0)) (be_and (be_cmp (op_eqD (hu64 hr)) d_eq (be_callB call_len dc_len T.n_len PySem.boot_len (bl_cons (be_var 0) bl_nil)) (be_callB call_len dc_len T.n_len PySem.boot_len (bl_cons (be_var 1) bl_nil))) (be_one (be_callB (cr_all rfl) dc_all T.n_all (by decide +kernel) (bl_cons (be_frz (bo_lc [("k", 3)] rfl sc__law_same.nd (bi_rg1 T.n_range (be_callB call_len dc_len T.n_len PySem.boot_len (bl_cons (be_var 1) bl_nil))) (blkOk_by (N := N__law_same) (sc := defScope s__law_same) (by decide +kernel)) (fun _ _ _ _ _ => (bg_name 3 sc__law_same.nd)) (fun _ _ _ _ _ => bts_nil) (fun _ _ _ _ _ => (be_bo (be_callD O__law_same (hr.mono (by omega)) (bl_cons (be_ix ix_seq d_ix (be_var 0) (be_var 3)) (bl_cons (be_ix ix_seq d_ix (be_var 1) (be_var 3)) bl_nil))))))) bl_nil))))))
  bss_nil)))))))

theorem sc__law_pick : FnScope N__law_pick ["draws", "things"] (defScope s__law_pick) := ⟨rfl, rfl, rfl, by decide +kernel, rfl, by decide +kernel, by decide +kernel⟩
theorem bd__law_pick : BindsOk s__law_pick ["draws", "things"] "_law_pick" := fun _ _ _ _ _ _ us hl => match us, hl with | [_, _], _ => rfl
theorem ok__law_pick (T : Tx K mg) (F : DefIn K mg "_law_pick" s__law_pick) (O__law_next : OkD P w K mg base 1 "_law_next" ["draws", "bound"] [.dct, .val] .val M__law_next) : OkD P w K mg base 2 "_law_pick" ["draws", "things"] [.dct, .val] .val M__law_pick := by
  refine okD_def (k := 1) (Γe := [.dct, .val]) F sc__law_pick bd__law_pick rfl (by decide) rfl fun cdv A outer s H E hr => ?_
  exact (bss_cons (bs_ret (be_ix ix_seq d_ix (be_var 1) (be_callD1 0 0 O__law_next (hr.mono (by decide)) (ba_io (ba_cons (be_callB call_len dc_len T.n_len PySem.boot_len (bl_cons (be_var 1) bl_nil)) ba_nil)))))
  bss_nil)

theorem sc__law_deeds : FnScope N__law_deeds ["order"] (defScope s__law_deeds) := ⟨rfl, rfl, rfl, by decide +kernel, rfl, by decide +kernel, by decide +kernel⟩
theorem bd__law_deeds : BindsOk s__law_deeds ["order"] "_law_deeds" := fun _ _ _ _ _ _ us hl => match us, hl with | [_], _ => rfl
theorem ok__law_deeds (T : Tx K mg) (F : DefIn K mg "_law_deeds" s__law_deeds) : OkD P w K mg base 1 "_law_deeds" ["order"] [.val] .val M__law_deeds := by
  refine okD_def (k := 0) (Γe := [.val, .val, .val, .val, .val, .val, .val, .val, .val, .val, .val, .val, .val]) F sc__law_deeds bd__law_deeds rfl (by decide) rfl fun cdv A outer s H E hr => ?_
  exact (bss_cons (bs_setO 1 sc__law_deeds.nd (bo_nil (m := .val)))
  (bss_cons (bs_for PassesOwn.never rfl (bi_rg2 T.n_range be_int (be_op op_addA d_add (be_callB call_len dc_len T.n_len PySem.boot_len (bl_cons (be_var 0) bl_nil)) be_int)) (bg_name 2 sc__law_deeds.nd)
  (bss_cons (bs_set 3 sc__law_deeds.nd (be_index (hu65 hr) (be_var 0) (be_var 2)))
  (bss_cons (bs_setO 4 sc__law_deeds.nd (bo_nil (m := .val)))
  (bss_cons (bs_set 5 sc__law_deeds.nd (be_frz (bo_nil (m := .val))))
  (bss_cons (bs_for PassesOwn.never rfl (bi_rg1 T.n_range (be_op op_addA d_add (be_callB call_len dc_len T.n_len PySem.boot_len (bl_cons (be_var 0) bl_nil)) be_int)) (bg_name 6 sc__law_deeds.nd)
  (bss_cons (bs_if (bt_w (bw_or (bt_cmp (op_eqD (hu64 hr)) d_eq (be_var 6) (be_callB call_len dc_len T.n_len PySem.boot_len (bl_cons (be_var 0) bl_nil))) (bw_or1 (bt_cmp op_lt d_lt (be_ix ix_seq d_ix (be_var 0) (be_var 6)) (be_var 2)))))
  (bss_cons (bs_if (bt_cmp op_gt d_gt (be_callB call_len dc_len T.n_len PySem.boot_len (bl_cons (be_var 5) bl_nil)) be_int)
  (bss_cons (bs_append 4 (be_bo (be_var 5)))
  bss_nil)
  bss_nil)
  (bss_cons (bs_set 5 sc__law_deeds.nd (be_frz (bo_nil (m := .val))))
  bss_nil))
  (bss_cons (bs_set 5 sc__law_deeds.nd (be_op op_addA d_add (be_var 5) (be_frz (bo_lst (bl_cons (be_var 6) bl_nil)))))
  bss_nil))
  bss_nil))
  (bss_cons (bs_set 7 sc__law_deeds.nd (be_ix ix_seq d_ix (be_frz (bo_lc [("k", 12)] rfl sc__law_deeds.nd (bi_rg1 T.n_range (be_lend (be_callB call_len dc_len T.n_len PySem.boot_len (bl_cons (be_var 4) bl_nil)))) (blkOk_by (N := N__law_deeds) (sc := defScope s__law_deeds) (by decide +kernel)) (fun _ _ _ _ _ => (bg_name 12 sc__law_deeds.nd)) (fun _ _ _ _ _ => (bts_one (bt_cmp (op_inA (hu65 hr)) d_in (be_var 3) (be_ixO 4 (be_var 12))))) (fun _ _ _ _ _ => (be_bo (be_var 12))))) be_int))
  (bss_cons (bs_set 8 sc__law_deeds.nd (be_ixO 4 (be_var 7)))
  (bss_cons (bs_par 9 10 rfl sc__law_deeds.nd (bl_cons (be_cmp op_lt d_lt (be_ix ix_seq d_ix (be_var 8) be_int) (be_var 3)) (bl_cons (be_cmp op_gt d_gt (be_ix ix_seq d_ix (be_var 8) (be_un un_neg d_neg be_int)) (be_var 3)) bl_nil)))
  (bss_cons (bs_set 11 sc__law_deeds.nd (be_if (bt_w (bw_and (bt_val (be_var 9)) (bw_and1 (bt_val (be_var 10))))) be_str (be_if (bt_val (be_var 9)) be_str (be_if (bt_val (be_var 10)) be_str be_str))))
  (bss_cons (bs_append 1 (be_bo (be_tup (bl_cons (be_var 7) (bl_cons (be_var 11) bl_nil)))))
  (bss_frz 4 bss_nil)))))))))))
  (bss_frz 1 (bss_cons (bs_ret (be_var 1))
  bss_nil))))

theorem sc__law_done : FnScope N__law_done ["deeds"] (defScope s__law_done) := ⟨rfl, rfl, rfl, by decide +kernel, rfl, by decide +kernel, by decide +kernel⟩
theorem bd__law_done : BindsOk s__law_done ["deeds"] "_law_done" := fun _ _ _ _ _ _ us hl => match us, hl with | [_], _ => rfl
theorem ok__law_done (T : Tx K mg) (F : DefIn K mg "_law_done" s__law_done) : OkD P w K mg base 1 "_law_done" ["deeds"] [.val] .val M__law_done := by
  refine okD_def (k := 0) (Γe := [.val, .val, .val, .val, .val, .val, .val, .val, .val]) F sc__law_done bd__law_done rfl (by decide) rfl fun cdv A outer s H E hr => ?_
  exact (bss_cons (bs_set 1 sc__law_done.nd (be_if (bt_cmp op_gt d_gt (be_callB call_len dc_len T.n_len PySem.boot_len (bl_cons (be_var 0) bl_nil)) be_int) (be_frz (bo_lst (bl_cons be_non bl_nil))) (be_frz (bo_nil (m := .val)))))
  (bss_cons (bs_for PassesOwn.never rfl (bi_rg1 T.n_range (be_callB call_len dc_len T.n_len PySem.boot_len (bl_cons (be_var 0) bl_nil))) (bg_name 2 sc__law_done.nd)
  (bss_cons (bs_setLc 3 [("at", 6)] rfl sc__law_done.nd rfl rfl (sw_true rfl rfl rfl (by decide +kernel)) (bi_rg1 T.n_range (be_callB call_len dc_len T.n_len PySem.boot_len (bl_cons (be_var 1) bl_nil))) (blkOk_by (N := N__law_done) (sc := defScope s__law_done) (by decide +kernel)) (fun _ _ _ _ _ => (bg_name 6 sc__law_done.nd)) (fun _ _ _ _ _ => (bts_one (bt_cmp op_isA d_is (be_ix ix_seq d_ix (be_var 1) (be_var 6)) be_non))) (fun _ _ _ _ _ => (be_bo (be_var 6))))
  (bss_frz 3 (bss_cons (bs_asg (be_ix ix_seq d_ix (be_var 0) (be_var 2)) (bg_tup rfl (bgs_cons (bg_name 4 sc__law_done.nd) (bgs_cons (bg_name 5 sc__law_done.nd) bgs_nil))))
  (bss_cons (bs_if (bt_w (bw_or (bt_cmp op_ge d_ge (be_var 4) (be_callB call_len dc_len T.n_len PySem.boot_len (bl_cons (be_var 3) bl_nil))) (bw_or1 (bt_cmp op_lt d_lt (be_var 4) be_int))))
  (bss_cons (bs_ret be_non)
  bss_nil)
  bss_nil)
  (bss_cons (bs_set 6 sc__law_done.nd (be_ix ix_seq d_ix (be_var 3) (be_var 4)))
  (bss_cons (bs_set 7 sc__law_done.nd (be_if (bt_cmp (op_inA (hu65 hr)) d_in (be_var 5) (be_frz (bo_lst (bl_cons be_str (bl_cons be_str bl_nil))))) (be_frz (bo_lst (bl_cons be_non bl_nil))) (be_frz (bo_nil (m := .val)))))
  (bss_cons (bs_set 8 sc__law_done.nd (be_if (bt_cmp (op_inA (hu65 hr)) d_in (be_var 5) (be_frz (bo_lst (bl_cons be_str (bl_cons be_str bl_nil))))) (be_frz (bo_lst (bl_cons be_non bl_nil))) (be_frz (bo_nil (m := .val)))))
  (bss_cons (bs_set 1 sc__law_done.nd (be_op op_addA d_add (be_op op_addA d_add (be_op op_addA d_add (be_op op_addA d_add (be_slice (be_var 1) bp_none (bp_some (be_var 6))) (be_var 7)) (be_frz (bo_lst (bl_cons (be_op op_addA d_add (be_var 2) be_int) bl_nil)))) (be_var 8)) (be_slice (be_var 1) (bp_some (be_op op_addA d_add (be_var 6) be_int)) bp_none)))
  bss_nil)))))))))
  (bss_cons (bs_ret (be_if (bt_cmp (op_inA (hu65 hr)) d_in be_non (be_var 1)) be_non (be_var 1)))
  bss_nil)))

theorem sc_law : FnScope N_law ["script"] (defScope s_law) := ⟨rfl, rfl, rfl, by decide +kernel, rfl, by decide +kernel, by decide +kernel⟩
theorem bd_law : BindsOk s_law ["script"] "law" := fun _ _ _ _ _ _ us hl => match us, hl with | [_], _ => rfl
theorem ok_law (T : Tx K mg) (F : DefIn K mg "law" s_law) (O__law_draws : OkD P w K mg base 1 "_law_draws" ["script"] [.scr] .dct M__law_draws) (O__law_order : OkD P w K mg base 2 "_law_order" ["draws", "many"] [.dct, .val] .val M__law_order) (O__law_copy : OkD P w K mg base 6 "_law_copy" ["thing"] [.val] .val (M__law_copy 6)) (O_deeds_of : OkD P w K mg base 1 "deeds_of" ["order"] [.val] .val M_deeds_of) (O_order_of_deeds : OkD P w K mg base 1 "order_of_deeds" ["deeds"] [.val] .val M_order_of_deeds) (O__law_next : OkD P w K mg base 1 "_law_next" ["draws", "bound"] [.dct, .val] .val M__law_next) (O__law_same : OkD P w K mg base 6 "_law_same" ["x", "due"] [.val, .val] .val (M__law_same 6)) (O__law_pick : OkD P w K mg base 2 "_law_pick" ["draws", "things"] [.dct, .val] .val M__law_pick) (O__law_deeds : OkD P w K mg base 1 "_law_deeds" ["order"] [.val] .val M__law_deeds) (O__law_done : OkD P w K mg base 1 "_law_done" ["deeds"] [.val] .val M__law_done) : OkD P w K mg base 7 "law" ["script"] [.scr] .val M_law := by
  refine okD_def (k := 6) (Γe := [.scr, .dct, .val, .val, .val, .val, .val, .val, .val, .val, .val, .val, .val, .val, .val, .val, .val, .val, .val]) F sc_law bd_law rfl (by decide) rfl fun cdv A outer s H E hr => ?_
  exact (bss_cons (bs_setO 1 sc_law.nd (bo_callD1 0 0 O__law_draws (hr.mono (by decide)) (ba_io ba_nil)))
  (bss_cons (bs_for PassesOwn.never rfl (bi_rg1 T.n_range be_int) (bg_name 2 sc_law.nd)
  (bss_cons (bs_set 3 sc_law.nd (be_callD1 1 0 O__law_order (hr.mono (by decide)) (ba_io (ba_cons (be_callD1 1 0 O__law_next (hr.mono (by decide)) (ba_io (ba_cons be_int ba_nil))) ba_nil))))
  (bss_cons (bs_set 4 sc_law.nd (be_callD O__law_copy (hr.mono (by decide)) (bl_cons (be_var 3) bl_nil)))
  (bss_cons (bs_set 5 sc_law.nd (be_callD O_deeds_of (hr.mono (by decide)) (bl_cons (be_var 3) bl_nil)))
  (bss_cons (bs_if (bt_w (bw_or (bt_not (bt_val (be_callD O__law_same (hr.mono (by decide)) (bl_cons (be_var 5) (bl_cons (be_callD O__law_deeds (hr.mono (by decide)) (bl_cons (be_var 3) bl_nil)) bl_nil))))) (bw_or (bt_not (bt_val (be_callD O__law_same (hr.mono (by decide)) (bl_cons (be_callD O_order_of_deeds (hr.mono (by decide)) (bl_cons (be_var 5) bl_nil)) (bl_cons (be_var 3) bl_nil))))) (bw_or1 (bt_not (bt_val (be_callD O__law_same (hr.mono (by decide)) (bl_cons (be_var 3) (bl_cons (be_var 4) bl_nil)))))))))
  (bss_cons (bs_ret be_bl)
  bss_nil)
  bss_nil)
  (bss_cons (bs_set 6 sc_law.nd (be_frz (bo_lc [("k", 17)] rfl sc_law.nd (bi_rg1 T.n_range (be_callD1 1 0 O__law_next (hr.mono (by decide)) (ba_io (ba_cons be_int ba_nil)))) (blkOk_by (N := N_law) (sc := defScope s_law) (by decide +kernel)) (fun _ _ _ _ _ => (bg_name 17 sc_law.nd)) (fun _ _ _ _ _ => bts_nil) (fun _ _ _ _ _ => (be_bo (be_tup (bl_cons (be_callD1 1 0 O__law_next (hr.mono (by decide)) (ba_io (ba_cons be_int ba_nil))) (bl_cons (be_callD1 1 0 O__law_pick (hr.mono (by decide)) (ba_io (ba_cons (be_frz (bo_lst (bl_cons be_str (bl_cons be_str (bl_cons be_str (bl_cons be_str (bl_cons be_str bl_nil))))))) ba_nil))) bl_nil))))))))
  (bss_cons (bs_if (bt_w (bw_and (bt_cmp (op_eqD (hu64 hr)) d_eq (be_callD1 1 0 O__law_next (hr.mono (by decide)) (ba_io (ba_cons be_int ba_nil))) be_int) (bw_and1 (bt_cmp op_gt d_gt (be_callB call_len dc_len T.n_len PySem.boot_len (bl_cons (be_var 5) bl_nil)) be_int))))
  (bss_cons (bs_set 7 sc_law.nd (be_callD1 1 0 O__law_next (hr.mono (by decide)) (ba_io (ba_cons (be_callB call_len dc_len T.n_len PySem.boot_len (bl_cons (be_var 5) bl_nil)) ba_nil))))
  (bss_cons (bs_set 6 sc_law.nd (be_op op_addA d_add (be_op op_addA d_add (be_slice (be_var 5) bp_none (bp_some (be_var 7))) (be_frz (bo_lst (bl_cons (be_tup (bl_cons (be_callD1 1 0 O__law_pick (hr.mono (by decide)) (ba_io (ba_cons (be_frz (bo_lst (bl_cons be_int (bl_cons be_int (bl_cons (be_un un_neg d_neg be_int) (bl_cons be_int bl_nil)))))) ba_nil))) (bl_cons (be_callD1 1 0 O__law_pick (hr.mono (by decide)) (ba_io (ba_cons (be_frz (bo_lst (bl_cons be_str (bl_cons be_str bl_nil)))) ba_nil))) bl_nil))) bl_nil)))) (be_slice (be_var 5) (bp_some (be_op op_addA d_add (be_var 7) be_int)) bp_none)))
  bss_nil))
  bss_nil)
  (bss_cons (bs_set 8 sc_law.nd (be_callD O_order_of_deeds (hr.mono (by decide)) (bl_cons (be_frz (bo_callTy call_list_of dn_list T.n_list PyProof.Rows.boot_list (bl_cons (be_var 6) bl_nil))) bl_nil)))
  (bss_cons (bs_if (bt_w (bw_or (bt_not (bt_val (be_callD O__law_same (hr.mono (by decide)) (bl_cons (be_var 8) (bl_cons (be_callD O__law_done (hr.mono (by decide)) (bl_cons (be_var 6) bl_nil)) bl_nil))))) (bw_or1 (bt_w (bw_and (bt_cmp op_isnotA d_isnot (be_var 8) be_non) (bw_and1 (bt_not (bt_val (be_callD O__law_same (hr.mono (by decide)) (bl_cons (be_callD O_deeds_of (hr.mono (by decide)) (bl_cons (be_var 8) bl_nil)) (bl_cons (be_var 6) bl_nil)))))))))))
  (bss_cons (bs_ret be_bl)
  bss_nil)
  bss_nil)
  bss_nil)))))))))
  (bss_cons (bs_set 9 sc_law.nd (be_op op_addA d_add be_int (be_callD1 1 0 O__law_next (hr.mono (by decide)) (ba_io (ba_cons be_int ba_nil)))))
  (bss_cons (bs_set 10 sc_law.nd (be_frz (bo_lst (bl_cons (be_frz (bo_nil (m := .val))) bl_nil))))
  (bss_cons (bs_for PassesOwn.never rfl (bi_rg1 T.n_range (be_var 9)) (bg_name 2 sc_law.nd)
  (bss_cons (bs_set 11 sc_law.nd (be_frz (bo_nil (m := .val))))
  (bss_cons (bs_for PassesOwn.never rfl (bi_seq (be_var 10)) (bg_name 6 sc_law.nd)
  (bss_cons (bs_set 12 sc_law.nd (be_op op_addA d_add be_int (be_callB (cr_sum rfl) dc_sum T.n_sum (by decide +kernel) (bl_cons (be_frz (bo_lc [("slot", 13), ("word", 18)] rfl sc_law.nd (bi_seq (be_var 6)) (blkOk_by (N := N_law) (sc := defScope s_law) (by decide +kernel)) (fun _ _ _ _ _ => (bg_tup rfl (bgs_cons (bg_name 13 sc_law.nd) (bgs_cons (bg_name 18 sc_law.nd) bgs_nil)))) (fun _ _ _ _ _ => bts_nil) (fun _ _ _ _ _ => (be_bo (be_dget (hu1 hr) (be_frz (bo_disp (l := [((cE (.str ("fill" : Str))), (unE negD (cE (.int 1)))), ((cE (.str ("left" : Str))), (cE (.int 0))), ((cE (.str ("middle" : Str))), (cE (.int 1))), ((cE (.str ("right" : Str))), (cE (.int 0)))]) (pps_cons be_str (be_un un_neg d_neg be_int) (pps_cons be_str be_int (pps_cons be_str be_int (pps_cons be_str be_int pps_nil)))))) (be_var 18)))))) bl_nil))))
  (bss_cons (bs_for PassesOwn.never rfl (bi_rg1 T.n_range (be_var 12)) (bg_name 13 sc_law.nd)
  (bss_cons (bs_set 11 sc_law.nd (be_op op_addA d_add (be_var 11) (be_frz (bo_lc [("word", 18)] rfl sc_law.nd (bi_seq (be_frz (bo_lst (bl_cons be_str (bl_cons be_str (bl_cons be_str (bl_cons be_str bl_nil))))))) (blkOk_by (N := N_law) (sc := defScope s_law) (by decide +kernel)) (fun _ _ _ _ _ => (bg_name 18 sc_law.nd)) (fun _ _ _ _ _ => bts_nil) (fun _ _ _ _ _ => (be_bo (be_op op_addA d_add (be_var 6) (be_frz (bo_lst (bl_cons (be_tup (bl_cons (be_var 13) (bl_cons (be_var 18) bl_nil))) bl_nil))))))))))
  bss_nil))
  bss_nil)))
  (bss_cons (bs_set 10 sc_law.nd (be_var 11))
  bss_nil))))
  (bss_cons (bs_setLc 14 [("deeds", 6)] rfl sc_law.nd rfl rfl (sw_true rfl rfl rfl (by decide +kernel)) (bi_seq (be_var 10)) (blkOk_by (N := N_law) (sc := defScope s_law) (by decide +kernel)) (fun _ _ _ _ _ => (bg_name 6 sc_law.nd)) (fun _ _ _ _ _ => bts_nil) (fun _ _ _ _ _ => (be_bo (be_callD O_order_of_deeds (hr.mono (by decide)) (bl_cons (be_var 6) bl_nil)))))
  (bss_frz 14 (bss_cons (bs_setLc 15 [("order", 3)] rfl sc_law.nd rfl rfl (sw_true rfl rfl rfl (by decide +kernel)) (bi_seq (be_var 14)) (blkOk_by (N := N_law) (sc := defScope s_law) (by decide +kernel)) (fun _ _ _ _ _ => (bg_name 3 sc_law.nd)) (fun _ _ _ _ _ => (bts_one (bt_cmp op_isnotA d_isnot (be_var 3) be_non))) (fun _ _ _ _ _ => (be_bo (be_var 3))))
  (bss_frz 15 (bss_cons (bs_set 16 sc_law.nd be_int)
  (bss_cons (bs_for PassesOwn.never rfl (bi_rg1 T.n_range (be_var 9)) (bg_name 17 sc_law.nd)
  (bss_cons (bs_set 16 sc_law.nd (be_op op_mulA d_mul (be_var 16) (be_op op_addA d_add (be_var 17) be_int)))
  bss_nil))
  (bss_cons (bs_ret (be_and (be_cmp (op_eqD (hu64 hr)) d_eq (be_callB call_len dc_len T.n_len PySem.boot_len (bl_cons (be_var 15) bl_nil)) (be_var 16)) (be_one (be_cmp (op_eqD (hu64 hr)) d_eq (be_lenSet rfl (hu64 hr) T.n_len T.n_sorted T.n_set (be_frz (bo_lc [("order", 3)] rfl sc_law.nd (bi_seq (be_var 15)) (blkOk_by (N := N_law) (sc := defScope s_law) (by decide +kernel)) (fun _ _ _ _ _ => (bg_name 3 sc_law.nd)) (fun _ _ _ _ _ => bts_nil) (fun _ _ _ _ _ => (be_bo (be_callTy call_tuple_of dc_tuple T.n_tuple PyProof.Rows.boot_tuple (bl_cons (be_var 3) bl_nil))))))) (be_var 16)))))
  bss_nil))))))))))))
theorem ok_all (T : Tx K mg) (F__law_draws : DefIn K mg "_law_draws" s__law_draws) (F__law_next : DefIn K mg "_law_next" s__law_next) (F__law_order : DefIn K mg "_law_order" s__law_order) (F__law_copy : DefIn K mg "_law_copy" s__law_copy) (F_deeds_of : DefIn K mg "deeds_of" s_deeds_of) (F_order_of_deeds : DefIn K mg "order_of_deeds" s_order_of_deeds) (F__law_same : DefIn K mg "_law_same" s__law_same) (F__law_pick : DefIn K mg "_law_pick" s__law_pick) (F__law_deeds : DefIn K mg "_law_deeds" s__law_deeds) (F__law_done : DefIn K mg "_law_done" s__law_done) (F_law : DefIn K mg "law" s_law) : OkD P w K mg base 7 "law" ["script"] [.scr] .val M_law := by
  have O__law_draws := ok__law_draws (P := P) (w := w) (base := base) T F__law_draws
  have O__law_next := ok__law_next (P := P) (w := w) (base := base) T F__law_next
  have O__law_order := ok__law_order (P := P) (w := w) (base := base) T F__law_order O__law_next
  have O__law_copy := ok__law_copy (P := P) (w := w) (base := base) T F__law_copy 6
  have O_deeds_of := ok_deeds_of (P := P) (w := w) (base := base) T F_deeds_of
  have O_order_of_deeds := ok_order_of_deeds (P := P) (w := w) (base := base) T F_order_of_deeds
  have O__law_same := ok__law_same (P := P) (w := w) (base := base) T F__law_same 6
  have O__law_pick := ok__law_pick (P := P) (w := w) (base := base) T F__law_pick O__law_next
  have O__law_deeds := ok__law_deeds (P := P) (w := w) (base := base) T F__law_deeds
  have O__law_done := ok__law_done (P := P) (w := w) (base := base) T F__law_done
  have O_law := ok_law (P := P) (w := w) (base := base) T F_law O__law_draws O__law_order O__law_copy O_deeds_of O_order_of_deeds O__law_next O__law_same O__law_pick O__law_deeds O__law_done
  exact O_law
end
end My

set_option pp.maxSteps 400
set_option Elab.async false
set_option linter.all false
set_option maxRecDepth 100000
set_option maxHeartbeats 4000000
namespace My
open PySem PySem.Spec L2 BV
/-! ## _law_same of a thing and itself -/
theorem same_refl : ∀ (n : Nat) (d : D), Nice n d → n ≤ 60 → ∃ o, M__law_same n [d, d] = some (.bool true, o)
  | 0, _, h, _ => h.elim
  | n + 1, d, h, hn => by
    have fin : Post (B__law_same (M__law_same n)) [some d, some d, none, none] (fun fl _ => fl = .rt (.bool true)) → ∃ o, M__law_same (n + 1) [d, d] = some (.bool true, o) := fun ⟨fl, ρ', e, hfl⟩ => by
      subst hfl
      exact ⟨_, defM_rt e⟩
    have he := eq_refl_ev h (by omega)
    refine fin ?_
    unfold B__law_same
    cases d with
    | none => exact po_if (v := true) rfl (fun _ => po_seq_ret (po_ret rfl rfl)) (fun z => by cases z)
    | bool b => exact po_if0 rfl (po_if (v := true) rfl (fun _ => po_seq_ret (po_ret (and_evT rfl (op_ev rfl rfl he)) rfl)) (fun z => by cases z))
    | int i => exact po_if0 rfl (po_if0 rfl (po_if (v := true) rfl (fun _ => po_seq_ret (po_ret (and_evT rfl (and_evT rfl (op_ev rfl rfl he))) rfl)) (fun z => by cases z)))
    | str s => exact po_if0 rfl (po_if0 rfl (po_if0 rfl (po_if (v := true) rfl (fun _ => po_seq_ret (po_ret (and_evT rfl (op_ev rfl rfl he)) rfl)) (fun z => by cases z))))
    | dict ds => exact h.elim
    | list ds =>
      have hl := all_lc (f := rg1L (clE lenD (consL (varE 1) nilL))) (e := callE0 (M__law_same n) (consL (opE ixD (varE 0) (varE 3)) (consL (opE ixD (varE 1) (varE 3)) nilL))) (j := 3) (F := fun _ => true) (l := rgD 0 ds.length) (ρ0 := [some (.list ds), some (.list ds), none, none]) (ρ := [some (.list ds), some (.list ds), none, none]) (by
          rw [rg1_ev (j := ds.length) (len_ev rfl) (by have := h.1; omega)]; rfl) (by rw [rgD_len]; exact h.1) (Nat.le_of_ble_eq_true rfl) fun d hd => by
        obtain ⟨k, hk, rfl⟩ := rg_mem hd
        obtain ⟨o, e⟩ := same_refl n ds[k] (h.2 _ (List.getElem_mem hk)) (by omega)
        exact c0_ev (cl_ev (ix_ev (xs := ds) (i := (k : Int)) rfl rfl (atI_nat hk)) (cl_ev (ix_ev (xs := ds) (i := (k : Int)) rfl rfl (atI_nat hk)) rfl)) e
      rw [show (rgD 0 ds.length).all (fun _ => true) = true from List.all_eq_true.mpr fun _ _ => rfl] at hl
      have hlen : opE eqD (clE lenD (consL (varE 0) nilL)) (clE lenD (consL (varE 1) nilL)) [some (.list ds), some (.list ds), none, none] = some (.bool true, [some (.list ds), some (.list ds), none, none]) := op_ev (len_ev rfl) (len_ev rfl) (eq_refl_ev (n := 1) trivial (by omega))
      exact po_if0 rfl (po_if0 rfl (po_if0 rfl (po_if0 rfl (po_if0 rfl (po_if (v := true) rfl (fun _ => po_seq_ret (po_ret (and_evT rfl (and_evT hlen hl)) rfl)) (fun z => by cases z))))))
    | tuple ds =>
      have hl := all_lc (f := rg1L (clE lenD (consL (varE 1) nilL))) (e := callE0 (M__law_same n) (consL (opE ixD (varE 0) (varE 3)) (consL (opE ixD (varE 1) (varE 3)) nilL))) (j := 3) (F := fun _ => true) (l := rgD 0 ds.length) (ρ0 := [some (.tuple ds), some (.tuple ds), none, none]) (ρ := [some (.tuple ds), some (.tuple ds), none, none]) (by
          rw [rg1_ev (j := ds.length) (ce_ev (cl_ev rfl rfl) rfl) (by have := h.1; omega)]; rfl) (by rw [rgD_len]; exact h.1) (Nat.le_of_ble_eq_true rfl) fun d hd => by
        obtain ⟨k, hk, rfl⟩ := rg_mem hd
        obtain ⟨o, e⟩ := same_refl n ds[k] (h.2 _ (List.getElem_mem hk)) (by omega)
        exact c0_ev (cl_ev (ixt_ev (xs := ds) (i := (k : Int)) rfl rfl (atI_nat hk)) (cl_ev (ixt_ev (xs := ds) (i := (k : Int)) rfl rfl (atI_nat hk)) rfl)) e
      rw [show (rgD 0 ds.length).all (fun _ => true) = true from List.all_eq_true.mpr fun _ _ => rfl] at hl
      have hlen : opE eqD (clE lenD (consL (varE 0) nilL)) (clE lenD (consL (varE 1) nilL)) [some (.tuple ds), some (.tuple ds), none, none] = some (.bool true, [some (.tuple ds), some (.tuple ds), none, none]) := op_ev (ce_ev (cl_ev rfl rfl) rfl) (ce_ev (cl_ev rfl rfl) rfl) (eq_refl_ev (n := 1) (d := .int ds.length) trivial (by omega))
      exact po_if0 rfl (po_if0 rfl (po_if0 rfl (po_if0 rfl (po_if0 rfl (po_if0 rfl (po_ret (and_evT rfl (and_evT hlen hl)) rfl))))))
end My

set_option pp.maxSteps 400
set_option Elab.async false
set_option linter.all false
set_option maxRecDepth 100000
set_option maxHeartbeats 4000000
namespace My
open PySem PySem.Spec L2 BV
/-! ## the draws of a law -/
theorem next_ok {d : D} {b : Int} (h : Dr d) (hb : 0 < b) : ∃ (r : Int) (d' : D), Dr d' ∧ 0 ≤ r ∧ r < b ∧ M__law_next [d, .int b] = some (.int r, [some d', none]) := by
  obtain ⟨ns, a, rfl, h1, h2, h3⟩ := h
  have hl : 0 < ns.length := List.length_pos_iff.mpr h1
  have e0 : 0 ≤ a % (ns.length : Int) := Int.emod_nonneg _ (by omega)
  have e1 : a % (ns.length : Int) < ns.length := Int.emod_lt_of_pos _ (by omega)
  obtain ⟨x, hx, -⟩ := atI_lt (xs := ns.map PyData.int) e0 (by rw [List.length_map]; exact e1)
  have hx' : ∃ n : Int, x = .int n := by
    have q := hx
    unfold atI at q
    cases e : ixN (ns.map PyData.int).length (a % (ns.length : Int)) with
    | none => rw [e] at q; cases q
    | some k =>
      rw [e] at q
      simp only [Option.bind_some, List.getElem?_map] at q
      cases e2 : ns[k]? with
      | none => rw [e2] at q; cases q
      | some n => rw [e2] at q; cases q; exact ⟨n, rfl⟩
  obtain ⟨n, rfl⟩ := hx'
  refine ⟨(n + 31 * (a / ns.length)) % b, drD ns (a + 1), ⟨ns, a + 1, rfl, h1, h2, by omega⟩, Int.emod_nonneg _ (by omega), Int.emod_lt_of_pos _ hb, ?_⟩
  have k1 : lookD (.str ("at" : Str)) [(.str ("numbers" : Str), .list (ns.map .int)), (.str ("at" : Str), .int a)] = some (.int a) := rfl
  have k2 : ∀ z : Int, lookD (.str ("numbers" : Str)) [(.str ("numbers" : Str), .list (ns.map .int)), (.str ("at" : Str), .int z)] = some (.list (ns.map .int)) := fun _ => rfl
  have k3 : putD (.str ("at" : Str)) (.int (a + 1)) [(.str ("numbers" : Str), .list (ns.map .int)), (.str ("at" : Str), .int a)] = [(.str ("numbers" : Str), .list (ns.map .int)), (.str ("at" : Str), .int (a + 1))] := rfl
  have c1 : (0 < (ns.length : Int)) := by omega
  have c2 : ((ns.length : Int) < 1073741824) := by omega
  have c3 : (Int.natAbs 31 < 18446744073709551616) := by decide
  simp only [M__law_next, defM, B__law_next, drD, seqS, asgS, asgG, clE, consL, nilL, dgetO, cE, keyD, intD, dputS, opE, unE, varE, addD, subD, retS, lenD, modD, fdivD, mulD, ixD, ltD, leD, gtD, geD, isD, isnotD, isNone, ifS, ifE, bE, notT, notE, andT, orT, andE, orE, callE0, callE1, ioA', nilA, consA, nxS, bkS, ctS, exS, isiE, isT, tupE, lstE, forS, seqL, lstL, tplL, appS, popAtE, popE, borE, borT, scalar, absD, listD, tupleD, gN, gT, gTs, outs, Md.own, okA, yT, slScr, noO, atO, negD, augS, ixO, revE, slE, slD, List.all_cons, List.all_nil, Option.isSome_some, Option.isSome_none, List.getD_cons_zero, List.getD_cons_succ, Option.getD_some, Option.getD_none, or_true, true_or, List.getElem?_cons_zero, List.getElem?_cons_succ, List.set_cons_succ, List.set_cons_zero, List.length_cons, List.length_nil, List.map_cons, List.map_nil, List.replicate_succ, List.replicate_zero, List.cons_append, List.nil_append, if_true, if_false, Nat.reduceAdd, Nat.reduceSub, Nat.reduceLeDiff, Nat.reduceLT, Int.reduceLT, Int.reduceLE, Int.reduceNeg, Int.reduceAdd, Int.reduceMul, Int.reduceSub, and_self, true_and, and_true, decide_true, decide_false, Bool.not_true, Bool.not_false, List.length_map, Option.map_some, Nat.reduceEqDiff, Bool.and_true, Bool.true_and, Bool.false_and, Bool.and_false, List.length_append, Bool.false_eq_true, reduceIte, reduceCtorEq, k1, k2, k3, c1, c2, c3, hx, hb, true_or]
theorem pick_ok {d : D} {l : List D} (h : Dr d) (hl : l ≠ []) : ∃ x ∈ l, ∃ d', Dr d' ∧ M__law_pick [d, .list l] = some (x, [some d', none]) := by
  have h0 : 0 < l.length := List.length_pos_iff.mpr hl
  obtain ⟨r, d', h', r0, r1, e⟩ := next_ok (b := l.length) h (by omega)
  obtain ⟨x, hx, hx2⟩ := atI_lt r0 r1
  refine ⟨x, List.mem_of_getElem? hx2, d', h', ?_⟩
  simp only [M__law_pick, defM, B__law_pick, seqS, asgS, asgG, clE, consL, nilL, dgetO, cE, keyD, intD, dputS, opE, unE, varE, addD, subD, retS, lenD, modD, fdivD, mulD, ixD, ltD, leD, gtD, geD, isD, isnotD, isNone, ifS, ifE, bE, notT, notE, andT, orT, andE, orE, callE0, callE1, ioA', nilA, consA, nxS, bkS, ctS, exS, isiE, isT, tupE, lstE, forS, seqL, lstL, tplL, appS, popAtE, popE, borE, borT, scalar, absD, listD, tupleD, gN, gT, gTs, outs, Md.own, okA, yT, slScr, noO, atO, negD, augS, ixO, revE, slE, slD, List.all_cons, List.all_nil, Option.isSome_some, Option.isSome_none, List.getD_cons_zero, List.getD_cons_succ, Option.getD_some, Option.getD_none, or_true, true_or, List.getElem?_cons_zero, List.getElem?_cons_succ, List.set_cons_succ, List.set_cons_zero, List.length_cons, List.length_nil, List.map_cons, List.map_nil, List.replicate_succ, List.replicate_zero, List.cons_append, List.nil_append, if_true, if_false, Nat.reduceAdd, Nat.reduceSub, Nat.reduceLeDiff, Nat.reduceLT, Int.reduceLT, Int.reduceLE, Int.reduceNeg, Int.reduceAdd, Int.reduceMul, Int.reduceSub, and_self, true_and, and_true, decide_true, decide_false, Bool.not_true, Bool.not_false, List.length_map, Option.map_some, Nat.reduceEqDiff, Bool.and_true, Bool.true_and, Bool.false_and, Bool.and_false, List.length_append, Bool.false_eq_true, reduceIte, reduceCtorEq]
  have e2 : List.map (fun x : Option D => x.getD d) [none, some (PyData.int l.length)] = [d, .int l.length] := rfl
  simp only [e2, e, seqS, asgS, asgG, clE, consL, nilL, dgetO, cE, keyD, intD, dputS, opE, unE, varE, addD, subD, retS, lenD, modD, fdivD, mulD, ixD, ltD, leD, gtD, geD, isD, isnotD, isNone, ifS, ifE, bE, notT, notE, andT, orT, andE, orE, callE0, callE1, ioA', nilA, consA, nxS, bkS, ctS, exS, isiE, isT, tupE, lstE, forS, seqL, lstL, tplL, appS, popAtE, popE, borE, borT, scalar, absD, listD, tupleD, gN, gT, gTs, outs, Md.own, okA, yT, slScr, noO, atO, negD, augS, ixO, revE, slE, slD, List.all_cons, List.all_nil, Option.isSome_some, Option.isSome_none, List.getD_cons_zero, List.getD_cons_succ, Option.getD_some, Option.getD_none, or_true, true_or, List.getElem?_cons_zero, List.getElem?_cons_succ, List.set_cons_succ, List.set_cons_zero, List.length_cons, List.length_nil, List.map_cons, List.map_nil, List.replicate_succ, List.replicate_zero, List.cons_append, List.nil_append, if_true, if_false, Nat.reduceAdd, Nat.reduceSub, Nat.reduceLeDiff, Nat.reduceLT, Int.reduceLT, Int.reduceLE, Int.reduceNeg, Int.reduceAdd, Int.reduceMul, Int.reduceSub, and_self, true_and, and_true, decide_true, decide_false, Bool.not_true, Bool.not_false, List.length_map, Option.map_some, Nat.reduceEqDiff, Bool.and_true, Bool.true_and, Bool.false_and, Bool.and_false, List.length_append, Bool.false_eq_true, reduceIte, reduceCtorEq, hx]
theorem order_loop : ∀ (m : Nat) (lo : Int) (l : List Int) (f : List Int) (d : D) (x t : Option D), Dr d → l.length = m → f.length + m ≤ 1000 →
    ∃ p ∈ ordersN m l, ∃ d' t', Dr d' ∧ forL (gN 4) (seqS (appS 3 (popAtE 2 (callE1 M__law_next 0 0 (ioA' 0 (consA (borE (clE lenD (consL (varE 2) nilL))) nilA))))) nxS) (rgD lo m) [some d, x, some (.list (l.map .int)), some (.list (f.map .int)), t]
      = some (.nx, [some d', x, some (.list []), some (.list ((f ++ p).map .int)), t'])
  | 0, lo, l, f, d, x, t, h, e, _ => by
    have : l = [] := List.length_eq_zero_iff.mp e
    subst this
    exact ⟨[], by simp [ordersN], d, t, h, by simp [rgD, forL]⟩
  | m + 1, lo, l, f, d, x, t, h, e, hf => by
    obtain ⟨r, d1, h1, r0, r1, e1⟩ := next_ok (b := l.length) h (by omega)
    have hk : r.toNat < l.length := by omega
    obtain ⟨p, hp, d', t', h2, e2⟩ := order_loop m (lo + 1) (l.eraseIdx r.toNat) (f ++ [l.getD r.toNat 0]) d1 x (some (.int lo)) h1 (by rw [List.length_eraseIdx_of_lt hk]; omega) (by simp only [List.length_append, List.length_cons, List.length_nil]; omega)
    refine ⟨l.getD r.toNat 0 :: p, ?_, d', t', h2, ?_⟩
    · unfold ordersN
      exact List.mem_flatMap.mpr ⟨r.toNat, List.mem_range.mpr hk, List.mem_map_of_mem hp⟩
    · have er : rgD lo (m + 1) = .int lo :: rgD (lo + 1) m := by
        unfold rgD
        rw [List.range_succ_eq_map, List.map_cons, List.map_map]
        congr 1
        · simp
        · refine List.map_congr_left fun a _ => ?_
          show PyData.int _ = PyData.int _
          congr 1
          show lo + ((a + 1 : Nat) : Int) = lo + 1 + a
          omega
      have s1 : seqIndex? r (l.map PyData.int).length = some r.toNat := by
        rw [List.length_map]
        unfold seqIndex?
        simp only [if_neg (show ¬ r < 0 by omega)]
        rw [if_pos (by simp; omega)]
      have s2 : (l.map PyData.int)[r.toNat]? = some (.int (l.getD r.toNat 0)) := by
        rw [List.getElem?_map, List.getElem?_eq_getElem hk, List.getD_eq_getElem?_getD, List.getElem?_eq_getElem hk]; rfl
      have s3 : r.natAbs < 1000000 := by omega
      have s4 : (f.map PyData.int).length < 1000000 := by rw [List.length_map]; omega
      have s5 : (l.map PyData.int).eraseIdx r.toNat = (l.eraseIdx r.toNat).map .int := by
        apply List.ext_getElem?
        intro i
        simp only [List.getElem?_eraseIdx, List.getElem?_map]
        split <;> rfl
      have m2 : List.map (fun y : Option D => y.getD d) [none, some (PyData.int l.length)] = [d, .int l.length] := rfl
      rw [er]
      unfold forL
      rw [List.length_map] at s1 s4
      simp only [seqS, asgS, asgG, clE, consL, nilL, dgetO, cE, keyD, intD, dputS, opE, unE, varE, addD, subD, retS, lenD, modD, fdivD, mulD, ixD, ltD, leD, gtD, geD, isD, isnotD, isNone, ifS, ifE, bE, notT, notE, andT, orT, andE, orE, callE0, callE1, ioA', nilA, consA, nxS, bkS, ctS, exS, isiE, isT, tupE, lstE, forS, seqL, lstL, tplL, appS, popAtE, popE, borE, borT, scalar, absD, listD, tupleD, gN, gT, gTs, outs, Md.own, okA, yT, slScr, noO, atO, negD, augS, ixO, revE, slE, slD, List.all_cons, List.all_nil, Option.isSome_some, Option.isSome_none, List.getD_cons_zero, List.getD_cons_succ, Option.getD_some, Option.getD_none, or_true, true_or, List.getElem?_cons_zero, List.getElem?_cons_succ, List.set_cons_succ, List.set_cons_zero, List.length_cons, List.length_nil, List.map_cons, List.map_nil, List.replicate_succ, List.replicate_zero, List.cons_append, List.nil_append, if_true, if_false, Nat.reduceAdd, Nat.reduceSub, Nat.reduceLeDiff, Nat.reduceLT, Int.reduceLT, Int.reduceLE, Int.reduceNeg, Int.reduceAdd, Int.reduceMul, Int.reduceSub, and_self, true_and, and_true, decide_true, decide_false, Bool.not_true, Bool.not_false, List.length_map, Option.map_some, Nat.reduceEqDiff, Bool.and_true, Bool.true_and, Bool.false_and, Bool.and_false, List.length_append, Bool.false_eq_true, reduceIte, reduceCtorEq, m2, e1, s1, s2, s3, s4, s5]
      have e3 : (f ++ l.getD r.toNat 0 :: p) = f ++ [l.getD r.toNat 0] ++ p := by simp
      rw [e3, ← e2]
      simp only [List.map_append, List.map_cons, List.map_nil]
theorem order_ok {d : D} (n : Nat) (h : Dr d) (hn : n ≤ 1000) : ∃ p ∈ ordersN n ((List.range n).map fun (i : Nat) => (1 + (i : Int))), ∃ d', Dr d' ∧ M__law_order [d, .int n] = some (.list (p.map .int), [some d', none]) := by
  obtain ⟨p, hp, d', t', h', e⟩ := order_loop n 0 ((List.range n).map fun (i : Nat) => (1 + (i : Int))) [] d (some (.int n)) none h (by simp) (by simp; omega)
  refine ⟨p, hp, d', h', ?_⟩
  have c1 : (-1000000 ≤ (n : Int)) := by omega
  have c2 : ((n : Int) ≤ 1000000) := by omega
  have c3 : (-1000000 ≤ (n : Int) + 1) := by omega
  have c4 : ((n : Int) + 1 ≤ 1000000) := by omega
  have c5 : ((n : Int) + 1 - 1).toNat = n := by omega
  have c6 : (n : Int).toNat = n := by omega
  have c7 : rgD 1 n = ((List.range n).map fun (i : Nat) => (1 + (i : Int))).map .int := by unfold rgD; rw [List.map_map]; rfl
  refine defM_rt (d := .list (p.map .int)) (ρ' := [some d', some (.int n), some (.list []), some (.list (p.map .int)), t']) ?_
  show B__law_order [some d, some (.int n), none, none, none] = _
  unfold B__law_order
  rw [seq_nx (ρ' := [some d, some (.int n), some (.list (((List.range n).map fun (i : Nat) => (1 + (i : Int))).map .int)), none, none]) (by
    rw [asg_ev (lrg2_ev (rg2_ev (i := 1) (j := (n : Int) + 1) (ρ2 := [some d, some (.int n), none, none, none]) rfl rfl ⟨by decide, by decide⟩ ⟨c3, c4⟩)), c5, c7]
    rfl)]
  rw [seq_nx (ρ' := [some d, some (.int n), some (.list (((List.range n).map fun (i : Nat) => (1 + (i : Int))).map .int)), some (.list []), none]) (by simp only [seqS, asgS, asgG, clE, consL, nilL, dgetO, cE, keyD, intD, dputS, opE, unE, varE, addD, subD, retS, lenD, modD, fdivD, mulD, ixD, ltD, leD, gtD, geD, isD, isnotD, isNone, ifS, ifE, bE, notT, notE, andT, orT, andE, orE, callE0, callE1, ioA', nilA, consA, nxS, bkS, ctS, exS, isiE, isT, tupE, lstE, forS, seqL, lstL, tplL, appS, popAtE, popE, borE, borT, scalar, absD, listD, tupleD, gN, gT, gTs, outs, Md.own, okA, yT, slScr, noO, atO, negD, augS, ixO, revE, slE, slD, List.all_cons, List.all_nil, Option.isSome_some, Option.isSome_none, List.getD_cons_zero, List.getD_cons_succ, Option.getD_some, Option.getD_none, or_true, true_or, List.getElem?_cons_zero, List.getElem?_cons_succ, List.set_cons_succ, List.set_cons_zero, List.length_cons, List.length_nil, List.map_cons, List.map_nil, List.replicate_succ, List.replicate_zero, List.cons_append, List.nil_append, if_true, if_false, Nat.reduceAdd, Nat.reduceSub, Nat.reduceLeDiff, Nat.reduceLT, Int.reduceLT, Int.reduceLE, Int.reduceNeg, Int.reduceAdd, Int.reduceMul, Int.reduceSub, and_self, true_and, and_true, decide_true, decide_false, Bool.not_true, Bool.not_false, List.length_map, Option.map_some, Nat.reduceEqDiff, Bool.and_true, Bool.true_and, Bool.false_and, Bool.and_false, List.length_append, Bool.false_eq_true, reduceIte, reduceCtorEq])]
  rw [seq_nx (for_nx (l := rgD 0 n) (by rw [rg1_ev (j := n) (ρ1 := [some d, some (.int n), some (.list (((List.range n).map fun (i : Nat) => (1 + (i : Int))).map .int)), some (.list []), none]) rfl ⟨c1, c2⟩, c6]; rfl) e)]
  simp only [seqS, asgS, asgG, clE, consL, nilL, dgetO, cE, keyD, intD, dputS, opE, unE, varE, addD, subD, retS, lenD, modD, fdivD, mulD, ixD, ltD, leD, gtD, geD, isD, isnotD, isNone, ifS, ifE, bE, notT, notE, andT, orT, andE, orE, callE0, callE1, ioA', nilA, consA, nxS, bkS, ctS, exS, isiE, isT, tupE, lstE, forS, seqL, lstL, tplL, appS, popAtE, popE, borE, borT, scalar, absD, listD, tupleD, gN, gT, gTs, outs, Md.own, okA, yT, slScr, noO, atO, negD, augS, ixO, revE, slE, slD, List.all_cons, List.all_nil, Option.isSome_some, Option.isSome_none, List.getD_cons_zero, List.getD_cons_succ, Option.getD_some, Option.getD_none, or_true, true_or, List.getElem?_cons_zero, List.getElem?_cons_succ, List.set_cons_succ, List.set_cons_zero, List.length_cons, List.length_nil, List.map_cons, List.map_nil, List.replicate_succ, List.replicate_zero, List.cons_append, List.nil_append, if_true, if_false, Nat.reduceAdd, Nat.reduceSub, Nat.reduceLeDiff, Nat.reduceLT, Int.reduceLT, Int.reduceLE, Int.reduceNeg, Int.reduceAdd, Int.reduceMul, Int.reduceSub, and_self, true_and, and_true, decide_true, decide_false, Bool.not_true, Bool.not_false, List.length_map, Option.map_some, Nat.reduceEqDiff, Bool.and_true, Bool.true_and, Bool.false_and, Bool.and_false, List.length_append, Bool.false_eq_true, reduceIte, reduceCtorEq]

theorem draws_ok (ns : List Int) (h : ns.length ≤ 63) : ∃ d, Dr d ∧ ∃ o, M__law_draws [.list (ns.map .int)] = some (d, o) := by
  have hc : ∃ l : List Int, cutD (ns.map .int) none (some 8) ++ [PyData.int 7] = l.map .int ∧ l.length ≤ 64 ∧ 0 < l.length := by
    refine ⟨(ns.drop (HT.sIx (ns.map PyData.int).length 0 none)).take (HT.sIx (ns.map PyData.int).length (ns.map PyData.int).length (some 8) - HT.sIx (ns.map PyData.int).length 0 none) ++ [7], ?_, ?_, ?_⟩
    · unfold cutD
      rw [List.map_append, List.map_take, List.map_drop]; rfl
    · simp only [List.length_append, List.length_take, List.length_drop, List.length_cons, List.length_nil]; omega
    · simp
  obtain ⟨l, e, hl, hl0⟩ := hc
  have c1 : (Int.natAbs 48271 < 18446744073709551616) := by decide
  have c2 : (Int.natAbs 11 < 18446744073709551616) := by decide
  have c3 : (Int.natAbs 2862933555777941757 < 18446744073709551616) := by decide
  have hcl : (cutD (ns.map .int) none (some 8)).length + 1 ≤ 1000000 := by
    have q := congrArg List.length e
    rw [List.length_append, List.length_map] at q
    simp only [List.length_cons, List.length_nil] at q
    omega
  let I : Nat → En → Prop := fun i ρ => ∃ (nums : List Int) (a b c f : Option D), ρ = [some (.list (ns.map .int)), some (.list (nums.map .int)), a, b, c, f] ∧ nums.length = 40 * i
  have inner : ∀ (nums : List Int) (x : Option D) (cell rest mixed : Int) (f : Option D), nums.length ≤ 40 * 64 → ∃ ρ', forL (gN 5) _ (rgD 0 40) [x, some (.list (nums.map .int)), some (.int cell), some (.int rest), some (.int mixed), f] = some (.nx, ρ') ∧
      ∃ (nums' : List Int) (rest mixed : Int) (f : Option D), ρ' = [x, some (.list (nums'.map .int)), some (.int cell), some (.int rest), some (.int mixed), f] ∧ nums'.length = nums.length + 40 := fun nums x cell rest mixed f hn =>
    forL_rg (b := (seqS (ifS (bE (opE geD (varE 3) (cE (.int 1048576))))
  (seqS (appS 1 (opE modD (clE intD (consL (varE 3) nilL)) (cE (.int 1048576))))
  (seqS (asgS 3 (opE fdivD (varE 3) (cE (.int 1048576))))
  nxS))
  (seqS (asgS 4 (opE modD (clE intD (consL (opE addD (opE addD (opE addD (opE mulD (varE 4) (cE (.int 48271))) (opE mulD (cE (.int 11)) (varE 5))) (cE (.int 7))) (varE 3)) nilL)) (cE (.int 2147483647))))
  (seqS (appS 1 (opE modD (clE intD (consL (opE fdivD (opE mulD (varE 4) (cE (.int 2862933555777941757))) (cE (.int 1024))) nilL)) (cE (.int 1048576))))
  nxS)))
  nxS)) (I := fun i ρ => ∃ (nums' : List Int) (rest mixed : Int) (f : Option D), ρ = [x, some (.list (nums'.map .int)), some (.int cell), some (.int rest), some (.int mixed), f] ∧ nums'.length = nums.length + i) 0 (fun i ρ hi ⟨nums', rest, mixed, f, er, hn'⟩ => by
      subst er
      refine ⟨_, rfl, ?_⟩
      have hk : nums'.length < 1000000 := by omega
      by_cases hr : (1048576 : Int) ≤ rest
      · refine ⟨[x, some (.list ((nums' ++ [rest % 1048576]).map .int)), some (.int cell), some (.int (rest / 1048576)), some (.int mixed), some (.int (0 + i))], .inl ?_, nums' ++ [rest % 1048576], _, _, _, rfl, by rw [List.length_append]; simp only [List.length_cons, List.length_nil]; omega⟩
        simp only [seqS, asgS, asgG, clE, consL, nilL, dgetO, cE, keyD, intD, dputS, opE, unE, varE, addD, subD, retS, lenD, modD, fdivD, mulD, ixD, ltD, leD, gtD, geD, isD, isnotD, isNone, ifS, ifE, bE, notT, notE, andT, orT, andE, orE, callE0, callE1, ioA', nilA, consA, nxS, bkS, ctS, exS, isiE, isT, tupE, lstE, forS, seqL, lstL, tplL, appS, popAtE, popE, borE, borT, scalar, absD, listD, tupleD, gN, gT, gTs, outs, Md.own, okA, yT, slScr, noO, atO, negD, augS, ixO, revE, slE, slD, List.all_cons, List.all_nil, Option.isSome_some, Option.isSome_none, List.getD_cons_zero, List.getD_cons_succ, Option.getD_some, Option.getD_none, or_true, true_or, List.getElem?_cons_zero, List.getElem?_cons_succ, List.set_cons_succ, List.set_cons_zero, List.length_cons, List.length_nil, List.map_cons, List.map_nil, List.replicate_succ, List.replicate_zero, List.cons_append, List.nil_append, if_true, if_false, Nat.reduceAdd, Nat.reduceSub, Nat.reduceLeDiff, Nat.reduceLT, Int.reduceLT, Int.reduceLE, Int.reduceNeg, Int.reduceAdd, Int.reduceMul, Int.reduceSub, and_self, true_and, and_true, decide_true, decide_false, Bool.not_true, Bool.not_false, List.length_map, Option.map_some, Nat.reduceEqDiff, Bool.and_true, Bool.true_and, Bool.false_and, Bool.and_false, List.length_append, Bool.false_eq_true, reduceIte, reduceCtorEq, hr, hk, List.map_append]
      · refine ⟨[x, some (.list ((nums' ++ [((mixed * 48271 + 11 * (0 + (i : Int)) + 7 + rest) % 2147483647 * 2862933555777941757 / 1024) % 1048576]).map .int)), some (.int cell), some (.int rest), some (.int ((mixed * 48271 + 11 * (0 + (i : Int)) + 7 + rest) % 2147483647)), some (.int (0 + i))], .inl ?_, nums' ++ [_], _, _, _, rfl, by rw [List.length_append]; simp only [List.length_cons, List.length_nil]; omega⟩
        simp only [seqS, asgS, asgG, clE, consL, nilL, dgetO, cE, keyD, intD, dputS, opE, unE, varE, addD, subD, retS, lenD, modD, fdivD, mulD, ixD, ltD, leD, gtD, geD, isD, isnotD, isNone, ifS, ifE, bE, notT, notE, andT, orT, andE, orE, callE0, callE1, ioA', nilA, consA, nxS, bkS, ctS, exS, isiE, isT, tupE, lstE, forS, seqL, lstL, tplL, appS, popAtE, popE, borE, borT, scalar, absD, listD, tupleD, gN, gT, gTs, outs, Md.own, okA, yT, slScr, noO, atO, negD, augS, ixO, revE, slE, slD, List.all_cons, List.all_nil, Option.isSome_some, Option.isSome_none, List.getD_cons_zero, List.getD_cons_succ, Option.getD_some, Option.getD_none, or_true, true_or, List.getElem?_cons_zero, List.getElem?_cons_succ, List.set_cons_succ, List.set_cons_zero, List.length_cons, List.length_nil, List.map_cons, List.map_nil, List.replicate_succ, List.replicate_zero, List.cons_append, List.nil_append, if_true, if_false, Nat.reduceAdd, Nat.reduceSub, Nat.reduceLeDiff, Nat.reduceLT, Int.reduceLT, Int.reduceLE, Int.reduceNeg, Int.reduceAdd, Int.reduceMul, Int.reduceSub, and_self, true_and, and_true, decide_true, decide_false, Bool.not_true, Bool.not_false, List.length_map, Option.map_some, Nat.reduceEqDiff, Bool.and_true, Bool.true_and, Bool.false_and, Bool.and_false, List.length_append, Bool.false_eq_true, reduceIte, reduceCtorEq, hr, hk, c1, c2, c3, List.map_append]) _ ⟨nums, rest, mixed, f, rfl, rfl⟩
  obtain ⟨ρ', e1, i1⟩ := forL_cnt (g := gN 2) (I := I) (b := (seqS (asgS 3 (clE absD (consL (clE intD (consL (varE 2) nilL)) nilL)))
  (seqS (asgS 4 (opE addD (opE modD (clE intD (consL (varE 2) nilL)) (cE (.int 1000003))) (cE (.int 1))))
  (seqS (forS (rg1L (cE (.int 40))) (gN 5)
  (seqS (ifS (bE (opE geD (varE 3) (cE (.int 1048576))))
  (seqS (appS 1 (opE modD (clE intD (consL (varE 3) nilL)) (cE (.int 1048576))))
  (seqS (asgS 3 (opE fdivD (varE 3) (cE (.int 1048576))))
  nxS))
  (seqS (asgS 4 (opE modD (clE intD (consL (opE addD (opE addD (opE addD (opE mulD (varE 4) (cE (.int 48271))) (opE mulD (cE (.int 11)) (varE 5))) (cE (.int 7))) (varE 3)) nilL)) (cE (.int 2147483647))))
  (seqS (appS 1 (opE modD (clE intD (consL (opE fdivD (opE mulD (varE 4) (cE (.int 2862933555777941757))) (cE (.int 1024))) nilL)) (cE (.int 1048576))))
  nxS)))
  nxS))
  nxS)))) (l.map .int) 0 (fun d hd i ρ hi ⟨nums, a, b, c, f, er, hn⟩ => by
    subst er
    obtain ⟨cell, -, rfl⟩ := List.mem_map.mp hd
    rw [List.length_map] at hi
    refine ⟨_, rfl, ?_⟩
    obtain ⟨ρ', e2, nums', rest, mixed, f', er, hn'⟩ := inner nums (some (.list (ns.map .int))) cell (if cell < 0 then -cell else cell) (cell % 1000003 + 1) f (by omega)
    refine ⟨ρ', .inl ?_, nums', _, _, _, _, er, by omega⟩
    show seqS _ _ [some (.list (ns.map .int)), some (.list (nums.map .int)), some (.int cell), b, c, f] = _
    rw [seq_nx (ρ' := [some (.list (ns.map .int)), some (.list (nums.map .int)), some (.int cell), some (.int (if cell < 0 then -cell else cell)), c, f]) (by simp only [seqS, asgS, asgG, clE, consL, nilL, dgetO, cE, keyD, intD, dputS, opE, unE, varE, addD, subD, retS, lenD, modD, fdivD, mulD, ixD, ltD, leD, gtD, geD, isD, isnotD, isNone, ifS, ifE, bE, notT, notE, andT, orT, andE, orE, callE0, callE1, ioA', nilA, consA, nxS, bkS, ctS, exS, isiE, isT, tupE, lstE, forS, seqL, lstL, tplL, appS, popAtE, popE, borE, borT, scalar, absD, listD, tupleD, gN, gT, gTs, outs, Md.own, okA, yT, slScr, noO, atO, negD, augS, ixO, revE, slE, slD, List.all_cons, List.all_nil, Option.isSome_some, Option.isSome_none, List.getD_cons_zero, List.getD_cons_succ, Option.getD_some, Option.getD_none, or_true, true_or, List.getElem?_cons_zero, List.getElem?_cons_succ, List.set_cons_succ, List.set_cons_zero, List.length_cons, List.length_nil, List.map_cons, List.map_nil, List.replicate_succ, List.replicate_zero, List.cons_append, List.nil_append, if_true, if_false, Nat.reduceAdd, Nat.reduceSub, Nat.reduceLeDiff, Nat.reduceLT, Int.reduceLT, Int.reduceLE, Int.reduceNeg, Int.reduceAdd, Int.reduceMul, Int.reduceSub, and_self, true_and, and_true, decide_true, decide_false, Bool.not_true, Bool.not_false, List.length_map, Option.map_some, Nat.reduceEqDiff, Bool.and_true, Bool.true_and, Bool.false_and, Bool.and_false, List.length_append, Bool.false_eq_true, reduceIte, reduceCtorEq])]
    rw [seq_nx (ρ' := [some (.list (ns.map .int)), some (.list (nums.map .int)), some (.int cell), some (.int (if cell < 0 then -cell else cell)), some (.int (cell % 1000003 + 1)), f]) (by simp only [seqS, asgS, asgG, clE, consL, nilL, dgetO, cE, keyD, intD, dputS, opE, unE, varE, addD, subD, retS, lenD, modD, fdivD, mulD, ixD, ltD, leD, gtD, geD, isD, isnotD, isNone, ifS, ifE, bE, notT, notE, andT, orT, andE, orE, callE0, callE1, ioA', nilA, consA, nxS, bkS, ctS, exS, isiE, isT, tupE, lstE, forS, seqL, lstL, tplL, appS, popAtE, popE, borE, borT, scalar, absD, listD, tupleD, gN, gT, gTs, outs, Md.own, okA, yT, slScr, noO, atO, negD, augS, ixO, revE, slE, slD, List.all_cons, List.all_nil, Option.isSome_some, Option.isSome_none, List.getD_cons_zero, List.getD_cons_succ, Option.getD_some, Option.getD_none, or_true, true_or, List.getElem?_cons_zero, List.getElem?_cons_succ, List.set_cons_succ, List.set_cons_zero, List.length_cons, List.length_nil, List.map_cons, List.map_nil, List.replicate_succ, List.replicate_zero, List.cons_append, List.nil_append, if_true, if_false, Nat.reduceAdd, Nat.reduceSub, Nat.reduceLeDiff, Nat.reduceLT, Int.reduceLT, Int.reduceLE, Int.reduceNeg, Int.reduceAdd, Int.reduceMul, Int.reduceSub, and_self, true_and, and_true, decide_true, decide_false, Bool.not_true, Bool.not_false, List.length_map, Option.map_some, Nat.reduceEqDiff, Bool.and_true, Bool.true_and, Bool.false_and, Bool.and_false, List.length_append, Bool.false_eq_true, reduceIte, reduceCtorEq])]
    rw [seq_nx (for_nx (l := rgD 0 40) (rg1_ev (j := 40) rfl ⟨by decide, by decide⟩) e2)]
    rfl) [some (.list (ns.map .int)), some (.list []), none, none, none, none] ⟨[], _, _, _, _, rfl, rfl⟩
  obtain ⟨nums, a, b, c, f, er, hn⟩ := i1
  rw [List.length_map] at hn
  refine ⟨drD nums 0, ⟨nums, 0, rfl, fun z => ?_, by omega, by omega⟩, _, defM_rt (ρ' := [some (.list (ns.map .int)), some (.list (nums.map .int)), a, b, c, f]) ?_⟩
  · subst z; simp at hn; omega
  show B__law_draws [some (.list (ns.map .int)), none, none, none, none, none] = _
  unfold B__law_draws
  rw [seq_nx (ρ' := [some (.list (ns.map .int)), some (.list []), none, none, none, none]) (by simp only [seqS, asgS, asgG, clE, consL, nilL, dgetO, cE, keyD, intD, dputS, opE, unE, varE, addD, subD, retS, lenD, modD, fdivD, mulD, ixD, ltD, leD, gtD, geD, isD, isnotD, isNone, ifS, ifE, bE, notT, notE, andT, orT, andE, orE, callE0, callE1, ioA', nilA, consA, nxS, bkS, ctS, exS, isiE, isT, tupE, lstE, forS, seqL, lstL, tplL, appS, popAtE, popE, borE, borT, scalar, absD, listD, tupleD, gN, gT, gTs, outs, Md.own, okA, yT, slScr, noO, atO, negD, augS, ixO, revE, slE, slD, List.all_cons, List.all_nil, Option.isSome_some, Option.isSome_none, List.getD_cons_zero, List.getD_cons_succ, Option.getD_some, Option.getD_none, or_true, true_or, List.getElem?_cons_zero, List.getElem?_cons_succ, List.set_cons_succ, List.set_cons_zero, List.length_cons, List.length_nil, List.map_cons, List.map_nil, List.replicate_succ, List.replicate_zero, List.cons_append, List.nil_append, if_true, if_false, Nat.reduceAdd, Nat.reduceSub, Nat.reduceLeDiff, Nat.reduceLT, Int.reduceLT, Int.reduceLE, Int.reduceNeg, Int.reduceAdd, Int.reduceMul, Int.reduceSub, and_self, true_and, and_true, decide_true, decide_false, Bool.not_true, Bool.not_false, List.length_map, Option.map_some, Nat.reduceEqDiff, Bool.and_true, Bool.true_and, Bool.false_and, Bool.and_false, List.length_append, Bool.false_eq_true, reduceIte, reduceCtorEq])]
  rw [seq_nx (for_nx (l := l.map .int) (ρ1 := [some (.list (ns.map .int)), some (.list []), none, none, none, none]) (by simp only [seqS, asgS, asgG, clE, consL, nilL, dgetO, cE, keyD, intD, dputS, opE, unE, varE, addD, subD, retS, lenD, modD, fdivD, mulD, ixD, ltD, leD, gtD, geD, isD, isnotD, isNone, ifS, ifE, bE, notT, notE, andT, orT, andE, orE, callE0, callE1, ioA', nilA, consA, nxS, bkS, ctS, exS, isiE, isT, tupE, lstE, forS, seqL, lstL, tplL, appS, popAtE, popE, borE, borT, scalar, absD, listD, tupleD, gN, gT, gTs, outs, Md.own, okA, yT, slScr, noO, atO, negD, augS, ixO, revE, slE, slD, List.all_cons, List.all_nil, Option.isSome_some, Option.isSome_none, List.getD_cons_zero, List.getD_cons_succ, Option.getD_some, Option.getD_none, or_true, true_or, List.getElem?_cons_zero, List.getElem?_cons_succ, List.set_cons_succ, List.set_cons_zero, List.length_cons, List.length_nil, List.map_cons, List.map_nil, List.replicate_succ, List.replicate_zero, List.cons_append, List.nil_append, if_true, if_false, Nat.reduceAdd, Nat.reduceSub, Nat.reduceLeDiff, Nat.reduceLT, Int.reduceLT, Int.reduceLE, Int.reduceNeg, Int.reduceAdd, Int.reduceMul, Int.reduceSub, and_self, true_and, and_true, decide_true, decide_false, Bool.not_true, Bool.not_false, List.length_map, Option.map_some, Nat.reduceEqDiff, Bool.and_true, Bool.true_and, Bool.false_and, Bool.and_false, List.length_append, Bool.false_eq_true, reduceIte, reduceCtorEq, hcl, e]) (e1.trans (congrArg (fun z => some (Fl.nx, z)) er)))]
  rfl
end My

set_option Elab.async false
set_option linter.all false
set_option maxRecDepth 100000
set_option maxHeartbeats 4000000
namespace My
open PySem PySem.Spec L2 BV
/-! ## orders and deeds, plainly -/
inductive It | val (x : Int) | run (l : List Int)
abbrev Js := List It
inductive Wd | fill | left | middle | right
deriving DecidableEq
def Wd.str : Wd → Str
  | .fill => "fill"
  | .left => "left"
  | .middle => "middle"
  | .right => "right"
def It.ints : It → List Int
  | .val x => [x]
  | .run l => l
def flat (J : Js) : List Int := J.flatMap It.ints
def rowI : It → D
  | .val x => .int x
  | .run _ => .none
def isRun : It → Bool
  | .val _ => false
  | .run _ => true
def nruns (J : Js) : Nat := (J.filter isRun).length
def rn (l : List Int) : Js := if l = [] then [] else [.run l]
def wd (a b : List Int) : Wd := if a = [] then (if b = [] then .fill else .left) else if b = [] then .right else .middle
def dD (s : Int) (w : Wd) : D := .tuple [.int s, .str w.str]
inductive Ch : Int → Js → List (Int × Wd) → Prop
  | nil {v : Int} {J : Js} : (∀ it ∈ J, isRun it = false) → Ch v J []
  | cons {v : Int} {P R : Js} {a b : List Int} {ds : List (Int × Wd)} : Ch (v + 1) (P ++ (rn a ++ .val v :: (rn b ++ R))) ds → Ch v (P ++ .run (a ++ v :: b) :: R) (((nruns P : Nat), wd a b) :: ds)
def Wf (v : Int) : Js → Prop
  | [] => True
  | .val x :: J => x < v ∧ Wf v J
  | .run l :: J => l ≠ [] ∧ (∀ y ∈ l, v ≤ y) ∧ (∀ it, J.head? = some it → isRun it = false) ∧ Wf v J
theorem flat_app (A B : Js) : flat (A ++ B) = flat A ++ flat B := by unfold flat; rw [List.flatMap_append]
theorem flat_rn (l : List Int) : flat (rn l) = l := by
  unfold rn
  split
  · rename_i h; rw [h]; rfl
  · simp [flat, It.ints]
theorem flat_step (P R : Js) (a b : List Int) (v : Int) : flat (P ++ (rn a ++ .val v :: (rn b ++ R))) = flat (P ++ .run (a ++ v :: b) :: R) := by
  rw [flat_app, flat_app, flat_app]
  show _ ++ (_ ++ (v :: flat (rn b ++ R))) = _ ++ ((a ++ v :: b) ++ flat R)
  rw [flat_app, flat_rn, flat_rn]; simp
theorem Wf.app {v : Int} : ∀ {A B : Js}, Wf v (A ++ B) → Wf v A ∧ Wf v B
  | [], B, h => ⟨trivial, h⟩
  | .val x :: A, B, h => by
    obtain ⟨h1, h2⟩ := Wf.app h.2
    exact ⟨⟨h.1, h1⟩, h2⟩
  | .run l :: A, B, h => by
    obtain ⟨g1, g2, g3, g4⟩ := h
    obtain ⟨h1, h2⟩ := Wf.app g4
    refine ⟨⟨g1, g2, fun it e => g3 it ?_, h1⟩, h2⟩
    cases A with
    | nil => cases e
    | cons x A => exact e
theorem Wf.up {v : Int} : ∀ {J : Js}, Wf v J → v ∉ flat J → Wf (v + 1) J
  | [], _, _ => trivial
  | .val x :: J, h, n => by
    refine ⟨by have := h.1; omega, Wf.up h.2 fun z => n ?_⟩
    show v ∈ x :: flat J
    exact List.mem_cons_of_mem _ z
  | .run l :: J, ⟨g1, g2, g3, g4⟩, n => by
    have n' : v ∉ l ++ flat J := n
    refine ⟨g1, fun y hy => ?_, g3, Wf.up g4 fun z => n' (List.mem_append_right _ z)⟩
    have h1 := g2 y hy
    have h2 : y ≠ v := fun e => n' (List.mem_append_left _ (e ▸ hy))
    omega
theorem Wf.glue {v : Int} : ∀ {A B : Js}, Wf v A → Wf v B → (∀ it, A.getLast? = some it → isRun it = false) ∨ (∀ it, B.head? = some it → isRun it = false) → Wf v (A ++ B)
  | [], B, _, hb, _ => hb
  | .val x :: A, B, ha, hb, h => by
    refine ⟨ha.1, Wf.glue ha.2 hb ?_⟩
    rcases h with h | h
    · refine .inl fun it e => h it ?_
      cases A with
      | nil => cases e
      | cons y A => rw [List.getLast?_cons_cons]; exact e
    · exact .inr h
  | .run l :: A, B, ⟨g1, g2, g3, g4⟩, hb, h => by
    refine ⟨g1, g2, fun it e => ?_, Wf.glue g4 hb ?_⟩
    · cases A with
      | nil =>
        rcases h with h | h
        · exact absurd (h (.run l) rfl) (by simp [isRun])
        · exact h it e
      | cons y A => exact g3 it e
    · rcases h with h | h
      · refine .inl fun it e => h it ?_
        cases A with
        | nil => cases e
        | cons y A => rw [List.getLast?_cons_cons]; exact e
      · exact .inr h
theorem wf_rn {v : Int} {l : List Int} (h : ∀ y ∈ l, v ≤ y) : Wf v (rn l) := by
  unfold rn
  split
  · trivial
  · rename_i n; exact ⟨n, h, (fun it e => by cases e), trivial⟩
/-- no run stands next to a run that has one behind it -/
theorem Wf.mid {v : Int} : ∀ {P R : Js} {l : List Int}, Wf v (P ++ .run l :: R) → (∀ it, P.getLast? = some it → isRun it = false) ∧ (∀ it, R.head? = some it → isRun it = false) ∧ l ≠ [] ∧ ∀ y ∈ l, v ≤ y
  | [], R, l, ⟨g1, g2, g3, g4⟩ => ⟨(fun it e => by cases e), g3, g1, g2⟩
  | [x], R, l, h => by
    cases x with
    | val x => exact ⟨(fun it e => by cases e; rfl), (Wf.mid (P := []) h.2).2⟩
    | run k => exact absurd (h.2.2.1 (.run l) rfl) (by simp [isRun])
  | x :: y :: P, R, l, h => by
    have h' : Wf v ((y :: P) ++ .run l :: R) := by
      cases x with
      | val x => exact h.2
      | run k => exact h.2.2.2
    obtain ⟨h1, h2⟩ := Wf.mid h'
    exact ⟨fun it e => h1 it (by rw [List.getLast?_cons_cons] at e; exact e), h2⟩
theorem wf_step {v : Int} {P R : Js} {a b : List Int} (h : Wf v (P ++ .run (a ++ v :: b) :: R)) (nd : (flat (P ++ .run (a ++ v :: b) :: R)).Nodup) : Wf (v + 1) (P ++ (rn a ++ .val v :: (rn b ++ R))) := by
  obtain ⟨l1, r1, n1, g⟩ := h.mid
  have hP := h.app.1
  have hR : Wf v R := h.app.2.2.2.2
  have nd2 := nd
  rw [flat_app] at nd2
  have nd3 : ((flat P) ++ ((a ++ v :: b) ++ flat R)).Nodup := nd2
  have vP : v ∉ flat P := fun z => by
    have := (List.nodup_append.mp nd3).2.2 v z v (List.mem_append_left _ (List.mem_append_right _ List.mem_cons_self))
    exact this rfl
  have nd4 := (List.nodup_append.mp nd3).2.1
  have vR : v ∉ flat R := fun z => (List.nodup_append.mp nd4).2.2 v (List.mem_append_right _ List.mem_cons_self) v z rfl
  have nd5 := (List.nodup_append.mp nd4).1
  have va : v ∉ a := fun z => (List.nodup_append.mp nd5).2.2 v z v List.mem_cons_self rfl
  have vb : v ∉ b := (List.nodup_cons.mp (List.nodup_append.mp nd5).2.1).1
  have up : ∀ {l : List Int}, (∀ y ∈ l, v ≤ y) → v ∉ l → ∀ y ∈ l, v + 1 ≤ y := fun h1 h2 y hy => by
    have := h1 y hy
    have : y ≠ v := fun e => h2 (e ▸ hy)
    omega
  have ha := up (fun y hy => g y (List.mem_append_left _ hy)) va
  have hb := up (fun y hy => g y (List.mem_append_right _ (List.mem_cons_of_mem _ hy))) vb
  refine Wf.glue (hP.up vP) ?_ (.inl l1)
  refine Wf.glue (wf_rn ha) ⟨by omega, Wf.glue (wf_rn hb) (hR.up vR) (.inr r1)⟩ (.inr fun it e => by cases e; rfl)
/-- what is at least v stands in a run -/
theorem in_run {v : Int} : ∀ {J : Js}, Wf v J → v ∈ flat J → ∃ P R a b, J = P ++ .run (a ++ v :: b) :: R
  | [], _, h => by cases h
  | .val x :: J, h, m => by
    have m' : v ∈ x :: flat J := m
    rcases List.mem_cons.mp m' with e | m'
    · have := h.1; omega
    · obtain ⟨P, R, a, b, e⟩ := in_run h.2 m'
      exact ⟨.val x :: P, R, a, b, by rw [e]; rfl⟩
  | .run l :: J, ⟨g1, g2, g3, g4⟩, m => by
    have m' : v ∈ l ++ flat J := m
    rcases List.mem_append.mp m' with m' | m'
    · obtain ⟨a, b, e⟩ := List.append_of_mem m'
      exact ⟨[], J, a, b, by rw [e]; rfl⟩
    · obtain ⟨P, R, a, b, e⟩ := in_run g4 m'
      exact ⟨.run l :: P, R, a, b, by rw [e]; rfl⟩
theorem no_runs {v n : Int} : ∀ {J : Js}, Wf v J → (∀ x ∈ flat J, x ≤ n) → n < v → ∀ it ∈ J, isRun it = false
  | [], _, _, _, it, h => by cases h
  | .val x :: J, h, m, l, it, hi => by
    rcases List.mem_cons.mp hi with e | hi
    · subst e; rfl
    · exact no_runs h.2 (fun y hy => m y (List.mem_cons_of_mem _ hy)) l it hi
  | .run k :: J, ⟨g1, g2, g3, g4⟩, m, l, it, hi => by
    cases k with
    | nil => exact absurd rfl g1
    | cons y k =>
      have h1 := g2 y List.mem_cons_self
      have h2 := m y List.mem_cons_self
      omega
theorem ch_ex {n : Int} : ∀ (k : Nat) (v : Int) (J : Js), v + k = n + 1 → Wf v J → (∀ x ∈ flat J, x ≤ n) → (∀ x, v ≤ x → x ≤ n → x ∈ flat J) → (flat J).Nodup → ∃ ds, Ch v J ds ∧ ds.length = k
  | 0, v, J, e, w, m, c, nd => ⟨[], .nil (no_runs (n := n) w m (by omega)), rfl⟩
  | k + 1, v, J, e, w, m, c, nd => by
    obtain ⟨P, R, a, b, rfl⟩ := in_run (v := v) w (c v (Int.le_refl v) (by omega))
    have w' := wf_step w nd
    have ef := flat_step P R a b v
    obtain ⟨ds, h, hl⟩ := ch_ex (n := n) k (v + 1) _ (by omega) w' (by rw [ef]; exact m) (fun x h1 h2 => by rw [ef]; exact c x (Int.le_of_lt h1) h2) (by rw [ef]; exact nd)
    exact ⟨_, .cons h, by simp [hl]⟩
end My

set_option Elab.async false
set_option linter.all false
set_option maxRecDepth 100000
set_option maxHeartbeats 4000000
namespace My
open PySem PySem.Spec L2 BV
/-! ## rows: the things placed, None for what is free -/
def hasL : Wd → Bool
  | .right | .middle => true
  | _ => false
def hasR : Wd → Bool
  | .left | .middle => true
  | _ => false
def newsD (w : Wd) (v : Int) : List D := (if hasL w then [.none] else []) ++ .int v :: (if hasR w then [.none] else [])
def rep : List D → Nat → List D → Option (List D)
  | [], _, _ => none
  | x :: r, s, n => if isNone x = true then (match s with
      | 0 => some (n ++ r)
      | s + 1 => (rep r s n).map (x :: ·)) else (rep r s n).map (x :: ·)
def stepR (row : List D) (v : Int) (s : Int) (w : Wd) : Option (List D) := if 0 ≤ s then rep row s.toNat (newsD w v) else none
def runR : List (Int × Wd) → Int → List D → Option (List D)
  | [], _, row => some row
  | (s, w) :: ds, v, row => (stepR row v s w).bind (runR ds (v + 1))
def nones (row : List D) : Nat := (row.filter isNone).length
def frs : Nat → List D → List Nat
  | _, [] => []
  | o, x :: r => if isNone x = true then o :: frs (o + 1) r else frs (o + 1) r
theorem isNone_eq {x : D} (h : isNone x = true) : x = .none := by
  cases x <;> first | rfl | cases h
theorem rep_frs (n : List D) : ∀ (row : List D) (s o : Nat), (∀ a, (frs o row)[s]? = some a → o ≤ a ∧ a < o + row.length ∧ rep row s n = some (row.take (a - o) ++ n ++ row.drop (a - o + 1))) ∧ ((frs o row)[s]? = none → rep row s n = none)
  | [], s, o => ⟨fun a h => by simp [frs] at h, fun _ => rfl⟩
  | x :: r, s, o => by
    unfold frs rep
    by_cases hx : isNone x = true
    · rw [if_pos hx, if_pos hx]
      cases s with
      | zero =>
        refine ⟨fun a h => ?_, fun h => by simp at h⟩
        have e : o = a := by simpa using h
        subst e
        exact ⟨Nat.le_refl _, by simp, by simp⟩
      | succ s =>
        obtain ⟨h1, h2⟩ := rep_frs n r s (o + 1)
        refine ⟨fun a h => ?_, fun h => ?_⟩
        · obtain ⟨g1, g2, g3⟩ := h1 a (by simpa using h)
          refine ⟨by omega, by simp only [List.length_cons]; omega, ?_⟩
          show (rep r s n).map (x :: ·) = _
          rw [g3, show a - o = (a - (o + 1)) + 1 by omega]; rfl
        · show (rep r s n).map (x :: ·) = _
          rw [h2 (by simpa using h)]; rfl
    · rw [if_neg hx, if_neg hx]
      obtain ⟨h1, h2⟩ := rep_frs n r s (o + 1)
      refine ⟨fun a h => ?_, fun h => ?_⟩
      · obtain ⟨g1, g2, g3⟩ := h1 a h
        refine ⟨by omega, by simp only [List.length_cons]; omega, ?_⟩
        rw [g3, show a - o = (a - (o + 1)) + 1 by omega]; rfl
      · rw [h2 h]; rfl
theorem rep_at (n B : List D) : ∀ A : List D, rep (A ++ .none :: B) (nones A) n = some (A ++ (n ++ B))
  | [] => rfl
  | x :: A => by
    have ih := rep_at n B A
    show rep (x :: (A ++ .none :: B)) _ n = _
    unfold rep
    by_cases hx : isNone x = true
    · rw [if_pos hx]
      have e : nones (x :: A) = nones A + 1 := by unfold nones; rw [List.filter_cons_of_pos hx]; rfl
      rw [e]
      show (rep (A ++ .none :: B) (nones A) n).map _ = _
      rw [ih]; rfl
    · rw [if_neg hx]
      have e : nones (x :: A) = nones A := by unfold nones; rw [List.filter_cons_of_neg hx]
      rw [e, ih]; rfl
theorem rep_inv (n : List D) : ∀ (row : List D) (s : Nat) (row' : List D), rep row s n = some row' → ∃ A B, row = A ++ .none :: B ∧ nones A = s ∧ row' = A ++ (n ++ B)
  | [], s, row', h => by cases h
  | x :: r, s, row', h => by
    unfold rep at h
    by_cases hx : isNone x = true
    · rw [if_pos hx] at h
      cases s with
      | zero => cases h; exact ⟨[], r, by rw [isNone_eq hx]; rfl, rfl, rfl⟩
      | succ s =>
        have h' : (rep r s n).map (x :: ·) = some row' := h
        cases e : rep r s n with
        | none => rw [e] at h'; cases h'
        | some r1 =>
          rw [e] at h'
          cases h'
          obtain ⟨A, B, e1, e2, e3⟩ := rep_inv n r s r1 e
          exact ⟨x :: A, B, by rw [e1]; rfl, by unfold nones; rw [List.filter_cons_of_pos hx, List.length_cons]; exact congrArg (· + 1) e2, by rw [e3]; rfl⟩
    · rw [if_neg hx] at h
      cases e : rep r s n with
      | none => rw [e] at h; cases h
      | some r1 =>
        rw [e] at h
        cases h
        obtain ⟨A, B, e1, e2, e3⟩ := rep_inv n r s r1 e
        exact ⟨x :: A, B, by rw [e1]; rfl, by unfold nones; rw [List.filter_cons_of_neg hx]; exact e2, by rw [e3]; rfl⟩
theorem nones_row (P : Js) : nones (P.map rowI) = nruns P := by
  unfold nones nruns
  rw [List.filter_map, List.length_map]
  congr 1
  refine List.filter_congr fun x _ => ?_
  cases x <;> rfl
theorem news_row (a b : List Int) (v : Int) : newsD (wd a b) v = (rn a ++ .val v :: rn b).map rowI := by
  cases a <;> cases b <;> rfl
theorem row_done : ∀ {J : Js}, (∀ it ∈ J, isRun it = false) → J.map rowI = (flat J).map .int
  | [], _ => rfl
  | .val x :: J, h => by
    show PyData.int x :: J.map rowI = PyData.int x :: (flat J).map .int
    rw [row_done fun it hi => h it (List.mem_cons_of_mem _ hi)]
  | .run l :: J, h => absurd (h _ List.mem_cons_self) (by simp [isRun])
theorem ch_run {v : Int} {J : Js} {ds : List (Int × Wd)} (h : Ch v J ds) : runR ds v (J.map rowI) = some ((flat J).map .int) := by
  induction h with
  | nil h => exact congrArg some (row_done h)
  | @cons v P R a b ds h ih =>
    unfold runR stepR
    rw [if_pos (by omega), Int.toNat_natCast, List.map_append, List.map_cons]
    have e : rep (P.map rowI ++ .none :: R.map rowI) (nruns P) (newsD (wd a b) v) = some ((P ++ (rn a ++ .val v :: (rn b ++ R))).map rowI) := by
      rw [← nones_row, rep_at, news_row]
      simp only [List.map_append, List.map_cons, List.append_assoc, List.cons_append]
    show Option.bind (rep (P.map rowI ++ .none :: R.map rowI) (nruns P) (newsD (wd a b) v)) _ = _
    rw [e]
    show runR ds (v + 1) _ = _
    rw [ih, flat_step]
def Ne (J : Js) : Prop := ∀ l, It.run l ∈ J → l ≠ []
theorem rn_ne {l : List Int} (h : l ≠ []) : rn l = [.run l] := if_neg h
theorem run_ch : ∀ (ds : List (Int × Wd)) (v : Int) (row : List D) (o : List Int), runR ds v row = some (o.map .int) → ∃ J, J.map rowI = row ∧ flat J = o ∧ Ne J ∧ Ch v J ds
  | [], v, row, o, h => by
    cases h
    refine ⟨o.map .val, by rw [List.map_map]; rfl, ?_, fun l m => ?_, .nil fun it m => ?_⟩
    · unfold flat
      rw [List.flatMap_map]
      exact List.flatMap_singleton' o
    · obtain ⟨x, _, e⟩ := List.mem_map.mp m; cases e
    · obtain ⟨x, _, e⟩ := List.mem_map.mp m; subst e; rfl
  | (s, w) :: ds, v, row, o, h => by
    unfold runR stepR at h
    by_cases h0 : 0 ≤ s
    case neg => rw [if_neg h0] at h; cases h
    rw [if_pos h0] at h
    cases e : rep row s.toNat (newsD w v) with
    | none => rw [e] at h; cases h
    | some row1 =>
      rw [e] at h
      obtain ⟨J1, e1, e2, e3, e4⟩ := run_ch ds (v + 1) row1 o h
      obtain ⟨A, B, rfl, ea, rfl⟩ := rep_inv _ _ _ _ e
      obtain ⟨P, N0, rfl, eP, eN0⟩ := List.map_eq_append_iff.mp e1
      obtain ⟨N, R, rfl, eN, eR⟩ := List.map_eq_append_iff.mp eN0
      have hs : ((nruns P : Nat) : Int) = s := by
        have q := nones_row P
        rw [eP, ea] at q
        omega
      have fin : ∀ a b : List Int, N = rn a ++ .val v :: rn b → wd a b = w → ∃ J, J.map rowI = A ++ .none :: B ∧ flat J = o ∧ Ne J ∧ Ch v J ((s, w) :: ds) := fun a b eN' ew => by
        subst eN'
        subst ew
        refine ⟨P ++ .run (a ++ v :: b) :: R, by rw [List.map_append, List.map_cons, eP, eR]; rfl, ?_, fun l m => ?_, ?_⟩
        · rw [← flat_step, ← e2]
          simp only [List.append_assoc, List.cons_append]
        · rcases List.mem_append.mp m with m | m
          · exact e3 l (List.mem_append_left _ m)
          · rcases List.mem_cons.mp m with m | m
            · cases m; simp
            · exact e3 l (List.mem_append_right _ (List.mem_append_right _ m))
        · rw [← hs]
          refine .cons ?_
          simpa only [List.append_assoc, List.cons_append] using e4
      have ne : ∀ l, It.run l ∈ N → l ≠ [] := fun l m => e3 l (List.mem_append_right _ (List.mem_append_left _ m))
      have one : ∀ {it : It} {x : D}, rowI it = x → (∀ y, x = .int y → it = .val y) ∧ (x = .none → ∃ l, it = .run l) := fun {it x} e => by
        cases it with
        | val z => exact ⟨(fun y h => by rw [h] at e; cases e; rfl), (fun h => by rw [h] at e; cases e)⟩
        | run l => exact ⟨(fun y h => by rw [h] at e; cases e), fun _ => ⟨l, rfl⟩⟩
      cases w with
      | fill =>
        obtain ⟨x, N1, rfl, q, e5⟩ := List.map_eq_cons_iff.mp eN
        obtain rfl := List.map_eq_nil_iff.mp e5
        exact fin [] [] (by rw [(one q).1 v rfl]; rfl) rfl
      | left =>
        obtain ⟨x, N1, rfl, q, e5⟩ := List.map_eq_cons_iff.mp eN
        obtain ⟨y, N2, rfl, q2, e6⟩ := List.map_eq_cons_iff.mp e5
        obtain rfl := List.map_eq_nil_iff.mp e6
        obtain ⟨l, el⟩ := (one q2).2 rfl
        have nl := ne l (by rw [el]; simp)
        exact fin [] l (by rw [(one q).1 v rfl, el, rn_ne nl]; rfl) (by unfold wd; rw [if_pos rfl, if_neg nl])
      | right =>
        obtain ⟨x, N1, rfl, q, e5⟩ := List.map_eq_cons_iff.mp eN
        obtain ⟨y, N2, rfl, q2, e6⟩ := List.map_eq_cons_iff.mp e5
        obtain rfl := List.map_eq_nil_iff.mp e6
        obtain ⟨l, el⟩ := (one q).2 rfl
        have nl := ne l (by rw [el]; simp)
        exact fin l [] (by rw [(one q2).1 v rfl, el, rn_ne nl]; rfl) (by unfold wd; rw [if_neg nl, if_pos rfl])
      | middle =>
        obtain ⟨x, N1, rfl, q, e5⟩ := List.map_eq_cons_iff.mp eN
        obtain ⟨y, N2, rfl, q2, e6⟩ := List.map_eq_cons_iff.mp e5
        obtain ⟨z, N3, rfl, q3, e7⟩ := List.map_eq_cons_iff.mp e6
        obtain rfl := List.map_eq_nil_iff.mp e7
        obtain ⟨l, el⟩ := (one q).2 rfl
        obtain ⟨k, ek⟩ := (one q3).2 rfl
        have nl := ne l (by rw [el]; simp)
        have nk := ne k (by rw [ek]; simp)
        exact fin l k (by rw [(one q2).1 v rfl, el, ek, rn_ne nl, rn_ne nk]; rfl) (by unfold wd; rw [if_neg nl, if_neg nk])
end My

set_option Elab.async false
set_option linter.all false
set_option maxRecDepth 100000
set_option maxHeartbeats 4000000
namespace My
open PySem PySem.Spec L2 BV
/-! ## the stretches of the runs, by their places -/
def ivs : Nat → Js → List (Nat × Nat)
  | _, [] => []
  | o, .val _ :: J => ivs (o + 1) J
  | o, .run l :: J => (o, o + l.length) :: ivs (o + l.length) J
theorem flat_cons_val (x : Int) (J : Js) : flat (.val x :: J) = x :: flat J := rfl
theorem flat_cons_run (l : List Int) (J : Js) : flat (.run l :: J) = l ++ flat J := rfl
theorem ivs_app : ∀ (A B : Js) (o : Nat), ivs o (A ++ B) = ivs o A ++ ivs (o + (flat A).length) B
  | [], B, o => rfl
  | .val x :: A, B, o => by
    show ivs (o + 1) (A ++ B) = ivs (o + 1) A ++ _
    rw [ivs_app A B (o + 1), flat_cons_val, List.length_cons, show o + 1 + (flat A).length = o + ((flat A).length + 1) by omega]
  | .run l :: A, B, o => by
    show (o, o + l.length) :: ivs (o + l.length) (A ++ B) = (o, o + l.length) :: (ivs (o + l.length) A ++ _)
    rw [ivs_app A B (o + l.length), flat_cons_run, List.length_append, Nat.add_assoc]
theorem ivs_len : ∀ (J : Js) (o : Nat), (ivs o J).length = nruns J
  | [], _ => rfl
  | .val x :: J, o => by
    show (ivs (o + 1) J).length = _
    rw [ivs_len J (o + 1)]; rfl
  | .run l :: J, o => by
    show (ivs (o + l.length) J).length + 1 = _
    rw [ivs_len J (o + l.length)]; rfl
theorem ivs_hi : ∀ (J : Js) (o : Nat), ∀ p ∈ ivs o J, p.2 ≤ o + (flat J).length
  | [], _, p, h => by cases h
  | .val x :: J, o, p, h => by
    have := ivs_hi J (o + 1) p h
    rw [flat_cons_val, List.length_cons]; omega
  | .run l :: J, o, p, h => by
    rw [flat_cons_run, List.length_append]
    rcases List.mem_cons.mp h with e | h
    · subst e; show o + l.length ≤ _; omega
    · have := ivs_hi J (o + l.length) p h; omega
theorem ivs_rn (l : List Int) (o : Nat) : ivs o (rn l) = if l = [] then [] else [(o, o + l.length)] := by
  unfold rn
  split <;> rfl
theorem ivs_step (P R : Js) (a b : List Int) (v : Int) : ivs 0 (P ++ (rn a ++ .val v :: (rn b ++ R))) = ivs 0 P ++ (ivs (flat P).length (rn a) ++ (ivs ((flat P).length + a.length + 1) (rn b) ++ ivs ((flat P).length + (a ++ v :: b).length) R)) := by
  rw [ivs_app, ivs_app, Nat.zero_add, flat_rn]
  congr 2
  show ivs ((flat P).length + a.length + 1) (rn b ++ R) = _
  rw [ivs_app, flat_rn]
  congr 2
  simp only [List.length_append, List.length_cons]; omega
theorem ivs_at (P R : Js) (l : List Int) : ivs 0 (P ++ .run l :: R) = ivs 0 P ++ ((flat P).length, (flat P).length + l.length) :: ivs ((flat P).length + l.length) R := by
  rw [ivs_app, Nat.zero_add]; rfl
/-- the first that passes -/
theorem filt_first (q : Nat → Bool) : ∀ (n b s : Nat), b ≤ s → s < b + n → q s = true → (∀ k, b ≤ k → k < s → q k = false) → ((List.range' b n).filter q)[0]? = some s
  | 0, b, s, h1, h2, _, _ => by omega
  | n + 1, b, s, h1, h2, hs, hk => by
    rw [List.range'_succ]
    by_cases e : b = s
    · subst e
      rw [List.filter_cons_of_pos hs]; rfl
    · rw [List.filter_cons_of_neg (by rw [hk b (Nat.le_refl _) (by omega)]; decide)]
      exact filt_first q n (b + 1) s (by omega) (by omega) hs fun k h3 h4 => hk k (by omega) h4
end My

set_option Elab.async false
set_option linter.all false
set_option maxRecDepth 100000
set_option maxHeartbeats 4000000
namespace My
open PySem PySem.Spec L2 BV
/-! ## stretches, as _law_deeds gathers them -/
def fl2 (p : List (List Nat) × List Nat) : List (List Nat) := if p.2 = [] then p.1 else p.1 ++ [p.2]
def sc1 (cut : Nat → Bool) (p : List (List Nat) × List Nat) (t : Nat) : List (List Nat) × List Nat := if cut t = true then (fl2 p, []) else (p.1, p.2 ++ [t])
def scan (cut : Nat → Bool) (p : List (List Nat) × List Nat) (l : List Nat) : List (List Nat) × List Nat := l.foldl (sc1 cut) p
def pos (p : Nat × Nat) : List Nat := List.range' p.1 (p.2 - p.1)
theorem scan_run (cut : Nat → Bool) : ∀ (n o : Nat) (acc : List (List Nat)) (here : List Nat), (∀ t, o ≤ t → t < o + n → cut t = false) → scan cut (acc, here) (List.range' o n) = (acc, here ++ List.range' o n)
  | 0, o, acc, here, _ => by simp [scan]
  | n + 1, o, acc, here, h => by
    rw [List.range'_succ]
    show scan cut (sc1 cut (acc, here) o) (List.range' (o + 1) n) = _
    have e : sc1 cut (acc, here) o = (acc, here ++ [o]) := by unfold sc1; rw [h o (Nat.le_refl _) (by omega)]; rfl
    rw [e, scan_run cut n (o + 1) acc (here ++ [o]) fun t h1 h2 => h t (by omega) (by omega)]
    simp
theorem scan_app (cut : Nat → Bool) (p : List (List Nat) × List Nat) (a b : List Nat) : scan cut p (a ++ b) = scan cut (scan cut p a) b := List.foldl_append
theorem scan_js {v : Int} (cut : Nat → Bool) : ∀ (J : Js) (o : Nat) (acc : List (List Nat)) (here : List Nat), Wf v J → (∀ it, J.head? = some it → isRun it = true → here = []) →
    (∀ t x, (flat J)[t]? = some x → cut (o + t) = decide (x < v)) → fl2 (scan cut (acc, here) (List.range' o (flat J).length)) = fl2 (acc, here) ++ (ivs o J).map pos
  | [], o, acc, here, _, _, _ => by simp [flat, scan, ivs]
  | .val x :: J, o, acc, here, w, hh, hc => by
    rw [flat_cons_val, List.length_cons, List.range'_succ]
    show fl2 (scan cut (sc1 cut (acc, here) o) (List.range' (o + 1) (flat J).length)) = _
    have c0 : cut o = true := by
      have := hc 0 x rfl
      rw [Nat.add_zero] at this
      rw [this]; exact decide_eq_true w.1
    have e : sc1 cut (acc, here) o = (fl2 (acc, here), []) := by unfold sc1; rw [if_pos c0]
    rw [e, scan_js cut J (o + 1) (fl2 (acc, here)) [] w.2 (fun _ _ _ => rfl) fun t y ht => by
      have := hc (t + 1) y (by rw [flat_cons_val, List.getElem?_cons_succ]; exact ht)
      rw [show o + 1 + t = o + (t + 1) by omega]; exact this]
    rfl
  | .run l :: J, o, acc, here, ⟨g1, g2, g3, g4⟩, hh, hc => by
    have e0 : here = [] := hh _ rfl rfl
    subst e0
    rw [flat_cons_run, List.length_append, ← List.range'_append_1, scan_app, scan_run cut l.length o acc [] fun t h1 h2 => by
      have hlt : t - o < l.length := by omega
      have := hc (t - o) l[t - o] (by rw [flat_cons_run, List.getElem?_append_left hlt, List.getElem?_eq_getElem hlt])
      rw [show o + (t - o) = t by omega] at this
      rw [this]
      have := g2 _ (List.getElem_mem hlt)
      exact decide_eq_false (by omega)]
    rw [List.nil_append, scan_js cut J (o + l.length) acc (List.range' o l.length) g4 (fun it h1 h2 => by rw [g3 it h1] at h2; cases h2) fun t y ht => by
      have := hc (l.length + t) y (by rw [flat_cons_run, List.getElem?_append_right (by omega), Nat.add_sub_cancel_left]; exact ht)
      rw [Nat.add_assoc]; exact this]
    have nl : List.range' o l.length ≠ [] := fun z => by
      have := congrArg List.length z
      rw [List.length_range'] at this
      exact g1 (List.length_eq_zero_iff.mp this)
    show fl2 (acc, List.range' o l.length) ++ _ = fl2 (acc, []) ++ (pos (o, o + l.length) :: _)
    unfold fl2 pos
    rw [if_neg nl, if_pos rfl, Nat.add_sub_cancel_left]
    simp
end My

set_option pp.maxSteps 400
set_option Elab.async false
set_option linter.all false
set_option maxRecDepth 100000
set_option maxHeartbeats 4000000
namespace My
open PySem PySem.Spec L2 BV
/-! ## the two that make orders -/
def dsD (ds : List (Int × Wd)) : List D := ds.map fun p => dD p.1 p.2
def row0 (n : Nat) : List D := if 0 < n then [.none] else []
def frD (row : List D) : List D := (frs 0 row).map fun (k : Nat) => PyData.int (k : Int)
theorem frs_eq : ∀ (row : List D) (o : Nat) (f : Nat → D), (∀ i, i < row.length → some (f (o + i)) = row[i]?) → frs o row = (List.range' o row.length).filter fun k => isNone (f k)
  | [], _, _, _ => rfl
  | x :: r, o, f, h => by
    have h0 : f o = x := by have := h 0 (by simp); simpa using this
    rw [List.length_cons, List.range'_succ]
    have ih := frs_eq r (o + 1) f fun i hi => by
      have := h (i + 1) (by simp only [List.length_cons]; omega)
      rw [show o + 1 + i = o + (i + 1) by omega, this, List.getElem?_cons_succ]
    unfold frs
    by_cases hx : isNone x = true
    · rw [if_pos hx, List.filter_cons_of_pos (by rw [h0]; exact hx), ih]
    · rw [if_neg hx, List.filter_cons_of_neg (by rw [h0]; exact hx), ih]
/-- [k for k in range(len(row)) if row[k] is None] -/
theorem free_ev {i j : Nat} {ρ : En} {row : List D} (hi : ρ[i]? = some (some (.list row))) (hij : j ≠ i) (hl : row.length ≤ 1000000) (hj : j < ρ.length) :
    lcE (rg1L (clE lenD (consL (varE i) nilL))) (gN j) (bE (opE isD (opE ixD (varE i) (varE j)) (cE .none))) (varE j) [j] ρ = some (.list (frD row), ρ) := by
  have hv : varE i ρ = some (.list row, ρ) := by unfold varE; rw [hi]
  rw [lc_filt0 (p := fun d => match d with | .int k => isNone (row.getD k.toNat .none) | _ => false) (l := rgD 0 row.length) (ρ := ρ) (by
      rw [rg1_ev (j := row.length) (len_ev hv) (by omega)]; rfl) (by rw [rgD_len]; exact hl) hj fun d hd => by
    obtain ⟨k, hk, rfl⟩ := rg_mem hd
    have h1 : (ρ.set j (some (.int (k : Int))))[i]? = some (some (.list row)) := by rw [List.getElem?_set_ne hij]; exact hi
    have h2 : (ρ.set j (some (.int (k : Int))))[j]? = some (some (.int (k : Int))) := List.getElem?_set_self hj
    refine bE_ev (op_ev (ix_ev (xs := row) (i := (k : Int)) (by unfold varE; rw [h1]) (by unfold varE; rw [h2]) (atI_nat hk)) rfl ?_)
    show some (PyData.bool (isNone row[k])) = some (PyData.bool (isNone (row.getD (k : Int).toNat .none)))
    rw [Int.toNat_natCast, List.getD_eq_getElem?_getD, List.getElem?_eq_getElem hk]; rfl]
  rw [rgD_filter]
  congr 3
  unfold frD
  congr 1
  rw [frs_eq row 0 (fun k => row.getD k .none) fun i hi => by rw [Nat.zero_add, List.getD_eq_getElem?_getD, List.getElem?_eq_getElem hi]; rfl, List.range_eq_range']
  refine List.filter_congr fun k _ => ?_
  show isNone (row.getD (k : Int).toNat .none) = _
  rw [Int.toNat_natCast]
theorem step_len {row row' : List D} {v s : Int} {w : Wd} (h : stepR row v s w = some row') : row'.length ≤ row.length + 2 := by
  unfold stepR at h
  split at h
  · obtain ⟨A, B, rfl, _, rfl⟩ := rep_inv _ _ _ _ h
    have : (newsD w v).length ≤ 3 := by cases w <;> simp [newsD, hasL, hasR]
    simp only [List.length_append, List.length_cons]; omega
  · cases h
theorem frD_len (row : List D) : (frD row).length = (frs 0 row).length := by unfold frD; rw [List.length_map]
/-- the step by places -/
theorem step_yes {row : List D} {v s : Int} {w : Wd} (h0 : 0 ≤ s) (h1 : s < (frD row).length) : ∃ a : Nat, atI (frD row) s = some (.int (a : Int)) ∧ stepR row v s w = some (row.take a ++ newsD w v ++ row.drop (a + 1)) := by
  rw [frD_len] at h1
  have hs : s.toNat < (frs 0 row).length := by omega
  refine ⟨(frs 0 row)[s.toNat], ?_, ?_⟩
  · obtain ⟨s', rfl⟩ := Int.eq_ofNat_of_zero_le h0
    refine atI_get ?_
    unfold frD
    rw [List.getElem?_map, List.getElem?_eq_getElem (by simpa using hs)]
    simp
  · obtain ⟨g1, g2⟩ := rep_frs (newsD w v) row s.toNat 0
    obtain ⟨k1, k2, k3⟩ := g1 _ (List.getElem?_eq_getElem hs)
    unfold stepR
    rw [if_pos h0, k3, Nat.sub_zero]
theorem step_no {row : List D} {v s : Int} {w : Wd} (h : ¬ (0 ≤ s ∧ s < (frD row).length)) : stepR row v s w = none := by
  rw [frD_len] at h
  unfold stepR
  split
  · rename_i h0
    exact (rep_frs (newsD w v) row s.toNat 0).2 (List.getElem?_eq_none_iff.mpr (by omega))
  · rfl
theorem news_ev (w : Wd) (v : Int) {a b c d e f g : Option D} : dgetE (dispE [((cE (.str ("fill" : Str))), (lstE (consL (varE 2) nilL))), ((cE (.str ("left" : Str))), (lstE (consL (varE 2) (consL (cE .none) nilL)))), ((cE (.str ("right" : Str))), (lstE (consL (cE .none) (consL (varE 2) nilL)))), ((cE (.str ("middle" : Str))), (lstE (consL (cE .none) (consL (varE 2) (consL (cE .none) nilL)))))]) (varE 4) [a, b, some (.int v), c, some (.str w.str), d, e, f, g] = some (.list (newsD w v), [a, b, some (.int v), c, some (.str w.str), d, e, f, g]) := by
  cases w <;> kernel_rfl
def resF (r : Option (List D)) : Fl := match r with | some _ => .nx | none => .rt .none
abbrev OB : FS := (seqS (asgG (opE ixD (varE 0) (opE subD (varE 2) (cE (.int 1)))) (gT [(gN 3), (gN 4)]))
  (seqS (asgS 5 (lcE (rg1L (clE lenD (consL (varE 1) nilL))) (gN 8) (bE (opE isD (opE ixD (varE 1) (varE 8)) (cE .none))) (varE 8) [8]))
  (seqS (ifS (notT (bE (chainE leD ltD (cE (.int 0)) (varE 3) (clE lenD (consL (varE 5) nilL)))))
  (seqS (retS (cE .none))
  nxS)
  nxS)
  (seqS (asgS 6 (opE ixD (varE 5) (varE 3)))
  (seqS (asgS 7 (dgetE (dispE [((cE (.str ("fill" : Str))), (lstE (consL (varE 2) nilL))), ((cE (.str ("left" : Str))), (lstE (consL (varE 2) (consL (cE .none) nilL)))), ((cE (.str ("right" : Str))), (lstE (consL (cE .none) (consL (varE 2) nilL)))), ((cE (.str ("middle" : Str))), (lstE (consL (cE .none) (consL (varE 2) (consL (cE .none) nilL)))))]) (varE 4)))
  (seqS (asgS 1 (opE addD (opE addD (slE (varE 1) noO (atO (varE 6))) (varE 7)) (slE (varE 1) (atO (opE addD (varE 6) (cE (.int 1)))) noO)))
  nxS))))))
section
variable {DD row : List D} {v s : Int} {w : Wd} {c d e f g h : Option D}
theorem ob_asg (hat : atI DD (v - 1) = some (dD s w)) : asgG (opE ixD (varE 0) (opE subD (varE 2) (cE (.int 1)))) (gT [(gN 3), (gN 4)]) [some (.list DD), some (.list row), some (.int v), c, d, e, f, g, h] = some (.nx, [some (.list DD), some (.list row), some (.int v), some (.int s), some (.str w.str), e, f, g, h]) := by
  unfold asgG
  rw [ix_ev (xs := DD) (i := v - 1) (ρ1 := [some (.list DD), some (.list row), some (.int v), c, d, e, f, g, h]) (ρ2 := [some (.list DD), some (.list row), some (.int v), c, d, e, f, g, h]) rfl rfl hat]
  rfl
theorem ob_free (hr : row.length ≤ 1000000) : asgS 5 (lcE (rg1L (clE lenD (consL (varE 1) nilL))) (gN 8) (bE (opE isD (opE ixD (varE 1) (varE 8)) (cE .none))) (varE 8) [8]) [some (.list DD), some (.list row), some (.int v), some (.int s), some (.str w.str), e, f, g, h] = some (.nx, [some (.list DD), some (.list row), some (.int v), some (.int s), some (.str w.str), some (.list (frD row)), f, g, h]) :=
  asg_ev (free_ev (i := 1) (j := 8) (ρ := [some (.list DD), some (.list row), some (.int v), some (.int s), some (.str w.str), e, f, g, h]) (row := row) rfl (by decide) hr (Nat.le_of_ble_eq_true rfl))
theorem ob_cond {b : Bool} (hb : (!(decide (0 ≤ s) && decide (s < (frD row).length))) = b) : notT (bE (chainE leD ltD (cE (.int 0)) (varE 3) (clE lenD (consL (varE 5) nilL)))) [some (.list DD), some (.list row), some (.int v), some (.int s), some (.str w.str), some (.list (frD row)), f, g, h] = some (b, [some (.list DD), some (.list row), some (.int v), some (.int s), some (.str w.str), some (.list (frD row)), f, g, h]) := by
  subst hb
  exact nT_ev (bE_ev (chain_ev rfl rfl (len_ev rfl) rfl rfl rfl))
theorem ob_at {a : Nat} (ha : atI (frD row) s = some (.int (a : Int))) : asgS 6 (opE ixD (varE 5) (varE 3)) [some (.list DD), some (.list row), some (.int v), some (.int s), some (.str w.str), some (.list (frD row)), f, g, h] = some (.nx, [some (.list DD), some (.list row), some (.int v), some (.int s), some (.str w.str), some (.list (frD row)), some (.int (a : Int)), g, h]) :=
  asg_ev (ix_ev (xs := frD row) (i := s) (ρ1 := [some (.list DD), some (.list row), some (.int v), some (.int s), some (.str w.str), some (.list (frD row)), f, g, h]) (ρ2 := [some (.list DD), some (.list row), some (.int v), some (.int s), some (.str w.str), some (.list (frD row)), f, g, h]) rfl rfl ha)
theorem ob_row {a : Nat} (hl : row.length ≤ 100000) : asgS 1 (opE addD (opE addD (slE (varE 1) noO (atO (varE 6))) (varE 7)) (slE (varE 1) (atO (opE addD (varE 6) (cE (.int 1)))) noO)) [some (.list DD), some (.list row), some (.int v), some (.int s), some (.str w.str), some (.list (frD row)), some (.int (a : Int)), some (.list (newsD w v)), h] = some (.nx, [some (.list DD), some (.list (row.take a ++ newsD w v ++ row.drop (a + 1))), some (.int v), some (.int s), some (.str w.str), some (.list (frD row)), some (.int (a : Int)), some (.list (newsD w v)), h]) := by
  have hn : (newsD w v).length ≤ 3 := by cases w <;> simp [newsD, hasL, hasR]
  have e1 := slhi_ev (f := varE 1) (g := varE 6) (i := a) (xs := row) (ρ := [some (.list DD), some (.list row), some (.int v), some (.int s), some (.str w.str), some (.list (frD row)), some (.int (a : Int)), some (.list (newsD w v)), h]) rfl rfl
  have e2 := sllo_ev (f := varE 1) (g := opE addD (varE 6) (cE (.int 1))) (i := a + 1) (xs := row) (ρ := [some (.list DD), some (.list row), some (.int v), some (.int s), some (.str w.str), some (.list (frD row)), some (.int (a : Int)), some (.list (newsD w v)), h]) rfl rfl
  exact asg_ev (ad_ev (ad_ev e1 rfl (by simp only [List.length_take]; omega)) e2 (by simp only [List.length_append, List.length_take, List.length_drop]; omega))
theorem ob_yes {a : Nat} (hat : atI DD (v - 1) = some (dD s w)) (hl : row.length ≤ 100000) (hs : 0 ≤ s ∧ s < (frD row).length) (ha : atI (frD row) s = some (.int (a : Int))) : OB [some (.list DD), some (.list row), some (.int v), c, d, e, f, g, h] = some (.nx, [some (.list DD), some (.list (row.take a ++ newsD w v ++ row.drop (a + 1))), some (.int v), some (.int s), some (.str w.str), some (.list (frD row)), some (.int (a : Int)), some (.list (newsD w v)), h]) := by
  unfold OB
  rw [seq_nx (ob_asg hat), seq_nx (ob_free (by omega)), seq_nx (if0_ev (ob_cond (by simp [hs.1, hs.2]))), seq_nx (ob_at ha), seq_nx (asg_ev (news_ev w v))]
  exact (seq_nx (ob_row hl)).trans rfl
theorem ob_no (hat : atI DD (v - 1) = some (dD s w)) (hl : row.length ≤ 100000) (hs : ¬ (0 ≤ s ∧ s < (frD row).length)) : ∃ ρ', OB [some (.list DD), some (.list row), some (.int v), c, d, e, f, g, h] = some (.rt .none, ρ') := by
  unfold OB
  rw [seq_nx (ob_asg hat), seq_nx (ob_free (by omega))]
  refine ⟨_, if1_ret (ob_cond ?_) rfl⟩
  simp only [Bool.not_eq_true', Bool.and_eq_false_iff, decide_eq_false_iff_not]
  by_cases h0 : 0 ≤ s
  · exact .inr fun z => hs ⟨h0, z⟩
  · exact .inl h0
end
theorem ood_loop : ∀ (ds pre : List (Int × Wd)) (row : List D) (b c d e f g h : Option D), pre.length + ds.length ≤ 1000 → row.length ≤ 1 + 2 * pre.length →
    ∃ ρ', forL (gN 2) OB (rgD ((pre.length : Int) + 1) ds.length) [some (.list (dsD (pre ++ ds))), some (.list row), b, c, d, e, f, g, h] = some (resF (runR ds ((pre.length : Int) + 1) row), ρ') ∧
      ∀ row', runR ds ((pre.length : Int) + 1) row = some row' → row'.length ≤ 1 + 2 * (pre.length + ds.length) ∧ ∃ b c d e f g h, ρ' = [some (.list (dsD (pre ++ ds))), some (.list row'), b, c, d, e, f, g, h]
  | [], pre, row, b, c, d, e, f, g, h, hl, hr => ⟨_, rfl, fun row' e => by cases e; exact ⟨hr, _, _, _, _, _, _, _, rfl⟩⟩
  | (s, w) :: ds, pre, row, b, c, d, e, f, g, h, hl, hr => by
    have hat : atI (dsD (pre ++ (s, w) :: ds)) ((pre.length : Int) + 1 - 1) = some (dD s w) := by
      rw [show (pre.length : Int) + 1 - 1 = (pre.length : Nat) by omega]
      refine atI_get ?_
      unfold dsD
      rw [List.getElem?_map, List.getElem?_append_right (Nat.le_refl _), Nat.sub_self]; rfl
    simp only [List.length_cons] at hl
    rw [List.length_cons, rgD_succ]
    have ep : (((pre ++ [(s, w)]).length : Nat) : Int) = (pre.length : Int) + 1 := by simp
    have eapp : pre ++ [(s, w)] ++ ds = pre ++ (s, w) :: ds := by simp
    generalize hDD : dsD (pre ++ (s, w) :: ds) = DD at *
    by_cases hs : 0 ≤ s ∧ s < (frD row).length
    · obtain ⟨a, ha, hst⟩ := step_yes (v := (pre.length : Int) + 1) (w := w) hs.1 hs.2
      have hrl := step_len hst
      obtain ⟨ρ', e1, e2⟩ := ood_loop ds (pre ++ [(s, w)]) (row.take a ++ newsD w ((pre.length : Int) + 1) ++ row.drop (a + 1)) (some (.int ((pre.length : Int) + 1))) (some (.int s)) (some (.str w.str)) (some (.list (frD row))) (some (.int (a : Int))) (some (.list (newsD w ((pre.length : Int) + 1)))) h (by simp only [List.length_append, List.length_cons, List.length_nil]; omega) (by simp only [List.length_append, List.length_cons, List.length_nil] at hrl ⊢; omega)
      rw [eapp, hDD, ep] at e1 e2
      have er : runR ((s, w) :: ds) ((pre.length : Int) + 1) row = runR ds ((pre.length : Int) + 1 + 1) (row.take a ++ newsD w ((pre.length : Int) + 1) ++ row.drop (a + 1)) := by
        conv => lhs; unfold runR
        rw [hst]; rfl
      rw [er]
      refine ⟨ρ', ?_, fun row' hr' => ?_⟩
      · rw [forL_cons rfl (ob_yes hat (by omega) hs ha)]
        exact e1
      · obtain ⟨g1, g2⟩ := e2 row' hr'
        refine ⟨?_, g2⟩
        simp only [List.length_append, List.length_cons, List.length_nil] at g1 ⊢; omega
    · have er : runR ((s, w) :: ds) ((pre.length : Int) + 1) row = none := by
        unfold runR
        rw [step_no hs]; rfl
      rw [er]
      obtain ⟨ρ', e1⟩ := ob_no (c := c) (d := d) (e := e) (f := f) (g := g) (h := h) hat (by omega) hs
      exact ⟨ρ', forL_ret rfl e1, fun row' hr' => by cases hr'⟩
end My

set_option pp.maxSteps 400
set_option Elab.async false
set_option linter.all false
set_option maxRecDepth 100000
set_option maxHeartbeats 4000000
namespace My
open PySem PySem.Spec L2 BV
/-! ## order_of_deeds -/
def Flt (row : List D) : Prop := ∀ d ∈ row, d = .none ∨ ∃ i, d = .int i
def resD (r : Option (List D)) : D := match r with
  | some row => if row.any isNone = true then .none else .list row
  | none => .none
theorem flt_news (w : Wd) (v : Int) : Flt (newsD w v) := fun d hd => by
  have h : d = .none ∨ d = .int v := by
    unfold newsD at hd
    rcases List.mem_append.mp hd with h | h
    · split at h
      · exact .inl (List.mem_singleton.mp h)
      · cases h
    · rcases List.mem_cons.mp h with h | h
      · exact .inr h
      · split at h
        · exact .inl (List.mem_singleton.mp h)
        · cases h
  rcases h with h | h
  · exact .inl h
  · exact .inr ⟨v, h⟩
theorem flt_step {row row' : List D} {v s : Int} {w : Wd} (h : stepR row v s w = some row') (f : Flt row) : Flt row' := by
  unfold stepR at h
  split at h
  · obtain ⟨A, B, rfl, _, rfl⟩ := rep_inv _ _ _ _ h
    intro d hd
    rcases List.mem_append.mp hd with hd | hd
    · exact f d (List.mem_append_left _ hd)
    · rcases List.mem_append.mp hd with hd | hd
      · exact flt_news w v d hd
      · exact f d (List.mem_append_right _ (List.mem_cons_of_mem _ hd))
  · cases h
theorem flt_run : ∀ (ds : List (Int × Wd)) (v : Int) (row row' : List D), runR ds v row = some row' → Flt row → Flt row'
  | [], v, row, row', h, f => by cases h; exact f
  | (s, w) :: ds, v, row, row', h, f => by
    unfold runR at h
    cases e : stepR row v s w with
    | none => rw [e] at h; cases h
    | some r1 =>
      rw [e] at h
      exact flt_run ds (v + 1) r1 row' h (flt_step e f)
theorem flt_any {row : List D} (f : Flt row) : (row.any fun z => PyData.eqv z .none) = row.any isNone := by
  induction row with
  | nil => rfl
  | cons d row ih =>
    rw [List.any_cons, List.any_cons, ih fun x hx => f x (List.mem_cons_of_mem _ hx)]
    rcases f d List.mem_cons_self with e | ⟨i, e⟩ <;> subst e <;> rfl
theorem flt_nice {row : List D} (f : Flt row) (hl : row.length ≤ 1000000) : Nice 2 (.list row) := by
  refine ⟨hl, fun d hd => ?_⟩
  rcases f d hd with e | ⟨i, e⟩ <;> subst e <;> trivial
theorem in_row {i : Nat} {ρ : En} {row : List D} (hi : ρ[i]? = some (some (.list row))) (f : Flt row) (hl : row.length ≤ 1000000) : opE inD (cE .none) (varE i) ρ = some (.bool (row.any isNone), ρ) := by
  refine op_ev rfl (y := .list row) (by unfold varE; rw [hi]) ?_
  show (if SeqAt.shaped .none = true ∧ SeqAt.shaped (.list row) = true then some (PyData.bool (row.any fun z => PyData.eqv z .none)) else none) = _
  rw [if_pos ⟨nice_shaped (n := 1) (d := .none) trivial (by omega), nice_shaped (flt_nice f hl) (by omega)⟩, flt_any f]
theorem flt_row0 (n : Nat) : Flt (row0 n) := fun d hd => by
  unfold row0 at hd
  split at hd
  · exact .inl (List.mem_singleton.mp hd)
  · cases hd
theorem dsD_len (ds : List (Int × Wd)) : (dsD ds).length = ds.length := by unfold dsD; rw [List.length_map]
theorem row0_ev {o : Option D} {a b c d e f g : Option D} (ds : List (Int × Wd)) : (ifE (bE (opE gtD (clE lenD (consL (varE 0) nilL)) (cE (.int 0)))) (lstE (consL (cE .none) nilL)) (cE (.list []))) [some (.list (dsD ds)), o, a, b, c, d, e, f, g] = some (.list (row0 ds.length), [some (.list (dsD ds)), o, a, b, c, d, e, f, g]) := by
  refine if_ev (b := decide ((0 : Int) < (dsD ds).length)) (bE_ev (op_ev (len_ev rfl) rfl rfl)) ?_
  rw [dsD_len]
  unfold row0
  by_cases h : 0 < ds.length
  · rw [if_pos (decide_eq_true (by omega)), if_pos h]; rfl
  · rw [if_neg (by simpa using h), if_neg h]; rfl
theorem ood (ds : List (Int × Wd)) (h : ds.length ≤ 900) : ∃ o, M_order_of_deeds [.list (dsD ds)] = some (resD (runR ds 1 (row0 ds.length)), o) := by
  have hr0 : (row0 ds.length).length ≤ 1 := by unfold row0; split <;> simp
  obtain ⟨ρ', e1, e2⟩ := ood_loop ds [] (row0 ds.length) none none none none none none none (by simp only [List.length_nil]; omega) (by simp only [List.length_nil]; omega)
  have e1' : forL (gN 2) OB (rgD 1 ds.length) [some (.list (dsD ds)), some (.list (row0 ds.length)), none, none, none, none, none, none, none] = some (resF (runR ds 1 (row0 ds.length)), ρ') := e1
  have e2' : ∀ row', runR ds 1 (row0 ds.length) = some row' → row'.length ≤ 1 + 2 * (0 + ds.length) ∧ ∃ b c d e f g h, ρ' = [some (.list (dsD ds)), some (.list row'), b, c, d, e, f, g, h] := e2
  have key : Post B_order_of_deeds [some (.list (dsD ds)), none, none, none, none, none, none, none, none] (fun fl _ => fl = .rt (resD (runR ds 1 (row0 ds.length)))) := by
    unfold B_order_of_deeds
    refine po_asg (row0_ev ds) ?_
    have hrg : rg2L (cE (.int 1)) (opE addD (clE lenD (consL (varE 0) nilL)) (cE (.int 1))) [some (.list (dsD ds)), some (.list (row0 ds.length)), none, none, none, none, none, none, none] = some (rgD 1 ds.length, [some (.list (dsD ds)), some (.list (row0 ds.length)), none, none, none, none, none, none, none]) := by
      rw [rg2_ev (i := 1) (j := (dsD ds).length + 1) rfl (op_ev (len_ev rfl) rfl rfl) ⟨by decide, by decide⟩ (by rw [dsD_len]; omega), dsD_len, show ((ds.length : Int) + 1 - 1).toNat = ds.length by omega]
    cases er : runR ds 1 (row0 ds.length) with
    | none =>
      rw [er] at e1'
      exact po_for_rt hrg e1' rfl
    | some row' =>
      rw [er] at e1'
      obtain ⟨g1, b, c, d, e, f, g, h', rfl⟩ := e2' row' er
      have ft := flt_run ds 1 _ _ er (flt_row0 _)
      refine po_for_nx hrg e1' (po_ret (if_ev (bE_ev (in_row rfl ft (by omega))) (d := resD (some row')) (ρ2 := [some (.list (dsD ds)), some (.list row'), b, c, d, e, f, g, h']) ?_) rfl)
      cases ea : row'.any isNone with
      | false =>
        have er : resD (some row') = .list row' := by unfold resD; dsimp only; rw [ea]; rfl
        rw [er]; rfl
      | true =>
        have er : resD (some row') = .none := by unfold resD; dsimp only; rw [ea]; rfl
        rw [er]; rfl
  obtain ⟨fl, ρ2, e, rfl⟩ := key
  exact ⟨_, defM_rt e⟩
end My

set_option pp.maxSteps 400
set_option Elab.async false
set_option linter.all false
set_option maxRecDepth 100000
set_option maxHeartbeats 4000000
namespace My
open PySem PySem.Spec L2 BV
/-! ## _law_done -/
abbrev DB : FS := (seqS (asgS 3 (lcE (rg1L (clE lenD (consL (varE 1) nilL))) (gN 6) (bE (opE isD (opE ixD (varE 1) (varE 6)) (cE .none))) (varE 6) [6]))
  (seqS (asgG (opE ixD (varE 0) (varE 2)) (gT [(gN 4), (gN 5)]))
  (seqS (ifS (orT (bE (opE geD (varE 4) (clE lenD (consL (varE 3) nilL)))) (bE (opE ltD (varE 4) (cE (.int 0)))))
  (seqS (retS (cE .none))
  nxS)
  nxS)
  (seqS (asgS 6 (opE ixD (varE 3) (varE 4)))
  (seqS (asgS 7 (ifE (bE (opE inD (varE 5) (lstE (consL (cE (.str ("right" : Str))) (consL (cE (.str ("middle" : Str))) nilL))))) (lstE (consL (cE .none) nilL)) (cE (.list []))))
  (seqS (asgS 8 (ifE (bE (opE inD (varE 5) (lstE (consL (cE (.str ("left" : Str))) (consL (cE (.str ("middle" : Str))) nilL))))) (lstE (consL (cE .none) nilL)) (cE (.list []))))
  (seqS (asgS 1 (opE addD (opE addD (opE addD (opE addD (slE (varE 1) noO (atO (varE 6))) (varE 7)) (lstE (consL (opE addD (varE 2) (cE (.int 1))) nilL))) (varE 8)) (slE (varE 1) (atO (opE addD (varE 6) (cE (.int 1)))) noO)))
  nxS)))))))
def lD (w : Wd) : List D := if hasL w = true then [.none] else []
def rD (w : Wd) : List D := if hasR w = true then [.none] else []
section
variable {DD row : List D} {v s : Int} {w : Wd} {a c d e f g h : Option D}
theorem db_left' {h8 : Option D} : (ifE (bE (opE inD (varE 5) (lstE (consL (cE (.str ("right" : Str))) (consL (cE (.str ("middle" : Str))) nilL))))) (lstE (consL (cE .none) nilL)) (cE (.list []))) [a, c, d, e, f, some (.str w.str), g, h, h8] = some (.list (lD w), [a, c, d, e, f, some (.str w.str), g, h, h8]) := by
  cases w <;> kernel_rfl
theorem db_right' {h8 : Option D} : (ifE (bE (opE inD (varE 5) (lstE (consL (cE (.str ("left" : Str))) (consL (cE (.str ("middle" : Str))) nilL))))) (lstE (consL (cE .none) nilL)) (cE (.list []))) [a, c, d, e, f, some (.str w.str), g, h, h8] = some (.list (rD w), [a, c, d, e, f, some (.str w.str), g, h, h8]) := by
  cases w <;> kernel_rfl
theorem db_free {k : D} (hr : row.length ≤ 1000000) : asgS 3 (lcE (rg1L (clE lenD (consL (varE 1) nilL))) (gN 6) (bE (opE isD (opE ixD (varE 1) (varE 6)) (cE .none))) (varE 6) [6]) [some (.list DD), some (.list row), some k, c, d, e, f, g, h] = some (.nx, [some (.list DD), some (.list row), some k, some (.list (frD row)), d, e, f, g, h]) :=
  asg_ev (free_ev (i := 1) (j := 6) (ρ := [some (.list DD), some (.list row), some k, c, d, e, f, g, h]) (row := row) rfl (by decide) hr (Nat.le_of_ble_eq_true rfl))
theorem db_asg (hat : atI DD v = some (dD s w)) : asgG (opE ixD (varE 0) (varE 2)) (gT [(gN 4), (gN 5)]) [some (.list DD), some (.list row), some (.int v), c, d, e, f, g, h] = some (.nx, [some (.list DD), some (.list row), some (.int v), c, some (.int s), some (.str w.str), f, g, h]) := by
  unfold asgG
  rw [ix_ev (xs := DD) (i := v) (ρ1 := [some (.list DD), some (.list row), some (.int v), c, d, e, f, g, h]) (ρ2 := [some (.list DD), some (.list row), some (.int v), c, d, e, f, g, h]) rfl rfl hat]
  rfl
theorem orT_evT {f g : FT} {ρ ρ1 : En} (h : f ρ = some (true, ρ1)) : orT f g ρ = some (true, ρ1) := by unfold orT; rw [h]
theorem db_cond {b : Bool} (hb : (decide ((frD row).length ≤ s) || decide (s < 0)) = b) : (orT (bE (opE geD (varE 4) (clE lenD (consL (varE 3) nilL)))) (bE (opE ltD (varE 4) (cE (.int 0))))) [some (.list DD), some (.list row), some (.int v), some (.list (frD row)), some (.int s), some (.str w.str), f, g, h] = some (b, [some (.list DD), some (.list row), some (.int v), some (.list (frD row)), some (.int s), some (.str w.str), f, g, h]) := by
  have e1 : bE (opE geD (varE 4) (clE lenD (consL (varE 3) nilL))) [some (.list DD), some (.list row), some (.int v), some (.list (frD row)), some (.int s), some (.str w.str), f, g, h] = some (decide ((frD row).length ≤ s), [some (.list DD), some (.list row), some (.int v), some (.list (frD row)), some (.int s), some (.str w.str), f, g, h]) := bE_ev (op_ev rfl (len_ev rfl) rfl)
  subst hb
  cases h1 : decide (((frD row).length : Int) ≤ s) with
  | true => rw [h1] at e1; exact orT_evT e1
  | false => rw [h1] at e1; exact orT_ev e1 (bE_ev (op_ev rfl rfl rfl))
theorem db_row {b : Nat} (hl : row.length ≤ 100000) : asgS 1 (opE addD (opE addD (opE addD (opE addD (slE (varE 1) noO (atO (varE 6))) (varE 7)) (lstE (consL (opE addD (varE 2) (cE (.int 1))) nilL))) (varE 8)) (slE (varE 1) (atO (opE addD (varE 6) (cE (.int 1)))) noO)) [some (.list DD), some (.list row), some (.int v), c, d, e, some (.int (b : Int)), some (.list (lD w)), some (.list (rD w))] = some (.nx, [some (.list DD), some (.list (row.take b ++ newsD w (v + 1) ++ row.drop (b + 1))), some (.int v), c, d, e, some (.int (b : Int)), some (.list (lD w)), some (.list (rD w))]) := by
  have h1 : (lD w).length ≤ 1 := by cases w <;> simp [lD, hasL]
  have h2 : (rD w).length ≤ 1 := by cases w <;> simp [rD, hasR]
  have e1 := slhi_ev (f := varE 1) (g := varE 6) (i := b) (xs := row) (ρ := [some (.list DD), some (.list row), some (.int v), c, d, e, some (.int (b : Int)), some (.list (lD w)), some (.list (rD w))]) rfl rfl
  have e2 := sllo_ev (f := varE 1) (g := opE addD (varE 6) (cE (.int 1))) (i := b + 1) (xs := row) (ρ := [some (.list DD), some (.list row), some (.int v), c, d, e, some (.int (b : Int)), some (.list (lD w)), some (.list (rD w))]) rfl rfl
  have e3 := ad_ev (ad_ev (ad_ev (ad_ev e1 (fb := varE 7) rfl (by simp only [List.length_take]; omega)) (fb := lstE (consL (opE addD (varE 2) (cE (.int 1))) nilL)) (ys := [.int (v + 1)]) rfl (by simp only [List.length_append, List.length_take, List.length_cons, List.length_nil]; omega)) (fb := varE 8) rfl (by simp only [List.length_append, List.length_take, List.length_cons, List.length_nil]; omega)) e2 (by simp only [List.length_append, List.length_take, List.length_drop, List.length_cons, List.length_nil]; omega)
  have ea := asg_ev (i := 1) e3
  have en : row.take b ++ lD w ++ [PyData.int (v + 1)] ++ rD w ++ row.drop (b + 1) = row.take b ++ newsD w (v + 1) ++ row.drop (b + 1) := by
    unfold newsD lD rD
    simp only [List.append_assoc, List.cons_append, List.nil_append]
  rw [en] at ea
  exact ea
theorem db_yes {b : Nat} (hat : atI DD v = some (dD s w)) (hl : row.length ≤ 100000) (hs : 0 ≤ s ∧ s < (frD row).length) (ha : atI (frD row) s = some (.int (b : Int))) : DB [some (.list DD), some (.list row), some (.int v), c, d, e, f, g, h] = some (.nx, [some (.list DD), some (.list (row.take b ++ newsD w (v + 1) ++ row.drop (b + 1))), some (.int v), some (.list (frD row)), some (.int s), some (.str w.str), some (.int (b : Int)), some (.list (lD w)), some (.list (rD w))]) := by
  unfold DB
  rw [seq_nx (db_free (by omega)), seq_nx (db_asg hat), seq_nx (if0_ev (db_cond (by
    have := hs.1
    have := hs.2
    simp only [Bool.or_eq_false_iff, decide_eq_false_iff_not]
    omega)))]
  rw [seq_nx (ρ' := [some (.list DD), some (.list row), some (.int v), some (.list (frD row)), some (.int s), some (.str w.str), some (.int (b : Int)), g, h]) (asg_ev (ix_ev (xs := frD row) (i := s) (ρ1 := [some (.list DD), some (.list row), some (.int v), some (.list (frD row)), some (.int s), some (.str w.str), f, g, h]) (ρ2 := [some (.list DD), some (.list row), some (.int v), some (.list (frD row)), some (.int s), some (.str w.str), f, g, h]) rfl rfl ha))]
  rw [seq_nx (ρ' := [some (.list DD), some (.list row), some (.int v), some (.list (frD row)), some (.int s), some (.str w.str), some (.int (b : Int)), some (.list (lD w)), h]) (asg_ev db_left')]
  rw [seq_nx (ρ' := [some (.list DD), some (.list row), some (.int v), some (.list (frD row)), some (.int s), some (.str w.str), some (.int (b : Int)), some (.list (lD w)), some (.list (rD w))]) (asg_ev db_right')]
  exact (seq_nx (db_row hl)).trans rfl
theorem db_no (hat : atI DD v = some (dD s w)) (hl : row.length ≤ 100000) (hs : ¬ (0 ≤ s ∧ s < (frD row).length)) : ∃ ρ', DB [some (.list DD), some (.list row), some (.int v), c, d, e, f, g, h] = some (.rt .none, ρ') := by
  unfold DB
  rw [seq_nx (db_free (by omega)), seq_nx (db_asg hat)]
  refine ⟨_, if1_ret (db_cond ?_) rfl⟩
  simp only [Bool.or_eq_true, decide_eq_true_eq]
  omega
end
end My

set_option pp.maxSteps 400
set_option Elab.async false
set_option linter.all false
set_option maxRecDepth 100000
set_option maxHeartbeats 4000000
namespace My
open PySem PySem.Spec L2 BV
theorem ldn_loop : ∀ (ds pre : List (Int × Wd)) (row : List D) (b c d e f g h : Option D), pre.length + ds.length ≤ 1000 → row.length ≤ 1 + 2 * pre.length →
    ∃ ρ', forL (gN 2) DB (rgD (pre.length : Int) ds.length) [some (.list (dsD (pre ++ ds))), some (.list row), b, c, d, e, f, g, h] = some (resF (runR ds ((pre.length : Int) + 1) row), ρ') ∧
      ∀ row', runR ds ((pre.length : Int) + 1) row = some row' → row'.length ≤ 1 + 2 * (pre.length + ds.length) ∧ ∃ b c d e f g h, ρ' = [some (.list (dsD (pre ++ ds))), some (.list row'), b, c, d, e, f, g, h]
  | [], pre, row, b, c, d, e, f, g, h, hl, hr => ⟨_, rfl, fun row' e => by cases e; exact ⟨hr, _, _, _, _, _, _, _, rfl⟩⟩
  | (s, w) :: ds, pre, row, b, c, d, e, f, g, h, hl, hr => by
    have hat : atI (dsD (pre ++ (s, w) :: ds)) (pre.length : Int) = some (dD s w) := by
      refine atI_get ?_
      unfold dsD
      rw [List.getElem?_map, List.getElem?_append_right (Nat.le_refl _), Nat.sub_self]; rfl
    simp only [List.length_cons] at hl
    rw [List.length_cons, rgD_succ]
    have ep : (((pre ++ [(s, w)]).length : Nat) : Int) = (pre.length : Int) + 1 := by simp
    have eapp : pre ++ [(s, w)] ++ ds = pre ++ (s, w) :: ds := by simp
    generalize hDD : dsD (pre ++ (s, w) :: ds) = DD at *
    by_cases hs : 0 ≤ s ∧ s < (frD row).length
    · obtain ⟨a, ha, hst⟩ := step_yes (v := (pre.length : Int) + 1) (w := w) hs.1 hs.2
      have hrl := step_len hst
      obtain ⟨ρ', e1, e2⟩ := ldn_loop ds (pre ++ [(s, w)]) (row.take a ++ newsD w ((pre.length : Int) + 1) ++ row.drop (a + 1)) (some (.int (pre.length : Int))) (some (.list (frD row))) (some (.int s)) (some (.str w.str)) (some (.int (a : Int))) (some (.list (lD w))) (some (.list (rD w))) (by simp only [List.length_append, List.length_cons, List.length_nil]; omega) (by simp only [List.length_append, List.length_cons, List.length_nil] at hrl ⊢; omega)
      rw [eapp, hDD, ep] at e1 e2
      have er : runR ((s, w) :: ds) ((pre.length : Int) + 1) row = runR ds ((pre.length : Int) + 1 + 1) (row.take a ++ newsD w ((pre.length : Int) + 1) ++ row.drop (a + 1)) := by
        conv => lhs; unfold runR
        rw [hst]; rfl
      rw [er]
      refine ⟨ρ', ?_, fun row' hr' => ?_⟩
      · rw [forL_cons rfl (db_yes hat (by omega) hs ha)]
        exact e1
      · obtain ⟨g1, g2⟩ := e2 row' hr'
        refine ⟨?_, g2⟩
        simp only [List.length_append, List.length_cons, List.length_nil] at g1 ⊢; omega
    · have er : runR ((s, w) :: ds) ((pre.length : Int) + 1) row = none := by
        unfold runR
        rw [step_no hs]; rfl
      rw [er]
      obtain ⟨ρ', e1⟩ := db_no (c := c) (d := d) (e := e) (f := f) (g := g) (h := h) hat (by omega) hs
      exact ⟨ρ', forL_ret rfl e1, fun row' hr' => by cases hr'⟩
theorem ldn (ds : List (Int × Wd)) (h : ds.length ≤ 900) : ∃ o, M__law_done [.list (dsD ds)] = some (resD (runR ds 1 (row0 ds.length)), o) := by
  have hr0 : (row0 ds.length).length ≤ 1 := by unfold row0; split <;> simp
  obtain ⟨ρ', e1, e2⟩ := ldn_loop ds [] (row0 ds.length) none none none none none none none (by simp only [List.length_nil]; omega) (by simp only [List.length_nil]; omega)
  have e1' : forL (gN 2) DB (rgD 0 ds.length) [some (.list (dsD ds)), some (.list (row0 ds.length)), none, none, none, none, none, none, none] = some (resF (runR ds 1 (row0 ds.length)), ρ') := e1
  have e2' : ∀ row', runR ds 1 (row0 ds.length) = some row' → row'.length ≤ 1 + 2 * (0 + ds.length) ∧ ∃ b c d e f g h, ρ' = [some (.list (dsD ds)), some (.list row'), b, c, d, e, f, g, h] := e2
  have key : Post B__law_done [some (.list (dsD ds)), none, none, none, none, none, none, none, none] (fun fl _ => fl = .rt (resD (runR ds 1 (row0 ds.length)))) := by
    unfold B__law_done
    refine po_asg (row0_ev ds) ?_
    have hrg : rg1L (clE lenD (consL (varE 0) nilL)) [some (.list (dsD ds)), some (.list (row0 ds.length)), none, none, none, none, none, none, none] = some (rgD 0 ds.length, [some (.list (dsD ds)), some (.list (row0 ds.length)), none, none, none, none, none, none, none]) := by
      rw [rg1_ev (j := (dsD ds).length) (len_ev rfl) (by rw [dsD_len]; omega), dsD_len]; rfl
    cases er : runR ds 1 (row0 ds.length) with
    | none =>
      rw [er] at e1'
      exact po_for_rt hrg e1' rfl
    | some row' =>
      rw [er] at e1'
      obtain ⟨g1, b, c, d, e, f, g, h', rfl⟩ := e2' row' er
      have ft := flt_run ds 1 _ _ er (flt_row0 _)
      refine po_for_nx hrg e1' (po_ret (if_ev (bE_ev (in_row rfl ft (by omega))) (d := resD (some row')) (ρ2 := [some (.list (dsD ds)), some (.list row'), b, c, d, e, f, g, h']) ?_) rfl)
      cases ea : row'.any isNone with
      | false =>
        have er : resD (some row') = .list row' := by unfold resD; dsimp only; rw [ea]; rfl
        rw [er]; rfl
      | true =>
        have er : resD (some row') = .none := by unfold resD; dsimp only; rw [ea]; rfl
        rw [er]; rfl
  obtain ⟨fl, ρ2, e, rfl⟩ := key
  exact ⟨_, defM_rt e⟩
/-- the values that stand, and those that a chain still puts -/
def vals (J : Js) : List Int := J.flatMap fun it => match it with | .val x => [x] | .run _ => []
def nums (v : Int) (k : Nat) : List Int := (List.range k).map fun (i : Nat) => v + (i : Int)
theorem nums_succ (v : Int) (k : Nat) : nums v (k + 1) = v :: nums (v + 1) k := by
  unfold nums
  rw [List.range_succ_eq_map, List.map_cons, List.map_map]
  congr 1
  · simp
  · refine List.map_congr_left fun a _ => ?_
    show v + ((a + 1 : Nat) : Int) = v + 1 + a
    omega
theorem vals_done : ∀ {J : Js}, (∀ it ∈ J, isRun it = false) → flat J = vals J
  | [], _ => rfl
  | .val x :: J, h => by
    show x :: flat J = x :: vals J
    rw [vals_done fun it hi => h it (List.mem_cons_of_mem _ hi)]
  | .run l :: J, h => absurd (h _ List.mem_cons_self) (by simp [isRun])
theorem vals_app (A B : Js) : vals (A ++ B) = vals A ++ vals B := by unfold vals; rw [List.flatMap_append]
theorem vals_rn (l : List Int) : vals (rn l) = [] := by unfold rn; split <;> rfl
theorem ch_perm {v : Int} {J : Js} {ds : List (Int × Wd)} (h : Ch v J ds) : (flat J).Perm (vals J ++ nums v ds.length) := by
  induction h with
  | nil h => rw [vals_done h]; exact List.Perm.of_eq (by simp [nums])
  | @cons v P R a b ds h ih =>
    rw [flat_step] at ih
    refine ih.trans ?_
    rw [List.length_cons, nums_succ, vals_app, vals_app, vals_app]
    show (vals P ++ (vals (rn a) ++ v :: vals (rn b ++ R)) ++ nums (v + 1) ds.length).Perm (vals P ++ vals R ++ v :: nums (v + 1) ds.length)
    rw [vals_app, vals_rn, vals_rn]
    simp only [List.nil_append, List.append_assoc, List.cons_append]
    exact List.Perm.append_left _ (List.perm_middle.symm)
end My

set_option pp.maxSteps 400
set_option Elab.async false
set_option linter.all false
set_option maxRecDepth 100000
set_option maxHeartbeats 4000000
namespace My
open PySem PySem.Spec L2 BV
/-! ## the dict of places, as deeds_of makes it -/
def plD (o : List Int) (b : Nat) : List (D × D) := (o.zipIdx b).map fun p => (PyData.int p.1, PyData.int (p.2 : Int))
theorem putD_new {k d : D} : ∀ {ds : List (D × D)}, (∀ p ∈ ds, keyEq p.1 k = false) → putD k d ds = ds ++ [(k, d)] := fun {ds} h => by
  unfold putD
  rw [if_neg (fun z => by
    obtain ⟨p, hp, e⟩ := List.any_eq_true.mp z
    rw [h p hp] at e; cases e)]
theorem plD_key {o : List Int} {b : Nat} {x : Int} (h : x ∉ o) : ∀ p ∈ plD o b, keyEq p.1 (.int x) = false := fun p hp => by
  obtain ⟨q, hq, rfl⟩ := List.mem_map.mp hp
  have hm : q.1 ∈ o := List.fst_mem_of_mem_zipIdx hq
  show decide (q.1 = x) = false
  exact decide_eq_false fun e => h (e ▸ hm)
theorem plD_look : ∀ {o : List Int} {b i : Nat} {x : Int}, o.Nodup → o[i]? = some x → lookD (.int x) (plD o b) = some (.int ((b + i : Nat) : Int))
  | [], _, _, _, _, h => by cases h
  | y :: o, b, 0, x, nd, h => by
    have e : y = x := by simpa using h
    subst e
    show (if decide (y = y) = true then _ else _) = _
    rw [if_pos (by simp)]; rfl
  | y :: o, b, i + 1, x, nd, h => by
    have hx : o[i]? = some x := by simpa using h
    have hm : x ∈ o := List.mem_of_getElem? hx
    have ne : y ≠ x := fun e => (List.nodup_cons.mp nd).1 (e ▸ hm)
    show (if decide (y = x) = true then _ else lookD (.int x) (plD o (b + 1))) = _
    rw [if_neg (by simpa using ne), plD_look (List.nodup_cons.mp nd).2 hx]
    congr 3
    omega
theorem dc_places {o : List Int} {a c d e f g h i j k l : Option D} (nd : o.Nodup) (hl : o.length ≤ 1000) : dcE (rg1L (clE lenD (consL (varE 0) nilL))) (gN 5) yT (opE ixD (varE 0) (varE 5)) (varE 5) [5] [some (.list (o.map .int)), a, c, d, e, f, g, h, i, j, k, l, none] = some (.dict (plD o 0), [some (.list (o.map .int)), a, c, d, e, f, g, h, i, j, k, l, none]) := by
  have step : ∀ (rest pre : List Int), pre ++ rest = o → dcL (gN 5) yT (opE ixD (varE 0) (varE 5)) (varE 5) [5] (rgD (pre.length : Int) rest.length) (plD pre 0) [some (.list (o.map .int)), a, c, d, e, none, g, h, i, j, k, l, none] = some (plD o 0, [some (.list (o.map .int)), a, c, d, e, none, g, h, i, j, k, l, none]) := by
    intro rest
    induction rest with
    | nil => intro pre he; rw [List.append_nil] at he; subst he; rfl
    | cons x rest ih =>
      intro pre he
      have hx : o[pre.length]? = some x := by rw [← he, List.getElem?_append_right (Nat.le_refl _), Nat.sub_self]; rfl
      have nx : x ∉ pre := fun z => by
        rw [← he] at nd
        exact (List.nodup_append.mp nd).2.2 x z x List.mem_cons_self rfl
      have hk := putD_new (k := .int x) (d := .int (pre.length : Int)) (plD_key (b := 0) nx)
      have hp : plD pre 0 ++ [(PyData.int x, PyData.int (pre.length : Int))] = plD (pre ++ [x]) 0 := by
        unfold plD
        rw [List.zipIdx_append, List.map_append]
        simp
      have ih' := ih (pre ++ [x]) (by rw [← he]; simp)
      rw [show (((pre ++ [x]).length : Nat) : Int) = (pre.length : Int) + 1 by simp] at ih'
      rw [List.length_cons, rgD_succ]
      unfold dcL
      have e1 : opE ixD (varE 0) (varE 5) [some (.list (o.map .int)), a, c, d, e, some (.int (pre.length : Int)), g, h, i, j, k, l, none] = some (.int x, [some (.list (o.map .int)), a, c, d, e, some (.int (pre.length : Int)), g, h, i, j, k, l, none]) :=
        ix_ev (xs := o.map .int) (i := (pre.length : Int)) rfl rfl (atI_get (by rw [List.getElem?_map, hx]; rfl))
      show (match opE ixD (varE 0) (varE 5) [some (.list (o.map .int)), a, c, d, e, some (.int (pre.length : Int)), g, h, i, j, k, l, none] with
        | none => none
        | some (y, ρ3) => match varE 5 ρ3 with
          | none => none
          | some (z, ρ4) => match keyD y with
            | none => none
            | some _ => dcL (gN 5) yT (opE ixD (varE 0) (varE 5)) (varE 5) [5] (rgD ((pre.length : Int) + 1) rest.length) (putD y z (plD pre 0)) (wipeE ρ4 [5])) = _
      rw [e1]
      show dcL (gN 5) yT (opE ixD (varE 0) (varE 5)) (varE 5) [5] (rgD ((pre.length : Int) + 1) rest.length) (putD (.int x) (.int (pre.length : Int)) (plD pre 0)) [some (.list (o.map .int)), a, c, d, e, none, g, h, i, j, k, l, none] = _
      rw [hk, hp]
      exact ih'
  unfold dcE
  rw [rg1_ev (j := (o.map PyData.int).length) (len_ev rfl) (by rw [List.length_map]; omega)]
  have q := step o [] rfl
  have hl' : (rgD 0 ((o.map PyData.int).length : Int).toNat).length ≤ 1000000 := by rw [rgD_len, List.length_map]; omega
  dsimp only
  rw [if_pos hl', List.length_map, Int.toNat_natCast]
  have q' : dcL (gN 5) yT (opE ixD (varE 0) (varE 5)) (varE 5) [5] (rgD 0 o.length) [] (wipeE [some (.list (o.map .int)), a, c, d, e, f, g, h, i, j, k, l, none] [5]) = some (plD o 0, [some (.list (o.map .int)), a, c, d, e, none, g, h, i, j, k, l, none]) := q
  rw [q']
  rfl
end My

set_option pp.maxSteps 400
set_option Elab.async false
set_option linter.all false
set_option maxRecDepth 100000
set_option maxHeartbeats 4000000
namespace My
open PySem PySem.Spec L2 BV
/-! ## one turn of deeds_of -/
def ivD (l : List (Nat × Nat)) : List D := l.map fun p => .tuple [.int (p.1 : Int), .int (p.2 : Int)]
section
variable {OD AT : D} {fd : List D} {IV : List (Nat × Nat)} {v pl s : D} {c d e f g h i j k l : Option D}
/-- the slot: the first stretch that holds the place -/
theorem do_slot {IV : List (Nat × Nat)} {pl s : Nat} {lo hi : Nat} (hs : IV[s]? = some (lo, hi)) (h1 : lo ≤ pl) (h2 : pl < hi) (hb : ∀ t, t < s → ∀ p, IV[t]? = some p → p.2 ≤ pl) (hl : IV.length ≤ 1000) :
    opE ixD (lcE (rg1L (clE lenD (consL (varE 3) nilL))) (gN 11) (bE (chainE leD ltD (opE ixD (opE ixD (varE 3) (varE 11)) (cE (.int 0))) (varE 5) (opE ixD (opE ixD (varE 3) (varE 11)) (cE (.int 1))))) (varE 11) [11]) (cE (.int 0)) [some OD, c, some AT, some (.list (ivD IV)), d, some (.int (pl : Int)), e, f, g, h, i, j, k] = some (.int (s : Int), [some OD, c, some AT, some (.list (ivD IV)), d, some (.int (pl : Int)), e, f, g, h, i, j, k]) := by
  have hlen : (ivD IV).length = IV.length := by unfold ivD; rw [List.length_map]
  have hsl : s < IV.length := (List.getElem?_eq_some_iff.mp hs).1
  let q : Nat → Bool := fun t => match IV[t]? with | some p => decide (p.1 ≤ pl) && decide (pl < p.2) | none => false
  have e1 := lc_filt0 (f := rg1L (clE lenD (consL (varE 3) nilL))) (t := bE (chainE leD ltD (opE ixD (opE ixD (varE 3) (varE 11)) (cE (.int 0))) (varE 5) (opE ixD (opE ixD (varE 3) (varE 11)) (cE (.int 1))))) (j := 11) (p := fun x => match x with | .int t => q t.toNat | _ => false) (l := rgD 0 IV.length) (ρ0 := [some OD, c, some AT, some (.list (ivD IV)), d, some (.int (pl : Int)), e, f, g, h, i, j, k]) (ρ := [some OD, c, some AT, some (.list (ivD IV)), d, some (.int (pl : Int)), e, f, g, h, i, j, k]) (by
      rw [rg1_ev (j := (ivD IV).length) (len_ev rfl) (by rw [hlen]; omega), hlen]; rfl) (by rw [rgD_len]; omega) (Nat.le_of_ble_eq_true rfl) fun x hx => by
    obtain ⟨t, ht, rfl⟩ := rg_mem hx
    have hq : q t = (decide (IV[t].1 ≤ pl) && decide (pl < IV[t].2)) := by
      show (match IV[t]? with | some p => _ | none => _) = _
      rw [List.getElem?_eq_getElem ht]
    have hiv : (ivD IV)[t]? = some (.tuple [.int (IV[t].1 : Int), .int (IV[t].2 : Int)]) := by
      unfold ivD
      rw [List.getElem?_map, List.getElem?_eq_getElem ht]; rfl
    have ea : ∀ (z : Int) (y : D), atI [PyData.int (IV[t].1 : Int), PyData.int (IV[t].2 : Int)] z = some y → opE ixD (opE ixD (varE 3) (varE 11)) (cE (.int z)) [some OD, c, some AT, some (.list (ivD IV)), d, some (.int (pl : Int)), e, f, g, h, i, some (.int (t : Int)), k] = some (y, [some OD, c, some AT, some (.list (ivD IV)), d, some (.int (pl : Int)), e, f, g, h, i, some (.int (t : Int)), k]) := fun z y hz =>
      ixt_ev (ix_ev (xs := ivD IV) (i := (t : Int)) rfl rfl (atI_get hiv)) rfl hz
    have e2 := bE_ev (chain_ev (o := leD) (o' := ltD) (p := decide (IV[t].1 ≤ pl)) (q := decide (pl < IV[t].2)) (ea 0 _ rfl) (fb := varE 5) rfl (ea 1 _ rfl) rfl (by
      show some (PyData.bool (decide ((IV[t].1 : Int) ≤ (pl : Int)))) = _
      congr 2
      exact decide_eq_decide.mpr (by omega)) (by
      show some (PyData.bool (decide ((pl : Int) < (IV[t].2 : Int)))) = _
      congr 2
      exact decide_eq_decide.mpr (by omega)))
    show _ = some (q (t : Int).toNat, _)
    rw [Int.toNat_natCast, hq]
    exact e2
  refine ix_ev e1 rfl ?_
  rw [rgD_filter]
  refine atI_get (i := 0) ?_
  rw [List.getElem?_map]
  have ef : (List.range IV.length).filter (fun (t : Nat) => (fun x : D => match x with | .int t => q t.toNat | _ => false) (.int (t : Int))) = (List.range' 0 IV.length).filter q := by
    rw [List.range_eq_range']
    refine List.filter_congr fun t _ => ?_
    show q (t : Int).toNat = q t
    rw [Int.toNat_natCast]
  rw [ef, filt_first q IV.length 0 s (Nat.zero_le _) (by omega) (by
    show (match IV[s]? with | some p => _ | none => _) = true
    rw [hs]
    simp [h1, h2]) fun t _ ht => by
      show (match IV[t]? with | some p => _ | none => _) = false
      cases et : IV[t]? with
      | none => rfl
      | some p =>
        have := hb t ht p et
        simp only [Bool.and_eq_false_iff, decide_eq_false_iff_not]
        exact .inr (by omega)]
  rfl
end
end My

set_option pp.maxSteps 400
set_option Elab.async false
set_option linter.all false
set_option maxRecDepth 100000
set_option maxHeartbeats 4000000
namespace My
open PySem PySem.Spec L2 BV
section
variable {OD AT SL : D} {fd : List D} {c d e f g h i j k l : Option D}
def nwI (lo pl hi : Nat) : List (Nat × Nat) := (if lo < pl then [(lo, pl)] else []) ++ (if pl + 1 < hi then [(pl + 1, hi)] else [])
theorem do_news {lo pl hi : Nat} : lcE (seqL (lstE (consL (tupE (consL (varE 7) (consL (varE 5) nilL))) (consL (tupE (consL (opE addD (varE 5) (cE (.int 1))) (consL (varE 8) nilL))) nilL)))) (gN 12) (bE (opE ltD (opE ixD (varE 12) (cE (.int 0))) (opE ixD (varE 12) (cE (.int 1))))) (varE 12) [12]
    [some OD, c, some AT, some SL, d, some (.int (pl : Int)), e, some (.int (lo : Int)), some (.int (hi : Int)), f, g, h, i] = some (.list (ivD (nwI lo pl hi)), [some OD, c, some AT, some SL, d, some (.int (pl : Int)), e, some (.int (lo : Int)), some (.int (hi : Int)), f, g, h, i]) := by
  have e1 := lc_filt0 (f := seqL (lstE (consL (tupE (consL (varE 7) (consL (varE 5) nilL))) (consL (tupE (consL (opE addD (varE 5) (cE (.int 1))) (consL (varE 8) nilL))) nilL)))) (t := bE (opE ltD (opE ixD (varE 12) (cE (.int 0))) (opE ixD (varE 12) (cE (.int 1))))) (j := 12) (p := fun x => match x with | .tuple [.int x, .int y] => decide (x < y) | _ => false)
    (l := [.tuple [.int (lo : Int), .int (pl : Int)], .tuple [.int ((pl : Int) + 1), .int (hi : Int)]]) (ρ0 := [some OD, c, some AT, some SL, d, some (.int (pl : Int)), e, some (.int (lo : Int)), some (.int (hi : Int)), f, g, h, i]) (ρ := [some OD, c, some AT, some SL, d, some (.int (pl : Int)), e, some (.int (lo : Int)), some (.int (hi : Int)), f, g, h, i]) rfl (by simp) (Nat.le_of_ble_eq_true rfl) fun x hx => by
      rcases List.mem_cons.mp hx with rfl | hx
      · rfl
      · rcases List.mem_cons.mp hx with rfl | hx
        · rfl
        · cases hx
  rw [e1]
  congr 3
  unfold nwI ivD
  have i1 : ((lo : Int) < (pl : Int)) ↔ lo < pl := by omega
  have i2 : ((pl : Int) + 1 < (hi : Int)) ↔ pl + 1 < hi := by omega
  by_cases h1 : lo < pl <;> by_cases h2 : pl + 1 < hi <;> simp [List.filter_cons, i1, i2, h1, h2]
def wdI (lo pl hi : Nat) : Wd := if lo < pl then (if pl + 1 < hi then .middle else .right) else if pl + 1 < hi then .left else .fill
theorem do_word {lo pl hi : Nat} {rest : FS} {Q : Fl → En → Prop} (K : Post rest [some OD, c, some AT, some SL, d, some (.int (pl : Int)), e, some (.int (lo : Int)), some (.int (hi : Int)), some (.list (ivD (nwI lo pl hi))), some (.str (wdI lo pl hi).str), h, i] Q) :
    Post (seqS (asgS 10 (ifE (bE (opE eqD (clE lenD (consL (varE 9) nilL)) (cE (.int 0)))) (cE (.str ("fill" : Str))) (cE (.str ("middle" : Str)))))
  (seqS (ifS (bE (opE eqD (clE lenD (consL (varE 9) nilL)) (cE (.int 1))))
  (seqS (asgS 10 (ifE (bE (opE gtD (opE ixD (opE ixD (varE 9) (cE (.int 0))) (cE (.int 0))) (varE 5))) (cE (.str ("left" : Str))) (cE (.str ("right" : Str)))))
  nxS)
  nxS) rest)) [some OD, c, some AT, some SL, d, some (.int (pl : Int)), e, some (.int (lo : Int)), some (.int (hi : Int)), some (.list (ivD (nwI lo pl hi))), g, h, i] Q := by
  unfold nwI wdI at *
  by_cases h1 : lo < pl <;> by_cases h2 : pl + 1 < hi
  · simp only [if_pos h1, if_pos h2] at K ⊢
    exact po_asg (d := .str "middle") rfl (po_if0 rfl K)
  · simp only [if_pos h1, if_neg h2] at K ⊢
    refine po_asg (d := .str "middle") rfl (po_seq (ρ1 := [some OD, c, some AT, some SL, d, some (.int (pl : Int)), e, some (.int (lo : Int)), some (.int (hi : Int)), some (.list (ivD [(lo, pl)])), some (.str "right"), h, i]) ?_ K)
    have hg : decide ((pl : Int) < (lo : Int)) = false := decide_eq_false (by omega)
    have e1 : bE (opE gtD (opE ixD (opE ixD (varE 9) (cE (.int 0))) (cE (.int 0))) (varE 5)) [some OD, c, some AT, some SL, d, some (.int (pl : Int)), e, some (.int (lo : Int)), some (.int (hi : Int)), some (.list (ivD [(lo, pl)])), some (.str "middle"), h, i] = some (decide ((pl : Int) < (lo : Int)), [some OD, c, some AT, some SL, d, some (.int (pl : Int)), e, some (.int (lo : Int)), some (.int (hi : Int)), some (.list (ivD [(lo, pl)])), some (.str "middle"), h, i]) := rfl
    rw [hg] at e1
    exact if1_nx rfl (asg_ev (i := 10) (d := .str "right") (ρ1 := [some OD, c, some AT, some SL, d, some (.int (pl : Int)), e, some (.int (lo : Int)), some (.int (hi : Int)), some (.list (ivD [(lo, pl)])), some (.str "middle"), h, i]) (if_ev e1 rfl))
  · simp only [if_neg h1, if_pos h2] at K ⊢
    refine po_asg (d := .str "middle") rfl (po_seq (ρ1 := [some OD, c, some AT, some SL, d, some (.int (pl : Int)), e, some (.int (lo : Int)), some (.int (hi : Int)), some (.list (ivD [(pl + 1, hi)])), some (.str "left"), h, i]) ?_ K)
    have hg : decide ((pl : Int) < ((pl + 1 : Nat) : Int)) = true := decide_eq_true (by omega)
    have e1 : bE (opE gtD (opE ixD (opE ixD (varE 9) (cE (.int 0))) (cE (.int 0))) (varE 5)) [some OD, c, some AT, some SL, d, some (.int (pl : Int)), e, some (.int (lo : Int)), some (.int (hi : Int)), some (.list (ivD [(pl + 1, hi)])), some (.str "middle"), h, i] = some (decide ((pl : Int) < ((pl + 1 : Nat) : Int)), [some OD, c, some AT, some SL, d, some (.int (pl : Int)), e, some (.int (lo : Int)), some (.int (hi : Int)), some (.list (ivD [(pl + 1, hi)])), some (.str "middle"), h, i]) := rfl
    rw [hg] at e1
    exact if1_nx rfl (asg_ev (i := 10) (d := .str "left") (ρ1 := [some OD, c, some AT, some SL, d, some (.int (pl : Int)), e, some (.int (lo : Int)), some (.int (hi : Int)), some (.list (ivD [(pl + 1, hi)])), some (.str "middle"), h, i]) (if_ev e1 rfl))
  · simp only [if_neg h1, if_neg h2] at K ⊢
    exact po_asg (d := .str "fill") rfl (po_if0 rfl K)
end
end My

set_option pp.maxSteps 400
set_option Elab.async false
set_option linter.all false
set_option maxRecDepth 100000
set_option maxHeartbeats 4000000
namespace My
open PySem PySem.Spec L2 BV
abbrev DOB : FS := (seqS (asgS 5 (dgetO 2 (varE 4)))
  (seqS (asgS 6 (opE ixD (lcE (rg1L (clE lenD (consL (varE 3) nilL))) (gN 11) (bE (chainE leD ltD (opE ixD (opE ixD (varE 3) (varE 11)) (cE (.int 0))) (varE 5) (opE ixD (opE ixD (varE 3) (varE 11)) (cE (.int 1))))) (varE 11) [11]) (cE (.int 0))))
  (seqS (asgG (opE ixD (varE 3) (varE 6)) (gT [(gN 7), (gN 8)]))
  (seqS (asgS 9 (lcE (seqL (lstE (consL (tupE (consL (varE 7) (consL (varE 5) nilL))) (consL (tupE (consL (opE addD (varE 5) (cE (.int 1))) (consL (varE 8) nilL))) nilL)))) (gN 12) (bE (opE ltD (opE ixD (varE 12) (cE (.int 0))) (opE ixD (varE 12) (cE (.int 1))))) (varE 12) [12]))
  (seqS (asgS 10 (ifE (bE (opE eqD (clE lenD (consL (varE 9) nilL)) (cE (.int 0)))) (cE (.str ("fill" : Str))) (cE (.str ("middle" : Str)))))
  (seqS (ifS (bE (opE eqD (clE lenD (consL (varE 9) nilL)) (cE (.int 1))))
  (seqS (asgS 10 (ifE (bE (opE gtD (opE ixD (opE ixD (varE 9) (cE (.int 0))) (cE (.int 0))) (varE 5))) (cE (.str ("left" : Str))) (cE (.str ("right" : Str)))))
  nxS)
  nxS)
  (seqS (appS 1 (tupE (consL (varE 6) (consL (varE 10) nilL))))
  (seqS (asgS 3 (opE addD (opE addD (slE (varE 3) noO (atO (varE 6))) (varE 9)) (slE (varE 3) (atO (opE addD (varE 6) (cE (.int 1)))) noO)))
  nxS))))))))
theorem nwI_ivs (o : Nat) (a b : List Int) : nwI o (o + a.length) (o + (a.length + (b.length + 1))) = ivs o (rn a) ++ ivs (o + a.length + 1) (rn b) := by
  unfold nwI
  rw [ivs_rn, ivs_rn]
  congr 1
  · cases a with
    | nil => rw [if_neg (by simp), if_pos rfl]
    | cons x a => rw [if_pos (by simp only [List.length_cons]; omega), if_neg (by simp)]
  · cases b with
    | nil => rw [if_neg (by simp only [List.length_nil]; omega), if_pos rfl]
    | cons x b => rw [if_pos (by simp only [List.length_cons]; omega), if_neg (by simp)]; congr 2; simp only [List.length_cons]; omega
theorem wdI_wd (o : Nat) (a b : List Int) : wdI o (o + a.length) (o + (a.length + (b.length + 1))) = wd a b := by
  unfold wdI wd
  cases a <;> cases b <;> simp only [List.length_nil, List.length_cons]
  · rw [if_neg (by omega), if_neg (by omega)]; rfl
  · rw [if_neg (by omega), if_pos (by omega)]; rfl
  · rw [if_pos (by omega), if_neg (by omega)]; rfl
  · rw [if_pos (by omega), if_pos (by omega)]; rfl
theorem do_turn {OD : D} {kvs : List (D × D)} {fd : List D} {P R : Js} {a b : List Int} {v : Int} {e f g h i j k l : Option D}
    (hk : lookD (.int v) kvs = some (.int (((flat P).length + a.length : Nat) : Int))) (hfd : fd.length ≤ 1000) (hJ : (P ++ .run (a ++ v :: b) :: R).length ≤ 900) :
    Post DOB [some OD, some (.list fd), some (.dict kvs), some (.list (ivD (ivs 0 (P ++ .run (a ++ v :: b) :: R)))), some (.int v), e, f, g, h, i, j, k, l] fun fl ρ' => fl = .nx ∧ ∃ e f g h i j k l, ρ' = [some OD, some (.list (fd ++ [dD (nruns P : Nat) (wd a b)])), some (.dict kvs), some (.list (ivD (ivs 0 (P ++ (rn a ++ .val v :: (rn b ++ R)))))), some (.int v), e, f, g, h, i, j, k, l] := by
  have hil : ∀ (J : Js) (o : Nat), (ivs o J).length ≤ J.length := fun J o => by rw [ivs_len]; unfold nruns; exact List.length_filter_le _ _
  have hs : (ivs 0 (P ++ .run (a ++ v :: b) :: R))[nruns P]? = some ((flat P).length, (flat P).length + (a.length + (b.length + 1))) := by
    rw [ivs_at, List.getElem?_append_right (by rw [ivs_len]; exact Nat.le_refl _), ivs_len, Nat.sub_self]
    simp
  have hslot := do_slot (OD := OD) (AT := .dict kvs) (c := some (.list fd)) (d := some (.int v)) (e := f) (f := g) (g := h) (h := i) (i := j) (j := k) (k := l) (IV := ivs 0 (P ++ .run (a ++ v :: b) :: R)) (pl := (flat P).length + a.length) hs (by omega) (by omega) (fun t ht p hp => by
    rw [ivs_at, List.getElem?_append_left (by rw [ivs_len]; exact ht)] at hp
    have := ivs_hi P 0 p (List.mem_of_getElem? hp)
    omega) (Nat.le_trans (hil _ _) (by omega))
  have eD : ∀ A B : List (Nat × Nat), ivD (A ++ B) = ivD A ++ ivD B := fun A B => by unfold ivD; rw [List.map_append]
  have hlenD : ∀ A : List (Nat × Nat), (ivD A).length = A.length := fun A => by unfold ivD; rw [List.length_map]
  have hivs : atI (ivD (ivs 0 (P ++ .run (a ++ v :: b) :: R))) ((nruns P : Nat) : Int) = some (.tuple [.int ((flat P).length : Int), .int (((flat P).length + (a.length + (b.length + 1)) : Nat) : Int)]) := by
    refine atI_get ?_
    unfold ivD
    rw [List.getElem?_map, hs]; rfl
  have hIV : (ivs 0 (P ++ .run (a ++ v :: b) :: R)).length ≤ 900 := Nat.le_trans (hil _ _) hJ
  have hP : (ivs 0 P).length = nruns P := ivs_len P 0
  have hsplit : ivD (ivs 0 (P ++ (rn a ++ .val v :: (rn b ++ R)))) = (ivD (ivs 0 (P ++ .run (a ++ v :: b) :: R))).take (nruns P) ++ ivD (nwI (flat P).length ((flat P).length + a.length) ((flat P).length + (a.length + (b.length + 1)))) ++ (ivD (ivs 0 (P ++ .run (a ++ v :: b) :: R))).drop (nruns P + 1) := by
    rw [ivs_at, eD, List.take_left' (by rw [hlenD, hP]), ivs_step, eD, eD, eD, nwI_ivs, eD]
    have e1 : (ivD (ivs 0 P) ++ ivD (((flat P).length, (flat P).length + (a ++ v :: b).length) :: ivs ((flat P).length + (a ++ v :: b).length) R)).drop (nruns P + 1) = ivD (ivs ((flat P).length + (a ++ v :: b).length) R) := by
      rw [← hP, ← hlenD (ivs 0 P)]
      exact List.drop_length_add_append 1 ..
    rw [e1]
    simp only [List.append_assoc]
  unfold DOB
  refine po_asg (d := .int (((flat P).length + a.length : Nat) : Int)) (ρ1 := [some OD, some (.list fd), some (.dict kvs), some (.list (ivD (ivs 0 (P ++ .run (a ++ v :: b) :: R)))), some (.int v), e, f, g, h, i, j, k, l]) ?_ ?_
  · show (match lookD (.int v) kvs with | some d => some (d, _) | none => none) = _
    rw [hk]
  refine po_asg hslot ?_
  refine po_asgG (ix_ev (xs := ivD (ivs 0 (P ++ .run (a ++ v :: b) :: R))) (i := ((nruns P : Nat) : Int)) rfl rfl hivs) rfl ?_
  refine po_asg do_news ?_
  refine do_word ?_
  rw [wdI_wd]
  refine po_seq (ρ1 := [some OD, some (.list (fd ++ [dD (nruns P : Nat) (wd a b)])), some (.dict kvs), some (.list (ivD (ivs 0 (P ++ .run (a ++ v :: b) :: R)))), some (.int v), some (.int (((flat P).length + a.length : Nat) : Int)), some (.int ((nruns P : Nat) : Int)), some (.int ((flat P).length : Int)), some (.int (((flat P).length + (a.length + (b.length + 1)) : Nat) : Int)), some (.list (ivD (nwI (flat P).length ((flat P).length + a.length) ((flat P).length + (a.length + (b.length + 1)))))), some (.str (wd a b).str), k, l]) ?_ ?_
  · show (if fd.length < 1000000 then some (Fl.nx, _) else none) = _
    rw [if_pos (by omega)]; rfl
  have hnw : (nwI (flat P).length ((flat P).length + a.length) ((flat P).length + (a.length + (b.length + 1)))).length ≤ 2 := by unfold nwI; split <;> split <;> simp
  refine po_asg (ad_ev (ad_ev (slhi_ev rfl rfl) rfl (by rw [List.length_take, hlenD, hlenD]; omega)) (sllo_ev (i := nruns P + 1) rfl rfl) (by rw [List.length_append, List.length_take, List.length_drop, hlenD, hlenD]; omega)) (po_nx ?_)
  rw [hsplit]
  exact ⟨rfl, _, _, _, _, _, _, _, _, rfl⟩
end My

set_option pp.maxSteps 400
set_option Elab.async false
set_option linter.all false
set_option maxRecDepth 100000
set_option maxHeartbeats 4000000
namespace My
open PySem PySem.Spec L2 BV
theorem ne_len : ∀ {J : Js}, Ne J → J.length ≤ (flat J).length
  | [], _ => Nat.le_refl _
  | .val x :: J, h => by
    have := ne_len (J := J) fun l m => h l (List.mem_cons_of_mem _ m)
    rw [flat_cons_val, List.length_cons, List.length_cons]; omega
  | .run l :: J, h => by
    have := ne_len (J := J) fun l m => h l (List.mem_cons_of_mem _ m)
    have h1 : 0 < l.length := List.length_pos_iff.mpr (h l List.mem_cons_self)
    rw [flat_cons_run, List.length_append, List.length_cons]; omega
theorem ne_step {P R : Js} {a b : List Int} {v : Int} (h : Ne (P ++ .run (a ++ v :: b) :: R)) : Ne (P ++ (rn a ++ .val v :: (rn b ++ R))) := fun l m => by
  have rnl : ∀ k : List Int, It.run l ∈ rn k → l ≠ [] := fun k hk => by
    unfold rn at hk
    split at hk
    · cases hk
    · rename_i n
      have e := List.mem_singleton.mp hk
      cases e; exact n
  rcases List.mem_append.mp m with m | m
  · exact h l (List.mem_append_left _ m)
  · rcases List.mem_append.mp m with m | m
    · exact rnl a m
    · rcases List.mem_cons.mp m with m | m
      · cases m
      · rcases List.mem_append.mp m with m | m
        · exact rnl b m
        · exact h l (List.mem_append_right _ (List.mem_cons_of_mem _ m))
theorem do_loop {o : List Int} (nd : o.Nodup) (hl : o.length ≤ 900) {v : Int} {J : Js} {ds : List (Int × Wd)} (h : Ch v J ds) : flat J = o → Ne J → ∀ (fd : List D) (vv e f g h i j k l : Option D), fd.length + ds.length ≤ 1000 →
    ∃ ρ', forL (gN 4) DOB (rgD v ds.length) [some (.list (o.map .int)), some (.list fd), some (.dict (plD o 0)), some (.list (ivD (ivs 0 J))), vv, e, f, g, h, i, j, k, l] = some (.nx, ρ') ∧ ∃ sl vv e f g h i j k l, ρ' = [some (.list (o.map .int)), some (.list (fd ++ dsD ds)), some (.dict (plD o 0)), sl, vv, e, f, g, h, i, j, k, l] := by
  induction h with
  | nil h => intro _ _ fd vv e f g h i j k l _; exact ⟨_, rfl, _, _, _, _, _, _, _, _, _, _, by rw [show dsD [] = [] from rfl, List.append_nil]⟩
  | @cons v P R a b ds hc ih =>
    intro ef hn fd vv e f g h i j k l hlen
    simp only [List.length_cons] at hlen
    have hat : o[(flat P).length + a.length]? = some v := by
      rw [← ef, flat_app, flat_cons_run, List.getElem?_append_right (by omega), Nat.add_sub_cancel_left, List.append_assoc, List.getElem?_append_right (Nat.le_refl _), Nat.sub_self]; rfl
    have hk := plD_look (b := 0) nd hat
    rw [Nat.zero_add] at hk
    have hJ : (P ++ .run (a ++ v :: b) :: R).length ≤ 900 := by
      have := ne_len hn
      rw [ef] at this; omega
    obtain ⟨fl, ρ1, e1, rfl, e', f', g', h', i', j', k', l', rfl⟩ := do_turn (OD := .list (o.map .int)) (e := e) (f := f) (g := g) (h := h) (i := i) (j := j) (k := k) (l := l) (fd := fd) hk (by omega) hJ
    obtain ⟨ρ', e2, sl, vv, e3, f3, g3, h3, i3, j3, k3, l3, rfl⟩ := ih (by rw [flat_step]; exact ef) (ne_step hn) (fd ++ [dD (nruns P : Nat) (wd a b)]) (some (.int v)) e' f' g' h' i' j' k' l' (by simp only [List.length_append, List.length_cons, List.length_nil]; omega)
    refine ⟨_, ?_, sl, vv, e3, f3, g3, h3, i3, j3, k3, l3, rfl⟩
    rw [List.length_cons, rgD_succ, forL_cons rfl e1, e2]
    simp [dsD]
end My

set_option pp.maxSteps 400
set_option Elab.async false
set_option linter.all false
set_option maxRecDepth 100000
set_option maxHeartbeats 4000000
namespace My
open PySem PySem.Spec L2 BV
/-- deeds_of tells the chain -/
theorem dof {o : List Int} {ds : List (Int × Wd)} (nd : o.Nodup) (hl : o.length ≤ 400) (h : Ch 1 (rn o) ds) (hd : ds.length = o.length) : ∃ z, M_deeds_of [.list (o.map .int)] = some (.list (dsD ds), z) := by
  have hn : Ne (rn o) := fun l m => by
    unfold rn at m
    split at m
    · cases m
    · rename_i n
      have e := List.mem_singleton.mp m
      cases e; exact n
  have key : Post B_deeds_of [some (.list (o.map .int)), none, none, none, none, none, none, none, none, none, none, none, none] (fun fl _ => fl = .rt (.list (dsD ds))) := by
    unfold B_deeds_of
    refine po_asg (d := .list []) rfl ?_
    refine po_asg (dc_places nd (by omega)) ?_
    refine po_asg (d := .list [.tuple [.int 0, .int (o.map PyData.int).length]]) (ρ1 := [some (.list (o.map .int)), some (.list []), some (.dict (plD o 0)), none, none, none, none, none, none, none, none, none, none]) rfl ?_
    have hrg : ∀ sl : Option D, rg2L (cE (.int 1)) (opE addD (clE lenD (consL (varE 0) nilL)) (cE (.int 1))) [some (.list (o.map .int)), some (.list []), some (.dict (plD o 0)), sl, none, none, none, none, none, none, none, none, none] = some (rgD 1 ds.length, [some (.list (o.map .int)), some (.list []), some (.dict (plD o 0)), sl, none, none, none, none, none, none, none, none, none]) := fun sl => by
      rw [rg2_ev (i := 1) (j := (o.map PyData.int).length + 1) rfl (op_ev (len_ev rfl) rfl rfl) ⟨by decide, by decide⟩ (by rw [List.length_map]; omega), List.length_map, show ((o.length : Int) + 1 - 1).toNat = ds.length by omega]
    cases o with
    | nil =>
      have e0 : ds = [] := List.length_eq_zero_iff.mp hd
      subst e0
      exact po_for_nx (hrg _) rfl (po_ret rfl rfl)
    | cons x o =>
      obtain ⟨ρ', e1, sl, vv, e, f, g, h1, i, j, k, l, rfl⟩ := do_loop nd (by omega) h (by rw [flat_rn]) hn [] none none none none none none none none none (by simp only [List.length_nil]; omega)
      rw [rn_ne (by simp)] at e1
      have esl : ivD (ivs 0 [It.run (x :: o)]) = [.tuple [.int 0, .int (((x :: o).map PyData.int).length : Nat)]] := by
        unfold ivD ivs ivs
        simp
      rw [esl] at e1
      exact po_for_nx (hrg _) e1 (po_ret rfl rfl)
  obtain ⟨fl, ρ2, e, rfl⟩ := key
  exact ⟨_, defM_rt e⟩
end My

set_option pp.maxSteps 400
set_option Elab.async false
set_option linter.all false
set_option maxRecDepth 100000
set_option maxHeartbeats 4000000
namespace My
open PySem PySem.Spec L2 BV
/-! ## the inner loop of _law_deeds -/
def hD (h : List Nat) : List D := h.map fun (t : Nat) => PyData.int (t : Int)
def stD (s : List (List Nat)) : List D := s.map fun h => .list (hD h)
def cutO (o : List Int) (v : Int) (t : Nat) : Bool := match o[t]? with | some x => decide (x < v) | none => true
abbrev LB : FS := (seqS (ifS (orT (bE (opE eqD (varE 6) (clE lenD (consL (varE 0) nilL)))) (bE (opE ltD (opE ixD (varE 0) (varE 6)) (varE 2))))
  (seqS (ifS (bE (opE gtD (clE lenD (consL (varE 5) nilL)) (cE (.int 0))))
  (seqS (appS 4 (varE 5))
  nxS)
  nxS)
  (seqS (asgS 5 (cE (.list [])))
  nxS))
  (seqS (asgS 5 (opE addD (varE 5) (lstE (consL (varE 6) nilL))))
  nxS))
  nxS)
theorem eq_int (x y : Int) : eqD (.int x) (.int y) = some (.bool (decide (x = y))) := by
  unfold eqD
  rw [if_pos ⟨nice_shaped (n := 1) (d := .int x) trivial (by omega), nice_shaped (n := 1) (d := .int y) trivial (by omega)⟩]
  show some (PyData.bool (x == y)) = _
  by_cases h : x = y <;> simp [h]
theorem hD_len (h : List Nat) : (hD h).length = h.length := by unfold hD; rw [List.length_map]
theorem stD_len (h : List (List Nat)) : (stD h).length = h.length := by unfold stD; rw [List.length_map]
section
variable {o : List Int} {v : Int} {acc : List (List Nat)} {here : List Nat} {t : Nat} {c d e f g h i j : Option D}
theorem lb_cond (ht : t ≤ o.length) : orT (bE (opE eqD (varE 6) (clE lenD (consL (varE 0) nilL)))) (bE (opE ltD (opE ixD (varE 0) (varE 6)) (varE 2))) [some (.list (o.map .int)), c, some (.int v), d, some (.list (stD acc)), some (.list (hD here)), some (.int (t : Int)), e, f, g, h, i, j] = some (cutO o v t, [some (.list (o.map .int)), c, some (.int v), d, some (.list (stD acc)), some (.list (hD here)), some (.int (t : Int)), e, f, g, h, i, j]) := by
  have e1 : bE (opE eqD (varE 6) (clE lenD (consL (varE 0) nilL))) [some (.list (o.map .int)), c, some (.int v), d, some (.list (stD acc)), some (.list (hD here)), some (.int (t : Int)), e, f, g, h, i, j] = some (decide ((t : Int) = (o.map PyData.int).length), [some (.list (o.map .int)), c, some (.int v), d, some (.list (stD acc)), some (.list (hD here)), some (.int (t : Int)), e, f, g, h, i, j]) := bE_ev (op_ev rfl (len_ev rfl) (eq_int _ _))
  rw [List.length_map] at e1
  by_cases hq : t = o.length
  · rw [decide_eq_true (by omega)] at e1
    have ec : cutO o v t = true := by unfold cutO; rw [List.getElem?_eq_none (by omega)]
    rw [ec]
    exact orT_evT e1
  · have hlt : t < o.length := by omega
    rw [decide_eq_false (by omega)] at e1
    have ec : cutO o v t = decide (o[t] < v) := by unfold cutO; rw [List.getElem?_eq_getElem hlt]
    rw [ec]
    exact orT_ev e1 (bE_ev (op_ev (ix_ev (xs := o.map .int) (i := (t : Int)) rfl rfl (atI_get (by rw [List.getElem?_map, List.getElem?_eq_getElem hlt]; rfl))) rfl rfl))
theorem lb_step (ht : t ≤ o.length) (ho : o.length ≤ 1000) (ha : acc.length ≤ 2000) (hh : here.length ≤ 2000) : LB [some (.list (o.map .int)), c, some (.int v), d, some (.list (stD acc)), some (.list (hD here)), some (.int (t : Int)), e, f, g, h, i, j] = some (.nx, [some (.list (o.map .int)), c, some (.int v), d, some (.list (stD (sc1 (cutO o v) (acc, here) t).1)), some (.list (hD (sc1 (cutO o v) (acc, here) t).2)), some (.int (t : Int)), e, f, g, h, i, j]) := by
  have hc := lb_cond (c := c) (d := d) (e := e) (f := f) (g := g) (h := h) (i := i) (j := j) (acc := acc) (here := here) (v := v) ht
  have key : Post LB [some (.list (o.map .int)), c, some (.int v), d, some (.list (stD acc)), some (.list (hD here)), some (.int (t : Int)), e, f, g, h, i, j] (fun fl ρ' => fl = .nx ∧ ρ' = [some (.list (o.map .int)), c, some (.int v), d, some (.list (stD (sc1 (cutO o v) (acc, here) t).1)), some (.list (hD (sc1 (cutO o v) (acc, here) t).2)), some (.int (t : Int)), e, f, g, h, i, j]) := by
    unfold sc1
    refine po_if hc (fun hv => ?_) (fun hv => ?_)
    · rw [if_pos hv]
      have eg : bE (opE gtD (clE lenD (consL (varE 5) nilL)) (cE (.int 0))) [some (.list (o.map .int)), c, some (.int v), d, some (.list (stD acc)), some (.list (hD here)), some (.int (t : Int)), e, f, g, h, i, j] = some (decide ((0 : Int) < (hD here).length), [some (.list (o.map .int)), c, some (.int v), d, some (.list (stD acc)), some (.list (hD here)), some (.int (t : Int)), e, f, g, h, i, j]) := bE_ev (op_ev (len_ev rfl) rfl rfl)
      rw [hD_len] at eg
      unfold fl2
      by_cases hn : here = []
      · subst hn
        rw [if_pos rfl]
        exact ⟨_, _, seq_nx ((seq_nx (if0_ev eg)).trans (seq_nx (asg_ev (d := .list []) rfl))), rfl, rfl⟩
      · rw [if_neg hn]
        have hp : decide ((0 : Int) < here.length) = true := decide_eq_true (by have := List.length_pos_iff.mpr hn; omega)
        rw [hp] at eg
        have ea : appS 4 (varE 5) [some (.list (o.map .int)), c, some (.int v), d, some (.list (stD acc)), some (.list (hD here)), some (.int (t : Int)), e, f, g, h, i, j] = some (.nx, [some (.list (o.map .int)), c, some (.int v), d, some (.list (stD (acc ++ [here]))), some (.list (hD here)), some (.int (t : Int)), e, f, g, h, i, j]) := by
          show (if (stD acc).length < 1000000 then some (Fl.nx, _) else none) = _
          rw [stD_len, if_pos (by omega)]
          unfold stD
          rw [List.map_append]; rfl
        exact ⟨_, _, seq_nx ((seq_nx (if1_nx eg ea)).trans (seq_nx (asg_ev (d := .list []) rfl))), rfl, rfl⟩
    · rw [if_neg (by rw [hv]; decide)]
      refine ⟨_, _, seq_nx (seq_nx (asg_ev (ad_ev (ys := [.int (t : Int)]) rfl rfl (by rw [hD_len]; simp only [List.length_cons, List.length_nil]; omega)))), rfl, ?_⟩
      unfold hD
      rw [List.map_append]; rfl
  obtain ⟨fl, ρ', e1, rfl, rfl⟩ := key
  exact e1
end
end My

set_option pp.maxSteps 400
set_option Elab.async false
set_option linter.all false
set_option maxRecDepth 100000
set_option maxHeartbeats 4000000
namespace My
open PySem PySem.Spec L2 BV
theorem rgD_zero (n : Nat) : rgD 0 n = (List.range' 0 n).map fun (t : Nat) => PyData.int (t : Int) := by
  unfold rgD
  rw [List.range_eq_range']
  exact List.map_congr_left fun a _ => by rw [Int.zero_add]
theorem sc1_len {cut : Nat → Bool} {acc : List (List Nat)} {here : List Nat} {t : Nat} : (sc1 cut (acc, here) t).1.length ≤ acc.length + 1 ∧ (sc1 cut (acc, here) t).2.length ≤ here.length + 1 := by
  unfold sc1 fl2
  split
  · split <;> simp
  · simp
theorem lb_loop {o : List Int} {v : Int} (ho : o.length ≤ 1000) : ∀ (l : List Nat) (acc : List (List Nat)) (here : List Nat) (t0 c d e f g h i j : Option D), (∀ t ∈ l, t ≤ o.length) → acc.length + l.length ≤ 2000 → here.length + l.length ≤ 2000 →
    ∃ t', forL (gN 6) LB (l.map fun (t : Nat) => PyData.int (t : Int)) [some (.list (o.map .int)), c, some (.int v), d, some (.list (stD acc)), some (.list (hD here)), t0, e, f, g, h, i, j] = some (.nx, [some (.list (o.map .int)), c, some (.int v), d, some (.list (stD (scan (cutO o v) (acc, here) l).1)), some (.list (hD (scan (cutO o v) (acc, here) l).2)), t', e, f, g, h, i, j])
  | [], acc, here, t0, c, d, e, f, g, h, i, j, _, _, _ => ⟨t0, rfl⟩
  | t :: l, acc, here, t0, c, d, e, f, g, h, i, j, ht, ha, hh => by
    simp only [List.length_cons] at ha hh
    have hs := sc1_len (cut := cutO o v) (acc := acc) (here := here) (t := t)
    obtain ⟨t', e1⟩ := lb_loop ho l (sc1 (cutO o v) (acc, here) t).1 (sc1 (cutO o v) (acc, here) t).2 (some (.int (t : Int))) c d e f g h i j (fun x hx => ht x (List.mem_cons_of_mem _ hx)) (by omega) (by omega)
    refine ⟨t', ?_⟩
    rw [List.map_cons, forL_cons rfl (lb_step (ht t List.mem_cons_self) ho (by omega) (by omega)), e1]
    rfl
theorem hD_get {p : Nat × Nat} (h : p.1 < p.2) : atI (hD (pos p)) 0 = some (.int (p.1 : Int)) ∧ atI (hD (pos p)) (-1) = some (.int ((p.2 : Int) - 1)) := by
  have e : pos p = List.range' p.1 (p.2 - p.1) := rfl
  constructor
  · refine atI_get (i := 0) ?_
    unfold hD
    rw [List.getElem?_map, e, List.getElem?_range' (by omega)]
    simp
  · refine atI_last ?_
    unfold hD
    rw [List.getLast?_map, e, List.getLast?_range']
    rw [if_neg (by omega)]
    show some (PyData.int _) = _
    congr 2
    omega
theorem in_pos {p : Nat × Nat} {pl : Nat} : (hD (pos p)).any (fun z => PyData.eqv z (.int (pl : Int))) = (decide (p.1 ≤ pl) && decide (pl < p.2)) := by
  have e : (hD (pos p)).any (fun z => PyData.eqv z (.int (pl : Int))) = (pos p).any fun t => decide (t = pl) := by
    unfold hD
    rw [List.any_map]
    congr 1
    funext t
    show ((t : Int) == (pl : Int)) = _
    by_cases h : t = pl <;> simp [h]
    omega
  rw [e]
  by_cases h : p.1 ≤ pl ∧ pl < p.2
  · rw [decide_eq_true h.1, decide_eq_true h.2]
    exact List.any_eq_true.mpr ⟨pl, List.mem_range'_1.mpr (by omega), by simp⟩
  · rw [List.any_eq_false.mpr fun t ht => by
      have := List.mem_range'_1.mp ht
      simp only [decide_eq_true_eq]
      omega]
    symm
    rw [Bool.and_eq_false_iff, decide_eq_false_iff_not, decide_eq_false_iff_not]
    omega
end My

set_option pp.maxSteps 400
set_option Elab.async false
set_option linter.all false
set_option maxRecDepth 100000
set_option maxHeartbeats 4000000
namespace My
open PySem PySem.Spec L2 BV
/-! ## one turn of _law_deeds -/
abbrev LDB : FS := (seqS (asgS 3 (indexE (varE 0) (varE 2)))
  (seqS (asgS 4 (cE (.list [])))
  (seqS (asgS 5 (cE (.list [])))
  (seqS (forS (rg1L (opE addD (clE lenD (consL (varE 0) nilL)) (cE (.int 1)))) (gN 6) LB)
  (seqS (asgS 7 (opE ixD (lcE (rg1L (borE (clE lenD (consL (varE 4) nilL)))) (gN 12) (bE (opE inD (varE 3) (ixO 4 (varE 12)))) (varE 12) [12]) (cE (.int 0))))
  (seqS (asgS 8 (ixO 4 (varE 7)))
  (seqS (parS 9 10 (consL (opE ltD (opE ixD (varE 8) (cE (.int 0))) (varE 3)) (consL (opE gtD (opE ixD (varE 8) (unE negD (cE (.int 1)))) (varE 3)) nilL)))
  (seqS (asgS 11 (ifE (andT (bE (varE 9)) (bE (varE 10))) (cE (.str ("middle" : Str))) (ifE (bE (varE 9)) (cE (.str ("right" : Str))) (ifE (bE (varE 10)) (cE (.str ("left" : Str))) (cE (.str ("fill" : Str)))))))
  (seqS (appS 1 (tupE (consL (varE 7) (consL (varE 11) nilL))))
  nxS)))))))))
theorem idx_int (v : Int) : ∀ (l : List Int) (k b : Nat), l[k]? = some v → (∀ j, j < k → l[j]? ≠ some v) → idxD (.int v) (l.map .int) b = some (b + k)
  | [], k, b, h, _ => by simp at h
  | x :: l, 0, b, h, _ => by
    have e : x = v := by simpa using h
    subst e
    show (if PyData.eqv (.int x) (.int x) = true then some b else _) = _
    rw [if_pos (by show (x == x) = true; simp)]; rfl
  | x :: l, k + 1, b, h, hj => by
    have n : ¬ PyData.eqv (.int x) (.int v) = true := fun z => hj 0 (by omega) (by
      have z' : (x == v) = true := z
      simpa using z')
    show (if PyData.eqv (.int x) (.int v) = true then some b else idxD (.int v) (l.map .int) (b + 1)) = _
    rw [if_neg n, idx_int v l k (b + 1) (by simpa using h) fun j hjk => by
      have := hj (j + 1) (by omega)
      simpa using this]
    congr 1; omega
theorem ints_nice {ns : List Int} (h : ns.length ≤ 1000000) : SeqAt.shaped (.list (ns.map .int)) = true := nice_shaped (nice_ints (n := 0) h) (by omega)
theorem hD_shaped {l : List Nat} (h : l.length ≤ 1000000) : SeqAt.shaped (.list (hD l)) = true := by
  have e : hD l = (l.map fun (t : Nat) => (t : Int)).map .int := by unfold hD; rw [List.map_map]; rfl
  rw [e]
  exact ints_nice (by rw [List.length_map]; exact h)
section
variable {o : List Int} {v : Int} {c d e f g h i j k l : Option D}
theorem ld_slot {IV : List (Nat × Nat)} {pl s : Nat} {lo hi : Nat} (hs : IV[s]? = some (lo, hi)) (h1 : lo ≤ pl) (h2 : pl < hi) (hb : ∀ t, t < s → ∀ p, IV[t]? = some p → p.2 ≤ pl) (hl : IV.length ≤ 1000) (hw : ∀ p ∈ IV, p.2 ≤ 1000) :
    opE ixD (lcE (rg1L (borE (clE lenD (consL (varE 4) nilL)))) (gN 12) (bE (opE inD (varE 3) (ixO 4 (varE 12)))) (varE 12) [12]) (cE (.int 0)) [some (.list (o.map .int)), c, d, some (.int (pl : Int)), some (.list (stD (IV.map pos))), e, f, g, h, i, j, k, l] = some (.int (s : Int), [some (.list (o.map .int)), c, d, some (.int (pl : Int)), some (.list (stD (IV.map pos))), e, f, g, h, i, j, k, l]) := by
  have hlen : (stD (IV.map pos)).length = IV.length := by rw [stD_len, List.length_map]
  have hsl : s < IV.length := (List.getElem?_eq_some_iff.mp hs).1
  let q : Nat → Bool := fun t => match IV[t]? with | some p => decide (p.1 ≤ pl) && decide (pl < p.2) | none => false
  have e1 := lc_filt0 (f := rg1L (borE (clE lenD (consL (varE 4) nilL)))) (t := bE (opE inD (varE 3) (ixO 4 (varE 12)))) (j := 12) (p := fun x => match x with | .int t => q t.toNat | _ => false) (l := rgD 0 IV.length) (ρ0 := [some (.list (o.map .int)), c, d, some (.int (pl : Int)), some (.list (stD (IV.map pos))), e, f, g, h, i, j, k, l]) (ρ := [some (.list (o.map .int)), c, d, some (.int (pl : Int)), some (.list (stD (IV.map pos))), e, f, g, h, i, j, k, l]) (by
      rw [rg1_ev (j := (stD (IV.map pos)).length) (ρ1 := [some (.list (o.map .int)), c, d, some (.int (pl : Int)), some (.list (stD (IV.map pos))), e, f, g, h, i, j, k, l]) (by unfold borE; rw [len_ev (xs := stD (IV.map pos)) (ρ1 := [some (.list (o.map .int)), c, d, some (.int (pl : Int)), some (.list (stD (IV.map pos))), e, f, g, h, i, j, k, l]) rfl]; rfl) (by rw [hlen]; omega), hlen]; rfl) (by rw [rgD_len]; omega) (Nat.le_of_ble_eq_true rfl) fun x hx => by
    obtain ⟨t, ht, rfl⟩ := rg_mem hx
    have hq : q t = (decide (IV[t].1 ≤ pl) && decide (pl < IV[t].2)) := by
      show (match IV[t]? with | some p => _ | none => _) = _
      rw [List.getElem?_eq_getElem ht]
    have hiv : atI (stD (IV.map pos)) (t : Int) = some (.list (hD (pos IV[t]))) := by
      refine atI_get ?_
      unfold stD
      rw [List.getElem?_map, List.getElem?_map, List.getElem?_eq_getElem ht]; rfl
    have hx4 : ixO 4 (varE 12) [some (.list (o.map .int)), c, d, some (.int (pl : Int)), some (.list (stD (IV.map pos))), e, f, g, h, i, j, k, some (.int (t : Int))] = some (.list (hD (pos IV[t])), [some (.list (o.map .int)), c, d, some (.int (pl : Int)), some (.list (stD (IV.map pos))), e, f, g, h, i, j, k, some (.int (t : Int))]) := by
      show (match atI (stD (IV.map pos)) (t : Int) with | some d => some (d, _) | none => none) = _
      rw [hiv]
    show _ = some (q (t : Int).toNat, _)
    rw [Int.toNat_natCast, hq, ← in_pos]
    refine bE_ev (op_ev rfl hx4 ?_)
    show (if SeqAt.shaped (.int (pl : Int)) = true ∧ SeqAt.shaped (.list (hD (pos IV[t]))) = true then some (PyData.bool _) else none) = _
    rw [if_pos ⟨nice_shaped (n := 1) (d := .int (pl : Int)) trivial (by omega), hD_shaped (by
      have := hw IV[t] (List.getElem_mem ht)
      unfold pos
      rw [List.length_range']; omega)⟩]
  refine ix_ev e1 rfl ?_
  rw [rgD_filter]
  refine atI_get (i := 0) ?_
  rw [List.getElem?_map]
  have ef : (List.range IV.length).filter (fun (t : Nat) => (fun x : D => match x with | .int t => q t.toNat | _ => false) (.int (t : Int))) = (List.range' 0 IV.length).filter q := by
    rw [List.range_eq_range']
    refine List.filter_congr fun t _ => ?_
    show q (t : Int).toNat = q t
    rw [Int.toNat_natCast]
  rw [ef, filt_first q IV.length 0 s (Nat.zero_le _) (by omega) (by
    show (match IV[s]? with | some p => _ | none => _) = true
    rw [hs]
    simp [h1, h2]) fun t _ ht => by
      show (match IV[t]? with | some p => _ | none => _) = false
      cases et : IV[t]? with
      | none => rfl
      | some p =>
        have := hb t ht p et
        simp only [Bool.and_eq_false_iff, decide_eq_false_iff_not]
        omega]
  rfl
theorem ld_par {lo pl hi : Nat} (hp : lo < hi) : parS 9 10 (consL (opE ltD (opE ixD (varE 8) (cE (.int 0))) (varE 3)) (consL (opE gtD (opE ixD (varE 8) (unE negD (cE (.int 1)))) (varE 3)) nilL)) [some (.list (o.map .int)), c, d, some (.int (pl : Int)), e, f, g, h, some (.list (hD (pos (lo, hi)))), i, j, k, l]
    = some (.nx, [some (.list (o.map .int)), c, d, some (.int (pl : Int)), e, f, g, h, some (.list (hD (pos (lo, hi)))), some (.bool (decide (lo < pl))), some (.bool (decide (pl + 1 < hi))), k, l]) := by
  obtain ⟨g1, g2⟩ := hD_get (p := (lo, hi)) hp
  have e1 : opE ltD (opE ixD (varE 8) (cE (.int 0))) (varE 3) [some (.list (o.map .int)), c, d, some (.int (pl : Int)), e, f, g, h, some (.list (hD (pos (lo, hi)))), i, j, k, l] = some (.bool (decide (lo < pl)), [some (.list (o.map .int)), c, d, some (.int (pl : Int)), e, f, g, h, some (.list (hD (pos (lo, hi)))), i, j, k, l]) :=
    op_ev (ix_ev (xs := hD (pos (lo, hi))) rfl rfl g1) rfl (by
      show some (PyData.bool (decide ((lo : Int) < (pl : Int)))) = _
      congr 2
      exact decide_eq_decide.mpr (by omega))
  have e2 : opE gtD (opE ixD (varE 8) (unE negD (cE (.int 1)))) (varE 3) [some (.list (o.map .int)), c, d, some (.int (pl : Int)), e, f, g, h, some (.list (hD (pos (lo, hi)))), i, j, k, l] = some (.bool (decide (pl + 1 < hi)), [some (.list (o.map .int)), c, d, some (.int (pl : Int)), e, f, g, h, some (.list (hD (pos (lo, hi)))), i, j, k, l]) :=
    op_ev (ix_ev (xs := hD (pos (lo, hi))) (i := -1) rfl rfl g2) rfl (by
      show some (PyData.bool (decide ((pl : Int) < ((lo, hi).2 : Int) - 1))) = _
      congr 2
      exact decide_eq_decide.mpr (by show (pl : Int) < (hi : Int) - 1 ↔ _; omega))
  unfold parS
  rw [cl_ev e1 (cl_ev e2 rfl)]
  rfl
theorem ld_word {lo pl hi : Nat} : (ifE (andT (bE (varE 9)) (bE (varE 10))) (cE (.str ("middle" : Str))) (ifE (bE (varE 9)) (cE (.str ("right" : Str))) (ifE (bE (varE 10)) (cE (.str ("left" : Str))) (cE (.str ("fill" : Str)))))) [some (.list (o.map .int)), c, d, some (.int (pl : Int)), e, f, g, h, i, some (.bool (decide (lo < pl))), some (.bool (decide (pl + 1 < hi))), k, l]
    = some (.str (wdI lo pl hi).str, [some (.list (o.map .int)), c, d, some (.int (pl : Int)), e, f, g, h, i, some (.bool (decide (lo < pl))), some (.bool (decide (pl + 1 < hi))), k, l]) := by
  unfold wdI
  by_cases h1 : lo < pl <;> by_cases h2 : pl + 1 < hi
  · rw [if_pos h1, if_pos h2, decide_eq_true h1, decide_eq_true h2]; rfl
  · rw [if_pos h1, if_neg h2, decide_eq_true h1, decide_eq_false h2]; rfl
  · rw [if_neg h1, if_pos h2, decide_eq_false h1, decide_eq_true h2]; rfl
  · rw [if_neg h1, if_neg h2, decide_eq_false h1, decide_eq_false h2]; rfl
end
theorem scan_all {o : List Int} {v : Int} {J : Js} (hw : Wf v J) (ef : flat J = o) : (scan (cutO o v) ([], []) (List.range' 0 (o.length + 1))).1 = (ivs 0 J).map pos := by
  rw [← List.range'_append_1 (s := 0) (m := o.length) (n := 1), scan_app]
  have e := scan_js (cutO o v) J 0 [] [] hw (fun _ _ _ => rfl) fun t x ht => by
    rw [ef] at ht
    unfold cutO
    rw [Nat.zero_add, ht]
  rw [ef] at e
  show (sc1 (cutO o v) (scan (cutO o v) ([], []) (List.range' 0 o.length)) (0 + o.length)).1 = _
  generalize scan (cutO o v) ([], []) (List.range' 0 o.length) = p at *
  have ec : cutO o v (0 + o.length) = true := by
    unfold cutO
    rw [Nat.zero_add, List.getElem?_eq_none (Nat.le_refl _)]
  unfold sc1
  rw [if_pos ec]
  show fl2 p = _
  rw [e]
  rfl
end My

set_option pp.maxSteps 400
set_option Elab.async false
set_option linter.all false
set_option maxRecDepth 100000
set_option maxHeartbeats 4000000
namespace My
open PySem PySem.Spec L2 BV
theorem app_ev {i : Nat} {f : FE} {ρ ρ1 : En} {ds0 ds : List D} {d : D} (hi : ρ[i]? = some (some (.list ds0))) (h : f ρ = some (d, ρ1)) (h1 : ρ1[i]? = some (some (.list ds))) (hl : ds.length < 1000000) : appS i f ρ = some (.nx, ρ1.set i (some (.list (ds ++ [d])))) := by
  unfold appS
  rw [hi]; dsimp only; rw [h]; dsimp only; rw [h1]; exact if_pos hl
theorem ld_turn {o : List Int} {fd : List D} {P R : Js} {a b : List Int} {v : Int} {c d e f g h i j k l : Option D} (nd : o.Nodup) (ef : flat (P ++ .run (a ++ v :: b) :: R) = o) (hw : Wf v (P ++ .run (a ++ v :: b) :: R)) (ho : o.length ≤ 400) (hfd : fd.length ≤ 1000) (hJ : (P ++ .run (a ++ v :: b) :: R).length ≤ 900) :
    Post LDB [some (.list (o.map .int)), some (.list fd), some (.int v), c, d, e, f, g, h, i, j, k, l] fun fl ρ' => fl = .nx ∧ ∃ c d e f g h i j k, ρ' = [some (.list (o.map .int)), some (.list (fd ++ [dD (nruns P : Nat) (wd a b)])), some (.int v), c, d, e, f, g, h, i, j, k, l] := by
  have hil : (ivs 0 (P ++ .run (a ++ v :: b) :: R)).length ≤ 900 := by
    rw [ivs_len]; unfold nruns
    exact Nat.le_trans (List.length_filter_le _ _) hJ
  have hs : (ivs 0 (P ++ .run (a ++ v :: b) :: R))[nruns P]? = some ((flat P).length, (flat P).length + (a.length + (b.length + 1))) := by
    rw [ivs_at, List.getElem?_append_right (by rw [ivs_len]; exact Nat.le_refl _), ivs_len, Nat.sub_self]
    simp
  have hat : o[(flat P).length + a.length]? = some v := by
    rw [← ef, flat_app, flat_cons_run, List.getElem?_append_right (by omega), Nat.add_sub_cancel_left, List.append_assoc, List.getElem?_append_right (Nat.le_refl _), Nat.sub_self]; rfl
  have hidx : indexE (varE 0) (varE 2) [some (.list (o.map .int)), some (.list fd), some (.int v), c, d, e, f, g, h, i, j, k, l] = some (.int (((flat P).length + a.length : Nat) : Int), [some (.list (o.map .int)), some (.list fd), some (.int v), c, d, e, f, g, h, i, j, k, l]) := by
    show (if SeqAt.shaped (.list (o.map .int)) = true ∧ SeqAt.shaped (.int v) = true then (match idxD (.int v) (o.map .int) 0 with | some k => some (PyData.int (k : Int), _) | none => none) else none) = _
    rw [if_pos ⟨ints_nice (by omega), nice_shaped (n := 1) (d := .int v) trivial (by omega)⟩, idx_int v o _ 0 hat fun j hj z => by
      have := ((List.getElem?_inj (List.getElem?_eq_some_iff.mp z).1 nd).mp (z.trans hat.symm))
      omega, Nat.zero_add]
  have hpl : (flat P).length + a.length < o.length := (List.getElem?_eq_some_iff.mp hat).1
  have hhi : ∀ p ∈ ivs 0 (P ++ .run (a ++ v :: b) :: R), p.2 ≤ 1000 := fun p hp => by
    have := ivs_hi _ 0 p hp
    rw [ef] at this; omega
  have hbef : ∀ t, t < nruns P → ∀ p, (ivs 0 (P ++ .run (a ++ v :: b) :: R))[t]? = some p → p.2 ≤ (flat P).length + a.length := fun t ht p hp => by
    rw [ivs_at, List.getElem?_append_left (by rw [ivs_len]; exact ht)] at hp
    have := ivs_hi P 0 p (List.mem_of_getElem? hp)
    omega
  have hsc := scan_all hw ef
  generalize hIV : ivs 0 (P ++ .run (a ++ v :: b) :: R) = IV at *
  unfold LDB
  refine po_asg hidx ?_
  refine po_asg (d := .list (stD [])) rfl ?_
  refine po_asg (d := .list (hD [])) rfl ?_
  obtain ⟨t', e1⟩ := lb_loop (v := v) (by omega : o.length ≤ 1000) (List.range' 0 (o.length + 1)) [] [] f (some (.list fd)) (some (.int (((flat P).length + a.length : Nat) : Int))) g h i j k l (fun t ht => by
    have := List.mem_range'_1.mp ht
    omega) (by rw [List.length_range']; simp only [List.length_nil]; omega) (by rw [List.length_range']; simp only [List.length_nil]; omega)
  rw [← rgD_zero, hsc] at e1
  refine po_for_nx (l := rgD 0 (o.length + 1)) (ρ1 := [some (.list (o.map .int)), some (.list fd), some (.int v), some (.int (((flat P).length + a.length : Nat) : Int)), some (.list (stD [])), some (.list (hD [])), f, g, h, i, j, k, l]) ?_ e1 ?_
  · rw [rg1_ev (j := ((o.map PyData.int).length : Int) + 1) (op_ev (len_ev rfl) rfl rfl) (by rw [List.length_map]; omega), List.length_map]
    congr 3
  refine po_asg (ld_slot hs (by omega) (by omega) hbef (by omega) hhi) ?_
  refine po_asg (d := .list (hD (pos ((flat P).length, (flat P).length + (a.length + (b.length + 1)))))) (ρ1 := [some (.list (o.map .int)), some (.list fd), some (.int v), some (.int (((flat P).length + a.length : Nat) : Int)), some (.list (stD (IV.map pos))), some (.list (hD (scan (cutO o v) ([], []) (List.range' 0 (o.length + 1))).2)), t', some (.int ((nruns P : Nat) : Int)), h, i, j, k, l]) ?_ ?_
  rotate_left
  · refine po_seq (ld_par (by omega)) ?_
    refine po_asg ld_word ?_
    rw [wdI_wd]
    exact po_seq (app_ev (ds := fd) rfl (f := tupE (consL (varE 7) (consL (varE 11) nilL))) (d := dD (nruns P : Nat) (wd a b)) rfl rfl (by omega)) (po_nx ⟨rfl, _, _, _, _, _, _, _, _, _, rfl⟩)
  · show (match atI (stD (IV.map pos)) ((nruns P : Nat) : Int) with | some d => some (d, _) | none => none) = _
    rw [atI_get (x := .list (hD (pos ((flat P).length, (flat P).length + (a.length + (b.length + 1)))))) (by
      unfold stD
      rw [List.getElem?_map, List.getElem?_map, hs]; rfl)]
    rfl
theorem ld_loop {o : List Int} (nd : o.Nodup) (hl : o.length ≤ 400) {v : Int} {J : Js} {ds : List (Int × Wd)} (h : Ch v J ds) : flat J = o → Ne J → Wf v J → ∀ (fd : List D) (vv c d e f g h i j k l : Option D), fd.length + ds.length ≤ 1000 →
    ∃ ρ', forL (gN 2) LDB (rgD v ds.length) [some (.list (o.map .int)), some (.list fd), vv, c, d, e, f, g, h, i, j, k, l] = some (.nx, ρ') ∧ ∃ vv c d e f g h i j k l, ρ' = [some (.list (o.map .int)), some (.list (fd ++ dsD ds)), vv, c, d, e, f, g, h, i, j, k, l] := by
  induction h with
  | nil h => intro _ _ _ fd vv c d e f g h i j k l _; exact ⟨_, rfl, _, _, _, _, _, _, _, _, _, _, _, by rw [show dsD [] = [] from rfl, List.append_nil]⟩
  | @cons v P R a b ds hc ih =>
    intro ef hn hw fd vv c d e f g h i j k l hlen
    simp only [List.length_cons] at hlen
    have hJ : (P ++ .run (a ++ v :: b) :: R).length ≤ 900 := by
      have := ne_len hn
      rw [ef] at this; omega
    obtain ⟨fl, ρ1, e1, rfl, c', d', e', f', g', h', i', j', k', rfl⟩ := ld_turn (c := c) (d := d) (e := e) (f := f) (g := g) (h := h) (i := i) (j := j) (k := k) (l := l) (fd := fd) nd ef hw hl (by omega) hJ
    obtain ⟨ρ', e2, hr⟩ := ih (by rw [flat_step]; exact ef) (ne_step hn) (wf_step hw (by rw [ef]; exact nd)) (fd ++ [dD (nruns P : Nat) (wd a b)]) (some (.int v)) c' d' e' f' g' h' i' j' k' l (by simp only [List.length_append, List.length_cons, List.length_nil]; omega)
    refine ⟨ρ', ?_, ?_⟩
    · rw [List.length_cons, rgD_succ, forL_cons rfl e1, e2]
    · rw [show dsD ((((nruns P : Nat) : Int), wd a b) :: ds) = dD (nruns P : Nat) (wd a b) :: dsD ds from rfl]
      rw [List.append_assoc] at hr
      exact hr
theorem ldl {o : List Int} {ds : List (Int × Wd)} (nd : o.Nodup) (hl : o.length ≤ 400) (h : Ch 1 (rn o) ds) (hd : ds.length = o.length) (hw : Wf 1 (rn o)) : ∃ z, M__law_deeds [.list (o.map .int)] = some (.list (dsD ds), z) := by
  have hn : Ne (rn o) := fun l m => by
    unfold rn at m
    split at m
    · cases m
    · rename_i n
      have e := List.mem_singleton.mp m
      cases e; exact n
  have key : Post B__law_deeds [some (.list (o.map .int)), none, none, none, none, none, none, none, none, none, none, none, none] (fun fl _ => fl = .rt (.list (dsD ds))) := by
    unfold B__law_deeds
    refine po_asg (d := .list []) rfl ?_
    obtain ⟨ρ', e1, vv, c, d, e, f, g, h1, i, j, k, l, rfl⟩ := ld_loop nd hl h (by rw [flat_rn]) hn hw [] none none none none none none none none none none none (by simp only [List.length_nil]; omega)
    refine po_for_nx (l := rgD 1 ds.length) ?_ e1 (po_ret rfl rfl)
    rw [rg2_ev (i := 1) (j := (o.map PyData.int).length + 1) rfl (op_ev (len_ev rfl) rfl rfl) ⟨by decide, by decide⟩ (by rw [List.length_map]; omega), List.length_map, show ((o.length : Int) + 1 - 1).toNat = ds.length by omega]
    rfl
  obtain ⟨fl, ρ2, e, rfl⟩ := key
  exact ⟨_, defM_rt e⟩
end My

set_option pp.maxSteps 400
set_option Elab.async false
set_option linter.all false
set_option maxRecDepth 100000
set_option maxHeartbeats 4000000
namespace My
open PySem PySem.Spec L2 BV
/-! ## orders that are drawn; copies -/
theorem ordersN_perm : ∀ (n : Nat) (l p : List Int), l.length = n → p ∈ ordersN n l → p.Perm l
  | 0, l, p, hl, h => by
    have e : p = [] := by simpa [ordersN] using h
    rw [e, List.length_eq_zero_iff.mp hl]
  | n + 1, l, p, hl, h => by
    unfold ordersN at h
    obtain ⟨i, hi, h⟩ := List.mem_flatMap.mp h
    obtain ⟨q, hq, rfl⟩ := List.mem_map.mp h
    have hi' := List.mem_range.mp hi
    have ih := ordersN_perm n (l.eraseIdx i) q (by rw [List.length_eraseIdx_of_lt hi']; omega) hq
    rw [List.getD_eq_getElem?_getD, List.getElem?_eq_getElem hi']
    refine (ih.cons _).trans ?_
    show (l[i] :: l.eraseIdx i).Perm l
    have e : l = l.take i ++ l[i] :: l.drop (i + 1) := by
      rw [List.getElem_cons_drop, List.take_append_drop]
    rw [List.eraseIdx_eq_take_drop_succ]
    exact (List.perm_middle.symm).trans (List.Perm.of_eq e.symm)
theorem up_eq (n : Nat) : ((List.range n).map fun (i : Nat) => (1 + (i : Int))) = nums 1 n := rfl
theorem nums_mem {n : Nat} {x : Int} : x ∈ nums 1 n ↔ 1 ≤ x ∧ x ≤ n := by
  unfold nums
  rw [List.mem_map]
  constructor
  · rintro ⟨i, hi, rfl⟩
    have := List.mem_range.mp hi
    omega
  · intro ⟨h1, h2⟩
    exact ⟨(x - 1).toNat, List.mem_range.mpr (by omega), by omega⟩
theorem nums_nodup (n : Nat) : (nums 1 n).Nodup := by
  unfold nums
  exact List.Pairwise.map _ (fun a b h => by omega) (List.nodup_range (n := n))
/-- what an order is -/
structure IsO (o : List Int) : Prop where
  nd : o.Nodup
  mem : ∀ x, x ∈ o ↔ 1 ≤ x ∧ x ≤ o.length
theorem isO_perm {n : Nat} {o : List Int} (h : o.Perm (nums 1 n)) : IsO o ∧ o.length = n := by
  have hl : o.length = n := by rw [h.length_eq]; simp [nums]
  exact ⟨⟨h.nodup_iff.mpr (nums_nodup n), fun x => by rw [hl, h.mem_iff]; exact nums_mem⟩, hl⟩
theorem isO_ch {o : List Int} (h : IsO o) : ∃ ds, Ch 1 (rn o) ds ∧ ds.length = o.length ∧ Wf 1 (rn o) := by
  have w : Wf 1 (rn o) := wf_rn fun y hy => ((h.mem y).mp hy).1
  obtain ⟨ds, h1, h2⟩ := ch_ex (n := o.length) o.length 1 (rn o) (by omega) w (by rw [flat_rn]; exact fun x hx => ((h.mem x).mp hx).2) (by rw [flat_rn]; exact fun x h1 h2 => (h.mem x).mpr ⟨h1, h2⟩) (by rw [flat_rn]; exact h.nd)
  exact ⟨ds, h1, h2, w⟩
/-- what deeds make that end -/
theorem made_ch {ds : List (Int × Wd)} {o : List Int} (h : runR ds 1 (row0 ds.length) = some (o.map .int)) : Ch 1 (rn o) ds ∧ IsO o ∧ o.length = ds.length := by
  obtain ⟨J, h1, h2, h3, h4⟩ := run_ch ds 1 _ o h
  have eJ : J = rn o := by
    cases ds with
    | nil =>
      have e : J = [] := List.map_eq_nil_iff.mp (by rw [h1]; rfl)
      subst e
      rw [← h2]; rfl
    | cons p ds =>
      have e : J.map rowI = [.none] := by rw [h1]; rfl
      cases J with
      | nil => cases e
      | cons x J =>
        rw [List.map_cons] at e
        have e1 : rowI x = .none := (List.cons.inj e).1
        have e2 : J = [] := List.map_eq_nil_iff.mp (List.cons.inj e).2
        subst e2
        cases x with
        | val x => cases e1
        | run l =>
          have el : l = o := by
            have : l ++ [] = o := h2
            rw [← this, List.append_nil]
          subst el
          rw [rn_ne (h3 l List.mem_cons_self)]
  subst eJ
  have hp := ch_perm h4
  rw [flat_rn, show vals (rn o) = [] from vals_rn o, List.nil_append] at hp
  obtain ⟨g1, g2⟩ := isO_perm hp
  exact ⟨h4, g1, g2⟩
theorem flt_ints : ∀ {row : List D}, Flt row → row.any isNone = false → ∃ o : List Int, row = o.map .int
  | [], _, _ => ⟨[], rfl⟩
  | x :: r, f, h => by
    rw [List.any_cons, Bool.or_eq_false_iff] at h
    obtain ⟨o, e⟩ := flt_ints (row := r) (fun d hd => f d (List.mem_cons_of_mem _ hd)) h.2
    rcases f x List.mem_cons_self with e1 | ⟨i, e1⟩
    · subst e1; cases h.1
    · exact ⟨i :: o, by rw [e1, e]; rfl⟩
theorem copy_int (n : Nat) (i : Int) : ∃ o, M__law_copy (n + 1) [.int i] = some (.int i, o) := ⟨_, rfl⟩
theorem copy_ints (n : Nat) (o : List Int) (h : o.length ≤ 1000000) : ∃ z, M__law_copy (n + 2) [.list (o.map .int)] = some (.list (o.map .int), z) := by
  have key : Post (B__law_copy (M__law_copy (n + 1))) [some (.list (o.map .int)), none, none] (fun fl _ => fl = .rt (.list (o.map .int))) := by
    unfold B__law_copy
    refine po_if (v := true) rfl (fun _ => ?_) (fun z => by cases z)
    refine po_seq_ret (po_ret (ρ1 := [some (.list (o.map .int)), none, none]) ?_ rfl)
    have e := lc_map (f := seqL (varE 0)) (e := callE0 (M__law_copy (n + 1)) (consL (varE 1) nilL)) (j := 1) (F := fun d => d) (l := o.map .int) (ρ0 := [some (.list (o.map .int)), none, none]) (ρ := [some (.list (o.map .int)), none, none]) rfl (by rw [List.length_map]; exact h) (Nat.le_of_ble_eq_true rfl) fun d hd => by
      obtain ⟨i, _, rfl⟩ := List.mem_map.mp hd
      obtain ⟨z, e⟩ := copy_int n i
      exact c0_ev (cl_ev rfl rfl) e
    rw [List.map_id'] at e
    exact e
  obtain ⟨fl, ρ2, e, rfl⟩ := key
  exact ⟨_, defM_rt e⟩
end My

set_option pp.maxSteps 400
set_option Elab.async false
set_option linter.all false
set_option maxRecDepth 100000
set_option maxHeartbeats 4000000
namespace My
open PySem PySem.Spec L2 BV
/-! ## the last part: all lists of deeds of up to four things -/
def ow : List Wd := [.fill, .left, .middle, .right]
def chg : Wd → Int
  | .fill => -1
  | .left => 0
  | .middle => 1
  | .right => 0
def fre (ds : List (Int × Wd)) : Int := 1 + (ds.map fun p => chg p.2).sum
def ext (ds : List (Int × Wd)) (s : Nat) : List (List (Int × Wd)) := ow.map fun w => ds ++ [((s : Int), w)]
def stp (rs : List (List (Int × Wd))) : List (List (Int × Wd)) := rs.flatMap fun ds => (List.range (fre ds).toNat).flatMap (ext ds)
def rowsN : Nat → List (List (Int × Wd))
  | 0 => [[]]
  | n + 1 => stp (rowsN n)
def rowsD (rs : List (List (Int × Wd))) : List D := rs.map fun ds => .list (dsD ds)
abbrev SB : FS := (seqS (asgS 11 (opE addD (varE 11) (lcE (seqL (lstE (consL (cE (.str ("fill" : Str))) (consL (cE (.str ("left" : Str))) (consL (cE (.str ("middle" : Str))) (consL (cE (.str ("right" : Str))) nilL)))))) (gN 18) yT (opE addD (varE 6) (lstE (consL (tupE (consL (varE 13) (consL (varE 18) nilL))) nilL))) [18])))
  nxS)
abbrev FRE : FE := (opE addD (cE (.int 1)) (clE sumD (consL (lcE (seqL (varE 6)) (gT [(gN 13), (gN 18)]) yT (dgetE (dispE [((cE (.str ("fill" : Str))), (unE negD (cE (.int 1)))), ((cE (.str ("left" : Str))), (cE (.int 0))), ((cE (.str ("middle" : Str))), (cE (.int 1))), ((cE (.str ("right" : Str))), (cE (.int 0)))]) (varE 18)) [13, 18]) nilL)))
abbrev RB : FS := (seqS (asgS 12 FRE)
  (seqS (forS (rg1L (varE 12)) (gN 13) SB) nxS))
abbrev TB : FS := (seqS (asgS 11 (cE (.list [])))
  (seqS (forS (seqL (varE 10)) (gN 6) RB)
  (seqS (asgS 10 (varE 11))
  nxS)))
def lits : Nat → List (List Int)
  | 1 => [[1]]
  | 2 => [[1, 2], [2, 1]]
  | 3 => [[1, 2, 3], [1, 3, 2], [2, 1, 3], [3, 1, 2], [2, 3, 1], [3, 2, 1]]
  | 4 => [[1, 2, 3, 4], [1, 2, 4, 3], [1, 3, 2, 4], [1, 4, 2, 3], [1, 3, 4, 2], [1, 4, 3, 2], [2, 1, 3, 4], [2, 1, 4, 3], [2, 3, 1, 4], [2, 4, 1, 3], [3, 2, 1, 4], [4, 2, 1, 3], [3, 4, 1, 2], [4, 3, 1, 2], [3, 1, 2, 4], [4, 1, 2, 3], [3, 1, 4, 2], [4, 1, 3, 2], [2, 3, 4, 1], [2, 4, 3, 1], [3, 2, 4, 1], [4, 2, 3, 1], [3, 4, 2, 1], [4, 3, 2, 1]]
  | _ => []
section
variable {x0 x1 x2 x3 x4 x5 x6 x7 x8 x9 x10 x11 x12 x13 x14 x15 x16 x17 x18 : Option D}
theorem wd_all : [PyData.str ("fill" : Str), .str ("left" : Str), .str ("middle" : Str), .str ("right" : Str)] = ow.map fun w => .str w.str := rfl
theorem sb_ev {ds : List (Int × Wd)} {s : Nat} {nw : List D} (hd : ds.length ≤ 1000) (hn : nw.length ≤ 100000) : SB [x0, x1, x2, x3, x4, x5, some (.list (dsD ds)), x7, x8, x9, x10, some (.list nw), x12, some (.int (s : Int)), x14, x15, x16, x17, x18] = some (.nx, [x0, x1, x2, x3, x4, x5, some (.list (dsD ds)), x7, x8, x9, x10, some (.list (nw ++ rowsD (ext ds s))), x12, some (.int (s : Int)), x14, x15, x16, x17, x18]) := by
  have e := lc_map (f := seqL (lstE (consL (cE (.str ("fill" : Str))) (consL (cE (.str ("left" : Str))) (consL (cE (.str ("middle" : Str))) (consL (cE (.str ("right" : Str))) nilL)))))) (e := opE addD (varE 6) (lstE (consL (tupE (consL (varE 13) (consL (varE 18) nilL))) nilL))) (j := 18) (F := fun w => .list (dsD ds ++ [.tuple [.int (s : Int), w]])) (l := ow.map fun w => .str w.str) (ρ0 := [x0, x1, x2, x3, x4, x5, some (.list (dsD ds)), x7, x8, x9, x10, some (.list nw), x12, some (.int (s : Int)), x14, x15, x16, x17, x18]) (ρ := [x0, x1, x2, x3, x4, x5, some (.list (dsD ds)), x7, x8, x9, x10, some (.list nw), x12, some (.int (s : Int)), x14, x15, x16, x17, x18]) rfl (by decide) (Nat.le_of_ble_eq_true rfl) fun d _ => ad_ev (xs := dsD ds) (ys := [.tuple [.int (s : Int), d]]) rfl rfl (by rw [dsD_len]; simp only [List.length_cons, List.length_nil]; omega)
  have ee : (ow.map fun w => PyData.str w.str).map (fun w => PyData.list (dsD ds ++ [.tuple [.int (s : Int), w]])) = rowsD (ext ds s) := by
    unfold rowsD ext
    rw [List.map_map, List.map_map]
    refine List.map_congr_left fun w _ => ?_
    show PyData.list (dsD ds ++ [dD (s : Int) w]) = .list (dsD (ds ++ [((s : Int), w)]))
    unfold dsD
    rw [List.map_append]; rfl
  rw [ee] at e
  exact (seq_nx (asg_ev (ad_ev (xs := nw) rfl e (by
    unfold rowsD ext ow
    simp only [List.length_map, List.length_cons, List.length_nil]; omega)))).trans rfl
theorem sb_loop {ds : List (Int × Wd)} (hd : ds.length ≤ 1000) : ∀ (m s : Nat) (nw : List D) (x13 : Option D), nw.length + 4 * m ≤ 100000 → ∃ x13', forL (gN 13) SB (rgD (s : Int) m) [x0, x1, x2, x3, x4, x5, some (.list (dsD ds)), x7, x8, x9, x10, some (.list nw), x12, x13, x14, x15, x16, x17, x18] = some (.nx, [x0, x1, x2, x3, x4, x5, some (.list (dsD ds)), x7, x8, x9, x10, some (.list (nw ++ rowsD ((List.range' s m).flatMap (ext ds)))), x12, x13', x14, x15, x16, x17, x18])
  | 0, s, nw, x13, _ => ⟨x13, by simp [rgD, forL, rowsD]⟩
  | m + 1, s, nw, x13, h => by
    have hl : (rowsD (ext ds s)).length = 4 := by unfold rowsD ext ow; simp
    obtain ⟨x', e⟩ := sb_loop hd m (s + 1) (nw ++ rowsD (ext ds s)) (some (.int (s : Int))) (by rw [List.length_append, hl]; omega)
    refine ⟨x', ?_⟩
    rw [rgD_succ, forL_cons rfl (sb_ev hd (by omega)), show ((s : Int) + 1) = ((s + 1 : Nat) : Int) by omega, e, List.range'_succ, List.flatMap_cons]
    unfold rowsD
    rw [List.map_append, List.append_assoc]
theorem fre_ev {ds : List (Int × Wd)} (hd : ds.length ≤ 1000) : FRE [x0, x1, x2, x3, x4, x5, some (.list (dsD ds)), x7, x8, x9, x10, x11, x12, x13, x14, x15, x16, x17, x18] = some (.int (fre ds), [x0, x1, x2, x3, x4, x5, some (.list (dsD ds)), x7, x8, x9, x10, x11, x12, x13, x14, x15, x16, x17, x18]) := by
  have q := lcL_map (g := gT [(gN 13), (gN 18)]) (e := dgetE (dispE [((cE (.str ("fill" : Str))), (unE negD (cE (.int 1)))), ((cE (.str ("left" : Str))), (cE (.int 0))), ((cE (.str ("middle" : Str))), (cE (.int 1))), ((cE (.str ("right" : Str))), (cE (.int 0)))]) (varE 18)) (vs := [13, 18]) (F := fun d => match d with | .tuple [_, .str w] => .int (if w = ("fill" : Str) then -1 else if w = ("middle" : Str) then 1 else 0) | _ => .none) (ρ := [x0, x1, x2, x3, x4, x5, some (.list (dsD ds)), x7, x8, x9, x10, x11, x12, none, x14, x15, x16, x17, none]) (dsD ds) fun d hd => by
      unfold dsD at hd
      obtain ⟨⟨s, w⟩, _, rfl⟩ := List.mem_map.mp hd
      refine ⟨[x0, x1, x2, x3, x4, x5, some (.list (dsD ds)), x7, x8, x9, x10, x11, x12, some (.int s), x14, x15, x16, x17, some (.str w.str)], rfl, [x0, x1, x2, x3, x4, x5, some (.list (dsD ds)), x7, x8, x9, x10, x11, x12, some (.int s), x14, x15, x16, x17, some (.str w.str)], ?_, rfl⟩
      cases w <;> kernel_rfl
  have e2 : (dsD ds).map (fun d => match d with | .tuple [_, .str w] => PyData.int (if w = ("fill" : Str) then -1 else if w = ("middle" : Str) then 1 else 0) | _ => .none) = (ds.map fun p => chg p.2).map .int := by
    unfold dsD
    rw [List.map_map, List.map_map]
    refine List.map_congr_left fun p _ => ?_
    obtain ⟨s, w⟩ := p
    cases w <;> kernel_rfl
  rw [e2] at q
  have e3 : lcE (seqL (varE 6)) (gT [(gN 13), (gN 18)]) yT (dgetE (dispE [((cE (.str ("fill" : Str))), (unE negD (cE (.int 1)))), ((cE (.str ("left" : Str))), (cE (.int 0))), ((cE (.str ("middle" : Str))), (cE (.int 1))), ((cE (.str ("right" : Str))), (cE (.int 0)))]) (varE 18)) [13, 18] [x0, x1, x2, x3, x4, x5, some (.list (dsD ds)), x7, x8, x9, x10, x11, x12, x13, x14, x15, x16, x17, x18] = some (.list ((ds.map fun p => chg p.2).map .int), [x0, x1, x2, x3, x4, x5, some (.list (dsD ds)), x7, x8, x9, x10, x11, x12, x13, x14, x15, x16, x17, x18]) := by
    show (if (dsD ds).length ≤ 1000000 then (match lcL _ _ _ _ (dsD ds) [x0, x1, x2, x3, x4, x5, some (.list (dsD ds)), x7, x8, x9, x10, x11, x12, none, x14, x15, x16, x17, none] with | none => none | some (ys, ρ2) => some (PyData.list ys, backE _ ρ2 [13, 18])) else none) = _
    rw [if_pos (by rw [dsD_len]; omega), q]
    rfl
  have hi : ∀ l : List Int, intsOf (l.map .int) = some l := fun l => by
    induction l with
    | nil => rfl
    | cons a l ih => rw [List.map_cons, intsOf, ih]; rfl
  refine op_ev rfl (ce_ev (cl_ev e3 rfl) (show sumD [.list ((ds.map fun p => chg p.2).map .int)] = some (.int (ds.map fun p => chg p.2).sum) from ?_)) rfl
  show (intsOf _).map _ = _
  rw [hi]; rfl
theorem stp_cons (ds : List (Int × Wd)) (rs : List (List (Int × Wd))) : stp (ds :: rs) = (List.range (fre ds).toNat).flatMap (ext ds) ++ stp rs := by unfold stp; rw [List.flatMap_cons]
theorem ext_len (ds : List (Int × Wd)) : ∀ l : List Nat, (l.flatMap (ext ds)).length = 4 * l.length
  | [] => rfl
  | s :: l => by rw [List.flatMap_cons, List.length_append, ext_len ds l, show (ext ds s).length = 4 from rfl, List.length_cons]; omega
theorem rowsD_app (a b : List (List (Int × Wd))) : rowsD (a ++ b) = rowsD a ++ rowsD b := by unfold rowsD; rw [List.map_append]
theorem rb_loop : ∀ (rs : List (List (Int × Wd))) (nw : List D) (x6 x12 x13 : Option D), (∀ ds ∈ rs, ds.length ≤ 100 ∧ -1000 ≤ fre ds ∧ fre ds ≤ 1000) → nw.length + (stp rs).length ≤ 50000 → ∃ y6 y12 y13, forL (gN 6) RB (rowsD rs) [x0, x1, x2, x3, x4, x5, x6, x7, x8, x9, x10, some (.list nw), x12, x13, x14, x15, x16, x17, x18] = some (.nx, [x0, x1, x2, x3, x4, x5, y6, x7, x8, x9, x10, some (.list (nw ++ rowsD (stp rs))), y12, y13, x14, x15, x16, x17, x18])
  | [], nw, x6, x12, x13, _, _ => ⟨x6, x12, x13, by rw [show rowsD (stp []) = [] from rfl, List.append_nil]; rfl⟩
  | ds :: rs, nw, x6, x12, x13, h, hl => by
    obtain ⟨h1, h2, h3⟩ := h ds List.mem_cons_self
    rw [stp_cons, List.length_append, ext_len, List.length_range] at hl
    obtain ⟨z13, e1⟩ := sb_loop (x0 := x0) (x1 := x1) (x2 := x2) (x3 := x3) (x4 := x4) (x5 := x5) (x7 := x7) (x8 := x8) (x9 := x9) (x10 := x10) (x12 := some (.int (fre ds))) (x14 := x14) (x15 := x15) (x16 := x16) (x17 := x17) (x18 := x18) (ds := ds) (by omega) (fre ds).toNat 0 nw x13 (by omega)
    obtain ⟨y6, y12, y13, e2⟩ := rb_loop rs (nw ++ rowsD ((List.range' 0 (fre ds).toNat).flatMap (ext ds))) (some (.list (dsD ds))) (some (.int (fre ds))) z13 (fun d hd => h d (List.mem_cons_of_mem _ hd)) (by
      rw [List.length_append]
      unfold rowsD
      rw [List.length_map, ext_len, List.length_range']; omega)
    refine ⟨y6, y12, y13, ?_⟩
    have eb : RB [x0, x1, x2, x3, x4, x5, some (.list (dsD ds)), x7, x8, x9, x10, some (.list nw), x12, x13, x14, x15, x16, x17, x18] = some (.nx, [x0, x1, x2, x3, x4, x5, some (.list (dsD ds)), x7, x8, x9, x10, some (.list (nw ++ rowsD ((List.range' 0 (fre ds).toNat).flatMap (ext ds)))), some (.int (fre ds)), z13, x14, x15, x16, x17, x18]) := by
      unfold RB
      rw [seq_nx (asg_ev (fre_ev (by omega)))]
      exact (seq_nx (for_nx (l := rgD 0 (fre ds).toNat) (rg1_ev (j := fre ds) rfl ⟨by omega, by omega⟩) e1)).trans rfl
    show forL (gN 6) RB (PyData.list (dsD ds) :: rowsD rs) _ = _
    rw [forL_cons rfl eb, e2, stp_cons, rowsD_app, List.append_assoc, List.range_eq_range']
theorem tb_ev {rs : List (List (Int × Wd))} (h : ∀ ds ∈ rs, ds.length ≤ 100 ∧ -1000 ≤ fre ds ∧ fre ds ≤ 1000) (hl : (stp rs).length ≤ 50000) : ∃ y6 y11 y12 y13, TB [x0, x1, x2, x3, x4, x5, x6, x7, x8, x9, some (.list (rowsD rs)), x11, x12, x13, x14, x15, x16, x17, x18] = some (.nx, [x0, x1, x2, x3, x4, x5, y6, x7, x8, x9, some (.list (rowsD (stp rs))), y11, y12, y13, x14, x15, x16, x17, x18]) := by
  obtain ⟨y6, y12, y13, e⟩ := rb_loop (x0 := x0) (x1 := x1) (x2 := x2) (x3 := x3) (x4 := x4) (x5 := x5) (x7 := x7) (x8 := x8) (x9 := x9) (x10 := some (.list (rowsD rs))) (x14 := x14) (x15 := x15) (x16 := x16) (x17 := x17) (x18 := x18) rs [] x6 x12 x13 h (by simp only [List.length_nil]; omega)
  refine ⟨y6, some (.list (rowsD (stp rs))), y12, y13, ?_⟩
  unfold TB
  rw [seq_nx (asg_ev (d := .list []) rfl)]
  rw [seq_nx (for_nx (l := rowsD rs) (ρ1 := [x0, x1, x2, x3, x4, x5, x6, x7, x8, x9, some (.list (rowsD rs)), some (.list []), x12, x13, x14, x15, x16, x17, x18]) rfl e)]
  exact (seq_nx (asg_ev (d := .list (rowsD (stp rs))) rfl)).trans rfl
end
def chk (n : Nat) : Bool := ((rowsN n).all fun ds => decide (ds.length ≤ 100) && decide (-1000 ≤ fre ds) && decide (fre ds ≤ 1000)) && decide ((stp (rowsN n)).length ≤ 50000)
theorem chk_ok {n : Nat} (h : chk n = true) : (∀ ds ∈ rowsN n, ds.length ≤ 100 ∧ -1000 ≤ fre ds ∧ fre ds ≤ 1000) ∧ (stp (rowsN n)).length ≤ 50000 := by
  unfold chk at h
  rw [Bool.and_eq_true_iff] at h
  refine ⟨fun ds hd => ?_, of_decide_eq_true h.2⟩
  have := List.all_eq_true.mp h.1 ds hd
  simpa [and_assoc] using this
theorem chk0 : chk 0 = true := by decide +kernel
theorem chk1 : chk 1 = true := by decide +kernel
theorem chk2 : chk 2 = true := by decide +kernel
theorem chk3 : chk 3 = true := by decide +kernel
/-- of all these lists, what they make -/
def mk (ds : List (Int × Wd)) : D := resD (runR ds 1 (row0 ds.length))
def intB : D → List Int
  | .list ds => (intsOf ds).getD []
  | _ => []
def litB (n : Nat) : Bool := (((rowsN n).map mk).filter fun d => !isNone d).map intB == lits n && ((rowsN n).map mk).all fun d => isNone d || (match d with | .list ds => (intsOf ds).isSome | _ => false)
theorem lit1 : litB 1 = true := by decide +kernel
theorem lit2 : litB 2 = true := by decide +kernel
theorem lit3 : litB 3 = true := by decide +kernel
theorem lit4 : litB 4 = true := by decide +kernel
end My

set_option pp.maxSteps 400
set_option Elab.async false
set_option linter.all false
set_option maxRecDepth 100000
set_option maxHeartbeats 4000000
namespace My
open PySem PySem.Spec L2 BV
/-! ## the last part, put together -/
section
variable {x0 x1 x2 x3 x4 x5 x6 x7 x8 x9 x10 x11 x12 x13 x14 x15 x16 x17 x18 : Option D}
theorem tb_iter : ∀ (m k : Nat) (x2 x6 x11 x12 x13 : Option D), (∀ j, k ≤ j → j < k + m → chk j = true) → ∃ y2 y6 y11 y12 y13, forL (gN 2) TB (rgD (k : Int) m) [x0, x1, x2, x3, x4, x5, x6, x7, x8, x9, some (.list (rowsD (rowsN k))), x11, x12, x13, x14, x15, x16, x17, x18] = some (.nx, [x0, x1, y2, x3, x4, x5, y6, x7, x8, x9, some (.list (rowsD (rowsN (k + m)))), y11, y12, y13, x14, x15, x16, x17, x18])
  | 0, k, x2, x6, x11, x12, x13, _ => ⟨x2, x6, x11, x12, x13, rfl⟩
  | m + 1, k, x2, x6, x11, x12, x13, h => by
    obtain ⟨h1, h2⟩ := chk_ok (h k (Nat.le_refl _) (by omega))
    obtain ⟨y6, y11, y12, y13, e1⟩ := tb_ev (x0 := x0) (x1 := x1) (x2 := some (.int (k : Int))) (x3 := x3) (x4 := x4) (x5 := x5) (x6 := x6) (x7 := x7) (x8 := x8) (x9 := x9) (x11 := x11) (x12 := x12) (x13 := x13) (x14 := x14) (x15 := x15) (x16 := x16) (x17 := x17) (x18 := x18) h1 h2
    obtain ⟨z2, z6, z11, z12, z13, e2⟩ := tb_iter m (k + 1) (some (.int (k : Int))) y6 y11 y12 y13 fun j h3 h4 => h j (by omega) (by omega)
    refine ⟨z2, z6, z11, z12, z13, ?_⟩
    rw [rgD_succ, forL_cons rfl e1, show ((k : Int) + 1) = ((k + 1 : Nat) : Int) by omega, show stp (rowsN k) = rowsN (k + 1) from rfl, e2, show k + 1 + m = k + (m + 1) by omega]
def litD (n : Nat) : List D := (lits n).map fun o => .list (o.map .int)
theorem lit_ok {n : Nat} (h : litB n = true) : ((rowsN n).map mk).filter (fun d => !isNone d) = litD n := by
  unfold litB at h
  rw [Bool.and_eq_true_iff] at h
  have h1 := eq_of_beq h.1
  unfold litD
  rw [← h1, List.map_map]
  have h2 := List.all_eq_true.mp h.2
  have : ∀ l : List D, (∀ d ∈ l, isNone d = true ∨ ∃ o : List Int, d = .list (o.map .int)) → l.filter (fun d => !isNone d) = (l.filter fun d => !isNone d).map ((fun o : List Int => PyData.list (o.map .int)) ∘ intB) := fun l hl => by
    conv => lhs; rw [← List.map_id (l.filter _)]
    refine List.map_congr_left fun d hd => ?_
    have hd2 := List.mem_filter.mp hd
    rcases hl d hd2.1 with e | ⟨o, rfl⟩
    · rw [e] at hd2; cases hd2.2
    · have hi : ∀ l : List Int, intsOf (l.map .int) = some l := fun l => by
        induction l with
        | nil => rfl
        | cons a l ih => rw [List.map_cons, intsOf, ih]; rfl
      show _ = PyData.list (((intsOf (o.map .int)).getD []).map .int)
      rw [hi]; rfl
  refine this _ fun d hd => ?_
  have h3 := h2 d hd
  rw [Bool.or_eq_true_iff] at h3
  rcases h3 with h3 | h3
  · exact .inl h3
  · right
    cases d <;> try (cases h3)
    rename_i ds
    obtain ⟨ns, e⟩ := Option.isSome_iff_exists.mp h3
    exact ⟨ns, by rw [intsOf_eq e]⟩
abbrev END : FS := (seqS (asgS 16 (cE (.int 1)))
  (seqS (forS (rg1L (varE 9)) (gN 17)
  (seqS (asgS 16 (opE mulD (varE 16) (opE addD (varE 17) (cE (.int 1)))))
  nxS))
  (seqS (retS (andE (opE eqD (clE lenD (consL (varE 15) nilL)) (varE 16)) (opE eqD (lenSetE (lcE (seqL (varE 15)) (gN 3) yT (clE tupleD (consL (varE 3) nilL)) [3])) (varE 16))))
  nxS)))
def saysF : Option (Fl × En) → Bool
  | some (.rt (.bool b), _) => b
  | _ => false
theorem saysF_ok {f : FS} {ρ : En} (h : saysF (f ρ) = true) : Post f ρ fun fl _ => fl = .rt (.bool true) := by
  unfold saysF at h
  split at h
  · rename_i e
    subst h
    exact ⟨_, _, e, rfl⟩
  · cases h
theorem end1 : saysF (END [x0, x1, x2, x3, x4, x5, x6, x7, x8, some (.int 1), x10, x11, x12, x13, x14, some (.list (litD 1)), x16, x17, x18]) = true := by kernel_rfl
theorem end2 : saysF (END [x0, x1, x2, x3, x4, x5, x6, x7, x8, some (.int 2), x10, x11, x12, x13, x14, some (.list (litD 2)), x16, x17, x18]) = true := by kernel_rfl
theorem end3 : saysF (END [x0, x1, x2, x3, x4, x5, x6, x7, x8, some (.int 3), x10, x11, x12, x13, x14, some (.list (litD 3)), x16, x17, x18]) = true := by kernel_rfl
theorem end4 : saysF (END [x0, x1, x2, x3, x4, x5, x6, x7, x8, some (.int 4), x10, x11, x12, x13, x14, some (.list (litD 4)), x16, x17, x18]) = true := by kernel_rfl
theorem tail_ev {n : Nat} (hn : 1 ≤ n ∧ n ≤ 4) : Post (seqS (asgS 10 (lstE (consL (cE (.list [])) nilL)))
  (seqS (forS (rg1L (varE 9)) (gN 2) TB)
  (seqS (asgS 14 (lcE (seqL (varE 10)) (gN 6) yT (callE0 M_order_of_deeds (consL (varE 6) nilL)) [6]))
  (seqS (asgS 15 (lcE (seqL (varE 14)) (gN 3) (bE (opE isnotD (varE 3) (cE .none))) (varE 3) [3]))
  END)))) [x0, x1, x2, x3, x4, x5, x6, x7, x8, some (.int (n : Int)), x10, x11, x12, x13, x14, x15, x16, x17, x18] (fun fl _ => fl = .rt (.bool true)) := by
  have hc : ∀ j, 0 ≤ j → j < 0 + n → chk j = true := fun j _ hj => by
    have : j = 0 ∨ j = 1 ∨ j = 2 ∨ j = 3 := by omega
    rcases this with e | e | e | e <;> subst e
    · exact chk0
    · exact chk1
    · exact chk2
    · exact chk3
  have hlit : litB n = true := by
    have : n = 1 ∨ n = 2 ∨ n = 3 ∨ n = 4 := by omega
    rcases this with e | e | e | e <;> subst e
    · exact lit1
    · exact lit2
    · exact lit3
    · exact lit4
  have hlen : (rowsN n).length ≤ 50000 ∧ ∀ ds ∈ rowsN n, ds.length ≤ 900 := by
    have b : (decide ((rowsN n).length ≤ 50000) && (rowsN n).all (fun ds => decide (ds.length ≤ 900))) = true := by
      have : n = 1 ∨ n = 2 ∨ n = 3 ∨ n = 4 := by omega
      rcases this with e | e | e | e <;> subst e <;> decide +kernel
    rw [Bool.and_eq_true_iff] at b
    exact ⟨of_decide_eq_true b.1, fun ds hd => of_decide_eq_true (List.all_eq_true.mp b.2 ds hd)⟩
  obtain ⟨y2, y6, y11, y12, y13, e1⟩ := tb_iter (x0 := x0) (x1 := x1) (x3 := x3) (x4 := x4) (x5 := x5) (x7 := x7) (x8 := x8) (x9 := some (.int (n : Int))) (x14 := x14) (x15 := x15) (x16 := x16) (x17 := x17) (x18 := x18) n 0 x2 x6 x11 x12 x13 hc
  rw [Nat.zero_add] at e1
  refine po_asg (d := .list (rowsD (rowsN 0))) rfl ?_
  refine po_for_nx (l := rgD 0 n) (ρ1 := [x0, x1, x2, x3, x4, x5, x6, x7, x8, some (.int (n : Int)), some (.list (rowsD (rowsN 0))), x11, x12, x13, x14, x15, x16, x17, x18]) ?_ e1 ?_
  · rw [rg1_ev (j := (n : Int)) rfl (by omega)]; rfl
  have eo := lc_map (f := seqL (varE 10)) (e := callE0 M_order_of_deeds (consL (varE 6) nilL)) (j := 6) (F := fun d => (M_order_of_deeds [d]).elim .none (·.1)) (l := rowsD (rowsN n)) (ρ0 := [x0, x1, y2, x3, x4, x5, y6, x7, x8, some (.int (n : Int)), some (.list (rowsD (rowsN n))), y11, y12, y13, x14, x15, x16, x17, x18]) (ρ := [x0, x1, y2, x3, x4, x5, y6, x7, x8, some (.int (n : Int)), some (.list (rowsD (rowsN n))), y11, y12, y13, x14, x15, x16, x17, x18]) rfl (by unfold rowsD; rw [List.length_map]; omega) (Nat.le_of_ble_eq_true rfl) fun d hd => by
    unfold rowsD at hd
    obtain ⟨ds, hds, rfl⟩ := List.mem_map.mp hd
    obtain ⟨z, e⟩ := ood ds (hlen.2 ds hds)
    rw [e]
    exact c0_ev (cl_ev rfl rfl) e
  have em : (rowsD (rowsN n)).map (fun d => (M_order_of_deeds [d]).elim .none (·.1)) = (rowsN n).map mk := by
    unfold rowsD
    rw [List.map_map]
    refine List.map_congr_left fun ds hds => ?_
    obtain ⟨z, e⟩ := ood ds (hlen.2 ds hds)
    show (M_order_of_deeds [.list (dsD ds)]).elim _ _ = _
    rw [e]; rfl
  rw [em] at eo
  refine po_asg eo ?_
  have ef := lc_filt0 (f := seqL (varE 14)) (t := bE (opE isnotD (varE 3) (cE .none))) (j := 3) (p := fun d => !isNone d) (l := (rowsN n).map mk) (ρ0 := [x0, x1, y2, x3, x4, x5, y6, x7, x8, some (.int (n : Int)), some (.list (rowsD (rowsN n))), y11, y12, y13, some (.list ((rowsN n).map mk)), x15, x16, x17, x18]) (ρ := [x0, x1, y2, x3, x4, x5, y6, x7, x8, some (.int (n : Int)), some (.list (rowsD (rowsN n))), y11, y12, y13, some (.list ((rowsN n).map mk)), x15, x16, x17, x18]) rfl (by rw [List.length_map]; omega) (Nat.le_of_ble_eq_true rfl) fun d hd => bE_ev (op_ev rfl rfl (by cases d <;> rfl))
  rw [lit_ok hlit] at ef
  refine po_asg ef ?_
  have : n = 1 ∨ n = 2 ∨ n = 3 ∨ n = 4 := by omega
  rcases this with e | e | e | e <;> subst e
  · exact saysF_ok end1
  · exact saysF_ok end2
  · exact saysF_ok end3
  · exact saysF_ok end4
end
end My

set_option pp.maxSteps 400
set_option Elab.async false
set_option linter.all false
set_option maxRecDepth 100000
set_option maxHeartbeats 4000000
namespace My
open PySem PySem.Spec L2 BV
/-! ## the law -/
theorem same_ok {n : Nat} {d : D} (h : Nice 6 d) : ∃ o, M__law_same 6 [d, d] = some (.bool true, o) := same_refl 6 d h (by omega)
theorem nice_up : ∀ (n : Nat) (d : D), Nice n d → Nice (n + 1) d
  | 0, _, h => h.elim
  | n + 1, .none, _ => trivial
  | n + 1, .bool _, _ => trivial
  | n + 1, .int _, _ => trivial
  | n + 1, .str _, h => h
  | n + 1, .list ds, h => ⟨h.1, fun d hd => nice_up n d (h.2 d hd)⟩
  | n + 1, .tuple ds, h => ⟨h.1, fun d hd => nice_up n d (h.2 d hd)⟩
theorem nice_dsD (n : Nat) (ds : List (Int × Wd)) (h : ds.length ≤ 1000) : Nice (n + 3) (.list (dsD ds)) := by
  refine ⟨by rw [dsD_len]; omega, fun d hd => ?_⟩
  unfold dsD at hd
  obtain ⟨⟨s, w⟩, _, rfl⟩ := List.mem_map.mp hd
  refine ⟨by simp, fun d hd => ?_⟩
  rcases List.mem_cons.mp hd with rfl | hd
  · trivial
  · rcases List.mem_cons.mp hd with rfl | hd
    · show PyData.canLay0 (.str w.str) = true
      cases w <;> decide +kernel
    · cases hd
theorem resD_nice {ds : List (Int × Wd)} (h : ds.length ≤ 400) : Nice 6 (resD (runR ds 1 (row0 ds.length))) := by
  cases e : runR ds 1 (row0 ds.length) with
  | none => trivial
  | some row =>
    unfold resD
    dsimp only
    split
    · trivial
    · have ft := flt_run ds 1 _ _ e (flt_row0 _)
      have hr0 : (row0 ds.length).length ≤ 1 := by unfold row0; split <;> simp
      obtain ⟨ρ', e1, e2⟩ := ood_loop ds [] (row0 ds.length) none none none none none none none (by simp only [List.length_nil]; omega) (by simp only [List.length_nil]; omega)
      have e2' : ∀ row', runR ds 1 (row0 ds.length) = some row' → row'.length ≤ 1 + 2 * (0 + ds.length) ∧ _ := e2
      have := (e2' row e).1
      exact nice_up _ _ (nice_up _ _ (nice_up _ _ (nice_up _ _ (flt_nice ft (by omega)))))
theorem wd_of {x : D} (h : x ∈ [PyData.str ("fill" : Str), .str ("left" : Str), .str ("middle" : Str), .str ("right" : Str), .str ("fill" : Str)]) : ∃ w : Wd, x = .str w.str := by
  simp only [List.mem_cons, List.not_mem_nil, or_false] at h
  rcases h with e | e | e | e | e <;> subst e
  · exact ⟨.fill, rfl⟩
  · exact ⟨.left, rfl⟩
  · exact ⟨.middle, rfl⟩
  · exact ⟨.right, rfl⟩
  · exact ⟨.fill, rfl⟩
theorem tup_ev {f : FL} {ρ ρ1 : En} {ds : List D} (h : f ρ = some (ds, ρ1)) (hl : ds.length ≤ 1000000 := by simp) : tupE f ρ = some (.tuple ds, ρ1) := by unfold tupE; rw [h]; exact if_pos hl
abbrev LWB : FS := (seqS (asgS 3 (callE1 M__law_order 1 0 (ioA' 1 (consA (callE1 M__law_next 1 0 (ioA' 1 (consA (cE (.int 10)) nilA))) nilA))))
  (seqS (asgS 4 (callE0 (M__law_copy 6) (consL (varE 3) nilL)))
  (seqS (asgS 5 (callE0 M_deeds_of (consL (varE 3) nilL)))
  (seqS (ifS (orT (notT (bE (callE0 (M__law_same 6) (consL (varE 5) (consL (callE0 M__law_deeds (consL (varE 3) nilL)) nilL))))) (orT (notT (bE (callE0 (M__law_same 6) (consL (callE0 M_order_of_deeds (consL (varE 5) nilL)) (consL (varE 3) nilL))))) (notT (bE (callE0 (M__law_same 6) (consL (varE 3) (consL (varE 4) nilL)))))))
  (seqS (retS (cE (.bool false)))
  nxS)
  nxS)
  (seqS (asgS 6 (lcE (rg1L (callE1 M__law_next 1 0 (ioA' 1 (consA (cE (.int 6)) nilA)))) (gN 17) yT (tupE (consL (callE1 M__law_next 1 0 (ioA' 1 (consA (cE (.int 3)) nilA))) (consL (callE1 M__law_pick 1 0 (ioA' 1 (consA (lstE (consL (cE (.str ("fill" : Str))) (consL (cE (.str ("left" : Str))) (consL (cE (.str ("middle" : Str))) (consL (cE (.str ("right" : Str))) (consL (cE (.str ("fill" : Str))) nilL)))))) nilA))) nilL))) [17]))
  (seqS (ifS (andT (bE (opE eqD (callE1 M__law_next 1 0 (ioA' 1 (consA (cE (.int 2)) nilA))) (cE (.int 0)))) (bE (opE gtD (clE lenD (consL (varE 5) nilL)) (cE (.int 0)))))
  (seqS (asgS 7 (callE1 M__law_next 1 0 (ioA' 1 (consA (clE lenD (consL (varE 5) nilL)) nilA))))
  (seqS (asgS 6 (opE addD (opE addD (slE (varE 5) noO (atO (varE 7))) (lstE (consL (tupE (consL (callE1 M__law_pick 1 0 (ioA' 1 (consA (lstE (consL (cE (.int 0)) (consL (cE (.int 1)) (consL (unE negD (cE (.int 1))) (consL (cE (.int 5)) nilL))))) nilA))) (consL (callE1 M__law_pick 1 0 (ioA' 1 (consA (lstE (consL (cE (.str ("fill" : Str))) (consL (cE (.str ("middle" : Str))) nilL))) nilA))) nilL))) nilL))) (slE (varE 5) (atO (opE addD (varE 7) (cE (.int 1)))) noO)))
  nxS))
  nxS)
  (seqS (asgS 8 (callE0 M_order_of_deeds (consL (clE listD (consL (varE 6) nilL)) nilL)))
  (seqS (ifS (orT (notT (bE (callE0 (M__law_same 6) (consL (varE 8) (consL (callE0 M__law_done (consL (varE 6) nilL)) nilL))))) (andT (bE (opE isnotD (varE 8) (cE .none))) (notT (bE (callE0 (M__law_same 6) (consL (callE0 M_deeds_of (consL (varE 8) nilL)) (consL (varE 6) nilL)))))))
  (seqS (retS (cE (.bool false)))
  nxS)
  nxS)
  nxS))))))))
theorem law_body {d : D} (hd : Dr d) {x0 x2 x3 x4 x5 x6 x7 x8 x9 x10 x11 x12 x13 x14 x15 x16 x17 x18 : Option D} : Post LWB [x0, some d, x2, x3, x4, x5, x6, x7, x8, x9, x10, x11, x12, x13, x14, x15, x16, x17, x18] fun fl ρ' => (fl = .nx ∨ fl = .ct) ∧ ∃ d x2 x3 x4 x5 x6 x7 x8 x9 x10 x11 x12 x13 x14 x15 x16 x17 x18, Dr d ∧ ρ' = [x0, some d, x2, x3, x4, x5, x6, x7, x8, x9, x10, x11, x12, x13, x14, x15, x16, x17, x18] := by
  obtain ⟨r, d1, hd1, r0, r1, e1⟩ := next_ok (b := 10) hd (by decide)
  obtain ⟨o, ho, d2, hd2, e2⟩ := order_ok (d := d1) r.toNat hd1 (by omega)
  rw [Int.toNat_of_nonneg r0] at e2
  obtain ⟨hO, hol⟩ := isO_perm (n := r.toNat) (ordersN_perm r.toNat (nums 1 r.toNat) o (by unfold nums; simp) ho)
  have ho9 : o.length ≤ 9 := by omega
  obtain ⟨ds, hch, hdl, hwf⟩ := isO_ch hO
  have hds : ds.length ≤ 9 := by omega
  obtain ⟨z3, e3⟩ := copy_ints 4 o (by omega)
  obtain ⟨z4, e4⟩ := dof hO.nd (by omega) hch hdl
  obtain ⟨z5, e5⟩ := ldl hO.nd (by omega) hch hdl hwf
  obtain ⟨z6, e6⟩ := ood ds (by omega)
  have hrun : resD (runR ds 1 (row0 ds.length)) = .list (o.map .int) := by
    have hr := ch_run hch
    rw [flat_rn] at hr
    have er : (rn o).map rowI = row0 ds.length := by
      cases o with
      | nil => rw [hdl]; rfl
      | cons x o => rw [hdl]; rfl
    rw [er] at hr
    rw [hr]
    show (if ((o.map PyData.int).any isNone) = true then PyData.none else .list (o.map .int)) = _
    rw [if_neg]
    rw [List.any_map, List.any_eq_true]
    rintro ⟨x, _, h⟩
    cases h
  rw [hrun] at e6
  have nO : Nice 6 (.list (o.map .int)) := nice_ints (n := 4) (by omega)
  obtain ⟨z7, e7⟩ := same_ok (n := 6) (nice_dsD 3 ds (by omega))
  obtain ⟨z8, e8⟩ := same_ok (n := 6) nO
  unfold LWB
  refine po_asg (d := .list (o.map .int)) (ρ1 := [x0, some d2, x2, x3, x4, x5, x6, x7, x8, x9, x10, x11, x12, x13, x14, x15, x16, x17, x18]) (c1_to (io_ev rfl (cA_ev (c1_to (io_ev rfl rfl) rfl rfl e1 rfl) rfl)) rfl rfl e2 rfl) ?_
  refine po_asg (d := .list (o.map .int)) (ρ1 := [x0, some d2, x2, some (.list (o.map .int)), x4, x5, x6, x7, x8, x9, x10, x11, x12, x13, x14, x15, x16, x17, x18]) (c0_ev (cl_ev rfl rfl) e3) ?_
  refine po_asg (d := .list (dsD ds)) (ρ1 := [x0, some d2, x2, some (.list (o.map .int)), some (.list (o.map .int)), x5, x6, x7, x8, x9, x10, x11, x12, x13, x14, x15, x16, x17, x18]) (c0_ev (cl_ev rfl rfl) e4) ?_
  refine po_if0 (ρ1 := [x0, some d2, x2, some (.list (o.map .int)), some (.list (o.map .int)), some (.list (dsD ds)), x6, x7, x8, x9, x10, x11, x12, x13, x14, x15, x16, x17, x18]) (orT_ev (nT_ev (bE_ev (c0_ev (cl_ev rfl (cl_ev (c0_ev (cl_ev rfl rfl) e5) rfl)) e7))) (orT_ev (nT_ev (bE_ev (c0_ev (cl_ev (c0_ev (cl_ev rfl rfl) e6) (cl_ev rfl rfl)) e8))) (nT_ev (bE_ev (c0_ev (cl_ev rfl (cl_ev rfl rfl)) e8))))) ?_
  -- the deeds that are drawn
  obtain ⟨r3, d3, hd3, r30, r31, e9⟩ := next_ok (b := 6) hd2 (by decide)
  obtain ⟨ys, ρ', eb, ⟨d4, hd4, er⟩, hlen, hys⟩ := lc_ok (f := rg1L (callE1 M__law_next 1 0 (ioA' 1 (consA (cE (.int 6)) nilA)))) (e := (tupE (consL (callE1 M__law_next 1 0 (ioA' 1 (consA (cE (.int 3)) nilA))) (consL (callE1 M__law_pick 1 0 (ioA' 1 (consA (lstE (consL (cE (.str ("fill" : Str))) (consL (cE (.str ("left" : Str))) (consL (cE (.str ("middle" : Str))) (consL (cE (.str ("right" : Str))) (consL (cE (.str ("fill" : Str))) nilL)))))) nilA))) nilL)))) (j := 17) (l := rgD 0 r3.toNat)
    (ρ0 := [x0, some d2, x2, some (.list (o.map .int)), some (.list (o.map .int)), some (.list (dsD ds)), x6, x7, x8, x9, x10, x11, x12, x13, x14, x15, x16, x17, x18]) (ρ := [x0, some d3, x2, some (.list (o.map .int)), some (.list (o.map .int)), some (.list (dsD ds)), x6, x7, x8, x9, x10, x11, x12, x13, x14, x15, x16, x17, x18])
    (I := fun ρ => ∃ d, Dr d ∧ ρ = [x0, some d, x2, some (.list (o.map .int)), some (.list (o.map .int)), some (.list (dsD ds)), x6, x7, x8, x9, x10, x11, x12, x13, x14, x15, x16, none, x18]) (P := fun y => ∃ (s : Int) (w : Wd), y = dD s w)
    (rg1_ev (j := r3) (c1_to (io_ev rfl rfl) rfl rfl e9 rfl) ⟨by omega, by omega⟩) (by rw [rgD_len]; omega) ⟨d3, hd3, rfl⟩ (fun dj _ ρ ⟨d4, hd4, er⟩ => by
      subst er
      obtain ⟨r5, d5, hd5, r50, r51, e10⟩ := next_ok (b := 3) hd4 (by decide)
      obtain ⟨x, hx, d6, hd6, e11⟩ := pick_ok (l := [PyData.str ("fill" : Str), .str ("left" : Str), .str ("middle" : Str), .str ("right" : Str), .str ("fill" : Str)]) hd5 (by simp)
      obtain ⟨w, rfl⟩ := wd_of hx
      refine ⟨dD r5 w, [x0, some d6, x2, some (.list (o.map .int)), some (.list (o.map .int)), some (.list (dsD ds)), x6, x7, x8, x9, x10, x11, x12, x13, x14, x15, x16, some dj, x18], ?_, ⟨r5, w, rfl⟩, d6, hd6, rfl⟩
      have el := cl_ev (g := consL (callE1 M__law_pick 1 0 (ioA' 1 (consA (lstE (consL (cE (.str ("fill" : Str))) (consL (cE (.str ("left" : Str))) (consL (cE (.str ("middle" : Str))) (consL (cE (.str ("right" : Str))) (consL (cE (.str ("fill" : Str))) nilL)))))) nilA))) nilL) (c1_to (i := 1) (p := 0) (ρ := [x0, some d4, x2, some (.list (o.map .int)), some (.list (o.map .int)), some (.list (dsD ds)), x6, x7, x8, x9, x10, x11, x12, x13, x14, x15, x16, some dj, x18]) (ρ' := [x0, some d5, x2, some (.list (o.map .int)), some (.list (o.map .int)), some (.list (dsD ds)), x6, x7, x8, x9, x10, x11, x12, x13, x14, x15, x16, some dj, x18]) (f := ioA' 1 (consA (cE (.int 3)) nilA)) (io_ev rfl rfl) rfl rfl e10 rfl)
        (cl_ev (c1_to (i := 1) (p := 0) (ρ' := [x0, some d6, x2, some (.list (o.map .int)), some (.list (o.map .int)), some (.list (dsD ds)), x6, x7, x8, x9, x10, x11, x12, x13, x14, x15, x16, some dj, x18]) (io_ev rfl (cA_ev rfl rfl)) rfl rfl e11 rfl) rfl)
      exact tup_ev el)
  subst er
  have hys' : ∃ ds2 : List (Int × Wd), ys = dsD ds2 ∧ ds2.length ≤ 6 := by
    have : ∀ l : List D, (∀ y ∈ l, ∃ (s : Int) (w : Wd), y = dD s w) → ∃ ds2 : List (Int × Wd), l = dsD ds2 := fun l => by
      induction l with
      | nil => exact fun _ => ⟨[], rfl⟩
      | cons y l ih =>
        intro h
        obtain ⟨s, w, rfl⟩ := h y List.mem_cons_self
        obtain ⟨q, rfl⟩ := ih fun y hy => h y (List.mem_cons_of_mem _ hy)
        exact ⟨(s, w) :: q, rfl⟩
    obtain ⟨q, rfl⟩ := this ys hys
    rw [dsD_len, rgD_len] at hlen
    exact ⟨q, rfl, by omega⟩
  obtain ⟨ds2, rfl, hds2⟩ := hys'
  refine po_asg (d := .list (dsD ds2)) (ρ1 := [x0, some d4, x2, some (.list (o.map .int)), some (.list (o.map .int)), some (.list (dsD ds)), x6, x7, x8, x9, x10, x11, x12, x13, x14, x15, x16, x17, x18]) eb ?_
  -- what is done with any deeds
  have fin : ∀ (ds3 : List (Int × Wd)) (d5 : D) (y7 : Option D), ds3.length ≤ 20 → Dr d5 → Post (seqS (asgS 8 (callE0 M_order_of_deeds (consL (clE listD (consL (varE 6) nilL)) nilL)))
  (seqS (ifS (orT (notT (bE (callE0 (M__law_same 6) (consL (varE 8) (consL (callE0 M__law_done (consL (varE 6) nilL)) nilL))))) (andT (bE (opE isnotD (varE 8) (cE .none))) (notT (bE (callE0 (M__law_same 6) (consL (callE0 M_deeds_of (consL (varE 8) nilL)) (consL (varE 6) nilL)))))))
  (seqS (retS (cE (.bool false)))
  nxS)
  nxS)
  nxS)) [x0, some d5, x2, some (.list (o.map .int)), some (.list (o.map .int)), some (.list (dsD ds)), some (.list (dsD ds3)), y7, x8, x9, x10, x11, x12, x13, x14, x15, x16, x17, x18] (fun fl ρ' => (fl = .nx ∨ fl = .ct) ∧ ∃ d x2 x3 x4 x5 x6 x7 x8 x9 x10 x11 x12 x13 x14 x15 x16 x17 x18, Dr d ∧ ρ' = [x0, some d, x2, x3, x4, x5, x6, x7, x8, x9, x10, x11, x12, x13, x14, x15, x16, x17, x18]) := fun ds3 d5 y7 h3 hd5 => by
    obtain ⟨za, ea⟩ := ood ds3 (by omega)
    obtain ⟨zb, eb⟩ := ldn ds3 (by omega)
    obtain ⟨zc, ec⟩ := same_ok (n := 6) (resD_nice (ds := ds3) (by omega))
    obtain ⟨zd, ed⟩ := same_ok (n := 6) (nice_dsD 3 ds3 (by omega))
    generalize hmade : resD (runR ds3 1 (row0 ds3.length)) = made at *
    refine po_asg (d := made) (ρ1 := [x0, some d5, x2, some (.list (o.map .int)), some (.list (o.map .int)), some (.list (dsD ds)), some (.list (dsD ds3)), y7, x8, x9, x10, x11, x12, x13, x14, x15, x16, x17, x18]) (c0_ev (cl_ev (ce_ev (cl_ev rfl rfl) rfl) rfl) ea) ?_
    have hend : ∀ b : Bool, b = isNone made → Post (nxS) [x0, some d5, x2, some (.list (o.map .int)), some (.list (o.map .int)), some (.list (dsD ds)), some (.list (dsD ds3)), y7, some made, x9, x10, x11, x12, x13, x14, x15, x16, x17, x18] (fun fl ρ' => (fl = .nx ∨ fl = .ct) ∧ ∃ d x2 x3 x4 x5 x6 x7 x8 x9 x10 x11 x12 x13 x14 x15 x16 x17 x18, Dr d ∧ ρ' = [x0, some d, x2, x3, x4, x5, x6, x7, x8, x9, x10, x11, x12, x13, x14, x15, x16, x17, x18]) := fun _ _ =>
      po_nx ⟨.inl rfl, _, _, _, _, _, _, _, _, _, _, _, _, _, _, _, _, _, _, hd5, rfl⟩
    refine po_if0 (ρ1 := [x0, some d5, x2, some (.list (o.map .int)), some (.list (o.map .int)), some (.list (dsD ds)), some (.list (dsD ds3)), y7, some made, x9, x10, x11, x12, x13, x14, x15, x16, x17, x18]) (orT_ev (nT_ev (bE_ev (c0_ev (cl_ev rfl (cl_ev (c0_ev (cl_ev rfl rfl) eb) rfl)) ec))) ?_) (hend _ rfl)
    by_cases hn : isNone made = true
    · have em : made = .none := by cases made <;> first | rfl | cases hn
      subst em
      rfl
    · have hm : ∃ row, runR ds3 1 (row0 ds3.length) = some row ∧ row.any isNone = false ∧ made = .list row := by
        cases e : runR ds3 1 (row0 ds3.length) with
        | none => rw [e] at hmade; subst hmade; exact absurd rfl hn
        | some row =>
          rw [e] at hmade
          unfold resD at hmade
          dsimp only at hmade
          cases ha : row.any isNone with
          | true => rw [ha] at hmade; subst hmade; exact absurd rfl hn
          | false => rw [ha] at hmade; exact ⟨row, rfl, ha, hmade.symm⟩
      obtain ⟨row, hr1, hr2, rfl⟩ := hm
      obtain ⟨o2, rfl⟩ := flt_ints (flt_run ds3 1 _ _ hr1 (flt_row0 _)) hr2
      obtain ⟨hc2, hO2, hl2⟩ := made_ch hr1
      obtain ⟨ze, ee⟩ := dof hO2.nd (by omega) hc2 hl2.symm
      unfold andT
      rw [bE_ev (op_ev (o := isnotD) (z := .bool true) (ρ2 := [x0, some d5, x2, some (.list (o.map .int)), some (.list (o.map .int)), some (.list (dsD ds)), some (.list (dsD ds3)), y7, some (.list (o2.map .int)), x9, x10, x11, x12, x13, x14, x15, x16, x17, x18]) rfl rfl rfl)]
      exact nT_ev (bE_ev (c0_ev (cl_ev (c0_ev (cl_ev rfl rfl) ee) (cl_ev rfl rfl)) ed))
  obtain ⟨r6, d6, hd6, r60, r61, e12⟩ := next_ok (b := 2) hd4 (by decide)
  have ev : (andT (bE (opE eqD (callE1 M__law_next 1 0 (ioA' 1 (consA (cE (.int 2)) nilA))) (cE (.int 0)))) (bE (opE gtD (clE lenD (consL (varE 5) nilL)) (cE (.int 0))))) [x0, some d4, x2, some (.list (o.map .int)), some (.list (o.map .int)), some (.list (dsD ds)), some (.list (dsD ds2)), x7, x8, x9, x10, x11, x12, x13, x14, x15, x16, x17, x18] = some (decide (r6 = 0) && decide (0 < (dsD ds).length), [x0, some d6, x2, some (.list (o.map .int)), some (.list (o.map .int)), some (.list (dsD ds)), some (.list (dsD ds2)), x7, x8, x9, x10, x11, x12, x13, x14, x15, x16, x17, x18]) := by
    have ea : bE (opE eqD (callE1 M__law_next 1 0 (ioA' 1 (consA (cE (.int 2)) nilA))) (cE (.int 0))) [x0, some d4, x2, some (.list (o.map .int)), some (.list (o.map .int)), some (.list (dsD ds)), some (.list (dsD ds2)), x7, x8, x9, x10, x11, x12, x13, x14, x15, x16, x17, x18] = some (decide (r6 = 0), [x0, some d6, x2, some (.list (o.map .int)), some (.list (o.map .int)), some (.list (dsD ds)), some (.list (dsD ds2)), x7, x8, x9, x10, x11, x12, x13, x14, x15, x16, x17, x18]) := bE_ev (op_ev (c1_to (io_ev rfl rfl) rfl rfl e12 rfl) rfl (eq_int r6 0))
    have eb : bE (opE gtD (clE lenD (consL (varE 5) nilL)) (cE (.int 0))) [x0, some d6, x2, some (.list (o.map .int)), some (.list (o.map .int)), some (.list (dsD ds)), some (.list (dsD ds2)), x7, x8, x9, x10, x11, x12, x13, x14, x15, x16, x17, x18] = some (decide ((0 : Int) < (dsD ds).length), [x0, some d6, x2, some (.list (o.map .int)), some (.list (o.map .int)), some (.list (dsD ds)), some (.list (dsD ds2)), x7, x8, x9, x10, x11, x12, x13, x14, x15, x16, x17, x18]) := bE_ev (op_ev (len_ev rfl) rfl rfl)
    unfold andT
    rw [ea]
    by_cases h : r6 = 0
    · rw [decide_eq_true h]
      dsimp only
      rw [eb, Bool.true_and, show decide ((0 : Int) < (((dsD ds).length : Nat) : Int)) = decide (0 < (dsD ds).length) from decide_eq_decide.mpr (by omega)]
    · rw [decide_eq_false h]
      rfl
  have hb : ∀ b : Bool, b = (decide (r6 = 0) && decide (0 < (dsD ds).length)) → (b = true → 0 < ds.length) := fun b e h => by
    rw [h] at e
    have := (Bool.and_eq_true_iff.mp e.symm).2
    rw [dsD_len] at this
    exact of_decide_eq_true this
  generalize hcc : (decide (r6 = 0) && decide (0 < (dsD ds).length)) = cc at *
  refine po_if ev (fun hv => ?_) (fun hv => ?_)
  rotate_left
  · exact po_seq rfl (fin ds2 d6 x7 (by omega) hd6)
  have hpos := hb cc rfl hv
  obtain ⟨r7, d7, hd7, r70, r71, e13⟩ := next_ok (b := (dsD ds).length) hd6 (by rw [dsD_len]; omega)
  obtain ⟨xa, hxa, d8, hd8, e14⟩ := pick_ok (l := [PyData.int 0, .int 1, .int (-1), .int 5]) hd7 (by simp)
  obtain ⟨xb, hxb, d9, hd9, e15⟩ := pick_ok (l := [PyData.str ("fill" : Str), .str ("middle" : Str)]) hd8 (by simp)
  obtain ⟨ia, rfl⟩ : ∃ ia, xa = .int ia := by
    simp only [List.mem_cons, List.not_mem_nil, or_false] at hxa
    rcases hxa with e | e | e | e <;> exact ⟨_, e⟩
  obtain ⟨wb, rfl⟩ : ∃ w : Wd, xb = .str w.str := by
    simp only [List.mem_cons, List.not_mem_nil, or_false] at hxb
    rcases hxb with e | e <;> subst e
    · exact ⟨.fill, rfl⟩
    · exact ⟨.middle, rfl⟩
  obtain ⟨at', rfl⟩ := Int.eq_ofNat_of_zero_le r70
  have hat : at' < ds.length := by rw [dsD_len] at r71; omega
  have efin : dsD (ds.take at' ++ [(ia, wb)] ++ ds.drop (at' + 1)) = (dsD ds).take at' ++ [dD ia wb] ++ (dsD ds).drop (at' + 1) := by
    unfold dsD
    rw [List.map_append, List.map_append, List.map_take, List.map_drop]; rfl
  have hF := fin (ds.take at' ++ [(ia, wb)] ++ ds.drop (at' + 1)) d9 (some (.int (at' : Int))) (by simp only [List.length_append, List.length_take, List.length_drop, List.length_cons, List.length_nil]; omega) hd9
  rw [efin] at hF
  have g1 : callE1 M__law_next 1 0 (ioA' 1 (consA (clE lenD (consL (varE 5) nilL)) nilA)) [x0, some d6, x2, some (.list (o.map .int)), some (.list (o.map .int)), some (.list (dsD ds)), some (.list (dsD ds2)), x7, x8, x9, x10, x11, x12, x13, x14, x15, x16, x17, x18] = some (.int (at' : Int), [x0, some d7, x2, some (.list (o.map .int)), some (.list (o.map .int)), some (.list (dsD ds)), some (.list (dsD ds2)), x7, x8, x9, x10, x11, x12, x13, x14, x15, x16, x17, x18]) := c1_to (io_ev rfl (cA_ev (len_ev rfl) rfl)) rfl rfl e13 rfl
  have g2 : (opE addD (opE addD (slE (varE 5) noO (atO (varE 7))) (lstE (consL (tupE (consL (callE1 M__law_pick 1 0 (ioA' 1 (consA (lstE (consL (cE (.int 0)) (consL (cE (.int 1)) (consL (unE negD (cE (.int 1))) (consL (cE (.int 5)) nilL))))) nilA))) (consL (callE1 M__law_pick 1 0 (ioA' 1 (consA (lstE (consL (cE (.str ("fill" : Str))) (consL (cE (.str ("middle" : Str))) nilL))) nilA))) nilL))) nilL))) (slE (varE 5) (atO (opE addD (varE 7) (cE (.int 1)))) noO)) [x0, some d7, x2, some (.list (o.map .int)), some (.list (o.map .int)), some (.list (dsD ds)), some (.list (dsD ds2)), some (.int (at' : Int)), x8, x9, x10, x11, x12, x13, x14, x15, x16, x17, x18] = some (.list ((dsD ds).take at' ++ [dD ia wb] ++ (dsD ds).drop (at' + 1)), [x0, some d9, x2, some (.list (o.map .int)), some (.list (o.map .int)), some (.list (dsD ds)), some (.list (dsD ds2)), some (.int (at' : Int)), x8, x9, x10, x11, x12, x13, x14, x15, x16, x17, x18]) := by
    have p1 := c1_to (i := 1) (p := 0) (M := M__law_pick) (f := ioA' 1 (consA (lstE (consL (cE (.int 0)) (consL (cE (.int 1)) (consL (unE negD (cE (.int 1))) (consL (cE (.int 5)) nilL))))) nilA)) (ρ := [x0, some d7, x2, some (.list (o.map .int)), some (.list (o.map .int)), some (.list (dsD ds)), some (.list (dsD ds2)), some (.int (at' : Int)), x8, x9, x10, x11, x12, x13, x14, x15, x16, x17, x18]) (ρ' := [x0, some d8, x2, some (.list (o.map .int)), some (.list (o.map .int)), some (.list (dsD ds)), some (.list (dsD ds2)), some (.int (at' : Int)), x8, x9, x10, x11, x12, x13, x14, x15, x16, x17, x18]) (io_ev rfl (cA_ev rfl rfl)) rfl rfl e14 rfl
    have p2 := c1_to (i := 1) (p := 0) (M := M__law_pick) (f := ioA' 1 (consA (lstE (consL (cE (.str ("fill" : Str))) (consL (cE (.str ("middle" : Str))) nilL))) nilA)) (ρ := [x0, some d8, x2, some (.list (o.map .int)), some (.list (o.map .int)), some (.list (dsD ds)), some (.list (dsD ds2)), some (.int (at' : Int)), x8, x9, x10, x11, x12, x13, x14, x15, x16, x17, x18]) (ρ' := [x0, some d9, x2, some (.list (o.map .int)), some (.list (o.map .int)), some (.list (dsD ds)), some (.list (dsD ds2)), some (.int (at' : Int)), x8, x9, x10, x11, x12, x13, x14, x15, x16, x17, x18]) (io_ev rfl (cA_ev rfl rfl)) rfl rfl e15 rfl
    have pl : lstE (consL (tupE (consL (callE1 M__law_pick 1 0 (ioA' 1 (consA (lstE (consL (cE (.int 0)) (consL (cE (.int 1)) (consL (unE negD (cE (.int 1))) (consL (cE (.int 5)) nilL))))) nilA))) (consL (callE1 M__law_pick 1 0 (ioA' 1 (consA (lstE (consL (cE (.str ("fill" : Str))) (consL (cE (.str ("middle" : Str))) nilL))) nilA))) nilL))) nilL) [x0, some d7, x2, some (.list (o.map .int)), some (.list (o.map .int)), some (.list (dsD ds)), some (.list (dsD ds2)), some (.int (at' : Int)), x8, x9, x10, x11, x12, x13, x14, x15, x16, x17, x18] = some (.list [dD ia wb], [x0, some d9, x2, some (.list (o.map .int)), some (.list (o.map .int)), some (.list (dsD ds)), some (.list (dsD ds2)), some (.int (at' : Int)), x8, x9, x10, x11, x12, x13, x14, x15, x16, x17, x18]) :=
      lst_ev (cl_ev (tup_ev (cl_ev p1 (cl_ev p2 rfl))) rfl)
    exact ad_ev (ad_ev (slhi_ev rfl rfl) pl (by simp only [List.length_take, List.length_cons, List.length_nil, dsD_len]; omega)) (sllo_ev (i := at' + 1) rfl rfl) (by simp only [List.length_append, List.length_take, List.length_drop, List.length_cons, List.length_nil, dsD_len]; omega)
  obtain ⟨fl, ρf, ef, qf⟩ := hF
  refine ⟨fl, ρf, ?_, qf⟩
  rw [← ef]
  refine seq_nx ?_
  exact (seq_nx (asg_ev g1)).trans ((seq_nx (asg_ev g2)).trans rfl)
end My

set_option pp.maxSteps 400
set_option Elab.async false
set_option linter.all false
set_option maxRecDepth 100000
set_option maxHeartbeats 4000000
namespace My
open PySem PySem.Spec L2 BV
theorem law_true (ns : List Int) (h : ns.length ≤ 63) : ∃ o, M_law [.list (ns.map .int)] = some (.bool true, o) := by
  obtain ⟨d0, hd0, o0, e0⟩ := draws_ok ns h
  have key : Post B_law [some (.list (ns.map .int)), none, none, none, none, none, none, none, none, none, none, none, none, none, none, none, none, none, none] (fun fl _ => fl = .rt (.bool true)) := by
    unfold B_law
    refine po_asg (c1_ev (io_ev rfl rfl) rfl rfl e0) ?_
    refine po_for (l := rgD 0 5) (I := fun ρ => ∃ x0 d x2 x3 x4 x5 x6 x7 x8 x9 x10 x11 x12 x13 x14 x15 x16 x17 x18, Dr d ∧ ρ = [x0, some d, x2, x3, x4, x5, x6, x7, x8, x9, x10, x11, x12, x13, x14, x15, x16, x17, x18]) (rg1_ev (j := 5) rfl ⟨by decide, by decide⟩) ⟨_, _, _, _, _, _, _, _, _, _, _, _, _, _, _, _, _, _, _, hd0, rfl⟩ ?_ ?_
    · rintro dd _ ρ ⟨x0, d, x2, x3, x4, x5, x6, x7, x8, x9, x10, x11, x12, x13, x14, x15, x16, x17, x18, hd, rfl⟩
      refine ⟨_, rfl, ?_⟩
      obtain ⟨fl, ρ', e, q1, d', y2, y3, y4, y5, y6, y7, y8, y9, y10, y11, y12, y13, y14, y15, y16, y17, y18, hd', rfl⟩ := law_body (x0 := x0) (x2 := some dd) (x3 := x3) (x4 := x4) (x5 := x5) (x6 := x6) (x7 := x7) (x8 := x8) (x9 := x9) (x10 := x10) (x11 := x11) (x12 := x12) (x13 := x13) (x14 := x14) (x15 := x15) (x16 := x16) (x17 := x17) (x18 := x18) hd
      exact ⟨fl, _, e, q1, _, _, _, _, _, _, _, _, _, _, _, _, _, _, _, _, _, _, _, hd', rfl⟩
    · rintro ρ ⟨x0, d, x2, x3, x4, x5, x6, x7, x8, x9, x10, x11, x12, x13, x14, x15, x16, x17, x18, hd, rfl⟩
      obtain ⟨r, d1, hd1, r0, r1, e1⟩ := next_ok (b := 4) hd (by decide)
      refine po_asg (d := .int (1 + r)) (ρ1 := [x0, some d1, x2, x3, x4, x5, x6, x7, x8, x9, x10, x11, x12, x13, x14, x15, x16, x17, x18]) (op_ev rfl (c1_to (io_ev rfl rfl) rfl rfl e1 rfl) rfl) ?_
      have hT := tail_ev (n := (1 + r).toNat) (x0 := x0) (x1 := some d1) (x2 := x2) (x3 := x3) (x4 := x4) (x5 := x5) (x6 := x6) (x7 := x7) (x8 := x8) (x10 := x10) (x11 := x11) (x12 := x12) (x13 := x13) (x14 := x14) (x15 := x15) (x16 := x16) (x17 := x17) (x18 := x18) (by omega)
      rw [Int.toNat_of_nonneg (by omega)] at hT
      exact hT
  obtain ⟨fl, ρ', e, rfl⟩ := key
  exact ⟨_, defM_rt e⟩
end My

set_option Elab.async false
set_option linter.all false
set_option maxRecDepth 100000
set_option maxHeartbeats 0
namespace My
open PySem PySem.Spec PyProof.Rows L2 BV
def fn : List He.DefD := [⟨("_law_draws", none), "_law_draws", "_law_draws", defArgs s__law_draws, defBody s__law_draws, defScope s__law_draws, [], []⟩, ⟨("_law_next", none), "_law_next", "_law_next", defArgs s__law_next, defBody s__law_next, defScope s__law_next, [], []⟩, ⟨("_law_order", none), "_law_order", "_law_order", defArgs s__law_order, defBody s__law_order, defScope s__law_order, [], []⟩, ⟨("_law_copy", none), "_law_copy", "_law_copy", defArgs s__law_copy, defBody s__law_copy, defScope s__law_copy, [], []⟩, ⟨("deeds_of", none), "deeds_of", "deeds_of", defArgs s_deeds_of, defBody s_deeds_of, defScope s_deeds_of, [], []⟩, ⟨("order_of_deeds", none), "order_of_deeds", "order_of_deeds", defArgs s_order_of_deeds, defBody s_order_of_deeds, defScope s_order_of_deeds, [], []⟩, ⟨("_law_same", none), "_law_same", "_law_same", defArgs s__law_same, defBody s__law_same, defScope s__law_same, [], []⟩, ⟨("_law_pick", none), "_law_pick", "_law_pick", defArgs s__law_pick, defBody s__law_pick, defScope s__law_pick, [], []⟩, ⟨("_law_deeds", none), "_law_deeds", "_law_deeds", defArgs s__law_deeds, defBody s__law_deeds, defScope s__law_deeds, [], []⟩, ⟨("_law_done", none), "_law_done", "_law_done", defArgs s__law_done, defBody s__law_done, defScope s__law_done, [], []⟩, ⟨("law", none), "law", "law", defArgs s_law, defBody s_law, defScope s_law, [], []⟩]
def fa : List He.Fa := [.glo "_law_draws", .glo "_law_next", .glo "_law_order", .glo "_law_copy", .glo "deeds_of", .glo "order_of_deeds", .glo "_law_same", .glo "_law_pick", .glo "_law_deeds", .glo "_law_done", .glo "law", .free "abs", .free "all", .free "bool", .free "dict", .free "int", .free "isinstance", .free "len", .free "list", .free "range", .free "set", .free "sorted", .free "str", .free "sum", .free "tuple"]
def dt : List (Str × D) := []
abbrev R : PySem.W.OpenRow := PySem.W.OpenLaw.row PySem.Challenge.rw_orderyards_k37_whole_deeds_that_make_ord
abbrev hk : PySem.W.Hook := hookB 6 fa fn dt
def ob (s : PySem.W.SharedT) : AlB := obsBG 6 fa fn dt (HandSHeadRun.getT s)
theorem ob_eq (s : PySem.W.SharedT) : ob s = hk.obs s.abs := obsBG_eq (HandSHeadRun.getT_eq s)
theorem run (w : World) : HandSHeadRun.RunEq R (PySem.W.view R.prog [12]) hk ob 3000 ["deeds_of", "order_of_deeds", "_law_draws", "_law_next", "_law_pick", "_law_same", "_law_copy", "_law_order", "_law_done", "_law_deeds"] w := by
  intro os
  kernel_rfl
theorem facts {P : Program} {w : World} {K : PySem.W.Frag} {h : Heap} {mg : Str → Option Value} {f : Addr} (X : K.In h) (G : h.Ns mainGlobals mg) (hfa : mg ("law" : Str) = some (.ref f)) (c : SaysB fa fn dt K) :
    ∃ fd : FuncData, (∀ (s : Shared) (v : Value), BindsTo s fd ⟨[v], []⟩ [("script", v)]) ∧ ∀ base : Heap, K.In base → base.Ns mainGlobals mg → FnOk P w K mg base CX0 7 f fd ["script"] (spV K [.scr] .val M_law) := by
  have T : Tx K mg := ⟨c.free X G 11, c.free X G 12, c.free X G 13, c.free X G 14, c.free X G 15, c.free X G 16, c.free X G 17, c.free X G 18, c.free X G 19, c.free X G 20, c.free X G 21, c.free X G 22, c.free X G 23, c.free X G 24⟩
  have F__law_draws : DefIn K mg "_law_draws" s__law_draws := c.fn X G 0 0
  have F__law_next : DefIn K mg "_law_next" s__law_next := c.fn X G 1 1
  have F__law_order : DefIn K mg "_law_order" s__law_order := c.fn X G 2 2
  have F__law_copy : DefIn K mg "_law_copy" s__law_copy := c.fn X G 3 3
  have F_deeds_of : DefIn K mg "deeds_of" s_deeds_of := c.fn X G 4 4
  have F_order_of_deeds : DefIn K mg "order_of_deeds" s_order_of_deeds := c.fn X G 5 5
  have F__law_same : DefIn K mg "_law_same" s__law_same := c.fn X G 6 6
  have F__law_pick : DefIn K mg "_law_pick" s__law_pick := c.fn X G 7 7
  have F__law_deeds : DefIn K mg "_law_deeds" s__law_deeds := c.fn X G 8 8
  have F__law_done : DefIn K mg "_law_done" s__law_done := c.fn X G 9 9
  have F_law : DefIn K mg "law" s_law := c.fn X G 10 10
  exact facts_end (h := h) F_law bd_law hfa fun base h1 h2 => ok_all T F__law_draws F__law_next F__law_order F__law_copy F_deeds_of F_order_of_deeds F__law_same F__law_pick F__law_deeds F__law_done F_law
end My

set_option Elab.async false
set_option linter.all false
set_option maxRecDepth 100000
set_option maxHeartbeats 0
open PySem PySem.W PySem.Calls PyProof.Rows
theorem PySem.Challenge.cw_orderyards_k37_whole_deeds_that_make_ord_holds : PySem.Challenge.rw_orderyards_k37_whole_deeds_that_make_ord.Holds := by
  w_on; o_law
  refine HandSHeadRun.head_any (r := OpenLaw.row PySem.Challenge.rw_orderyards_k37_whole_deeds_that_make_ord) (q := view (OpenLaw.row PySem.Challenge.rw_orderyards_k37_whole_deeds_that_make_ord).prog [12]) (H := My.hk) (ob := My.ob) (M := 3000) (loose := ["deeds_of", "order_of_deeds", "_law_draws", "_law_next", "_law_pick", "_law_same", "_law_copy", "_law_order", "_law_done", "_law_deeds"]) (d := HandSHeadRun.topDef (OpenLaw.row PySem.Challenge.rw_orderyards_k37_whole_deeds_that_make_ord).prog 12) (kwd := []) My.ob_eq
    (by kernel_rfl) (fun s => by kernel_rfl) My.run (by kernel_rfl) (by kernel_rfl) (by kernel_rfl) (by rfl) (by first | assumption | decide +kernel) (by decide +kernel) ⟨rfl, rfl, rfl, rfl, rfl, by decide +kernel⟩ ?hw ?hc
  case hw => w_witness2
  case hc =>
    refine L2.walk_ofE (l := PySem.Challenge.rw_orderyards_k37_whole_deeds_that_make_ord) (n := 63) (k := 7) (x := "script") (CX := L2.CX0) rfl (by decide) (by kernel_rfl) ⟨rfl, by decide, by decide⟩ ?F (fun _ _ _ _ z => z)
    intro w mg fa h Y G hmg0
    obtain ⟨K, KX, c⟩ := Y
    have hmg : mg ("law" : PySem.Str) = some (.ref fa) := by
      have e : (HandSHeadRun.topDef (OpenLaw.row PySem.Challenge.rw_orderyards_k37_whole_deeds_that_make_ord).prog 12).name = ("law" : PySem.Str) := by kernel_rfl
      rw [← e]
      exact hmg0
    obtain ⟨fd, hb, hF⟩ := My.facts (P := (PySem.Challenge.rw_orderyards_k37_whole_deeds_that_make_ord).prog) (w := w) KX G hmg c
    exact ⟨K, fd, _, KX, hb, fun H a ns hl _ hS => BV.law_sp My.law_true H a ns hl hS, hF⟩
