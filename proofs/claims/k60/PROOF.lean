import PyProof.Rows.All
import Wide.All
import OpenK.AllK
import Wide.FinOn
import HandS.ForMost
import HandS.Exc
import HandS.ExcOwn
import HandS.TryOnly
import HandS.WordsExc
import HandS.Defaults
import HandS.HeadHook1
import HandS.HeadHook2
import HandS.IsInst
import HandS.Wide
import HandS.WideBits
import HandS.Conv
import HandS.Style
import HandS.CallSlots
import HandS.TupLe
import HandS.TupAny
import HandS.Dict
import HandS.More
import HandS.Iter
import HandS.Comp
import HandS.Flow
import KE.KStateDown
import HandS.Ends
import HandS.Head0
import HandS.Head1
import HandS.Head2
import HandS.HeadEnd
import PySem.Challenge.RW_askewread_k60_numbers_that_tell_all
import KE.BitLaws
import HandS.Text
import HandS.Base
import HandS.Call
import HandS.Words
import Lean
set_option Elab.async false
set_option linter.all false
set_option maxRecDepth 100000
set_option maxHeartbeats 0
/-! The data layer, part 0: values as plain data, the heap hidden. -/
namespace Dl
open PySem L2

inductive D where
  | non | bl (b : Bool) | int (i : Int) | str (x : Str) | lst (ds : List D) | tup (ds : List D) | dct (kvs : List (Key × D)) | frz (ns : List Int) | raw (v : V)

mutual
def Is (K : PySem.W.Frag) (H : Hp) : D → V → Prop
  | .non, v => v = .non
  | .bl b, v => v = .bl b
  | .int i, v => v = .int i
  | .str x, v => v = .str x
  | .lst ds, v => ∃ a xs, v = .ref a ∧ H a = some (.lst xs) ∧ IsL K H ds xs
  | .tup ds, v => ∃ a xs, v = .ref a ∧ SqT K H a xs ∧ IsL K H ds xs
  | .dct kvs, v => ∃ a ws, v = .ref a ∧ Rd H a (.dK ws) ∧ IsK K H kvs ws
  | .frz ns, v => ∃ a, v = .ref a ∧ SqL K H a (ns.map V.int)
  | .raw u, v => v = u
def IsL (K : PySem.W.Frag) (H : Hp) : List D → List V → Prop
  | [], xs => xs = []
  | d :: ds, xs => ∃ y ys, xs = y :: ys ∧ Is K H d y ∧ IsL K H ds ys
def IsK (K : PySem.W.Frag) (H : Hp) : List (Key × D) → List (Key × V) → Prop
  | [], ws => ws = []
  | p :: ps, ws => ∃ y ys, ws = y :: ys ∧ IsP K H p y ∧ IsK K H ps ys
def IsP (K : PySem.W.Frag) (H : Hp) : Key × D → Key × V → Prop
  | (k, d), q => q.1 = k ∧ Is K H d q.2
end

/-! ### heaps -/
theorem _root_.L2.Same.rfl' (H : Hp) : Same H H := fun _ _ h => h
theorem _root_.L2.Same.tr {A B C : Hp} (a : Same A B) (b : Same B C) : Same A C := fun x o h => b x o (a x o h)
theorem _root_.L2.Same.add {H : Hp} {p : Addr} {o : HO} (h : H p = none) : Same H (upd H p o) := fun a u e => by
  rw [upd_ne (ne_of_none e h)]; exact e
theorem _root_.L2.Same.back {H H' : Hp} {p : Addr} (s : Same H H') (h : H' p = none) : H p = none := by
  cases e : H p with
  | none => rfl
  | some o => rw [s p o e] at h; cases h
theorem rd_mono {H H' : Hp} {a : Addr} {u : HO} (s : Same H H') (h : Rd H a u) : Rd H' a u := by
  rcases h with h | ⟨o, h⟩
  · exact .inl (s _ _ h)
  · exact .inr ⟨o, s _ _ h⟩
theorem sql_mono {K : PySem.W.Frag} {H H' : Hp} {a : Addr} {xs : List V} (s : Same H H') (h : SqL K H a xs) : SqL K H' a xs := by
  rcases h with h | h
  · exact .inl (rd_mono s h)
  · exact .inr h
theorem sqt_mono {K : PySem.W.Frag} {H H' : Hp} {a : Addr} {xs : List V} (s : Same H H') (h : SqT K H a xs) : SqT K H' a xs := by
  rcases h with h | h
  · exact .inl (rd_mono s h)
  · exact .inr h

/-- lists stand, all else may be read as before (a dict may be locked, unlocked) -/
structure Le1 (H H' : Hp) (a : Addr) : Prop where
  l : ∀ xs, H a = some (.lst xs) → H' a = some (.lst xs)
  rl : ∀ xs, Rd H a (.lst xs) → Rd H' a (.lst xs)
  rt : ∀ xs, Rd H a (.tup xs) → Rd H' a (.tup xs)
  rd : ∀ ws, Rd H a (.dK ws) → Rd H' a (.dK ws)
def Le (H H' : Hp) : Prop := ∀ a, Le1 H H' a
theorem _root_.L2.Same.le {H H' : Hp} (s : Same H H') : Le H H' := fun a => ⟨fun _ h => s _ _ h, fun _ h => rd_mono s h, fun _ h => rd_mono s h, fun _ h => rd_mono s h⟩
theorem sql_le {K : PySem.W.Frag} {H H' : Hp} {a : Addr} {xs : List V} (s : Le H H') (h : SqL K H a xs) : SqL K H' a xs := by
  rcases h with h | h
  · exact .inl ((s a).rl _ h)
  · exact .inr h
theorem sqt_le {K : PySem.W.Frag} {H H' : Hp} {a : Addr} {xs : List V} (s : Le H H') (h : SqT K H a xs) : SqT K H' a xs := by
  rcases h with h | h
  · exact .inl ((s a).rt _ h)
  · exact .inr h
mutual
theorem Is.le {K : PySem.W.Frag} {H H' : Hp} (s : Le H H') : ∀ (d : D) {v : V}, Is K H d v → Is K H' d v
  | .non, _, h => h
  | .bl _, _, h => h
  | .int _, _, h => h
  | .str _, _, h => h
  | .lst ds, _, h => by
    obtain ⟨a, xs, e, h1, h2⟩ := h
    exact ⟨a, xs, e, (s a).l _ h1, IsL.le s ds h2⟩
  | .tup ds, _, h => by
    obtain ⟨a, xs, e, h1, h2⟩ := h
    exact ⟨a, xs, e, sqt_le s h1, IsL.le s ds h2⟩
  | .dct ps, _, h => by
    obtain ⟨a, xs, e, h1, h2⟩ := h
    exact ⟨a, xs, e, (s a).rd _ h1, IsK.le s ps h2⟩
  | .frz ns, _, h => by
    obtain ⟨a, e, h1⟩ := h
    exact ⟨a, e, sql_le s h1⟩
  | .raw _, _, h => h
theorem IsL.le {K : PySem.W.Frag} {H H' : Hp} (s : Le H H') : ∀ (ds : List D) {xs : List V}, IsL K H ds xs → IsL K H' ds xs
  | [], _, h => h
  | d :: ds, _, h => by
    obtain ⟨y, ys, e, h1, h2⟩ := h
    exact ⟨y, ys, e, Is.le s d h1, IsL.le s ds h2⟩
theorem IsK.le {K : PySem.W.Frag} {H H' : Hp} (s : Le H H') : ∀ (ds : List (Key × D)) {xs : List (Key × V)}, IsK K H ds xs → IsK K H' ds xs
  | [], _, h => h
  | d :: ds, _, h => by
    obtain ⟨y, ys, e, h1, h2⟩ := h
    exact ⟨y, ys, e, IsP.le s d h1, IsK.le s ds h2⟩
theorem IsP.le {K : PySem.W.Frag} {H H' : Hp} (s : Le H H') : ∀ (d : Key × D) {x : Key × V}, IsP K H d x → IsP K H' d x
  | (k, d), _, h => ⟨h.1, Is.le s d h.2⟩
end
theorem Is.mono {K : PySem.W.Frag} {H H' : Hp} (s : Same H H') {d : D} {v : V} (h : Is K H d v) : Is K H' d v := Is.le s.le d h
theorem IsL.mono {K : PySem.W.Frag} {H H' : Hp} (s : Same H H') {ds : List D} {xs : List V} (h : IsL K H ds xs) : IsL K H' ds xs := IsL.le s.le ds h
theorem IsK.mono {K : PySem.W.Frag} {H H' : Hp} (s : Same H H') {ds : List (Key × D)} {xs : List (Key × V)} (h : IsK K H ds xs) : IsK K H' ds xs := IsK.le s.le ds h

/-! ### lists of data -/
theorem IsL.length {K : PySem.W.Frag} {H : Hp} : ∀ {ds : List D} {xs : List V}, IsL K H ds xs → ds.length = xs.length
  | [], _, h => by cases (show _ = [] from h); rfl
  | d :: ds, _, h => by
    obtain ⟨y, ys, rfl, _, h2⟩ := h
    simp [IsL.length h2]
theorem IsL.get {K : PySem.W.Frag} {H : Hp} : ∀ {ds : List D} {xs : List V} {i : Nat} {d : D}, IsL K H ds xs → ds[i]? = some d → ∃ x, xs[i]? = some x ∧ Is K H d x
  | [], _, i, d, _, e => by simp at e
  | d' :: ds, _, 0, d, h, e => by
    obtain ⟨y, ys, rfl, h1, h2⟩ := h
    simp at e; subst e
    exact ⟨y, rfl, h1⟩
  | d' :: ds, _, i + 1, d, h, e => by
    obtain ⟨y, ys, rfl, h1, h2⟩ := h
    obtain ⟨x, hx, ix⟩ := IsL.get (i := i) (d := d) h2 (by simpa using e)
    exact ⟨x, by simpa using hx, ix⟩
theorem IsL.get' {K : PySem.W.Frag} {H : Hp} {ds : List D} {xs : List V} {i : Nat} {x : V} (h : IsL K H ds xs) (e : xs[i]? = some x) : ∃ d, ds[i]? = some d ∧ Is K H d x := by
  have l := h.length
  obtain ⟨hi, rfl⟩ := List.getElem?_eq_some_iff.mp e
  have hd : ds[i]? = some ds[i] := List.getElem?_eq_getElem (by omega)
  obtain ⟨y, hy, iy⟩ := h.get hd
  rw [e] at hy; cases hy
  exact ⟨_, hd, iy⟩
theorem isl_nil {K : PySem.W.Frag} {H : Hp} : IsL K H [] [] := rfl
theorem isl_cons {K : PySem.W.Frag} {H : Hp} {d : D} {ds : List D} {x : V} {xs : List V} (h : Is K H d x) (t : IsL K H ds xs) : IsL K H (d :: ds) (x :: xs) := ⟨x, xs, rfl, h, t⟩
theorem IsL.append {K : PySem.W.Frag} {H : Hp} : ∀ {ds es : List D} {xs ys : List V}, IsL K H ds xs → IsL K H es ys → IsL K H (ds ++ es) (xs ++ ys)
  | [], _, _, _, h, h' => by cases (show _ = [] from h); exact h'
  | d :: ds, _, _, _, h, h' => by
    obtain ⟨y, ys, rfl, h1, h2⟩ := h
    exact isl_cons h1 (IsL.append h2 h')
theorem IsL.take {K : PySem.W.Frag} {H : Hp} : ∀ (n : Nat) {ds : List D} {xs : List V}, IsL K H ds xs → IsL K H (ds.take n) (xs.take n)
  | 0, _, _, _ => by simpa using isl_nil
  | n + 1, [], _, h => by cases (show _ = [] from h); exact isl_nil
  | n + 1, d :: ds, _, h => by
    obtain ⟨y, ys, rfl, h1, h2⟩ := h
    exact isl_cons h1 (IsL.take n h2)
theorem IsL.drop {K : PySem.W.Frag} {H : Hp} : ∀ (n : Nat) {ds : List D} {xs : List V}, IsL K H ds xs → IsL K H (ds.drop n) (xs.drop n)
  | 0, _, _, h => h
  | n + 1, [], _, h => by cases (show _ = [] from h); exact isl_nil
  | n + 1, d :: ds, _, h => by
    obtain ⟨y, ys, rfl, h1, h2⟩ := h
    exact IsL.drop n h2
theorem IsL.set {K : PySem.W.Frag} {H : Hp} {d : D} {x : V} (hd : Is K H d x) : ∀ (i : Nat) {ds : List D} {xs : List V}, IsL K H ds xs → IsL K H (ds.set i d) (xs.set i x)
  | _, [], _, h => by cases (show _ = [] from h); exact isl_nil
  | 0, e :: ds, _, h => by
    obtain ⟨y, ys, rfl, h1, h2⟩ := h
    exact isl_cons hd h2
  | i + 1, e :: ds, _, h => by
    obtain ⟨y, ys, rfl, h1, h2⟩ := h
    exact isl_cons h1 (IsL.set hd i h2)
theorem isl_ints {K : PySem.W.Frag} {H : Hp} : ∀ {ns : List Int} {xs : List V}, IsL K H (ns.map D.int) xs ↔ xs = ns.map V.int
  | [], xs => Iff.rfl
  | n :: ns, xs => by
    constructor
    · rintro ⟨y, ys, rfl, h1, h2⟩
      rw [isl_ints.mp h2, (show y = .int n from h1)]; rfl
    · rintro rfl
      exact ⟨_, _, rfl, rfl, isl_ints.mpr rfl⟩

/-! ### data without lists: they need no list of the heap -/
mutual
def flat : D → Bool
  | .lst _ => false
  | .dct _ => false
  | .frz _ => false
  | .tup ds => flatL ds
  | _ => true
def flatL : List D → Bool
  | [] => true
  | d :: ds => flat d && flatL ds
end
/-- of H' all tuples stand in H -/
def TupsIn (H H' : Hp) : Prop := ∀ a xs, Rd H a (.tup xs) → Rd H' a (.tup xs)
mutual
theorem Is.flat {K : PySem.W.Frag} {H H' : Hp} (t : TupsIn H H') : ∀ (d : D) {v : V}, Dl.flat d = true → Is K H d v → Is K H' d v
  | .non, _, _, h => h
  | .bl _, _, _, h => h
  | .int _, _, _, h => h
  | .str _, _, _, h => h
  | .lst ds, _, f, h => by cases f
  | .tup ds, _, f, h => by
    obtain ⟨a, xs, e, h1, h2⟩ := h
    refine ⟨a, xs, e, ?_, IsL.flat t ds f h2⟩
    rcases h1 with h1 | h1
    · exact .inl (t _ _ h1)
    · exact .inr h1
  | .dct ps, _, f, h => by cases f
  | .frz ns, _, f, h => by cases f
  | .raw _, _, _, h => h
theorem IsL.flat {K : PySem.W.Frag} {H H' : Hp} (t : TupsIn H H') : ∀ (ds : List D) {xs : List V}, Dl.flatL ds = true → IsL K H ds xs → IsL K H' ds xs
  | [], _, _, h => h
  | d :: ds, _, f, h => by
    obtain ⟨y, ys, e, h1, h2⟩ := h
    have f' : (Dl.flat d && flatL ds) = true := f
    rw [Bool.and_eq_true] at f'
    exact ⟨y, ys, e, Is.flat t d f'.1 h1, IsL.flat t ds f'.2 h2⟩
end

/-! ### a part of the heap hidden -/
noncomputable def mask (H : Hp) (P : Addr → Prop) : Hp := fun a => @ite _ (P a) (Classical.propDecidable _) none (H a)
theorem mask_hid {H : Hp} {P : Addr → Prop} {a : Addr} (h : P a) : mask H P a = none := by unfold mask; rw [if_pos h]
theorem mask_seen {H : Hp} {P : Addr → Prop} {a : Addr} (h : ¬ P a) : mask H P a = H a := by unfold mask; rw [if_neg h]
theorem mask_some {H : Hp} {P : Addr → Prop} {a : Addr} {o : HO} : mask H P a = some o ↔ ¬ P a ∧ H a = some o := by
  by_cases h : P a
  · rw [mask_hid h]; simp [h]
  · rw [mask_seen h]; simp [h]
theorem mask_same {H H' : Hp} {P Q : Addr → Prop} (s : Same H H') (h : ∀ a o, H a = some o → Q a → P a) : Same (mask H P) (mask H' Q) := fun a o e => by
  obtain ⟨n, e⟩ := mask_some.mp e
  exact mask_some.mpr ⟨fun q => n (h a o e q), s _ _ e⟩
theorem mask_le (H : Hp) (P : Addr → Prop) : Same (mask H P) H := fun a o e => (mask_some.mp e).2
theorem mask_mask {H : Hp} {P Q : Addr → Prop} : mask (mask H P) Q = mask H (fun a => Q a ∨ P a) := by
  funext a
  by_cases q : Q a
  · rw [mask_hid q, mask_hid (Or.inl q)]
  · rw [mask_seen q]
    by_cases p : P a
    · rw [mask_hid p, mask_hid (Or.inr p)]
    · rw [mask_seen p, mask_seen (by rintro (z | z); exact q z; exact p z)]

/-! ### an own list, an own dict -/
def OwnIs (K : PySem.W.Frag) (H M : Hp) (a : Addr) : D → Prop
  | .lst ds => ∃ xs, H a = some (.lst xs) ∧ IsL K M ds xs
  | .dct kvs => ∃ ws, H a = some (.dK ws) ∧ IsK K M kvs ws
  | _ => False
theorem OwnIs.there {K : PySem.W.Frag} {H M : Hp} {a : Addr} : ∀ {d : D}, OwnIs K H M a d → ∃ o, H a = some o
  | .lst ds, ⟨xs, h, _⟩ => ⟨_, h⟩
  | .dct ds, ⟨xs, h, _⟩ => ⟨_, h⟩
  | .non, h => h.elim
  | .bl _, h => h.elim
  | .int _, h => h.elim
  | .str _, h => h.elim
  | .tup _, h => h.elim
  | .frz _, h => h.elim
  | .raw _, h => h.elim
theorem OwnIs.mono {K : PySem.W.Frag} {H M H' M' : Hp} {a : Addr} (e : H' a = H a) (s : Same M M') : ∀ {d : D}, OwnIs K H M a d → OwnIs K H' M' a d
  | .lst ds, ⟨xs, h, r⟩ => ⟨xs, e.trans h, r.mono s⟩
  | .dct ds, ⟨xs, h, r⟩ => ⟨xs, e.trans h, r.mono s⟩
  | .non, h => h.elim
  | .bl _, h => h.elim
  | .int _, h => h.elim
  | .str _, h => h.elim
  | .tup _, h => h.elim
  | .frz _, h => h.elim
  | .raw _, h => h.elim
/-- shared from now on -/
theorem OwnIs.is {K : PySem.W.Frag} {H M H' : Hp} {a : Addr} (e : ∀ o, H a = some o → H' a = some o) (s : Same M H') : ∀ {d : D}, OwnIs K H M a d → Is K H' d (.ref a)
  | .lst ds, ⟨xs, h, r⟩ => ⟨a, xs, rfl, e _ h, r.mono s⟩
  | .dct ds, ⟨xs, h, r⟩ => ⟨a, xs, rfl, .inl (e _ h), r.mono s⟩
  | .non, h => h.elim
  | .bl _, h => h.elim
  | .int _, h => h.elim
  | .str _, h => h.elim
  | .tup _, h => h.elim
  | .frz _, h => h.elim
  | .raw _, h => h.elim

/-! ### the slots: their data; which are own -/
abbrev En := List (Option D)
def ownAt (ω : List Nat) (ρ : En) (σ : L2.St) (a : Addr) : Prop := ∃ i d, i ∈ ω ∧ ρ[i]? = some (some d) ∧ σ[i]? = some (some (.ref a))
def hid (P : Addr → Prop) (ω : List Nat) (ρ : En) (σ : L2.St) (a : Addr) : Prop := P a ∨ ownAt ω ρ σ a
structure EnvOk (K : PySem.W.Frag) (P : Addr → Prop) (H0 H : Hp) (ω : List Nat) (σ : L2.St) (ρ : En) : Prop where
  len : ρ.length = σ.length
  sh : ∀ i d, ρ[i]? = some (some d) → i ∉ ω → ∃ v, σ[i]? = some (some v) ∧ Is K (mask H (hid P ω ρ σ)) d v
  ow : ∀ i d, ρ[i]? = some (some d) → i ∈ ω → ∃ a, σ[i]? = some (some (.ref a)) ∧ OwnIs K H (mask H (hid P ω ρ σ)) a d ∧ H0 a = none
  inj : ∀ i j d e a, i ∈ ω → j ∈ ω → ρ[i]? = some (some d) → ρ[j]? = some (some e) → σ[i]? = some (some (.ref a)) → σ[j]? = some (some (.ref a)) → i = j
  base : Same H0 (mask H (ownAt ω ρ σ))
  pin : ∀ a, P a → ∃ o, H0 a = some o
section
variable {K : PySem.W.Frag} {P : Addr → Prop} {H0 H H' : Hp} {ω ω' : List Nat} {σ : L2.St} {ρ : En}
theorem EnvOk.same (I : EnvOk K P H0 H ω σ ρ) : Same H0 H := I.base.tr (mask_le _ _)
theorem EnvOk.own (I : EnvOk K P H0 H ω σ ρ) {a : Addr} (h : ownAt ω ρ σ a) : (∃ o, H a = some o) ∧ H0 a = none := by
  obtain ⟨i, d, hi, hr, hs⟩ := h
  obtain ⟨b, hb, o, n⟩ := I.ow i d hr hi
  rw [hs] at hb; cases hb
  exact ⟨o.there, n⟩
theorem EnvOk.dom (I : EnvOk K P H0 H ω σ ρ) {a : Addr} (h : hid P ω ρ σ a) : ∃ o, H a = some o := by
  rcases h with h | h
  · obtain ⟨o, e⟩ := I.pin a h; exact ⟨o, I.same _ _ e⟩
  · exact (I.own h).1
theorem EnvOk.apart (I : EnvOk K P H0 H ω σ ρ) {a : Addr} (h : ownAt ω ρ σ a) : ¬ P a := fun p => by
  obtain ⟨o, e⟩ := I.pin a p
  rw [(I.own h).2] at e; cases e
theorem EnvOk.new (I : EnvOk K P H0 H ω σ ρ) {a : Addr} (h : H a = none) : ¬ hid P ω ρ σ a := fun z => by
  obtain ⟨o, e⟩ := I.dom z
  rw [h] at e; cases e
theorem EnvOk.mono (I : EnvOk K P H0 H ω σ ρ) (s : Same H H') : EnvOk K P H0 H' ω σ ρ where
  len := I.len
  sh := fun i d h n => by
    obtain ⟨v, e, r⟩ := I.sh i d h n
    exact ⟨v, e, r.mono (mask_same s fun _ _ _ z => z)⟩
  ow := fun i d h n => by
    obtain ⟨a, e, r, z⟩ := I.ow i d h n
    obtain ⟨o, eo⟩ := r.there
    exact ⟨a, e, r.mono ((s _ _ eo).trans eo.symm) (mask_same s fun _ _ _ z => z), z⟩
  inj := I.inj
  base := I.base.tr (mask_same s fun _ _ _ z => z)
  pin := I.pin
/-- less is own -/
theorem EnvOk.weak (I : EnvOk K P H0 H ω σ ρ) (h : ∀ i ∈ ω', i ∈ ω) : EnvOk K P H0 H ω' σ ρ := by
  have ho : ∀ a, ownAt ω' ρ σ a → ownAt ω ρ σ a := fun a ⟨i, d, hi, r⟩ => ⟨i, d, h i hi, r⟩
  have hm : Same (mask H (hid P ω ρ σ)) (mask H (hid P ω' ρ σ)) := mask_same (Same.rfl' _) fun a o _ z => z.elim .inl fun z => .inr (ho a z)
  refine ⟨I.len, fun i d hr n => ?_, fun i d hr hi => ?_, fun i j d e a hi hj => I.inj i j d e a (h i hi) (h j hj), I.base.tr (mask_same (Same.rfl' _) fun a o _ z => ho a z), I.pin⟩
  · by_cases hi : i ∈ ω
    · obtain ⟨a, e, r, z⟩ := I.ow i d hr hi
      refine ⟨.ref a, e, r.is (fun o eo => mask_some.mpr ⟨?_, eo⟩) hm⟩
      rintro (p | ⟨j, d', hj, hrj, hsj⟩)
      · exact I.apart ⟨i, d, hi, hr, e⟩ p
      · exact n (I.inj i j d d' a hi (h j hj) hr hrj e hsj ▸ hj)
    · obtain ⟨v, e, r⟩ := I.sh i d hr hi
      exact ⟨v, e, r.mono hm⟩
  · obtain ⟨a, e, r, z⟩ := I.ow i d hr (h i hi)
    exact ⟨a, e, r.mono rfl hm, z⟩
/-- over another base -/
theorem EnvOk.rebase {B : Hp} (I : EnvOk K P B H ω σ ρ) (s : Same H0 B) (p : ∀ a, P a → ∃ o, H0 a = some o) : EnvOk K P H0 H ω σ ρ :=
  ⟨I.len, I.sh, fun i d h n => by obtain ⟨a, e, r, z⟩ := I.ow i d h n; exact ⟨a, e, r, s.back z⟩, I.inj, s.tr I.base, p⟩
/-- the heap as it is, for a base -/
theorem EnvOk.here (I : EnvOk K P H0 H ω σ ρ) : EnvOk K P (mask H (ownAt ω ρ σ)) H ω σ ρ :=
  ⟨I.len, I.sh, fun i d h n => by obtain ⟨a, e, r, z⟩ := I.ow i d h n; exact ⟨a, e, r, mask_hid ⟨i, d, n, h, e⟩⟩, I.inj, Same.rfl' _, fun a h => by obtain ⟨o, e⟩ := I.pin a h; exact ⟨o, I.base _ _ e⟩⟩
/-- a slot gets a shared value -/
theorem EnvOk.set (I : EnvOk K P H0 H ω σ ρ) {i : Nat} {d : D} {v : V} (hi : i ∉ ω') (hw : ∀ j ∈ ω', j ∈ ω) (h : Is K (mask H (hid P ω ρ σ)) d v) : EnvOk K P H0 H ω' (σ.set i (some v)) (ρ.set i (some d)) := by
  have J := I.weak hw
  have ne : ∀ j, j ∈ ω' → i ≠ j := fun j hj e => hi (e ▸ hj)
  have ho : ∀ a, ownAt ω' (ρ.set i (some d)) (σ.set i (some v)) a ↔ ownAt ω' ρ σ a := fun a => by
    constructor
    · rintro ⟨j, e, hj, h1, h2⟩
      rw [List.getElem?_set_ne (ne j hj)] at h1 h2
      exact ⟨j, e, hj, h1, h2⟩
    · rintro ⟨j, e, hj, h1, h2⟩
      exact ⟨j, e, hj, by rw [List.getElem?_set_ne (ne j hj)]; exact h1, by rw [List.getElem?_set_ne (ne j hj)]; exact h2⟩
  have eo : ownAt ω' (ρ.set i (some d)) (σ.set i (some v)) = ownAt ω' ρ σ := funext fun a => propext (ho a)
  have eh : hid P ω' (ρ.set i (some d)) (σ.set i (some v)) = hid P ω' ρ σ := by unfold hid; rw [eo]
  have hm : Same (mask H (hid P ω ρ σ)) (mask H (hid P ω' ρ σ)) := mask_same (Same.rfl' _) fun a o _ z => z.elim .inl fun ⟨j, e, hj, r⟩ => .inr ⟨j, e, hw j hj, r⟩
  refine ⟨by simp [I.len], fun j e hr n => ?_, fun j e hr hj => ?_, fun j k e f a hj hk h1 h2 h3 h4 => ?_, by rw [eo]; exact J.base, I.pin⟩
  · rw [eh]
    by_cases q : i = j
    · subst q
      have hl : i < ρ.length := by
        by_cases hl : i < ρ.length
        · exact hl
        · rw [List.getElem?_eq_none (by simpa using hl)] at hr; cases hr
      rw [List.getElem?_set_self hl] at hr
      cases hr
      exact ⟨v, by rw [List.getElem?_set_self (by rw [← I.len]; exact hl)], h.mono hm⟩
    · rw [List.getElem?_set_ne q] at hr ⊢
      exact J.sh j e hr n
  · rw [eh]
    rw [List.getElem?_set_ne (ne j hj)] at hr ⊢
    exact J.ow j e hr hj
  · rw [List.getElem?_set_ne (ne j hj)] at h1 h3
    rw [List.getElem?_set_ne (ne k hk)] at h2 h4
    exact J.inj j k e f a hj hk h1 h2 h3 h4
/-- a slot is forgotten -/
theorem EnvOk.unset (I : EnvOk K P H0 H ω σ ρ) {i : Nat} (x : Option V) (hi : i ∉ ω) : EnvOk K P H0 H ω (σ.set i x) (ρ.set i none) := by
  have ne : ∀ j, j ∈ ω → i ≠ j := fun j hj e => hi (e ▸ hj)
  have ho : ∀ a, ownAt ω (ρ.set i none) (σ.set i x) a ↔ ownAt ω ρ σ a := fun a => by
    constructor
    · rintro ⟨j, e, hj, h1, h2⟩
      rw [List.getElem?_set_ne (ne j hj)] at h1 h2
      exact ⟨j, e, hj, h1, h2⟩
    · rintro ⟨j, e, hj, h1, h2⟩
      exact ⟨j, e, hj, by rw [List.getElem?_set_ne (ne j hj)]; exact h1, by rw [List.getElem?_set_ne (ne j hj)]; exact h2⟩
  have eo : ownAt ω (ρ.set i none) (σ.set i x) = ownAt ω ρ σ := funext fun a => propext (ho a)
  have eh : hid P ω (ρ.set i none) (σ.set i x) = hid P ω ρ σ := by unfold hid; rw [eo]
  refine ⟨by simp [I.len], fun j e hr n => ?_, fun j e hr hj => ?_, fun j k e f a hj hk h1 h2 h3 h4 => ?_, by rw [eo]; exact I.base, I.pin⟩
  · rw [eh]
    by_cases q : i = j
    · subst q
      by_cases hl : i < ρ.length
      · rw [List.getElem?_set_self hl] at hr; cases hr
      · rw [List.getElem?_eq_none (by simpa using hl)] at hr; cases hr
    · rw [List.getElem?_set_ne q] at hr ⊢
      exact I.sh j e hr n
  · rw [eh]
    rw [List.getElem?_set_ne (ne j hj)] at hr ⊢
    exact I.ow j e hr hj
  · rw [List.getElem?_set_ne (ne j hj)] at h1 h3
    rw [List.getElem?_set_ne (ne k hk)] at h2 h4
    exact I.inj j k e f a hj hk h1 h2 h3 h4
end
end Dl

/-! The data layer, part 1: results, expressions. -/
namespace Dl
open PySem L2

structure ExV where
  cls : Str
  fld : Option (Str × D)
inductive Res (α : Type) where
  | ok (a : α) | exc (x : ExV) | bad
def Res.bind {α β : Type} : Res α → (α → Res β) → Res β
  | .ok a, g => g a
  | .exc x, _ => .exc x
  | .bad, _ => .bad
@[simp] theorem Res.bind_ok {α β : Type} (a : α) (g : α → Res β) : (Res.ok a).bind g = g a := rfl
@[simp] theorem Res.bind_exc {α β : Type} (x : ExV) (g : α → Res β) : (Res.exc x : Res α).bind g = .exc x := rfl
@[simp] theorem Res.bind_bad {α β : Type} (g : α → Res β) : (Res.bad : Res α).bind g = .bad := rfl
def Res.ofO {α : Type} : Option α → Res α
  | some a => .ok a
  | none => .bad
@[simp] theorem Res.ofO_some {α : Type} (a : α) : Res.ofO (some a) = .ok a := rfl
@[simp] theorem Res.ofO_none {α : Type} : Res.ofO (none : Option α) = .bad := rfl

def ExIs (K : PySem.W.Frag) (H : Hp) (x : ExV) (c : Value) (d : Option Addr) : Prop := c = .ref (He.ga K x.cls) ∧
  match x.fld with
  | none => d = none
  | some (f, e) => ∃ p v, d = some p ∧ H p = some (.xd [(f, v)]) ∧ flat e = true ∧ Is K H e v
theorem ExIs.mono {K : PySem.W.Frag} {H H' : Hp} (s : Same H H') {x : ExV} {c : Value} {d : Option Addr} (h : ExIs K H x c d) : ExIs K H' x c d := by
  obtain ⟨cl, fl⟩ := x
  refine ⟨h.1, ?_⟩
  have h2 := h.2
  cases fl with
  | none => exact h2
  | some q =>
    obtain ⟨p, v, e, hp, fe, i⟩ := h2
    exact ⟨p, v, e, s _ _ hp, fe, i.mono s⟩

/-! ### what a reading leads to -/
/-- what is hidden: the callers', the own -/
abbrev Hd := (Addr → Prop) × (Addr → Prop)
def Hd.hid (h : Hd) (a : Addr) : Prop := h.1 a ∨ h.2 a
abbrev Rel (α β : Type) := Hd → Hp → Hp → α → β → Prop
def KG {α β : Type} (K : PySem.W.Frag) (R : Hp → Hp → α → β → Prop) (σ : L2.St) (H : Hp) (W : WX) (Q : β → Hp → Prop) : Res α → Prop
  | .ok a => ∀ b H', Same H H' → R H H' a b → Q b H'
  | .exc x => ∀ c d H', Same H H' → ExIs K H' x c d → W c d σ H'
  | .bad => False
def Anti {α β : Type} (R : Rel α β) : Prop := ∀ h H H1 H' a b, Same H H1 → R h H1 H' a b → R h H H' a b
theorem KG.mono {α β : Type} {K : PySem.W.Frag} {R : Rel α β} {h : Hd} {σ : L2.St} {H H1 : Hp} {W : WX} {Q : β → Hp → Prop} (an : Anti R) (s : Same H H1) : ∀ {r : Res α}, KG K (R h) σ H W Q r → KG K (R h) σ H1 W Q r
  | .ok a, k => fun b H' s' q => k b H' (s.tr s') (an _ _ _ _ _ _ s q)
  | .exc x, k => fun c d H' s' q => k c d H' (s.tr s') q
  | .bad, k => k
def EvG {α β : Type} (K : PySem.W.Frag) (W : WX) (ω : List Nat) (R : Rel α β) (t : L2.St → Hp → (β → Hp → Prop) → Prop) (f : En → Res α) : Prop :=
  ∀ P H0 H σ ρ, EnvOk K P H0 H ω σ ρ → ∀ Q, KG K (R (P, ownAt ω ρ σ)) σ H W Q (f ρ) → t σ H Q
theorem EvG.bind {α β γ δ : Type} {K : PySem.W.Frag} {W : WX} {ω : List Nat} {R : Rel α β} {R2 : Rel γ δ} {t : L2.St → Hp → (β → Hp → Prop) → Prop} {f : En → Res α} {g : α → Res γ} {P H0 H σ ρ} {Q : δ → Hp → Prop} {Q1 : β → Hp → Prop}
    (ht : EvG K W ω R t f) (I : EnvOk K P H0 H ω σ ρ) (an : Anti R2) (k : KG K (R2 (P, ownAt ω ρ σ)) σ H W Q ((f ρ).bind g))
    (hq : ∀ a b H1, f ρ = .ok a → Same H H1 → EnvOk K P H0 H1 ω σ ρ → R (P, ownAt ω ρ σ) H H1 a b → KG K (R2 (P, ownAt ω ρ σ)) σ H1 W Q (g a) → Q1 b H1) : t σ H Q1 := by
  refine ht P H0 H σ ρ I Q1 ?_
  cases e : f ρ with
  | ok a =>
    rw [e] at k
    exact fun b H1 s r => hq a b H1 e s (I.mono s) r (KG.mono an s k)
  | exc x => rw [e] at k; exact k
  | bad => rw [e] at k; exact k

theorem EnvOk.domH {K : PySem.W.Frag} {P : Addr → Prop} {H0 H : Hp} {ω : List Nat} {σ : L2.St} {ρ : En} (I : EnvOk K P H0 H ω σ ρ) : ∀ c, Hd.hid (P, ownAt ω ρ σ) c → ∃ o, H c = some o := fun c z => I.dom z
/-! ### the kinds of values: shared, lent, new -/
def shR (K : PySem.W.Frag) : Rel D V := fun h _ H' d v => Is K (mask H' h.hid) d v
def Lnt (K : PySem.W.Frag) (h : Hd) (H : Hp) (d : D) (v : V) : Prop := Is K (mask H h.hid) d v ∨ ∃ a, v = .ref a ∧ h.2 a ∧ OwnIs K H (mask H h.hid) a d
def lnR (K : PySem.W.Frag) : Rel D V := fun h _ H' d v => Lnt K h H' d v
def nwP (K : PySem.W.Frag) (h : Addr → Prop) (H H' : Hp) (d : D) (v : V) : Prop := ∃ a, v = .ref a ∧ H a = none ∧ OwnIs K H' (mask H' (fun b => h b ∨ b = a)) a d
def nwR (K : PySem.W.Frag) : Rel D V := fun h H H' d v => nwP K h.hid H H' d v
def eqR {α : Type} : Rel α α := fun _ _ _ a b => a = b
def agR (K : PySem.W.Frag) : Rel (List D) (List V) := fun h _ H' ds vs => IsL K (mask H' h.hid) ds vs
def LntL (K : PySem.W.Frag) (h : Hd) (H : Hp) : List D → List V → Prop
  | [], xs => xs = []
  | d :: ds, xs => ∃ y ys, xs = y :: ys ∧ Lnt K h H d y ∧ LntL K h H ds ys
def alR (K : PySem.W.Frag) : Rel (List D) (List V) := fun h _ H' ds vs => LntL K h H' ds vs
theorem sh_anti {K} : Anti (shR K) := fun _ _ _ _ _ _ _ r => r
theorem ln_anti {K} : Anti (lnR K) := fun _ _ _ _ _ _ _ r => r
theorem nw_anti {K} : Anti (nwR K) := fun _ _ _ _ _ _ s ⟨a, e, n, o⟩ => ⟨a, e, s.back n, o⟩
theorem eq_anti {α : Type} : Anti (eqR (α := α)) := fun _ _ _ _ _ _ _ r => r
theorem ag_anti {K} : Anti (agR K) := fun _ _ _ _ _ _ _ r => r
theorem al_anti {K} : Anti (alR K) := fun _ _ _ _ _ _ _ r => r
theorem Lnt.mono {K h H H' d v} (s : Same H H') (r : Lnt K h H d v) : Lnt K h H' d v := by
  rcases r with r | ⟨a, e, p, o⟩
  · exact .inl (r.mono (mask_same s fun _ _ _ z => z))
  · obtain ⟨u, eu⟩ := o.there
    exact .inr ⟨a, e, p, o.mono ((s _ _ eu).trans eu.symm) (mask_same s fun _ _ _ z => z)⟩
theorem LntL.mono {K h H H'} (s : Same H H') : ∀ {ds xs}, LntL K h H ds xs → LntL K h H' ds xs
  | [], _, r => r
  | d :: ds, _, ⟨y, ys, e, r1, r2⟩ => ⟨y, ys, e, r1.mono s, LntL.mono s r2⟩
theorem LntL.length {K h H} : ∀ {ds xs}, LntL K h H ds xs → ds.length = xs.length
  | [], _, r => by cases (show _ = [] from r); rfl
  | d :: ds, _, ⟨y, ys, e, r1, r2⟩ => by subst e; simp [LntL.length r2]
/-- new: shared too -/
theorem nw_sh {K : PySem.W.Frag} {h : Addr → Prop} {H H' : Hp} {d : D} {v : V} (hd : ∀ a, h a → ∃ o, H a = some o) (r : nwP K h H H' d v) : Is K (mask H' h) d v := by
  obtain ⟨a, rfl, n, o⟩ := r
  refine o.is (fun u e => mask_some.mpr ⟨fun z => ?_, e⟩) (mask_same (Same.rfl' _) fun _ _ _ z => .inl z)
  obtain ⟨u', e'⟩ := hd a z
  rw [n] at e'; cases e'
/-! ### judgements: a piece of syntax, its reading, its function -/
structure DE (X : Cx) (W : WX) (ω : List Nat) (e : Expr) (t : TE) (f : En → Res D) : Prop where
  pe : PE X e t
  ev : EvG X.K W ω (shR X.K) t f
structure DS (X : Cx) (W : WX) (ω : List Nat) (e : Expr) (t : TE) (f : En → Res D) : Prop where
  pe : PE X e t
  ev : EvG X.K W ω (lnR X.K) t f
structure DN (X : Cx) (W : WX) (ω : List Nat) (e : Expr) (t : TE) (f : En → Res D) : Prop where
  pe : PE X e t
  ev : EvG X.K W ω (nwR X.K) t f
structure DT (X : Cx) (W : WX) (ω : List Nat) (e : Expr) (t : TT) (f : En → Res Bool) : Prop where
  pt : PT X e t
  ev : EvG X.K W ω eqR t f
/-- a test whatever its whole -/
structure DW (X : Cx) (W : WX) (ω : List Nat) (e : Expr) (t : TT) (f : En → Res Bool) : Prop where
  pw : PW X e t
  ev : EvG X.K W ω eqR t f
structure DA (X : Cx) (W : WX) (ω : List Nat) (es : List Expr) (t : TA) (f : En → Res (List D)) : Prop where
  pa : PA X es t
  ev : EvG X.K W ω (agR X.K) t f
structure DL (X : Cx) (W : WX) (ω : List Nat) (es : List Expr) (t : TA) (f : En → Res (List D)) : Prop where
  pa : PA X es t
  ev : EvG X.K W ω (alR X.K) t f
section
variable {X : Cx} {W : WX} {ω : List Nat}
theorem DN.sh {e t f} (h : DN X W ω e t f) : DE X W ω e t f := ⟨h.pe, fun P H0 H σ ρ I Q k => by
  refine h.ev P H0 H σ ρ I Q ?_
  cases q : f ρ with
  | ok d => rw [q] at k; exact fun b H' s r => k b H' s (nw_sh I.domH r)
  | exc x => rw [q] at k; exact k
  | bad => rw [q] at k; exact k⟩
theorem DE.ln {e t f} (h : DE X W ω e t f) : DS X W ω e t f := ⟨h.pe, fun P H0 H σ ρ I Q k => by
  refine h.ev P H0 H σ ρ I Q ?_
  cases q : f ρ with
  | ok d => rw [q] at k; exact fun b H' s r => k b H' s (.inl r)
  | exc x => rw [q] at k; exact k
  | bad => rw [q] at k; exact k⟩
theorem DN.ln {e t f} (h : DN X W ω e t f) : DS X W ω e t f := h.sh.ln

/-! ### names, constants -/
def eVar (i : Nat) : En → Res D := fun ρ => match ρ[i]? with
  | some (some d) => .ok d
  | _ => .bad
def eC (d : D) : En → Res D := fun _ => .ok d
theorem de_var (i : Nat) (hi : i ∉ ω) {x : Str} {pos : Pos} (hp : PE X (.Name x pos) (tVar i)) : DE X W ω (.Name x pos) (tVar i) (eVar i) := ⟨hp, fun P H0 H σ ρ I Q k => by
  unfold eVar at k
  cases q : ρ[i]? with
  | none => rw [q] at k; exact k.elim
  | some o =>
    cases o with
    | none => rw [q] at k; exact k.elim
    | some d =>
      rw [q] at k
      obtain ⟨v, e, r⟩ := I.sh i d q hi
      exact ⟨v, e, k v H (Same.rfl' _) r⟩⟩
theorem ds_own (i : Nat) (hi : i ∈ ω) {x : Str} {pos : Pos} (hp : PE X (.Name x pos) (tVar i)) : DS X W ω (.Name x pos) (tVar i) (eVar i) := ⟨hp, fun P H0 H σ ρ I Q k => by
  unfold eVar at k
  cases q : ρ[i]? with
  | none => rw [q] at k; exact k.elim
  | some o =>
    cases o with
    | none => rw [q] at k; exact k.elim
    | some d =>
      rw [q] at k
      obtain ⟨a, e, r, _⟩ := I.ow i d q hi
      exact ⟨.ref a, e, k _ H (Same.rfl' _) (.inr ⟨a, rfl, ⟨i, d, hi, q, e⟩, r⟩)⟩⟩
theorem ev_c {K : PySem.W.Frag} {d : D} {v : V} (h : ∀ H, Is K H d v) : EvG K W ω (shR K) (tC v) (eC d) := fun P H0 H σ ρ I Q k => k v H (Same.rfl' _) (h _)
theorem de_int {i : Int} {j pos} : DE X W ω (.Constant (.int i) j pos) (tC (.int i)) (eC (.int i)) := ⟨pe_int, ev_c fun _ => rfl⟩
theorem de_bl {b : Bool} {j pos} : DE X W ω (.Constant (.bool b) j pos) (tC (.bl b)) (eC (.bl b)) := ⟨pe_bl, ev_c fun _ => rfl⟩
theorem de_non {j pos} : DE X W ω (.Constant .none j pos) (tC .non) (eC .non) := ⟨pe_non, ev_c fun _ => rfl⟩
theorem de_str {x : Str} {j pos} : DE X W ω (.Constant (.str x) j pos) (tC (.str x)) (eC (.str x)) := ⟨pe_str, ev_c fun _ => rfl⟩
/-- a constant of the module: an int, a text -/
theorem de_gint {x : Str} {pos : Pos} {i : Int} (hm : ∃ t, X.mg x = some (.int i t)) (hg : Gl X x := by rfl) (hd : (x == ("__debug__" : Str)) = false := by decide) : DE X W ω (.Name x pos) (tC (.int i)) (eC (.int i)) := by
  obtain ⟨t, hm⟩ := hm
  exact ⟨pe_glob hg hm ⟨t, rfl⟩ hd, ev_c fun _ => rfl⟩
theorem de_gstr {x : Str} {pos : Pos} {i : Str} (hm : ∃ t, X.mg x = some (.str i t)) (hg : Gl X x := by rfl) (hd : (x == ("__debug__" : Str)) = false := by decide) : DE X W ω (.Name x pos) (tC (.str i)) (eC (.str i)) := by
  obtain ⟨t, hm⟩ := hm
  exact ⟨pe_glob hg hm ⟨t, rfl⟩ hd, ev_c fun _ => rfl⟩
/-- a built-in type as a value -/
theorem de_type {x : Str} {pos : Pos} {n : String} (hm : X.mg x = none) (hv : bootBuiltins x = some (.type n)) (hg : Gl X x := by rfl) (hn : x ≠ "__name__" := by decide) (hd : (x == ("__debug__" : Str)) = false := by decide) :
    DE X W ω (.Name x pos) (tC (.ty n)) (eC (.raw (.ty n))) := ⟨pe_bltn hg hm hv rfl hn hd, ev_c fun _ => rfl⟩

/-! ### operators -/
def OpG (K : PySem.W.Frag) (R : Rel D V) (r : R2) (op : D → D → Option D) : Prop := ∀ (h : Hd) H a b x y d, (∀ c, h.hid c → ∃ o, H c = some o) → Lnt K h H a x → Lnt K h H b y → op a b = some d → ∀ Q : VK, (∀ v H', Same H H' → R h H H' d v → Q v H') → r x y H Q
def eBin (op : D → D → Option D) (fa fb : En → Res D) : En → Res D := fun ρ => (fa ρ).bind fun a => (fb ρ).bind fun b => .ofO (op a b)
theorem ev_op {K : PySem.W.Frag} {R : Rel D V} (an : Anti R) {r : R2} {op : D → D → Option D} {ta tb : TE} {fa fb : En → Res D} (hr : OpG K R r op) (ha : EvG K W ω (lnR K) ta fa) (hb : EvG K W ω (lnR K) tb fb) : EvG K W ω R (tOp r ta tb) (eBin op fa fb) :=
  fun P H0 H σ ρ I Q k => by
    refine ha.bind I an k fun a x H1 ea s1 I1 ra k1 => ?_
    refine hb.bind I1 an k1 fun b y H2 eb s2 I2 rb k2 => ?_
    cases q : op a b with
    | none => rw [q] at k2; exact k2.elim
    | some d =>
      rw [q] at k2
      exact hr _ H2 a b x y d I2.domH (ra.mono s2) rb q Q fun v H' s' r' => k2 v H' s' r'
theorem de_op {op pos} {a b : Expr} {r : R2} {g : D → D → Option D} {ta tb fa fb} (ho : OpR X (binaryOp op) r) (hr : OpG X.K (shR X.K) r g) (ha : DS X W ω a ta fa) (hb : DS X W ω b tb fb) : DE X W ω (.BinOp a op b pos) (tOp r ta tb) (eBin g fa fb) :=
  ⟨pe_op ho ha.pe hb.pe, ev_op sh_anti hr ha.ev hb.ev⟩
theorem dn_op {op pos} {a b : Expr} {r : R2} {g : D → D → Option D} {ta tb fa fb} (ho : OpR X (binaryOp op) r) (hr : OpG X.K (nwR X.K) r g) (ha : DS X W ω a ta fa) (hb : DS X W ω b tb fb) : DN X W ω (.BinOp a op b pos) (tOp r ta tb) (eBin g fa fb) :=
  ⟨pe_op ho ha.pe hb.pe, ev_op nw_anti hr ha.ev hb.ev⟩
theorem de_cmp {op pos} {a b : Expr} {r : R2} {g : D → D → Option D} {ta tb fa fb} (ho : OpR X (compareOp op) r) (hr : OpG X.K (shR X.K) r g) (hm : behindInMarks op b = false) (ha : DS X W ω a ta fa) (hb : DS X W ω b tb fb) :
    DE X W ω (.Compare a [op] [b] pos) (tOp r ta tb) (eBin g fa fb) := ⟨pe_cmpR ho ha.pe hb.pe hm, ev_op sh_anti hr ha.ev hb.ev⟩
def eBl : Option D → Option Bool
  | some (.bl b) => some b
  | _ => none
def asB : D → Res Bool
  | .bl b => .ok b
  | _ => .bad
/-- an expression that gives a bool, as a test -/
theorem ev_tB {K : PySem.W.Frag} {te : TE} {fe : En → Res D} (h : EvG K W ω (shR K) te fe) : EvG K W ω eqR (tB te) (fun ρ => (fe ρ).bind asB) := fun P H0 H σ ρ I Q k => by
  refine h.bind I eq_anti k fun d x H1 e s1 I1 r k1 => ?_
  cases d with
  | bl b => exact ⟨b, r, k1 b H1 (Same.rfl' _) rfl⟩
  | _ => exact k1.elim
theorem ev_tTest {K : PySem.W.Frag} {te : TE} {fe : En → Res D} (h : EvG K W ω (shR K) te fe) : EvG K W ω eqR (tTest te) (fun ρ => (fe ρ).bind asB) := fun P H0 H σ ρ I Q k => by
  refine h.bind I eq_anti k fun d x H1 e s1 I1 r k1 => ?_
  cases d with
  | bl b => exact ⟨b, r, k1 b H1 (Same.rfl' _) rfl⟩
  | _ => exact k1.elim
def tst (f : En → Res D) : En → Res Bool := fun ρ => (f ρ).bind asB
theorem dt_val {e t f} (h : DE X W ω e t f) (he : ∀ whole, isTrue e X.env whole = (do let v ← whole; standAt e.pos; holding [v] (truthy v)) := by intro _; rfl) : DT X W ω e (tB t) (tst f) := ⟨pt_val h.pe he, ev_tB h.ev⟩
theorem dt_cmp {op pos} {a b : Expr} {r : R2} {g : D → D → Option D} {ta tb fa fb} (ho : OpR X (compareOp op) r) (hr : OpG X.K (shR X.K) r g) (hm : behindInMarks op b = false) (ha : DS X W ω a ta fa) (hb : DS X W ω b tb fb) :
    DT X W ω (.Compare a [op] [b] pos) (tTest (tOp r ta tb)) (tst (eBin g fa fb)) := ⟨pt_cmpR ho ha.pe hb.pe hm, ev_tTest (ev_op sh_anti hr ha.ev hb.ev)⟩
end
end Dl

/-! The data layer, part 2: operators on data. -/
namespace Dl
open PySem L2
section
variable {K : PySem.W.Frag} {h : Hd} {H : Hp} {x : V}
theorem lnt_int {i : Int} (r : Lnt K h H (.int i) x) : x = .int i := by
  rcases r with r | ⟨_, _, _, o⟩
  · exact r
  · exact o.elim
theorem lnt_bl {i : Bool} (r : Lnt K h H (.bl i) x) : x = .bl i := by
  rcases r with r | ⟨_, _, _, o⟩
  · exact r
  · exact o.elim
theorem lnt_str {i : Str} (r : Lnt K h H (.str i) x) : x = .str i := by
  rcases r with r | ⟨_, _, _, o⟩
  · exact r
  · exact o.elim
theorem lnt_non (r : Lnt K h H .non x) : x = .non := by
  rcases r with r | ⟨_, _, _, o⟩
  · exact r
  · exact o.elim
theorem lnt_raw {v : V} (r : Lnt K h H (.raw v) x) : x = v := by
  rcases r with r | ⟨_, _, _, o⟩
  · exact r
  · exact o.elim
theorem lnt_lst {ds : List D} (r : Lnt K h H (.lst ds) x) : ∃ a xs, x = .ref a ∧ H a = some (.lst xs) ∧ IsL K (mask H h.hid) ds xs := by
  rcases r with ⟨a, xs, e, e2, r⟩ | ⟨a, e, _, xs, e2, r⟩
  · exact ⟨a, xs, e, (mask_some.mp e2).2, r⟩
  · exact ⟨a, xs, e, e2, r⟩
theorem lnt_tup {ds : List D} (r : Lnt K h H (.tup ds) x) : ∃ a xs, x = .ref a ∧ SqT K H a xs ∧ IsL K (mask H h.hid) ds xs := by
  rcases r with ⟨a, xs, e, e2, r⟩ | ⟨_, _, _, o⟩
  · exact ⟨a, xs, e, sqt_mono (mask_le _ _) e2, r⟩
  · exact o.elim
theorem lnt_frz {ns : List Int} (r : Lnt K h H (.frz ns) x) : ∃ a, x = .ref a ∧ SqL K H a (ns.map V.int) := by
  rcases r with ⟨a, e, e2⟩ | ⟨_, _, _, o⟩
  · exact ⟨a, e, sql_mono (mask_le _ _) e2⟩
  · exact o.elim
theorem lnt_dct {ps : List (Key × D)} (r : Lnt K h H (.dct ps) x) : ∃ a ws, x = .ref a ∧ Rd H a (.dK ws) ∧ IsK K (mask H h.hid) ps ws := by
  rcases r with ⟨a, xs, e, e2, r⟩ | ⟨a, e, _, xs, e2, r⟩
  · exact ⟨a, xs, e, rd_mono (mask_le _ _) e2, r⟩
  · exact ⟨a, xs, e, .inl e2, r⟩
end
/-- a new list's kind -/
theorem nw_lst {K : PySem.W.Frag} {h : Hd} {H H0 : Hp} {ds : List D} {xs : List V} {p : Addr} (hd : ∀ c, h.hid c → ∃ o, H c = some o) (s : Same H0 H) (n : H p = none) (r : IsL K (mask H h.hid) ds xs) : nwR K h H0 (upd H p (.lst xs)) (.lst ds) (.ref p) := by
  refine ⟨p, rfl, s.back n, xs, upd_same, r.mono (mask_same (L2.Same.add n) fun a o e z => ?_)⟩
  rcases z with z | z
  · exact z
  · rw [z, n] at e; cases e
theorem nw_dct {K : PySem.W.Frag} {h : Hd} {H H0 : Hp} {ds : List (Key × D)} {xs : List (Key × V)} {p : Addr} (hd : ∀ c, h.hid c → ∃ o, H c = some o) (s : Same H0 H) (n : H p = none) (r : IsK K (mask H h.hid) ds xs) : nwR K h H0 (upd H p (.dK xs)) (.dct ds) (.ref p) := by
  refine ⟨p, rfl, s.back n, xs, upd_same, r.mono (mask_same (L2.Same.add n) fun a o e z => ?_)⟩
  rcases z with z | z
  · exact z
  · rw [z, n] at e; cases e
/-- a new tuple: shared -/
theorem sh_tup {K : PySem.W.Frag} {h : Hd} {H : Hp} {ds : List D} {xs : List V} {p : Addr} (hd : ∀ c, h.hid c → ∃ o, H c = some o) (n : H p = none) (r : IsL K (mask H h.hid) ds xs) : Is K (mask (upd H p (.tup xs)) h.hid) (.tup ds) (.ref p) := by
  refine ⟨p, xs, rfl, .inl (.inl (mask_some.mpr ⟨fun z => ?_, upd_same⟩)), r.mono (mask_same (L2.Same.add n) fun _ _ _ z => z)⟩
  obtain ⟨o, e⟩ := hd p z
  rw [n] at e; cases e

/-! ### numbers -/
def i2 (g : Int → Int → Int) : D → D → Option D
  | .int i, .int j => some (.int (g i j))
  | _, _ => none
def i2c (C : Int → Int → Bool) (g : Int → Int → Int) : D → D → Option D
  | .int i, .int j => if C i j = true then some (.int (g i j)) else none
  | _, _ => none
def c2 (g : Int → Int → Bool) : D → D → Option D
  | .int i, .int j => some (.bl (g i j))
  | _, _ => none
section
variable {K : PySem.W.Frag}
theorem og_i2 {g : Int → Int → Int} : OpG K (shR K) (rI0 fun i j => .int (g i j)) (i2 g) := fun h H a b x y d hd ra rb e Q q => by
  cases a with
  | int i => cases b with
    | int j =>
      cases Option.some.inj e
      exact ⟨i, j, lnt_int ra, lnt_int rb, q _ H (Same.rfl' _) rfl⟩
    | _ => cases e
  | _ => cases e
theorem og_i2c {C : Int → Int → Prop} {B : Int → Int → Bool} {g : Int → Int → Int} (hc : ∀ i j, B i j = true → C i j) : OpG K (shR K) (rI C fun i j => .int (g i j)) (i2c B g) := fun h H a b x y d hd ra rb e Q q => by
  cases a with
  | int i => cases b with
    | int j =>
      have e' : (if B i j = true then some (D.int (g i j)) else none) = some d := e
      by_cases z : B i j = true
      · rw [if_pos z] at e'
        cases Option.some.inj e'
        exact ⟨i, j, lnt_int ra, lnt_int rb, hc i j z, q _ H (Same.rfl' _) rfl⟩
      · rw [if_neg z] at e'; cases e'
    | _ => cases e
  | _ => cases e
theorem og_c2 {g : Int → Int → Bool} : OpG K (shR K) (rI0 fun i j => .bl (g i j)) (c2 g) := fun h H a b x y d hd ra rb e Q q => by
  cases a with
  | int i => cases b with
    | int j =>
      cases Option.some.inj e
      exact ⟨i, j, lnt_int ra, lnt_int rb, q _ H (Same.rfl' _) rfl⟩
    | _ => cases e
  | _ => cases e
/-- one of two rules, by the data -/
def orE (f g : D → D → Option D) : D → D → Option D := fun a b => (f a b).orElse fun _ => g a b
theorem og_or {R : Rel D V} {r r' : R2} {f g : D → D → Option D} (h1 : OpG K R r f) (h2 : OpG K R r' g) : OpG K R (fun x y H Q => r x y H Q ∨ r' x y H Q) (orE f g) := fun h H a b x y d hd ra rb e Q q => by
  unfold orE at e
  cases z : f a b with
  | some d' =>
    rw [z] at e
    cases Option.some.inj e
    exact .inl (h1 h H a b x y d hd ra rb z Q q)
  | none =>
    rw [z] at e
    exact .inr (h2 h H a b x y d hd ra rb e Q q)
theorem og_sh {r : R2} {f : D → D → Option D} (h1 : OpG K (nwR K) r f) : OpG K (shR K) r f := fun h H a b x y d hd ra rb e Q q =>
  h1 h H a b x y d hd ra rb e Q fun v H' s r => q v H' s (nw_sh hd r)
end
/-- ≤, by places (nothing the kernel could lose itself in) -/
def leI : Int → Int → Bool
  | .ofNat a, .ofNat b => Nat.ble a b
  | .ofNat _, .negSucc _ => false
  | .negSucc _, .ofNat _ => true
  | .negSucc a, .negSucc b => Nat.ble b a
theorem ble_eq (a b : Nat) : Nat.ble a b = decide (a ≤ b) := by
  by_cases h : a ≤ b
  · rw [decide_eq_true h]; exact Nat.ble_eq.mpr h
  · rw [decide_eq_false h]
    cases q : Nat.ble a b with
    | true => exact absurd (Nat.ble_eq.mp q) h
    | false => rfl
theorem leI_eq (i j : Int) : leI i j = decide (i ≤ j) := by
  cases i with
  | ofNat a => cases j with
    | ofNat b =>
      rw [show leI (.ofNat a) (.ofNat b) = Nat.ble a b from rfl, ble_eq]
      exact decide_eq_decide.mpr (by simp)
    | negSucc b => exact (decide_eq_false (by have := Int.negSucc_lt_zero b; intro h; have : (0 : Int) ≤ Int.ofNat a := Int.natCast_nonneg a; omega)).symm
  | negSucc a => cases j with
    | ofNat b => exact (decide_eq_true (by have := Int.negSucc_lt_zero a; have : (0 : Int) ≤ Int.ofNat b := Int.natCast_nonneg b; omega)).symm
    | negSucc b =>
      rw [show leI (.negSucc a) (.negSucc b) = Nat.ble b a from rfl, ble_eq]
      exact decide_eq_decide.mpr (by rw [Int.negSucc_eq, Int.negSucc_eq]; omega)
def ltI (i j : Int) : Bool := !leI j i
theorem ltI_eq (i j : Int) : ltI i j = decide (i < j) := by
  unfold ltI
  rw [leI_eq]
  by_cases h : i < j
  · rw [decide_eq_true h, decide_eq_false (by omega)]; rfl
  · rw [decide_eq_false h, decide_eq_true (by omega)]; rfl
def okMul (i j : Int) : Bool := Nat.ble i.natAbs 18446744073709551615 || Nat.ble j.natAbs 18446744073709551615
def okDiv (_i j : Int) : Bool := leI 1 j && Nat.ble j.natAbs 1073741823
def okMod (_i j : Int) : Bool := leI 1 j
def okPow (i j : Int) : Bool := leI 0 j && Nat.ble j.natAbs 1000000 && Nat.ble i.natAbs 18446744073709551615
def okShr (_i j : Int) : Bool := leI 0 j
def dAddI := i2 fun i j => i + j
def dSub := i2 fun i j => i - j
def dMulI := i2c okMul fun i j => i * j
def dDiv := i2c okDiv fun i j => i / j
def dMod := i2c okMod fun i j => i % j
def dPow := i2c okPow fun i j => i ^ j.toNat
def dShl := i2c okPow fun i j => i * 2 ^ j.toNat
def dShr := i2c okShr fun i j => i / 2 ^ j.toNat
def dAnd := i2 fun i j => Builtin.bitAnd i j
def dOr := i2 fun i j => Builtin.bitOr i j
def dXor := i2 fun i j => Builtin.bitXor i j
def dLt := c2 ltI
def dLe := c2 leI
def dGt := c2 fun i j => ltI j i
def dGe := c2 fun i j => leI j i
theorem okMul_ok (i j : Int) (h : okMul i j = true) : CMul i j := by
  unfold okMul at h
  simp only [Bool.or_eq_true, ble_eq, decide_eq_true_eq] at h
  unfold CMul
  omega
theorem okDiv_ok (i j : Int) (h : okDiv i j = true) : CDiv i j := by
  unfold okDiv at h
  simp only [Bool.and_eq_true, ble_eq, leI_eq, decide_eq_true_eq] at h
  unfold CDiv
  omega
theorem okMod_ok (i j : Int) (h : okMod i j = true) : 0 < j := by
  unfold okMod at h
  simp only [leI_eq, decide_eq_true_eq] at h
  omega
theorem okShr_ok (i j : Int) (h : okShr i j = true) : 0 ≤ j := by
  unfold okShr at h
  simpa only [leI_eq, decide_eq_true_eq] using h
theorem okPow_ok (i j : Int) (h : okPow i j = true) : CPow i j := by
  unfold okPow at h
  simp only [Bool.and_eq_true, ble_eq, leI_eq, decide_eq_true_eq] at h
  exact ⟨h.1.1, by omega, by omega⟩

/-! ### texts, lists -/
def lim : Nat := 16777216
theorem lim_eq : sizeLine = lim := sizeLine_eq
def dAddS : D → D → Option D
  | .str x, .str y => if x.length + y.length ≤ lim then some (.str (x ++ y)) else none
  | _, _ => none
def dCat : D → D → Option D
  | .lst xs, .lst ys => if xs.length + ys.length ≤ lim then some (.lst (xs ++ ys)) else none
  | _, _ => none
def dRep : D → D → Option D
  | .lst xs, .int k => if k < 2 ^ 63 ∧ -(2 ^ 63) ≤ k ∧ xs.length * k.toNat ≤ lim then some (.lst (List.replicate k.toNat xs).flatten) else none
  | _, _ => none
theorem isl_rep {K : PySem.W.Frag} {M : Hp} {ds : List D} {xs : List V} (r : IsL K M ds xs) : ∀ n : Nat, IsL K M (List.replicate n ds).flatten (List.replicate n xs).flatten
  | 0 => isl_nil
  | n + 1 => by
    rw [List.replicate_succ, List.replicate_succ, List.flatten_cons, List.flatten_cons]
    exact r.append (isl_rep r n)
section
variable {K : PySem.W.Frag}
def rAddStr : R2 := fun x y H Q => ∃ i j, x = .str i ∧ y = .str j ∧ i.length + j.length ≤ sizeLine ∧ Q (.str (i ++ j)) H
theorem og_addS : OpG K (shR K) rAddStr dAddS := fun h H a b x y d hd ra rb e Q q => by
  cases a with
  | str i => cases b with
    | str j =>
      have e' : (if i.length + j.length ≤ lim then some (D.str (i ++ j)) else none) = some d := e
      by_cases z : i.length + j.length ≤ lim
      · rw [if_pos z] at e'
        cases Option.some.inj e'
        exact ⟨i, j, lnt_str ra, lnt_str rb, by rw [lim_eq]; exact z, q _ H (Same.rfl' _) rfl⟩
      · rw [if_neg z] at e'; cases e'
    | _ => cases e
  | _ => cases e
theorem og_cat : OpG K (nwR K) rCat dCat := fun h H a b x y d hd ra rb e Q q => by
  cases a with
  | lst i => cases b with
    | lst j =>
      have e' : (if i.length + j.length ≤ lim then some (D.lst (i ++ j)) else none) = some d := e
      by_cases z : i.length + j.length ≤ lim
      · rw [if_pos z] at e'
        cases Option.some.inj e'
        obtain ⟨a, xs, rfl, ha, la⟩ := lnt_lst ra
        obtain ⟨b, ys, rfl, hb, lb⟩ := lnt_lst rb
        refine ⟨a, b, xs, ys, rfl, rfl, ha, hb, by rw [lim_eq, ← la.length, ← lb.length]; exact z, fun p hp => ?_⟩
        exact q _ _ (L2.Same.add hp) (nw_lst hd (Same.rfl' _) hp (la.append lb))
      · rw [if_neg z] at e'; cases e'
    | _ => cases e
  | _ => cases e
theorem og_rep : OpG K (nwR K) rRep dRep := fun h H a b x y d hd ra rb e Q q => by
  cases a with
  | lst i => cases b with
    | int k =>
      have e' : (if k < 2 ^ 63 ∧ -(2 ^ 63) ≤ k ∧ i.length * k.toNat ≤ lim then some (D.lst (List.replicate k.toNat i).flatten) else none) = some d := e
      by_cases z : k < 2 ^ 63 ∧ -(2 ^ 63) ≤ k ∧ i.length * k.toNat ≤ lim
      · rw [if_pos z] at e'
        cases Option.some.inj e'
        obtain ⟨a, xs, rfl, ha, la⟩ := lnt_lst ra
        refine ⟨a, k, xs, rfl, lnt_int rb, ha, z.2.1, z.1, by rw [lim_eq, ← la.length]; exact z.2.2, fun p hp => ?_⟩
        exact q _ _ (L2.Same.add hp) (nw_lst hd (Same.rfl' _) hp (isl_rep la _))
      · rw [if_neg z] at e'; cases e'
    | _ => cases e
  | _ => cases e
end

/-! ### + and * of anything -/
def dAdd := orE dAddI (orE dAddS dCat)
def dMul := orE dMulI dRep
abbrev rAddA : R2 := fun x y H Q => (rI0 fun i j => .int (i + j)) x y H Q ∨ (rAddStr x y H Q ∨ rCat x y H Q)
abbrev rMulA : R2 := fun x y H Q => (rI CMul fun i j => .int (i * j)) x y H Q ∨ rRep x y H Q
section
variable {X : Cx} {K : PySem.W.Frag}
theorem op_addA : OpR X (binaryOp .Add) rAddA := OpR.or op_add (OpR.or op_add_str op_cat)
theorem op_mulA : OpR X (binaryOp .Mult) rMulA := OpR.or op_mul op_rep
theorem og_addA : OpG K (shR K) rAddA dAdd := og_or og_i2 (og_or og_addS (og_sh og_cat))
theorem og_mulA : OpG K (shR K) rMulA dMul := og_or (og_i2c okMul_ok) (og_sh og_rep)
end

/-! ### equality -/
mutual
def toP : D → Option PyData
  | .non => some .none
  | .bl b => some (.bool b)
  | .int i => some (.int i)
  | .str x => some (.str x)
  | .lst ds => (toPL ds).map .list
  | .tup ds => (toPL ds).map .tuple
  | _ => none
def toPL : List D → Option (List PyData)
  | [] => some []
  | d :: ds => match toP d, toPL ds with
    | some p, some ps => some (p :: ps)
    | _, _ => none
end
mutual
theorem dp_of {K : PySem.W.Frag} {H : Hp} : ∀ {d : D} {v : V} {p : PyData}, Is K H d v → toP d = some p → Dp K H v p
  | .non, _, _, h, e => by cases h; cases Option.some.inj e; exact .non
  | .bl b, _, _, h, e => by cases h; cases Option.some.inj e; exact .bl b
  | .int b, _, _, h, e => by cases h; cases Option.some.inj e; exact .int b
  | .str b, _, _, h, e => by cases h; cases Option.some.inj e; exact .str b
  | .lst ds, _, p, ⟨a, xs, e1, h1, h2⟩, e => by
    subst e1
    have e' : (toPL ds).map PyData.list = some p := e
    obtain ⟨ps, hp, rfl⟩ := Option.map_eq_some_iff.mp e'
    exact .lst (SqL.of h1) (dpl_of h2 hp)
  | .tup ds, _, p, ⟨a, xs, e1, h1, h2⟩, e => by
    subst e1
    have e' : (toPL ds).map PyData.tuple = some p := e
    obtain ⟨ps, hp, rfl⟩ := Option.map_eq_some_iff.mp e'
    exact .tup h1 (dpl_of h2 hp)
  | .dct _, _, _, _, e => by cases e
  | .frz _, _, _, _, e => by cases e
  | .raw _, _, _, _, e => by cases e
theorem dpl_of {K : PySem.W.Frag} {H : Hp} : ∀ {ds : List D} {xs : List V} {ps : List PyData}, IsL K H ds xs → toPL ds = some ps → DpAll K H xs ps
  | [], _, _, h, e => by cases (show _ = [] from h); cases Option.some.inj e; exact .nil
  | d :: ds, _, ps, ⟨y, ys, e1, h1, h2⟩, e => by
    subst e1
    unfold toPL at e
    cases q : toP d with
    | none => rw [q] at e; cases e
    | some p =>
      rw [q] at e
      cases q2 : toPL ds with
      | none => rw [q2] at e; cases e
      | some qs =>
        rw [q2] at e
        cases Option.some.inj e
        exact .cons (dp_of h1 q) (dpl_of h2 q2)
end
theorem lnt_dp {K : PySem.W.Frag} {h : Hd} {H : Hp} {d : D} {v : V} {p : PyData} (r : Lnt K h H d v) (e : toP d = some p) : Dp K H v p := by
  rcases r with r | ⟨a, rfl, _, o⟩
  · exact dp_of (r.mono (mask_le _ _)) e
  · exact dp_of (o.is (H' := H) (fun _ e => e) (mask_le _ _)) e
def toV : D → Option V
  | .non => some .non
  | .bl b => some (.bl b)
  | .int i => some (.int i)
  | .str x => some (.str x)
  | _ => none
theorem lnt_toV {K : PySem.W.Frag} {h : Hd} {H : Hp} {d : D} {v u : V} (r : Lnt K h H d v) (e : toV d = some u) : v = u := by
  cases d with
  | non => cases Option.some.inj e; exact lnt_non r
  | bl b => cases Option.some.inj e; exact lnt_bl r
  | int b => cases Option.some.inj e; exact lnt_int r
  | str b => cases Option.some.inj e; exact lnt_str r
  | _ => cases e
/-- are two things the same: scalars, or data whose shape the machine's == walks -/
def eqB (a b : D) : Option Bool := match toV a, toV b with
  | some x, some y => if scal x y = true then some (decide (x = y)) else none
  | _, _ => none
def eqP (a b : D) : Option Bool := match toP a, toP b with
  | some p, some q => if SeqAt.shaped p = true ∧ SeqAt.shaped q = true then some (PyData.eqv p q) else none
  | _, _ => none
def dEqS (a b : D) : Option D := (eqB a b).map D.bl
def dEqP (a b : D) : Option D := (eqP a b).map D.bl
def dNeS (a b : D) : Option D := (eqB a b).map fun k => D.bl (!k)
def dNeP (a b : D) : Option D := (eqP a b).map fun k => D.bl (!k)
def dEq := orE dEqS dEqP
def dNe := orE dNeS dNeP
section
variable {X : Cx} {K : PySem.W.Frag}
theorem eqB_ok {a b : D} {k : Bool} (e : eqB a b = some k) : ∃ x y, toV a = some x ∧ toV b = some y ∧ scal x y = true ∧ k = decide (x = y) := by
  unfold eqB at e
  cases ha : toV a with
  | none => rw [ha] at e; cases e
  | some x =>
    rw [ha] at e
    cases hb : toV b with
    | none => rw [hb] at e; cases e
    | some y =>
      rw [hb] at e
      have e' : (if scal x y = true then some (decide (x = y)) else none) = some k := e
      by_cases z : scal x y = true
      · rw [if_pos z] at e'
        exact ⟨x, y, rfl, rfl, z, (Option.some.inj e').symm⟩
      · rw [if_neg z] at e'; cases e'
theorem eqP_ok {a b : D} {k : Bool} (e : eqP a b = some k) : ∃ x y, toP a = some x ∧ toP b = some y ∧ SeqAt.shaped x = true ∧ SeqAt.shaped y = true ∧ k = PyData.eqv x y := by
  unfold eqP at e
  cases ha : toP a with
  | none => rw [ha] at e; cases e
  | some x =>
    rw [ha] at e
    cases hb : toP b with
    | none => rw [hb] at e; cases e
    | some y =>
      rw [hb] at e
      have e' : (if SeqAt.shaped x = true ∧ SeqAt.shaped y = true then some (PyData.eqv x y) else none) = some k := e
      by_cases z : SeqAt.shaped x = true ∧ SeqAt.shaped y = true
      · rw [if_pos z] at e'
        exact ⟨x, y, rfl, rfl, z.1, z.2, (Option.some.inj e').symm⟩
      · rw [if_neg z] at e'; cases e'
theorem og_eqS : OpG K (shR K) rEq dEqS := fun h H a b x y d hd ra rb e Q q => by
  obtain ⟨k, hk, rfl⟩ := Option.map_eq_some_iff.mp e
  obtain ⟨u, v, eu, ev, sc, rfl⟩ := eqB_ok hk
  cases lnt_toV ra eu
  cases lnt_toV rb ev
  exact ⟨sc, q _ H (Same.rfl' _) rfl⟩
theorem og_neS : OpG K (shR K) rNe dNeS := fun h H a b x y d hd ra rb e Q q => by
  obtain ⟨k, hk, rfl⟩ := Option.map_eq_some_iff.mp e
  obtain ⟨u, v, eu, ev, sc, rfl⟩ := eqB_ok hk
  cases lnt_toV ra eu
  cases lnt_toV rb ev
  exact ⟨sc, q _ H (Same.rfl' _) rfl⟩
theorem og_eqP : OpG K (shR K) (rEqD K) dEqP := fun h H a b x y d hd ra rb e Q q => by
  obtain ⟨k, hk, rfl⟩ := Option.map_eq_some_iff.mp e
  obtain ⟨u, v, eu, ev, s1, s2, rfl⟩ := eqP_ok hk
  exact ⟨u, v, lnt_dp ra eu, lnt_dp rb ev, s1, s2, q _ H (Same.rfl' _) rfl⟩
theorem og_neP : OpG K (shR K) (rNeD K) dNeP := fun h H a b x y d hd ra rb e Q q => by
  obtain ⟨k, hk, rfl⟩ := Option.map_eq_some_iff.mp e
  obtain ⟨u, v, eu, ev, s1, s2, rfl⟩ := eqP_ok hk
  exact ⟨u, v, lnt_dp ra eu, lnt_dp rb ev, s1, s2, q _ H (Same.rfl' _) rfl⟩
abbrev rEqA (K : PySem.W.Frag) : R2 := fun x y H Q => rEq x y H Q ∨ rEqD K x y H Q
abbrev rNeA (K : PySem.W.Frag) : R2 := fun x y H Q => rNe x y H Q ∨ rNeD K x y H Q
theorem op_eqA (hu : X.A.units + 64 < cLine) : OpR X (compareOp .Eq) (rEqA X.K) := OpR.or op_eq (op_eqD hu)
theorem op_neA (hu : X.A.units + 64 < cLine) : OpR X (compareOp .NotEq) (rNeA X.K) := OpR.or op_ne (op_neD hu)
theorem og_eqA : OpG K (shR K) (rEqA K) dEq := og_or og_eqS og_eqP
theorem og_neA : OpG K (shR K) (rNeA K) dNe := og_or og_neS og_neP

/-! ### is None, is a bool -/
def isNon : D → Bool
  | .non => true
  | _ => false
def dIsN : D → D → Option D
  | .raw _, _ => none
  | d, .non => some (.bl (isNon d))
  | _, _ => none
def dNotN : D → D → Option D
  | .raw _, _ => none
  | d, .non => some (.bl (!isNon d))
  | _, _ => none
theorem lnt_isNon {K : PySem.W.Frag} {h : Hd} {H : Hp} {d : D} {v : V} (hr : ∀ u, d ≠ .raw u) (r : Lnt K h H d v) : decide (v = .non) = isNon d := by
  cases d with
  | non => rw [lnt_non r]; rfl
  | bl b => rw [lnt_bl r]; rfl
  | int b => rw [lnt_int r]; rfl
  | str b => rw [lnt_str r]; rfl
  | lst ds => obtain ⟨a, xs, rfl, _⟩ := lnt_lst r; rfl
  | tup ds => obtain ⟨a, xs, rfl, _⟩ := lnt_tup r; rfl
  | dct ds => obtain ⟨a, xs, rfl, _⟩ := lnt_dct r; rfl
  | frz ds => obtain ⟨a, rfl, _⟩ := lnt_frz r; rfl
  | raw u => exact absurd rfl (hr u)
def rIsNn : R2 := fun x y H Q => y = .non ∧ Q (.bl (decide (x = .non))) H
def rNotNn : R2 := fun x y H Q => y = .non ∧ Q (.bl (!decide (x = .non))) H
theorem og_isN : OpG K (shR K) rIsNn dIsN := fun h H a b x y d hd ra rb e Q q => by
  have hb : b = .non ∧ (∀ u, a ≠ .raw u) ∧ d = .bl (isNon a) := by
    unfold dIsN at e
    split at e
    · cases e
    · rename_i hh; exact ⟨rfl, hh, (Option.some.inj e).symm⟩
    · cases e
  obtain ⟨rfl, hh, rfl⟩ := hb
  refine ⟨lnt_non rb, ?_⟩
  rw [lnt_isNon hh ra]
  exact q _ H (Same.rfl' _) rfl
theorem og_notN : OpG K (shR K) rNotNn dNotN := fun h H a b x y d hd ra rb e Q q => by
  have hb : b = .non ∧ (∀ u, a ≠ .raw u) ∧ d = .bl (!isNon a) := by
    unfold dNotN at e
    split at e
    · cases e
    · rename_i hh; exact ⟨rfl, hh, (Option.some.inj e).symm⟩
    · cases e
  obtain ⟨rfl, hh, rfl⟩ := hb
  refine ⟨lnt_non rb, ?_⟩
  rw [lnt_isNon hh ra]
  exact q _ H (Same.rfl' _) rfl
def dIsB : D → D → Option D
  | .bl a, .bl b => some (.bl (decide (a = b)))
  | _, _ => none
def dNotB : D → D → Option D
  | .bl a, .bl b => some (.bl (!decide (a = b)))
  | _, _ => none
def rIsBl : R2 := fun x y H Q => ∃ a b, x = .bl a ∧ y = .bl b ∧ Q (.bl (decide (a = b))) H
def rNotBl : R2 := fun x y H Q => ∃ a b, x = .bl a ∧ y = .bl b ∧ Q (.bl (!decide (a = b))) H
theorem og_isB : OpG K (shR K) rIsBl dIsB := fun h H a b x y d hd ra rb e Q q => by
  cases a with
  | bl i => cases b with
    | bl j => cases Option.some.inj e; exact ⟨i, j, lnt_bl ra, lnt_bl rb, q _ H (Same.rfl' _) rfl⟩
    | _ => cases e
  | _ => cases e
theorem og_notB : OpG K (shR K) rNotBl dNotB := fun h H a b x y d hd ra rb e Q q => by
  cases a with
  | bl i => cases b with
    | bl j => cases Option.some.inj e; exact ⟨i, j, lnt_bl ra, lnt_bl rb, q _ H (Same.rfl' _) rfl⟩
    | _ => cases e
  | _ => cases e
def dIs := orE dIsN dIsB
def dIsNot := orE dNotN dNotB
abbrev rIsA : R2 := fun x y H Q => rIsNn x y H Q ∨ rIsBl x y H Q
abbrev rIsNotA : R2 := fun x y H Q => rNotNn x y H Q ∨ rNotBl x y H Q
theorem op_isA : OpR X (compareOp .Is) rIsA := OpR.or op_isN op_is_bl
theorem op_isnotA : OpR X (compareOp .IsNot) rIsNotA := OpR.or op_notN op_isnot_bl
theorem og_isA : OpG K (shR K) rIsA dIs := og_or og_isN og_isB
theorem og_isnotA : OpG K (shR K) rIsNotA dIsNot := og_or og_notN og_notB

/-! ### in -/
def flatV' : D → Bool
  | .non => true
  | .bl _ => true
  | .int _ => true
  | .str _ => true
  | _ => false
def inD (x : D) (ds : List D) : Option Bool := match toV x, ds.mapM toV with
  | some v, some vs => if flatV v = true ∧ vs.all flatV = true then some (inV v vs) else none
  | _, _ => none
theorem isl_toV {K : PySem.W.Frag} {H : Hp} : ∀ {ds : List D} {xs vs : List V}, IsL K H ds xs → ds.mapM toV = some vs → xs = vs
  | [], _, _, h, e => by cases (show _ = [] from h); simp at e; exact e.symm
  | d :: ds, _, vs, ⟨y, ys, e1, h1, h2⟩, e => by
    subst e1
    rw [List.mapM_cons] at e
    cases q : toV d with
    | none => rw [q] at e; cases e
    | some u =>
      rw [q] at e
      cases q2 : ds.mapM toV with
      | none => rw [q2] at e; cases e
      | some us =>
        rw [q2] at e
        have e' : some (u :: us) = some vs := e
        cases Option.some.inj e'
        have hy : y = u := by
          cases d with
          | non => cases Option.some.inj q; exact h1
          | bl b => cases Option.some.inj q; exact h1
          | int b => cases Option.some.inj q; exact h1
          | str b => cases Option.some.inj q; exact h1
          | _ => cases q
        rw [hy, isl_toV h2 q2]
def dIn (neg : Bool) : D → D → Option D
  | x, .lst ds => (inD x ds).map fun k => .bl (if neg then !k else k)
  | x, .tup ds => (inD x ds).map fun k => .bl (if neg then !k else k)
  | _, _ => none
theorem inD_ok {x : D} {ds : List D} {k : Bool} (e : inD x ds = some k) : ∃ v vs, toV x = some v ∧ ds.mapM toV = some vs ∧ flatV v = true ∧ vs.all flatV = true ∧ k = inV v vs := by
  unfold inD at e
  cases ha : toV x with
  | none => rw [ha] at e; cases e
  | some v =>
    rw [ha] at e
    cases hb : ds.mapM toV with
    | none => rw [hb] at e; cases e
    | some vs =>
      rw [hb] at e
      have e' : (if flatV v = true ∧ vs.all flatV = true then some (inV v vs) else none) = some k := e
      by_cases z : flatV v = true ∧ vs.all flatV = true
      · rw [if_pos z] at e'
        exact ⟨v, vs, rfl, rfl, z.1, z.2, (Option.some.inj e').symm⟩
      · rw [if_neg z] at e'; cases e'
theorem og_in {neg : Bool} : OpG K (shR K) (rIn K neg) (dIn neg) := fun h H a b x y d hd ra rb e Q q => by
  cases b with
  | lst ds =>
    obtain ⟨k, hk, rfl⟩ := Option.map_eq_some_iff.mp (show (inD a ds).map (fun k => D.bl (if neg then !k else k)) = some d from e)
    obtain ⟨v, vs, e1, e2, f1, f2, rfl⟩ := inD_ok hk
    obtain ⟨p, xs, rfl, hp, lp⟩ := lnt_lst rb
    cases lnt_toV ra e1
    cases isl_toV lp e2
    exact ⟨p, _, rfl, .inl (SqL.of hp), f1, f2, q _ H (Same.rfl' _) rfl⟩
  | tup ds =>
    obtain ⟨k, hk, rfl⟩ := Option.map_eq_some_iff.mp (show (inD a ds).map (fun k => D.bl (if neg then !k else k)) = some d from e)
    obtain ⟨v, vs, e1, e2, f1, f2, rfl⟩ := inD_ok hk
    obtain ⟨p, xs, rfl, hp, lp⟩ := lnt_tup rb
    cases lnt_toV ra e1
    cases isl_toV lp e2
    exact ⟨p, _, rfl, .inr hp, f1, f2, q _ H (Same.rfl' _) rfl⟩
  | _ => cases e
/-- a text in a text -/
def dInS (neg : Bool) : D → D → Option D
  | .str x, .str y => some (.bl (if neg then !(!(Builtin.Str.occurrences y x 0 y.length 1).isEmpty) else !(Builtin.Str.occurrences y x 0 y.length 1).isEmpty))
  | _, _ => none
def rInTx (neg : Bool) : R2 := fun x y H Q => ∃ i j, x = .str i ∧ y = .str j ∧ Q (.bl (if neg then !(!(Builtin.Str.occurrences j i 0 j.length 1).isEmpty) else !(Builtin.Str.occurrences j i 0 j.length 1).isEmpty)) H
theorem og_inS {neg : Bool} : OpG K (shR K) (rInTx neg) (dInS neg) := fun h H a b x y d hd ra rb e Q q => by
  cases a with
  | str i => cases b with
    | str j => cases Option.some.inj e; exact ⟨i, j, lnt_str ra, lnt_str rb, q _ H (Same.rfl' _) rfl⟩
    | _ => cases e
  | _ => cases e
abbrev rInA (K : PySem.W.Frag) (neg : Bool) : R2 := fun x y H Q => rIn K neg x y H Q ∨ rInTx neg x y H Q
def dInA (neg : Bool) := orE (dIn neg) (dInS neg)
theorem op_inA : OpR X (compareOp .In) (rInA X.K false) := OpR.or op_in_seq op_in_str
theorem op_notinA : OpR X (compareOp .NotIn) (rInA X.K true) := OpR.or op_notIn_seq op_notIn_str
theorem og_inA {neg : Bool} : OpG K (shR K) (rInA K neg) (dInA neg) := og_or og_in og_inS

/-! ### an item -/
def dIx : D → D → Option D
  | .lst ds, .int i => atI ds i
  | .tup ds, .int i => atI ds i
  | .str z, .int i => if z.length ≤ lim then (atI z.cps.toList i).map fun c => .str ⟨#[c]⟩ else none
  | .frz ns, .int i => (atI ns i).map D.int
  | _, _ => none
theorem atI_isl {H : Hp} {ds : List D} {xs : List V} {i : Int} {d : D} (r : IsL K H ds xs) (e : atI ds i = some d) : ∃ v, atI xs i = some v ∧ Is K H d v := by
  unfold atI at e ⊢
  rw [← r.length]
  cases q : ixN ds.length i with
  | none => rw [q] at e; cases e
  | some j =>
    rw [q] at e
    exact r.get e
theorem atI_map {α β : Type} {f : α → β} {xs : List α} {i : Int} : atI (xs.map f) i = (atI xs i).map f := by
  unfold atI
  rw [List.length_map]
  cases ixN xs.length i with
  | none => rfl
  | some j => show (xs.map f)[j]? = (xs[j]?).map f; rw [List.getElem?_map]
theorem og_ix : OpG K (shR K) (rIx K) dIx := fun h H a b x y d hd ra rb e Q q => by
  cases b with
  | int i =>
    have hy := lnt_int rb
    cases a with
    | lst ds =>
      obtain ⟨p, xs, rfl, hp, lp⟩ := lnt_lst ra
      obtain ⟨v, hv, iv⟩ := atI_isl lp (show atI ds i = some d from e)
      exact .inl ⟨p, xs, i, v, rfl, hy, SqL.of hp, hv, q v H (Same.rfl' _) iv⟩
    | tup ds =>
      obtain ⟨p, xs, rfl, hp, lp⟩ := lnt_tup ra
      obtain ⟨v, hv, iv⟩ := atI_isl lp (show atI ds i = some d from e)
      exact .inr (.inl ⟨p, xs, i, v, rfl, hy, hp, hv, q v H (Same.rfl' _) iv⟩)
    | str z =>
      have e' : (if z.length ≤ lim then (atI z.cps.toList i).map (fun c => D.str ⟨#[c]⟩) else none) = some d := e
      by_cases hz : z.length ≤ lim
      · rw [if_pos hz] at e'
        obtain ⟨c, hc, rfl⟩ := Option.map_eq_some_iff.mp e'
        exact .inr (.inr ⟨z, i, c, lnt_str ra, hy, by rw [lim_eq]; exact hz, hc, q _ H (Same.rfl' _) rfl⟩)
      · rw [if_neg hz] at e'; cases e'
    | frz ns =>
      obtain ⟨p, rfl, hp⟩ := lnt_frz ra
      obtain ⟨n, hn, rfl⟩ := Option.map_eq_some_iff.mp (show (atI ns i).map D.int = some d from e)
      exact .inl ⟨p, _, i, .int n, rfl, hy, hp, by rw [atI_map, hn]; rfl, q _ H (Same.rfl' _) rfl⟩
    | _ => cases e
  | _ => cases a <;> cases e
end
section
variable {X : Cx} {W : WX} {ω : List Nat}
theorem de_ix {a b : Expr} {pos : Pos} {ta tb fa fb} (ha : DS X W ω a ta fa) (hb : DS X W ω b tb fb) (hs : PlainIx b := by exact fun _ _ => rfl) : DE X W ω (.Subscript a b pos) (tOp (rIx X.K) ta tb) (eBin dIx fa fb) :=
  ⟨pe_ix ix_seq ha.pe hb.pe hs, ev_op sh_anti og_ix ha.ev hb.ev⟩
/-! ### and, or, not, if else as values; chains -/
def eAnd (fa fb : En → Res D) : En → Res D := fun ρ => (fa ρ).bind fun a => match a with
  | .bl true => fb ρ
  | .bl false => .ok (.bl false)
  | _ => .bad
def eOr (fa fb : En → Res D) : En → Res D := fun ρ => (fa ρ).bind fun a => match a with
  | .bl true => .ok (.bl true)
  | .bl false => fb ρ
  | _ => .bad
def eNot (fa : En → Res D) : En → Res D := fun ρ => (fa ρ).bind fun a => match a with
  | .bl k => .ok (.bl (!k))
  | _ => .bad
theorem de_one {op} {a : Expr} {pos : Pos} {t f} (h : DE X W ω a t f) : DE X W ω (.BoolOp op [a] pos) t f := ⟨pe_one h.pe, h.ev⟩
theorem de_and {a b : Expr} {rest : List Expr} {pos : Pos} {ta tb fa fb} (ha : DE X W ω a ta fa) (hb : DE X W ω (.BoolOp .And (b :: rest) pos) tb fb) : DE X W ω (.BoolOp .And (a :: b :: rest) pos) (tAndV ta tb) (eAnd fa fb) :=
  ⟨pe_and ha.pe hb.pe, fun P H0 H σ ρ I Q k => by
    refine ha.ev.bind I sh_anti k fun d x H1 e s1 I1 r k1 => ?_
    cases d with
    | bl c => cases c with
      | true => exact ⟨true, r, by rw [if_pos rfl]; exact hb.ev P H0 H1 σ ρ I1 Q k1⟩
      | false => exact ⟨false, r, by rw [if_neg Bool.false_ne_true]; exact k1 _ H1 (Same.rfl' _) rfl⟩
    | _ => exact k1.elim⟩
theorem de_or {a b : Expr} {rest : List Expr} {pos : Pos} {ta tb fa fb} (ha : DE X W ω a ta fa) (hb : DE X W ω (.BoolOp .Or (b :: rest) pos) tb fb) : DE X W ω (.BoolOp .Or (a :: b :: rest) pos) (tOrV ta tb) (eOr fa fb) :=
  ⟨pe_or ha.pe hb.pe, fun P H0 H σ ρ I Q k => by
    refine ha.ev.bind I sh_anti k fun d x H1 e s1 I1 r k1 => ?_
    cases d with
    | bl c => cases c with
      | true => exact ⟨true, r, by rw [if_pos rfl]; exact k1 _ H1 (Same.rfl' _) rfl⟩
      | false => exact ⟨false, r, by rw [if_neg Bool.false_ne_true]; exact hb.ev P H0 H1 σ ρ I1 Q k1⟩
    | _ => exact k1.elim⟩
theorem de_not {a : Expr} {pos : Pos} {ta fa} (ha : DE X W ω a ta fa) : DE X W ω (.UnaryOp .Not a pos) (tNotV ta) (eNot fa) := ⟨pe_not ha.pe, fun P H0 H σ ρ I Q k => by
    refine ha.ev.bind I sh_anti k fun d x H1 e s1 I1 r k1 => ?_
    cases d with
    | bl c => exact ⟨c, r, k1 _ H1 (Same.rfl' _) rfl⟩
    | _ => exact k1.elim⟩
def eIf (c : En → Res Bool) (fa fb : En → Res D) : En → Res D := fun ρ => (c ρ).bind fun b => if b = true then fa ρ else fb ρ
theorem de_if {c a b : Expr} {pos : Pos} {tc fc ta tb fa fb} (hc : DT X W ω c tc fc) (ha : DE X W ω a ta fa) (hb : DE X W ω b tb fb) : DE X W ω (.IfExp c a b pos) (tIf tc ta tb) (eIf fc fa fb) :=
  ⟨pe_ifExp hc.pt ha.pe hb.pe, fun P H0 H σ ρ I Q k => by
    have k' : KG X.K (shR X.K (P, ownAt ω ρ σ)) σ H W Q ((fc ρ).bind fun b => if b = true then fa ρ else fb ρ) := k
    refine hc.ev.bind I sh_anti k' fun d x H1 e s1 I1 r k1 => ?_
    cases (show d = x from r)
    cases d with
    | true =>
      rw [if_pos rfl] at k1 ⊢
      exact ha.ev P H0 H1 σ ρ I1 Q k1
    | false =>
      rw [if_neg Bool.false_ne_true] at k1 ⊢
      exact hb.ev P H0 H1 σ ρ I1 Q k1⟩
/-- a < b < c -/
def chK (k : D) (r : Res D) : Res D := match k with
  | .bl true => r
  | .bl false => .ok (.bl false)
  | _ => .bad
def eChain (g g' : D → D → Option D) (fa fb fc : En → Res D) : En → Res D := fun ρ => (fa ρ).bind fun a => (fb ρ).bind fun b => (Res.ofO (g a b)).bind fun k => chK k ((fc ρ).bind fun c => .ofO (g' b c))
theorem ev_chain {K : PySem.W.Frag} {r r' : R2} {g g' : D → D → Option D} {ta tb tc fa fb fc} (hr : OpG K (shR K) r g) (hr' : OpG K (shR K) r' g') (ha : EvG K W ω (lnR K) ta fa) (hb : EvG K W ω (lnR K) tb fb) (hc : EvG K W ω (lnR K) tc fc) :
    EvG K W ω (shR K) (tChain r r' ta tb tc) (eChain g g' fa fb fc) := fun P H0 H σ ρ I Q k => by
  refine ha.bind I sh_anti k fun a x H1 ea s1 I1 ra k1 => ?_
  refine hb.bind I1 sh_anti k1 fun b y H2 eb s2 I2 rb k2 => ?_
  cases q : g a b with
  | none => rw [q] at k2; exact k2.elim
  | some d =>
    rw [q] at k2
    have k2' : KG K (shR K (P, ownAt ω ρ σ)) σ H2 W Q (chK d ((fc ρ).bind fun c => .ofO (g' b c))) := k2
    refine hr _ H2 a b x y d I2.domH (ra.mono s2) rb q _ fun v H3 s3 r3 => ?_
    cases d with
    | bl kk =>
      refine ⟨kk, r3, ?_⟩
      cases kk with
      | true =>
        rw [if_pos rfl]
        refine hc.bind (I2.mono s3) sh_anti (KG.mono sh_anti s3 k2') fun c z H4 ec s4 I4 rc k4 => ?_
        cases q2 : g' b c with
        | none => rw [q2] at k4; exact k4.elim
        | some d' =>
          rw [q2] at k4
          exact hr' _ H4 b c y z d' I4.domH (rb.mono (s3.tr s4)) rc q2 Q fun v H' s' r' => k4 v H' s' r'
      | false =>
        rw [if_neg Bool.false_ne_true]
        exact k2' _ H3 s3 rfl
    | _ => exact k2'.elim
theorem de_chain {op op'} {a b c : Expr} {pos : Pos} {r r' : R2} {g g' : D → D → Option D} {ta tb tc fa fb fc} (ho : OpR X (compareOp op) r) (ho' : OpR X (compareOp op') r') (hr : OpG X.K (shR X.K) r g) (hr' : OpG X.K (shR X.K) r' g')
    (ha : DS X W ω a ta fa) (hb : DS X W ω b tb fb) (hc : DS X W ω c tc fc) (hm : lastMarks [op, op'] [b, c] = false := by with_unfolding_all rfl) : DE X W ω (.Compare a [op, op'] [b, c] pos) (tChain r r' ta tb tc) (eChain g g' fa fb fc) :=
  ⟨pe_chain ho ho' ha.pe hb.pe hc.pe hm, ev_chain hr hr' ha.ev hb.ev hc.ev⟩
theorem dt_chain {op op'} {a b c : Expr} {pos : Pos} {r r' : R2} {g g' : D → D → Option D} {ta tb tc fa fb fc} (ho : OpR X (compareOp op) r) (ho' : OpR X (compareOp op') r') (hr : OpG X.K (shR X.K) r g) (hr' : OpG X.K (shR X.K) r' g')
    (ha : DS X W ω a ta fa) (hb : DS X W ω b tb fb) (hc : DS X W ω c tc fc) (hm : lastMarks [op, op'] [b, c] = false := by with_unfolding_all rfl) : DT X W ω (.Compare a [op, op'] [b, c] pos) (tTest (tChain r r' ta tb tc)) (tst (eChain g g' fa fb fc)) :=
  ⟨pt_chain ho ho' ha.pe hb.pe hc.pe hm, ev_tTest (ev_chain hr hr' ha.ev hb.ev hc.ev)⟩
end
end Dl

/-! The data layer, part 3: tests, arguments, displays, slices, calls. -/
namespace Dl
open PySem L2
section
variable {X : Cx} {W : WX} {ω : List Nat} {K : PySem.W.Frag}

/-! ### tests -/
def truD : D → Option Bool
  | .non => some false
  | .bl b => some b
  | .int i => some (i != 0)
  | .str y => if y.length ≤ lim then some ((y.length : Int) != 0) else none
  | .lst ds => some (!ds.isEmpty)
  | .tup ds => some (!ds.isEmpty)
  | _ => none
theorem isl_empty {H : Hp} {ds : List D} {xs : List V} (r : IsL K H ds xs) : xs.isEmpty = ds.isEmpty := by
  cases ds with
  | nil => cases (show _ = [] from r); rfl
  | cons d ds => obtain ⟨y, ys, rfl, _⟩ := r; rfl
theorem tru_ok' {h : Hd} {H : Hp} {d : D} {x : V} {k : Bool} (r : Lnt K h H d x) (e : truD d = some k) : TruV K x H k := by
  cases d with
  | non => cases lnt_non r; cases Option.some.inj e; rfl
  | bl b => cases lnt_bl r; cases Option.some.inj e; rfl
  | int b => cases lnt_int r; cases Option.some.inj e; rfl
  | str y =>
    cases lnt_str r
    have e' : (if y.length ≤ lim then some ((y.length : Int) != 0) else none) = some k := e
    by_cases z : y.length ≤ lim
    · rw [if_pos z] at e'; exact ⟨by rw [lim_eq]; exact z, (Option.some.inj e').symm⟩
    · rw [if_neg z] at e'; cases e'
  | lst ds =>
    obtain ⟨a, xs, rfl, ha, la⟩ := lnt_lst r
    cases Option.some.inj e
    exact .inl ⟨xs, SqL.of ha, by rw [isl_empty la]⟩
  | tup ds =>
    obtain ⟨a, xs, rfl, ha, la⟩ := lnt_tup r
    cases Option.some.inj e
    exact .inr (.inl ⟨xs, ha, by rw [isl_empty la]⟩)
  | _ => cases e
def tru (f : En → Res D) : En → Res Bool := fun ρ => (f ρ).bind fun d => .ofO (truD d)
theorem dt_tru {a : Expr} {ta fa} (ha : DS X W ω a ta fa) (he : ∀ whole, isTrue a X.env whole = (do let v ← whole; standAt a.pos; holding [v] (truthy v)) := by intro _; rfl) :
    DT X W ω a (fun σ H Q => ta σ H fun x H' => ∃ k, TruV X.K x H' k ∧ Q k H') (tru fa) := ⟨pt_truth ha.pe he, fun P H0 H σ ρ I Q k => by
  refine ha.ev.bind I eq_anti k fun d x H1 e s1 I1 r k1 => ?_
  cases q : truD d with
  | none => rw [q] at k1; exact k1.elim
  | some b => rw [q] at k1; exact ⟨b, tru_ok' r q, k1 b H1 (Same.rfl' _) rfl⟩⟩
def bNot (f : En → Res Bool) : En → Res Bool := fun ρ => (f ρ).bind fun b => .ok (!b)
theorem dt_not {a : Expr} {pos : Pos} {ta fa} (ha : DT X W ω a ta fa) : DT X W ω (.UnaryOp .Not a pos) (tNot ta) (bNot fa) := ⟨pt_not ha.pt, fun P H0 H σ ρ I Q k => by
  refine ha.ev.bind I eq_anti k fun d x H1 e s1 I1 r k1 => ?_
  cases (show d = x from r)
  exact k1 (!d) H1 (Same.rfl' _) rfl⟩
def bAnd (f g : En → Res Bool) : En → Res Bool := fun ρ => (f ρ).bind fun b => if b = true then g ρ else .ok false
def bOr (f g : En → Res Bool) : En → Res Bool := fun ρ => (f ρ).bind fun b => if b = true then .ok true else g ρ
theorem dw_and1 {a : Expr} {pos : Pos} {ta fa} (ha : DT X W ω a ta fa) : DW X W ω (.BoolOp .And [a] pos) ta fa := ⟨pw_and1 ha.pt, ha.ev⟩
theorem dw_or1 {a : Expr} {pos : Pos} {ta fa} (ha : DT X W ω a ta fa) : DW X W ω (.BoolOp .Or [a] pos) ta fa := ⟨pw_or1 ha.pt, ha.ev⟩
theorem dw_and {a b : Expr} {rest : List Expr} {pos : Pos} {ta fa tb fb} (ha : DT X W ω a ta fa) (hb : DW X W ω (.BoolOp .And (b :: rest) pos) tb fb) : DW X W ω (.BoolOp .And (a :: b :: rest) pos) (tAnd ta tb) (bAnd fa fb) :=
  ⟨pw_and ha.pt hb.pw, fun P H0 H σ ρ I Q k => by
    have k' : KG X.K (eqR (P, ownAt ω ρ σ)) σ H W Q ((fa ρ).bind fun b => if b = true then fb ρ else .ok false) := k
    refine ha.ev.bind I eq_anti k' fun d x H1 e s1 I1 r k1 => ?_
    cases (show d = x from r)
    cases d with
    | true => rw [if_pos rfl] at k1 ⊢; exact hb.ev P H0 H1 σ ρ I1 Q k1
    | false => rw [if_neg Bool.false_ne_true] at k1 ⊢; exact k1 _ H1 (Same.rfl' _) rfl⟩
theorem dw_or {a b : Expr} {rest : List Expr} {pos : Pos} {ta fa tb fb} (ha : DT X W ω a ta fa) (hb : DW X W ω (.BoolOp .Or (b :: rest) pos) tb fb) : DW X W ω (.BoolOp .Or (a :: b :: rest) pos) (tOr ta tb) (bOr fa fb) :=
  ⟨pw_or ha.pt hb.pw, fun P H0 H σ ρ I Q k => by
    have k' : KG X.K (eqR (P, ownAt ω ρ σ)) σ H W Q ((fa ρ).bind fun b => if b = true then .ok true else fb ρ) := k
    refine ha.ev.bind I eq_anti k' fun d x H1 e s1 I1 r k1 => ?_
    cases (show d = x from r)
    cases d with
    | true => rw [if_pos rfl] at k1 ⊢; exact k1 _ H1 (Same.rfl' _) rfl
    | false => rw [if_neg Bool.false_ne_true] at k1 ⊢; exact hb.ev P H0 H1 σ ρ I1 Q k1⟩
theorem dw_dt {e : Expr} {t f} (h : DW X W ω e t f) : DT X W ω e t f := ⟨h.pw.pt, h.ev⟩

/-! ### arguments -/
def aNil : En → Res (List D) := fun _ => .ok []
def aCons (fa : En → Res D) (fr : En → Res (List D)) : En → Res (List D) := fun ρ => (fa ρ).bind fun d => (fr ρ).bind fun ds => .ok (d :: ds)
theorem da_nil : DA X W ω [] tNil aNil := ⟨pa_nil, fun P H0 H σ ρ I Q k => k [] H (Same.rfl' _) isl_nil⟩
theorem da_cons {e : Expr} {es : List Expr} {te fe tr fr} (ha : DE X W ω e te fe) (hr : DA X W ω es tr fr) (hs : starEach (e :: es) X.env = (false, eval e X.env) :: starEach es X.env := by rfl) : DA X W ω (e :: es) (tCons te tr) (aCons fe fr) :=
  ⟨pa_cons ha.pe hr.pa hs, fun P H0 H σ ρ I Q k => by
    refine ha.ev.bind I ag_anti k fun d x H1 e s1 I1 r k1 => ?_
    refine hr.ev.bind I1 ag_anti k1 fun ds xs H2 e2 s2 I2 r2 k2 => ?_
    exact k2 _ H2 (Same.rfl' _) (isl_cons (r.mono (mask_same s2 fun _ _ _ z => z)) r2)⟩
theorem dl_nil : DL X W ω [] tNil aNil := ⟨pa_nil, fun P H0 H σ ρ I Q k => k [] H (Same.rfl' _) (show ([] : List V) = [] from rfl)⟩
theorem dl_cons {e : Expr} {es : List Expr} {te fe tr fr} (ha : DS X W ω e te fe) (hr : DL X W ω es tr fr) (hs : starEach (e :: es) X.env = (false, eval e X.env) :: starEach es X.env := by rfl) : DL X W ω (e :: es) (tCons te tr) (aCons fe fr) :=
  ⟨pa_cons ha.pe hr.pa hs, fun P H0 H σ ρ I Q k => by
    refine ha.ev.bind I al_anti k fun d x H1 e s1 I1 r k1 => ?_
    refine hr.ev.bind I1 al_anti k1 fun ds xs H2 e2 s2 I2 r2 k2 => ?_
    exact k2 _ H2 (Same.rfl' _) ⟨x, xs, rfl, r.mono s2, r2⟩⟩

/-! ### displays -/
def eTup (fa : En → Res (List D)) : En → Res D := fun ρ => (fa ρ).bind fun ds => if ds.length ≤ lim then .ok (.tup ds) else .bad
def eLst (fa : En → Res (List D)) : En → Res D := fun ρ => (fa ρ).bind fun ds => if ds.length ≤ lim then .ok (.lst ds) else .bad
theorem de_tup {es : List Expr} {x1 : Nat} {pos : Pos} {ta fa} (ha : DA X W ω es ta fa) (hp : PE X (.Tuple es x1 pos) (tTup ta)) : DE X W ω (.Tuple es x1 pos) (tTup ta) (eTup fa) := ⟨hp, fun P H0 H σ ρ I Q k => by
  refine ha.ev.bind I sh_anti k fun ds xs H1 e s1 I1 r k1 => ?_
  by_cases z : ds.length ≤ lim
  · rw [if_pos z] at k1
    refine ⟨by rw [lim_eq, ← r.length]; exact z, fun p hp => ?_⟩
    exact k1 _ _ (L2.Same.add hp) (sh_tup I1.domH hp r)
  · rw [if_neg z] at k1; exact k1.elim⟩
theorem dn_lst {es : List Expr} {pos : Pos} {ta fa} (ha : DA X W ω es ta fa) (hp : PE X (.List es pos) (tLst ta)) : DN X W ω (.List es pos) (tLst ta) (eLst fa) := ⟨hp, fun P H0 H σ ρ I Q k => by
  refine ha.ev.bind I nw_anti k fun ds xs H1 e s1 I1 r k1 => ?_
  by_cases z : ds.length ≤ lim
  · rw [if_pos z] at k1
    refine ⟨by rw [lim_eq, ← r.length]; exact z, fun p hp => ?_⟩
    exact k1 _ _ (L2.Same.add hp) (nw_lst I1.domH (Same.rfl' _) hp r)
  · rw [if_neg z] at k1; exact k1.elim⟩

/-! ### slices -/
structure DO (X : Cx) (W : WX) (ω : List Nat) (e : Option Expr) (t : TO) (f : En → Res (Option Int)) : Prop where
  po : PO X e t
  ev : EvG X.K W ω eqR t f
def oNone : En → Res (Option Int) := fun _ => .ok none
def asI : D → Res (Option Int)
  | .int i => .ok (some i)
  | _ => .bad
def oSome (fe : En → Res D) : En → Res (Option Int) := fun ρ => (fe ρ).bind asI
theorem do_none : DO X W ω none tNoPart oNone := ⟨po_none, fun P H0 H σ ρ I Q k => k none H (Same.rfl' _) rfl⟩
theorem do_some {e : Expr} {te fe} (h : DE X W ω e te fe) : DO X W ω (some e) (tPart te) (oSome fe) := ⟨po_some h.pe, fun P H0 H σ ρ I Q k => by
  refine h.ev.bind I eq_anti k fun d x H1 e s1 I1 r k1 => ?_
  cases d with
  | int i => exact ⟨i, r, k1 (some i) H1 (Same.rfl' _) rfl⟩
  | _ => exact k1.elim⟩
def cutL {α : Type} (xs : List α) (lo hi : Option Int) : List α := (xs.drop (HT.sIx xs.length 0 lo)).take (HT.sIx xs.length xs.length hi - HT.sIx xs.length 0 lo)
def dSl : D → Option Int → Option Int → Option D
  | .lst ds, lo, hi => some (.lst (cutL ds lo hi))
  | .tup ds, lo, hi => some (.tup (cutL ds lo hi))
  | .str z, lo, hi => if z.length ≤ lim then some (.str (cutS z lo hi)) else none
  | _, _, _ => none
def dSlL : D → Option Int → Option Int → Option D
  | .lst ds, lo, hi => some (.lst (cutL ds lo hi))
  | _, _, _ => none
def eSl (g : D → Option Int → Option Int → Option D) (fa : En → Res D) (fl fh : En → Res (Option Int)) : En → Res D := fun ρ => (fa ρ).bind fun d => (fl ρ).bind fun l => (fh ρ).bind fun h => .ofO (g d l h)
theorem isl_cut {H : Hp} {ds : List D} {xs : List V} {lo hi : Option Int} (r : IsL K H ds xs) : IsL K H (cutL ds lo hi) (cutV xs lo hi) := by
  unfold cutL cutV
  rw [r.length]
  exact (r.drop _).take _
abbrev rSlA' (K : PySem.W.Frag) : V → Option Int → Option Int → Hp → VK → Prop := fun x lo hi H Q => rSlL K x lo hi H Q ∨ (rSlS x lo hi H Q ∨ rSlA K x lo hi H Q)
theorem ev_sl {R : Rel D V} (an : Anti R) {r : V → Option Int → Option Int → Hp → VK → Prop} {g : D → Option Int → Option Int → Option D} {ta tl th fa fl fh}
    (hg : ∀ (h : Hd) H d x lo hi e, (∀ c, h.hid c → ∃ o, H c = some o) → Lnt K h H d x → g d lo hi = some e → ∀ Q : VK, (∀ v H', Same H H' → R h H H' e v → Q v H') → r x lo hi H Q)
    (ha : EvG K W ω (lnR K) ta fa) (hl : EvG K W ω eqR tl fl) (hh : EvG K W ω eqR th fh) : EvG K W ω R (fun σ H Q => ta σ H fun x H1 => tl σ H1 fun l H2 => th σ H2 fun u H3 => r x l u H3 Q) (eSl g fa fl fh) := fun P H0 H σ ρ I Q k => by
  refine ha.bind I an k fun d x H1 e s1 I1 ra k1 => ?_
  refine hl.bind I1 an k1 fun l l' H2 e2 s2 I2 rl k2 => ?_
  cases (show l = l' from rl)
  refine hh.bind I2 an k2 fun u u' H3 e3 s3 I3 ru k3 => ?_
  cases (show u = u' from ru)
  cases q : g d l u with
  | none => rw [q] at k3; exact k3.elim
  | some e =>
    rw [q] at k3
    exact hg _ H3 d x l u e I3.domH (ra.mono (s2.tr s3)) q Q fun v H' s' r' => k3 v H' s' r'
theorem de_slice {a : Expr} {lo hi : Option Expr} {p2 pos : Pos} {ta tl th fa fl fh} (ha : DS X W ω a ta fa) (hl : DO X W ω lo tl fl) (hh : DO X W ω hi th fh) : DE X W ω (.Subscript a (.Slice lo hi none p2) pos) (L2.tSl (rSlA' X.K) ta tl th) (eSl dSl fa fl fh) :=
  ⟨pe_slice (SlR.or sl_list (SlR.or sl_str sl_tupA)) ha.pe hl.po hh.po, ev_sl sh_anti (fun h H d x lo hi e hd ra q Q k => by
    cases d with
    | lst ds =>
      cases Option.some.inj q
      obtain ⟨a, xs, rfl, ha, la⟩ := lnt_lst ra
      exact .inl ⟨a, xs, rfl, SqL.of ha, fun p hp => k _ _ (L2.Same.add hp) (nw_sh hd (nw_lst hd (Same.rfl' _) hp (isl_cut la)))⟩
    | tup ds =>
      cases Option.some.inj q
      have ra' : Is X.K (mask H h.hid) (.tup ds) x := by
        rcases ra with ra | ⟨_, _, _, o⟩
        · exact ra
        · exact o.elim
      obtain ⟨a, xs, rfl, ha, la⟩ := ra'
      refine .inr (.inr ⟨a, xs, rfl, sqt_mono (mask_le _ _) ha, fun z => ?_, fun z p hp => ?_⟩)
      · have e1 : cutL ds lo hi = ds := by
          unfold cutL
          rw [la.length, z.1, z.2, List.drop_zero, Nat.sub_zero]
          exact List.take_of_length_le (Nat.le_of_eq la.length)
        exact k _ H (Same.rfl' _) ⟨a, xs, rfl, ha, by rw [e1]; exact la⟩
      · exact k _ _ (L2.Same.add hp) (sh_tup hd hp (isl_cut la))
    | str z =>
      have q' : (if z.length ≤ lim then some (D.str (cutS z lo hi)) else none) = some e := q
      by_cases hz : z.length ≤ lim
      · rw [if_pos hz] at q'
        cases Option.some.inj q'
        exact .inr (.inl ⟨z, lnt_str ra, by rw [lim_eq]; exact hz, k _ H (Same.rfl' _) rfl⟩)
      · rw [if_neg hz] at q'; cases q'
    | _ => cases q) ha.ev hl.ev hh.ev⟩
theorem dn_slice {a : Expr} {lo hi : Option Expr} {p2 pos : Pos} {ta tl th fa fl fh} (ha : DS X W ω a ta fa) (hl : DO X W ω lo tl fl) (hh : DO X W ω hi th fh) : DN X W ω (.Subscript a (.Slice lo hi none p2) pos) (L2.tSl (rSlL X.K) ta tl th) (eSl dSlL fa fl fh) :=
  ⟨pe_slice sl_list ha.pe hl.po hh.po, ev_sl nw_anti (fun h H d x lo hi e hd ra q Q k => by
    cases d with
    | lst ds =>
      cases Option.some.inj q
      obtain ⟨a, xs, rfl, ha, la⟩ := lnt_lst ra
      exact ⟨a, xs, rfl, SqL.of ha, fun p hp => k _ _ (L2.Same.add hp) (nw_lst hd (Same.rfl' _) hp (isl_cut la))⟩
    | _ => cases q) ha.ev hl.ev hh.ev⟩

/-! ### calls of own defs -/
def KX (K : PySem.W.Frag) (P : Addr → Prop) (H : Hp) (Q : VK) (E : XK) : Res D → Prop
  | .ok d => ∀ v H', Same H H' → Is K (mask H' P) d v → Q v H'
  | .exc x => ∀ c d H', Same H H' → ExIs K H' x c d → E c d H'
  | .bad => False
/-- n things, no other number of them -/
def arN (n : Nat) (F : List D → Res D) (ds : List D) : Res D := if ds.length = n then F ds else .bad
/-- called with n things, it hands back what F says -/
def spF (K : PySem.W.Frag) (n : Nat) (F : List D → Res D) : Sp := fun vs H Q E => ∃ ds P, (∀ a, P a → ∃ o, H a = some o) ∧ IsL K (mask H P) ds vs ∧ KX K P H Q E (arN n F ds)
def KN (K : PySem.W.Frag) (P : Addr → Prop) (H : Hp) (Q : VK) (E : XK) : Res D → Prop
  | .ok d => ∀ v H', Same H H' → nwP K P H H' d v → Q v H'
  | .exc x => ∀ c d H', Same H H' → ExIs K H' x c d → E c d H'
  | .bad => False
/-- .. a new list (dict) -/
def spN (K : PySem.W.Frag) (n : Nat) (F : List D → Res D) : Sp := fun vs H Q E => ∃ ds P, (∀ a, P a → ∃ o, H a = some o) ∧ IsL K (mask H P) ds vs ∧ KN K P H Q E (arN n F ds)
theorem arN_len {n F ds} {r : Res D → Prop} (h : r (arN n F ds)) (hb : ¬ r .bad) : ds.length = n := by
  unfold arN at h
  by_cases z : ds.length = n
  · exact z
  · rw [if_neg z] at h; exact absurd h hb
theorem spF_len {n F vs H Q E} (h : spF K n F vs H Q E) : vs.length = n := by
  obtain ⟨ds, P, _, i, k⟩ := h
  rw [← i.length]; exact arN_len (r := KX K P H Q E) k id
theorem spN_len {n F vs H Q E} (h : spN K n F vs H Q E) : vs.length = n := by
  obtain ⟨ds, P, _, i, k⟩ := h
  rw [← i.length]; exact arN_len (r := KN K P H Q E) k id
structure Fn (P : Program) (w : World) (K : PySem.W.Frag) (mg : Str → Option Value) (base : Heap) (x : Str) (k : Nat) (sp : Sp) : Prop where
  ex : ∃ f fd ps, FnOk P w K mg base (L2.CX P w) k f fd ps sp ∧ mg x = some (.ref f) ∧ PySem.W.keepIn K (.ref f) = true ∧ Binds K fd ps []
theorem Fn.imp {P w K mg base x k} {sp sp' : Sp} (F : Fn P w K mg base x k sp) (h : ∀ vs H Q E, sp' vs H Q E → sp vs H Q E) : Fn P w K mg base x k sp' := by
  obtain ⟨f, fd, ps, a, b⟩ := F.ex
  exact ⟨f, fd, ps, a.imp h, b⟩
theorem Fn.mono {P w K mg base x k j} {sp : Sp} (F : Fn P w K mg base x k sp) (h : k ≤ j) : Fn P w K mg base x j sp := by
  obtain ⟨f, fd, ps, a, b⟩ := F.ex
  exact ⟨f, fd, ps, a.mono h, b⟩
theorem Fn.ofN {P w K mg base x k n} {F : List D → Res D} (h : Fn P w K mg base x k (spN K n F)) : Fn P w K mg base x k (spF K n F) := h.imp fun vs H Q E ⟨ds, P, hd, i, k⟩ => by
  refine ⟨ds, P, hd, i, ?_⟩
  cases q : arN n F ds with
  | ok d => rw [q] at k; exact fun v H' s r => k v H' s (nw_sh hd r)
  | exc x => rw [q] at k; exact k
  | bad => rw [q] at k; exact k
def eCall (n : Nat) (G : List D → Res D) (fa : En → Res (List D)) : En → Res D := fun ρ => (fa ρ).bind (arN n G)
def flatR : Res D → Res D
  | .ok d => if flat d = true then .ok d else .bad
  | r => r
def eCallL (n : Nat) (G : List D → Res D) (fa : En → Res (List D)) : En → Res D := fun ρ => (fa ρ).bind fun ds => flatR (arN n G ds)
theorem ev_call {n : Nat} {G : List D → Res D} {ta fa} (ha : EvG K W ω (agR K) ta fa) : EvG K W ω (shR K) (tCallS (spF K n G) (WE W) ta) (eCall n G fa) := fun P H0 H σ ρ I Q k => by
  refine ha.bind I sh_anti k fun ds vs H1 e s1 I1 r k1 => ?_
  refine ⟨ds, Hd.hid (P, ownAt ω ρ σ), I1.domH, r, ?_⟩
  cases q : arN n G ds with
  | ok d => rw [q] at k1; exact k1
  | exc x => rw [q] at k1; exact k1
  | bad => rw [q] at k1; exact k1
theorem ev_callN {n : Nat} {G : List D → Res D} {ta fa} (ha : EvG K W ω (agR K) ta fa) : EvG K W ω (nwR K) (tCallS (spN K n G) (WE W) ta) (eCall n G fa) := fun P H0 H σ ρ I Q k => by
  refine ha.bind I nw_anti k fun ds vs H1 e s1 I1 r k1 => ?_
  refine ⟨ds, Hd.hid (P, ownAt ω ρ σ), I1.domH, r, ?_⟩
  cases q : arN n G ds with
  | ok d => rw [q] at k1; exact k1
  | exc x => rw [q] at k1; exact k1
  | bad => rw [q] at k1; exact k1
/-- own lists are lent: nothing that is handed back holds a list -/
theorem lnt_out {P : Addr → Prop} {H0 H : Hp} {σ ρ} (I : EnvOk K P H0 H ω σ ρ) : ∀ {ds vs}, LntL K (P, ownAt ω ρ σ) H ds vs → IsL K (mask H P) ds vs
  | [], _, r => r
  | d :: ds, _, ⟨y, ys, e, r1, r2⟩ => by
    refine ⟨y, ys, e, ?_, lnt_out I r2⟩
    have hp : Same (mask H (Hd.hid (P, ownAt ω ρ σ))) (mask H P) := mask_same (Same.rfl' _) fun _ _ _ z => .inl z
    rcases r1 with r1 | ⟨a, rfl, ha, o⟩
    · exact r1.mono hp
    · exact o.is (fun u e => mask_some.mpr ⟨I.apart ha, e⟩) hp
theorem tups_in {P : Addr → Prop} {H0 H H' : Hp} {σ ρ} (I : EnvOk K P H0 H ω σ ρ) (s : Same H H') : TupsIn (mask H' P) (mask H' (Hd.hid (P, ownAt ω ρ σ))) := fun a xs r => by
  have J := I.mono s
  have key : ∀ o, mask H' P a = some o → (∀ ys, o ≠ .lst ys) → (∀ ys, o ≠ .dK ys) → mask H' (Hd.hid (P, ownAt ω ρ σ)) a = some o := fun o e n1 n2 => by
    obtain ⟨np, e⟩ := mask_some.mp e
    refine mask_some.mpr ⟨?_, e⟩
    rintro (z | ⟨i, d, hi, hr, hs⟩)
    · exact np z
    · obtain ⟨b, hb, ow, _⟩ := J.ow i d hr hi
      rw [hs] at hb; cases hb
      cases d with
      | lst ds => obtain ⟨ys, ey, _⟩ := ow; rw [e] at ey; exact n1 _ (Option.some.inj ey)
      | dct ds => obtain ⟨ys, ey, _⟩ := ow; rw [e] at ey; exact n2 _ (Option.some.inj ey)
      | _ => exact ow.elim
  rcases r with r | ⟨o, r⟩
  · exact .inl (key _ r (fun _ z => nomatch z) fun _ z => nomatch z)
  · exact .inr ⟨o, key _ r (fun _ z => nomatch z) fun _ z => nomatch z⟩
theorem ev_callL {n : Nat} {G : List D → Res D} {ta fa} (ha : EvG K W ω (alR K) ta fa) : EvG K W ω (shR K) (tCallS (spF K n G) (WE W) ta) (eCallL n G fa) := fun P H0 H σ ρ I Q k => by
  refine ha.bind I sh_anti k fun ds vs H1 e s1 I1 r k1 => ?_
  refine ⟨ds, P, fun a z => I1.dom (.inl z), lnt_out I1 r, ?_⟩
  cases q : arN n G ds with
  | ok d =>
    rw [q] at k1
    have k1' : KG K (shR K (P, ownAt ω ρ σ)) σ H1 W Q (if flat d = true then .ok d else .bad) := k1
    by_cases z : flat d = true
    · rw [if_pos z] at k1'
      exact fun v H' s r' => k1' v H' s (r'.flat (tups_in I1 s) d z)
    · rw [if_neg z] at k1'; exact k1'.elim
  | exc x => rw [q] at k1; exact k1
  | bad => rw [q] at k1; exact k1
theorem de_call {x : Str} {k j n : Nat} {G : List D → Res D} {e : Expr} {es : List Expr} {p pos : Pos} {ta fa} (F : Fn X.prog X.w X.K X.mg X.base x k (spF X.K n G)) (hr : Room j X.A) (tk : Takes X W) (ha : DA X W ω (e :: es) ta fa) (hk : k ≤ j := by decide)
    (hg : Gl X x := by rfl) (hdb : (x == ("__debug__" : Str)) = false := by decide) (he : starEach (e :: es) X.env = (false, eval e X.env) :: starEach es X.env := by rfl) (hpl : (backTo pos (starEach es X.env)).any (·.1) = false := by rfl) :
    DE X W ω (.Call (.Name x p) (e :: es) [] pos) (tCallS (spF X.K n G) (WE W) ta) (eCall n G fa) := by
  obtain ⟨f, fd, ps, a, b, c, d⟩ := F.ex
  exact ⟨pe_callS a (hr.mono hk) hg b c d (fun σ => passAt tk σ) ha.pa hdb he hpl, ev_call ha.ev⟩
theorem dn_call {x : Str} {k j n : Nat} {G : List D → Res D} {e : Expr} {es : List Expr} {p pos : Pos} {ta fa} (F : Fn X.prog X.w X.K X.mg X.base x k (spN X.K n G)) (hr : Room j X.A) (tk : Takes X W) (ha : DA X W ω (e :: es) ta fa) (hk : k ≤ j := by decide)
    (hg : Gl X x := by rfl) (hdb : (x == ("__debug__" : Str)) = false := by decide) (he : starEach (e :: es) X.env = (false, eval e X.env) :: starEach es X.env := by rfl) (hpl : (backTo pos (starEach es X.env)).any (·.1) = false := by rfl) :
    DN X W ω (.Call (.Name x p) (e :: es) [] pos) (tCallS (spN X.K n G) (WE W) ta) (eCall n G fa) := by
  obtain ⟨f, fd, ps, a, b, c, d⟩ := F.ex
  exact ⟨pe_callS a (hr.mono hk) hg b c d (fun σ => passAt tk σ) ha.pa hdb he hpl, ev_callN ha.ev⟩
/-- with own lists lent -/
theorem de_callL {x : Str} {k j n : Nat} {G : List D → Res D} {e : Expr} {es : List Expr} {p pos : Pos} {ta fa} (F : Fn X.prog X.w X.K X.mg X.base x k (spF X.K n G)) (hr : Room j X.A) (tk : Takes X W) (ha : DL X W ω (e :: es) ta fa) (hk : k ≤ j := by decide)
    (hg : Gl X x := by rfl) (hdb : (x == ("__debug__" : Str)) = false := by decide) (he : starEach (e :: es) X.env = (false, eval e X.env) :: starEach es X.env := by rfl) (hpl : (backTo pos (starEach es X.env)).any (·.1) = false := by rfl) :
    DE X W ω (.Call (.Name x p) (e :: es) [] pos) (tCallS (spF X.K n G) (WE W) ta) (eCallL n G fa) := by
  obtain ⟨f, fd, ps, a, b, c, d⟩ := F.ex
  exact ⟨pe_callS a (hr.mono hk) hg b c d (fun σ => passAt tk σ) ha.pa hdb he hpl, ev_callL ha.ev⟩
/-- f(): a def without parameters that raises nothing -/
def eCall0 (G : List D → Res D) : En → Res D := fun _ => match arN 0 G [] with
  | .ok d => .ok d
  | _ => .bad
theorem de_call0 {x : Str} {k j : Nat} {G : List D → Res D} {p pos : Pos} (F : Fn X.prog X.w X.K X.mg X.base x k (spF X.K 0 G)) (hr : Room j X.A) (hk : k ≤ j := by decide) (hg : Gl X x := by rfl) (hdb : (x == ("__debug__" : Str)) = false := by decide) :
    DE X W ω (.Call (.Name x p) [] [] pos) (tCall (spF X.K 0 G) [] E0 tNil) (eCall0 G) := by
  obtain ⟨f, fd, ps, a, b, c, d⟩ := F.ex
  refine ⟨pe_call0 a (hr.mono hk) hg b c d .nil passL hdb, fun P H0 H σ ρ I Q k => ?_⟩
  refine ⟨[], Hd.hid (P, ownAt ω ρ σ), fun a z => I.dom z, isl_nil, ?_⟩
  unfold eCall0 at k
  cases q : arN 0 G [] with
  | ok d => rw [q] at k; exact k
  | exc x => rw [q] at k; exact k.elim
  | bad => rw [q] at k; exact k.elim
end
end Dl

/-! The data layer, part 4: built-in functions and types, dicts. -/
namespace Dl
open PySem L2

theorem CallR.or {X : Cx} {f : Value} {r r' : List V → Hp → VK → Prop} (h : CallR X f r) (h' : CallR X f r') : CallR X f (fun xs H Q => r xs H Q ∨ r' xs H Q) := fun pins s σ H xs us Q I rv q => q.elim (h pins s σ H xs us Q I rv) (h' pins s σ H xs us Q I rv)
def CbG (K : PySem.W.Frag) (R : Rel D V) (r : List V → Hp → VK → Prop) (op : List D → Option D) : Prop := ∀ (h : Hd) H ds vs d, (∀ c, h.hid c → ∃ o, H c = some o) → LntL K h H ds vs → op ds = some d → ∀ Q : VK, (∀ v H', Same H H' → R h H H' d v → Q v H') → r vs H Q
def eCB (op : List D → Option D) (fa : En → Res (List D)) : En → Res D := fun ρ => (fa ρ).bind fun ds => .ofO (op ds)
def orL (f g : List D → Option D) : List D → Option D := fun a => (f a).orElse fun _ => g a
theorem cg_or {K : PySem.W.Frag} {R : Rel D V} {r r' : List V → Hp → VK → Prop} {f g : List D → Option D} (h1 : CbG K R r f) (h2 : CbG K R r' g) : CbG K R (fun xs H Q => r xs H Q ∨ r' xs H Q) (orL f g) := fun h H ds vs d hd r0 e Q q => by
  unfold orL at e
  cases z : f ds with
  | some d' =>
    rw [z] at e
    cases Option.some.inj e
    exact .inl (h1 h H ds vs d hd r0 z Q q)
  | none =>
    rw [z] at e
    exact .inr (h2 h H ds vs d hd r0 e Q q)
theorem cg_sh {K : PySem.W.Frag} {r : List V → Hp → VK → Prop} {f : List D → Option D} (h1 : CbG K (nwR K) r f) : CbG K (shR K) r f := fun h H ds vs d hd r0 e Q q =>
  h1 h H ds vs d hd r0 e Q fun v H' s r => q v H' s (nw_sh hd r)
section
variable {X : Cx} {W : WX} {ω : List Nat} {K : PySem.W.Frag}
theorem ev_cb {R : Rel D V} (an : Anti R) {r : List V → Hp → VK → Prop} {op : List D → Option D} {ta fa} (hr : CbG K R r op) (ha : EvG K W ω (alR K) ta fa) : EvG K W ω R (tCB r ta) (eCB op fa) := fun P H0 H σ ρ I Q k => by
  refine ha.bind I an k fun ds vs H1 e s1 I1 ra k1 => ?_
  cases q : op ds with
  | none => rw [q] at k1; exact k1.elim
  | some d =>
    rw [q] at k1
    exact hr _ H1 ds vs d I1.domH ra q Q fun v H' s' r' => k1 v H' s' r'
theorem de_cb {x : Str} {id : String} {r : List V → Hp → VK → Prop} {op : List D → Option D} {e : Expr} {es : List Expr} {p pos : Pos} {ta fa} (hc : CallR X (.builtin id) r) (hr : CbG X.K (shR X.K) r op) (hm : X.mg x = none) (hv : bootBuiltins x = some (.builtin id)) (ha : DL X W ω (e :: es) ta fa) (hp : PE X (.Call (.Name x p) (e :: es) [] pos) (tCB r ta)) :
    DE X W ω (.Call (.Name x p) (e :: es) [] pos) (tCB r ta) (eCB op fa) := ⟨hp, ev_cb sh_anti hr ha.ev⟩
theorem dn_cb {x : Str} {r : List V → Hp → VK → Prop} {op : List D → Option D} {e : Expr} {es : List Expr} {p pos : Pos} {ta fa} (hr : CbG X.K (nwR X.K) r op) (ha : DL X W ω (e :: es) ta fa) (hp : PE X (.Call (.Name x p) (e :: es) [] pos) (tCB r ta)) :
    DN X W ω (.Call (.Name x p) (e :: es) [] pos) (tCB r ta) (eCB op fa) := ⟨hp, ev_cb nw_anti hr ha.ev⟩
theorem de_cbx {x : Str} {r : List V → Hp → VK → Prop} {op : List D → Option D} {e : Expr} {es : List Expr} {p pos : Pos} {ta fa} (hr : CbG X.K (shR X.K) r op) (ha : DL X W ω (e :: es) ta fa) (hp : PE X (.Call (.Name x p) (e :: es) [] pos) (tCB r ta)) :
    DE X W ω (.Call (.Name x p) (e :: es) [] pos) (tCB r ta) (eCB op fa) := ⟨hp, ev_cb sh_anti hr ha.ev⟩
theorem lnt1 {h : Hd} {H : Hp} {d : D} {vs : List V} (r : LntL K h H [d] vs) : ∃ v, vs = [v] ∧ Lnt K h H d v := by
  obtain ⟨y, ys, rfl, r1, r2⟩ := r
  cases (show ys = [] from r2)
  exact ⟨y, rfl, r1⟩
theorem lnt2 {h : Hd} {H : Hp} {d e : D} {vs : List V} (r : LntL K h H [d, e] vs) : ∃ v u, vs = [v, u] ∧ Lnt K h H d v ∧ Lnt K h H e u := by
  obtain ⟨y, ys, rfl, r1, r2⟩ := r
  obtain ⟨u, rfl, r3⟩ := lnt1 r2
  exact ⟨y, u, rfl, r1, r3⟩

/-! ### len -/
def dLen : List D → Option D
  | [.lst ds] => some (.int ds.length)
  | [.tup ds] => some (.int ds.length)
  | [.str y] => if y.length ≤ lim then some (.int y.length) else none
  | [.frz ns] => some (.int ns.length)
  | [.dct kvs] => some (.int kvs.length)
  | _ => none
theorem IsK.length {H : Hp} : ∀ {ds : List (Key × D)} {xs : List (Key × V)}, IsK K H ds xs → ds.length = xs.length
  | [], _, h => by cases (show _ = [] from h); rfl
  | d :: ds, _, ⟨y, ys, e, h1, h2⟩ => by subst e; simp [IsK.length h2]
def rLenA (K : PySem.W.Frag) : List V → Hp → VK → Prop := fun xs H Q => (∃ x n, xs = [x] ∧ LenV K x H n ∧ Q (.int n) H) ∨ ∃ a kvs, xs = [V.ref a] ∧ Rd H a (.dK kvs) ∧ Q (.int kvs.length) H
theorem call_lenA : CallR X (.builtin "len") (rLenA X.K) := CallR.or call_len fun pins s σ H xs us Q I r h => by
  obtain ⟨a, kvs, rfl, ha, q⟩ := h
  obtain ⟨u, rfl, ru⟩ := vals1 r
  cases ru
  exact d_len I ha fun t s' I' => ⟨.int kvs.length, H, I', ⟨t, rfl⟩, q⟩
theorem cg_len : CbG K (shR K) (rLenA K) dLen := fun h H ds vs d hd rr e Q q => by
  match ds, e with
  | [.lst ds], e =>
    obtain ⟨v, rfl, r⟩ := lnt1 rr
    obtain ⟨a, xs, rfl, ha, la⟩ := lnt_lst r
    cases Option.some.inj e
    refine .inl ⟨_, xs.length, rfl, .inl ⟨xs, SqL.of ha, rfl⟩, ?_⟩
    rw [← la.length]
    exact q _ H (Same.rfl' _) rfl
  | [.tup ds], e =>
    obtain ⟨v, rfl, r⟩ := lnt1 rr
    obtain ⟨a, xs, rfl, ha, la⟩ := lnt_tup r
    cases Option.some.inj e
    refine .inl ⟨_, xs.length, rfl, .inr ⟨xs, ha, rfl⟩, ?_⟩
    rw [← la.length]
    exact q _ H (Same.rfl' _) rfl
  | [.str y], e =>
    obtain ⟨v, rfl, r⟩ := lnt1 rr
    cases lnt_str r
    have e' : (if y.length ≤ lim then some (D.int y.length) else none) = some d := e
    by_cases z : y.length ≤ lim
    · rw [if_pos z] at e'
      cases Option.some.inj e'
      exact .inl ⟨.str y, y.length, rfl, (show LenV K (.str y) H y.length from ⟨by rw [lim_eq]; exact z, rfl⟩), q _ H (Same.rfl' _) rfl⟩
    · rw [if_neg z] at e'; cases e'
  | [.frz ns], e =>
    obtain ⟨v, rfl, r⟩ := lnt1 rr
    obtain ⟨a, rfl, ha⟩ := lnt_frz r
    cases Option.some.inj e
    refine .inl ⟨_, (ns.map V.int).length, rfl, .inl ⟨_, ha, rfl⟩, ?_⟩
    rw [List.length_map]
    exact q _ H (Same.rfl' _) rfl
  | [.dct ps], e =>
    obtain ⟨v, rfl, r⟩ := lnt1 rr
    obtain ⟨a, xs, rfl, ha, la⟩ := lnt_dct r
    cases Option.some.inj e
    refine .inr ⟨_, xs, rfl, ha, ?_⟩
    rw [← la.length]
    exact q _ H (Same.rfl' _) rfl

/-! ### int(x), list(xs), tuple(xs) -/
def dInt : List D → Option D
  | [.int i] => some (.int i)
  | [.bl k] => some (.int (if k then 1 else 0))
  | _ => none
def rInt1 : List V → Hp → VK → Prop := fun xs H Q => (∃ i, xs = [.int i] ∧ Q (.int i) H) ∨ ∃ k, xs = [.bl k] ∧ Q (.int (if k then 1 else 0)) H
theorem cg_int : CbG K (shR K) rInt1 dInt := fun h H ds vs d hd rr e Q q => by
  match ds, e with
  | [.int i], e =>
    obtain ⟨v, rfl, r⟩ := lnt1 rr
    cases lnt_int r; cases Option.some.inj e
    exact .inl ⟨i, rfl, q _ H (Same.rfl' _) rfl⟩
  | [.bl i], e =>
    obtain ⟨v, rfl, r⟩ := lnt1 rr
    cases lnt_bl r; cases Option.some.inj e
    exact .inr ⟨i, rfl, q _ H (Same.rfl' _) rfl⟩
def dList : List D → Option D
  | [.lst ds] => some (.lst ds)
  | [.tup ds] => some (.lst ds)
  | [.frz ns] => some (.lst (ns.map D.int))
  | _ => none
def rListO (K : PySem.W.Frag) : List V → Hp → VK → Prop := fun xs H Q => ∃ p ys, xs = [.ref p] ∧ (SqL K H p ys ∨ SqT K H p ys) ∧ ∀ l, H l = none → Q (.ref l) (upd H l (.lst ys))
theorem cg_list : CbG K (nwR K) (rListO K) dList := fun h H ds vs d hd rr e Q q => by
  match ds, e with
  | [.lst ds], e =>
    obtain ⟨v, rfl, r⟩ := lnt1 rr
    obtain ⟨a, xs, rfl, ha, la⟩ := lnt_lst r
    cases Option.some.inj e
    exact ⟨a, xs, rfl, .inl (SqL.of ha), fun p hp => q _ _ (L2.Same.add hp) (nw_lst hd (Same.rfl' _) hp la)⟩
  | [.tup ds], e =>
    obtain ⟨v, rfl, r⟩ := lnt1 rr
    obtain ⟨a, xs, rfl, ha, la⟩ := lnt_tup r
    cases Option.some.inj e
    exact ⟨a, xs, rfl, .inr ha, fun p hp => q _ _ (L2.Same.add hp) (nw_lst hd (Same.rfl' _) hp la)⟩
  | [.frz ds], e =>
    obtain ⟨v, rfl, r⟩ := lnt1 rr
    obtain ⟨a, rfl, ha⟩ := lnt_frz r
    cases Option.some.inj e
    exact ⟨a, _, rfl, .inl ha, fun p hp => q _ _ (L2.Same.add hp) (nw_lst hd (Same.rfl' _) hp (isl_ints.mpr rfl))⟩
def dTuple : List D → Option D
  | [.lst ds] => some (.tup ds)
  | [.tup ds] => some (.tup ds)
  | _ => none
def rTupO (K : PySem.W.Frag) : List V → Hp → VK → Prop := fun xs H Q => ∃ p ys, xs = [.ref p] ∧ ((SqL K H p ys ∧ ∀ l, H l = none → Q (.ref l) (upd H l (.tup ys))) ∨ (SqT K H p ys ∧ Q (.ref p) H))
theorem cg_tuple : CbG K (shR K) (rTupO K) dTuple := fun h H ds vs d hd rr e Q q => by
  match ds, e with
  | [.lst ds], e =>
    obtain ⟨v, rfl, r⟩ := lnt1 rr
    obtain ⟨a, xs, rfl, ha, la⟩ := lnt_lst r
    cases Option.some.inj e
    exact ⟨a, xs, rfl, .inl ⟨SqL.of ha, fun p hp => q _ _ (L2.Same.add hp) (sh_tup hd hp la)⟩⟩
  | [.tup ds], e =>
    obtain ⟨v, rfl, r⟩ := lnt1 rr
    have ra' : Is K (mask H h.hid) (.tup ds) v := by
      rcases r with ra | ⟨_, _, _, o⟩
      · exact ra
      · exact o.elim
    cases Option.some.inj e
    obtain ⟨a, xs, rfl, ha, la⟩ := ra'
    exact ⟨a, xs, rfl, .inr ⟨sqt_mono (mask_le _ _) ha, q _ H (Same.rfl' _) ⟨a, xs, rfl, ha, la⟩⟩⟩

/-! ### sum, any, all, min, max -/
def asInt : D → Option Int
  | .int i => some i
  | _ => none
def asBl : D → Option Bool
  | .bl i => some i
  | _ => none
theorem isl_asInt {H : Hp} : ∀ {ds : List D} {xs : List V} {ns : List Int}, IsL K H ds xs → ds.mapM asInt = some ns → xs = ns.map V.int
  | [], _, _, h, e => by cases (show _ = [] from h); simp at e; subst e; rfl
  | d :: ds, _, ns, ⟨y, ys, e1, h1, h2⟩, e => by
    subst e1
    rw [List.mapM_cons] at e
    cases d with
    | int i =>
      cases q2 : ds.mapM asInt with
      | none => rw [q2] at e; cases e
      | some us =>
        rw [q2] at e
        have e' : some (i :: us) = some ns := e
        cases Option.some.inj e'
        rw [(show y = .int i from h1), isl_asInt h2 q2]; rfl
    | _ => cases e
theorem isl_asBl {H : Hp} : ∀ {ds : List D} {xs : List V} {ns : List Bool}, IsL K H ds xs → ds.mapM asBl = some ns → xs = ns.map V.bl
  | [], _, _, h, e => by cases (show _ = [] from h); simp at e; subst e; rfl
  | d :: ds, _, ns, ⟨y, ys, e1, h1, h2⟩, e => by
    subst e1
    rw [List.mapM_cons] at e
    cases d with
    | bl i =>
      cases q2 : ds.mapM asBl with
      | none => rw [q2] at e; cases e
      | some us =>
        rw [q2] at e
        have e' : some (i :: us) = some ns := e
        cases Option.some.inj e'
        rw [(show y = .bl i from h1), isl_asBl h2 q2]; rfl
    | _ => cases e
def onInts (g : List Int → Option D) : List D → Option D
  | [.lst ds] => (ds.mapM asInt).bind g
  | _ => none
def dSum := onInts fun ns => some (.int ns.sum)
theorem cg_sum : CbG K (shR K) (rSum K) dSum := fun h H ds vs d hd rr e Q q => by
  match ds, e with
  | [.lst ds], e =>
    obtain ⟨v, rfl, r⟩ := lnt1 rr
    obtain ⟨a, xs, rfl, ha, la⟩ := lnt_lst r
    obtain ⟨ns, hn, e⟩ := Option.bind_eq_some_iff.mp (show (ds.mapM asInt).bind _ = some d from e)
    cases isl_asInt la hn
    cases Option.some.inj e
    exact ⟨a, ns, rfl, SqL.of ha, q _ H (Same.rfl' _) rfl⟩
def dAny : List D → Option D
  | [.lst ds] => (ds.mapM asBl).map fun bs => .bl (bs.any id)
  | _ => none
def dAll : List D → Option D
  | [.lst ds] => (ds.mapM asBl).map fun bs => .bl (bs.all id)
  | _ => none
theorem cg_any : CbG K (shR K) (rAny K) dAny := fun h H ds vs d hd rr e Q q => by
  match ds, e with
  | [.lst ds], e =>
    obtain ⟨v, rfl, r⟩ := lnt1 rr
    obtain ⟨a, xs, rfl, ha, la⟩ := lnt_lst r
    obtain ⟨ns, hn, rfl⟩ := Option.map_eq_some_iff.mp (show (ds.mapM asBl).map _ = some d from e)
    cases isl_asBl la hn
    exact ⟨a, ns, rfl, SqL.of ha, q _ H (Same.rfl' _) rfl⟩
theorem cg_all : CbG K (shR K) (rAll K) dAll := fun h H ds vs d hd rr e Q q => by
  match ds, e with
  | [.lst ds], e =>
    obtain ⟨v, rfl, r⟩ := lnt1 rr
    obtain ⟨a, xs, rfl, ha, la⟩ := lnt_lst r
    obtain ⟨ns, hn, rfl⟩ := Option.map_eq_some_iff.mp (show (ds.mapM asBl).map _ = some d from e)
    cases isl_asBl la hn
    exact ⟨a, ns, rfl, SqL.of ha, q _ H (Same.rfl' _) rfl⟩
/-- any, all of ints: 0 is none -/
def dAnyI := onInts fun ns => some (.bl (ns.any fun i => i != 0))
def rAnyI (K : PySem.W.Frag) : List V → Hp → VK → Prop := fun vs H Q => ∃ (a : Addr) (ns : List Int), vs = [V.ref a] ∧ SqL K H a (ns.map V.int) ∧ Q (.bl (ns.any fun i => i != 0)) H
theorem any_of {α β : Type} (f : β → Bool) (g : α → β) (d : β) (hd : f d = false) : ∀ l : List α, (List.range l.length).any (fun i => f ((l.map g).getD i d)) = l.any fun x => f (g x)
  | [] => rfl
  | x :: l => by
    have ih := any_of f g d hd l
    rw [List.length_cons, List.range_succ_eq_map, List.any_cons, List.any_map, List.any_cons]
    exact congrArg (fun z => (f (g x) || z)) ih
theorem cr_anyI (hc : X.calm = true) : CallR X (.builtin "any") (rAnyI X.K) := fun pins s σ H vs us Q I r h => by
  obtain ⟨a, ns, rfl, hs, q⟩ := h
  obtain ⟨its, rv, hl, _⟩ := I.list hs
  rw [Vals.ref1 r]
  refine call_any_walk (iter_any hl.isList fun s₂ e2 st hne => ?_)
  subst e2
  have hlen : its.length = ns.length := by
    have z := rv.length
    rw [List.length_map] at z
    exact z.symm
  refine ⟨_, _, _, _, _, _, _, rfl, Walks.list (A := X.A.in1) (I.ok.hd hc) _ a hne its.toArray, st, (fun i v s2 Q2 E2 hv hq => ?_ : TruthOf X.prog X.w X.A.in1 (fun i v => its.toArray[i]? = some v) (fun i => (ns.map fun z => z).getD i 0 != 0)), fun h' tk hk => ?_⟩
  · have hv' : its[i]? = some v := by simpa using hv
    have hi : i < ns.length := by rw [← hlen]; exact (List.getElem?_eq_some_iff.mp hv').1
    obtain ⟨u, hu, ru⟩ := rv.get (i := i) (x := .int ns[i]) (by rw [List.getElem?_map, List.getElem?_eq_getElem hi]; rfl)
    rw [hv'] at hu
    cases hu
    obtain ⟨t, rfl⟩ := ru
    have e3 : (ns.map fun z => z).getD i 0 = ns[i] := by rw [List.getD_eq_getElem?_getD, List.getElem?_map, List.getElem?_eq_getElem hi]; rfl
    have hq' : Q2 ((ns.map fun z => z).getD i 0 != 0) s2 := hq
    rw [e3] at hq'
    exact PyProof.Rows.truthy_int hq'
  · refine ⟨.bl _, H, I.kept fun b o eo => hk b o (fun hmem => ?_) (Heap.get?_push_of_some _ eo), ?_, q⟩
    · rcases List.mem_cons.mp hmem with e1 | hmem
      · exact absurd (e1 ▸ Heap.lt_size eo) (Nat.lt_irrefl _)
      · cases hmem
    · show Value.bool _ = Value.bool _
      rw [List.size_toArray, hlen, any_of (fun i : Int => i != 0) (fun z => z) 0 rfl ns]
theorem cg_anyI : CbG K (shR K) (rAnyI K) dAnyI := fun h H ds vs d hd rr e Q q => by
  match ds, e with
  | [.lst ds], e =>
    obtain ⟨v, rfl, r⟩ := lnt1 rr
    obtain ⟨a, xs, rfl, ha, la⟩ := lnt_lst r
    obtain ⟨ns, hn, e⟩ := Option.bind_eq_some_iff.mp (show (ds.mapM asInt).bind _ = some d from e)
    cases isl_asInt la hn
    cases Option.some.inj e
    exact ⟨a, ns, rfl, SqL.of ha, q _ H (Same.rfl' _) rfl⟩
abbrev rAnyA (K : PySem.W.Frag) : List V → Hp → VK → Prop := fun xs H Q => rAny K xs H Q ∨ rAnyI K xs H Q
def dAnyA := orL dAny dAnyI
theorem cr_anyA (hc : X.calm = true) : CallR X (.builtin "any") (rAnyA X.K) := CallR.or (cr_any hc) (cr_anyI hc)
theorem cg_anyA : CbG K (shR K) (rAnyA K) dAnyA := cg_or cg_any cg_anyI
def dMin2 : List D → Option D
  | [.int i, .int j] => some (.int (if j < i then j else i))
  | _ => none
def rMin2 : List V → Hp → VK → Prop := fun xs H Q => ∃ i j, xs = [.int i, .int j] ∧ Q (.int (if j < i then j else i)) H
theorem cg_min2 : CbG K (shR K) rMin2 dMin2 := fun h H ds vs d hd rr e Q q => by
  match ds, e with
  | [.int i, .int j], e =>
    obtain ⟨v, u, rfl, r1, r2⟩ := lnt2 rr
    cases lnt_int r1; cases lnt_int r2; cases Option.some.inj e
    exact ⟨i, j, rfl, q _ H (Same.rfl' _) rfl⟩
def dMax2 : List D → Option D
  | [.int i, .int j] => some (.int (if j > i then j else i))
  | _ => none
def rMax2 : List V → Hp → VK → Prop := fun xs H Q => ∃ i j, xs = [.int i, .int j] ∧ Q (.int (if j > i then j else i)) H
theorem cg_max2 : CbG K (shR K) rMax2 dMax2 := fun h H ds vs d hd rr e Q q => by
  match ds, e with
  | [.int i, .int j], e =>
    obtain ⟨v, u, rfl, r1, r2⟩ := lnt2 rr
    cases lnt_int r1; cases lnt_int r2; cases Option.some.inj e
    exact ⟨i, j, rfl, q _ H (Same.rfl' _) rfl⟩
/-- the least of some numbers -/
def minL : List Int → Option Int
  | [] => none
  | i :: r => some (r.foldl (fun a b => if b < a then b else a) i)
theorem minL_spec : ∀ (r : List Int) (i : Int), r.foldl (fun a b => if b < a then b else a) i ∈ i :: r ∧ ∀ y ∈ i :: r, r.foldl (fun a b => if b < a then b else a) i ≤ y
  | [], i => ⟨List.mem_cons_self, fun y hy => by
    have e : y = i := by simpa using hy
    rw [e]; exact Int.le_refl _⟩
  | j :: r, i => by
    have ih := minL_spec r (if j < i then j else i)
    rw [List.foldl_cons]
    refine ⟨?_, fun y hy => ?_⟩
    · rcases List.mem_cons.mp ih.1 with e | e
      · rw [e]; split
        · exact List.mem_cons_of_mem _ List.mem_cons_self
        · exact List.mem_cons_self
      · exact List.mem_cons_of_mem _ (List.mem_cons_of_mem _ e)
    · have h0 := ih.2 _ List.mem_cons_self
      have h1 : (if j < i then j else i) ≤ i ∧ (if j < i then j else i) ≤ j := by split <;> omega
      rcases List.mem_cons.mp hy with e | hy
      · rw [e]; exact Int.le_trans h0 h1.1
      · rcases List.mem_cons.mp hy with e | hy
        · rw [e]; exact Int.le_trans h0 h1.2
        · exact ih.2 y (List.mem_cons_of_mem _ hy)
def dMinL := onInts fun ns => (minL ns).map D.int
theorem min_one {ns : List Int} {m k : Int} (h1 : m ∈ ns) (h2 : ∀ y, y ∈ ns → m ≤ y) (h3 : k ∈ ns) (h4 : ∀ y ∈ ns, k ≤ y) : m = k := by
  have := h2 _ h3; have := h4 _ h1; omega
theorem cg_minL : CbG K (shR K) (rMin K) dMinL := fun h H ds vs d hd rr e Q q => by
  match ds, e with
  | [.lst ds], e =>
    obtain ⟨v, rfl, r⟩ := lnt1 rr
    obtain ⟨a, xs, rfl, ha, la⟩ := lnt_lst r
    obtain ⟨ns, hn, e⟩ := Option.bind_eq_some_iff.mp (show (ds.mapM asInt).bind _ = some d from e)
    cases isl_asInt la hn
    cases ns with
    | nil => cases e
    | cons i r =>
      cases Option.some.inj e
      refine ⟨a, i :: r, rfl, SqL.of ha, Nat.succ_pos _, fun m hm hy => ?_⟩
      have sp := minL_spec r i
      rw [min_one hm hy sp.1 sp.2]
      exact q _ H (Same.rfl' _) rfl
abbrev rMinA (K : PySem.W.Frag) : List V → Hp → VK → Prop := fun xs H Q => rMin2 xs H Q ∨ rMin K xs H Q
def dMinA := orL dMin2 dMinL
theorem cr_minA (hc : X.calm = true) : CallR X (.builtin "min") (rMinA X.K) := CallR.or (call_min2 hc) (cr_min hc)
theorem cg_minA : CbG K (shR K) (rMinA K) dMinA := cg_or cg_min2 cg_minL

/-! ### isinstance -/
def tyN : D → Option String
  | .non => some "NoneType"
  | .bl _ => some "bool"
  | .int _ => some "int"
  | .str _ => some "str"
  | .lst _ => some "list"
  | .tup _ => some "tuple"
  | .dct _ => some "dict"
  | .frz _ => none
  | .raw _ => none
def tysB : List String := ["int", "bool", "str", "list", "tuple", "dict"]
def isiB (a b : String) : Bool := a == b || (a == "bool" && b == "int")
theorem kitB_is : ∀ a ∈ ["NoneType", "bool", "int", "str", "list", "tuple", "dict"], ∀ b ∈ tysB, kitB a b = some (isiB a b) := by decide +kernel
def dIsi : List D → Option D
  | [d, .raw (.ty T)] => match tyN d with
    | some a => if tysB.contains T = true then some (.bl (isiB a T)) else none
    | none => none
  | _ => none
theorem tyx_of {h : Hd} {H : Hp} {d : D} {x : V} {a : String} (r : Lnt K h H d x) (e : tyN d = some a) : TyX K H x (.type a) ∧ a ∈ ["NoneType", "bool", "int", "str", "list", "tuple", "dict"] := by
  cases d with
  | non => cases lnt_non r; cases Option.some.inj e; exact ⟨.base .non, by decide⟩
  | bl b => cases lnt_bl r; cases Option.some.inj e; exact ⟨.base (.bl _), by decide⟩
  | int b => cases lnt_int r; cases Option.some.inj e; exact ⟨.base (.int _), by decide⟩
  | str b => cases lnt_str r; cases Option.some.inj e; exact ⟨.base (.str _), by decide⟩
  | lst ds => obtain ⟨p, xs, rfl, hp, _⟩ := lnt_lst r; cases Option.some.inj e; exact ⟨.base (.lst hp), by decide⟩
  | tup ds =>
    obtain ⟨p, xs, rfl, hp, _⟩ := lnt_tup r
    cases Option.some.inj e
    refine ⟨?_, by decide⟩
    rcases hp with (hp | ⟨o, hp⟩) | ⟨o, its, n, hl, hc, _⟩
    · exact .base (.tup hp)
    · exact .fTuple hp
    · exact .kTuple hl hc
  | dct ds =>
    obtain ⟨p, xs, rfl, hp, _⟩ := lnt_dct r
    cases Option.some.inj e
    refine ⟨?_, by decide⟩
    rcases hp with hp | ⟨o, hp⟩
    · exact .base (.dK hp)
    · exact .fDict hp
  | _ => cases e
theorem cg_isi : CbG K (shR K) (rIsi K) dIsi := fun h H ds vs d hd rr e Q q => by
  match ds, e with
  | [d0, .raw (.ty T)], e =>
    obtain ⟨v, u, rfl, r1, r2⟩ := lnt2 rr
    cases lnt_raw r2
    have e0 : (match tyN d0 with
      | some a => if tysB.contains T = true then some (D.bl (isiB a T)) else none
      | none => none) = some d := e
    cases ha : tyN d0 with
    | none => rw [ha] at e0; cases e0
    | some a =>
      rw [ha] at e0
      have e' : (if tysB.contains T = true then some (D.bl (isiB a T)) else none) = some d := e0
      by_cases z : tysB.contains T = true
      · rw [if_pos z] at e'
        cases Option.some.inj e'
        obtain ⟨tx, ma⟩ := tyx_of r1 ha
        exact ⟨v, .ty T, .type a, .type T, isiB a T, rfl, .ty T, tx, kit_ty (kitB_is a ma T (by simpa using z)), q _ H (Same.rfl' _) rfl⟩
      · rw [if_neg z] at e'; cases e'

/-! ### dicts -/
def valG {α : Type} (kvs : List (Key × α)) (k : Key) : Option α := (kvs.find? fun kv => decide (kv.1 = k)).map (·.2)
def putG {α : Type} (kvs : List (Key × α)) (k : Key) (v : α) : List (Key × α) := if (kvs.any fun kv => decide (kv.1 = k)) = true then kvs.map (fun kv => if kv.1 = k then (kv.1, v) else kv) else kvs ++ [(k, v)]
theorem isk_val {H : Hp} {k : Key} : ∀ {ds : List (Key × D)} {xs : List (Key × V)}, IsK K H ds xs → (valG ds k = none ∧ valV xs k = none) ∨ ∃ d v, valG ds k = some d ∧ valV xs k = some v ∧ Is K H d v
  | [], _, h => by cases (show _ = [] from h); exact .inl ⟨rfl, rfl⟩
  | (k', d) :: ds, _, ⟨y, ys, e, h1, h2⟩ => by
    subst e
    obtain ⟨h1, hv⟩ := h1
    obtain ⟨yk, yv⟩ := y
    have ek : yk = k' := h1
    subst ek
    by_cases z : yk = k
    · refine .inr ⟨d, yv, ?_, ?_, hv⟩
      · simp [valG, List.find?_cons, z]
      · simp [valV, List.find?_cons, z]
    · have e1 : valG ((yk, d) :: ds) k = valG ds k := by simp [valG, List.find?_cons, z]
      have e2 : valV ((yk, yv) :: ys) k = valV ys k := by simp [valV, List.find?_cons, z]
      rw [e1, e2]
      exact isk_val h2
theorem isk_any {H : Hp} {k : Key} : ∀ {ds : List (Key × D)} {xs : List (Key × V)}, IsK K H ds xs → (ds.any fun kv => decide (kv.1 = k)) = xs.any fun kv => decide (kv.1 = k)
  | [], _, h => by cases (show _ = [] from h); rfl
  | (k', d) :: ds, _, ⟨y, ys, e, h1, h2⟩ => by
    subst e
    rw [List.any_cons, List.any_cons, isk_any h2, h1.1]
theorem isk_app {H : Hp} : ∀ {ds es : List (Key × D)} {xs ys : List (Key × V)}, IsK K H ds xs → IsK K H es ys → IsK K H (ds ++ es) (xs ++ ys)
  | [], _, _, _, h, h' => by cases (show _ = [] from h); exact h'
  | d :: ds, _, _, _, ⟨y, ys, e, h1, h2⟩, h' => by subst e; exact ⟨y, _, rfl, h1, isk_app h2 h'⟩
theorem isk_put {H : Hp} {k : Key} {d : D} {v : V} (hv : Is K H d v) {ds : List (Key × D)} {xs : List (Key × V)} (r : IsK K H ds xs) : IsK K H (putG ds k d) (putK xs k v) := by
  unfold putG putK
  rw [isk_any r]
  split
  · have go : ∀ {ds : List (Key × D)} {xs : List (Key × V)}, IsK K H ds xs → IsK K H (ds.map fun kv => if kv.1 = k then (kv.1, d) else kv) (xs.map fun kv => if kv.1 = k then (kv.1, v) else kv) := by
      intro ds
      induction ds with
      | nil => intro xs h; cases (show _ = [] from h); rfl
      | cons p ds ih =>
        intro xs h
        obtain ⟨y, ys, rfl, h1, h2⟩ := h
        refine ⟨_, _, rfl, ?_, ih h2⟩
        obtain ⟨pk, pd⟩ := p
        obtain ⟨yk, yv⟩ := y
        obtain ⟨h1, h3⟩ := h1
        have ek : yk = pk := h1
        subst ek
        by_cases z : yk = k
        · simp only [z, if_true]; exact (show IsP K H (k, d) (k, v) from ⟨rfl, hv⟩)
        · simp only [z, if_false]; exact (show IsP K H (yk, pd) (yk, yv) from ⟨rfl, h3⟩)
    exact go r
  · exact isk_app r ⟨_, [], rfl, ⟨rfl, hv⟩, rfl⟩
def asKey : D → Option Key
  | .int i => some (.inl i)
  | .str x => some (.inr x)
  | _ => none
theorem lnt_key {h : Hd} {H : Hp} {d : D} {v : V} {k : Key} (r : Lnt K h H d v) (e : asKey d = some k) : v = kV k := by
  cases d with
  | int i => cases lnt_int r; cases Option.some.inj e; rfl
  | str i => cases lnt_str r; cases Option.some.inj e; rfl
  | _ => cases e
theorem lnt_dctM {h : Hd} {H : Hp} {x : V} {ps : List (Key × D)} (r : Lnt K h H (.dct ps) x) : ∃ a ws, x = .ref a ∧ Rd H a (.dK ws) ∧ IsK K (mask H h.hid) ps ws := lnt_dct r
def dGet : D → D → Option D
  | .dct kvs, k => (asKey k).bind fun k => valG kvs k
  | _, _ => none
def dHas (neg : Bool) : D → D → Option D
  | k, .dct kvs => (asKey k).map fun k => .bl (if neg then !(valG kvs k).isSome else (valG kvs k).isSome)
  | _, _ => none
theorem de_dget {o i : Expr} {pos : Pos} {td ty fd fy} (hu : X.A.units + 1 < cLine) (ho : DS X W ω o td fd) (hi : DS X W ω i ty fy) (hs : NoSl i) : DE X W ω (.Subscript o i pos) (tDGet td ty) (eBin dGet fd fy) :=
  ⟨pe_dget hu ho.pe hi.pe hs, fun P H0 H σ ρ I Q k => by
    refine ho.ev.bind I sh_anti k fun a x H1 ea s1 I1 ra k1 => ?_
    refine hi.ev.bind I1 sh_anti k1 fun b y H2 eb s2 I2 rb k2 => ?_
    cases a with
    | dct kvs =>
      cases q : asKey b with
      | none => rw [show dGet (.dct kvs) b = (asKey b).bind _ from rfl, q] at k2; exact k2.elim
      | some kk =>
        rw [show dGet (.dct kvs) b = (asKey b).bind _ from rfl, q] at k2
        obtain ⟨p, ws, rfl, hp, lp⟩ := lnt_dct (ra.mono s2)
        cases lnt_key rb q
        rcases isk_val (k := kk) lp with ⟨e1, _⟩ | ⟨d, v, e1, e2, iv⟩
        · have k3 : KG X.K (shR X.K (P, ownAt ω ρ σ)) σ H2 W Q (Res.ofO (valG kvs kk)) := k2
          rw [e1] at k3; exact k3.elim
        · have k3 : KG X.K (shR X.K (P, ownAt ω ρ σ)) σ H2 W Q (Res.ofO (valG kvs kk)) := k2
          rw [e1] at k3
          exact ⟨p, v, rfl, .inl ⟨ws, kk, hp, rfl, e2.symm⟩, k3 v H2 (Same.rfl' _) iv⟩
    | _ => exact k2.elim⟩
theorem ev_dhas {neg : Bool} {ty td fy fd} (hi : EvG K W ω (lnR K) ty fy) (ho : EvG K W ω (lnR K) td fd) :
    EvG K W ω (shR K) (fun σ H Q => ty σ H fun y H1 => td σ H1 fun x H2 => ∃ a o, x = .ref a ∧ DGet H2 a y o ∧ Q (.bl (if neg then !o.isSome else o.isSome)) H2) (eBin (dHas neg) fy fd) := fun P H0 H σ ρ I Q k => by
  refine hi.bind I sh_anti k fun b y H1 eb s1 I1 rb k1 => ?_
  refine ho.bind I1 sh_anti k1 fun a x H2 ea s2 I2 ra k2 => ?_
  cases a with
  | dct kvs =>
    cases q : asKey b with
    | none => rw [show dHas neg b (.dct kvs) = (asKey b).map _ from rfl, q] at k2; exact k2.elim
    | some kk =>
      rw [show dHas neg b (.dct kvs) = (asKey b).map _ from rfl, q] at k2
      have k3 : KG K (shR K (P, ownAt ω ρ σ)) σ H2 W Q (Res.ok (.bl (if neg then !(valG kvs kk).isSome else (valG kvs kk).isSome))) := k2
      obtain ⟨p, ws, rfl, hp, lp⟩ := lnt_dct ra
      cases lnt_key rb q
      refine ⟨p, valV ws kk, rfl, .inl ⟨ws, kk, hp, rfl, rfl⟩, k3 _ H2 (Same.rfl' _) ?_⟩
      rcases isk_val (k := kk) lp with ⟨e1, e2⟩ | ⟨d, v, e1, e2, iv⟩
      · rw [e1, e2]; rfl
      · rw [e1, e2]; rfl
  | _ => exact k2.elim
theorem de_din {i o : Expr} {pos : Pos} {ty td fy fd} (hu : X.A.units + 1 < cLine) (hi : DS X W ω i ty fy) (ho : DS X W ω o td fd) (hp : PE X (.Compare i [.In] [o] pos) (tDIn ty td)) : DE X W ω (.Compare i [.In] [o] pos) (tDIn ty td) (eBin (dHas false) fy fd) :=
  ⟨hp, ev_dhas (neg := false) hi.ev ho.ev⟩
theorem de_dnotin {i o : Expr} {pos : Pos} {ty td fy fd} (hu : X.A.units + 1 < cLine) (hi : DS X W ω i ty fy) (ho : DS X W ω o td fd) (hp : PE X (.Compare i [.NotIn] [o] pos) (tDNotIn ty td)) : DE X W ω (.Compare i [.NotIn] [o] pos) (tDNotIn ty td) (eBin (dHas true) fy fd) :=
  ⟨hp, ev_dhas (neg := true) hi.ev ho.ev⟩
theorem dn_dict0 {pos : Pos} : DN X W ω (.Dict [] [] pos) tDNewK (eC (.dct [])) := ⟨pe_dnewK, fun P H0 H σ ρ I Q k => fun p hp => k _ _ (L2.Same.add hp) (nw_dct I.domH (Same.rfl' _) hp rfl)⟩
/-- sorted(d), the keys ints, fewer than 64 -/
def asL : Key → Option Int
  | .inl i => some i
  | .inr _ => none
def ins (x : Int) : List Int → List Int
  | [] => [x]
  | y :: r => if x ≤ y then x :: y :: r else y :: ins x r
def isort : List Int → List Int
  | [] => []
  | x :: r => ins x (isort r)
theorem ins_perm (x : Int) : ∀ r, (ins x r).Perm (x :: r)
  | [] => .refl _
  | y :: r => by
    unfold ins
    split
    · exact .refl _
    · exact ((ins_perm x r).cons y).trans (.swap x y r)
theorem isort_perm : ∀ r, (isort r).Perm r
  | [] => .refl _
  | x :: r => (ins_perm x _).trans ((isort_perm r).cons x)
theorem ins_sorted (x : Int) : ∀ {r : List Int}, r.Pairwise (· ≤ ·) → (ins x r).Pairwise (· ≤ ·)
  | [], _ => by unfold ins; exact List.pairwise_singleton _ _
  | y :: r, h => by
    obtain ⟨h1, h2⟩ := List.pairwise_cons.mp h
    unfold ins
    split
    · rename_i hx
      exact List.pairwise_cons.mpr ⟨fun z hz => by
        rcases List.mem_cons.mp hz with e | hz
        · subst e; exact hx
        · exact Int.le_trans hx (h1 z hz), h⟩
    · rename_i hx
      refine List.pairwise_cons.mpr ⟨fun z hz => ?_, ins_sorted x h2⟩
      rcases List.mem_cons.mp ((ins_perm x r).mem_iff.mp hz) with e | hz
      · subst e; omega
      · exact h1 z hz
theorem isort_sorted : ∀ r, (isort r).Pairwise (· ≤ ·)
  | [] => .nil
  | x :: r => ins_sorted x (isort_sorted r)
theorem sorted_one : ∀ {a b : List Int}, a.Perm b → a.Pairwise (· ≤ ·) → b.Pairwise (· ≤ ·) → a = b
  | [], b, h, _, _ => by rw [List.nil_perm.mp h]
  | x :: a, b, h, ha, hb => by
    cases b with
    | nil => exact absurd h.length_eq (by simp)
    | cons y b =>
      obtain ⟨h1, h2⟩ := List.pairwise_cons.mp ha
      obtain ⟨h3, h4⟩ := List.pairwise_cons.mp hb
      have e : x = y := by
        have m1 : x ∈ y :: b := h.mem_iff.mp List.mem_cons_self
        have m2 : y ∈ x :: a := h.mem_iff.mpr List.mem_cons_self
        rcases List.mem_cons.mp m1 with e | m1
        · exact e
        · rcases List.mem_cons.mp m2 with e | m2
          · exact e.symm
          · have := h3 x m1; have := h1 y m2; omega
      subst e
      rw [sorted_one (List.Perm.cons_inv h) h2 h4]
def dSortK : List D → Option D
  | [.dct kvs] => (kvs.mapM fun kv => asL kv.1).bind fun ks => if ks.length < 64 then some (.lst ((isort ks).map D.int)) else none
  | _ => none
def rSortDI : List V → Hp → VK → Prop := fun xs H Q => ∃ (a : Addr) (kvs : List (Key × V)) (ks : List Int), xs = [.ref a] ∧ Rd H a (.dK kvs) ∧ kvs.map (·.1) = ks.map Sum.inl ∧ ks.length < 64 ∧
    ∀ (ys : List Int) (p : Addr), ys.Perm ks → ys.Pairwise (· ≤ ·) → H p = none → Q (.ref p) (upd H p (.lst (ys.map V.int)))
theorem isk_keys {H : Hp} : ∀ {ds : List (Key × D)} {xs : List (Key × V)} {ks : List Int}, IsK K H ds xs → (ds.mapM fun kv => asL kv.1) = some ks → xs.map (·.1) = ks.map Sum.inl
  | [], _, _, h, e => by cases (show _ = [] from h); simp at e; subst e; rfl
  | (k, d) :: ds, _, ks, ⟨y, ys, e1, h1, h2⟩, e => by
    subst e1
    rw [List.mapM_cons] at e
    cases k with
    | inl i =>
      cases q2 : ds.mapM (fun kv => asL kv.1) with
      | none => rw [q2] at e; cases e
      | some us =>
        rw [q2] at e
        have e' : some (i :: us) = some ks := e
        cases Option.some.inj e'
        rw [List.map_cons, List.map_cons, isk_keys h2 q2, h1.1]
    | inr x => cases e
theorem cg_sortK : CbG K (nwR K) rSortDI dSortK := fun h H ds vs d hd rr e Q q => by
  match ds, e with
  | [.dct kvs], e =>
    obtain ⟨v, rfl, r⟩ := lnt1 rr
    obtain ⟨a, xs, rfl, ha, la⟩ := lnt_dct r
    obtain ⟨ks, hk, e⟩ := Option.bind_eq_some_iff.mp (show (kvs.mapM fun kv => asL kv.1).bind _ = some d from e)
    by_cases z : ks.length < 64
    · rw [if_pos z] at e
      cases Option.some.inj e
      refine ⟨a, xs, ks, rfl, ha, isk_keys la hk, z, fun ys p hp hs hn => ?_⟩
      rw [sorted_one (hp.trans (isort_perm ks).symm) hs (isort_sorted ks)]
      exact q _ _ (L2.Same.add hn) (nw_lst hd (Same.rfl' _) hn (isl_ints.mpr rfl))
    · rw [if_neg z] at e; cases e
/-! ### x.bit_length() -/
def eBits (fa : En → Res D) : En → Res D := fun ρ => (fa ρ).bind fun d => match d with
  | .int i => .ok (.int (Builtin.Int.intBits i : Nat))
  | _ => .bad
theorem de_bits {o : Expr} {apos pos : Pos} {to fo} (ho : DE X W ω o to fo) (hp : PE X (.Call (.Attribute o "bit_length" apos) [] [] pos) (tBits to)) : DE X W ω (.Call (.Attribute o "bit_length" apos) [] [] pos) (tBits to) (eBits fo) :=
  ⟨hp, fun P H0 H σ ρ I Q k => by
    refine ho.ev.bind I sh_anti k fun d x H1 e s1 I1 r k1 => ?_
    cases d with
    | int i => exact ⟨i, r, k1 _ H1 (Same.rfl' _) rfl⟩
    | _ => exact k1.elim⟩
/-! ### signs -/
def un1 (g : Int → Int) (fa : En → Res D) : En → Res D := fun ρ => (fa ρ).bind fun d => match d with
  | .int i => .ok (.int (g i))
  | _ => .bad
theorem de_un {op} {a : Expr} {pos : Pos} {g : Int → Int} {ta fa} (ho : UnR X (unaryOp op) (rU fun i => .int (g i))) (ha : DE X W ω a ta fa) : DE X W ω (.UnaryOp op a pos) (tUn (rU fun i => .int (g i)) ta) (un1 g fa) := ⟨pe_un ho ha.pe, fun P H0 H σ ρ I Q k => by
    refine ha.ev.bind I sh_anti k fun d x H1 e s1 I1 r k1 => ?_
    cases d with
    | int i => exact ⟨i, r, k1 _ H1 (Same.rfl' _) rfl⟩
    | _ => exact k1.elim⟩
end
end Dl

/-! The data layer, part 5: what is walked, comprehensions. -/
namespace Dl
open PySem L2

/-! ### iterators -/
def IterOk (K : PySem.W.Frag) (hd : Addr → Prop) (B : Hp) (J : It) (ds : List D) : Prop := ∀ H, Same B H → (∀ i, ds.length ≤ i → J.stop i H) ∧ ∀ i d, ds[i]? = some d → J.go i H ∧ ∀ x H2, J.yld i H x H2 → Same H H2 ∧
  ∀ h : Addr → Prop, (∀ a, h a → ∃ o, H a = some o) → Same (mask B hd) (mask H h) → Is K (mask H2 h) d x
/-- over a loop: all but what is own stands -/
def itR (K : PySem.W.Frag) : Rel (List D) It := fun h _ H' ds J => IterOk K h.1 (mask H' h.2) J ds
/-- within a comprehension: all stands -/
def icR (K : PySem.W.Frag) : Rel (List D) It := fun h _ H' ds J => IterOk K h.hid H' J ds
theorem it_anti {K} : Anti (itR K) := fun _ _ _ _ _ _ _ r => r
theorem ic_anti {K} : Anti (icR K) := fun _ _ _ _ _ _ _ r => r
section
variable {K : PySem.W.Frag} {hd : Addr → Prop} {B : Hp}
theorem iter_list {a : Addr} {xs : List V} {ds : List D} (ha : SqL K B a xs) (r : IsL K (mask B hd) ds xs) : IterOk K hd B (Itl K a) ds := fun H s =>
  ⟨fun i hi => ⟨xs, sql_mono s ha, by rw [← r.length]; exact hi⟩, fun i d e => by
    obtain ⟨x, hx, ix⟩ := r.get e
    refine ⟨⟨xs, x, sql_mono s ha, hx⟩, fun y H2 hy => ?_⟩
    obtain ⟨rfl, hy⟩ := hy
    have e2 := hy xs (sql_mono s ha)
    rw [hx] at e2
    cases Option.some.inj e2
    exact ⟨Same.rfl' _, fun h _ s2 => ix.mono s2⟩⟩
theorem iter_tup {a : Addr} {xs : List V} {ds : List D} (ha : SqT K B a xs) (r : IsL K (mask B hd) ds xs) : IterOk K hd B (Itt K a) ds := fun H s =>
  ⟨fun i hi => ⟨xs, sqt_mono s ha, by rw [← r.length]; exact hi⟩, fun i d e => by
    obtain ⟨x, hx, ix⟩ := r.get e
    refine ⟨⟨xs, x, sqt_mono s ha, hx⟩, fun y H2 hy => ?_⟩
    obtain ⟨rfl, hy⟩ := hy
    have e2 := hy xs (sqt_mono s ha)
    rw [hx] at e2
    cases Option.some.inj e2
    exact ⟨Same.rfl' _, fun h _ s2 => ix.mono s2⟩⟩
def signsD (z : Str) : List D := z.cps.toList.map fun c => .str ⟨#[c]⟩
theorem iter_str {z : Str} : IterOk K hd B (Its z) (signsD z) := fun H s =>
  ⟨fun i hi => by show z.cps.size ≤ i; simpa [signsD] using hi, fun i d e => by
    unfold signsD at e
    rw [List.getElem?_map] at e
    obtain ⟨c, hc, rfl⟩ := Option.map_eq_some_iff.mp e
    have hc' : z.cps[i]? = some c := by simpa using hc
    refine ⟨(Array.getElem?_eq_some_iff.mp hc').1, fun y H2 hy => ?_⟩
    obtain ⟨rfl, c', h1, rfl⟩ := hy
    rw [hc'] at h1
    cases Option.some.inj h1
    exact ⟨Same.rfl' _, fun h _ s2 => rfl⟩⟩
def rngD (lo : Int) (n : Nat) : List D := (List.range n).map fun k => .int (lo + (k : Nat))
theorem iter_rng {lo : Int} {n : Nat} : IterOk K hd B (Itr lo n) (rngD lo n) := fun H s =>
  ⟨fun i hi => by show n ≤ i; simpa [rngD] using hi, fun i d e => by
    unfold rngD at e
    rw [List.getElem?_map] at e
    obtain ⟨c, hc, rfl⟩ := Option.map_eq_some_iff.mp e
    obtain ⟨h1, h2⟩ := List.getElem?_eq_some_iff.mp hc
    rw [List.length_range] at h1
    rw [List.getElem_range] at h2
    subst h2
    refine ⟨h1, fun y H2 hy => ?_⟩
    obtain ⟨rfl, rfl⟩ := hy
    exact ⟨Same.rfl' _, fun h _ s2 => rfl⟩⟩
def rng3D (lo c : Int) (n : Nat) : List D := (List.range n).map fun k => .int (lo + (k : Nat) * c)
theorem iter_rng3 {lo c : Int} {n : Nat} : IterOk K hd B (Itc lo c n) (rng3D lo c n) := fun H s =>
  ⟨fun i hi => by show n ≤ i; simpa [rng3D] using hi, fun i d e => by
    unfold rng3D at e
    rw [List.getElem?_map] at e
    obtain ⟨k, hc, rfl⟩ := Option.map_eq_some_iff.mp e
    obtain ⟨h1, h2⟩ := List.getElem?_eq_some_iff.mp hc
    rw [List.length_range] at h1
    rw [List.getElem_range] at h2
    subst h2
    refine ⟨h1, fun y H2 hy => ?_⟩
    obtain ⟨rfl, rfl⟩ := hy
    exact ⟨Same.rfl' _, fun h _ s2 => rfl⟩⟩
/-- a new pair yielded -/
theorem yld_tup {H : Hp} {h : Addr → Prop} {T : Addr} {xs : List V} {ds : List D} (hT : H T = none) (hd' : ∀ a, h a → ∃ o, H a = some o) (r : IsL K (mask H h) ds xs) : Is K (mask (upd H T (.tup xs)) h) (.tup ds) (.ref T) := by
  refine ⟨T, xs, rfl, .inl (.inl (mask_some.mpr ⟨fun z => ?_, upd_same⟩)), r.mono (mask_same (L2.Same.add hT) fun _ _ _ z => z)⟩
  obtain ⟨o, e⟩ := hd' T z
  rw [hT] at e; cases e
def enumD : Nat → List D → List D
  | _, [] => []
  | i, d :: ds => .tup [.int (i : Nat), d] :: enumD (i + 1) ds
theorem enumD_len : ∀ (ds : List D) (i : Nat), (enumD i ds).length = ds.length
  | [], _ => rfl
  | d :: ds, i => by simp [enumD, enumD_len ds]
theorem enumD_get : ∀ (ds : List D) (j i : Nat) {e : D}, (enumD j ds)[i]? = some e → ∃ d, ds[i]? = some d ∧ e = .tup [.int ((j + i : Nat) : Int), d]
  | [], _, i, e, h => by simp [enumD] at h
  | d :: ds, j, 0, e, h => by
    simp [enumD] at h
    exact ⟨d, rfl, h.symm⟩
  | d :: ds, j, i + 1, e, h => by
    have h' : (enumD (j + 1) ds)[i]? = some e := by simpa [enumD] using h
    obtain ⟨d', h1, h2⟩ := enumD_get ds (j + 1) i h'
    refine ⟨d', by simpa using h1, ?_⟩
    rw [h2, show j + 1 + i = j + (i + 1) by omega]
theorem iter_enum {a : Addr} {xs : List V} {ds : List D} (ha : SqL K B a xs) (r : IsL K (mask B hd) ds xs) : IterOk K hd B (Ite K a) (enumD 0 ds) := fun H s =>
  ⟨fun i hi => ⟨xs, sql_mono s ha, by rw [← r.length, ← enumD_len ds 0]; exact hi⟩, fun i d e => by
    obtain ⟨d', hd', rfl⟩ := enumD_get ds 0 i e
    obtain ⟨x, hx, ix⟩ := r.get hd'
    refine ⟨⟨xs, x, sql_mono s ha, hx⟩, fun y H2 hy => ?_⟩
    obtain ⟨T, x', rfl, hT, rfl, hy⟩ := hy
    have e2 := hy xs (sql_mono s ha)
    rw [hx] at e2
    cases Option.some.inj e2
    refine ⟨L2.Same.add hT, fun h hdom s2 => yld_tup hT hdom ?_⟩
    rw [Nat.zero_add]
    exact isl_cons rfl (isl_cons (ix.mono s2) isl_nil)⟩
def zipD : List D → List D → List D
  | d :: ds, e :: es => .tup [d, e] :: zipD ds es
  | _, _ => []
theorem zipD_len : ∀ (ds es : List D), (zipD ds es).length = min ds.length es.length
  | [], _ => by simp [zipD]
  | d :: ds, [] => by simp [zipD]
  | d :: ds, e :: es => by simp [zipD, zipD_len ds es]
theorem zipD_get : ∀ (ds es : List D) (i : Nat) {e : D}, (zipD ds es)[i]? = some e → ∃ a b, ds[i]? = some a ∧ es[i]? = some b ∧ e = .tup [a, b]
  | [], _, i, e, h => by simp [zipD] at h
  | d :: ds, [], i, e, h => by simp [zipD] at h
  | d :: ds, e' :: es, 0, e, h => by simp [zipD] at h; exact ⟨d, e', rfl, rfl, h.symm⟩
  | d :: ds, e' :: es, i + 1, e, h => by
    have h' : (zipD ds es)[i]? = some e := by simpa [zipD] using h
    obtain ⟨a, b, h1, h2, h3⟩ := zipD_get ds es i h'
    exact ⟨a, b, by simpa using h1, by simpa using h2, h3⟩
theorem iter_zip {a b : Addr} {xs ys : List V} {ds es : List D} (ha : SqL K B a xs) (r : IsL K (mask B hd) ds xs) (hb : SqL K B b ys) (r' : IsL K (mask B hd) es ys) : IterOk K hd B (Itz K a b) (zipD ds es) := fun H s =>
  ⟨fun i hi => ⟨xs, ys, sql_mono s ha, sql_mono s hb, by rw [zipD_len, r.length, r'.length] at hi; omega⟩, fun i d e => by
    obtain ⟨d1, d2, h1, h2, rfl⟩ := zipD_get ds es i e
    obtain ⟨x, hx, ix⟩ := r.get h1
    obtain ⟨y, hy, iy⟩ := r'.get h2
    refine ⟨⟨xs, ys, x, y, sql_mono s ha, sql_mono s hb, hx, hy⟩, fun v H2 hv => ?_⟩
    obtain ⟨T, x', y', rfl, hT, rfl, q1, q2⟩ := hv
    have e1 := q1 xs (sql_mono s ha)
    have e2 := q2 ys (sql_mono s hb)
    rw [hx] at e1
    rw [hy] at e2
    cases Option.some.inj e1
    cases Option.some.inj e2
    exact ⟨L2.Same.add hT, fun h hdom s2 => yld_tup hT hdom (isl_cons (ix.mono s2) (isl_cons (iy.mono s2) isl_nil))⟩⟩
end

structure DI (X : Cx) (W : WX) (ω : List Nat) (tg iter : Expr) (wi : TI) (f : En → Res (List D)) : Prop where
  pi : PI X tg iter wi
  ev : EvG X.K W ω (itR X.K) wi f
structure DC (X : Cx) (W : WX) (ω : List Nat) (tg iter : Expr) (wi : TI) (f : En → Res (List D)) : Prop where
  pi : PI X tg iter wi
  ev : EvG X.K W ω (icR X.K) wi f
theorem pi_or {X : Cx} {tg iter : Expr} {w1 w2 : TI} (h1 : PI X tg iter w1) (h2 : PI X tg iter w2) : PI X tg iter (fun σ H R => w1 σ H R ∨ w2 σ H R) := ⟨fun pins s σ H R I q => q.elim (h1.run pins s σ H R I) (h2.run pins s σ H R I)⟩
def itemsD : D → Option (List D)
  | .lst ds => some ds
  | .tup ds => some ds
  | .str z => some (signsD z)
  | .frz ns => some (ns.map D.int)
  | _ => none
def iSeq (fe : En → Res D) : En → Res (List D) := fun ρ => (fe ρ).bind fun d => .ofO (itemsD d)
abbrev wSeq (K : PySem.W.Frag) (te : TE) : TI := fun σ H R => iList K te σ H R ∨ (iTup K te σ H R ∨ iStr te σ H R)
section
variable {X : Cx} {W : WX} {ω : List Nat} {K : PySem.W.Frag}
theorem pi_seq {tg e : Expr} {te : TE} (h : PE X e te) : PI X tg e (wSeq X.K te) := pi_or (pi_list h) (pi_or (pi_tup h) (pi_str h))
/-- the three ways of a sequence, told by its data -/
theorem seq_go {R : It → Hp → Prop} {R2 : Rel (List D) It} (an : Anti R2) {te : TE} {fe : En → Res D} {P : Addr → Prop} {H0 H : Hp} {σ ρ} {RV : Rel D V} (h : EvG K W ω RV te fe) (I : EnvOk K P H0 H ω σ ρ)
    (k : KG K (R2 (P, ownAt ω ρ σ)) σ H W R (iSeq fe ρ))
    (hl : ∀ ds x H1, Same H H1 → RV (P, ownAt ω ρ σ) H H1 (.lst ds) x → ∃ a, x = .ref a ∧ (∃ xs, SqL K H1 a xs) ∧ R2 (P, ownAt ω ρ σ) H1 H1 ds (Itl K a))
    (ht : ∀ ds x H1, Same H H1 → RV (P, ownAt ω ρ σ) H H1 (.tup ds) x → ∃ a, x = .ref a ∧ (∃ xs, SqT K H1 a xs) ∧ R2 (P, ownAt ω ρ σ) H1 H1 ds (Itt K a))
    (hs : ∀ z x H1, Same H H1 → RV (P, ownAt ω ρ σ) H H1 (.str z) x → x = .str z ∧ R2 (P, ownAt ω ρ σ) H1 H1 (signsD z) (Its z))
    (hf : ∀ ns x H1, Same H H1 → RV (P, ownAt ω ρ σ) H H1 (.frz ns) x → ∃ a, x = .ref a ∧ (∃ xs, SqL K H1 a xs) ∧ R2 (P, ownAt ω ρ σ) H1 H1 (ns.map D.int) (Itl K a)) : wSeq K te σ H R := by
  cases q : fe ρ with
  | bad =>
    unfold iSeq at k
    rw [q] at k; exact k.elim
  | exc x =>
    refine .inl (h P H0 H σ ρ I _ ?_)
    rw [q]
    unfold iSeq at k
    rw [q] at k
    exact k
  | ok d =>
    have k1 : KG K (R2 (P, ownAt ω ρ σ)) σ H W R (Res.ofO (itemsD d)) := by unfold iSeq at k; rw [q] at k; exact k
    cases d with
    | lst ds =>
      refine .inl (h P H0 H σ ρ I _ ?_)
      rw [q]
      exact fun x H1 s r => by
        obtain ⟨a, e, hx, r2⟩ := hl ds x H1 s r
        exact ⟨a, e, hx, k1 _ H1 s (an _ _ _ _ _ _ s r2)⟩
    | tup ds =>
      refine .inr (.inl (h P H0 H σ ρ I _ ?_))
      rw [q]
      exact fun x H1 s r => by
        obtain ⟨a, e, hx, r2⟩ := ht ds x H1 s r
        exact ⟨a, e, hx, k1 _ H1 s (an _ _ _ _ _ _ s r2)⟩
    | str z =>
      refine .inr (.inr (h P H0 H σ ρ I _ ?_))
      rw [q]
      exact fun x H1 s r => by
        obtain ⟨e, r2⟩ := hs z x H1 s r
        exact ⟨z, e, k1 _ H1 s (an _ _ _ _ _ _ s r2)⟩
    | frz ns =>
      refine .inl (h P H0 H σ ρ I _ ?_)
      rw [q]
      exact fun x H1 s r => by
        obtain ⟨a, e, hx, r2⟩ := hf ns x H1 s r
        exact ⟨a, e, hx, k1 _ H1 s (an _ _ _ _ _ _ s r2)⟩
    | _ => exact k1.elim
theorem mask_two {H : Hp} {P o : Addr → Prop} : mask (mask H o) P = mask H (Hd.hid (P, o)) := mask_mask
theorem isl_frz {H : Hp} : ∀ (ns : List Int), IsL K H (ns.map D.int) (ns.map V.int) := fun ns => isl_ints.mpr rfl
theorem di_seq {tg e : Expr} {te fe} (h : DE X W ω e te fe) : DI X W ω tg e (wSeq X.K te) (iSeq fe) := ⟨pi_seq h.pe, fun P H0 H σ ρ I R k => by
  refine seq_go it_anti h.ev I k ?_ ?_ ?_ ?_
  · rintro ds x H1 s ⟨a, xs, rfl, ha, la⟩
    have ha' := mask_same (Same.rfl' H1) (P := Hd.hid (P, ownAt ω ρ σ)) (Q := ownAt ω ρ σ) (fun _ _ _ z => .inr z) _ _ ha
    exact ⟨a, rfl, ⟨xs, SqL.of ((mask_some.mp ha).2)⟩, iter_list (SqL.of ha') (by rw [mask_two]; exact la)⟩
  · rintro ds x H1 s ⟨a, xs, rfl, ha, la⟩
    have ha' := sqt_mono (mask_same (Same.rfl' H1) (P := Hd.hid (P, ownAt ω ρ σ)) (Q := ownAt ω ρ σ) (fun _ _ _ z => .inr z)) ha
    exact ⟨a, rfl, ⟨xs, sqt_mono (mask_le _ _) ha⟩, iter_tup ha' (by rw [mask_two]; exact la)⟩
  · intro z x H1 s r
    exact ⟨r, iter_str⟩
  · rintro ns x H1 s ⟨a, rfl, ha⟩
    have ha' := sql_mono (mask_same (Same.rfl' H1) (P := Hd.hid (P, ownAt ω ρ σ)) (Q := ownAt ω ρ σ) (fun _ _ _ z => .inr z)) ha
    exact ⟨a, rfl, ⟨_, sql_mono (mask_le _ _) ha⟩, iter_list ha' (isl_frz ns)⟩⟩
theorem dc_seq {tg e : Expr} {te fe} (h : DS X W ω e te fe) : DC X W ω tg e (wSeq X.K te) (iSeq fe) := ⟨pi_seq h.pe, fun P H0 H σ ρ I R k => by
  refine seq_go ic_anti h.ev I k ?_ ?_ ?_ ?_
  · intro ds x H1 s r
    obtain ⟨a, xs, rfl, ha, la⟩ := lnt_lst r
    exact ⟨a, rfl, ⟨xs, SqL.of ha⟩, iter_list (SqL.of ha) la⟩
  · intro ds x H1 s r
    obtain ⟨a, xs, rfl, ha, la⟩ := lnt_tup r
    exact ⟨a, rfl, ⟨xs, ha⟩, iter_tup ha la⟩
  · intro z x H1 s r
    exact ⟨lnt_str r, iter_str⟩
  · intro ns x H1 s r
    obtain ⟨a, rfl, ha⟩ := lnt_frz r
    exact ⟨a, rfl, ⟨_, ha⟩, iter_list ha (isl_frz ns)⟩⟩
/-! range -/
def ok62 (i : Int) : Bool := Nat.ble i.natAbs 4611686018427387903
theorem ok62_ok {i : Int} (h : ok62 i = true) : -(2 ^ 62) ≤ i ∧ i < 2 ^ 62 := by
  unfold ok62 at h
  simp only [ble_eq, decide_eq_true_eq] at h
  omega
def rangeD : List D → Option (List D)
  | [.int j] => if ok62 j = true then some (rngD 0 j.toNat) else none
  | [.int i, .int j] => if ok62 i = true ∧ ok62 j = true then some (rngD i (j - i).toNat) else none
  | [.int i, .int j, .int c] => if c ≠ 0 ∧ c.natAbs < 1073741824 ∧ Builtin.Range.small i j c = true ∧ 0 ≤ Builtin.Range.rangeSize i j c then some (rng3D i c (Builtin.Range.rangeSize i j c).toNat) else none
  | _ => none
def iRange (fa : En → Res (List D)) : En → Res (List D) := fun ρ => (fa ρ).bind fun ds => .ofO (rangeD ds)
theorem ev_rng1 {R2 : Rel (List D) It} (an : Anti R2) (hR : ∀ h H lo n, R2 h H H (rngD lo n) (Itr lo n)) {ta fa} (h : EvG K W ω (alR K) ta fa) (h1 : ∀ ρ ds, fa ρ = .ok ds → ds.length = 1) : EvG K W ω R2 (iRng1 ta) (iRange fa) := fun P H0 H σ ρ I R k => by
  refine h.bind I an k fun ds vs H1 e s1 I1 rr k1 => ?_
  have hl := h1 ρ ds e
  match ds, hl with
  | [d], _ =>
    obtain ⟨v, rfl, r⟩ := lnt1 rr
    cases d with
    | int j =>
      cases lnt_int r
      have k2 : KG K (R2 (P, ownAt ω ρ σ)) σ H1 W R (Res.ofO (if ok62 j = true then some (rngD 0 j.toNat) else none)) := k1
      by_cases z : ok62 j = true
      · rw [if_pos z] at k2
        exact ⟨j, rfl, (ok62_ok z).1, (ok62_ok z).2, k2 _ H1 (Same.rfl' _) (hR _ _ _ _)⟩
      · rw [if_neg z] at k2; exact k2.elim
    | _ => exact k1.elim
theorem ev_rng2 {R2 : Rel (List D) It} (an : Anti R2) (hR : ∀ h H lo n, R2 h H H (rngD lo n) (Itr lo n)) {ta fa} (h : EvG K W ω (alR K) ta fa) (h1 : ∀ ρ ds, fa ρ = .ok ds → ds.length = 2) : EvG K W ω R2 (iRng2 ta) (iRange fa) := fun P H0 H σ ρ I R k => by
  refine h.bind I an k fun ds vs H1 e s1 I1 rr k1 => ?_
  have hl := h1 ρ ds e
  match ds, hl with
  | [d, d2], _ =>
    obtain ⟨v, u, rfl, r, r2⟩ := lnt2 rr
    cases d with
    | int i => cases d2 with
      | int j =>
        cases lnt_int r
        cases lnt_int r2
        have k2 : KG K (R2 (P, ownAt ω ρ σ)) σ H1 W R (Res.ofO (if ok62 i = true ∧ ok62 j = true then some (rngD i (j - i).toNat) else none)) := k1
        by_cases z : ok62 i = true ∧ ok62 j = true
        · rw [if_pos z] at k2
          exact ⟨i, j, rfl, ⟨(ok62_ok z.1).1, (ok62_ok z.1).2, (ok62_ok z.2).1, (ok62_ok z.2).2⟩, k2 _ H1 (Same.rfl' _) (hR _ _ _ _)⟩
        · rw [if_neg z] at k2; exact k2.elim
      | _ => exact k1.elim
    | _ => exact k1.elim
theorem ev_rng3 {R2 : Rel (List D) It} (an : Anti R2) (hR : ∀ h H lo c n, R2 h H H (rng3D lo c n) (Itc lo c n)) {ta fa} (h : EvG K W ω (alR K) ta fa) (h1 : ∀ ρ ds, fa ρ = .ok ds → ds.length = 3) : EvG K W ω R2 (iRng3 ta) (iRange fa) := fun P H0 H σ ρ I R k => by
  refine h.bind I an k fun ds vs H1 e s1 I1 rr k1 => ?_
  have hl := h1 ρ ds e
  match ds, hl with
  | [d, d2, d3], _ =>
    obtain ⟨v, vr, rfl, r, rs⟩ := rr
    obtain ⟨u, w, rfl, r2, r3⟩ := lnt2 rs
    cases d with
    | int i => cases d2 with
      | int j => cases d3 with
        | int c =>
          cases lnt_int r
          cases lnt_int r2
          cases lnt_int r3
          have k2 : KG K (R2 (P, ownAt ω ρ σ)) σ H1 W R (Res.ofO (if c ≠ 0 ∧ c.natAbs < 1073741824 ∧ Builtin.Range.small i j c = true ∧ 0 ≤ Builtin.Range.rangeSize i j c then some (rng3D i c (Builtin.Range.rangeSize i j c).toNat) else none)) := k1
          by_cases z : c ≠ 0 ∧ c.natAbs < 1073741824 ∧ Builtin.Range.small i j c = true ∧ 0 ≤ Builtin.Range.rangeSize i j c
          · rw [if_pos z] at k2
            exact ⟨i, j, c, _, rfl, ⟨z.1, z.2.1, z.2.2.1, (Int.toNat_of_nonneg z.2.2.2).symm⟩, k2 _ H1 (Same.rfl' _) (hR _ _ _ _ _)⟩
          · rw [if_neg z] at k2; exact k2.elim
        | _ => exact k1.elim
      | _ => exact k1.elim
    | _ => exact k1.elim
theorem a1_len {f : En → Res D} : ∀ ρ ds, aCons f aNil ρ = .ok ds → ds.length = 1 := fun ρ ds e => by
  unfold aCons aNil at e
  cases q : f ρ with
  | ok d => rw [q] at e; cases e; rfl
  | _ => rw [q] at e; cases e
theorem a2_len {f g : En → Res D} : ∀ ρ ds, aCons f (aCons g aNil) ρ = .ok ds → ds.length = 2 := fun ρ ds e => by
  unfold aCons aNil at e
  cases q : f ρ with
  | ok d =>
    rw [q] at e
    cases q2 : g ρ with
    | ok d2 => rw [Res.bind_ok, q2] at e; cases e; rfl
    | _ => rw [Res.bind_ok, q2] at e; cases e
  | _ => rw [q] at e; cases e
theorem a3_len {f g h : En → Res D} : ∀ ρ ds, aCons f (aCons g (aCons h aNil)) ρ = .ok ds → ds.length = 3 := fun ρ ds e => by
  unfold aCons aNil at e
  cases q : f ρ with
  | ok d =>
    rw [q] at e
    cases q2 : g ρ with
    | ok d2 =>
      cases q3 : h ρ with
      | ok d3 => rw [Res.bind_ok, q2, Res.bind_ok, q3] at e; cases e; rfl
      | _ => rw [Res.bind_ok, q2, Res.bind_ok, q3] at e; cases e
    | _ => rw [Res.bind_ok, q2] at e; cases e
  | _ => rw [q] at e; cases e
theorem it_rng {h H lo n} : itR K h H H (rngD lo n) (Itr lo n) := iter_rng
theorem ic_rng {h H lo n} : icR K h H H (rngD lo n) (Itr lo n) := iter_rng
theorem it_rng3 {h H lo c n} : itR K h H H (rng3D lo c n) (Itc lo c n) := iter_rng3
theorem ic_rng3 {h H lo c n} : icR K h H H (rng3D lo c n) (Itc lo c n) := iter_rng3
theorem di_r1 {tg a : Expr} {p pos : Pos} {ta fa} (ha : DS X W ω a ta fa) (hp : PI X tg (.Call (.Name "range" p) [a] [] pos) (iRng1 (tCons ta tNil))) (hs : starEach [a] X.env = (false, eval a X.env) :: starEach [] X.env := by rfl) :
    DI X W ω tg (.Call (.Name "range" p) [a] [] pos) (iRng1 (tCons ta tNil)) (iRange (aCons fa aNil)) := ⟨hp, ev_rng1 it_anti (fun _ _ _ _ => it_rng) (dl_cons ha dl_nil hs).ev a1_len⟩
theorem dc_r1 {tg a : Expr} {p pos : Pos} {ta fa} (ha : DS X W ω a ta fa) (hp : PI X tg (.Call (.Name "range" p) [a] [] pos) (iRng1 (tCons ta tNil))) (hs : starEach [a] X.env = (false, eval a X.env) :: starEach [] X.env := by rfl) :
    DC X W ω tg (.Call (.Name "range" p) [a] [] pos) (iRng1 (tCons ta tNil)) (iRange (aCons fa aNil)) := ⟨hp, ev_rng1 ic_anti (fun _ _ _ _ => ic_rng) (dl_cons ha dl_nil hs).ev a1_len⟩
theorem di_r2 {tg a b : Expr} {p pos : Pos} {ta fa tb fb} (ha : DS X W ω a ta fa) (hb : DS X W ω b tb fb) (hp : PI X tg (.Call (.Name "range" p) [a, b] [] pos) (iRng2 (tCons ta (tCons tb tNil)))) (hs : starEach [a, b] X.env = (false, eval a X.env) :: starEach [b] X.env := by rfl) (hs2 : starEach [b] X.env = (false, eval b X.env) :: starEach [] X.env := by rfl) :
    DI X W ω tg (.Call (.Name "range" p) [a, b] [] pos) (iRng2 (tCons ta (tCons tb tNil))) (iRange (aCons fa (aCons fb aNil))) := ⟨hp, ev_rng2 it_anti (fun _ _ _ _ => it_rng) (dl_cons ha (dl_cons hb dl_nil hs2) hs).ev a2_len⟩
theorem dc_r2 {tg a b : Expr} {p pos : Pos} {ta fa tb fb} (ha : DS X W ω a ta fa) (hb : DS X W ω b tb fb) (hp : PI X tg (.Call (.Name "range" p) [a, b] [] pos) (iRng2 (tCons ta (tCons tb tNil)))) (hs : starEach [a, b] X.env = (false, eval a X.env) :: starEach [b] X.env := by rfl) (hs2 : starEach [b] X.env = (false, eval b X.env) :: starEach [] X.env := by rfl) :
    DC X W ω tg (.Call (.Name "range" p) [a, b] [] pos) (iRng2 (tCons ta (tCons tb tNil))) (iRange (aCons fa (aCons fb aNil))) := ⟨hp, ev_rng2 ic_anti (fun _ _ _ _ => ic_rng) (dl_cons ha (dl_cons hb dl_nil hs2) hs).ev a2_len⟩
theorem di_r3 {tg a b c : Expr} {p pos : Pos} {ta fa tb fb tc fc} (ha : DS X W ω a ta fa) (hb : DS X W ω b tb fb) (hc : DS X W ω c tc fc) (hp : PI X tg (.Call (.Name "range" p) [a, b, c] [] pos) (iRng3 (tCons ta (tCons tb (tCons tc tNil))))) (hs : starEach [a, b, c] X.env = (false, eval a X.env) :: starEach [b, c] X.env := by rfl)
    (hs2 : starEach [b, c] X.env = (false, eval b X.env) :: starEach [c] X.env := by rfl) (hs3 : starEach [c] X.env = (false, eval c X.env) :: starEach [] X.env := by rfl) :
    DI X W ω tg (.Call (.Name "range" p) [a, b, c] [] pos) (iRng3 (tCons ta (tCons tb (tCons tc tNil)))) (iRange (aCons fa (aCons fb (aCons fc aNil)))) := ⟨hp, ev_rng3 it_anti (fun _ _ _ _ _ => it_rng3) (dl_cons ha (dl_cons hb (dl_cons hc dl_nil hs3) hs2) hs).ev a3_len⟩
theorem dc_r3 {tg a b c : Expr} {p pos : Pos} {ta fa tb fb tc fc} (ha : DS X W ω a ta fa) (hb : DS X W ω b tb fb) (hc : DS X W ω c tc fc) (hp : PI X tg (.Call (.Name "range" p) [a, b, c] [] pos) (iRng3 (tCons ta (tCons tb (tCons tc tNil))))) (hs : starEach [a, b, c] X.env = (false, eval a X.env) :: starEach [b, c] X.env := by rfl)
    (hs2 : starEach [b, c] X.env = (false, eval b X.env) :: starEach [c] X.env := by rfl) (hs3 : starEach [c] X.env = (false, eval c X.env) :: starEach [] X.env := by rfl) :
    DC X W ω tg (.Call (.Name "range" p) [a, b, c] [] pos) (iRng3 (tCons ta (tCons tb (tCons tc tNil)))) (iRange (aCons fa (aCons fb (aCons fc aNil)))) := ⟨hp, ev_rng3 ic_anti (fun _ _ _ _ _ => ic_rng3) (dl_cons ha (dl_cons hb (dl_cons hc dl_nil hs3) hs2) hs).ev a3_len⟩
/-! enumerate, zip of lists -/
def listD : D → Option (List D)
  | .lst ds => some ds
  | .frz ns => some (ns.map D.int)
  | _ => none
def iEnumD (fe : En → Res D) : En → Res (List D) := fun ρ => (fe ρ).bind fun d => .ofO ((listD d).map (enumD 0))
def iZipD (fa fb : En → Res D) : En → Res (List D) := fun ρ => (fa ρ).bind fun a => (fb ρ).bind fun b => .ofO ((listD a).bind fun xs => (listD b).map fun ys => zipD xs ys)
/-- shared, lent: a list that is read -/
theorem sh_list {P : Addr → Prop} {ω σ ρ} {H : Hp} {d : D} {x : V} {ds : List D} (r : Is K (mask H (Hd.hid (P, ownAt ω ρ σ))) d x) (e : listD d = some ds) : ∃ a xs, x = .ref a ∧ SqL K (mask H (ownAt ω ρ σ)) a xs ∧ IsL K (mask (mask H (ownAt ω ρ σ)) P) ds xs := by
  have le : Same (mask H (Hd.hid (P, ownAt ω ρ σ))) (mask H (ownAt ω ρ σ)) := mask_same (Same.rfl' H) fun _ _ _ z => .inr z
  rw [mask_two]
  cases d with
  | lst ds' =>
    cases Option.some.inj e
    obtain ⟨a, xs, rfl, ha, la⟩ := r
    exact ⟨a, xs, rfl, SqL.of (le _ _ ha), la⟩
  | frz ns =>
    cases Option.some.inj e
    obtain ⟨a, rfl, ha⟩ := r
    exact ⟨a, _, rfl, sql_mono le ha, isl_frz ns⟩
  | _ => cases e
theorem ln_list {h : Hd} {H : Hp} {d : D} {x : V} {ds : List D} (r : Lnt K h H d x) (e : listD d = some ds) : ∃ a xs, x = .ref a ∧ SqL K H a xs ∧ IsL K (mask H h.hid) ds xs := by
  cases d with
  | lst ds' =>
    cases Option.some.inj e
    obtain ⟨a, xs, rfl, ha, la⟩ := lnt_lst r
    exact ⟨a, xs, rfl, SqL.of ha, la⟩
  | frz ns =>
    cases Option.some.inj e
    obtain ⟨a, rfl, ha⟩ := lnt_frz r
    exact ⟨a, _, rfl, ha, isl_frz ns⟩
  | _ => cases e
theorem di_enum {elts : List Expr} {kk : Nat} {tpos p pos : Pos} {e : Expr} {te fe} (h : DE X W ω e te fe) (hp : PI X (.Tuple elts kk tpos) (.Call (.Name "enumerate" p) [e] [] pos) (iEnum X.K (tCons te tNil))) :
    DI X W ω (.Tuple elts kk tpos) (.Call (.Name "enumerate" p) [e] [] pos) (iEnum X.K (tCons te tNil)) (iEnumD fe) := ⟨hp, fun P H0 H σ ρ I R k => by
  refine h.ev.bind I it_anti k fun d x H1 e s1 I1 r k1 => ?_
  cases q : listD d with
  | none => rw [q] at k1; exact k1.elim
  | some ds =>
    rw [q] at k1
    obtain ⟨a, xs, rfl, ha, la⟩ := sh_list r q
    exact ⟨a, xs, rfl, sql_mono (mask_le _ _) ha, k1 _ H1 (Same.rfl' _) (iter_enum ha la)⟩⟩
theorem dc_enum {elts : List Expr} {kk : Nat} {tpos p pos : Pos} {e : Expr} {te fe} (h : DS X W ω e te fe) (hp : PI X (.Tuple elts kk tpos) (.Call (.Name "enumerate" p) [e] [] pos) (iEnum X.K (tCons te tNil))) :
    DC X W ω (.Tuple elts kk tpos) (.Call (.Name "enumerate" p) [e] [] pos) (iEnum X.K (tCons te tNil)) (iEnumD fe) := ⟨hp, fun P H0 H σ ρ I R k => by
  refine h.ev.bind I ic_anti k fun d x H1 e s1 I1 r k1 => ?_
  cases q : listD d with
  | none => rw [q] at k1; exact k1.elim
  | some ds =>
    rw [q] at k1
    obtain ⟨a, xs, rfl, ha, la⟩ := ln_list r q
    exact ⟨a, xs, rfl, ha, k1 _ H1 (Same.rfl' _) (iter_enum ha la)⟩⟩
theorem di_zip {elts : List Expr} {kk : Nat} {tpos p pos : Pos} {e e2 : Expr} {te fe te2 fe2} (h : DE X W ω e te fe) (h2 : DE X W ω e2 te2 fe2) (hp : PI X (.Tuple elts kk tpos) (.Call (.Name "zip" p) [e, e2] [] pos) (iZip X.K (tCons te (tCons te2 tNil)))) :
    DI X W ω (.Tuple elts kk tpos) (.Call (.Name "zip" p) [e, e2] [] pos) (iZip X.K (tCons te (tCons te2 tNil))) (iZipD fe fe2) := ⟨hp, fun P H0 H σ ρ I R k => by
  refine h.ev.bind I it_anti k fun d x H1 e s1 I1 r k1 => ?_
  refine h2.ev.bind I1 it_anti k1 fun d2 x2 H2 e2 s2 I2 r2 k2 => ?_
  cases q : listD d with
  | none => rw [q] at k2; exact k2.elim
  | some ds =>
    rw [q] at k2
    cases q2 : listD d2 with
    | none => rw [Option.bind_some, q2] at k2; exact k2.elim
    | some es =>
      rw [Option.bind_some, q2] at k2
      obtain ⟨a, xs, rfl, ha, la⟩ := sh_list (r.mono (mask_same s2 fun _ _ _ z => z)) q
      obtain ⟨b, ys, rfl, hb, lb⟩ := sh_list r2 q2
      exact ⟨a, b, xs, ys, rfl, sql_mono (mask_le _ _) ha, sql_mono (mask_le _ _) hb, k2 _ H2 (Same.rfl' _) (iter_zip ha la hb lb)⟩⟩
theorem dc_zip {elts : List Expr} {kk : Nat} {tpos p pos : Pos} {e e2 : Expr} {te fe te2 fe2} (h : DS X W ω e te fe) (h2 : DS X W ω e2 te2 fe2) (hp : PI X (.Tuple elts kk tpos) (.Call (.Name "zip" p) [e, e2] [] pos) (iZip X.K (tCons te (tCons te2 tNil)))) :
    DC X W ω (.Tuple elts kk tpos) (.Call (.Name "zip" p) [e, e2] [] pos) (iZip X.K (tCons te (tCons te2 tNil))) (iZipD fe fe2) := ⟨hp, fun P H0 H σ ρ I R k => by
  refine h.ev.bind I ic_anti k fun d x H1 e s1 I1 r k1 => ?_
  refine h2.ev.bind I1 ic_anti k1 fun d2 x2 H2 e2 s2 I2 r2 k2 => ?_
  cases q : listD d with
  | none => rw [q] at k2; exact k2.elim
  | some ds =>
    rw [q] at k2
    cases q2 : listD d2 with
    | none => rw [Option.bind_some, q2] at k2; exact k2.elim
    | some es =>
      rw [Option.bind_some, q2] at k2
      obtain ⟨a, xs, rfl, ha, la⟩ := ln_list (r.mono s2) q
      obtain ⟨b, ys, rfl, hb, lb⟩ := ln_list r2 q2
      exact ⟨a, b, xs, ys, rfl, ha, hb, k2 _ H2 (Same.rfl' _) (iter_zip ha la hb lb)⟩⟩

/-! ### targets -/
abbrev BF := D → En → Option En
def TgOf (K : PySem.W.Frag) (ω : List Nat) (g : TG) (js : List Nat) (b : BF) : Prop := ∀ P H0 H σ ρ d v ρ', EnvOk K P H0 H ω σ ρ → Is K (mask H (hid P ω ρ σ)) d v → b d ρ = some ρ' → ∀ Q : L2.St → Hp → Prop,
  (∀ σ', EnvOk K P H0 H ω σ' ρ' → ownAt ω ρ' σ' = ownAt ω ρ σ → σ'.length = σ.length → (∀ i, i ∉ js → σ'[i]? = σ[i]?) → Q σ' H) → g v σ H Q
structure DG (X : Cx) (ω : List Nat) (tg : Expr) (g : TG) (js : List Nat) (b : BF) : Prop where
  pg : PG X tg g
  ev : TgOf X.K ω g js b
def bName (i : Nat) : BF := fun d ρ => some (ρ.set i (some d))
theorem own_set {ω : List Nat} {ρ : En} {σ : L2.St} {i : Nat} {d : Option D} {v : Option V} (hi : i ∉ ω) : ownAt ω (ρ.set i d) (σ.set i v) = ownAt ω ρ σ := funext fun a => propext (by
  have ne : ∀ j, j ∈ ω → i ≠ j := fun j hj e => hi (e ▸ hj)
  constructor
  · rintro ⟨j, e, hj, h1, h2⟩
    rw [List.getElem?_set_ne (ne j hj)] at h1 h2
    exact ⟨j, e, hj, h1, h2⟩
  · rintro ⟨j, e, hj, h1, h2⟩
    exact ⟨j, e, hj, by rw [List.getElem?_set_ne (ne j hj)]; exact h1, by rw [List.getElem?_set_ne (ne j hj)]; exact h2⟩)
theorem dg_name (i : Nat) (hi : i ∉ ω) {tg : Expr} (hp : PG X tg (gName i)) : DG X ω tg (gName i) [i] (bName i) := ⟨hp, fun P H0 H σ ρ d v ρ' I r e Q q => by
  cases Option.some.inj e
  refine q _ (I.set hi (fun _ z => z) r) (own_set hi) (by simp) fun j hj => ?_
  rw [List.getElem?_set_ne (fun z => hj (by rw [z]; exact List.mem_singleton.mpr rfl))]⟩
abbrev BFs := List D → En → Option En
def TgsOf (K : PySem.W.Frag) (ω : List Nat) (g : TGs) (js : List Nat) (b : BFs) : Prop := ∀ P H0 H σ ρ ds vs ρ', EnvOk K P H0 H ω σ ρ → IsL K (mask H (hid P ω ρ σ)) ds vs → b ds ρ = some ρ' → ∀ Q : L2.St → Hp → Prop,
  (∀ σ', EnvOk K P H0 H ω σ' ρ' → ownAt ω ρ' σ' = ownAt ω ρ σ → σ'.length = σ.length → (∀ i, i ∉ js → σ'[i]? = σ[i]?) → Q σ' H) → g vs σ H Q
structure DGs (X : Cx) (ω : List Nat) (tg : List Expr) (n : Nat) (g : TGs) (js : List Nat) (b : BFs) : Prop where
  pg : PGs X tg g
  ev : TgsOf X.K ω g js b
def bNil : BFs := fun ds ρ => match ds with
  | [] => some ρ
  | _ => none
def bCons (b : BF) (bs : BFs) : BFs := fun ds ρ => match ds with
  | d :: ds => (b d ρ).bind fun ρ1 => bs ds ρ1
  | [] => none
theorem dgs_nil : DGs X ω [] 0 gNil [] bNil := ⟨pgs_nil, fun P H0 H σ ρ ds vs ρ' I r e Q q => by
  cases ds with
  | nil =>
    cases Option.some.inj e
    cases (show vs = [] from r)
    exact ⟨rfl, q σ I rfl rfl fun _ _ => rfl⟩
  | cons d ds => cases e⟩
theorem dgs_cons {e : Expr} {es : List Expr} {n : Nat} {t u js ks b bs} (h1 : DG X ω e t js b) (h2 : DGs X ω es n u ks bs) (hs : (assignEach (e :: es) X.env).map (·.2) = assign e X.env :: (assignEach es X.env).map (·.2) := by rfl) : DGs X ω (e :: es) (n + 1) (gCons t u) (js ++ ks) (bCons b bs) :=
  ⟨pgs_cons h1.pg h2.pg hs, fun P H0 H σ ρ ds vs ρ' I r e Q q => by
    cases ds with
    | nil => cases e
    | cons d ds =>
      obtain ⟨y, ys, rfl, r1, r2⟩ := r
      obtain ⟨ρ1, e1, e2⟩ := Option.bind_eq_some_iff.mp (show (b d ρ).bind (fun ρ1 => bs ds ρ1) = some ρ' from e)
      refine ⟨y, ys, rfl, h1.ev P H0 H σ ρ d y ρ1 I r1 e1 _ fun σ1 I1 o1 l1 a1 => ?_⟩
      have eh : hid P ω ρ1 σ1 = hid P ω ρ σ := by unfold hid; rw [o1]
      refine h2.ev P H0 H σ1 ρ1 ds ys ρ' I1 (by rw [eh]; exact r2) e2 Q fun σ2 I2 o2 l2 a2 => q σ2 I2 (o2.trans o1) (l2.trans l1) fun i hi => ?_
      rw [a2 i (fun z => hi (List.mem_append_right _ z)), a1 i (fun z => hi (List.mem_append_left _ z))]⟩
def bTup (n : Nat) (bs : BFs) : BF := fun d ρ => match d with
  | .tup ds => if ds.length = n then bs ds ρ else none
  | _ => none
theorem dg_tup {es : List Expr} {k n : Nat} {pos : Pos} {t js bs} (h : DGs X ω es n t js bs) (hp : PG X (.Tuple es k pos) (gTup X.K n t)) : DG X ω (.Tuple es k pos) (gTup X.K n t) js (bTup n bs) := ⟨hp, fun P H0 H σ ρ d v ρ' I r e Q q => by
  cases d with
  | tup ds =>
    have e' : (if ds.length = n then bs ds ρ else none) = some ρ' := e
    by_cases z : ds.length = n
    · rw [if_pos z] at e'
      obtain ⟨a, xs, rfl, ha, la⟩ := r
      exact ⟨a, xs, rfl, sqt_mono (mask_le _ _) ha, by rw [← la.length]; exact z, h.ev P H0 H σ ρ ds xs ρ' I la e' Q q⟩
    · rw [if_neg z] at e'; cases e'
  | _ => cases e⟩

/-! ### comprehensions -/
def noX {α : Type} : Res α → Res α
  | .ok a => .ok a
  | _ => .bad
def wipeE (ρ : En) : List Nat → En
  | [] => ρ
  | v :: vs => (wipeE ρ vs).set v none
def compL (b : BF) (c : En → Res Bool) (e : En → Res D) (ρ : En) : List D → Res (List D)
  | [] => .ok []
  | d :: ds => (Res.ofO (b d ρ)).bind fun ρ1 => (noX (c ρ1)).bind fun k => if k = true then (noX (e ρ1)).bind fun y => (compL b c e ρ ds).bind fun r => .ok (y :: r) else compL b c e ρ ds
def eComp (f : En → Res (List D)) (b : BF) (c : En → Res Bool) (e : En → Res D) (vs : List Nat) : En → Res D := fun ρ => (f ρ).bind fun ds => if ds.length < lim then (compL b c e (wipeE ρ vs) ds).bind fun r => .ok (.lst r) else .bad
theorem EnvOk.wipe {P : Addr → Prop} {H0 H : Hp} {σ ρ} (I : EnvOk K P H0 H ω σ ρ) : ∀ vs : List Nat, (∀ v ∈ vs, v ∉ ω) → EnvOk K P H0 H ω (L2.wipe σ vs) (wipeE ρ vs) ∧ ownAt ω (wipeE ρ vs) (L2.wipe σ vs) = ownAt ω ρ σ
  | [], _ => ⟨I, rfl⟩
  | v :: vs, h => by
    obtain ⟨J, e⟩ := EnvOk.wipe I vs fun w hw => h w (List.mem_cons_of_mem _ hw)
    exact ⟨J.unset none (h v List.mem_cons_self), (own_set (h v List.mem_cons_self)).trans e⟩
theorem wipe_agree : ∀ (vs : List Nat) {σ σ2 : L2.St}, σ2.length = σ.length → (∀ i, i ∉ vs → σ2[i]? = σ[i]?) → L2.wipe σ2 vs = L2.wipe σ vs
  | vs, σ, σ2, hl, h => by
    have get : ∀ (vs : List Nat) (σ : L2.St) (i : Nat), (L2.wipe σ vs)[i]? = if i ∈ vs ∧ i < σ.length then some none else σ[i]? := by
      intro vs
      induction vs with
      | nil => intro σ i; simp [L2.wipe]
      | cons v vs ih =>
        intro σ i
        show ((L2.wipe σ vs).set v none)[i]? = _
        have hlen : (L2.wipe σ vs).length = σ.length := L2.wipe_length σ vs
        by_cases e : v = i
        · subst e
          by_cases hv : v < σ.length
          · rw [List.getElem?_set_self (by rw [hlen]; exact hv), if_pos ⟨List.mem_cons_self, hv⟩]
          · rw [if_neg (fun z => hv z.2), List.getElem?_eq_none (by rw [List.length_set, hlen]; omega), List.getElem?_eq_none (by omega)]
        · rw [List.getElem?_set_ne e, ih]
          by_cases q : i ∈ vs ∧ i < σ.length
          · rw [if_pos q, if_pos ⟨List.mem_cons_of_mem _ q.1, q.2⟩]
          · rw [if_neg q, if_neg]
            rintro ⟨z, z2⟩
            rcases List.mem_cons.mp z with z | z
            · exact e z.symm
            · exact q ⟨z, z2⟩
    apply List.ext_getElem?
    intro i
    rw [get, get, hl]
    by_cases q : i ∈ vs
    · by_cases q2 : i < σ.length
      · rw [if_pos ⟨q, q2⟩, if_pos ⟨q, q2⟩]
      · rw [if_neg (fun z => q2 z.2), if_neg (fun z => q2 z.2), List.getElem?_eq_none (by omega), List.getElem?_eq_none (by omega)]
    · rw [if_neg (fun z => q z.1), if_neg (fun z => q z.1)]
      exact h i q
theorem wipe_wipe {σ : L2.St} {vs : List Nat} : L2.wipe (L2.wipe σ vs) vs = L2.wipe σ vs := by
  refine wipe_agree vs (L2.wipe_length σ vs) fun i hi => ?_
  induction vs with
  | nil => rfl
  | cons v vs ih =>
    show ((L2.wipe σ vs).set v none)[i]? = _
    rw [List.getElem?_set_ne (fun z => hi (by rw [z]; exact List.mem_cons_self))]
    exact ih fun z => hi (List.mem_cons_of_mem _ z)
/-- within: the new list is hidden -/
theorem EnvOk.hide {P : Addr → Prop} {H0 H H2 : Hp} {σ ρ} (I : EnvOk K P H0 H ω σ ρ) {Dl : Addr} {o : HO} (n : H Dl = none) (s : Same H H2) (e : H2 Dl = some o) : EnvOk K (fun a => P a ∨ a = Dl) (mask H2 (ownAt ω ρ σ)) H2 ω σ ρ := by
  have J := I.mono s
  have nD : ¬ ownAt ω ρ σ Dl := fun z => by obtain ⟨u, eu⟩ := (I.own z).1; rw [n] at eu; cases eu
  have hm : Same (mask H (hid P ω ρ σ)) (mask H2 (hid (fun a => P a ∨ a = Dl) ω ρ σ)) := mask_same s fun a u eu z => by
    rcases z with (z | z) | z
    · exact .inl z
    · rw [z, n] at eu; cases eu
    · exact .inr z
  refine ⟨I.len, fun i d h n => ?_, fun i d h n => ?_, I.inj, Same.rfl' _, fun a h => ?_⟩
  · obtain ⟨v, e, r⟩ := I.sh i d h n
    exact ⟨v, e, r.mono hm⟩
  · obtain ⟨a, e, r, z⟩ := I.ow i d h n
    obtain ⟨u, eu⟩ := r.there
    exact ⟨a, e, r.mono ((s _ _ eu).trans eu.symm) hm, mask_hid ⟨i, d, n, h, e⟩⟩
  · rcases h with h | h
    · obtain ⟨u, eu⟩ := I.pin a h
      exact ⟨u, (J.base) a u eu⟩
    · exact ⟨o, by rw [h]; exact mask_some.mpr ⟨nD, e⟩⟩
end
end Dl

/-! The data layer, part 6: the comprehension's rule. -/
namespace Dl
open PySem L2
section
variable {X : Cx} {W : WX} {ω : List Nat} {K : PySem.W.Frag}
abbrev W0 : WX := fun _ _ _ _ => False
structure DTs (X : Cx) (W : WX) (ω : List Nat) (ifs : List Expr) (t : TT) (f : En → Res Bool) : Prop where
  pts : PTs X ifs t
  ev : EvG X.K W ω eqR t f
def cYes : En → Res Bool := fun _ => .ok true
theorem dts_nil : DTs X W ω [] tYes cYes := ⟨pts_nil, fun P H0 H σ ρ I Q k => k true H (Same.rfl' _) rfl⟩
theorem dts_one {c : Expr} {t f} (h : DT X W ω c t f) : DTs X W ω [c] t f := ⟨pts_one h.pt, h.ev⟩
/-- a part that must not raise -/
theorem noX_go {α β : Type} {R : Rel α β} {t : L2.St → Hp → (β → Hp → Prop) → Prop} {f : En → Res α} {P H0 H σ ρ} {Q : β → Hp → Prop} (ht : EvG K W0 ω R t f) (I : EnvOk K P H0 H ω σ ρ) {a : α} (e : noX (f ρ) = .ok a) (hq : ∀ b H1, Same H H1 → R (P, ownAt ω ρ σ) H H1 a b → Q b H1) : t σ H Q := by
  refine ht P H0 H σ ρ I Q ?_
  cases q : f ρ with
  | ok a' => rw [q] at e; cases e; exact fun b H1 s r => hq b H1 s r
  | exc x => rw [q] at e; cases e
  | bad => rw [q] at e; cases e
theorem bind_ok_iff {α β : Type} {r : Res α} {g : α → Res β} {b : β} (h : r.bind g = .ok b) : ∃ a, r = .ok a ∧ g a = .ok b := by
  cases r with
  | ok a => exact ⟨a, rfl, h⟩
  | exc x => cases h
  | bad => cases h
theorem ofO_ok {α : Type} {o : Option α} {a : α} (h : Res.ofO o = .ok a) : o = some a := by
  cases o with
  | none => cases h
  | some b => cases h; rfl
theorem ev_lc {wi : TI} {g : TG} {tt : TT} {te : TE} {f : En → Res (List D)} {js vs : List Nat} {b : BF} {c : En → Res Bool} {e : En → Res D}
    (hi : EvG K W ω (icR K) wi f) (hg : TgOf K ω g js b) (ht : EvG K W0 ω eqR tt c) (he : EvG K W0 ω (shR K) te e) (hj : ∀ j ∈ js, j ∈ vs) (hv : ∀ v ∈ vs, v ∉ ω) :
    EvG K W ω (nwR K) (tLc wi g tt te vs) (eComp f b c e vs) := fun P H0 H σ ρ I Q k => by
  have k' : KG K (nwR K (P, ownAt ω ρ σ)) σ H W Q ((f ρ).bind fun ds => if ds.length < lim then (compL b c e (wipeE ρ vs) ds).bind fun r => .ok (.lst r) else .bad) := k
  refine hi.bind I nw_anti k' fun ds J H1 ef s1 I1 rJ k1 => ?_
  have hlim : ds.length < lim := by
    by_cases z : ds.length < lim
    · exact z
    · rw [if_neg z] at k1; exact k1.elim
  rw [if_pos hlim] at k1
  cases qr : compL b c e (wipeE ρ vs) ds with
  | bad => rw [qr] at k1; exact k1.elim
  | exc x =>
    exfalso
    have nex : ∀ (l : List D) x, compL b c e (wipeE ρ vs) l ≠ .exc x := by
      intro l
      induction l with
      | nil => intro x z; cases z
      | cons d l ih =>
        intro x z
        unfold compL at z
        cases q1 : b d (wipeE ρ vs) with
        | none => rw [q1] at z; cases z
        | some ρ1 =>
          rw [q1, Res.ofO_some, Res.bind_ok] at z
          cases q2 : noX (c ρ1) with
          | exc y => cases q3 : c ρ1 <;> rw [q3] at q2 <;> cases q2
          | bad => rw [q2] at z; cases z
          | ok kk =>
            rw [q2, Res.bind_ok] at z
            cases kk with
            | false => rw [if_neg Bool.false_ne_true] at z; exact ih x z
            | true =>
              rw [if_pos rfl] at z
              cases q4 : noX (e ρ1) with
              | exc y => cases q3 : e ρ1 <;> rw [q3] at q4 <;> cases q4
              | bad => rw [q4] at z; cases z
              | ok y =>
                rw [q4, Res.bind_ok] at z
                cases q5 : compL b c e (wipeE ρ vs) l with
                | ok r => rw [q5] at z; cases z
                | bad => rw [q5] at z; cases z
                | exc y2 => exact ih y2 q5
    exact nex ds x qr
  | ok res =>
    rw [qr] at k1
    have k2 : ∀ v H', Same H1 H' → nwR K (P, ownAt ω ρ σ) H1 H' (.lst res) v → Q v H' := k1
    refine fun Dl hD => ?_
    -- the own address is apart
    have nown : ¬ Hd.hid (P, ownAt ω ρ σ) Dl := I1.new hD
    refine ⟨fun i m H' => m + i = ds.length ∧ Same H1 H' ∧ ∃ don rest xs, compL b c e (wipeE ρ vs) (ds.drop i) = .ok rest ∧ don ++ rest = res ∧ H' Dl = some (.lst xs) ∧ IsL K (mask H' (fun a => Hd.hid (P, ownAt ω ρ σ) a ∨ a = Dl)) don xs ∧ xs.length ≤ i,
      ⟨ds.length, rfl, L2.Same.add hD, [], res, [], qr, rfl, upd_same, isl_nil, Nat.zero_le _⟩, ?_⟩
    rintro i m H' ⟨hm, sH, don, rest, xs, hc, hres, hDl, hdon, hxs⟩
    by_cases hlt : i < ds.length
    · have hd : ds[i]? = some ds[i] := List.getElem?_eq_getElem hlt
      have hdrop : ds.drop i = ds[i] :: ds.drop (i + 1) := by rw [List.drop_eq_getElem_cons hlt]
      obtain ⟨go, yl⟩ := (rJ H' sH).2 i _ hd
      rw [hdrop] at hc
      unfold compL at hc
      obtain ⟨ρ1, hb, hc⟩ := bind_ok_iff hc
      obtain ⟨kk, hk, hc⟩ := bind_ok_iff hc
      have hb := ofO_ok hb
      refine .inr ⟨go, fun H'' => ∃ m', m' < m ∧ m' + (i + 1) = ds.length ∧ Same H1 H'' ∧ ∃ don rest xs, compL b c e (wipeE ρ vs) (ds.drop (i + 1)) = .ok rest ∧ don ++ rest = res ∧ H'' Dl = some (.lst xs) ∧ IsL K (mask H'' (fun a => Hd.hid (P, ownAt ω ρ σ) a ∨ a = Dl)) don xs ∧ xs.length ≤ i + 1,
        fun H'' ⟨m', h1, h2, h3⟩ => ⟨m', h1, h2, h3⟩, fun x H2 hy => ?_⟩
      obtain ⟨s2, ix⟩ := yl x H2 hy
      have s12 : Same H1 H2 := sH.tr s2
      -- the slots, the block's own forgotten, the list hidden
      have I2 := I1.hide hD s12 (s2 _ _ hDl)
      obtain ⟨I3, o3⟩ := EnvOk.wipe I2 vs hv
      have eh : ∀ (ρ' : En) (σ' : L2.St), ownAt ω ρ' σ' = ownAt ω (wipeE ρ vs) (L2.wipe σ vs) → hid (fun a => P a ∨ a = Dl) ω ρ' σ' = fun a => Hd.hid (P, ownAt ω ρ σ) a ∨ a = Dl := fun ρ' σ' eo => by
        rw [o3] at eo
        funext a
        refine propext ⟨fun z => ?_, fun z => ?_⟩
        · rcases z with (z | z) | z
          · exact .inl (.inl z)
          · exact .inr z
          · exact .inl (.inr (eo ▸ z))
        · rcases z with (z | z) | z
          · exact .inl (.inl z)
          · exact .inr (eo.symm ▸ z)
          · exact .inl (.inr z)
      have hx : Is K (mask H2 (hid (fun a => P a ∨ a = Dl) ω (wipeE ρ vs) (L2.wipe σ vs))) ds[i] x := by
        rw [eh _ _ rfl]
        refine ix _ (fun a z => ?_) (mask_same sH fun a u eu z => ?_)
        · rcases z with z | z
          · obtain ⟨u, eu⟩ := I1.domH a z
            exact ⟨u, sH _ _ eu⟩
          · exact ⟨_, by rw [z]; exact hDl⟩
        · rcases z with z | z
          · exact z
          · rw [z, hD] at eu; cases eu
      refine hg _ _ H2 _ _ _ _ ρ1 I3 hx hb _ fun σ2 I4 o4 l4 a4 => ?_
      have wp : L2.wipe σ2 vs = L2.wipe σ vs := by
        rw [wipe_agree vs (σ := L2.wipe σ vs) (l4) fun j hn => a4 j fun z => hn (hj j z)]
        exact wipe_wipe
      refine ⟨wp, noX_go ht I4 hk fun kb H3 s3 rk => ?_⟩
      cases (show kk = kb from rk)
      have s13 := s12.tr s3
      cases kk with
      | false =>
        rw [if_neg Bool.false_ne_true] at hc
        show if false = true then _ else _
        rw [if_neg Bool.false_ne_true]
        exact ⟨m - 1, by omega, by omega, s13, don, rest, xs, hc, hres, s3 _ _ (s2 _ _ hDl), hdon.mono (mask_same (s2.tr s3) fun _ _ _ z => z), by omega⟩
      | true =>
        rw [if_pos rfl] at hc
        show if true = true then _ else _
        rw [if_pos rfl]
        obtain ⟨y, hy2, hc⟩ := bind_ok_iff hc
        obtain ⟨rr, hrr, hc⟩ := bind_ok_iff hc
        cases hc
        refine noX_go he (I4.mono s3) hy2 fun yv H4 s4 ry => ?_
        have hD4 : H4 Dl = some (.lst xs) := s4 _ _ (s3 _ _ (s2 _ _ hDl))
        have s34 := s3.tr s4
        have upS : Same (mask H4 (fun a => Hd.hid (P, ownAt ω ρ σ) a ∨ a = Dl)) (mask (upd H4 Dl (.lst (xs ++ [yv]))) (fun a => Hd.hid (P, ownAt ω ρ σ) a ∨ a = Dl)) := fun a u eu => by
          obtain ⟨n, eu⟩ := mask_some.mp eu
          exact mask_some.mpr ⟨n, by rw [upd_ne (fun z => n (.inr z))]; exact eu⟩
        refine ⟨xs, hD4, ?_, m - 1, by omega, by omega, ?_, don ++ [y], rr, xs ++ [yv], hrr, by rw [← hres, List.append_assoc]; rfl, upd_same, ?_, by rw [List.length_append, List.length_singleton]; omega⟩
        · rw [lim_eq]; omega
        · intro a u eu
          have ne : a ≠ Dl := fun z => by rw [z, hD] at eu; cases eu
          rw [upd_ne ne]
          exact s4 _ _ (s13 _ _ eu)
        · refine IsL.append ?_ (isl_cons ?_ isl_nil)
          · exact (hdon.mono (mask_same (s2.tr s34) fun _ _ _ z => z)).mono upS
          · have ry' : Is K (mask H4 (hid (fun a => P a ∨ a = Dl) ω ρ1 σ2)) y yv := ry
            rw [eh _ _ o4] at ry'
            exact ry'.mono upS
    · have hi' : i = ds.length := by omega
      refine .inl ⟨(rJ H' sH).1 i (by omega), ?_⟩
      subst hi'
      rw [List.drop_length] at hc
      cases hc
      rw [List.append_nil] at hres
      subst hres
      exact k2 _ H' sH ⟨Dl, rfl, hD, xs, hDl, hdon⟩
theorem dn_lc {elt tg iter : Expr} {ifs : List Expr} {scope : Scope} {own : List (Str × Nat)} {pos : Pos} {wi : TI} {g : TG} {tt : TT} {te : TE} {f : En → Res (List D)} {js : List Nat} {b : BF} {c : En → Res Bool} {e : En → Res D} (hc : X.calm = true) (hN : X.N.Nodup)
    (hi : DC X W ω tg iter wi f) (ok : BlkOk X.N X.env.scope scope own)
    (hg : ∀ (s : Shared) (H : Hp) (C : Addr) (cl : List (Str × Addr)) (fp : List Addr), DG (X.blk s H scope (compEnvC scope cl C X.env) fp) ω tg g js b)
    (ht : ∀ (s : Shared) (H : Hp) (C : Addr) (cl : List (Str × Addr)) (fp : List Addr), DTs (X.blk s H scope (compEnvC scope cl C X.env) fp) W0 ω ifs tt c)
    (he : ∀ (s : Shared) (H : Hp) (C : Addr) (cl : List (Str × Addr)) (fp : List Addr), DE (X.blk s H scope (compEnvC scope cl C X.env) fp) W0 ω elt te e)
    (hj : ∀ j ∈ js, j ∈ own.map (·.2) := by decide) (hv : ∀ v ∈ own.map (·.2), v ∉ ω := by decide) (hs : ∀ x, foldedSetIterable iter X.env x = pure x := by intro _; rfl) :
    DN X W ω (.ListComp elt [⟨tg, iter, ifs, 0⟩] scope pos) (tLc wi g tt te (own.map (·.2))) (eComp f b c e (own.map (·.2))) :=
  ⟨pe_lc hc hN hi.pi ok (fun s H C cl fp => (hg s H C cl fp).pg) (fun s H C cl fp => (ht s H C cl fp).pts) (fun s H C cl fp => (he s H C cl fp).pe) hs,
    ev_lc hi.ev (hg X.s_0 X.H_0 0 [] []).ev (ht X.s_0 X.H_0 0 [] []).ev (he X.s_0 X.H_0 0 [] []).ev hj hv⟩
end
end Dl

/-! The data layer, part 7: statements, loops, defs. -/
namespace Dl
open PySem L2
inductive Out where
  | nx (ρ : En) | rt (d : D) | bk (ρ : En) | ct (ρ : En) | exc (x : ExV) (ρ : En) | bad
abbrev SF := En → Out
/-- m: what is handed back is new -/
def RetR (K : PySem.W.Frag) (m : Bool) (P : Addr → Prop) (H0 H' : Hp) (d : D) (v : V) : Prop := if m = true then nwP K P H0 H' d v else Is K (mask H' P) d v
/-- J: what is own where a loop is left or goes on -/
def KS (K : PySem.W.Frag) (m : Bool) (J : List Nat) (P : Addr → Prop) (H0 : Hp) (ω : List Nat) (E : Ends) (W : WX) : Out → Prop
  | .nx ρ => ∀ σ' H', EnvOk K P H0 H' ω σ' ρ → E.nx σ' H'
  | .rt d => ∀ v H', Same H0 H' → RetR K m P H0 H' d v → E.rt v H'
  | .bk ρ => ∀ σ' H', EnvOk K P H0 H' J σ' ρ → E.bk σ' H'
  | .ct ρ => ∀ σ' H', EnvOk K P H0 H' J σ' ρ → E.ct σ' H'
  | .exc x ρ => ∀ c d σ' H', EnvOk K P H0 H' [] σ' ρ → ExIs K H' x c d → W c d σ' H'
  | .bad => False
def StOf (K : PySem.W.Frag) (W : WX) (m : Bool) (J ω : List Nat) (t : TS) (F : SF) (ω' : List Nat) : Prop :=
  ∀ P H0 H σ ρ, EnvOk K P H0 H ω σ ρ → ∀ E, KS K m J P H0 ω' E W (F ρ) → t E σ H
structure DSt (X : Cx) (W : WX) (m : Bool) (J ω : List Nat) (st : Stmt) (t : TS) (F : SF) (ω' : List Nat) : Prop where
  ps : PS X st t
  ev : StOf X.K W m J ω t F ω'
structure DSs (X : Cx) (W : WX) (m : Bool) (J ω : List Nat) (st : List Stmt) (t : TS) (F : SF) (ω' : List Nat) : Prop where
  ps : PSs X st t
  ev : StOf X.K W m J ω t F ω'
def outX {α : Type} (ρ : En) (r : Res α) (k : α → Out) : Out := match r with
  | .ok a => k a
  | .exc x => .exc x ρ
  | .bad => .bad
@[simp] theorem outX_ok {α : Type} (ρ : En) (a : α) (k : α → Out) : outX ρ (.ok a) k = k a := rfl
@[simp] theorem outX_exc {α : Type} (ρ : En) (x : ExV) (k : α → Out) : outX ρ (.exc x : Res α) k = .exc x ρ := rfl
@[simp] theorem outX_bad {α : Type} (ρ : En) (k : α → Out) : outX ρ (.bad : Res α) k = .bad := rfl
def sNop : SF := fun ρ => .nx ρ
def sSeq (F G : SF) : SF := fun ρ => match F ρ with
  | .nx ρ' => G ρ'
  | o => o
def sDo (f : En → Res D) : SF := fun ρ => outX ρ (f ρ) fun _ => .nx ρ
def sSet (i : Nat) (f : En → Res D) : SF := fun ρ => outX ρ (f ρ) fun d => .nx (ρ.set i (some d))
def sRet (f : En → Res D) : SF := fun ρ => outX ρ (f ρ) .rt
def sIf (c : En → Res Bool) (F G : SF) : SF := fun ρ => outX ρ (c ρ) fun b => if b = true then F ρ else G ρ
def sBrk : SF := fun ρ => .bk ρ
def sCt : SF := fun ρ => .ct ρ
section
variable {K : PySem.W.Frag} {W : WX} {ω ω1 ω2 J : List Nat} {m : Bool} {P : Addr → Prop} {H0 H : Hp} {σ : L2.St} {ρ : En} {E : Ends}
/-- an expression first -/
theorem st_bind {α β : Type} {R : Rel α β} {t : L2.St → Hp → (β → Hp → Prop) → Prop} {f : En → Res α} {k : α → Out} {Q1 : β → Hp → Prop} (ht : EvG K W ω R t f) (I : EnvOk K P H0 H ω σ ρ) (h : KS K m J P H0 ω1 E W (outX ρ (f ρ) k))
    (hq : ∀ a b H1, f ρ = .ok a → Same H H1 → EnvOk K P H0 H1 ω σ ρ → R (P, ownAt ω ρ σ) H H1 a b → KS K m J P H0 ω1 E W (k a) → Q1 b H1) : t σ H Q1 := by
  refine ht P H0 H σ ρ I Q1 ?_
  cases e : f ρ with
  | ok a => rw [e] at h; exact fun b H1 s r => hq a b H1 e s (I.mono s) r h
  | exc x => rw [e] at h; exact fun c d H' s z => h c d σ H' ((I.mono s).weak fun _ z => nomatch z) z
  | bad => rw [e] at h; exact h.elim
/-- what is own at the end may be less -/
theorem KS.weak {o : Out} (hw : ∀ i ∈ ω1, i ∈ ω2) (h : KS K m J P H0 ω1 E W o) : KS K m J P H0 ω2 E W o := by
  cases o with
  | nx ρ => exact fun σ' H' I => h σ' H' (I.weak hw)
  | _ => exact h
theorem KS.rebase {B : Hp} {o : Out} (s : Same H0 B) (p : ∀ a, P a → ∃ o, H0 a = some o) (h : KS K false J P H0 ω E W o) : KS K false J P B ω E W o := by
  cases o with
  | nx ρ => exact fun σ' H' I => h σ' H' (I.rebase s p)
  | rt d => exact fun v H' s' r => h v H' (s.tr s') r
  | bk ρ => exact fun σ' H' I => h σ' H' (I.rebase s p)
  | ct ρ => exact fun σ' H' I => h σ' H' (I.rebase s p)
  | exc x ρ => exact fun c d σ' H' I => h c d σ' H' (I.rebase s p)
  | bad => exact h
theorem KS.rebaseN {B : Hp} {o : Out} (s : Same H0 B) (p : ∀ a, P a → ∃ o, H0 a = some o) (h : KS K true J P H0 ω E W o) : KS K true J P B ω E W o := by
  cases o with
  | nx ρ => exact fun σ' H' I => h σ' H' (I.rebase s p)
  | rt d => exact fun v H' s' ⟨a, e, n, o⟩ => h v H' (s.tr s') ⟨a, e, s.back n, o⟩
  | bk ρ => exact fun σ' H' I => h σ' H' (I.rebase s p)
  | ct ρ => exact fun σ' H' I => h σ' H' (I.rebase s p)
  | exc x ρ => exact fun c d σ' H' I => h c d σ' H' (I.rebase s p)
  | bad => exact h
theorem KS.reb {B : Hp} {o : Out} (s : Same H0 B) (p : ∀ a, P a → ∃ o, H0 a = some o) (h : KS K m J P H0 ω E W o) : KS K m J P B ω E W o := by
  cases m with
  | true => exact KS.rebaseN s p h
  | false => exact KS.rebase s p h
end
section
variable {X : Cx} {W : WX} {ω ω1 ω2 J : List Nat} {m : Bool}
theorem dst_weak {st t F} (h : DSt X W m J ω st t F ω2) (hw : ∀ i ∈ ω1, i ∈ ω2 := by decide) : DSt X W m J ω st t F ω1 := ⟨h.ps, fun P H0 H σ ρ I E k => h.ev P H0 H σ ρ I E (k.weak hw)⟩
theorem dss_weak {st t F} (h : DSs X W m J ω st t F ω2) (hw : ∀ i ∈ ω1, i ∈ ω2 := by decide) : DSs X W m J ω st t F ω1 := ⟨h.ps, fun P H0 H σ ρ I E k => h.ev P H0 H σ ρ I E (k.weak hw)⟩
/-- ahead of it: what is own is shared from here -/
theorem dss_share {st t F} (h : DSs X W m J ω1 st t F ω2) (hw : ∀ i ∈ ω1, i ∈ ω := by decide) : DSs X W m J ω st t F ω2 := ⟨h.ps, fun P H0 H σ ρ I E k => h.ev P H0 H σ ρ (I.weak hw) E k⟩
theorem dss_nil : DSs X W m J ω [] tNext sNop ω := ⟨pss_nil, fun P H0 H σ ρ I E k => k σ H I⟩
theorem dss_one {st t F} (h : DSt X W m J ω st t F ω1) : DSs X W m J ω [st] t F ω1 := ⟨pss_one h.ps, h.ev⟩
theorem dss_cons {st : Stmt} {rest : List Stmt} {t u F G} (h1 : DSt X W m J ω st t F ω1) (h2 : DSs X W m J ω1 rest u G ω2) : DSs X W m J ω (st :: rest) (tSeq t u) (sSeq F G) ω2 :=
  ⟨pss_cons h1.ps h2.ps, fun P H0 H σ ρ I E k => by
    refine h1.ev P H0 H σ ρ I _ ?_
    have k' : KS X.K m J P H0 ω2 E W (match F ρ with
      | .nx ρ' => G ρ'
      | o => o) := k
    cases q : F ρ with
    | nx ρ' => rw [q] at k'; exact fun σ' H' I' => h2.ev P H0 H' σ' ρ' I' E k'
    | rt d => rw [q] at k'; exact k'
    | bk ρ' => rw [q] at k'; exact k'
    | ct ρ' => rw [q] at k'; exact k'
    | exc x ρ' => rw [q] at k'; exact k'
    | bad => rw [q] at k'; exact k'⟩
theorem ds_pass {pos : Pos} : DSt X W m J ω (.Pass pos) tNext sNop ω := ⟨ps_pass, fun P H0 H σ ρ I E k => k σ H I⟩
theorem ds_brk {pos : Pos} (hw : ∀ i ∈ J, i ∈ ω := by decide) : DSt X W m J ω (.Break pos) tBreak sBrk ω1 := ⟨ps_break, fun P H0 H σ ρ I E k => k σ H (I.weak hw)⟩
theorem ds_ct {pos : Pos} (hw : ∀ i ∈ J, i ∈ ω := by decide) : DSt X W m J ω (.Continue pos) tCont sCt ω1 := ⟨ps_continue, fun P H0 H σ ρ I E k => k σ H (I.weak hw)⟩
theorem ds_do {e : Expr} {pos : Pos} {te fe} (h : DE X W ω e te fe) (hp : PS X (.Expr e pos) (tDrop te)) : DSt X W m J ω (.Expr e pos) (tDrop te) (sDo fe) ω := ⟨hp, fun P H0 H σ ρ I E k =>
  st_bind h.ev I k fun d v H1 _ s I1 r k1 => k1 σ H1 I1⟩
/-- x = e -/
theorem ds_set (i : Nat) {st : Stmt} {e : Expr} {te fe} (h : DE X W ω e te fe) (hp : PS X st (tAsg te (gName i))) : DSt X W m J ω st (tAsg te (gName i)) (sSet i fe) (ω.filter (· != i)) := ⟨hp, fun P H0 H σ ρ I E k =>
  st_bind h.ev I k fun d v H1 _ s I1 r k1 => k1 _ H1 (I1.set (fun z => by simpa using (List.mem_filter.mp z).2) (fun j hj => (List.mem_filter.mp hj).1) r)⟩
/-- x = e, e new: x is own -/
theorem EnvOk.setNew {K : PySem.W.Frag} {P : Addr → Prop} {H0 H H1 : Hp} {σ ρ} (I : EnvOk K P H0 H ω σ ρ) (s : Same H H1) {i : Nat} {d : D} {v : V} (r : nwP K (hid P ω ρ σ) H H1 d v) : EnvOk K P H0 H1 (i :: ω) (σ.set i (some v)) (ρ.set i (some d)) := by
  obtain ⟨a, rfl, n, o⟩ := r
  have J := I.mono s
  -- what is hidden then: the own ones but i's old one, and a
  have ho : ∀ b, ownAt (i :: ω) (ρ.set i (some d)) (σ.set i (some (.ref a))) b → ownAt ω ρ σ b ∨ b = a := fun b ⟨j, e, hj, h1, h2⟩ => by
    by_cases q : i = j
    · subst q
      by_cases hl : i < σ.length
      · rw [List.getElem?_set_self hl] at h2
        cases h2
        exact .inr rfl
      · rw [List.getElem?_eq_none (by simpa using hl)] at h2; cases h2
    · rw [List.getElem?_set_ne q] at h1 h2
      rcases List.mem_cons.mp hj with z | z
      · exact absurd z.symm q
      · exact .inl ⟨j, e, z, h1, h2⟩
  have hm1 : Same (mask H1 (fun b => hid P ω ρ σ b ∨ b = a)) (mask H1 (hid P (i :: ω) (ρ.set i (some d)) (σ.set i (some (.ref a))))) := mask_same (Same.rfl' _) fun b u _ z => by
    rcases z with z | z
    · exact .inl (.inl z)
    · rcases ho b z with z | z
      · exact .inl (.inr z)
      · exact .inr z
  have hm2 : Same (mask H (hid P ω ρ σ)) (mask H1 (fun b => hid P ω ρ σ b ∨ b = a)) := mask_same s fun b u eu z => by
    rcases z with z | z
    · exact z
    · rw [z, n] at eu; cases eu
  have hm := hm2.tr hm1
  have na : ∀ b, ownAt ω ρ σ b → b ≠ a := fun b z e => by
    obtain ⟨u, eu⟩ := (I.own z).1
    rw [e, n] at eu; cases eu
  refine ⟨by simp [I.len], fun j e hr nj => ?_, fun j e hr hj => ?_, fun j k e f b hj hk h1 h2 h3 h4 => ?_, ?_, I.pin⟩
  · have q : i ≠ j := fun z => nj (by rw [z]; exact List.mem_cons_self)
    rw [List.getElem?_set_ne q] at hr ⊢
    obtain ⟨v, e1, r1⟩ := I.sh j e hr fun z => nj (List.mem_cons_of_mem _ z)
    exact ⟨v, e1, r1.mono hm⟩
  · by_cases q : i = j
    · subst q
      have hl : i < ρ.length := by
        by_cases hl : i < ρ.length
        · exact hl
        · rw [List.getElem?_eq_none (by simpa using hl)] at hr; cases hr
      rw [List.getElem?_set_self hl] at hr
      cases hr
      refine ⟨a, by rw [List.getElem?_set_self (by rw [← I.len]; exact hl)], o.mono rfl hm1, ?_⟩
      exact I.same.back n
    · rw [List.getElem?_set_ne q] at hr ⊢
      rcases List.mem_cons.mp hj with z | z
      · exact absurd z.symm q
      · obtain ⟨b, e1, r1, z1⟩ := I.ow j e hr z
        obtain ⟨u, eu⟩ := r1.there
        exact ⟨b, e1, r1.mono ((s _ _ eu).trans eu.symm) hm, z1⟩
  · have key : ∀ j, i ≠ j → j ∈ i :: ω → ∀ e, (ρ.set i (some d))[j]? = some (some e) → (σ.set i (some (V.ref a)))[j]? = some (some (.ref b)) → ownAt ω ρ σ b ∧ j ∈ ω ∧ ρ[j]? = some (some e) ∧ σ[j]? = some (some (.ref b)) := fun j q hj e h1 h2 => by
      rw [List.getElem?_set_ne q] at h1 h2
      rcases List.mem_cons.mp hj with z | z
      · exact absurd z.symm q
      · exact ⟨⟨j, e, z, h1, h2⟩, z, h1, h2⟩
    have self : ∀ e, (ρ.set i (some d))[i]? = some (some e) → (σ.set i (some (V.ref a)))[i]? = some (some (.ref b)) → b = a := fun e h1 h2 => by
      by_cases hl : i < σ.length
      · rw [List.getElem?_set_self hl] at h2; cases h2; rfl
      · rw [List.getElem?_eq_none (by simpa using hl)] at h2; cases h2
    by_cases q : i = j
    · by_cases q2 : i = k
      · exact q.symm.trans q2
      · obtain ⟨z, _⟩ := key k q2 hk f h2 h4
        subst q
        exact absurd (self e h1 h3) (na b z)
    · by_cases q2 : i = k
      · obtain ⟨z, _⟩ := key j q hj e h1 h3
        subst q2
        exact absurd (self f h2 h4) (na b z)
      · obtain ⟨_, z1, z2, z3⟩ := key j q hj e h1 h3
        obtain ⟨_, y1, y2, y3⟩ := key k q2 hk f h2 h4
        exact I.inj j k e f b z1 y1 z2 y2 z3 y3
  · intro b u eu
    have := J.base b u eu
    obtain ⟨nb, eb⟩ := mask_some.mp this
    refine mask_some.mpr ⟨fun z => ?_, eb⟩
    rcases ho b z with z | z
    · exact nb z
    · have h0 := I.same.back n
      rw [z, h0] at eu; cases eu
theorem ds_new (i : Nat) {st : Stmt} {e : Expr} {te fe} (h : DN X W ω e te fe) (hp : PS X st (tAsg te (gName i))) : DSt X W m J ω st (tAsg te (gName i)) (sSet i fe) (i :: ω) := ⟨hp, fun P H0 H σ ρ I E k => by
  refine h.ev P H0 H σ ρ I _ ?_
  have k' : KS X.K m J P H0 (i :: ω) E W (outX ρ (fe ρ) fun d => .nx (ρ.set i (some d))) := k
  cases q : fe ρ with
  | ok d => rw [q] at k'; exact fun v H1 s r => k' _ H1 (I.setNew s r)
  | exc x => rw [q] at k'; exact fun c d H' s z => k' c d σ H' ((I.mono s).weak fun _ z => nomatch z) z
  | bad => rw [q] at k'; exact k'.elim⟩
theorem ds_ret {e : Expr} {pos : Pos} {te fe} (h : DE X W ω e te fe) (hp : PS X (.Return (some e) pos) (tRet te)) : DSt X W false J ω (.Return (some e) pos) (tRet te) (sRet fe) ω1 := ⟨hp, fun P H0 H σ ρ I E k =>
  st_bind h.ev I k fun d v H1 _ s I1 r k1 => k1 v H1 I1.same (show Is X.K (mask H1 P) d v from r.mono (mask_same (Same.rfl' _) fun _ _ _ z => .inl z))⟩
/-- an own list is handed back -/
theorem ds_retO {e : Expr} {pos : Pos} {te fe} (h : DS X W ω e te fe) (hp : PS X (.Return (some e) pos) (tRet te)) : DSt X W false J ω (.Return (some e) pos) (tRet te) (sRet fe) ω1 := ⟨hp, fun P H0 H σ ρ I E k =>
  st_bind h.ev I k fun d v H1 _ s I1 r k1 => k1 v H1 I1.same (show Is X.K (mask H1 P) d v from by
    rcases r with r | ⟨a, rfl, ha, o⟩
    · exact r.mono (mask_same (Same.rfl' _) fun _ _ _ z => .inl z)
    · exact o.is (fun u eu => mask_some.mpr ⟨I1.apart ha, eu⟩) (mask_same (Same.rfl' _) fun _ _ _ z => .inl z))⟩
theorem ds_retN {e : Expr} {pos : Pos} {te fe} (h : DN X W ω e te fe) (hp : PS X (.Return (some e) pos) (tRet te)) : DSt X W true J ω (.Return (some e) pos) (tRet te) (sRet fe) ω1 := ⟨hp, fun P H0 H σ ρ I E k =>
  st_bind h.ev I k fun d v H1 _ s I1 r k1 => k1 v H1 I1.same (show nwP X.K P H0 H1 d v from by
    obtain ⟨a, rfl, n, o⟩ := r
    exact ⟨a, rfl, I.same.back n, o.mono rfl (mask_same (Same.rfl' _) fun b _ _ z => z.elim (fun z => .inl (.inl z)) .inr)⟩)⟩
/-- an own variable, as something new -/
theorem ds_retV (i : Nat) (hi : i ∈ ω) {e : Expr} {pos : Pos} (hp : PS X (.Return (some e) pos) (tRet (tVar i))) : DSt X W true J ω (.Return (some e) pos) (tRet (tVar i)) (sRet (eVar i)) ω1 := ⟨hp, fun P H0 H σ ρ I E k => by
  have k' : KS X.K true J P H0 ω1 E W (outX ρ (eVar i ρ) .rt) := k
  unfold eVar at k'
  cases q : ρ[i]? with
  | none => rw [q] at k'; exact k'.elim
  | some o =>
    cases o with
    | none => rw [q] at k'; exact k'.elim
    | some d =>
      rw [q] at k'
      obtain ⟨a, e, r, n⟩ := I.ow i d q hi
      exact ⟨.ref a, e, k' _ H I.same ⟨a, rfl, n, r.mono rfl (mask_same (Same.rfl' _) fun b _ _ z => z.elim .inl fun z => .inr (by rw [z]; exact ⟨i, d, hi, q, e⟩))⟩⟩⟩
theorem ds_retNone {pos : Pos} : DSt X W false J ω (.Return none pos) tRetN (sRet (eC .non)) ω1 := ⟨ps_retN, fun P H0 H σ ρ I E k => k .non H I.same (show Is X.K (mask H P) .non .non from rfl)⟩
theorem ds_if {c : Expr} {a b : List Stmt} {pos : Pos} {tc fc ta tb F G} (hc : DT X W ω c tc fc) (ha : DSs X W m J ω a ta F ω1) (hb : DSs X W m J ω b tb G ω1) (hp : PS X (.If c a b pos) (tIfS tc ta tb)) : DSt X W m J ω (.If c a b pos) (tIfS tc ta tb) (sIf fc F G) ω1 :=
  ⟨hp, fun P H0 H σ ρ I E k => by
    have k' : KS X.K m J P H0 ω1 E W (outX ρ (fc ρ) fun b => if b = true then F ρ else G ρ) := k
    refine st_bind hc.ev I k' fun d v H1 _ s I1 r k1 => ?_
    cases (show d = v from r)
    cases d with
    | true => rw [if_pos rfl] at k1 ⊢; exact ha.ev P H0 H1 σ ρ I1 E k1
    | false => rw [if_neg Bool.false_ne_true] at k1 ⊢; exact hb.ev P H0 H1 σ ρ I1 E k1⟩

/-! ### loops -/
def loopK (o : Out) (k : SF) : Out := match o with
  | .nx ρ => k ρ
  | .ct ρ => k ρ
  | .bk ρ => .nx ρ
  | o => o
def forD (b : BF) (B : SF) : List D → SF
  | [] => fun ρ => .nx ρ
  | d :: ds => fun ρ => match b d ρ with
    | none => .bad
    | some ρ1 => loopK (B ρ1) (forD b B ds)
theorem forD_cons {b : BF} {B : SF} {d : D} {ds : List D} {ρ ρ1 : En} (h : b d ρ = some ρ1) : forD b B (d :: ds) ρ = loopK (B ρ1) (forD b B ds) := by
  show (match b d ρ with
    | none => Out.bad
    | some ρ1 => loopK (B ρ1) (forD b B ds)) = _
  rw [h]
theorem forD_bad {b : BF} {B : SF} {d : D} {ds : List D} {ρ : En} (h : b d ρ = none) : forD b B (d :: ds) ρ = .bad := by
  show (match b d ρ with
    | none => Out.bad
    | some ρ1 => loopK (B ρ1) (forD b B ds)) = _
  rw [h]
def sFor (f : En → Res (List D)) (b : BF) (B : SF) : SF := fun ρ => outX ρ (f ρ) fun ds => forD b B ds ρ
theorem for_core {K : PySem.W.Frag} {g : TG} {tb : TS} {js : List Nat} {b : BF} {B : SF} (hg : TgOf K ω g js b) (hb : StOf K W m ω ω tb B ω1) (hw : ∀ i ∈ ω, i ∈ ω1) {P : Addr → Prop} {H0 H1 : Hp} {σ ρ} {E : Ends} {ds : List D} {Jt : It}
    (I1 : EnvOk K P H0 H1 ω σ ρ) (rJ : IterOk K P (mask H1 (ownAt ω ρ σ)) Jt ds) (k1 : KS K m J P H0 ω E W (forD b B ds ρ)) :
    ∃ W : Nat → Nat → L2.St → Hp → Prop, (∃ m, W 0 m σ H1) ∧ ∀ i m σ H, W i m σ H → (Jt.stop i H ∧ E.nx σ H) ∨ (Jt.go i H ∧ ∃ N : L2.St → Hp → Prop, (∀ σ' H', N σ' H' → ∃ m', m' < m ∧ W (i + 1) m' σ' H') ∧
      ∀ x H', Jt.yld i H x H' → g x σ H' fun σ2 H2 => tb { E with nx := N, ct := N, bk := E.nx } σ2 H2) := by
  -- the heap at the loop's start, without what is own, is the turns' base
  have sB : Same H0 (mask H1 (ownAt ω ρ σ)) := I1.base
  have k2 : KS K m J P (mask H1 (ownAt ω ρ σ)) ω E W (forD b B ds ρ) := k1.reb sB I1.pin
  refine ⟨fun i mm σ' H' => mm + i = ds.length ∧ ∃ ρ', EnvOk K P (mask H1 (ownAt ω ρ σ)) H' ω σ' ρ' ∧ KS K m J P (mask H1 (ownAt ω ρ σ)) ω E W (forD b B (ds.drop i) ρ'), ⟨ds.length, rfl, ρ, I1.here, k2⟩, ?_⟩
  rintro i mm σ' H' ⟨hm, ρ', I', kk⟩
  have sH : Same (mask H1 (ownAt ω ρ σ)) H' := I'.same
  by_cases hlt : i < ds.length
  · have hd : ds[i]? = some ds[i] := List.getElem?_eq_getElem hlt
    have hdrop : ds.drop i = ds[i] :: ds.drop (i + 1) := by rw [List.drop_eq_getElem_cons hlt]
    obtain ⟨go, yl⟩ := (rJ H' sH).2 i _ hd
    rw [hdrop] at kk
    cases hb1 : b ds[i] ρ' with
    | none => rw [forD_bad hb1] at kk; exact kk.elim
    | some ρ1 =>
      rw [forD_cons hb1] at kk
      refine .inr ⟨go, fun σ2 H2 => ∃ m', m' < mm ∧ m' + (i + 1) = ds.length ∧ ∃ ρ2, EnvOk K P (mask H1 (ownAt ω ρ σ)) H2 ω σ2 ρ2 ∧ KS K m J P (mask H1 (ownAt ω ρ σ)) ω E W (forD b B (ds.drop (i + 1)) ρ2), fun _ _ h => h, fun x H2 hy => ?_⟩
      obtain ⟨s2, ix⟩ := yl x H2 hy
      have I2 := I'.mono s2
      have hx : Is K (mask H2 (hid P ω ρ' σ')) ds[i] x := ix _ (fun a z => I'.dom z) (by
        rw [mask_mask]
        have e1 := mask_same I'.base (P := P) (Q := P) (fun _ _ _ z => z)
        rw [mask_mask, mask_mask] at e1
        exact e1)
      refine hg P _ H2 σ' ρ' _ _ ρ1 I2 hx hb1 _ fun σ3 I3 _ _ _ => ?_
      refine hb P _ H2 σ3 ρ1 I3 _ ?_
      cases q : B ρ1 with
      | nx ρ2 => rw [q] at kk; exact fun σ4 H4 I4 => ⟨mm - 1, by omega, by omega, ρ2, I4.weak hw, kk⟩
      | ct ρ2 => rw [q] at kk; exact fun σ4 H4 I4 => ⟨mm - 1, by omega, by omega, ρ2, I4, kk⟩
      | bk ρ2 => rw [q] at kk; exact kk
      | rt d => rw [q] at kk; exact kk
      | exc x ρ2 => rw [q] at kk; exact kk
      | bad => rw [q] at kk; exact kk.elim
  · have hi' : i = ds.length := by omega
    refine .inl ⟨(rJ H' sH).1 i (by omega), ?_⟩
    subst hi'
    rw [List.drop_length] at kk
    exact kk σ' H' I'
theorem ev_for {K : PySem.W.Frag} {wi : TI} {g : TG} {tb : TS} {f : En → Res (List D)} {js : List Nat} {b : BF} {B : SF} (hi : EvG K W ω (itR K) wi f) (hg : TgOf K ω g js b) (hb : StOf K W m ω ω tb B ω1) (hw : ∀ i ∈ ω, i ∈ ω1) :
    StOf K W m J ω (tFor wi g tb) (sFor f b B) ω := fun P H0 H σ ρ I E k => by
  have k' : KS K m J P H0 ω E W (outX ρ (f ρ) fun ds => forD b B ds ρ) := k
  exact st_bind hi I k' fun ds Jt H1 _ s I1 rJ k1 => for_core hg hb hw I1 rJ k1
theorem ds_for {tg iter : Expr} {body : List Stmt} {pos : Pos} {wi g tb f js b B} (hi : DI X W ω tg iter wi f) (hg : DG X ω tg g js b) (hb : DSs X W m ω ω body tb B ω1) (hp : PS X (.For tg iter body [] pos) (tFor wi g tb)) (hw : ∀ i ∈ ω, i ∈ ω1 := by decide) :
    DSt X W m J ω (.For tg iter body [] pos) (tFor wi g tb) (sFor f b B) ω := ⟨hp, ev_for hi.ev hg.ev hb.ev hw⟩
def whileD (c : En → Res Bool) (B : SF) : Nat → SF
  | 0, _ => .bad
  | n + 1, ρ => outX ρ (c ρ) fun k => if k = true then loopK (B ρ) (whileD c B n) else .nx ρ
theorem ev_while {K : PySem.W.Frag} {tc : TT} {tb : TS} {c : En → Res Bool} {B : SF} (n : Nat) (hc : EvG K W ω eqR tc c) (hb : StOf K W m ω ω tb B ω1) (hw : ∀ i ∈ ω, i ∈ ω1) : StOf K W m J ω (tWhile tc tb) (whileD c B n) ω := fun P H0 H σ ρ I E k => by
  refine ⟨fun mm σ' H' => ∃ ρ', EnvOk K P H0 H' ω σ' ρ' ∧ KS K m J P H0 ω E W (whileD c B mm ρ'), ⟨n, ρ, I, k⟩, ?_⟩
  rintro mm σ' H' ⟨ρ', I', kk⟩
  cases mm with
  | zero => exact kk.elim
  | succ mm =>
    have kk' : KS K m J P H0 ω E W (outX ρ' (c ρ') fun k => if k = true then loopK (B ρ') (whileD c B mm) else .nx ρ') := kk
    refine st_bind hc I' kk' fun d v H1 _ s I1 r k1 => ?_
    cases (show d = v from r)
    cases d with
    | false => rw [if_neg Bool.false_ne_true] at k1 ⊢; exact k1 σ' H1 I1
    | true =>
      rw [if_pos rfl] at k1 ⊢
      refine ⟨fun σ2 H2 => ∃ ρ2, EnvOk K P H0 H2 ω σ2 ρ2 ∧ KS K m J P H0 ω E W (whileD c B mm ρ2), fun _ _ h => ⟨mm, Nat.lt_succ_self _, h⟩, ?_⟩
      refine hb P H0 H1 σ' ρ' I1 _ ?_
      cases q : B ρ' with
      | nx ρ2 => rw [q] at k1; exact fun σ4 H4 I4 => ⟨ρ2, I4.weak hw, k1⟩
      | ct ρ2 => rw [q] at k1; exact fun σ4 H4 I4 => ⟨ρ2, I4, k1⟩
      | bk ρ2 => rw [q] at k1; exact k1
      | rt d => rw [q] at k1; exact k1
      | exc x ρ2 => rw [q] at k1; exact k1
      | bad => rw [q] at k1; exact k1.elim
theorem ds_while (n : Nat) {c : Expr} {body : List Stmt} {pos : Pos} {tc tb fc B} (hc : DT X W ω c tc fc) (hb : DSs X W m ω ω body tb B ω1) (hp : PS X (.While c body [] pos) (tWhile tc tb)) (hw : ∀ i ∈ ω, i ∈ ω1 := by decide) :
    DSt X W m J ω (.While c body [] pos) (tWhile tc tb) (whileD fc B n) ω := ⟨hp, ev_while n hc.ev hb.ev hw⟩
/-- x op= e -/
def sAug (i : Nat) (g : D → D → Option D) (f : En → Res D) : SF := fun ρ => outX ρ ((eVar i ρ).bind fun a => (f ρ).bind fun b => .ofO (g a b)) fun d => .nx (ρ.set i (some d))
theorem ds_aug (i : Nat) {st : Stmt} {e : Expr} {te fe} {r : R2} {g : D → D → Option D} (hi : i ∉ ω) (h : DS X W ω e te fe) (hg : OpG X.K (shR X.K) r g) (hp : PS X st (tAug i te r)) : DSt X W m J ω st (tAug i te r) (sAug i g fe) ω := ⟨hp, fun P H0 H σ ρ I E k => by
  have k' : KS X.K m J P H0 ω E W (outX ρ ((eVar i ρ).bind fun a => (fe ρ).bind fun b => .ofO (g a b)) fun d => .nx (ρ.set i (some d))) := k
  cases q : ρ[i]? with
  | none => unfold eVar at k'; rw [q] at k'; exact k'.elim
  | some o =>
    cases o with
    | none => unfold eVar at k'; rw [q] at k'; exact k'.elim
    | some d =>
      have ev : eVar i ρ = .ok d := by unfold eVar; rw [q]
      rw [ev, Res.bind_ok] at k'
      obtain ⟨v, e, rv⟩ := I.sh i d q hi
      refine ⟨v, e, h.ev P H0 H σ ρ I _ ?_⟩
      cases q2 : fe ρ with
      | bad => rw [q2] at k'; exact k'.elim
      | exc x => rw [q2] at k'; exact fun c d H' s z => k' c d σ H' ((I.mono s).weak fun _ z => nomatch z) z
      | ok d2 =>
        rw [q2, Res.bind_ok] at k'
        intro y H1 s ry
        have I1 := I.mono s
        cases q3 : g d d2 with
        | none => rw [q3] at k'; exact k'.elim
        | some d3 =>
          rw [q3] at k'
          exact hg (P, ownAt ω ρ σ) H1 d d2 v y d3 I1.domH (.inl (rv.mono (mask_same s fun _ _ _ z => z))) ry q3 _ fun z H2 s2 r2 => k' _ H2 ((I1.mono s2).set hi (fun _ z => z) r2)⟩

/-! ### own lists, own dicts are changed -/
theorem EnvOk.change {K : PySem.W.Frag} {P : Addr → Prop} {H0 H : Hp} {σ ρ} (I : EnvOk K P H0 H ω σ ρ) {i : Nat} {d d' : D} {a : Addr} {o : HO} (hi : i ∈ ω) (hr : ρ[i]? = some (some d)) (hs : σ[i]? = some (some (.ref a)))
    (hn : OwnIs K (upd H a o) (mask H (hid P ω ρ σ)) a d') : EnvOk K P H0 (upd H a o) ω σ (ρ.set i (some d')) := by
  have own_a : ownAt ω ρ σ a := ⟨i, d, hi, hr, hs⟩
  have hl : i < ρ.length := (List.getElem?_eq_some_iff.mp hr).1
  have ho : ownAt ω (ρ.set i (some d')) σ = ownAt ω ρ σ := funext fun b => propext ⟨fun ⟨j, e, hj, h1, h2⟩ => by
      by_cases q : i = j
      · subst q; exact ⟨i, d, hi, hr, h2⟩
      · rw [List.getElem?_set_ne q] at h1; exact ⟨j, e, hj, h1, h2⟩,
    fun ⟨j, e, hj, h1, h2⟩ => by
      by_cases q : i = j
      · subst q; exact ⟨i, d', hi, by rw [List.getElem?_set_self hl], h2⟩
      · exact ⟨j, e, hj, by rw [List.getElem?_set_ne q]; exact h1, h2⟩⟩
  have eh : hid P ω (ρ.set i (some d')) σ = hid P ω ρ σ := by unfold hid; rw [ho]
  have em : mask (upd H a o) (hid P ω ρ σ) = mask H (hid P ω ρ σ) := by
    funext b
    by_cases z : hid P ω ρ σ b
    · rw [mask_hid z, mask_hid z]
    · rw [mask_seen z, mask_seen z, upd_ne (fun e => z (by rw [e]; exact .inr own_a))]
  refine ⟨by simp [I.len], fun j e hr' n => ?_, fun j e hr' hj => ?_, fun j k e f b hj hk h1 h2 h3 h4 => ?_, ?_, I.pin⟩
  · have q : i ≠ j := fun z => n (by rw [← z]; exact hi)
    rw [List.getElem?_set_ne q] at hr'
    rw [eh, em]
    exact I.sh j e hr' n
  · rw [eh, em]
    by_cases q : i = j
    · subst q
      rw [List.getElem?_set_self hl] at hr'
      cases hr'
      exact ⟨a, hs, hn, (I.own own_a).2⟩
    · rw [List.getElem?_set_ne q] at hr'
      obtain ⟨b, e1, r1, z1⟩ := I.ow j e hr' hj
      have ne : b ≠ a := fun z => q (I.inj i j d e a hi hj hr hr' hs (by rw [← z]; exact e1))
      exact ⟨b, e1, r1.mono (upd_ne ne) (Same.rfl' _), z1⟩
  · have get : ∀ j e, (ρ.set i (some d'))[j]? = some (some e) → ∃ e', ρ[j]? = some (some e') := fun j e h => by
      by_cases q : i = j
      · subst q; exact ⟨d, hr⟩
      · rw [List.getElem?_set_ne q] at h; exact ⟨e, h⟩
    obtain ⟨e', h1'⟩ := get j e h1
    obtain ⟨f', h2'⟩ := get k f h2
    exact I.inj j k e' f' b hj hk h1' h2' h3 h4
  · rw [ho]
    intro b u eu
    obtain ⟨nb, eb⟩ := mask_some.mp (I.base b u eu)
    exact mask_some.mpr ⟨nb, by rw [upd_ne (fun e => nb (by rw [e]; exact own_a))]; exact eb⟩
theorem own_mono {K : PySem.W.Frag} {H M : Hp} {a : Addr} {o : HO} {ds : List D} {xs : List V} (e : o = .lst xs) (r : IsL K M ds xs) : OwnIs K (upd H a o) M a (.lst ds) := ⟨xs, by rw [e]; exact upd_same, r⟩
def appD (r : Res D) : D → Res D
  | .lst ds => r.bind fun b => if ds.length < lim then .ok (.lst (ds ++ [b])) else .bad
  | _ => .bad
def sApp (i : Nat) (f : En → Res D) : SF := fun ρ => outX ρ ((eVar i ρ).bind (appD (f ρ))) fun d => .nx (ρ.set i (some d))
theorem ds_app (i : Nat) {st : Stmt} {e : Expr} {te fe} (hi : i ∈ ω) (h : DE X W ω e te fe) (hp : PS X st (tDrop (tBM X.K "list" rAppend (tVar i) (tCons te tNil)))) : DSt X W m J ω st (tDrop (tBM X.K "list" rAppend (tVar i) (tCons te tNil))) (sApp i fe) ω :=
  ⟨hp, fun P H0 H σ ρ I E k => by
    have k' : KS X.K m J P H0 ω E W (outX ρ ((eVar i ρ).bind (appD (fe ρ))) fun d => .nx (ρ.set i (some d))) := k
    cases q : ρ[i]? with
    | none => unfold eVar at k'; rw [q] at k'; exact k'.elim
    | some o =>
      cases o with
      | none => unfold eVar at k'; rw [q] at k'; exact k'.elim
      | some d =>
        have ev : eVar i ρ = .ok d := by unfold eVar; rw [q]
        rw [ev, Res.bind_ok] at k'
        obtain ⟨a, e, ow, _⟩ := I.ow i d q hi
        cases d with
        | lst ds =>
          obtain ⟨xs, hx, lx⟩ := ow
          refine ⟨.ref a, e, Or.inl ⟨rfl, xs, SqL.of hx⟩, h.ev P H0 H σ ρ I _ ?_⟩
          have k'' : KS X.K m J P H0 ω E W (outX ρ ((fe ρ).bind fun b => if ds.length < lim then .ok (.lst (ds ++ [b])) else .bad) fun d => .nx (ρ.set i (some d))) := k'
          cases q2 : fe ρ with
          | bad => rw [q2] at k''; exact k''.elim
          | exc x => rw [q2] at k''; exact fun c d H' s z => k'' c d σ H' ((I.mono s).weak fun _ z => nomatch z) z
          | ok d2 =>
            rw [q2, Res.bind_ok] at k''
            intro y H1 s ry
            have I1 := I.mono s
            by_cases z : ds.length < lim
            · have k2 : ∀ σ' H', EnvOk X.K P H0 H' ω σ' (ρ.set i (some (.lst (ds ++ [d2])))) → E.nx σ' H' := by
                have k3 : KS X.K m J P H0 ω E W (outX ρ (if ds.length < lim then .ok (.lst (ds ++ [d2])) else .bad) fun d => .nx (ρ.set i (some d))) := k''
                rw [if_pos z] at k3
                exact k3
              refine ⟨a, xs, y, rfl, rfl, s _ _ hx, by rw [lim_eq, ← lx.length]; exact z, ?_⟩
              exact k2 σ _ (I1.change hi q e (own_mono rfl ((lx.mono (mask_same s fun _ _ _ z => z)).append (isl_cons ry isl_nil))))
            · have k3 : KS X.K m J P H0 ω E W (outX ρ (if ds.length < lim then .ok (.lst (ds ++ [d2])) else .bad) fun d => .nx (ρ.set i (some d))) := k''
              rw [if_neg z] at k3
              exact k3.elim
        | dct ds => exact k'.elim
        | _ => exact ow.elim⟩
end
end Dl

/-! The data layer, part 8: stores, raise, try, locked walks, defs. -/
namespace Dl
open PySem PySem.Spec PyProof.Rows L2
section
variable {X : Cx} {W : WX} {ω ω1 ω2 J : List Nat} {m : Bool}
/-! ### x[k] = e, x.extend(e) -/
def putL (r : D) (k : D) : D → Res D
  | .lst ds => match k with
    | .int j => match ixN ds.length j with
      | some n => .ok (.lst (ds.set n r))
      | none => .bad
    | _ => .bad
  | _ => .bad
def sPutL (i : Nat) (fk fe : En → Res D) : SF := fun ρ => outX ρ ((fe ρ).bind fun r => (eVar i ρ).bind fun d => (fk ρ).bind fun k => putL r k d) fun d => .nx (ρ.set i (some d))
theorem eVar_own {K : PySem.W.Frag} {P H0 H σ ρ} (I : EnvOk K P H0 H ω σ ρ) {i : Nat} (hi : i ∈ ω) {d : D} (h : eVar i ρ = .ok d) : ρ[i]? = some (some d) ∧ ∃ a, σ[i]? = some (some (.ref a)) ∧ OwnIs K H (mask H (hid P ω ρ σ)) a d := by
  unfold eVar at h
  cases q : ρ[i]? with
  | none => rw [q] at h; cases h
  | some o =>
    cases o with
    | none => rw [q] at h; cases h
    | some d' =>
      rw [q] at h; cases h
      obtain ⟨a, e, r, _⟩ := I.ow i d q hi
      exact ⟨rfl, a, e, r⟩
theorem eVar_bad {i : Nat} {ρ : En} (h : ∀ d, eVar i ρ ≠ .ok d) : eVar i ρ = .bad := by
  unfold eVar at h ⊢
  cases q : ρ[i]? with
  | none => rfl
  | some o => cases o with
    | none => rfl
    | some d => rw [q] at h; exact absurd rfl (h d)
theorem ds_putL (i : Nat) {st : Stmt} {e ke : Expr} {te fe tk fk} (hi : i ∈ ω) (h : DE X W ω e te fe) (hk : DE X W ω ke tk fk) (hp : PS X st (tAsg te (gSub (tVar i) tk rSetL))) :
    DSt X W m J ω st (tAsg te (gSub (tVar i) tk rSetL)) (sPutL i fk fe) ω := ⟨hp, fun P H0 H σ ρ I E k => by
  have k' : KS X.K m J P H0 ω E W (outX ρ ((fe ρ).bind fun r => (eVar i ρ).bind fun d => (fk ρ).bind fun k => putL r k d) fun d => .nx (ρ.set i (some d))) := k
  refine h.ev P H0 H σ ρ I _ ?_
  cases q1 : fe ρ with
  | bad => rw [q1] at k'; exact k'.elim
  | exc x => rw [q1] at k'; exact fun c d H' s z => k' c d σ H' ((I.mono s).weak fun _ z => nomatch z) z
  | ok r =>
    rw [q1, Res.bind_ok] at k'
    intro v H1 s1 r1
    have I1 := I.mono s1
    cases qv : eVar i ρ with
    | exc x => unfold eVar at qv; split at qv <;> cases qv
    | bad => rw [qv] at k'; exact k'.elim
    | ok d =>
      rw [qv, Res.bind_ok] at k'
      obtain ⟨hr, a, hs, _⟩ := eVar_own I1 hi qv
      refine ⟨.ref a, hs, hk.ev P H0 H1 σ ρ I1 _ ?_⟩
      cases q2 : fk ρ with
      | bad => rw [q2] at k'; exact k'.elim
      | exc x => rw [q2] at k'; exact fun c d H' s z => k' c d σ H' ((I1.mono s).weak fun _ z => nomatch z) z
      | ok kd =>
        rw [q2, Res.bind_ok] at k'
        intro w H2 s2 r2
        have I2 := I1.mono s2
        obtain ⟨b, hs', ow, _⟩ := I2.ow i d hr hi
        rw [hs] at hs'; cases hs'
        cases d with
        | lst ds =>
          cases kd with
          | int j =>
            obtain ⟨xs, hx, lx⟩ := ow
            cases q3 : ixN ds.length j with
            | none =>
              have k2 : KS X.K m J P H0 ω E W (outX ρ (match ixN ds.length j with
                | some n => .ok (.lst (ds.set n r))
                | none => .bad) fun d => .nx (ρ.set i (some d))) := k'
              rw [q3] at k2; exact k2.elim
            | some n =>
              have k2 : KS X.K m J P H0 ω E W (outX ρ (match ixN ds.length j with
                | some n => .ok (.lst (ds.set n r))
                | none => .bad) fun d => .nx (ρ.set i (some d))) := k'
              rw [q3] at k2
              refine ⟨a, xs, j, n, rfl, r2, hx, by rw [← lx.length]; exact q3, ?_⟩
              exact k2 σ _ (I2.change hi hr hs (own_mono rfl (IsL.set (r1.mono (mask_same s2 fun _ _ _ z => z)) n lx)))
          | _ => exact k'.elim
        | _ => exact k'.elim⟩
/-- x.extend(e) -/
def extD : D → D → Res D
  | .lst ds, .lst es => if ds.length + es.length ≤ lim then .ok (.lst (ds ++ es)) else .bad
  | _, _ => .bad
def extR (r : Res D) : D → Res D
  | .lst ds => r.bind fun e => extD (.lst ds) e
  | _ => .bad
def sExt (i : Nat) (fe : En → Res D) : SF := fun ρ => outX ρ ((eVar i ρ).bind (extR (fe ρ))) fun d => .nx (ρ.set i (some d))
theorem ds_ext (i : Nat) {st : Stmt} {e : Expr} {te fe} (hi : i ∈ ω) (h : DE X W ω e te fe) (hp : PS X st (tDrop (tBM X.K "list" rExtend (tVar i) (tCons te tNil)))) :
    DSt X W m J ω st (tDrop (tBM X.K "list" rExtend (tVar i) (tCons te tNil))) (sExt i fe) ω := ⟨hp, fun P H0 H σ ρ I E k => by
  have k' : KS X.K m J P H0 ω E W (outX ρ ((eVar i ρ).bind (extR (fe ρ))) fun d => .nx (ρ.set i (some d))) := k
  cases qv : eVar i ρ with
  | exc x => unfold eVar at qv; split at qv <;> cases qv
  | bad => rw [qv] at k'; exact k'.elim
  | ok d =>
    rw [qv, Res.bind_ok] at k'
    obtain ⟨hr, a, hs, ow⟩ := eVar_own I hi qv
    cases d with
    | lst ds =>
      obtain ⟨xs0, hx0, _⟩ := ow
      have k1 : KS X.K m J P H0 ω E W (outX ρ ((fe ρ).bind fun e => extD (.lst ds) e) fun d => .nx (ρ.set i (some d))) := k'
      refine ⟨.ref a, hs, Or.inl ⟨rfl, xs0, SqL.of hx0⟩, h.ev P H0 H σ ρ I _ ?_⟩
      cases q2 : fe ρ with
      | bad => rw [q2] at k1; exact k1.elim
      | exc x => rw [q2] at k1; exact fun c d H' s z => k1 c d σ H' ((I.mono s).weak fun _ z => nomatch z) z
      | ok e2 =>
        rw [q2, Res.bind_ok] at k1
        intro y H1 s ry
        have I1 := I.mono s
        obtain ⟨b, hs', ow1, _⟩ := I1.ow i _ hr hi
        rw [hs] at hs'; cases hs'
        cases e2 with
        | lst es =>
          obtain ⟨xs, hx, lx⟩ := ow1
          obtain ⟨p, ys, rfl, hy, ly⟩ := (show Is X.K (mask H1 (hid P ω ρ σ)) (.lst es) y from ry)
          have k2 : KS X.K m J P H0 ω E W (outX ρ (if ds.length + es.length ≤ lim then .ok (.lst (ds ++ es)) else .bad) fun d => .nx (ρ.set i (some d))) := k1
          by_cases z : ds.length + es.length ≤ lim
          · rw [if_pos z] at k2
            refine ⟨a, p, xs, ys, rfl, rfl, hx, (mask_some.mp hy).2, by rw [lim_eq, ← lx.length, ← ly.length]; exact z, ?_⟩
            exact k2 σ _ (I1.change hi hr hs (own_mono rfl (lx.append ly)))
          · rw [if_neg z] at k2; exact k2.elim
        | _ => exact k1.elim
    | _ => exact k'.elim⟩
/-! ### d[k] = e -/
def putR (r : D) (k : D) : D → Res D
  | .dct kvs => (Res.ofO (asKey k)).bind fun kk => if kvs.length < lim then .ok (.dct (putG kvs kk r)) else .bad
  | _ => .bad
def sPutK (i : Nat) (fk fe : En → Res D) : SF := fun ρ => outX ρ ((fe ρ).bind fun r => (eVar i ρ).bind fun d => (fk ρ).bind fun k => putR r k d) fun d => .nx (ρ.set i (some d))
theorem ds_putK (i : Nat) {st : Stmt} {e ke : Expr} {te fe tk fk} (hi : i ∈ ω) (h : DE X W ω e te fe) (hk : DE X W ω ke tk fk) (hp : PS X st (sDPut (tVar i) tk te)) :
    DSt X W m J ω st (sDPut (tVar i) tk te) (sPutK i fk fe) ω := ⟨hp, fun P H0 H σ ρ I E k => by
  have k' : KS X.K m J P H0 ω E W (outX ρ ((fe ρ).bind fun r => (eVar i ρ).bind fun d => (fk ρ).bind fun k => putR r k d) fun d => .nx (ρ.set i (some d))) := k
  refine h.ev P H0 H σ ρ I _ ?_
  cases q1 : fe ρ with
  | bad => rw [q1] at k'; exact k'.elim
  | exc x => rw [q1] at k'; exact fun c d H' s z => k' c d σ H' ((I.mono s).weak fun _ z => nomatch z) z
  | ok r =>
    rw [q1, Res.bind_ok] at k'
    intro v H1 s1 r1
    have I1 := I.mono s1
    cases qv : eVar i ρ with
    | exc x => unfold eVar at qv; split at qv <;> cases qv
    | bad => rw [qv] at k'; exact k'.elim
    | ok d =>
      rw [qv, Res.bind_ok] at k'
      obtain ⟨hr, a, hs, _⟩ := eVar_own I1 hi qv
      refine ⟨.ref a, hs, hk.ev P H0 H1 σ ρ I1 _ ?_⟩
      cases q2 : fk ρ with
      | bad => rw [q2] at k'; exact k'.elim
      | exc x => rw [q2] at k'; exact fun c d H' s z => k' c d σ H' ((I1.mono s).weak fun _ z => nomatch z) z
      | ok kd =>
        rw [q2, Res.bind_ok] at k'
        intro w H2 s2 r2
        have I2 := I1.mono s2
        obtain ⟨b, hs', ow, _⟩ := I2.ow i d hr hi
        rw [hs] at hs'; cases hs'
        cases d with
        | dct kvs =>
          have k2 : KS X.K m J P H0 ω E W (outX ρ ((Res.ofO (asKey kd)).bind fun kk => if kvs.length < lim then .ok (.dct (putG kvs kk r)) else .bad) fun d => .nx (ρ.set i (some d))) := k'
          cases q3 : asKey kd with
          | none => rw [q3] at k2; exact k2.elim
          | some kk =>
            rw [q3, Res.ofO_some, Res.bind_ok] at k2
            by_cases z : kvs.length < lim
            · rw [if_pos z] at k2
              obtain ⟨ws, hx, lx⟩ := ow
              have ek : w = kV kk := lnt_key (h := (P, ownAt ω ρ σ)) (.inl r2) q3
              refine ⟨a, _, rfl, .inl ⟨ws, kk, hx, ek, by rw [lim_eq, ← lx.length]; exact z, rfl⟩, ?_⟩
              exact k2 σ _ (I2.change hi hr hs ⟨_, upd_same, isk_put (r1.mono (mask_same s2 fun _ _ _ z => z)) lx⟩)
            · rw [if_neg z] at k2; exact k2.elim
        | _ => exact k'.elim⟩

/-! ### raise C('..'): an own class without a field -/
def sRaise (c : Str) : SF := fun ρ => .exc ⟨c, none⟩ ρ
theorem ds_raise {st : Stmt} {c : Str} (hp : PS X st (fun _ σ H => W (.ref (He.ga X.K c)) none σ H)) : DSt X W m J ω st (fun _ σ H => W (.ref (He.ga X.K c)) none σ H) (sRaise c) ω1 := ⟨hp, fun P H0 H σ ρ I E k => k _ _ σ H (I.weak fun _ z => nomatch z) ⟨rfl, rfl⟩⟩

/-! ### try: .. except C: .. -/
/-- mt: which of the classes that may come the clause takes -/
def sTry (B : SF) (mt : Str → Option Bool) (S : ExV → SF) : SF := fun ρ => match B ρ with
  | .exc x ρ' => match mt x.cls with
    | some true => S x ρ'
    | some false => .exc x ρ'
    | none => .bad
  | o => o
theorem ev_try {K : PySem.W.Frag} {tb : WX → TS} {ts : Addr → Value → Option Addr → TS} {c : Value} {B : SF} {mt : Str → Option Bool} {S : ExV → SF} (hm : ∀ x b, mt x = some b → PySem.W.exmOne K (.ref (He.ga K x)) c = some b)
    (hb : ∀ W', StOf K W' m J ω (tb W') B [])
    (hs : ∀ (x : ExV) (P : Addr → Prop) (H0 H : Hp) σ ρ (a : Addr) cls d, EnvOk K P H0 H [] σ ρ → H a = none → ExIs K H x cls d → ∀ E, KS K m J P H0 [] E W (S x ρ) → ts a cls d E σ H) :
    StOf K W m J ω (fun D σ H => tb (wOnly K c ts W D) D σ H) (sTry B mt S) [] := fun P H0 H σ ρ I E k => by
  refine hb (wOnly K c ts W E) P H0 H σ ρ I E ?_
  have k' : KS K m J P H0 [] E W (match B ρ with
    | .exc x ρ' => match mt x.cls with
      | some true => S x ρ'
      | some false => .exc x ρ'
      | none => .bad
    | o => o) := k
  cases q : B ρ with
  | exc x ρ' =>
    rw [q] at k'
    have k2 : KS K m J P H0 [] E W (match mt x.cls with
      | some true => S x ρ'
      | some false => .exc x ρ'
      | none => .bad) := k'
    intro cl d σ' H' I' e'
    have ec : cl = .ref (He.ga K x.cls) := e'.1
    cases q2 : mt x.cls with
    | none => rw [q2] at k2; exact k2.elim
    | some b =>
      rw [q2] at k2
      refine ⟨b, by rw [ec]; exact hm _ _ q2, fun hbt a ha => ?_, fun hbf => ?_⟩
      · subst hbt
        exact hs x P H0 H' σ' ρ' a cl d I' ha e' E k2
      · subst hbf
        exact k2 cl d σ' H' I' e'
  | nx ρ' => rw [q] at k'; exact k'
  | rt d => rw [q] at k'; exact k'
  | bk ρ' => rw [q] at k'; exact k'
  | ct ρ' => rw [q] at k'; exact k'
  | bad => rw [q] at k'; exact k'
theorem W0_weak {K : PySem.W.Frag} {ω ω' : List Nat} {t : TS} {F : SF} (h : StOf K W0 m J ω t F ω') (hx : ∀ ρ x ρ', F ρ ≠ .exc x ρ') : StOf K W m J ω t F ω' := fun P H0 H σ ρ I E k => h P H0 H σ ρ I E (by
  cases q : F ρ with
  | exc x ρ' => exact absurd q (hx ρ x ρ')
  | nx ρ' => rw [q] at k; exact k
  | rt d => rw [q] at k; exact k
  | bk ρ' => rw [q] at k; exact k
  | ct ρ' => rw [q] at k; exact k
  | bad => rw [q] at k; exact k)

/-! ### for k, v in d.items(), d a name: the dict is locked meanwhile -/
theorem ps_lockA {st : Stmt} {t : TS} (h : PS X st t) : PS X st (fun D σ H => tLock t D σ H ∨ t D σ H) := ⟨fun pins s σ H D I q => q.elim ((ps_lock h).run pins s σ H D I) (h.run pins s σ H D I)⟩
def keyD : Key → D
  | .inl i => .int i
  | .inr x => .str x
def itemsK : D → Option (List D)
  | .dct kvs => some (kvs.map fun kv => .tup [keyD kv.1, kv.2])
  | _ => none
def iItemsD (fe : En → Res D) : En → Res (List D) := fun ρ => (fe ρ).bind fun d => .ofO (itemsK d)
theorem key_is {K : PySem.W.Frag} {H : Hp} (k : Key) : Is K H (keyD k) (kV k) := by cases k <;> rfl
theorem isk_get {K : PySem.W.Frag} {H : Hp} : ∀ {ds : List (Key × D)} {xs : List (Key × V)} {i : Nat} {p : Key × D}, IsK K H ds xs → ds[i]? = some p → ∃ v, xs[i]? = some (p.1, v) ∧ Is K H p.2 v
  | [], _, i, p, _, e => by simp at e
  | q :: ds, _, 0, p, ⟨y, ys, e1, h1, h2⟩, e => by
    subst e1
    simp at e; subst e
    obtain ⟨yk, yv⟩ := y
    obtain ⟨k, d⟩ := q
    have ek : yk = k := h1.1
    subst ek
    exact ⟨yv, rfl, h1.2⟩
  | q :: ds, _, i + 1, p, ⟨y, ys, e1, h1, h2⟩, e => by
    subst e1
    obtain ⟨v, hv, iv⟩ := isk_get (i := i) (p := p) h2 (by simpa using e)
    exact ⟨v, by simpa using hv, iv⟩
theorem iter_items {K : PySem.W.Frag} {hd : Addr → Prop} {B : Hp} {a : Addr} {o : Obj} {ws : List (Key × V)} {kvs : List (Key × D)} (ha : B a = some (.frz o (.dK ws))) (r : IsK K (mask B hd) kvs ws) : IterOk K hd B (Iti a o ws) (kvs.map fun kv => .tup [keyD kv.1, kv.2]) := fun H s =>
  ⟨fun i hi => ⟨s _ _ ha, by rw [← r.length]; simpa using hi⟩, fun i d e => by
    rw [List.getElem?_map] at e
    obtain ⟨p, hp, rfl⟩ := Option.map_eq_some_iff.mp e
    obtain ⟨v, hv, iv⟩ := isk_get r hp
    refine ⟨⟨s _ _ ha, (List.getElem?_eq_some_iff.mp hv).1⟩, fun x H2 hy => ?_⟩
    obtain ⟨T, k, u, hk, rfl, hT, rfl⟩ := hy
    rw [hv] at hk
    cases Option.some.inj hk
    exact ⟨L2.Same.add hT, fun h hdom s2 => yld_tup hT hdom (isl_cons (key_is p.1) (isl_cons (iv.mono s2) isl_nil))⟩⟩
theorem le_lock {H : Hp} {a : Addr} {od : Obj} {ws : List (Key × V)} (e : H a = some (.dK ws)) : Le H (upd H a (.frz od (.dK ws))) := fun b => by
  by_cases z : b = a
  · subst z
    refine ⟨fun xs h => (by rw [e] at h; cases h), fun xs h => ?_, fun xs h => ?_, fun xs h => ?_⟩
    · rcases h with h | ⟨o, h⟩ <;> (rw [e] at h; cases h)
    · rcases h with h | ⟨o, h⟩ <;> (rw [e] at h; cases h)
    · rcases h with h | ⟨o, h⟩
      · rw [e] at h; cases h; exact .inr ⟨od, upd_same⟩
      · rw [e] at h; cases h
  · have q : upd H a (.frz od (.dK ws)) b = H b := upd_ne z
    exact ⟨fun xs h => q.trans h, fun xs h => h.elim (fun h => .inl (q.trans h)) fun ⟨o, h⟩ => .inr ⟨o, q.trans h⟩, fun xs h => h.elim (fun h => .inl (q.trans h)) fun ⟨o, h⟩ => .inr ⟨o, q.trans h⟩, fun xs h => h.elim (fun h => .inl (q.trans h)) fun ⟨o, h⟩ => .inr ⟨o, q.trans h⟩⟩
theorem le_unlock {H : Hp} {a : Addr} {od : Obj} {ws : List (Key × V)} (e : H a = some (.frz od (.dK ws))) : Le H (upd H a (.dK ws)) := fun b => by
  by_cases z : b = a
  · subst z
    refine ⟨fun xs h => (by rw [e] at h; cases h), fun xs h => ?_, fun xs h => ?_, fun xs h => ?_⟩
    · rcases h with h | ⟨o, h⟩ <;> (rw [e] at h; cases h)
    · rcases h with h | ⟨o, h⟩ <;> (rw [e] at h; cases h)
    · rcases h with h | ⟨o, h⟩
      · rw [e] at h; cases h
      · rw [e] at h; cases h; exact .inl upd_same
  · have q : upd H a (.dK ws) b = H b := upd_ne z
    exact ⟨fun xs h => q.trans h, fun xs h => h.elim (fun h => .inl (q.trans h)) fun ⟨o, h⟩ => .inr ⟨o, q.trans h⟩, fun xs h => h.elim (fun h => .inl (q.trans h)) fun ⟨o, h⟩ => .inr ⟨o, q.trans h⟩, fun xs h => h.elim (fun h => .inl (q.trans h)) fun ⟨o, h⟩ => .inr ⟨o, q.trans h⟩⟩
theorem mask_upd {H : Hp} {P : Addr → Prop} {a : Addr} {o : HO} (h : ¬ P a) : mask (upd H a o) P = upd (mask H P) a o := by
  funext b
  by_cases z : b = a
  · subst z; rw [mask_seen h, upd_same, upd_same]
  · by_cases p : P b
    · rw [mask_hid p, upd_ne z, mask_hid p]
    · rw [mask_seen p, upd_ne z, upd_ne z, mask_seen p]
theorem OwnIs.le {K : PySem.W.Frag} {H M H' M' : Hp} {a : Addr} (e : H' a = H a) (s : Le M M') : ∀ {d : D}, OwnIs K H M a d → OwnIs K H' M' a d
  | .lst ds, ⟨xs, h, r⟩ => ⟨xs, e.trans h, r.le s ds⟩
  | .dct ds, ⟨xs, h, r⟩ => ⟨xs, e.trans h, IsK.le s ds r⟩
  | .non, h => h.elim
  | .bl _, h => h.elim
  | .int _, h => h.elim
  | .str _, h => h.elim
  | .tup _, h => h.elim
  | .frz _, h => h.elim
  | .raw _, h => h.elim
section
variable {K : PySem.W.Frag} {P : Addr → Prop} {H0 H H' : Hp} {σ σ' : L2.St} {ρ ρ' : En} {a : Addr} {od : Obj} {ws : List (Key × V)}
theorem EnvOk.lock (I : EnvOk K P H0 H ω σ ρ) (e : H a = some (.dK ws)) (n : ¬ hid P ω ρ σ a) : EnvOk K P (mask (upd H a (.frz od (.dK ws))) (ownAt ω ρ σ)) (upd H a (.frz od (.dK ws))) ω σ ρ := by
  have hm : Le (mask H (hid P ω ρ σ)) (mask (upd H a (.frz od (.dK ws))) (hid P ω ρ σ)) := by
    rw [mask_upd n]
    exact le_lock (mask_some.mpr ⟨n, e⟩)
  have no : ∀ b, ownAt ω ρ σ b → b ≠ a := fun b z q => n (.inr (q ▸ z))
  refine ⟨I.len, fun i d h ni => ?_, fun i d h ni => ?_, I.inj, Same.rfl' _, fun b h => ?_⟩
  · obtain ⟨v, e1, r⟩ := I.sh i d h ni
    exact ⟨v, e1, r.le hm d⟩
  · obtain ⟨b, e1, r, z⟩ := I.ow i d h ni
    exact ⟨b, e1, r.le (upd_ne (no b ⟨i, d, ni, h, e1⟩)) hm, mask_hid ⟨i, d, ni, h, e1⟩⟩
  · obtain ⟨o, eo⟩ := I.pin b h
    have q : b ≠ a := fun z => n (.inl (z ▸ h))
    refine ⟨o, mask_some.mpr ⟨fun z => I.apart z h, by rw [upd_ne q]; exact I.same _ _ eo⟩⟩
theorem EnvOk.unlock (I : EnvOk K P H0 H ω σ ρ) (e : H a = some (.dK ws)) (n : ¬ hid P ω ρ σ a) (I' : EnvOk K P (mask (upd H a (.frz od (.dK ws))) (ownAt ω ρ σ)) H' ω2 σ' ρ') : H' a = some (.frz od (.dK ws)) ∧ EnvOk K P H0 (upd H' a (.dK ws)) ω2 σ' ρ' := by
  have nown : ¬ ownAt ω ρ σ a := fun z => n (.inr z)
  have ha : H' a = some (.frz od (.dK ws)) := I'.same _ _ (mask_some.mpr ⟨nown, upd_same⟩)
  have no' : ¬ ownAt ω2 ρ' σ' a := fun z => by
    obtain ⟨i, d, hi, hr, hs⟩ := z
    obtain ⟨b, hb, ow, _⟩ := I'.ow i d hr hi
    rw [hs] at hb; cases hb
    cases d with
    | lst ds => obtain ⟨xs, hx, _⟩ := ow; rw [ha] at hx; cases hx
    | dct ds => obtain ⟨xs, hx, _⟩ := ow; rw [ha] at hx; cases hx
    | _ => exact ow.elim
  have n' : ¬ hid P ω2 ρ' σ' a := fun z => z.elim (fun z => n (.inl z)) no'
  have hm : Le (mask H' (hid P ω2 ρ' σ')) (mask (upd H' a (.dK ws)) (hid P ω2 ρ' σ')) := by
    rw [mask_upd n']
    exact le_unlock (mask_some.mpr ⟨n', ha⟩)
  have bs : ∀ b o, H0 b = some o → b ≠ a → mask (upd H a (.frz od (.dK ws))) (ownAt ω ρ σ) b = some o := fun b o eb q => by
    obtain ⟨z1, z2⟩ := mask_some.mp (I.base b o eb)
    exact mask_some.mpr ⟨z1, by rw [upd_ne q]; exact z2⟩
  refine ⟨ha, I'.len, fun i d h ni => ?_, fun i d h ni => ?_, I'.inj, fun b o eb => ?_, I.pin⟩
  · obtain ⟨v, e1, r⟩ := I'.sh i d h ni
    exact ⟨v, e1, r.le hm d⟩
  · obtain ⟨b, e1, r, z⟩ := I'.ow i d h ni
    have q : b ≠ a := fun z => no' (z ▸ ⟨i, d, ni, h, e1⟩)
    refine ⟨b, e1, r.le (upd_ne q) hm, ?_⟩
    cases q2 : H0 b with
    | none => rfl
    | some o => rw [bs b o q2 q] at z; cases z
  · by_cases q : b = a
    · subst q
      have := I.same _ _ eb
      rw [e] at this; cases this
      exact mask_some.mpr ⟨no', upd_same⟩
    · obtain ⟨z1, z2⟩ := mask_some.mp (I'.base b o (bs b o eb q))
      exact mask_some.mpr ⟨z1, by rw [upd_ne q]; exact z2⟩
end
def noXo : Out → Out
  | .exc _ _ => .bad
  | o => o
def sForI (i : Nat) (b : BF) (B : SF) : SF := fun ρ => outX ρ (iItemsD (eVar i) ρ) fun ds => noXo (forD b B ds ρ)
theorem ks_noX {K : PySem.W.Frag} {P H0 E W'} {o : Out} (k : KS K m J P H0 ω E W (noXo o)) : KS K m J P H0 ω E W' o := by
  cases o with
  | exc x ρ => exact k.elim
  | nx ρ' => exact k
  | rt d => exact k
  | bk ρ' => exact k
  | ct ρ' => exact k
  | bad => exact k
theorem ev_items {K : PySem.W.Frag} {g : TG} {tb : TS} {js : List Nat} {b : BF} {B : SF} (i : Nat) (hi : i ∉ ω) (hg : TgOf K ω g js b) (hb : StOf K W false ω ω tb B ω1) (hw : ∀ i ∈ ω, i ∈ ω1) :
    StOf K W false J ω (fun D σ H => tLock (tFor (iItems (tVar i)) g tb) D σ H ∨ tFor (iItems (tVar i)) g tb D σ H) (sForI i b B) ω := fun P H0 H σ ρ I E k => by
  have k' : KS K false J P H0 ω E W (outX ρ ((eVar i ρ).bind fun d => .ofO (itemsK d)) fun ds => noXo (forD b B ds ρ)) := k
  cases qv : eVar i ρ with
  | exc x => unfold eVar at qv; split at qv <;> cases qv
  | bad => rw [qv] at k'; exact k'.elim
  | ok d =>
    rw [qv, Res.bind_ok] at k'
    have hr : ρ[i]? = some (some d) := by
      unfold eVar at qv
      split at qv
      · rename_i e; cases qv; exact e
      · cases qv
    obtain ⟨v, hs, iv⟩ := I.sh i d hr hi
    cases d with
    | dct kvs =>
      obtain ⟨a, ws, rfl, ha, la⟩ := iv
      have k1 : KS K false J P H0 ω E W (noXo (forD b B (kvs.map fun kv => .tup [keyD kv.1, kv.2]) ρ)) := k'
      have no : ¬ hid P ω ρ σ a := by
        rcases ha with ha | ⟨o, ha⟩
        · exact (mask_some.mp ha).1
        · exact (mask_some.mp ha).1
      rcases ha with ha | ⟨od, ha⟩
      · have e := (mask_some.mp ha).2
        refine .inl ⟨a, .dK ws, e, trivial, fun od => ?_⟩
        have IL := I.lock (od := od) e no
        have lL : IsK K (mask (mask (upd H a (.frz od (.dK ws))) (ownAt ω ρ σ)) P) kvs ws := by
          rw [mask_two]
          refine IsK.le ?_ kvs la
          show Le (mask H (hid P ω ρ σ)) (mask (upd H a (.frz od (.dK ws))) (hid P ω ρ σ))
          rw [mask_upd no]
          exact le_lock (mask_some.mpr ⟨no, e⟩)
        have sL : ∀ H', Same (mask (upd H a (.frz od (.dK ws))) (ownAt ω ρ σ)) H' → H' a = some (.frz od (.dK ws)) ∧ Same H0 (upd H' a (.dK ws)) := fun H' s => by
          have h1 := s a _ (mask_some.mpr ⟨fun z => no (.inr z), upd_same⟩)
          refine ⟨h1, fun b o eb => ?_⟩
          by_cases q : b = a
          · subst q
            have := I.same _ _ eb
            rw [e] at this; cases this
            exact upd_same
          · rw [upd_ne q]
            obtain ⟨z1, z2⟩ := mask_some.mp (I.base b o eb)
            exact s b o (mask_some.mpr ⟨z1, by rw [upd_ne q]; exact z2⟩)
        refine ⟨.ref a, hs, a, od, ws, rfl, upd_same, for_core (J := J) hg hb hw IL (iter_items (mask_some.mpr ⟨fun z => no (.inr z), upd_same⟩) lL) ?_⟩
        cases q : forD b B (kvs.map fun kv => .tup [keyD kv.1, kv.2]) ρ with
        | nx ρ' => rw [q] at k1; exact fun σ' H' I' => ⟨(I.unlock e no I').1, k1 σ' _ (I.unlock e no I').2⟩
        | bk ρ' => rw [q] at k1; exact fun σ' H' I' => ⟨(I.unlock e no I').1, k1 σ' _ (I.unlock e no I').2⟩
        | ct ρ' => rw [q] at k1; exact fun σ' H' I' => ⟨(I.unlock e no I').1, k1 σ' _ (I.unlock e no I').2⟩
        | exc x ρ' => rw [q] at k1; exact k1.elim
        | bad => rw [q] at k1; exact k1.elim
        | rt d =>
          rw [q] at k1
          intro v H' s r
          obtain ⟨h1, h2⟩ := sL H' s
          refine ⟨h1, k1 v _ h2 ?_⟩
          have r' : Is K (mask H' P) d v := r
          show Is K (mask (upd H' a (.dK ws)) P) d v
          have nP : ¬ P a := fun z => no (.inl z)
          rw [mask_upd nP]
          exact r'.le (le_unlock (mask_some.mpr ⟨nP, h1⟩)) d
      · have e := (mask_some.mp ha).2
        refine .inr ⟨.ref a, hs, a, od, ws, rfl, e, for_core (J := J) hg hb hw I (iter_items (mask_some.mpr ⟨fun z => no (.inr z), e⟩) ?_) (ks_noX k1)⟩
        rw [mask_two]
        exact la
    | _ => exact k'.elim
theorem ds_items (i : Nat) (hi : i ∉ ω) {tg : Expr} {body : List Stmt} {st : Stmt} {g tb js b B} (hg : DG X ω tg g js b) (hb : DSs X W false ω ω body tb B ω1) (hp : PS X st (tFor (iItems (tVar i)) g tb)) (hw : ∀ i ∈ ω, i ∈ ω1 := by decide) :
    DSt X W false J ω st (fun D σ H => tLock (tFor (iItems (tVar i)) g tb) D σ H ∨ tFor (iItems (tVar i)) g tb D σ H) (sForI i b B) ω := ⟨ps_lockA hp, ev_items i hi hg.ev hb.ev hw⟩
end
/-! ### defs -/
def startE (n : Nat) (ds : List D) : En := ds.map some ++ List.replicate (n - ds.length) none
def runB (n : Nat) (B : SF) : List D → Res D := fun ds => match B (startE n ds) with
  | .rt d => .ok d
  | .nx _ => .ok .non
  | .exc x _ => .exc x
  | _ => .bad
def runN (n : Nat) (B : SF) : List D → Res D := fun ds => match B (startE n ds) with
  | .rt d => .ok d
  | .exc x _ => .exc x
  | _ => .bad
theorem hid_nil {P : Addr → Prop} {ρ : En} {σ : L2.St} : hid P [] ρ σ = P := funext fun a => propext ⟨fun z => z.elim id fun ⟨i, d, hi, _⟩ => absurd hi List.not_mem_nil, Or.inl⟩
theorem start_ok {K : PySem.W.Frag} {P : Addr → Prop} {H : Hp} {ds : List D} {vs : List V} {N : List Str} (hP : ∀ a, P a → ∃ o, H a = some o) (i : IsL K (mask H P) ds vs) : EnvOk K P H H [] (L2.start N vs) (startE N.length ds) := by
  have hl := i.length
  refine ⟨by simp [L2.start, startE, hl], fun j d hr _ => ?_, fun j d _ hj => absurd hj List.not_mem_nil, fun j k d e a hj => absurd hj List.not_mem_nil, fun a o e => mask_some.mpr ⟨fun ⟨j, d, hj, _⟩ => absurd hj List.not_mem_nil, e⟩, hP⟩
  rw [hid_nil]
  unfold startE at hr
  by_cases z : j < ds.length
  · rw [List.getElem?_append_left (by simpa using z), List.getElem?_map] at hr
    obtain ⟨d', hd, e⟩ := Option.map_eq_some_iff.mp hr
    cases e
    obtain ⟨x, hx, ix⟩ := i.get hd
    refine ⟨x, ?_, ix⟩
    unfold L2.start
    rw [List.getElem?_append_left (by rw [List.length_map, ← hl]; exact z), List.getElem?_map, hx]
    rfl
  · rw [List.getElem?_append_right (by simpa using z), List.getElem?_replicate] at hr
    split at hr <;> cases hr
section
variable {P : Program} {w : World} {K : PySem.W.Frag} {mg : Str → Option Value} {base : Heap} {x qual : Str} {params : Arguments} {body : List Stmt} {scope : Scope} {f : Addr} {fd : FuncData} {N ps : List Str} {k : Nat} {B : SF}
theorem fn_mk (F : FunD K x qual params body scope [] [] f fd) (S : FnScope N ps scope)
    (hb : ∀ (cdv : Value) (A : Around) (outer : List Env) (s : Shared) (H : Hp) (E : XK), Room k (A.deeper (envOfC qual scope s.heap.objs.size f cdv)) →
      ∃ t ω', DSs (cxOf (L2.CX P w) P w K mg base N qual scope f cdv A outer s H E) (fun c d _ H => E c d H) false [] [] body t B ω') :
    FnOk P w K mg base (L2.CX P w) (k + 1) f fd ps (spF K ps.length (runB N.length B)) := by
  refine F.ok S (fun vs H Q E h => spF_len h) fun cdv A outer s H vs Q E hr h => ?_
  obtain ⟨t, ω', hd⟩ := hb cdv A outer s H E hr
  refine ⟨t, hd.ps, ?_⟩
  obtain ⟨ds, P', hP, i, kx⟩ := h
  refine hd.ev P' H H _ _ (start_ok hP i) _ ?_
  have hn : ds.length = ps.length := arN_len (r := KX K P' H Q E) kx id
  rw [show arN ps.length (runB N.length B) ds = runB N.length B ds from if_pos hn] at kx
  unfold runB at kx
  cases q : B (startE N.length ds) with
  | rt d => rw [q] at kx; exact fun v H' s r => kx v H' s r
  | nx ρ => rw [q] at kx; exact fun σ' H' I => kx .non H' I.same rfl
  | exc x ρ => rw [q] at kx; exact fun c d σ' H' I e => kx c d H' I.same e
  | bk ρ => rw [q] at kx; exact kx.elim
  | ct ρ => rw [q] at kx; exact kx.elim
  | bad => rw [q] at kx; exact kx.elim
theorem fn_mkN (F : FunD K x qual params body scope [] [] f fd) (S : FnScope N ps scope)
    (hb : ∀ (cdv : Value) (A : Around) (outer : List Env) (s : Shared) (H : Hp) (E : XK), Room k (A.deeper (envOfC qual scope s.heap.objs.size f cdv)) →
      ∃ t ω', DSs (cxOf (L2.CX P w) P w K mg base N qual scope f cdv A outer s H E) (fun c d _ H => E c d H) true [] [] body t B ω') :
    FnOk P w K mg base (L2.CX P w) (k + 1) f fd ps (spN K ps.length (runN N.length B)) := by
  refine F.ok S (fun vs H Q E h => spN_len h) fun cdv A outer s H vs Q E hr h => ?_
  obtain ⟨t, ω', hd⟩ := hb cdv A outer s H E hr
  refine ⟨t, hd.ps, ?_⟩
  obtain ⟨ds, P', hP, i, kx⟩ := h
  refine hd.ev P' H H _ _ (start_ok hP i) _ ?_
  have hn : ds.length = ps.length := arN_len (r := KN K P' H Q E) kx id
  rw [show arN ps.length (runN N.length B) ds = runN N.length B ds from if_pos hn] at kx
  unfold runN at kx
  cases q : B (startE N.length ds) with
  | rt d => rw [q] at kx; exact fun v H' s r => kx v H' s r
  | nx ρ => rw [q] at kx; exact kx.elim
  | exc x ρ => rw [q] at kx; exact fun c d σ' H' I e => kx c d H' I.same e
  | bk ρ => rw [q] at kx; exact kx.elim
  | ct ρ => rw [q] at kx; exact kx.elim
  | bad => rw [q] at kx; exact kx.elim
/-- a def's facts, then its Fn -/
theorem fn_of' {sp : Sp} (h : FnOk P w K mg base (L2.CX P w) k f fd ps sp) (F : FunD K x qual params body scope [] [] f fd) (g : mg x = some (.ref f)) (b : Binds K fd ps []) : Fn P w K mg base x k sp := ⟨f, fd, ps, h, g, F.kp, b⟩
end
end Dl

/-! The data layer, part 9: rules as a printed derivation takes them. -/
namespace Dl
open PySem L2
theorem og_sub {K} : OpG K (shR K) (rI0 fun i j => .int (i - j)) dSub := og_i2
theorem og_and {K} : OpG K (shR K) (rI0 fun i j => .int (Builtin.bitAnd i j)) dAnd := og_i2
theorem og_or' {K} : OpG K (shR K) (rI0 fun i j => .int (Builtin.bitOr i j)) dOr := og_i2
theorem og_xor {K} : OpG K (shR K) (rI0 fun i j => .int (Builtin.bitXor i j)) dXor := og_i2
theorem og_div {K} : OpG K (shR K) (rI CDiv fun i j => .int (i / j)) dDiv := og_i2c okDiv_ok
theorem og_mod {K} : OpG K (shR K) (rI (fun _ j => 0 < j) fun i j => .int (i % j)) dMod := og_i2c okMod_ok
theorem og_pow {K} : OpG K (shR K) (rI CPow fun i j => .int (i ^ j.toNat)) dPow := og_i2c okPow_ok
theorem og_shl {K} : OpG K (shR K) (rI CPow fun i j => .int (i * 2 ^ j.toNat)) dShl := og_i2c okPow_ok
theorem og_shr {K} : OpG K (shR K) (rI (fun _ j => 0 ≤ j) fun i j => .int (i / 2 ^ j.toNat)) dShr := og_i2c okShr_ok
theorem og_lt {K} : OpG K (shR K) (rI0 fun i j => .bl (decide (i < j))) dLt := by
  rw [show (fun i j : Int => V.bl (decide (i < j))) = fun i j => V.bl (ltI i j) from by funext i j; rw [ltI_eq]]
  exact og_c2
theorem og_le {K} : OpG K (shR K) (rI0 fun i j => .bl (decide (i ≤ j))) dLe := by
  rw [show (fun i j : Int => V.bl (decide (i ≤ j))) = fun i j => V.bl (leI i j) from by funext i j; rw [leI_eq]]
  exact og_c2
theorem og_gt {K} : OpG K (shR K) (rI0 fun i j => .bl (decide (i > j))) dGt := by
  rw [show (fun i j : Int => V.bl (decide (i > j))) = fun i j => V.bl (ltI j i) from by funext i j; rw [ltI_eq]]
  exact og_c2
theorem og_ge {K} : OpG K (shR K) (rI0 fun i j => .bl (decide (i ≥ j))) dGe := by
  rw [show (fun i j : Int => V.bl (decide (i ≥ j))) = fun i j => V.bl (leI j i) from by funext i j; rw [leI_eq]]
  exact og_c2
section
variable {X : Cx} {W : WX} {ω ω1 ω2 J : List Nat} {m : Bool}
theorem gtup {es : List Expr} {x1 : Nat} {pos : Pos} {ta fa} (ha : DA X W ω es ta fa) : DE X W ω (.Tuple es x1 pos) (tTup ta) (eTup fa) := de_tup ha (pe_tup ha.pa)
theorem glst {es : List Expr} {pos : Pos} {ta fa} (ha : DA X W ω es ta fa) : DN X W ω (.List es pos) (tLst ta) (eLst fa) := dn_lst ha (pe_lst ha.pa)
theorem gv (i : Nat) {x : Str} {pos : Pos} (hp : PE X (.Name x pos) (tVar i)) (hi : i ∉ ω := by decide) : DE X W ω (.Name x pos) (tVar i) (eVar i) := de_var i hi hp
theorem go (i : Nat) {x : Str} {pos : Pos} (hp : PE X (.Name x pos) (tVar i)) (hi : i ∈ ω := by decide) : DS X W ω (.Name x pos) (tVar i) (eVar i) := ds_own i hi hp
section
variable {x : Str} {id : String} {r : List V → Hp → VK → Prop} {op : List D → Option D} {e : Expr} {es : List Expr} {p pos : Pos} {ta : TA} {fa : En → Res (List D)}
theorem gcb (hc : CallR X (.builtin id) r) (hr : CbG X.K (shR X.K) r op) (hm : X.mg x = none) (ha : DL X W ω (e :: es) ta fa) (hv : bootBuiltins x = some (.builtin id) := by decide +kernel) (hg : Gl X x := by rfl)
    (hn : x ≠ "__name__" := by decide) (hd : (x == ("__debug__" : Str)) = false := by decide) (he : starEach (e :: es) X.env = (false, eval e X.env) :: starEach es X.env := by rfl) (hl : (backTo pos (starEach es X.env)).any (·.1) = false := by rfl) :
    DE X W ω (.Call (.Name x p) (e :: es) [] pos) (tCB r ta) (eCB op fa) := de_cbx hr ha (pe_callB hc hg hm hv ha.pa hn hd he hl)
theorem gcbN (hc : CallR X (.builtin id) r) (hr : CbG X.K (nwR X.K) r op) (hm : X.mg x = none) (ha : DL X W ω (e :: es) ta fa) (hv : bootBuiltins x = some (.builtin id) := by decide +kernel) (hg : Gl X x := by rfl)
    (hn : x ≠ "__name__" := by decide) (hd : (x == ("__debug__" : Str)) = false := by decide) (he : starEach (e :: es) X.env = (false, eval e X.env) :: starEach es X.env := by rfl) (hl : (backTo pos (starEach es X.env)).any (·.1) = false := by rfl) :
    DN X W ω (.Call (.Name x p) (e :: es) [] pos) (tCB r ta) (eCB op fa) := dn_cb hr ha (pe_callB hc hg hm hv ha.pa hn hd he hl)
theorem gct (hc : CallR X (.type id) r) (hr : CbG X.K (shR X.K) r op) (hm : X.mg x = none) (ha : DL X W ω (e :: es) ta fa) (hv : bootBuiltins x = some (.type id) := by decide +kernel) (hg : Gl X x := by rfl)
    (hn : x ≠ "__name__" := by decide) (hd : (x == ("__debug__" : Str)) = false := by decide) (he : starEach (e :: es) X.env = (false, eval e X.env) :: starEach es X.env := by rfl) (hl : (backTo pos (starEach es X.env)).any (·.1) = false := by rfl) :
    DE X W ω (.Call (.Name x p) (e :: es) [] pos) (tCB r ta) (eCB op fa) := de_cbx hr ha (pe_callTy hc hg hm hv ha.pa hn hd he hl)
theorem gctN (hc : CallR X (.type id) r) (hr : CbG X.K (nwR X.K) r op) (hm : X.mg x = none) (ha : DL X W ω (e :: es) ta fa) (hv : bootBuiltins x = some (.type id) := by decide +kernel) (hg : Gl X x := by rfl)
    (hn : x ≠ "__name__" := by decide) (hd : (x == ("__debug__" : Str)) = false := by decide) (he : starEach (e :: es) X.env = (false, eval e X.env) :: starEach es X.env := by rfl) (hl : (backTo pos (starEach es X.env)).any (·.1) = false := by rfl) :
    DN X W ω (.Call (.Name x p) (e :: es) [] pos) (tCB r ta) (eCB op fa) := dn_cb hr ha (pe_callTy hc hg hm hv ha.pa hn hd he hl)
end
theorem gbits {o : Expr} {apos pos : Pos} {to fo} (ho : DE X W ω o to fo) (h1 : attributeBase o "bit_length" X.env (eval o X.env) = eval o X.env := by rfl) (h2 : (apos.endLine == pos.line) = true := by rfl) :
    DE X W ω (.Call (.Attribute o "bit_length" apos) [] [] pos) (tBits to) (eBits fo) := de_bits ho (pe_bits ho.pe h1 h2)
theorem gdin {i o : Expr} {pos : Pos} {ty td fy fd} (hu : X.A.units + 1 < cLine) (hi : DS X W ω i ty fy) (ho : DS X W ω o td fd) (hm : behindInMarks .In o = false := by rfl) : DE X W ω (.Compare i [.In] [o] pos) (tDIn ty td) (eBin (dHas false) fy fd) :=
  de_din hu hi ho (pe_cmp (pc_din hu hi.pe ho.pe) hm)
theorem gdnotin {i o : Expr} {pos : Pos} {ty td fy fd} (hu : X.A.units + 1 < cLine) (hi : DS X W ω i ty fy) (ho : DS X W ω o td fd) (hm : behindInMarks .NotIn o = false := by rfl) : DE X W ω (.Compare i [.NotIn] [o] pos) (tDNotIn ty td) (eBin (dHas true) fy fd) :=
  de_dnotin hu hi ho (pe_cmp (pc_dnotin hu hi.pe ho.pe) hm)
/-! ### walks -/
theorem gi1 {tg a : Expr} {p pos : Pos} {ta fa} (hm : X.mg "range" = none) (ha : DS X W ω a ta fa) (hg : Gl X "range" := by rfl) (hs : starEach [a] X.env = (false, eval a X.env) :: starEach [] X.env := by rfl) :
    DI X W ω tg (.Call (.Name "range" p) [a] [] pos) (iRng1 (tCons ta tNil)) (iRange (aCons fa aNil)) := di_r1 ha (pi_range1 hg hm (dl_cons ha dl_nil hs).pa (hs.trans rfl)) hs
theorem gc1 {tg a : Expr} {p pos : Pos} {ta fa} (hm : X.mg "range" = none) (ha : DS X W ω a ta fa) (hg : Gl X "range" := by rfl) (hs : starEach [a] X.env = (false, eval a X.env) :: starEach [] X.env := by rfl) :
    DC X W ω tg (.Call (.Name "range" p) [a] [] pos) (iRng1 (tCons ta tNil)) (iRange (aCons fa aNil)) := dc_r1 ha (pi_range1 hg hm (dl_cons ha dl_nil hs).pa (hs.trans rfl)) hs
theorem gi2 {tg a b : Expr} {p pos : Pos} {ta fa tb fb} (hm : X.mg "range" = none) (ha : DS X W ω a ta fa) (hb : DS X W ω b tb fb) (hg : Gl X "range" := by rfl) (hs : starEach [a, b] X.env = (false, eval a X.env) :: starEach [b] X.env := by rfl) (hs2 : starEach [b] X.env = (false, eval b X.env) :: starEach [] X.env := by rfl) (hl : (backTo pos (starEach [b] X.env)).any (·.1) = false := by rfl) :
    DI X W ω tg (.Call (.Name "range" p) [a, b] [] pos) (iRng2 (tCons ta (tCons tb tNil))) (iRange (aCons fa (aCons fb aNil))) := di_r2 ha hb (pi_range2 hg hm (dl_cons ha (dl_cons hb dl_nil hs2) hs).pa (hs.trans (congrArg _ (hs2.trans rfl))) (hs2.trans rfl)) hs hs2
theorem gc2 {tg a b : Expr} {p pos : Pos} {ta fa tb fb} (hm : X.mg "range" = none) (ha : DS X W ω a ta fa) (hb : DS X W ω b tb fb) (hg : Gl X "range" := by rfl) (hs : starEach [a, b] X.env = (false, eval a X.env) :: starEach [b] X.env := by rfl) (hs2 : starEach [b] X.env = (false, eval b X.env) :: starEach [] X.env := by rfl) (hl : (backTo pos (starEach [b] X.env)).any (·.1) = false := by rfl) :
    DC X W ω tg (.Call (.Name "range" p) [a, b] [] pos) (iRng2 (tCons ta (tCons tb tNil))) (iRange (aCons fa (aCons fb aNil))) := dc_r2 ha hb (pi_range2 hg hm (dl_cons ha (dl_cons hb dl_nil hs2) hs).pa (hs.trans (congrArg _ (hs2.trans rfl))) (hs2.trans rfl)) hs hs2
theorem gi3 {tg a b c : Expr} {p pos : Pos} {ta fa tb fb tc fc} (hm : X.mg "range" = none) (ha : DS X W ω a ta fa) (hb : DS X W ω b tb fb) (hc : DS X W ω c tc fc) (hg : Gl X "range" := by rfl) (hs : starEach [a, b, c] X.env = (false, eval a X.env) :: starEach [b, c] X.env := by rfl) (hs2 : starEach [b, c] X.env = (false, eval b X.env) :: starEach [c] X.env := by rfl) (hs3 : starEach [c] X.env = (false, eval c X.env) :: starEach [] X.env := by rfl)
    (hp : PI X tg (.Call (.Name "range" p) [a, b, c] [] pos) (iRng3 (tCons ta (tCons tb (tCons tc tNil))))) :
    DI X W ω tg (.Call (.Name "range" p) [a, b, c] [] pos) (iRng3 (tCons ta (tCons tb (tCons tc tNil)))) (iRange (aCons fa (aCons fb (aCons fc aNil)))) := di_r3 ha hb hc hp hs hs2 hs3
theorem gien {elts : List Expr} {kk : Nat} {tpos p pos : Pos} {e : Expr} {te fe} (hm : X.mg "enumerate" = none) (h : DE X W ω e te fe) (hg : Gl X "enumerate" := by rfl) (hs : starEach [e] X.env = (false, eval e X.env) :: starEach [] X.env := by rfl) :
    DI X W ω (.Tuple elts kk tpos) (.Call (.Name "enumerate" p) [e] [] pos) (iEnum X.K (tCons te tNil)) (iEnumD fe) := di_enum h (pi_enum hg hm (da_cons h da_nil hs).pa (hs.trans rfl))
theorem gcen {elts : List Expr} {kk : Nat} {tpos p pos : Pos} {e : Expr} {te fe} (hm : X.mg "enumerate" = none) (h : DS X W ω e te fe) (hg : Gl X "enumerate" := by rfl) (hs : starEach [e] X.env = (false, eval e X.env) :: starEach [] X.env := by rfl) :
    DC X W ω (.Tuple elts kk tpos) (.Call (.Name "enumerate" p) [e] [] pos) (iEnum X.K (tCons te tNil)) (iEnumD fe) := dc_enum h (pi_enum hg hm (dl_cons h dl_nil hs).pa (hs.trans rfl))
theorem gizip {elts : List Expr} {kk : Nat} {tpos p pos : Pos} {e e2 : Expr} {te fe te2 fe2} (hm : X.mg "zip" = none) (h : DE X W ω e te fe) (h2 : DE X W ω e2 te2 fe2) (hg : Gl X "zip" := by rfl) (hs : starEach [e, e2] X.env = (false, eval e X.env) :: starEach [e2] X.env := by rfl) (hs2 : starEach [e2] X.env = (false, eval e2 X.env) :: starEach [] X.env := by rfl) (hl : (backTo pos (starEach [e2] X.env)).any (·.1) = false := by rfl) :
    DI X W ω (.Tuple elts kk tpos) (.Call (.Name "zip" p) [e, e2] [] pos) (iZip X.K (tCons te (tCons te2 tNil))) (iZipD fe fe2) := di_zip h h2 (pi_zip hg hm (da_cons h (da_cons h2 da_nil hs2) hs).pa hs hl)
theorem gczip {elts : List Expr} {kk : Nat} {tpos p pos : Pos} {e e2 : Expr} {te fe te2 fe2} (hm : X.mg "zip" = none) (h : DS X W ω e te fe) (h2 : DS X W ω e2 te2 fe2) (hg : Gl X "zip" := by rfl) (hs : starEach [e, e2] X.env = (false, eval e X.env) :: starEach [e2] X.env := by rfl) (hs2 : starEach [e2] X.env = (false, eval e2 X.env) :: starEach [] X.env := by rfl) (hl : (backTo pos (starEach [e2] X.env)).any (·.1) = false := by rfl) :
    DC X W ω (.Tuple elts kk tpos) (.Call (.Name "zip" p) [e, e2] [] pos) (iZip X.K (tCons te (tCons te2 tNil))) (iZipD fe fe2) := dc_zip h h2 (pi_zip hg hm (dl_cons h (dl_cons h2 dl_nil hs2) hs).pa hs hl)
/-! ### targets -/
theorem gn (i : Nat) {x : Str} {pos : Pos} (hN : X.N.Nodup) (hx : X.N[i]? = some x := by rfl) (hl : Loc X.env.scope x := by first | exact Or.inl rfl | exact Or.inr rfl) (hk : X.fn x = true ∨ X.env.scope.names.lookup x = some .local := by first | exact .inl rfl | exact .inr rfl) (hi : i ∉ ω := by decide) : DG X ω (.Name x pos) (gName i) [i] (bName i) := dg_name i hi (pg_name hN hx hl hk)
theorem gtg {es : List Expr} {k n : Nat} {pos : Pos} {t js bs} (h : DGs X ω es n t js bs) (hc : X.calm = true := by rfl) (h1 : (assignEach es X.env).length = n := by rfl) (h2 : (assignEach es X.env).findIdx? (·.1) = none := by rfl) : DG X ω (.Tuple es k pos) (gTup X.K n t) js (bTup n bs) := dg_tup h (pg_tup hc h.pg h1 h2)
/-! ### statements -/
theorem gdo {e : Expr} {pos : Pos} {te fe} (h : DE X W ω e te fe) (hs : swapsWith e none pos.line X.env = pure false := by rfl) : DSt X W m J ω (.Expr e pos) (tDrop te) (sDo fe) ω := ds_do h (ps_expr h.pe hs)
theorem gset (i : Nat) {x : Str} {e : Expr} {pos pos' : Pos} {te fe} (hN : X.N.Nodup) (h : DE X W ω e te fe) (hw : ∀ j ∈ ω1, j ∈ ω.filter (· != i) := by decide) (hx : X.N[i]? = some x := by rfl) (hl : Loc X.env.scope x := by first | exact Or.inl rfl | exact Or.inr rfl) (hs : swapsWith e (some (.Name x pos')) pos.line X.env = pure false := by rfl) (hk : X.fn x = true ∨ X.env.scope.names.lookup x = some .local := by first | exact .inl rfl | exact .inr rfl) :
    DSt X W m J ω (.Assign [.Name x pos'] e pos) (tAsg te (gName i)) (sSet i fe) ω1 := dst_weak (ds_set i h (ps_set hN hx hl h.pe hs hk)) hw
theorem gnew (i : Nat) {x : Str} {e : Expr} {pos pos' : Pos} {te fe} (hN : X.N.Nodup) (h : DN X W ω e te fe) (hw : ∀ j ∈ ω1, j ∈ i :: ω := by decide) (hx : X.N[i]? = some x := by rfl) (hl : Loc X.env.scope x := by first | exact Or.inl rfl | exact Or.inr rfl) (hs : swapsWith e (some (.Name x pos')) pos.line X.env = pure false := by rfl) (hk : X.fn x = true ∨ X.env.scope.names.lookup x = some .local := by first | exact .inl rfl | exact .inr rfl) :
    DSt X W m J ω (.Assign [.Name x pos'] e pos) (tAsg te (gName i)) (sSet i fe) ω1 := dst_weak (ds_new i h (ps_set hN hx hl h.pe hs hk)) hw
theorem gret {e : Expr} {pos : Pos} {te fe} (h : DE X W ω e te fe) : DSt X W false J ω (.Return (some e) pos) (tRet te) (sRet fe) ω1 := ds_ret h (ps_ret h.pe)
theorem gretO {e : Expr} {pos : Pos} {te fe} (h : DS X W ω e te fe) : DSt X W false J ω (.Return (some e) pos) (tRet te) (sRet fe) ω1 := ds_retO h (ps_ret h.pe)
theorem gretN {e : Expr} {pos : Pos} {te fe} (h : DN X W ω e te fe) : DSt X W true J ω (.Return (some e) pos) (tRet te) (sRet fe) ω1 := ds_retN h (ps_ret h.pe)
theorem gretV (i : Nat) {e : Expr} {pos : Pos} (hp : PE X e (tVar i)) (hi : i ∈ ω := by decide) : DSt X W true J ω (.Return (some e) pos) (tRet (tVar i)) (sRet (eVar i)) ω1 := ds_retV i hi (ps_ret hp)
theorem gif {c : Expr} {a b : List Stmt} {pos : Pos} {tc fc ta tb F G} (hc : DT X W ω c tc fc) (ha : DSs X W m J ω a ta F ω1) (hb : DSs X W m J ω b tb G ω1) : DSt X W m J ω (.If c a b pos) (tIfS tc ta tb) (sIf fc F G) ω1 := ds_if hc ha hb (ps_if hc.pt ha.ps hb.ps)
theorem gfor {tg iter : Expr} {body : List Stmt} {pos : Pos} {wi g tb f js b B} (hpo : PassesOwn (model X.prog X.w) X.A X.env X.xe) (hi : DI X W ω tg iter wi f) (hg : DG X ω tg g js b) (hb : DSs X W m ω ω body tb B ω1) (hw : ∀ i ∈ ω, i ∈ ω1 := by decide) (hc : X.calm = true := by rfl) (hf : ∀ x, foldedSetIterable iter X.env x = pure x := by intro _; rfl) :
    DSt X W m J ω (.For tg iter body [] pos) (tFor wi g tb) (sFor f b B) ω := ds_for hi hg hb (ps_for hpo hc hi.pi hg.pg hb.ps hf) hw
theorem gitems (i : Nat) {x : Str} {xp : Pos} {apos cpos : Pos} {elts : List Expr} {kk : Nat} {tpos : Pos} {body : List Stmt} {pos : Pos} {g tb js b B} (hpo : PassesOwn (model X.prog X.w) X.A X.env X.xe) (hv : PE X (.Name x xp) (tVar i)) (hg : DG X ω (.Tuple elts kk tpos) g js b) (hb : DSs X W false ω ω body tb B ω1) (hi : i ∉ ω := by decide) (hw : ∀ i ∈ ω, i ∈ ω1 := by decide) (hc : X.calm = true := by rfl)
    (h1 : attributeBase (.Name x xp) "items" X.env (eval (.Name x xp) X.env) = eval (.Name x xp) X.env := by rfl) (h2 : (apos.endLine == cpos.line) = true := by rfl) (hf : ∀ y, foldedSetIterable (.Call (.Attribute (.Name x xp) "items" apos) [] [] cpos) X.env y = pure y := by intro _; rfl) :
    DSt X W false J ω (.For (.Tuple elts kk tpos) (.Call (.Attribute (.Name x xp) "items" apos) [] [] cpos) body [] pos) (fun D σ H => tLock (tFor (iItems (tVar i)) g tb) D σ H ∨ tFor (iItems (tVar i)) g tb D σ H) (sForI i b B) ω :=
  ds_items i hi hg hb (ps_for hpo hc (pi_items hv h1 h2) hg.pg hb.ps hf) hw
theorem gwhile (n : Nat) {c : Expr} {body : List Stmt} {pos : Pos} {tc tb fc B} (hpo : PassesOwn (model X.prog X.w) X.A X.env X.xe) (hc : DT X W ω c tc fc) (hb : DSs X W m ω ω body tb B ω1) (hw : ∀ i ∈ ω, i ∈ ω1 := by decide) : DSt X W m J ω (.While c body [] pos) (tWhile tc tb) (whileD fc B n) ω := ds_while n hc hb (ps_while hpo hc.pt hb.ps) hw
theorem gaug (i : Nat) {x : Str} {e : Expr} {op : Operator} {pos pos' : Pos} {te fe} {r : R2} {g : D → D → Option D} (hN : X.N.Nodup) (ho : OpR X (inplaceOp op) r) (hg : OpG X.K (shR X.K) r g) (h : DS X W ω e te fe) (hi : i ∉ ω := by decide) (hx : X.N[i]? = some x := by rfl) (hl : Loc X.env.scope x := by first | exact Or.inl rfl | exact Or.inr rfl) (hk : X.fn x = true ∨ X.env.scope.names.lookup x = some .local := by first | exact .inl rfl | exact .inr rfl) :
    DSt X W m J ω (.AugAssign (.Name x pos') op e pos) (tAug i te r) (sAug i g fe) ω := ds_aug i hi h hg (ps_aug hN hx hl h.pe (fun pins s σ H x y v u Q I rx ry q => augR ho I rx ry q) hk)
theorem gapp (i : Nat) {x : Str} {e : Expr} {xp apos cpos pos : Pos} {te fe} (hv : PE X (.Name x xp) (tVar i)) (h : DE X W ω e te fe) (hi : i ∈ ω := by decide) (h1 : attributeBase (.Name x xp) "append" X.env (eval (.Name x xp) X.env) = eval (.Name x xp) X.env := by rfl)
    (h2 : ((((backTo cpos (starEach [e] X.env)).all fun x => !x.1) && (backToKw cpos (keywordEach [] X.env)).all fun x => x.1.isSome) && decide (([e] : List Expr).length + ([] : List Keyword).length + (if ([] : List Keyword).isEmpty = true then 0 else 1) < 30)) = true := by rfl) (h3 : (apos.endLine == cpos.line) = true := by rfl)
    (h4 : starEach [e] X.env = (false, eval e X.env) :: starEach [] X.env := by rfl) (h5 : (backTo cpos (starEach [] X.env)).any (·.1) = false := by rfl) (hs : swapsWith (.Call (.Attribute (.Name x xp) "append" apos) [e] [] cpos) none pos.line X.env = pure false := by rfl) :
    DSt X W m J ω (.Expr (.Call (.Attribute (.Name x xp) "append" apos) [e] [] cpos) pos) (tDrop (tBM X.K "list" rAppend (tVar i) (tCons te tNil))) (sApp i fe) ω :=
  ds_app i hi h (ps_expr (pe_bm PySem.F.plainAttrs_list PySem.F.slot_list_append PySem.F.type_list_append mt_append hv (da_cons h da_nil h4).pa h1 h2 h3 h4 h5) hs)
theorem gext (i : Nat) {x : Str} {e : Expr} {xp apos cpos pos : Pos} {te fe} (hv : PE X (.Name x xp) (tVar i)) (h : DE X W ω e te fe) (hi : i ∈ ω := by decide) (h1 : attributeBase (.Name x xp) "extend" X.env (eval (.Name x xp) X.env) = eval (.Name x xp) X.env := by rfl)
    (h2 : ((((backTo cpos (starEach [e] X.env)).all fun x => !x.1) && (backToKw cpos (keywordEach [] X.env)).all fun x => x.1.isSome) && decide (([e] : List Expr).length + ([] : List Keyword).length + (if ([] : List Keyword).isEmpty = true then 0 else 1) < 30)) = true := by rfl) (h3 : (apos.endLine == cpos.line) = true := by rfl)
    (h4 : starEach [e] X.env = (false, eval e X.env) :: starEach [] X.env := by rfl) (h5 : (backTo cpos (starEach [] X.env)).any (·.1) = false := by rfl) (hs : swapsWith (.Call (.Attribute (.Name x xp) "extend" apos) [e] [] cpos) none pos.line X.env = pure false := by rfl) :
    DSt X W m J ω (.Expr (.Call (.Attribute (.Name x xp) "extend" apos) [e] [] cpos) pos) (tDrop (tBM X.K "list" rExtend (tVar i) (tCons te tNil))) (sExt i fe) ω :=
  ds_ext i hi h (ps_expr (pe_bm PySem.F.plainAttrs_list PySem.F.slot_list_extend PySem.F.type_list_extend mt_extend hv (da_cons h da_nil h4).pa h1 h2 h3 h4 h5) hs)
theorem gputL (i : Nat) {x : Str} {e ke : Expr} {xp sp pos : Pos} {te fe tk fk} (hv : PE X (.Name x xp) (tVar i)) (hk : DE X W ω ke tk fk) (h : DE X W ω e te fe) (hi : i ∈ ω := by decide)
    (h0 : ∀ v : Value, assign (.Subscript (.Name x xp) ke sp) X.env v = (do let ov ← holding [v] (eval (.Name x xp) X.env); let iv ← holding [v, ov] (eval ke X.env); standAt sp; holding [v, ov, iv] (setItem ov iv v); release [v, ov, iv] []) := by intro _; rfl)
    (h1 : swapsWithSole [.Subscript (.Name x xp) ke sp] e pos.line X.env = pure false := by rfl) (h2 : swappedStores [.Subscript (.Name x xp) ke sp] e X.env = pure none := by rfl) (h3 : (assignEach [.Subscript (.Name x xp) ke sp] X.env).map (·.2) = [assign (.Subscript (.Name x xp) ke sp) X.env] := by rfl) :
    DSt X W m J ω (.Assign [.Subscript (.Name x xp) ke sp] e pos) (tAsg te (gSub (tVar i) tk rSetL)) (sPutL i fk fe) ω :=
  ds_putL i hi h hk (ps_asg h.pe (pg_sub hv hk.pe set_list h0) h1 h2 h3)
theorem gputK (i : Nat) {x : Str} {e ke : Expr} {xp sp pos : Pos} {te fe tk fk} (hu : X.A.units + 1 < cLine) (hv : PE X (.Name x xp) (tVar i)) (hk : DE X W ω ke tk fk) (h : DE X W ω e te fe) (hi : i ∈ ω := by decide)
    (hs : swapsWith e (some (.Subscript (.Name x xp) ke sp)) pos.line X.env = pure false := by rfl) : DSt X W m J ω (.Assign [.Subscript (.Name x xp) ke sp] e pos) (sDPut (tVar i) tk te) (sPutK i fk fe) ω :=
  ds_putK i hi h hk (ps_dput hu hv hk.pe h.pe hs)
/-- a, b = e -/
def sAsg (f : En → Res D) (b : BF) : SF := fun ρ => outX ρ (f ρ) fun d => match b d ρ with
  | some ρ' => .nx ρ'
  | none => .bad
theorem ds_asg {st : Stmt} {e tg : Expr} {te fe g js b} (h : DE X W ω e te fe) (hg : DG X ω tg g js b) (hp : PS X st (tAsg te g)) : DSt X W m J ω st (tAsg te g) (sAsg fe b) ω := ⟨hp, fun P H0 H σ ρ I E k => by
  refine st_bind h.ev I k fun d v H1 e1 s1 I1 r k1 => ?_
  cases q : b d ρ with
  | none => rw [q] at k1; exact k1.elim
  | some ρ' =>
    rw [q] at k1
    exact hg.ev P H0 H1 σ ρ d v ρ' I1 r q _ fun σ' I' _ _ _ => k1 σ' H1 I'⟩
theorem gasg {tg e : Expr} {pos : Pos} {te fe g js b} (h : DE X W ω e te fe) (hg : DG X ω tg g js b) (h1 : swapsWithSole [tg] e pos.line X.env = pure false := by rfl) (h2 : swappedStores [tg] e X.env = pure none := by rfl) (h3 : (assignEach [tg] X.env).map (·.2) = [assign tg X.env] := by rfl) :
    DSt X W m J ω (.Assign [tg] e pos) (tAsg te g) (sAsg fe b) ω := ds_asg h hg (ps_asg h.pe hg.pg h1 h2 h3)
end
end Dl

/-! The data layer, part 10: a, b = x, y; y = [comprehension]; list(range(..)); try with a plain suite. -/
namespace Dl
open PySem L2
section
variable {X : Cx} {W : WX} {ω ω1 ω2 J : List Nat} {m : Bool}
def sPar (i j : Nat) (fa : En → Res (List D)) : SF := fun ρ => outX ρ (fa ρ) fun ds => match ds with
  | [a, b] => .nx ((ρ.set i (some a)).set j (some b))
  | _ => .bad
theorem ds_par (i j : Nat) {st : Stmt} {es : List Expr} {ta fa} (hi : i ∉ ω) (hj : j ∉ ω) (h : DA X W ω es ta fa) (hp : PS X st (tPar i j ta)) : DSt X W m J ω st (tPar i j ta) (sPar i j fa) ω := ⟨hp, fun P H0 H σ ρ I E k => by
  refine st_bind h.ev I k fun ds vs H1 e1 s1 I1 r k1 => ?_
  match ds, k1, r with
  | [a, b], k1, r =>
    obtain ⟨x, xs, rfl, ra, r2⟩ := r
    obtain ⟨y, ys, rfl, rb, r3⟩ := r2
    cases (show ys = [] from r3)
    refine ⟨x, y, rfl, ?_⟩
    have I2 := I1.set (ω' := ω) (i := i) (d := a) (v := x) hi (fun _ z => z) ra
    have eo : hid P ω (ρ.set i (some a)) (σ.set i (some x)) = hid P ω ρ σ := by unfold hid; rw [own_set hi]
    exact k1 _ H1 (I2.set (ω' := ω) hj (fun _ z => z) (by rw [eo]; exact rb))
  | [], k1, _ => exact k1.elim
  | [_], k1, _ => exact k1.elim
  | _ :: _ :: _ :: _, k1, _ => exact k1.elim⟩
theorem gpar (i j : Nat) {x y : Str} {a b : Expr} {ta fa} {px py pt pos : Pos} {kt k2 : Nat} {pt2 : Pos} (hN : X.N.Nodup) (h : DA X W ω [a, b] ta fa) (hi : i ∉ ω := by decide) (hj : j ∉ ω := by decide) (hc : X.calm = true := by rfl) (hx : X.N[i]? = some x := by rfl) (hy : X.N[j]? = some y := by rfl) (hij : i ≠ j := by decide)
    (hlx : X.env.scope.names.lookup x = some .local := by rfl) (hly : X.env.scope.names.lookup y = some .local := by rfl) (hw : swappedStores [.Tuple [.Name x px, .Name y py] kt pt] (.Tuple [a, b] k2 pt2) X.env = pure (some [x, y]) := by rfl)
    (hs : swapsWithSole [.Tuple [.Name x px, .Name y py] kt pt] (.Tuple [a, b] k2 pt2) pos.line X.env = pure false := by rfl) :
    DSt X W m J ω (.Assign [.Tuple [.Name x px, .Name y py] kt pt] (.Tuple [a, b] k2 pt2) pos) (tPar i j ta) (sPar i j fa) ω := ds_par i j hi hj h (ps_par hc hN hx hy hij hlx hly h.pa hw hs)
section
variable {elt tg iter : Expr} {ifs : List Expr} {scope : Scope} {own : List (Str × Nat)} {pos spos py : Pos} {y : Str} {wi : TI} {g : Shared → Hp → Addr → List (Str × Addr) → List Addr → TG} {tt : Shared → Hp → Addr → List (Str × Addr) → List Addr → TT} {te : Shared → Hp → Addr → List (Str × Addr) → List Addr → TE} {f : En → Res (List D)} {js : List Nat} {b : BF} {c : En → Res Bool} {e : En → Res D}
theorem glc (hN : X.N.Nodup) (own : List (Str × Nat)) (hi : DC X W ω tg iter wi f) (ok : BlkOk X.N X.env.scope scope own)
    (hg : ∀ (s : Shared) (H : Hp) (C : Addr) (cl : List (Str × Addr)) (fp : List Addr), DG (X.blk s H scope (compEnvC scope cl C X.env) fp) ω tg (g s H C cl fp) js b)
    (ht : ∀ (s : Shared) (H : Hp) (C : Addr) (cl : List (Str × Addr)) (fp : List Addr), DTs (X.blk s H scope (compEnvC scope cl C X.env) fp) W0 ω ifs (tt s H C cl fp) c)
    (he : ∀ (s : Shared) (H : Hp) (C : Addr) (cl : List (Str × Addr)) (fp : List Addr), DE (X.blk s H scope (compEnvC scope cl C X.env) fp) W0 ω elt (te s H C cl fp) e)
    (eg : ∀ s H C cl fp, g s H C cl fp = g X.s_0 X.H_0 0 [] [] := by intros; rfl) (et : ∀ s H C cl fp, tt s H C cl fp = tt X.s_0 X.H_0 0 [] [] := by intros; rfl) (ee : ∀ s H C cl fp, te s H C cl fp = te X.s_0 X.H_0 0 [] [] := by intros; rfl)
    (hc : X.calm = true := by rfl) (hj : ∀ j ∈ js, j ∈ own.map (·.2) := by decide) (hv : ∀ v ∈ own.map (·.2), v ∉ ω := by decide) (hs : ∀ x, foldedSetIterable iter X.env x = pure x := by intro _; rfl) :
    DN X W ω (.ListComp elt [⟨tg, iter, ifs, 0⟩] scope pos) (tLc wi (g X.s_0 X.H_0 0 [] []) (tt X.s_0 X.H_0 0 [] []) (te X.s_0 X.H_0 0 [] []) (own.map (·.2))) (eComp f b c e (own.map (·.2))) := dn_lc (pos := pos) hc hN hi ok (fun s H C cl fp => eg s H C cl fp ▸ hg s H C cl fp) (fun s H C cl fp => et s H C cl fp ▸ ht s H C cl fp) (fun s H C cl fp => ee s H C cl fp ▸ he s H C cl fp) hj hv hs
theorem gsetLc (i : Nat) (hN : X.N.Nodup) (own : List (Str × Nat)) (hi : DC X W ω tg iter wi f) (ok : BlkOk X.N X.env.scope scope own)
    (hg : ∀ (s : Shared) (H : Hp) (C : Addr) (cl : List (Str × Addr)) (fp : List Addr), DG (X.blk s H scope (compEnvC scope cl C X.env) fp) ω tg (g s H C cl fp) js b)
    (ht : ∀ (s : Shared) (H : Hp) (C : Addr) (cl : List (Str × Addr)) (fp : List Addr), DTs (X.blk s H scope (compEnvC scope cl C X.env) fp) W0 ω ifs (tt s H C cl fp) c)
    (he : ∀ (s : Shared) (H : Hp) (C : Addr) (cl : List (Str × Addr)) (fp : List Addr), DE (X.blk s H scope (compEnvC scope cl C X.env) fp) W0 ω elt (te s H C cl fp) e)
    (eg : ∀ s H C cl fp, g s H C cl fp = g X.s_0 X.H_0 0 [] [] := by intros; rfl) (et : ∀ s H C cl fp, tt s H C cl fp = tt X.s_0 X.H_0 0 [] [] := by intros; rfl) (ee : ∀ s H C cl fp, te s H C cl fp = te X.s_0 X.H_0 0 [] [] := by intros; rfl)
    (hw : ∀ j ∈ ω1, j ∈ ω.filter (· != i) := by decide) (hsw : swapsWith (.ListComp elt [⟨tg, iter, ifs, 0⟩] scope pos) (some (.Name y py)) spos.line X.env = pure true := by exact sw_true rfl rfl rfl (by decide +kernel)) (hc : X.calm = true := by rfl) (hx : X.N[i]? = some y := by rfl) (hk : X.env.scope.names.lookup y = some .local := by rfl) (hj : ∀ j ∈ js, j ∈ own.map (·.2) := by decide) (hv : ∀ v ∈ own.map (·.2), v ∉ ω := by decide) (hs : ∀ x, foldedSetIterable iter X.env x = pure x := by intro _; rfl) :
    DSt X W m J ω (.Assign [.Name y py] (.ListComp elt [⟨tg, iter, ifs, 0⟩] scope pos) spos) (tAsg (tLc wi (g X.s_0 X.H_0 0 [] []) (tt X.s_0 X.H_0 0 [] []) (te X.s_0 X.H_0 0 [] []) (own.map (·.2))) (gName i)) (sSet i (eComp f b c e (own.map (·.2)))) ω1 :=
  dst_weak (ds_set i (dn_lc (pos := pos) hc hN hi ok (fun s H C cl fp => eg s H C cl fp ▸ hg s H C cl fp) (fun s H C cl fp => et s H C cl fp ▸ ht s H C cl fp) (fun s H C cl fp => ee s H C cl fp ▸ he s H C cl fp) hj hv hs).sh (ps_setLc hc hN hx hk hsw hi.pi ok (fun s H C cl fp => (eg s H C cl fp ▸ hg s H C cl fp : DG (X.blk s H scope (compEnvC scope cl C X.env) fp) ω tg (g X.s_0 X.H_0 0 [] []) js b).pg) (fun s H C cl fp => (et s H C cl fp ▸ ht s H C cl fp : DTs (X.blk s H scope (compEnvC scope cl C X.env) fp) W0 ω ifs (tt X.s_0 X.H_0 0 [] []) c).pts) (fun s H C cl fp => (ee s H C cl fp ▸ he s H C cl fp : DE (X.blk s H scope (compEnvC scope cl C X.env) fp) W0 ω elt (te X.s_0 X.H_0 0 [] []) e).pe) hs)) hw
theorem gnewLc (i : Nat) (hN : X.N.Nodup) (own : List (Str × Nat)) (hi : DC X W ω tg iter wi f) (ok : BlkOk X.N X.env.scope scope own)
    (hg : ∀ (s : Shared) (H : Hp) (C : Addr) (cl : List (Str × Addr)) (fp : List Addr), DG (X.blk s H scope (compEnvC scope cl C X.env) fp) ω tg (g s H C cl fp) js b)
    (ht : ∀ (s : Shared) (H : Hp) (C : Addr) (cl : List (Str × Addr)) (fp : List Addr), DTs (X.blk s H scope (compEnvC scope cl C X.env) fp) W0 ω ifs (tt s H C cl fp) c)
    (he : ∀ (s : Shared) (H : Hp) (C : Addr) (cl : List (Str × Addr)) (fp : List Addr), DE (X.blk s H scope (compEnvC scope cl C X.env) fp) W0 ω elt (te s H C cl fp) e)
    (eg : ∀ s H C cl fp, g s H C cl fp = g X.s_0 X.H_0 0 [] [] := by intros; rfl) (et : ∀ s H C cl fp, tt s H C cl fp = tt X.s_0 X.H_0 0 [] [] := by intros; rfl) (ee : ∀ s H C cl fp, te s H C cl fp = te X.s_0 X.H_0 0 [] [] := by intros; rfl)
    (hw : ∀ j ∈ ω1, j ∈ i :: ω := by decide) (hsw : swapsWith (.ListComp elt [⟨tg, iter, ifs, 0⟩] scope pos) (some (.Name y py)) spos.line X.env = pure true := by exact sw_true rfl rfl rfl (by decide +kernel)) (hc : X.calm = true := by rfl) (hx : X.N[i]? = some y := by rfl) (hk : X.env.scope.names.lookup y = some .local := by rfl) (hj : ∀ j ∈ js, j ∈ own.map (·.2) := by decide) (hv : ∀ v ∈ own.map (·.2), v ∉ ω := by decide) (hs : ∀ x, foldedSetIterable iter X.env x = pure x := by intro _; rfl) :
    DSt X W m J ω (.Assign [.Name y py] (.ListComp elt [⟨tg, iter, ifs, 0⟩] scope pos) spos) (tAsg (tLc wi (g X.s_0 X.H_0 0 [] []) (tt X.s_0 X.H_0 0 [] []) (te X.s_0 X.H_0 0 [] []) (own.map (·.2))) (gName i)) (sSet i (eComp f b c e (own.map (·.2)))) ω1 :=
  dst_weak (ds_new i (dn_lc (pos := pos) hc hN hi ok (fun s H C cl fp => eg s H C cl fp ▸ hg s H C cl fp) (fun s H C cl fp => et s H C cl fp ▸ ht s H C cl fp) (fun s H C cl fp => ee s H C cl fp ▸ he s H C cl fp) hj hv hs) (ps_setLc hc hN hx hk hsw hi.pi ok (fun s H C cl fp => (eg s H C cl fp ▸ hg s H C cl fp : DG (X.blk s H scope (compEnvC scope cl C X.env) fp) ω tg (g X.s_0 X.H_0 0 [] []) js b).pg) (fun s H C cl fp => (et s H C cl fp ▸ ht s H C cl fp : DTs (X.blk s H scope (compEnvC scope cl C X.env) fp) W0 ω ifs (tt X.s_0 X.H_0 0 [] []) c).pts) (fun s H C cl fp => (ee s H C cl fp ▸ he s H C cl fp : DE (X.blk s H scope (compEnvC scope cl C X.env) fp) W0 ω elt (te X.s_0 X.H_0 0 [] []) e).pe) hs)) hw
end
/-- a dict's key, as a test -/
theorem gtdin {i o : Expr} {pos : Pos} {ty td fy fd} (hu : X.A.units + 1 < cLine) (hi : DS X W ω i ty fy) (ho : DS X W ω o td fd) (hm : behindInMarks .In o = false := by rfl) : DT X W ω (.Compare i [.In] [o] pos) (tB (tDIn ty td)) (tst (eBin (dHas false) fy fd)) :=
  ⟨pt_cmp (pc_din hu hi.pe ho.pe) hm, ev_tB (gdin (pos := pos) hu hi ho hm).ev⟩
theorem gtdnotin {i o : Expr} {pos : Pos} {ty td fy fd} (hu : X.A.units + 1 < cLine) (hi : DS X W ω i ty fy) (ho : DS X W ω o td fd) (hm : behindInMarks .NotIn o = false := by rfl) : DT X W ω (.Compare i [.NotIn] [o] pos) (tB (tDNotIn ty td)) (tst (eBin (dHas true) fy fd)) :=
  ⟨pt_cmp (pc_dnotin hu hi.pe ho.pe) hm, ev_tB (gdnotin (pos := pos) hu hi ho hm).ev⟩
/-! ### list(range(..)) -/
def rgD (ds : List D) : Option D := match ds with
  | [.int j] => if ok62 j && decide (j.toNat ≤ 2 ^ 24) then some (.lst (rngD 0 j.toNat)) else none
  | [.int i, .int j] => if ok62 i && ok62 j && decide ((j - i).toNat ≤ 2 ^ 24) then some (.lst (rngD i (j - i).toNat)) else none
  | _ => none
def eRgL (fa : En → Res (List D)) : En → Res D := fun ρ => (fa ρ).bind fun ds => .ofO (rgD ds)
theorem rg_is {K : PySem.W.Frag} {H : Hp} {i j : Int} : IsL K H (rngD i (j - i).toNat) (rgV i j) := by
  unfold rgV rngD
  have : ∀ l : List Nat, IsL K H (l.map fun k => D.int (i + (k : Nat))) (l.map fun k => V.int (i + (k : Nat))) := fun l => by
    induction l with
    | nil => exact isl_nil
    | cons a l ih => exact isl_cons rfl ih
  exact this _
theorem glr1 {p p2 pos pos2 : Pos} {a : Expr} {ta fa} (hm : X.mg "list" = none) (hm2 : X.mg "range" = none) (h : DS X W ω a ta fa) (hc : X.calm = true := by rfl) (hg : Gl X "list" := by rfl) (hg2 : Gl X "range" := by rfl) (na : starEach [a] X.env = (false, eval a X.env) :: starEach [] X.env := by rfl)
    (na2 : starEach [.Call (.Name "range" p) [a] [] pos] X.env = (false, eval (.Call (.Name "range" p) [a] [] pos) X.env) :: starEach [] X.env := by rfl) :
    DN X W ω (.Call (.Name "list" p2) [.Call (.Name "range" p) [a] [] pos] [] pos2) (tLstRg (tRg1 ta)) (eRgL (aCons fa aNil)) := ⟨pe_listRg hc hg hm (prg_1 hg2 hm2 h.pe na) na2, fun P H0 H σ ρ I Q k => by
  have k' : KG X.K (nwR X.K (P, ownAt ω ρ σ)) σ H W Q ((fa ρ).bind fun d => .ofO (rgD [d])) := by
    unfold eRgL aCons aNil at k
    cases q : fa ρ with
    | ok d => rw [q] at k; exact k
    | exc x => rw [q] at k; exact k
    | bad => rw [q] at k; exact k
  refine h.ev.bind I nw_anti k' fun d x H1 e1 s1 I1 r k1 => ?_
  cases d with
  | int j =>
    have k2 : KG X.K (nwR X.K (P, ownAt ω ρ σ)) σ H1 W Q (.ofO (if ok62 j && decide (j.toNat ≤ 2 ^ 24) then some (.lst (rngD 0 j.toNat)) else none)) := k1
    by_cases c : (ok62 j && decide (j.toNat ≤ 2 ^ 24)) = true
    · rw [if_pos c] at k2
      rw [Bool.and_eq_true] at c
      obtain ⟨c1, c2⟩ := c
      have c3 := ok62_ok c1
      have c4 := of_decide_eq_true c2
      cases lnt_int r
      refine ⟨j, rfl, ⟨by omega, by omega, c3.1, c3.2, by simpa using c4⟩, fun q hq => k2 _ _ (L2.Same.add hq) (nw_lst I1.domH (Same.rfl' _) hq ?_)⟩
      have := rg_is (K := X.K) (H := mask H1 (Hd.hid (P, ownAt ω ρ σ))) (i := 0) (j := j)
      rw [Int.sub_zero] at this
      exact this
    · rw [if_neg c] at k2; exact k2.elim
  | _ => exact k1.elim⟩
theorem glr2 {p p2 pos pos2 : Pos} {a b : Expr} {ta fa tb fb} (hm : X.mg "list" = none) (hm2 : X.mg "range" = none) (h : DS X W ω a ta fa) (h' : DS X W ω b tb fb) (hc : X.calm = true := by rfl) (hg : Gl X "list" := by rfl) (hg2 : Gl X "range" := by rfl) (na : starEach [a, b] X.env = (false, eval a X.env) :: starEach [b] X.env := by rfl)
    (nb : starEach [b] X.env = (false, eval b X.env) :: starEach [] X.env := by rfl) (hl : (backTo pos (starEach [b] X.env)).any (·.1) = false := by rfl)
    (na2 : starEach [.Call (.Name "range" p) [a, b] [] pos] X.env = (false, eval (.Call (.Name "range" p) [a, b] [] pos) X.env) :: starEach [] X.env := by rfl) :
    DN X W ω (.Call (.Name "list" p2) [.Call (.Name "range" p) [a, b] [] pos] [] pos2) (tLstRg (tRg2 ta tb)) (eRgL (aCons fa (aCons fb aNil))) := ⟨pe_listRg hc hg hm (prg_2 hg2 hm2 h.pe h'.pe na nb hl) na2, fun P H0 H σ ρ I Q k => by
  have k' : KG X.K (nwR X.K (P, ownAt ω ρ σ)) σ H W Q ((fa ρ).bind fun d => (fb ρ).bind fun e => .ofO (rgD [d, e])) := by
    unfold eRgL aCons aNil at k
    cases q : fa ρ with
    | ok d =>
      rw [q] at k
      cases q2 : fb ρ with
      | ok d => rw [q2] at k; exact k
      | exc x => rw [q2] at k; exact k
      | bad => rw [q2] at k; exact k
    | exc x => rw [q] at k; exact k
    | bad => rw [q] at k; exact k
  refine h.ev.bind I nw_anti k' fun d x H1 e1 s1 I1 r k1 => ?_
  refine h'.ev.bind I1 nw_anti k1 fun e y H2 e2 s2 I2 r2 k2 => ?_
  cases d with
  | int i =>
    cases e with
    | int j =>
      have k3 : KG X.K (nwR X.K (P, ownAt ω ρ σ)) σ H2 W Q (.ofO (if ok62 i && ok62 j && decide ((j - i).toNat ≤ 2 ^ 24) then some (.lst (rngD i (j - i).toNat)) else none)) := k2
      by_cases c : (ok62 i && ok62 j && decide ((j - i).toNat ≤ 2 ^ 24)) = true
      · rw [if_pos c] at k3
        rw [Bool.and_eq_true, Bool.and_eq_true] at c
        obtain ⟨⟨c0, c1⟩, c2⟩ := c
        have c3 := ok62_ok c1
        have c5 := ok62_ok c0
        have c4 := of_decide_eq_true c2
        cases lnt_int r
        cases lnt_int r2
        exact ⟨i, j, rfl, rfl, ⟨c5.1, c5.2, c3.1, c3.2, c4⟩, fun q hq => k3 _ _ (L2.Same.add hq) (nw_lst I2.domH (Same.rfl' _) hq rg_is)⟩
      · rw [if_neg c] at k3; exact k3.elim
    | _ => exact k2.elim
  | _ => cases e <;> exact k2.elim⟩
/-! ### try: BODY except C: SUITE (a suite that does not look at the error) -/
theorem gtry {x : Str} {c : Value} {body suite : List Stmt} {b₀ : Stmt} {np pos pos' : Pos} {tb : WX → List (Addr × Obj) → (Value → Shared → Prop) → TS} {ts : Addr → List (Addr × Obj) → TS} {B S : SF} (mt : Str → Option Bool) (hm : ∀ x b, mt x = some b → PySem.W.exmOne X.K (.ref (He.ga X.K x)) c = some b) (hn : Names X x c) (tk : Takes X W)
    (hb : ∀ (W' : WX) (pn : List (Addr × Obj)) (xe : Value → Shared → Prop), Takes (X.tr pn xe) W' → PassesOwn (model X.prog X.w) X.A X.env xe → DSs (X.tr pn xe) W' m J ω body (tb W' pn xe) B [])
    (hs : ∀ (a : Addr) (pn : List (Addr × Obj)), DSs (X.suite a pn) W m J [] (b₀ :: suite) (ts a pn) S [])
    (eb : ∀ W' pn xe, tb W' pn xe = tb W' [] (fun _ _ => True) := by intros; rfl) (es : ∀ a pn, ts a pn = ts 0 [] := by intros; rfl)
    (h1 : X.stack = X.env :: X.outer := by rfl) (h2 : X.env.frame = some X.env.locals := by rfl) (h3 : X.ex = [] := by rfl) :
    DSt X W m J ω (.Try body [.ExceptHandler (some (.Name x np)) none (b₀ :: suite) pos'] [] [] pos) (fun D σ H => tb (wOnly X.K c (fun _ _ _ => ts 0 []) W D) [] (fun _ _ => True) D σ H) (sTry B mt fun _ => S) [] :=
  ⟨ps_try_only (tb := fun W' => tb W' [] fun _ _ => True) (ts := fun _ _ _ => ts 0 []) h1 h2 hn tk (fun W' pn xe t p => eb W' pn xe ▸ (hb W' pn xe t p).ps) (fun a oe cls d pn _ _ => es a _ ▸ (hs a _).ps),
    ev_try hm (fun W' => by
      have t : Takes (X.tr [] (fun e s' => wpAny (model X.prog X.w) X.A (leaving X.env e) (fun x s'' => CX X.prog X.w X.outer X.H_0 X.s_0 (fun _ _ _ => True) e s'') (fun _ _ => False) s')) (fun _ _ _ _ => True) := takes_of h1 h2 h3 rfl
      exact eb W' [] _ ▸ (hb W' [] _ (t.imp fun _ _ _ _ _ => trivial) (passes_of (X := X.tr [] (fun e s' => wpAny (model X.prog X.w) X.A (leaving X.env e) (fun x s'' => CX X.prog X.w X.outer X.H_0 X.s_0 (fun _ _ _ => True) e s'') (fun _ _ => False) s')) (K := fun e s'' => CX X.prog X.w X.outer X.H_0 X.s_0 (fun _ _ _ => True) e s'') (E₁ := fun _ _ => False) rfl)).ev) (fun x P H0 H σ ρ a cls d I _ _ E k => (hs 0 []).ev P H0 H σ ρ I E k)⟩
/-- f(): new -/
theorem dn_call0 {x : Str} {k j : Nat} {G : List D → Res D} {p pos : Pos} (F : Fn X.prog X.w X.K X.mg X.base x k (spN X.K 0 G)) (hr : Room j X.A) (hk : k ≤ j := by decide) (hg : Gl X x := by rfl) (hdb : (x == ("__debug__" : Str)) = false := by decide) :
    DN X W ω (.Call (.Name x p) [] [] pos) (tCall (spN X.K 0 G) [] E0 tNil) (eCall0 G) := by
  obtain ⟨f, fd, ps, a, b, c, d⟩ := F.ex
  refine ⟨pe_call0 a (hr.mono hk) hg b c d .nil passL hdb, fun P H0 H σ ρ I Q k => ?_⟩
  refine ⟨[], Hd.hid (P, ownAt ω ρ σ), fun a z => I.dom z, isl_nil, ?_⟩
  unfold eCall0 at k
  cases q : arN 0 G [] with
  | ok d => rw [q] at k; exact k
  | exc x => rw [q] at k; exact k.elim
  | bad => rw [q] at k; exact k.elim
end
end Dl

/-! The data layer, part 11: to reckon with the printed functions. -/
namespace Dl
open PySem L2
/-! ### results -/
def Out.then (o : Out) (G : SF) : Out := match o with
  | .nx ρ => G ρ
  | o => o
@[simp] theorem then_nx (ρ : En) (G : SF) : (Out.nx ρ).then G = G ρ := rfl
@[simp] theorem then_rt (d : D) (G : SF) : (Out.rt d).then G = .rt d := rfl
@[simp] theorem then_bk (ρ : En) (G : SF) : (Out.bk ρ).then G = .bk ρ := rfl
@[simp] theorem then_ct (ρ : En) (G : SF) : (Out.ct ρ).then G = .ct ρ := rfl
@[simp] theorem then_exc (x : ExV) (ρ : En) (G : SF) : (Out.exc x ρ).then G = .exc x ρ := rfl
@[simp] theorem then_ite (c : Prop) [Decidable c] (a b : Out) (G : SF) : (if c then a else b).then G = if c then a.then G else b.then G := by split <;> rfl
@[simp] theorem sSeq_at (F G : SF) (ρ : En) : sSeq F G ρ = (F ρ).then G := by unfold sSeq Out.then; cases F ρ <;> rfl
@[simp] theorem sNop_at (ρ : En) : sNop ρ = .nx ρ := rfl
@[simp] theorem sBrk_at (ρ : En) : sBrk ρ = .bk ρ := rfl
@[simp] theorem sCt_at (ρ : En) : sCt ρ = .ct ρ := rfl
theorem outX_ite {α : Type} (ρ : En) (c : Prop) [Decidable c] (a b : Res α) (k : α → Out) : outX ρ (if c then a else b) k = if c then outX ρ a k else outX ρ b k := by split <;> rfl
@[simp] theorem sDo_at (f ρ) : sDo f ρ = outX ρ (f ρ) fun _ => .nx ρ := rfl
@[simp] theorem sSet_at (i f ρ) : sSet i f ρ = outX ρ (f ρ) fun d => .nx (ρ.set i (some d)) := rfl
@[simp] theorem sRet_at (f ρ) : sRet f ρ = outX ρ (f ρ) .rt := rfl
@[simp] theorem sIf_at (c F G ρ) : sIf c F G ρ = outX ρ (c ρ) fun b => if b = true then F ρ else G ρ := rfl
@[simp] theorem sFor_at (f b B ρ) : sFor f b B ρ = outX ρ (f ρ) fun ds => forD b B ds ρ := rfl
@[simp] theorem sRaise_at (c ρ) : sRaise c ρ = .exc ⟨c, none⟩ ρ := rfl
@[simp] theorem sAug_at (i g f ρ) : sAug i g f ρ = outX ρ ((eVar i ρ).bind fun a => (f ρ).bind fun b => .ofO (g a b)) fun d => .nx (ρ.set i (some d)) := rfl
@[simp] theorem sPar_at (i j fa ρ) : sPar i j fa ρ = outX ρ (fa ρ) fun ds => match ds with
  | [a, b] => .nx ((ρ.set i (some a)).set j (some b))
  | _ => .bad := rfl
@[simp] theorem sAsg_at (f b ρ) : sAsg f b ρ = outX ρ (f ρ) fun d => match b d ρ with
  | some ρ' => .nx ρ'
  | none => .bad := rfl
@[simp] theorem sApp_at (i f ρ) : sApp i f ρ = outX ρ ((eVar i ρ).bind (appD (f ρ))) fun d => .nx (ρ.set i (some d)) := rfl
@[simp] theorem appD_lst (r : Res D) (ds : List D) : appD r (.lst ds) = r.bind fun b => if ds.length < lim then .ok (.lst (ds ++ [b])) else .bad := rfl
@[simp] theorem sExt_at (i f ρ) : sExt i f ρ = outX ρ ((eVar i ρ).bind (extR (f ρ))) fun d => .nx (ρ.set i (some d)) := rfl
@[simp] theorem sPutL_at (i fk fe ρ) : sPutL i fk fe ρ = outX ρ ((fe ρ).bind fun r => (eVar i ρ).bind fun d => (fk ρ).bind fun k => putL r k d) fun d => .nx (ρ.set i (some d)) := rfl
@[simp] theorem sPutK_at (i fk fe ρ) : sPutK i fk fe ρ = outX ρ ((fe ρ).bind fun r => (eVar i ρ).bind fun d => (fk ρ).bind fun k => putR r k d) fun d => .nx (ρ.set i (some d)) := rfl
@[simp] theorem runB_at (n B ds) : runB n B ds = match B (startE n ds) with
  | .rt d => .ok d
  | .nx _ => .ok .non
  | .exc x _ => .exc x
  | _ => .bad := rfl
@[simp] theorem runN_at (n B ds) : runN n B ds = match B (startE n ds) with
  | .rt d => .ok d
  | .exc x _ => .exc x
  | _ => .bad := rfl
theorem runB_rt {n B ds d} (h : B (startE n ds) = .rt d) : runB n B ds = .ok d := by rw [runB_at, h]
theorem runB_nx {n B ds ρ} (h : B (startE n ds) = .nx ρ) : runB n B ds = .ok .non := by rw [runB_at, h]
theorem runB_exc {n B ds x ρ} (h : B (startE n ds) = .exc x ρ) : runB n B ds = .exc x := by rw [runB_at, h]
theorem runN_rt {n B ds d} (h : B (startE n ds) = .rt d) : runN n B ds = .ok d := by rw [runN_at, h]
theorem runN_exc {n B ds x ρ} (h : B (startE n ds) = .exc x ρ) : runN n B ds = .exc x := by rw [runN_at, h]
@[simp] theorem startE_at (n ds) : startE n ds = ds.map some ++ List.replicate (n - ds.length) none := rfl
/-! ### expressions -/
@[simp] theorem eVar_at (i ρ) : eVar i ρ = match ρ[i]? with
  | some (some d) => .ok d
  | _ => .bad := rfl
@[simp] theorem eC_at (d ρ) : eC d ρ = .ok d := rfl
@[simp] theorem eBin_at (op fa fb ρ) : eBin op fa fb ρ = (fa ρ).bind fun a => (fb ρ).bind fun b => .ofO (op a b) := rfl
@[simp] theorem eCB_at (op fa ρ) : eCB op fa ρ = (fa ρ).bind fun ds => .ofO (op ds) := rfl
@[simp] theorem eCall_at (n G fa ρ) : eCall n G fa ρ = (fa ρ).bind (arN n G) := rfl
@[simp] theorem eCallL_at (n G fa ρ) : eCallL n G fa ρ = (fa ρ).bind fun ds => flatR (arN n G ds) := rfl
@[simp] theorem eCall0_at (G ρ) : eCall0 G ρ = match arN 0 G [] with
  | .ok d => .ok d
  | _ => .bad := rfl
@[simp] theorem arN_at (n G ds) : arN n G ds = if ds.length = n then G ds else .bad := rfl
@[simp] theorem aNil_at (ρ) : aNil ρ = .ok [] := rfl
@[simp] theorem aCons_at (fa fr ρ) : aCons fa fr ρ = (fa ρ).bind fun d => (fr ρ).bind fun ds => .ok (d :: ds) := rfl
@[simp] theorem eTup_at (fa ρ) : eTup fa ρ = (fa ρ).bind fun ds => if ds.length ≤ lim then .ok (.tup ds) else .bad := rfl
@[simp] theorem eLst_at (fa ρ) : eLst fa ρ = (fa ρ).bind fun ds => if ds.length ≤ lim then .ok (.lst ds) else .bad := rfl
@[simp] theorem eIf_at (c fa fb ρ) : eIf c fa fb ρ = (c ρ).bind fun b => if b = true then fa ρ else fb ρ := rfl
@[simp] theorem tst_at (f ρ) : tst f ρ = (f ρ).bind asB := rfl
@[simp] theorem tru_at (f ρ) : tru f ρ = (f ρ).bind fun d => .ofO (truD d) := rfl
@[simp] theorem bNot_at (f ρ) : bNot f ρ = (f ρ).bind fun b => .ok (!b) := rfl
@[simp] theorem bAnd_at (f g ρ) : bAnd f g ρ = (f ρ).bind fun b => if b = true then g ρ else .ok false := rfl
@[simp] theorem bOr_at (f g ρ) : bOr f g ρ = (f ρ).bind fun b => if b = true then .ok true else g ρ := rfl
@[simp] theorem asB_bl (b) : asB (.bl b) = .ok b := rfl
@[simp] theorem oNone_at (ρ) : oNone ρ = .ok none := rfl
@[simp] theorem oSome_at (f ρ) : oSome f ρ = (f ρ).bind asI := rfl
@[simp] theorem asI_int (i) : asI (.int i) = .ok (some i) := rfl
@[simp] theorem eSl_at (g fa fl fh ρ) : eSl g fa fl fh ρ = (fa ρ).bind fun d => (fl ρ).bind fun l => (fh ρ).bind fun h => .ofO (g d l h) := rfl
@[simp] theorem eChain_at (g g' fa fb fc ρ) : eChain g g' fa fb fc ρ = (fa ρ).bind fun a => (fb ρ).bind fun b => (Res.ofO (g a b)).bind fun k => chK k ((fc ρ).bind fun c => .ofO (g' b c)) := rfl
@[simp] theorem chK_t (r) : chK (.bl true) r = r := rfl
@[simp] theorem chK_f (r) : chK (.bl false) r = .ok (.bl false) := rfl
@[simp] theorem eBits_at (fa ρ) : eBits fa ρ = (fa ρ).bind fun d => match d with
  | .int i => .ok (.int (Builtin.Int.intBits i : Nat))
  | _ => .bad := rfl
@[simp] theorem un1_at (g fa ρ) : un1 g fa ρ = (fa ρ).bind fun d => match d with
  | .int i => .ok (.int (g i))
  | _ => .bad := rfl
theorem eAnd_at (fa fb ρ) : eAnd fa fb ρ = (fa ρ).bind fun a => match a with
  | .bl b => if b = true then fb ρ else .ok (.bl false)
  | _ => .bad := by
  unfold eAnd
  cases fa ρ with
  | ok a => cases a with
    | bl b => cases b <;> rfl
    | _ => rfl
  | _ => rfl
theorem eOr_at (fa fb ρ) : eOr fa fb ρ = (fa ρ).bind fun a => match a with
  | .bl b => if b = true then .ok (.bl true) else fb ρ
  | _ => .bad := by
  unfold eOr
  cases fa ρ with
  | ok a => cases a with
    | bl b => cases b <;> rfl
    | _ => rfl
  | _ => rfl
theorem eNot_at (fa ρ) : eNot fa ρ = (fa ρ).bind fun a => match a with
  | .bl b => .ok (.bl (!b))
  | _ => .bad := by
  unfold eNot
  cases fa ρ with
  | ok a => cases a <;> rfl
  | _ => rfl
theorem bind_ite {α β : Type} (c : Prop) [Decidable c] (a b : Res α) (g : α → Res β) : (if c then a else b).bind g = if c then a.bind g else b.bind g := by split <;> rfl
theorem bind_eq_ok {α β : Type} {r : Res α} {g : α → Res β} {a : α} {b : Res β} (h : r = .ok a) (h2 : g a = b) : r.bind g = b := by subst h; exact h2
@[simp] theorem ofO_ite {α : Type} (c : Prop) [Decidable c] (a b : Option α) : Res.ofO (if c then a else b) = if c then Res.ofO a else Res.ofO b := by split <;> rfl
/-! ### operators on ints -/
@[simp] theorem dAdd_ii (i j) : dAdd (.int i) (.int j) = some (.int (i + j)) := rfl
@[simp] theorem dAddI_ii (i j) : dAddI (.int i) (.int j) = some (.int (i + j)) := rfl
@[simp] theorem dSub_ii (i j) : dSub (.int i) (.int j) = some (.int (i - j)) := rfl
theorem dMul_ii (i j) : dMul (.int i) (.int j) = if okMul i j = true then some (.int (i * j)) else none := by
  show Option.orElse (if okMul i j = true then some (D.int (i * j)) else none) (fun _ => dRep (.int i) (.int j)) = _
  split <;> rfl
theorem dMulI_ii (i j) : dMulI (.int i) (.int j) = if okMul i j = true then some (.int (i * j)) else none := rfl
theorem dDiv_ii (i j) : dDiv (.int i) (.int j) = if okDiv i j = true then some (.int (i / j)) else none := rfl
theorem dMod_ii (i j) : dMod (.int i) (.int j) = if okMod i j = true then some (.int (i % j)) else none := rfl
theorem dPow_ii (i j) : dPow (.int i) (.int j) = if okPow i j = true then some (.int (i ^ j.toNat)) else none := rfl
theorem dShl_ii (i j) : dShl (.int i) (.int j) = if okPow i j = true then some (.int (i * 2 ^ j.toNat)) else none := rfl
theorem dShr_ii (i j) : dShr (.int i) (.int j) = if okShr i j = true then some (.int (i / 2 ^ j.toNat)) else none := rfl
@[simp] theorem dAnd_ii (i j) : dAnd (.int i) (.int j) = some (.int (Builtin.bitAnd i j)) := rfl
@[simp] theorem dOr_ii (i j) : dOr (.int i) (.int j) = some (.int (Builtin.bitOr i j)) := rfl
@[simp] theorem dXor_ii (i j) : dXor (.int i) (.int j) = some (.int (Builtin.bitXor i j)) := rfl
@[simp] theorem dLt_ii (i j) : dLt (.int i) (.int j) = some (.bl (decide (i < j))) := congrArg (fun b => some (D.bl b)) (ltI_eq i j)
@[simp] theorem dLe_ii (i j) : dLe (.int i) (.int j) = some (.bl (decide (i ≤ j))) := congrArg (fun b => some (D.bl b)) (leI_eq i j)
@[simp] theorem dGt_ii (i j) : dGt (.int i) (.int j) = some (.bl (decide (j < i))) := congrArg (fun b => some (D.bl b)) (ltI_eq j i)
@[simp] theorem dGe_ii (i j) : dGe (.int i) (.int j) = some (.bl (decide (j ≤ i))) := congrArg (fun b => some (D.bl b)) (leI_eq j i)
theorem dec_int (i j : Int) : decide (V.int i = V.int j) = decide (i = j) := by
  by_cases h : i = j
  · subst h; simp
  · rw [decide_eq_false h, decide_eq_false (fun z => h (V.int.inj z))]
@[simp] theorem dEq_ii (i j) : dEq (.int i) (.int j) = some (.bl (decide (i = j))) := by
  show Option.orElse (some (D.bl (decide (V.int i = V.int j)))) (fun _ => dEqP (.int i) (.int j)) = _
  rw [dec_int]; rfl
@[simp] theorem dNe_ii (i j) : dNe (.int i) (.int j) = some (.bl (!decide (i = j))) := by
  show Option.orElse (some (D.bl (!decide (V.int i = V.int j)))) (fun _ => dNeP (.int i) (.int j)) = _
  rw [dec_int]; rfl
theorem okMul_l {i j : Int} (h : -(2 ^ 64) < i) (h2 : i < 2 ^ 64) : okMul i j = true := by unfold okMul; rw [ble_eq, ble_eq, Bool.or_eq_true]; exact .inl (decide_eq_true (by omega))
theorem okMul_r {i j : Int} (h : -(2 ^ 64) < j) (h2 : j < 2 ^ 64) : okMul i j = true := by unfold okMul; rw [ble_eq, ble_eq, Bool.or_eq_true]; exact .inr (decide_eq_true (by omega))
theorem okDiv_i {i j : Int} (h : 0 < j) (h2 : j < 1073741824) : okDiv i j = true := by unfold okDiv; rw [ble_eq, leI_eq, Bool.and_eq_true]; exact ⟨decide_eq_true (by omega), decide_eq_true (by omega)⟩
theorem okMod_i {i j : Int} (h : 0 < j) : okMod i j = true := by unfold okMod; rw [leI_eq]; exact decide_eq_true (by omega)
theorem okShr_i {i j : Int} (h : 0 ≤ j) : okShr i j = true := by unfold okShr; rw [leI_eq]; exact decide_eq_true h
theorem okPow_i {i j : Int} (h : 0 ≤ j) (h2 : j ≤ 1000000) (h3 : i.natAbs < 2 ^ 64) : okPow i j = true := by unfold okPow; rw [ble_eq, ble_eq, leI_eq, Bool.and_eq_true, Bool.and_eq_true]; exact ⟨⟨decide_eq_true h, decide_eq_true (by omega)⟩, decide_eq_true (by omega)⟩
@[simp] theorem mod_k {i j : Int} (h : 0 < j) : dMod (.int i) (.int j) = some (.int (i % j)) := by rw [dMod_ii, if_pos (okMod_i h)]
@[simp] theorem div_k {i j : Int} (h : 0 < j) (h2 : j < 1073741824) : dDiv (.int i) (.int j) = some (.int (i / j)) := by rw [dDiv_ii, if_pos (okDiv_i h h2)]
@[simp] theorem mul_kl {i j : Int} (h : -18446744073709551616 < i) (h2 : i < 18446744073709551616) : dMul (.int i) (.int j) = some (.int (i * j)) := by rw [dMul_ii, if_pos (okMul_l h h2)]
@[simp] theorem mul_kr {i j : Int} (h : -18446744073709551616 < j) (h2 : j < 18446744073709551616) : dMul (.int i) (.int j) = some (.int (i * j)) := by rw [dMul_ii, if_pos (okMul_r h h2)]
@[simp] theorem mulI_kl {i j : Int} (h : -18446744073709551616 < i) (h2 : i < 18446744073709551616) : dMulI (.int i) (.int j) = some (.int (i * j)) := by rw [dMulI_ii, if_pos (okMul_l h h2)]
@[simp] theorem mulI_kr {i j : Int} (h : -18446744073709551616 < j) (h2 : j < 18446744073709551616) : dMulI (.int i) (.int j) = some (.int (i * j)) := by rw [dMulI_ii, if_pos (okMul_r h h2)]
theorem shr_k {i j : Int} (h : 0 ≤ j) : dShr (.int i) (.int j) = some (.int (i / 2 ^ j.toNat)) := by rw [dShr_ii, if_pos (okShr_i h)]
theorem shl_k {i j : Int} (h : 0 ≤ j) (h2 : j ≤ 1000000) (h3 : i.natAbs < 2 ^ 64) : dShl (.int i) (.int j) = some (.int (i * 2 ^ j.toNat)) := by rw [dShl_ii, if_pos (okPow_i h h2 h3)]
theorem lim_le {n : Nat} (h : n ≤ 16777216) : n ≤ lim := h
theorem lim_lt {n : Nat} (h : n < 16777216) : n < lim := h
@[simp] theorem zero_lim : 0 ≤ lim := Nat.zero_le _
@[simp] theorem zero_limt : 0 < lim := by decide
/-! ### lists -/
theorem at_nat {α : Type} {xs : List α} {i : Nat} {x : α} (h : xs[i]? = some x) : atI xs (i : Int) = some x := atI_nat h
@[simp] theorem dIx_l (ds i) : dIx (.lst ds) (.int i) = atI ds i := rfl
@[simp] theorem dIx_t (ds i) : dIx (.tup ds) (.int i) = atI ds i := rfl
@[simp] theorem dLen_l (ds) : dLen [.lst ds] = some (.int ds.length) := rfl
@[simp] theorem dLen_t (ds) : dLen [.tup ds] = some (.int ds.length) := rfl
@[simp] theorem dLen_d (ds) : dLen [.dct ds] = some (.int ds.length) := rfl
@[simp] theorem dLen_f (ds) : dLen [.frz ds] = some (.int ds.length) := rfl
@[simp] theorem dList_l (ds) : dList [.lst ds] = some (.lst ds) := rfl
@[simp] theorem dList_t (ds) : dList [.tup ds] = some (.lst ds) := rfl
@[simp] theorem dList_f (ds) : dList [.frz ds] = some (.lst (ds.map D.int)) := rfl
@[simp] theorem dInt_i (i) : dInt [.int i] = some (.int i) := rfl
@[simp] theorem dInt_b (i) : dInt [.bl i] = some (.int (if i then 1 else 0)) := rfl
@[simp] theorem dAdd_ll (a b) : dAdd (.lst a) (.lst b) = dCat (.lst a) (.lst b) := by
  show Option.orElse (dAddI (.lst a) (.lst b)) (fun _ => Option.orElse (dAddS (.lst a) (.lst b)) fun _ => dCat (.lst a) (.lst b)) = _
  rfl
theorem mapM_some {α β : Type} {f : α → Option β} {g : α → β} : ∀ {xs : List α}, (∀ x ∈ xs, f x = some (g x)) → xs.mapM f = some (xs.map g)
  | [], _ => rfl
  | x :: xs, h => by
    rw [List.mapM_cons, h x List.mem_cons_self, mapM_some fun y hy => h y (List.mem_cons_of_mem _ hy)]
    rfl
@[simp] theorem asInt_map (ns : List Int) : (ns.map D.int).mapM asInt = some ns := by
  have := mapM_some (f := asInt) (g := fun d => (asInt d).getD 0) (xs := ns.map D.int) (fun x hx => by
    obtain ⟨n, _, rfl⟩ := List.mem_map.mp hx; rfl)
  rw [this, List.map_map]
  exact congrArg some (by rw [show ((fun d => (asInt d).getD 0) ∘ D.int) = id from rfl, List.map_id])
@[simp] theorem asBl_map (ns : List Bool) : (ns.map D.bl).mapM asBl = some ns := by
  have := mapM_some (f := asBl) (g := fun d => (asBl d).getD false) (xs := ns.map D.bl) (fun x hx => by
    obtain ⟨n, _, rfl⟩ := List.mem_map.mp hx; rfl)
  rw [this, List.map_map]
  exact congrArg some (by rw [show ((fun d => (asBl d).getD false) ∘ D.bl) = id from rfl, List.map_id])
@[simp] theorem dSum_map (ns : List Int) : dSum [.lst (ns.map D.int)] = some (.int ns.sum) := by
  show ((ns.map D.int).mapM asInt).bind _ = _
  rw [asInt_map]; rfl
@[simp] theorem dAll_map (ns : List Bool) : dAll [.lst (ns.map D.bl)] = some (.bl (ns.all id)) := by
  show ((ns.map D.bl).mapM asBl).map _ = _
  rw [asBl_map]; rfl
@[simp] theorem dAnyI_map (ns : List Int) : dAnyI [.lst (ns.map D.int)] = some (.bl (ns.any fun i => i != 0)) := by
  show ((ns.map D.int).mapM asInt).bind _ = _
  rw [asInt_map]; rfl
theorem dAnyA_map (ns : List Int) : dAnyA [.lst (ns.map D.int)] = some (.bl (ns.any fun i => i != 0)) := by
  show Option.orElse (dAny [.lst (ns.map D.int)]) (fun _ => dAnyI [.lst (ns.map D.int)]) = _
  cases ns with
  | nil => rfl
  | cons n ns =>
    have e : dAny [.lst ((n :: ns).map D.int)] = none := by
      show (List.mapM asBl (.int n :: ns.map D.int)).map (fun bs => D.bl (bs.any id)) = none
      rw [List.mapM_cons]; rfl
    rw [e, dAnyI_map]; rfl
/-! ### isinstance, is -/
@[simp] theorem isi_non_int : dIsi [D.non, .raw (.ty "int")] = some (.bl false) := rfl
@[simp] theorem isi_non_bool : dIsi [D.non, .raw (.ty "bool")] = some (.bl false) := rfl
@[simp] theorem isi_non_str : dIsi [D.non, .raw (.ty "str")] = some (.bl false) := rfl
@[simp] theorem isi_non_list : dIsi [D.non, .raw (.ty "list")] = some (.bl false) := rfl
@[simp] theorem isi_non_tuple : dIsi [D.non, .raw (.ty "tuple")] = some (.bl false) := rfl
@[simp] theorem isi_non_dict : dIsi [D.non, .raw (.ty "dict")] = some (.bl false) := rfl
@[simp] theorem is_non_non : dIs D.non .non = some (.bl true) := rfl
@[simp] theorem isnot_non_non : dIsNot D.non .non = some (.bl false) := rfl
@[simp] theorem isi_bl_int (b : Bool) : dIsi [(D.bl b), .raw (.ty "int")] = some (.bl true) := rfl
@[simp] theorem isi_bl_bool (b : Bool) : dIsi [(D.bl b), .raw (.ty "bool")] = some (.bl true) := rfl
@[simp] theorem isi_bl_str (b : Bool) : dIsi [(D.bl b), .raw (.ty "str")] = some (.bl false) := rfl
@[simp] theorem isi_bl_list (b : Bool) : dIsi [(D.bl b), .raw (.ty "list")] = some (.bl false) := rfl
@[simp] theorem isi_bl_tuple (b : Bool) : dIsi [(D.bl b), .raw (.ty "tuple")] = some (.bl false) := rfl
@[simp] theorem isi_bl_dict (b : Bool) : dIsi [(D.bl b), .raw (.ty "dict")] = some (.bl false) := rfl
@[simp] theorem is_bl_non (b : Bool) : dIs (D.bl b) .non = some (.bl false) := rfl
@[simp] theorem isnot_bl_non (b : Bool) : dIsNot (D.bl b) .non = some (.bl true) := rfl
@[simp] theorem isi_int_int (b : Int) : dIsi [(D.int b), .raw (.ty "int")] = some (.bl true) := rfl
@[simp] theorem isi_int_bool (b : Int) : dIsi [(D.int b), .raw (.ty "bool")] = some (.bl false) := rfl
@[simp] theorem isi_int_str (b : Int) : dIsi [(D.int b), .raw (.ty "str")] = some (.bl false) := rfl
@[simp] theorem isi_int_list (b : Int) : dIsi [(D.int b), .raw (.ty "list")] = some (.bl false) := rfl
@[simp] theorem isi_int_tuple (b : Int) : dIsi [(D.int b), .raw (.ty "tuple")] = some (.bl false) := rfl
@[simp] theorem isi_int_dict (b : Int) : dIsi [(D.int b), .raw (.ty "dict")] = some (.bl false) := rfl
@[simp] theorem is_int_non (b : Int) : dIs (D.int b) .non = some (.bl false) := rfl
@[simp] theorem isnot_int_non (b : Int) : dIsNot (D.int b) .non = some (.bl true) := rfl
@[simp] theorem isi_str_int (b : Str) : dIsi [(D.str b), .raw (.ty "int")] = some (.bl false) := rfl
@[simp] theorem isi_str_bool (b : Str) : dIsi [(D.str b), .raw (.ty "bool")] = some (.bl false) := rfl
@[simp] theorem isi_str_str (b : Str) : dIsi [(D.str b), .raw (.ty "str")] = some (.bl true) := rfl
@[simp] theorem isi_str_list (b : Str) : dIsi [(D.str b), .raw (.ty "list")] = some (.bl false) := rfl
@[simp] theorem isi_str_tuple (b : Str) : dIsi [(D.str b), .raw (.ty "tuple")] = some (.bl false) := rfl
@[simp] theorem isi_str_dict (b : Str) : dIsi [(D.str b), .raw (.ty "dict")] = some (.bl false) := rfl
@[simp] theorem is_str_non (b : Str) : dIs (D.str b) .non = some (.bl false) := rfl
@[simp] theorem isnot_str_non (b : Str) : dIsNot (D.str b) .non = some (.bl true) := rfl
@[simp] theorem isi_lst_int (b : List D) : dIsi [(D.lst b), .raw (.ty "int")] = some (.bl false) := rfl
@[simp] theorem isi_lst_bool (b : List D) : dIsi [(D.lst b), .raw (.ty "bool")] = some (.bl false) := rfl
@[simp] theorem isi_lst_str (b : List D) : dIsi [(D.lst b), .raw (.ty "str")] = some (.bl false) := rfl
@[simp] theorem isi_lst_list (b : List D) : dIsi [(D.lst b), .raw (.ty "list")] = some (.bl true) := rfl
@[simp] theorem isi_lst_tuple (b : List D) : dIsi [(D.lst b), .raw (.ty "tuple")] = some (.bl false) := rfl
@[simp] theorem isi_lst_dict (b : List D) : dIsi [(D.lst b), .raw (.ty "dict")] = some (.bl false) := rfl
@[simp] theorem is_lst_non (b : List D) : dIs (D.lst b) .non = some (.bl false) := rfl
@[simp] theorem isnot_lst_non (b : List D) : dIsNot (D.lst b) .non = some (.bl true) := rfl
@[simp] theorem isi_tup_int (b : List D) : dIsi [(D.tup b), .raw (.ty "int")] = some (.bl false) := rfl
@[simp] theorem isi_tup_bool (b : List D) : dIsi [(D.tup b), .raw (.ty "bool")] = some (.bl false) := rfl
@[simp] theorem isi_tup_str (b : List D) : dIsi [(D.tup b), .raw (.ty "str")] = some (.bl false) := rfl
@[simp] theorem isi_tup_list (b : List D) : dIsi [(D.tup b), .raw (.ty "list")] = some (.bl false) := rfl
@[simp] theorem isi_tup_tuple (b : List D) : dIsi [(D.tup b), .raw (.ty "tuple")] = some (.bl true) := rfl
@[simp] theorem isi_tup_dict (b : List D) : dIsi [(D.tup b), .raw (.ty "dict")] = some (.bl false) := rfl
@[simp] theorem is_tup_non (b : List D) : dIs (D.tup b) .non = some (.bl false) := rfl
@[simp] theorem isnot_tup_non (b : List D) : dIsNot (D.tup b) .non = some (.bl true) := rfl
@[simp] theorem isi_dct_int (b : List (Key × D)) : dIsi [(D.dct b), .raw (.ty "int")] = some (.bl false) := rfl
@[simp] theorem isi_dct_bool (b : List (Key × D)) : dIsi [(D.dct b), .raw (.ty "bool")] = some (.bl false) := rfl
@[simp] theorem isi_dct_str (b : List (Key × D)) : dIsi [(D.dct b), .raw (.ty "str")] = some (.bl false) := rfl
@[simp] theorem isi_dct_list (b : List (Key × D)) : dIsi [(D.dct b), .raw (.ty "list")] = some (.bl false) := rfl
@[simp] theorem isi_dct_tuple (b : List (Key × D)) : dIsi [(D.dct b), .raw (.ty "tuple")] = some (.bl false) := rfl
@[simp] theorem isi_dct_dict (b : List (Key × D)) : dIsi [(D.dct b), .raw (.ty "dict")] = some (.bl true) := rfl
@[simp] theorem is_dct_non (b : List (Key × D)) : dIs (D.dct b) .non = some (.bl false) := rfl
@[simp] theorem isnot_dct_non (b : List (Key × D)) : dIsNot (D.dct b) .non = some (.bl true) := rfl
@[simp] theorem is_bb (a b : Bool) : dIs (.bl a) (.bl b) = some (.bl (decide (a = b))) := rfl
@[simp] theorem isnot_bb (a b : Bool) : dIsNot (.bl a) (.bl b) = some (.bl (!decide (a = b))) := rfl
@[simp] theorem truD_bl (b : Bool) : truD (.bl b) = some b := rfl
@[simp] theorem truD_lst (b : List D) : truD (.lst b) = some (!b.isEmpty) := rfl
@[simp] theorem eAnd_s (fa fb ρ) : eAnd fa fb ρ = (fa ρ).bind fun a => match a with
  | .bl b => if b = true then fb ρ else .ok (.bl false)
  | _ => .bad := eAnd_at _ _ _
@[simp] theorem eOr_s (fa fb ρ) : eOr fa fb ρ = (fa ρ).bind fun a => match a with
  | .bl b => if b = true then .ok (.bl true) else fb ρ
  | _ => .bad := eOr_at _ _ _
@[simp] theorem eNot_s (fa ρ) : eNot fa ρ = (fa ρ).bind fun a => match a with
  | .bl b => .ok (.bl (!b))
  | _ => .bad := eNot_at _ _
@[simp] theorem dEq_ss (x y : Str) : dEq (.str x) (.str y) = some (.bl (decide (x = y))) := by
  show Option.orElse (some (D.bl (decide (V.str x = V.str y)))) (fun _ => dEqP (.str x) (.str y)) = _
  have : decide (V.str x = V.str y) = decide (x = y) := by
    by_cases h : x = y
    · subst h; simp
    · rw [decide_eq_false h, decide_eq_false (fun z => h (V.str.inj z))]
  rw [this]; rfl
@[simp] theorem dEq_bb (x y : Bool) : dEq (.bl x) (.bl y) = some (.bl (decide (x = y))) := by
  show Option.orElse (some (D.bl (decide (V.bl x = V.bl y)))) (fun _ => dEqP (.bl x) (.bl y)) = _
  have : decide (V.bl x = V.bl y) = decide (x = y) := by
    by_cases h : x = y
    · subst h; simp
    · rw [decide_eq_false h, decide_eq_false (fun z => h (V.bl.inj z))]
  rw [this]; rfl

/-! ### comprehensions -/
theorem compL_map {α : Type} {b : BF} {c : En → Res Bool} {e : En → Res D} {ρ : En} (f g : α → D) : ∀ {xs : List α}, (∀ x ∈ xs, ∃ ρ1, b (f x) ρ = some ρ1 ∧ c ρ1 = .ok true ∧ e ρ1 = .ok (g x)) → compL b c e ρ (xs.map f) = .ok (xs.map g)
  | [], _ => rfl
  | x :: xs, h => by
    obtain ⟨ρ1, h1, h2, h3⟩ := h x List.mem_cons_self
    rw [List.map_cons, List.map_cons, compL, h1]
    simp only [Res.ofO_some, Res.bind_ok, h2, noX, if_true, h3, compL_map f g fun y hy => h y (List.mem_cons_of_mem _ hy)]
theorem compL_filter {α : Type} {b : BF} {c : En → Res Bool} {e : En → Res D} {ρ : En} (f g : α → D) (p : α → Bool) : ∀ {xs : List α}, (∀ x ∈ xs, ∃ ρ1, b (f x) ρ = some ρ1 ∧ c ρ1 = .ok (p x) ∧ (p x = true → e ρ1 = .ok (g x))) → compL b c e ρ (xs.map f) = .ok ((xs.filter p).map g)
  | [], _ => rfl
  | x :: xs, h => by
    obtain ⟨ρ1, h1, h2, h3⟩ := h x List.mem_cons_self
    have ih := compL_filter f g p fun y hy => h y (List.mem_cons_of_mem _ hy)
    rw [List.map_cons, compL, h1]
    cases q : p x with
    | true => simp only [Res.ofO_some, Res.bind_ok, h2, q, noX, if_true, h3 q, ih, List.filter_cons, List.map_cons]
    | false =>
      simp only [Res.ofO_some, Res.bind_ok, h2, q, noX, Bool.false_eq_true, if_false, ih, List.filter_cons]
theorem eComp_map {α : Type} {F : En → Res (List D)} {b : BF} {c : En → Res Bool} {e : En → Res D} {vs : List Nat} {ρ : En} (xs : List α) (f g : α → D) (h1 : F ρ = .ok (xs.map f)) (h2 : xs.length < lim) (h : ∀ x ∈ xs, ∃ ρ1, b (f x) (wipeE ρ vs) = some ρ1 ∧ c ρ1 = .ok true ∧ e ρ1 = .ok (g x)) :
    eComp F b c e vs ρ = .ok (.lst (xs.map g)) := by
  unfold eComp
  rw [h1, Res.bind_ok, if_pos (by rw [List.length_map]; exact h2), compL_map f g h]; rfl
theorem eComp_filter {α : Type} {F : En → Res (List D)} {b : BF} {c : En → Res Bool} {e : En → Res D} {vs : List Nat} {ρ : En} (xs : List α) (f g : α → D) (p : α → Bool) (h1 : F ρ = .ok (xs.map f)) (h2 : xs.length < lim) (h : ∀ x ∈ xs, ∃ ρ1, b (f x) (wipeE ρ vs) = some ρ1 ∧ c ρ1 = .ok (p x) ∧ (p x = true → e ρ1 = .ok (g x))) :
    eComp F b c e vs ρ = .ok (.lst ((xs.filter p).map g)) := by
  unfold eComp
  rw [h1, Res.bind_ok, if_pos (by rw [List.length_map]; exact h2), compL_filter f g p h]; rfl
@[simp] theorem cYes_at (ρ) : cYes ρ = .ok true := rfl
@[simp] theorem bName_at (i d ρ) : bName i d ρ = some (ρ.set i (some d)) := rfl
@[simp] theorem bTup_at (n bs ds ρ) : bTup n bs (.tup ds) ρ = if ds.length = n then bs ds ρ else none := by unfold bTup; rfl
@[simp] theorem bNil_at (ρ) : bNil [] ρ = some ρ := rfl
@[simp] theorem bCons_at (b bs d ds ρ) : bCons b bs (d :: ds) ρ = (b d ρ).bind (bs ds) := by show (b d ρ).bind (fun ρ1 => bs ds ρ1) = _; rfl
@[simp] theorem iSeq_at (f ρ) : iSeq f ρ = (f ρ).bind fun d => .ofO (itemsD d) := rfl
@[simp] theorem itemsD_l (ds) : itemsD (.lst ds) = some ds := rfl
@[simp] theorem itemsD_t (ds) : itemsD (.tup ds) = some ds := rfl
@[simp] theorem iRange_at (f ρ) : iRange f ρ = (f ρ).bind fun ds => .ofO (rangeD ds) := rfl
theorem rangeD_1 {j : Int} (h : ok62 j = true) : rangeD [.int j] = some (rngD 0 j.toNat) := by unfold rangeD; simp only [h, if_true]
theorem rangeD_2 {i j : Int} (h0 : ok62 i = true) (h : ok62 j = true) : rangeD [.int i, .int j] = some (rngD i (j - i).toNat) := if_pos ⟨h0, h⟩
theorem ok62_i {i : Int} (h : -(2 ^ 62) < i) (h2 : i < 2 ^ 62) : ok62 i = true := by unfold ok62; rw [ble_eq]; exact decide_eq_true (by omega)
@[simp] theorem iZipD_at (fa fb ρ) : iZipD fa fb ρ = (fa ρ).bind fun a => (fb ρ).bind fun b => .ofO ((listD a).bind fun xs => (listD b).map fun ys => zipD xs ys) := rfl
@[simp] theorem iEnumD_at (fa ρ) : iEnumD fa ρ = (fa ρ).bind fun a => .ofO ((listD a).map (enumD 0)) := rfl
@[simp] theorem listD_l (ds) : listD (.lst ds) = some ds := rfl
/-! ### loops -/
/-- what a loop leads to, by an invariant over the place -/
theorem for_rule {α : Type} {b : BF} {B : SF} (f : α → D) (I : Nat → En → Prop) (O : Out → Prop) {xs : List α}
    (step : ∀ i x ρ, xs[i]? = some x → I i ρ → ∃ ρ1, b (f x) ρ = some ρ1 ∧ ((∃ ρ2, (B ρ1 = .nx ρ2 ∨ B ρ1 = .ct ρ2) ∧ I (i + 1) ρ2) ∨ (∃ ρ2, B ρ1 = .bk ρ2 ∧ O (.nx ρ2)) ∨ (∃ d, B ρ1 = .rt d ∧ O (.rt d)) ∨ ∃ x ρ2, B ρ1 = .exc x ρ2 ∧ O (.exc x ρ2)))
    (hend : ∀ ρ, I xs.length ρ → O (.nx ρ)) {ρ : En} (h0 : I 0 ρ) : O (forD b B (xs.map f) ρ) := by
  have go : ∀ (ys : List α) (k : Nat) (ρ : En), xs.drop k = ys → k ≤ xs.length → I k ρ → O (forD b B (ys.map f) ρ) := by
    intro ys
    induction ys with
    | nil =>
      intro k ρ hk hkl hI
      have hl := congrArg List.length hk
      rw [List.length_drop, List.length_nil] at hl
      have z : k = xs.length := by omega
      subst z; exact hend ρ hI
    | cons x ys ih =>
      intro k ρ hk hkl hI
      have hx : xs[k]? = some x := by
        have := congrArg (fun l => l[0]?) hk
        simpa using this
      have hkl2 : k + 1 ≤ xs.length := (List.getElem?_eq_some_iff.mp hx).1
      obtain ⟨ρ1, hb, hB⟩ := step k x ρ hx hI
      have ht : xs.drop (k + 1) = ys := by
        rw [← List.drop_drop, hk]; rfl
      rw [List.map_cons, forD_cons hb]
      rcases hB with ⟨ρ2, h | h, hI2⟩ | ⟨ρ2, h, hO⟩ | ⟨d, h, hO⟩ | ⟨z, ρ2, h, hO⟩
      · rw [h]; exact ih (k + 1) ρ2 ht hkl2 hI2
      · rw [h]; exact ih (k + 1) ρ2 ht hkl2 hI2
      · rw [h]; exact hO
      · rw [h]; exact hO
      · rw [h]; exact hO
  exact go xs 0 ρ rfl (Nat.zero_le _) h0
end Dl

/-! The data layer, part 12: the two defs that stand in every law's text. -/
namespace Dl
open PySem L2
def numB : SF := (sSeq (sSet 3 (eBin dMul (eC (.int 1000003)) (eBin dAdd (eVar 1) (eC (.int 1)))))
  (sSeq (sIf (tst (eBin dLt (eVar 1) (eCB dLen (aCons (eVar 0) aNil))))
  (sSet 3 (eCB dInt (aCons (eBin dIx (eVar 0) (eVar 1)) aNil)))
  sNop)
  (sSeq (sIf (tst (eBin dLt (eVar 3) (eC (.int 0))))
  (sSet 3 (eBin dSub (eC (.int 1)) (eBin dMul (eC (.int 2)) (eVar 3))))
  sNop)
  (sSeq (sSet 4 (eLst aNil))
  (sSeq (sFor (iRange (aCons (eVar 2) aNil)) (bName 5)
  (sIf (tst (eBin dGe (eVar 3) (eBin dPow (eC (.int 10)) (eC (.int 18)))))
  (sSeq (sApp 4 (eBin dMod (eVar 3) (eC (.int 1009))))
  (sSet 3 (eBin dDiv (eVar 3) (eC (.int 1009)))))
  (sSeq (sSet 6 (eBin dMod (eBin dAdd (eBin dAdd (eBin dMul (eVar 3) (eC (.int 48271))) (eBin dMul (eBin dAdd (eVar 5) (eC (.int 1))) (eC (.int 69621)))) (eBin dMul (eVar 1) (eC (.int 4001)))) (eC (.int 2147483647))))
  (sSeq (sSet 6 (eBin dMod (eBin dAdd (eBin dMul (eVar 6) (eVar 6)) (eBin dMul (eC (.int 16807)) (eBin dAdd (eVar 5) (eC (.int 3))))) (eC (.int 2147483629))))
  (sApp 4 (eBin dMod (eBin dDiv (eVar 6) (eC (.int 7))) (eC (.int 1009))))))))
  (sRet (eVar 4)))))))
def numF : List D → Res D := runN 7 numB
theorem p1018 : dPow (.int 10) (.int 18) = some (.int 1000000000000000000) := by rw [dPow_ii, if_pos (by decide)]; rfl
theorem dIx_f (ns i) : dIx (.frz ns) (.int i) = (atI ns i).map D.int := rfl
theorem cell_go (ns : List Int) (a : Nat) (ρ0 : En) (c : D) : ∃ cell : Int, (sSeq (sSet 3 (eBin dMul (eC (.int 1000003)) (eBin dAdd (eVar 1) (eC (.int 1)))))
  (sSeq (sIf (tst (eBin dLt (eVar 1) (eCB dLen (aCons (eVar 0) aNil))))
  (sSet 3 (eCB dInt (aCons (eBin dIx (eVar 0) (eVar 1)) aNil)))
  sNop)
  (sSeq (sIf (tst (eBin dLt (eVar 3) (eC (.int 0))))
  (sSet 3 (eBin dSub (eC (.int 1)) (eBin dMul (eC (.int 2)) (eVar 3))))
  sNop) (sSet 4 (eLst aNil))))) [some (.frz ns), some (.int (a : Int)), some c, none, none, none, none] = .nx [some (.frz ns), some (.int (a : Int)), some c, some (.int cell), some (.lst []), none, none] := by
  have key : ∀ z : Int, ∃ cell : Int, (sSeq (sIf (tst (eBin dLt (eVar 3) (eC (.int 0))))
  (sSet 3 (eBin dSub (eC (.int 1)) (eBin dMul (eC (.int 2)) (eVar 3))))
  sNop) (sSet 4 (eLst aNil))) [some (.frz ns), some (.int (a : Int)), some c, some (.int z), none, none, none] = .nx [some (.frz ns), some (.int (a : Int)), some c, some (.int cell), some (.lst []), none, none] := fun z => by
    by_cases h : z < 0
    · exact ⟨1 - 2 * z, by simp [h]⟩
    · exact ⟨z, by simp [h]⟩
  have s1 : sSet 3 (eBin dMul (eC (.int 1000003)) (eBin dAdd (eVar 1) (eC (.int 1)))) [some (.frz ns), some (.int (a : Int)), some c, none, none, none, none] = .nx [some (.frz ns), some (.int (a : Int)), some c, some (.int (1000003 * ((a : Int) + 1))), none, none, none] := by simp
  rw [sSeq_at, s1, then_nx, sSeq_at]
  generalize 1000003 * ((a : Int) + 1) = z
  by_cases h : a < ns.length
  · obtain ⟨cell, hc⟩ := key ns[a]
    have e : dIx (.frz ns) (.int (a : Int)) = some (.int ns[a]) := by
      rw [dIx_f, at_nat (List.getElem?_eq_getElem h)]; rfl
    have h' : (a : Int) < (ns.length : Int) := by omega
    have s2 : (sIf (tst (eBin dLt (eVar 1) (eCB dLen (aCons (eVar 0) aNil)))) (sSet 3 (eCB dInt (aCons (eBin dIx (eVar 0) (eVar 1)) aNil))) sNop) [some (.frz ns), some (.int (a : Int)), some c, some (.int z), none, none, none] = .nx [some (.frz ns), some (.int (a : Int)), some c, some (.int ns[a]), none, none, none] := by simp [h', e]
    rw [s2, then_nx]
    exact ⟨cell, hc⟩
  · obtain ⟨cell, hc⟩ := key z
    have h' : ¬ (a : Int) < (ns.length : Int) := by omega
    have s2 : (sIf (tst (eBin dLt (eVar 1) (eCB dLen (aCons (eVar 0) aNil)))) (sSet 3 (eCB dInt (aCons (eBin dIx (eVar 0) (eVar 1)) aNil))) sNop) [some (.frz ns), some (.int (a : Int)), some c, some (.int z), none, none, none] = .nx [some (.frz ns), some (.int (a : Int)), some c, some (.int z), none, none, none] := by simp [h']
    rw [s2, then_nx]
    exact ⟨cell, hc⟩
theorem seqA (F G H : SF) : sSeq (sSeq F G) H = sSeq F (sSeq G H) := funext fun ρ => by
  simp only [sSeq_at]
  cases F ρ <;> rfl
theorem rngD_map (lo : Int) (n : Nat) : rngD lo n = (List.range n).map fun k : Nat => D.int (lo + k) := rfl

abbrev numE (ns : List Int) (a c : Nat) (cell : Int) (rs : List Int) (x y : Option D) : En := [some (.frz ns), some (.int (a : Int)), some (.int (c : Int)), some (.int cell), some (.lst (rs.map D.int)), x, y]
def numS1 : SF := sSet 6 (eBin dMod (eBin dAdd (eBin dAdd (eBin dMul (eVar 3) (eC (.int 48271))) (eBin dMul (eBin dAdd (eVar 5) (eC (.int 1))) (eC (.int 69621)))) (eBin dMul (eVar 1) (eC (.int 4001)))) (eC (.int 2147483647)))
def numS2 : SF := sSet 6 (eBin dMod (eBin dAdd (eBin dMul (eVar 6) (eVar 6)) (eBin dMul (eC (.int 16807)) (eBin dAdd (eVar 5) (eC (.int 3))))) (eC (.int 2147483629)))
def numS3 : SF := sApp 4 (eBin dMod (eBin dDiv (eVar 6) (eC (.int 7))) (eC (.int 1009)))
def numA : SF := sSeq (sApp 4 (eBin dMod (eVar 3) (eC (.int 1009)))) (sSet 3 (eBin dDiv (eVar 3) (eC (.int 1009))))
def numC : En → Res Bool := tst (eBin dGe (eVar 3) (eBin dPow (eC (.int 10)) (eC (.int 18))))
theorem numS1_at (ns : List Int) (a c : Nat) (cell : Int) (rs : List Int) (x : Nat) (y : Option D) : numS1 (numE ns a c cell rs (some (.int (x : Int))) y) = .nx (numE ns a c cell rs (some (.int (x : Int))) (some (.int ((cell * 48271 + ((x : Int) + 1) * 69621 + (a : Int) * 4001) % 2147483647)))) := by
  simp [numS1]
theorem numS2_at (ns : List Int) (a c : Nat) (cell : Int) (rs : List Int) (x : Nat) (m : Int) (h1 : -18446744073709551616 < m) (h2 : m < 18446744073709551616) : numS2 (numE ns a c cell rs (some (.int (x : Int))) (some (.int m))) = .nx (numE ns a c cell rs (some (.int (x : Int))) (some (.int ((m * m + 16807 * ((x : Int) + 3)) % 2147483629)))) := by
  simp [numS2, h1, h2]
theorem numS3_at (ns : List Int) (a c : Nat) (cell : Int) (rs : List Int) (x : Nat) (m : Int) (h : rs.length < lim) : numS3 (numE ns a c cell rs (some (.int (x : Int))) (some (.int m))) = .nx (numE ns a c cell (rs ++ [m / 7 % 1009]) (some (.int (x : Int))) (some (.int m))) := by
  simp [numS3, h]
theorem numA_at (ns : List Int) (a c : Nat) (cell : Int) (rs : List Int) (x y : Option D) (h : rs.length < lim) : numA (numE ns a c cell rs x y) = .nx (numE ns a c (cell / 1009) (rs ++ [cell % 1009]) x y) := by
  simp [numA, h]
theorem numC_at (ns : List Int) (a c : Nat) (cell : Int) (rs : List Int) (x y : Option D) : ∃ k, numC (numE ns a c cell rs x y) = .ok k :=
  ⟨decide (1000000000000000000 ≤ cell), by simp [numC, p1018]⟩
theorem num_body (ns : List Int) (a c : Nat) (cell : Int) (rs : List Int) (x : Nat) (y : Option D) (h : rs.length < lim) : ∃ cell' r y', sIf numC numA (sSeq numS1 (sSeq numS2 numS3)) (numE ns a c cell rs (some (.int (x : Int))) y) = .nx (numE ns a c cell' (rs ++ [r]) (some (.int (x : Int))) y') ∧ 0 ≤ r ∧ r < 1009 := by
  obtain ⟨k, hk⟩ := numC_at ns a c cell rs (some (.int (x : Int))) y
  rw [sIf_at, hk, outX_ok]
  cases k with
  | true =>
    rw [if_pos rfl, numA_at _ _ _ _ _ _ _ h]
    exact ⟨_, _, _, rfl, Int.emod_nonneg _ (by decide), Int.emod_lt_of_pos _ (by decide)⟩
  | false =>
    rw [if_neg Bool.false_ne_true, sSeq_at, numS1_at, then_nx, sSeq_at]
    have e1 := Int.emod_nonneg (cell * 48271 + ((x : Int) + 1) * 69621 + (a : Int) * 4001) (b := 2147483647) (by decide)
    have e2 := Int.emod_lt_of_pos (cell * 48271 + ((x : Int) + 1) * 69621 + (a : Int) * 4001) (b := 2147483647) (by decide)
    generalize (cell * 48271 + ((x : Int) + 1) * 69621 + (a : Int) * 4001) % 2147483647 = m at e1 e2
    rw [numS2_at _ _ _ _ _ _ _ (by omega) (by omega), then_nx, numS3_at _ _ _ _ _ _ _ h]
    exact ⟨_, _, _, rfl, Int.emod_nonneg _ (by decide), Int.emod_lt_of_pos _ (by decide)⟩
theorem num_ok (ns : List Int) (a c : Nat) (hc : c < 1000000) : ∃ rs : List Int, rs.length = c ∧ (∀ r ∈ rs, 0 ≤ r ∧ r < 1009) ∧ numF [.frz ns, .int (a : Int), .int (c : Int)] = .ok (.lst (rs.map D.int)) := by
  obtain ⟨cell, h0⟩ := cell_go ns a [] (.int (c : Int))
  let I : Nat → En → Prop := fun i ρ => ∃ (cell : Int) (rs : List Int) (x y : Option D), ρ = numE ns a c cell rs x y ∧ rs.length = i ∧ ∀ r ∈ rs, 0 ≤ r ∧ r < 1009
  let O : Out → Prop := fun o => ∃ ρ, o = .nx ρ ∧ I c ρ
  have hl : O (sFor (iRange (aCons (eVar 2) aNil)) (bName 5) (sIf numC numA (sSeq numS1 (sSeq numS2 numS3))) (numE ns a c cell [] none none)) := by
    have er : rangeD [.int (c : Int)] = some ((List.range c).map fun k : Nat => D.int (k : Int)) := by
      rw [rangeD_1 (ok62_i (by omega) (by omega)), rngD_map]
      simp
    have ei : iRange (aCons (eVar 2) aNil) (numE ns a c cell [] none none) = .ok ((List.range c).map fun k : Nat => D.int (k : Int)) := by
      show Res.ofO (rangeD [.int (c : Int)]) = _
      rw [er]; rfl
    rw [sFor_at, ei, outX_ok]
    refine for_rule (fun k : Nat => D.int (k : Int)) I O (fun i x ρ hx hI => ?_) (fun ρ hI => ⟨ρ, rfl, by rw [List.length_range] at hI; exact hI⟩) ⟨cell, [], none, none, rfl, rfl, fun _ h => nomatch h⟩
    obtain ⟨cell, rs, x1, y1, rfl, hlen, hb⟩ := hI
    have hi : i < c := by
      have := (List.getElem?_eq_some_iff.mp hx).1
      rwa [List.length_range] at this
    obtain ⟨cell', r, y', hB, r1, r2⟩ := num_body ns a c cell rs x y1 (lim_lt (by omega))
    refine ⟨_, rfl, .inl ⟨_, .inl hB, _, _, _, _, rfl, by simp [hlen], fun q hq => ?_⟩⟩
    rcases List.mem_append.mp hq with hq | hq
    · exact hb q hq
    · rw [List.mem_singleton.mp hq]; exact ⟨r1, r2⟩
  obtain ⟨ρ, ho, cell', rs, x, y, rfl, hlen, hb⟩ := hl
  refine ⟨rs, hlen, hb, runN_rt ?_⟩
  have hs : numB = sSeq (sSeq (sSet 3 (eBin dMul (eC (.int 1000003)) (eBin dAdd (eVar 1) (eC (.int 1)))))
  (sSeq (sIf (tst (eBin dLt (eVar 1) (eCB dLen (aCons (eVar 0) aNil))))
  (sSet 3 (eCB dInt (aCons (eBin dIx (eVar 0) (eVar 1)) aNil)))
  sNop)
  (sSeq (sIf (tst (eBin dLt (eVar 3) (eC (.int 0))))
  (sSet 3 (eBin dSub (eC (.int 1)) (eBin dMul (eC (.int 2)) (eVar 3))))
  sNop) (sSet 4 (eLst aNil))))) (sSeq (sFor (iRange (aCons (eVar 2) aNil)) (bName 5) (sIf numC numA (sSeq numS1 (sSeq numS2 numS3)))) (sRet (eVar 4))) := by simp only [seqA]; rfl
  have e : startE 7 [D.frz ns, .int (a : Int), .int (c : Int)] = [some (.frz ns), some (.int (a : Int)), some (.int (c : Int)), none, none, none, none] := rfl
  rw [e, hs, sSeq_at, h0, then_nx, sSeq_at]
  show (sFor (iRange (aCons (eVar 2) aNil)) (bName 5) (sIf numC numA (sSeq numS1 (sSeq numS2 numS3))) (numE ns a c cell [] none none)).then _ = _
  rw [ho, then_nx]
  rfl
/-! ### _law_same -/
def sameB (F__law_same : List D → Res D) : SF := (sSeq (sIf (tst (eBin dIs (eVar 1) (eC .non)))
  (sRet (eBin dIs (eVar 0) (eC .non)))
  sNop)
  (sSeq (sIf (tru (eCB dIsi (aCons (eVar 1) (aCons (eC (.raw (.ty "bool"))) aNil))))
  (sRet (eAnd (eCB dIsi (aCons (eVar 0) (aCons (eC (.raw (.ty "bool"))) aNil))) (eBin dEq (eVar 0) (eVar 1))))
  sNop)
  (sSeq (sIf (tru (eCB dIsi (aCons (eVar 1) (aCons (eC (.raw (.ty "int"))) aNil))))
  (sRet (eAnd (eCB dIsi (aCons (eVar 0) (aCons (eC (.raw (.ty "int"))) aNil))) (eAnd (eNot (eCB dIsi (aCons (eVar 0) (aCons (eC (.raw (.ty "bool"))) aNil)))) (eBin dEq (eVar 0) (eVar 1)))))
  sNop)
  (sSeq (sIf (tru (eCB dIsi (aCons (eVar 1) (aCons (eC (.raw (.ty "str"))) aNil))))
  (sRet (eAnd (eCB dIsi (aCons (eVar 0) (aCons (eC (.raw (.ty "str"))) aNil))) (eBin dEq (eVar 0) (eVar 1))))
  sNop)
  (sSeq (sIf (bOr (bAnd (tru (eCB dIsi (aCons (eVar 1) (aCons (eC (.raw (.ty "list"))) aNil)))) (bNot (tru (eCB dIsi (aCons (eVar 0) (aCons (eC (.raw (.ty "list"))) aNil)))))) (bAnd (tru (eCB dIsi (aCons (eVar 1) (aCons (eC (.raw (.ty "tuple"))) aNil)))) (bNot (tru (eCB dIsi (aCons (eVar 0) (aCons (eC (.raw (.ty "tuple"))) aNil)))))))
  (sRet (eC (.bl false)))
  sNop)
  (sSeq (sIf (tst (eBin dNe (eCB dLen (aCons (eVar 0) aNil)) (eCB dLen (aCons (eVar 1) aNil))))
  (sRet (eC (.bl false)))
  sNop)
  (sSeq (sFor (iRange (aCons (eCB dLen (aCons (eVar 1) aNil)) aNil)) (bName 2)
  (sIf (bNot (tru (eCall 2 F__law_same (aCons (eBin dIx (eVar 0) (eVar 2)) (aCons (eBin dIx (eVar 1) (eVar 2)) aNil)))))
  (sRet (eC (.bl false)))
  sNop))
  (sRet (eC (.bl true))))))))))
def sameF : Nat → List D → Res D
  | 0 => fun _ => .bad
  | n + 1 => runB 3 (sameB (sameF n))

def okS : Nat → D → Bool
  | _ + 1, .non => true
  | _ + 1, .bl _ => true
  | _ + 1, .int _ => true
  | _ + 1, .str _ => true
  | n + 1, .lst ds => decide (ds.length < 1000000) && ds.all (okS n)
  | n + 1, .tup ds => decide (ds.length < 1000000) && ds.all (okS n)
  | _, _ => false
theorem same_seq (F : List D → Res D) (ds : List D) (hl : ds.length < 1000000) (h : ∀ d ∈ ds, F [d, d] = .ok (.bl true)) (d : D) (hd : d = .lst ds ∨ d = .tup ds) :
    (sSeq (sFor (iRange (aCons (eCB dLen (aCons (eVar 1) aNil)) aNil)) (bName 2)
  (sIf (bNot (tru (eCall 2 F (aCons (eBin dIx (eVar 0) (eVar 2)) (aCons (eBin dIx (eVar 1) (eVar 2)) aNil)))))
  (sRet (eC (.bl false)))
  sNop))
  (sRet (eC (.bl true)))) [some d, some d, none] = .rt (.bl true) := by
  have hlen : dLen [d] = some (.int ds.length) := by rcases hd with rfl | rfl <;> rfl
  have hix : ∀ i : Int, dIx d (.int i) = atI ds i := fun i => by rcases hd with rfl | rfl <;> rfl
  have er : rangeD [.int (ds.length : Int)] = some ((List.range ds.length).map fun k : Nat => D.int (k : Int)) := by
    rw [rangeD_1 (ok62_i (by omega) (by omega)), rngD_map]
    simp
  have ei : iRange (aCons (eCB dLen (aCons (eVar 1) aNil)) aNil) [some d, some d, none] = .ok ((List.range ds.length).map fun k : Nat => D.int (k : Int)) := by
    show ((Res.ofO (dLen [d])).bind fun z => (Res.ok [z])).bind (fun ds => .ofO (rangeD ds)) = _
    rw [hlen]
    show Res.ofO (rangeD [.int (ds.length : Int)]) = _
    rw [er]; rfl
  rw [sSeq_at, sFor_at, ei, outX_ok]
  have hO : ∃ x, forD (bName 2) (sIf (bNot (tru (eCall 2 F (aCons (eBin dIx (eVar 0) (eVar 2)) (aCons (eBin dIx (eVar 1) (eVar 2)) aNil)))))
  (sRet (eC (.bl false)))
  sNop) ((List.range ds.length).map fun k : Nat => D.int (k : Int)) [some d, some d, none] = .nx [some d, some d, x] := by
    refine for_rule (fun k : Nat => D.int (k : Int)) (fun _ ρ => ∃ x, ρ = [some d, some d, x]) (fun o => ∃ x, o = .nx [some d, some d, x]) (fun i k ρ hk hI => ?_) (fun ρ ⟨x, e⟩ => ⟨x, by rw [e]⟩) ⟨none, rfl⟩
    obtain ⟨x, rfl⟩ := hI
    have hk' : k < ds.length := by
      have := List.mem_of_getElem? hk
      exact List.mem_range.mp this
    refine ⟨_, rfl, .inl ⟨[some d, some d, some (.int (k : Int))], .inl ?_, _, rfl⟩⟩
    have e1 : atI ds (k : Int) = some ds[k] := at_nat (List.getElem?_eq_getElem hk')
    have e2 := h ds[k] (List.getElem_mem hk')
    simp [hix, e1, e2, truD]
  obtain ⟨x, hx⟩ := hO
  rw [hx]; rfl
theorem same_refl : ∀ (n : Nat) (d : D), okS n d = true → sameF n [d, d] = .ok (.bl true)
  | 0, d, h => by cases d <;> cases h
  | n + 1, d, h => by
    refine runB_rt ?_
    show sameB (sameF n) [some d, some d, none] = _
    unfold sameB
    cases d with
    | non => simp
    | bl b => simp
    | int b => simp
    | str b => simp
    | lst ds =>
      have h' : (decide (ds.length < 1000000) && ds.all (okS n)) = true := h
      rw [Bool.and_eq_true, decide_eq_true_eq, List.all_eq_true] at h'
      have := same_seq (sameF n) ds h'.1 (fun d hd => same_refl n d (h'.2 d hd)) (.lst ds) (.inl rfl)
      rw [sSeq_at] at this
      simpa [-sFor_at, -bTup_at] using this
    | tup ds =>
      have h' : (decide (ds.length < 1000000) && ds.all (okS n)) = true := h
      rw [Bool.and_eq_true, decide_eq_true_eq, List.all_eq_true] at h'
      have := same_seq (sameF n) ds h'.1 (fun d hd => same_refl n d (h'.2 d hd)) (.tup ds) (.inr rfl)
      rw [sSeq_at] at this
      simpa [-sFor_at, -bTup_at] using this
    | dct _ => cases h
    | frz _ => cases h
    | raw _ => cases h
end Dl

/-! Rows of bits as numbers: sums, reduced sets. -/
namespace Gf2
def Sp : List Nat → Nat → Prop
  | [], v => v = 0
  | a :: L, v => Sp L v ∨ Sp L (v ^^^ a)
theorem sp_zero : ∀ L, Sp L 0
  | [] => rfl
  | _ :: L => .inl (sp_zero L)
theorem xor_swap (a b c : Nat) : a ^^^ b ^^^ c = a ^^^ c ^^^ b := by rw [Nat.xor_assoc, Nat.xor_comm b c, ← Nat.xor_assoc]
theorem sp_xor : ∀ {L : List Nat} {v w : Nat}, Sp L v → Sp L w → Sp L (v ^^^ w)
  | [], v, w, h, k => by cases h; cases k; rfl
  | a :: L, v, w, h, k => by
    rcases h with h | h <;> rcases k with k | k
    · exact .inl (sp_xor h k)
    · refine .inr ?_
      have := sp_xor h k
      rwa [← Nat.xor_assoc] at this
    · refine .inr ?_
      have := sp_xor h k
      rwa [xor_swap] at this
    · refine .inl ?_
      have := sp_xor h k
      have e : v ^^^ a ^^^ (w ^^^ a) = v ^^^ w := by rw [← Nat.xor_assoc, xor_swap v a w, Nat.xor_assoc, Nat.xor_self, Nat.xor_zero]
      rwa [e] at this
theorem sp_mem : ∀ {L : List Nat} {a : Nat}, a ∈ L → Sp L a
  | b :: L, a, h => by
    rcases List.mem_cons.mp h with rfl | h
    · refine .inr ?_
      rw [Nat.xor_self]; exact sp_zero L
    · exact .inl (sp_mem h)
theorem sp_sub {M : List Nat} : ∀ {L : List Nat} {v : Nat}, (∀ a ∈ L, Sp M a) → Sp L v → Sp M v
  | [], v, _, h => by cases (show v = 0 from h); exact sp_zero M
  | a :: L, v, s, h => by
    rcases h with h | h
    · exact sp_sub (fun b hb => s b (List.mem_cons_of_mem _ hb)) h
    · have h1 := sp_sub (fun b hb => s b (List.mem_cons_of_mem _ hb)) h
      have h2 := sp_xor h1 (s a List.mem_cons_self)
      rwa [Nat.xor_assoc, Nat.xor_self, Nat.xor_zero] at h2
theorem tb_xor (a b j : Nat) : (a ^^^ b).testBit j = (a.testBit j != b.testBit j) := by rw [Nat.testBit_xor]
/-- a bit that all have not, no sum has -/
theorem sp_bit {j : Nat} : ∀ {L : List Nat} {v : Nat}, (∀ a ∈ L, a.testBit j = false) → Sp L v → v.testBit j = false
  | [], v, _, h => by cases (show v = 0 from h); exact Nat.zero_testBit j
  | a :: L, v, s, h => by
    rcases h with h | h
    · exact sp_bit (fun b hb => s b (List.mem_cons_of_mem _ hb)) h
    · have := sp_bit (fun b hb => s b (List.mem_cons_of_mem _ hb)) h
      rw [tb_xor, s a List.mem_cons_self] at this
      simpa using this
/-- each has its own bit, which no later one has -/
def Li : List (Nat × Nat) → Prop
  | [] => True
  | p :: t => p.2.testBit p.1 = true ∧ (∀ q ∈ t, q.2.testBit p.1 = false) ∧ Li t
abbrev ms (k : List (Nat × Nat)) : List Nat := k.map (·.2)
theorem indep : ∀ {k : List (Nat × Nat)} {v : Nat}, Li k → Sp (ms k) v → (∀ p ∈ k, v.testBit p.1 = false) → v = 0
  | [], v, _, h, _ => h
  | p :: t, v, ⟨h1, h2, h3⟩, h, z => by
    rcases h with h | h
    · exact indep h3 h fun q hq => z q (List.mem_cons_of_mem _ hq)
    · exfalso
      have hb : ∀ a ∈ ms t, a.testBit p.1 = false := fun a ha => by
        obtain ⟨q, hq, rfl⟩ := List.mem_map.mp ha
        exact h2 q hq
      have := sp_bit hb h
      rw [tb_xor, h1, z p List.mem_cons_self] at this
      exact absurd this (by decide)
/-- reduced, in order -/
def step (m : Nat) (p : Nat × Nat) : Nat := if m.testBit p.1 = true then m ^^^ p.2 else m
def rest (k : List (Nat × Nat)) (m : Nat) : Nat := k.foldl step m
theorem step_sp {k : List (Nat × Nat)} {m : Nat} {p : Nat × Nat} (hp : Sp (ms k) p.2) (m0 : Nat) (h : Sp (ms k) (m0 ^^^ m)) : Sp (ms k) (m0 ^^^ step m p) := by
  unfold step
  split
  · rw [← Nat.xor_assoc]; exact sp_xor h hp
  · exact h
theorem fold_sp {k : List (Nat × Nat)} (m0 : Nat) : ∀ (l : List (Nat × Nat)) (m : Nat), (∀ p ∈ l, Sp (ms k) p.2) → Sp (ms k) (m0 ^^^ m) → Sp (ms k) (m0 ^^^ l.foldl step m)
  | [], m, _, h => h
  | p :: t, m, s, h => fold_sp m0 t (step m p) (fun q hq => s q (List.mem_cons_of_mem _ hq)) (step_sp (s p List.mem_cons_self) m0 h)
theorem rest_sp (k : List (Nat × Nat)) (m : Nat) : Sp (ms k) (m ^^^ rest k m) :=
  fold_sp m k m (fun p hp => sp_mem (List.mem_map_of_mem hp)) (by rw [Nat.xor_self]; exact sp_zero _)
theorem step_keep {m j : Nat} {p : Nat × Nat} (h : m.testBit j = false) (hp : p.2.testBit j = false) : (step m p).testBit j = false := by
  unfold step
  split
  · rw [tb_xor, h, hp]; rfl
  · exact h
theorem fold_keep {j : Nat} : ∀ (l : List (Nat × Nat)) (m : Nat), m.testBit j = false → (∀ p ∈ l, p.2.testBit j = false) → (l.foldl step m).testBit j = false
  | [], m, h, _ => h
  | p :: t, m, h, s => fold_keep t _ (step_keep h (s p List.mem_cons_self)) fun q hq => s q (List.mem_cons_of_mem _ hq)
theorem step_own {m : Nat} {p : Nat × Nat} (h : p.2.testBit p.1 = true) : (step m p).testBit p.1 = false := by
  unfold step
  split
  · rename_i c; rw [tb_xor, c, h]; rfl
  · rename_i c; simpa using c
theorem rest_zero : ∀ {k : List (Nat × Nat)} (m : Nat), Li k → ∀ p ∈ k, (rest k m).testBit p.1 = false
  | p :: t, m, ⟨h1, h2, h3⟩, q, hq => by
    show (t.foldl step (step m p)).testBit q.1 = false
    rcases List.mem_cons.mp hq with rfl | hq
    · exact fold_keep t _ (step_own h1) h2
    · exact rest_zero (step m p) h3 q hq
theorem rest_iff {k : List (Nat × Nat)} (h : Li k) (m : Nat) : rest k m = 0 ↔ Sp (ms k) m := by
  constructor
  · intro e
    have := rest_sp k m
    rwa [e, Nat.xor_zero] at this
  · intro s
    refine indep h ?_ (rest_zero m h)
    have := sp_xor s (rest_sp k m)
    rwa [← Nat.xor_assoc, Nat.xor_self, Nat.zero_xor] at this
theorem li_app : ∀ {k : List (Nat × Nat)} {p : Nat × Nat}, Li k → p.2.testBit p.1 = true → (∀ q ∈ k, p.2.testBit q.1 = false) → Li (k ++ [p])
  | [], p, _, h, _ => ⟨h, (fun _ z => by cases z), trivial⟩
  | q :: t, p, hh, h, z => by
   obtain ⟨h1, h2, h3⟩ := hh
   exact ⟨h1, fun r hr => by
    rcases List.mem_append.mp hr with hr | hr
    · exact h2 r hr
    · rw [List.mem_singleton.mp hr]; exact z q List.mem_cons_self, li_app h3 h fun r hr => z r (List.mem_cons_of_mem _ hr)⟩
theorem li_nodup : ∀ {k : List (Nat × Nat)}, Li k → (k.map (·.1)).Nodup
  | [], _ => .nil
  | p :: t, ⟨_, h2, h3⟩ => by
    refine List.nodup_cons.mpr ⟨fun h => ?_, li_nodup h3⟩
    obtain ⟨q, hq, e⟩ := List.mem_map.mp h
    have a := h2 q hq
    have b : ∀ {k : List (Nat × Nat)}, Li k → ∀ q ∈ k, q.2.testBit q.1 = true := by
      intro k
      induction k with
      | nil => intro _ q hq; nomatch hq
      | cons p t ih =>
        intro ⟨h1, _, h3⟩ q hq
        rcases List.mem_cons.mp hq with rfl | hq
        · exact h1
        · exact ih h3 q hq
    have c := b h3 q hq
    rw [e] at c
    rw [c] at a
    cases a
/-- distinct numbers below n: at most n -/
theorem nodup_le : ∀ (n : Nat) (l : List Nat), l.Nodup → (∀ x ∈ l, x < n) → l.length ≤ n
  | 0, l, _, h => by
    cases l with
    | nil => exact Nat.le_refl _
    | cons x t => exact absurd (h x List.mem_cons_self) (Nat.not_lt_zero _)
  | n + 1, l, hn, h => by
    have h1 := nodup_le n (l.erase n) (hn.erase n) (fun x hx => by
      have a := h x (List.mem_of_mem_erase hx)
      have b : x ≠ n := fun e => by subst e; exact hn.not_mem_erase hx
      omega)
    have h2 : l.length ≤ (l.erase n).length + 1 := by
      rw [List.length_erase]; split <;> omega
    omega
theorem nodup_full {n : Nat} {l : List Nat} (hn : l.Nodup) (h : ∀ x ∈ l, x < n) (e : l.length = n) {k : Nat} (hk : k < n) : k ∈ l := by
  apply Classical.byContradiction
  intro z
  have := nodup_le n (k :: l) (List.nodup_cons.mpr ⟨z, hn⟩) (fun x hx => by
    rcases List.mem_cons.mp hx with rfl | hx
    · exact hk
    · exact h x hx)
  rw [List.length_cons] at this
  omega
/-- all bits taken: nothing is left -/
theorem rest_full {k : List (Nat × Nat)} {n m : Nat} (h : Li k) (hl : ∀ p ∈ k, p.1 < n) (e : k.length = n) (hr : rest k m < 2 ^ n) : rest k m = 0 := by
  apply Nat.eq_of_testBit_eq
  intro j
  rw [Nat.zero_testBit]
  by_cases hj : j < n
  · have := nodup_full (li_nodup h) (fun x hx => by obtain ⟨p, hp, rfl⟩ := List.mem_map.mp hx; exact hl p hp) (by rw [List.length_map]; exact e) hj
    obtain ⟨p, hp, rfl⟩ := List.mem_map.mp this
    exact rest_zero m h p hp
  · exact Nat.testBit_lt_two_pow (Nat.lt_of_lt_of_le hr (Nat.pow_le_pow_right (by decide) (by omega)))
theorem step_lt {m n : Nat} {p : Nat × Nat} (h : m < 2 ^ n) (hp : p.2 < 2 ^ n) : step m p < 2 ^ n := by
  unfold step
  split
  · exact Nat.xor_lt_two_pow h hp
  · exact h
theorem fold_lt {n : Nat} : ∀ (l : List (Nat × Nat)) (m : Nat), m < 2 ^ n → (∀ p ∈ l, p.2 < 2 ^ n) → l.foldl step m < 2 ^ n
  | [], m, h, _ => h
  | p :: t, m, h, s => fold_lt t _ (step_lt h (s p List.mem_cons_self)) fun q hq => s q (List.mem_cons_of_mem _ hq)
/-! ### the reduced set: no one has another's bit -/
structure Pi (k : List (Nat × Nat)) : Prop where
  own : ∀ p ∈ k, p.2.testBit p.1 = true
  oth : ∀ p ∈ k, ∀ q ∈ k, p.1 ≠ q.1 → q.2.testBit p.1 = false
  nd : (k.map (·.1)).Nodup
theorem Pi.li : ∀ {k : List (Nat × Nat)}, Pi k → Li k
  | [], _ => trivial
  | p :: t, h => by
    have hn := List.nodup_cons.mp h.nd
    exact ⟨h.own p List.mem_cons_self, fun q hq => h.oth p List.mem_cons_self q (List.mem_cons_of_mem _ hq) fun e => hn.1 (by show p.1 ∈ _; rw [e]; exact List.mem_map_of_mem (f := fun x : Nat × Nat => x.1) hq),
      Pi.li ⟨fun q hq => h.own q (List.mem_cons_of_mem _ hq), fun q hq r hr => h.oth q (List.mem_cons_of_mem _ hq) r (List.mem_cons_of_mem _ hr), hn.2⟩⟩
/-- one by one in any order: the same bits are out -/
theorem fold_zero {k : List (Nat × Nat)} (h : Pi k) : ∀ (l : List (Nat × Nat)) (m : Nat), (∀ p ∈ l, p ∈ k) → ∀ p ∈ l, (l.foldl step m).testBit p.1 = false
  | p :: t, m, s, q, hq => by
    have go : ∀ (t : List (Nat × Nat)) (m : Nat) (p : Nat × Nat), (∀ q ∈ t, q ∈ k) → p ∈ k → m.testBit p.1 = false → (t.foldl step m).testBit p.1 = false := by
      intro t
      induction t with
      | nil => intro m p _ _ h; exact h
      | cons a t ih =>
        intro m p s hp hm
        refine ih _ p (fun q hq => s q (List.mem_cons_of_mem _ hq)) hp ?_
        by_cases e : p.1 = a.1
        · rw [e]; exact step_own (h.own a (s a List.mem_cons_self))
        · exact step_keep hm (h.oth p hp a (s a List.mem_cons_self) e)
    rcases List.mem_cons.mp hq with rfl | hq
    · exact go t _ q (fun r hr => s r (List.mem_cons_of_mem _ hr)) (s q List.mem_cons_self) (step_own (h.own q (s q List.mem_cons_self)))
    · exact fold_zero h t _ (fun r hr => s r (List.mem_cons_of_mem _ hr)) q hq
/-- cleared by r at its bit, r put behind -/
def clr (l r : Nat) (p : Nat × Nat) : Nat × Nat := (p.1, if p.2.testBit l = true then p.2 ^^^ r else p.2)
theorem clr_bit {l r j : Nat} {p : Nat × Nat} (h : r.testBit j = false) : (clr l r p).2.testBit j = p.2.testBit j := by
  unfold clr
  split
  · rw [tb_xor, h]; simp
  · rfl
theorem Pi.put {k : List (Nat × Nat)} (h : Pi k) {l r : Nat} (hr : r.testBit l = true) (hz : ∀ p ∈ k, r.testBit p.1 = false) : Pi (k.map (clr l r) ++ [(l, r)]) := by
  have hne : ∀ p ∈ k, p.1 ≠ l := fun p hp e => by have := hz p hp; rw [e, hr] at this; cases this
  have hcl : ∀ p : Nat × Nat, (clr l r p).2.testBit l = false := fun p => by
    unfold clr
    split
    · rename_i c; rw [tb_xor, c, hr]; rfl
    · rename_i c; simpa using c
  refine ⟨fun p hp => ?_, fun p hp q hq e => ?_, ?_⟩
  · rcases List.mem_append.mp hp with hp | hp
    · obtain ⟨a, ha, rfl⟩ := List.mem_map.mp hp
      exact (clr_bit (hz a ha)).trans (h.own a ha)
    · rw [List.mem_singleton.mp hp]; exact hr
  · rcases List.mem_append.mp hp with hp | hp <;> rcases List.mem_append.mp hq with hq | hq
    · obtain ⟨a, ha, rfl⟩ := List.mem_map.mp hp
      obtain ⟨b, hb, rfl⟩ := List.mem_map.mp hq
      exact (clr_bit (hz a ha)).trans (h.oth a ha b hb e)
    · obtain ⟨a, ha, rfl⟩ := List.mem_map.mp hp
      rw [List.mem_singleton.mp hq]; exact hz a ha
    · obtain ⟨b, hb, rfl⟩ := List.mem_map.mp hq
      rw [List.mem_singleton.mp hp]; exact hcl b
    · rw [List.mem_singleton.mp hp, List.mem_singleton.mp hq] at e
      exact absurd rfl e
  · rw [List.map_append, List.map_map, show ((fun p : Nat × Nat => p.1) ∘ clr l r) = (·.1) from rfl]
    refine List.nodup_append.mpr ⟨h.nd, by simp, fun a ha b hb => ?_⟩
    obtain ⟨p, hp, rfl⟩ := List.mem_map.mp ha
    have e : b = l := by simpa using hb
    subst e
    exact hne p hp
theorem put_sp {k : List (Nat × Nat)} {l r m : Nat} (hs : Sp (ms k) (m ^^^ r)) (v : Nat) : Sp (ms (k.map (clr l r) ++ [(l, r)])) v ↔ Sp (m :: ms k) v := by
  have hrk : Sp (m :: ms k) r := by
    have h1 : Sp (m :: ms k) (m ^^^ r) := .inl hs
    have h2 := sp_xor (sp_mem (L := m :: ms k) List.mem_cons_self) h1
    rwa [← Nat.xor_assoc, Nat.xor_self, Nat.zero_xor] at h2
  have hr' : Sp (ms (k.map (clr l r) ++ [(l, r)])) r := sp_mem (by simp [ms])
  have hk' : ∀ p ∈ k, Sp (ms (k.map (clr l r) ++ [(l, r)])) p.2 := fun p hp => by
    have h1 : Sp (ms (k.map (clr l r) ++ [(l, r)])) (clr l r p).2 := sp_mem (by
      rw [ms, List.map_append]
      exact List.mem_append_left _ (List.mem_map_of_mem (List.mem_map_of_mem hp)))
    unfold clr at h1
    dsimp only at h1
    by_cases c : p.2.testBit l = true
    · rw [if_pos c] at h1
      have := sp_xor h1 hr'
      rwa [Nat.xor_assoc, Nat.xor_self, Nat.xor_zero] at this
    · rw [if_neg c] at h1; exact h1
  constructor
  · refine sp_sub fun a ha => ?_
    rw [ms, List.map_append] at ha
    rcases List.mem_append.mp ha with ha | ha
    · obtain ⟨q, hq, rfl⟩ := List.mem_map.mp ha
      obtain ⟨p, hp, rfl⟩ := List.mem_map.mp hq
      have hp' : Sp (m :: ms k) p.2 := .inl (sp_mem (List.mem_map_of_mem hp))
      unfold clr
      dsimp only
      split
      · exact sp_xor hp' hrk
      · exact hp'
    · have e : a = r := by simpa using ha
      subst e
      exact hrk
  · refine sp_sub fun a ha => ?_
    rcases List.mem_cons.mp ha with rfl | ha
    · have h1 : Sp (ms (k.map (clr l r) ++ [(l, r)])) (a ^^^ r) := sp_sub (fun b hb => by
        obtain ⟨p, hp, rfl⟩ := List.mem_map.mp hb
        exact hk' p hp) hs
      have := sp_xor h1 hr'
      rwa [Nat.xor_assoc, Nat.xor_self, Nat.xor_zero] at this
    · obtain ⟨p, hp, rfl⟩ := List.mem_map.mp ha
      exact hk' p hp
theorem app_sp {k : List (Nat × Nat)} {l r m : Nat} (hs : Sp (ms k) (m ^^^ r)) (v : Nat) : Sp (ms (k ++ [(l, r)])) v ↔ Sp (m :: ms k) v := by
  have hr' : Sp (ms (k ++ [(l, r)])) r := sp_mem (by simp [ms])
  have hk' : ∀ p ∈ k, Sp (ms (k ++ [(l, r)])) p.2 := fun p hp => sp_mem (by rw [ms, List.map_append]; exact List.mem_append_left _ (List.mem_map_of_mem hp))
  constructor
  · refine sp_sub fun a ha => ?_
    rw [ms, List.map_append] at ha
    rcases List.mem_append.mp ha with ha | ha
    · exact .inl (sp_mem ha)
    · have e : a = r := by simpa using ha
      subst e
      have h1 : Sp (m :: ms k) (m ^^^ a) := .inl hs
      have h2 := sp_xor (sp_mem (L := m :: ms k) List.mem_cons_self) h1
      rwa [← Nat.xor_assoc, Nat.xor_self, Nat.zero_xor] at h2
  · refine sp_sub fun a ha => ?_
    rcases List.mem_cons.mp ha with rfl | ha
    · have h1 : Sp (ms (k ++ [(l, r)])) (a ^^^ r) := sp_sub (fun b hb => by
        obtain ⟨p, hp, rfl⟩ := List.mem_map.mp hb
        exact hk' p hp) hs
      have := sp_xor h1 hr'
      rwa [Nat.xor_assoc, Nat.xor_self, Nat.xor_zero] at this
    · obtain ⟨p, hp, rfl⟩ := List.mem_map.mp ha
      exact hk' p hp
/-! ### the lowest bit -/
def low (m : Nat) : Nat := (m - (m &&& (m - 1))).log2
theorem low_ok : ∀ m : Nat, 0 < m → 0 < m - (m &&& (m - 1)) ∧ m.testBit (low m) = true
  | m, h => by
    rcases Nat.mod_two_eq_zero_or_one m with e | e
    · obtain ⟨k, rfl⟩ : ∃ k, m = 2 * k := ⟨m / 2, by omega⟩
      have hk : 0 < k := by omega
      have ih := low_ok k hk
      have e1 : (2 * k &&& (2 * k - 1)) = 2 * (k &&& (k - 1)) := by
        apply Nat.eq_of_testBit_eq
        intro j
        rw [Nat.testBit_and]
        cases j with
        | zero => simp
        | succ j =>
          have a : ∀ x : Nat, (2 * x).testBit (j + 1) = x.testBit j := fun x => by rw [Nat.testBit_succ]; congr 1; omega
          have b : (2 * k - 1).testBit (j + 1) = (k - 1).testBit j := by rw [Nat.testBit_succ]; congr 1; omega
          rw [a, a, b, Nat.testBit_and]
      have e2 : 2 * k - (2 * k &&& (2 * k - 1)) = 2 * (k - (k &&& (k - 1))) := by rw [e1]; omega
      refine ⟨by rw [e2]; omega, ?_⟩
      have e3 : low (2 * k) = low k + 1 := by
        unfold low
        rw [e2, Nat.log2_two_mul (by omega)]
      rw [e3, Nat.testBit_succ, show 2 * k / 2 = k by omega]
      exact ih.2
    · have e1 : (m &&& (m - 1)) = m - 1 := by
        apply Nat.eq_of_testBit_eq
        intro j
        rw [Nat.testBit_and]
        cases j with
        | zero =>
          have : (m - 1).testBit 0 = false := by rw [Nat.testBit_zero]; simp; omega
          rw [this]; simp
        | succ j =>
          rw [Nat.testBit_succ, Nat.testBit_succ, show (m - 1) / 2 = m / 2 by omega]; simp
      have e2 : m - (m &&& (m - 1)) = 1 := by rw [e1]; omega
      refine ⟨by omega, ?_⟩
      unfold low
      rw [e2, show Nat.log2 1 = 0 from by decide, Nat.testBit_zero]
      simp; exact e
end Gf2

namespace Law
open PySem L2 Dl
def top (i : Nat) : Stmt := PySem.Challenge.pw_askewread_k60_numbers_that_tell_all.main.body.getD i (.Pass ⟨0, 0, 0, 0⟩)
def d_is_whole : He.DefD := ⟨("is_whole", none), "is_whole", "is_whole", defArgs (top 4), defBody (top 4), defScope (top 4), [], []⟩
def d_are_wholes : He.DefD := ⟨("are_wholes", none), "are_wholes", "are_wholes", defArgs (top 5), defBody (top 5), defScope (top 5), [], []⟩
def d_degree : He.DefD := ⟨("degree", none), "degree", "degree", defArgs (top 7), defBody (top 7), defScope (top 7), [], []⟩
def d_carried_off : He.DefD := ⟨("carried_off", none), "carried_off", "carried_off", defArgs (top 8), defBody (top 8), defScope (top 8), [], []⟩
def d_powers_of_two : He.DefD := ⟨("powers_of_two", none), "powers_of_two", "powers_of_two", defArgs (top 9), defBody (top 9), defScope (top 9), [], []⟩
def d_check_parts : He.DefD := ⟨("check_parts", none), "check_parts", "check_parts", defArgs (top 14), defBody (top 14), defScope (top 14), [], []⟩
def d_check_number : He.DefD := ⟨("check_number", none), "check_number", "check_number", defArgs (top 15), defBody (top 15), defScope (top 15), [], []⟩
def d_check_numbers : He.DefD := ⟨("check_numbers", none), "check_numbers", "check_numbers", defArgs (top 16), defBody (top 16), defScope (top 16), [], []⟩
def d_row_by : He.DefD := ⟨("row_by", none), "row_by", "row_by", defArgs (top 17), defBody (top 17), defScope (top 17), [], []⟩
def d_added : He.DefD := ⟨("added", none), "added", "added", defArgs (top 18), defBody (top 18), defScope (top 18), [], []⟩
def d_weight : He.DefD := ⟨("weight", none), "weight", "weight", defArgs (top 19), defBody (top 19), defScope (top 19), [], []⟩
def d_lead_of : He.DefD := ⟨("lead_of", none), "lead_of", "lead_of", defArgs (top 20), defBody (top 20), defScope (top 20), [], []⟩
def d_reduced_by : He.DefD := ⟨("reduced_by", none), "reduced_by", "reduced_by", defArgs (top 21), defBody (top 21), defScope (top 21), [], []⟩
def d_cleared_by : He.DefD := ⟨("cleared_by", none), "cleared_by", "cleared_by", defArgs (top 22), defBody (top 22), defScope (top 22), [], []⟩
def d_put_row : He.DefD := ⟨("put_row", none), "put_row", "put_row", defArgs (top 23), defBody (top 23), defScope (top 23), [], []⟩
def d_least_numbers : He.DefD := ⟨("least_numbers", none), "least_numbers", "least_numbers", defArgs (top 24), defBody (top 24), defScope (top 24), [], []⟩
def d_check_begin : He.DefD := ⟨("check_begin", none), "check_begin", "check_begin", defArgs (top 27), defBody (top 27), defScope (top 27), [], []⟩
def d_needed_from : He.DefD := ⟨("needed_from", none), "needed_from", "needed_from", defArgs (top 28), defBody (top 28), defScope (top 28), [], []⟩
def d_useful_from : He.DefD := ⟨("useful_from", none), "useful_from", "useful_from", defArgs (top 29), defBody (top 29), defScope (top 29), [], []⟩
def d_worst_begin : He.DefD := ⟨("worst_begin", none), "worst_begin", "worst_begin", defArgs (top 30), defBody (top 30), defScope (top 30), [], []⟩
def d_weights_from : He.DefD := ⟨("weights_from", none), "weights_from", "weights_from", defArgs (top 31), defBody (top 31), defScope (top 31), [], []⟩
def d_overhead : He.DefD := ⟨("overhead", none), "overhead", "overhead", defArgs (top 32), defBody (top 32), defScope (top 32), [], []⟩
def d__law_numbers : He.DefD := ⟨("_law_numbers", none), "_law_numbers", "_law_numbers", defArgs (top 34), defBody (top 34), defScope (top 34), [], []⟩
def d__law_same : He.DefD := ⟨("_law_same", none), "_law_same", "_law_same", defArgs (top 35), defBody (top 35), defScope (top 35), [], []⟩
def d__law_powers : He.DefD := ⟨("_law_powers", none), "_law_powers", "_law_powers", defArgs (top 36), defBody (top 36), defScope (top 36), [], []⟩
def d__law_mask : He.DefD := ⟨("_law_mask", none), "_law_mask", "_law_mask", defArgs (top 37), defBody (top 37), defScope (top 37), [], []⟩
def d__law_rest : He.DefD := ⟨("_law_rest", none), "_law_rest", "_law_rest", defArgs (top 38), defBody (top 38), defScope (top 38), [], []⟩
def d__law_useful : He.DefD := ⟨("_law_useful", none), "_law_useful", "_law_useful", defArgs (top 39), defBody (top 39), defScope (top 39), [], []⟩
def d__law_needed : He.DefD := ⟨("_law_needed", none), "_law_needed", "_law_needed", defArgs (top 40), defBody (top 40), defScope (top 40), [], []⟩
def d__law_refused : He.DefD := ⟨("_law_refused", none), "_law_refused", "_law_refused", defArgs (top 41), defBody (top 41), defScope (top 41), [], []⟩
def d__law_refusals : He.DefD := ⟨("_law_refusals", none), "_law_refusals", "_law_refusals", defArgs (top 42), defBody (top 42), defScope (top 42), [], []⟩
def d_law : He.DefD := ⟨("law", none), "law", "law", defArgs (top 43), defBody (top 43), defScope (top 43), [], []⟩
def fn : List He.DefD := [d_is_whole, d_are_wholes, d_degree, d_carried_off, d_powers_of_two, d_check_parts, d_check_number, d_check_numbers, d_row_by, d_added, d_weight, d_lead_of, d_reduced_by, d_cleared_by, d_put_row, d_least_numbers, d_check_begin, d_needed_from, d_useful_from, d_worst_begin, d_weights_from, d_overhead, d__law_numbers, d__law_same, d__law_powers, d__law_mask, d__law_rest, d__law_useful, d__law_needed, d__law_refused, d__law_refusals, d_law]
def fa : List He.Fa := [.glo "is_whole", .glo "are_wholes", .glo "degree", .glo "carried_off", .glo "powers_of_two", .glo "check_parts", .glo "check_number", .glo "check_numbers", .glo "row_by", .glo "added", .glo "weight", .glo "lead_of"] ++ [.glo "reduced_by", .glo "cleared_by", .glo "put_row", .glo "least_numbers", .glo "check_begin", .glo "needed_from", .glo "useful_from", .glo "worst_begin", .glo "weights_from", .glo "overhead", .glo "_law_numbers", .glo "_law_same"] ++ [.glo "_law_powers", .glo "_law_mask", .glo "_law_rest", .glo "_law_useful", .glo "_law_needed", .glo "_law_refused", .glo "_law_refusals", .glo "law", .glo "AskewError", .glo "BadNumber", .free "ValueError", .free "range"] ++ [.free "sum", .free "enumerate", .free "sorted", .free "min", .free "isinstance", .free "bool", .free "int", .free "str", .free "list", .free "all", .free "any", .free "len"] ++ [.free "zip", .free "tuple", .int "MOST_PARTS" (60), .int "MOST_NUMBER" (4095), .int "MODULUS" (285), .int "MOST_LOOKED" (400), .exc "AskewError", .exc "BadNumber", .exm "AskewError" "AskewError" true, .exm "AskewError" "BadNumber" false, .exm "BadNumber" "AskewError" true, .exm "BadNumber" "BadNumber" true]
structure Tx (P : Program) (w : World) (K : PySem.W.Frag) (mg : Str → Option Value) (base : Heap) : Prop where
  c : He.SaysD fa fn K
  h : ∃ h : Heap, K.In h ∧ h.Ns mainGlobals mg
section
variable {P : Program} {w : World} {K : PySem.W.Frag} {mg : Str → Option Value} {base : Heap}
theorem Tx.glo (t : Tx P w K mg base) (i : Nat) {x : Str} (h : fa[i]? = some (.glo x) := by rfl) : mg x = some (.ref (He.ga K x)) := by
  obtain ⟨_, X, G⟩ := t.h
  exact He.glo_ok X G (t.c.fact i h)
theorem Tx.free (t : Tx P w K mg base) (i : Nat) {x : Str} (h : fa[i]? = some (.free x) := by rfl) : mg x = none := by
  obtain ⟨_, X, G⟩ := t.h
  exact He.free_ok X G (t.c.fact i h)
theorem Tx.int (t : Tx P w K mg base) (i : Nat) {x : Str} {n : Int} (h : fa[i]? = some (.int x n) := by rfl) : ∃ u, mg x = some (.int n u) := by
  obtain ⟨_, X, G⟩ := t.h
  exact He.int_ok X G (t.c.fact i h)
theorem Tx.str (t : Tx P w K mg base) (i : Nat) {x n : Str} (h : fa[i]? = some (.str x n) := by rfl) : ∃ u, mg x = some (.str n u) := by
  obtain ⟨_, X, G⟩ := t.h
  exact He.str_ok X G (t.c.fact i h)
theorem Tx.own (t : Tx P w K mg base) {X : Cx} {x : Str} {m : Str} {j : Nat} {p p2 pos : Pos} (i k : Nat) (hK : X.K = K := by rfl) (hm : X.mg = mg := by rfl) (h : fa[i]? = some (.glo x) := by rfl) (h2 : fa[k]? = some (.exc x) := by rfl) (hg : Gl X x := by rfl) (hd : (x == ("__debug__" : Str)) = false := by decide) :
    PMk X (.Call (.Name x p) [.Constant (.str m) j p2] [] pos) fun σ H Q => Q (.ref (He.ga X.K x)) none H := by
  subst hK
  subst hm
  have e := He.exc_ok (t.c.fact k h2)
  exact pmk_own PySem.F.excBase_ValueError e.1 (t.glo i h) e.2.1 (raises_own e.2.2.1 e.2.2.2) hg hd
def mt_AskewError (z : Str) : Option Bool := if z = "AskewError" then some true else if z = "BadNumber" then some true else none
theorem Tx.em_AskewError (t : Tx P w K mg base) (z : Str) (b : Bool) (h : mt_AskewError z = some b) : PySem.W.exmOne K (.ref (He.ga K z)) (.ref (He.ga K "AskewError")) = some b := by
  unfold mt_AskewError at h
  split at h
  · next e => subst e; cases h; exact He.exm_ok (t.c.fact 56 rfl)
  split at h
  · next e => subst e; cases h; exact He.exm_ok (t.c.fact 58 rfl)
  cases h
def mt_BadNumber (z : Str) : Option Bool := if z = "AskewError" then some false else if z = "BadNumber" then some true else none
theorem Tx.em_BadNumber (t : Tx P w K mg base) (z : Str) (b : Bool) (h : mt_BadNumber z = some b) : PySem.W.exmOne K (.ref (He.ga K z)) (.ref (He.ga K "BadNumber")) = some b := by
  unfold mt_BadNumber at h
  split at h
  · next e => subst e; cases h; exact He.exm_ok (t.c.fact 57 rfl)
  split at h
  · next e => subst e; cases h; exact He.exm_ok (t.c.fact 59 rfl)
  cases h
abbrev sN_is_whole : List PySem.Str := ["value"]
theorem sc_is_whole : FnScope sN_is_whole ["value"] (defScope (top 4)) := ⟨rfl, rfl, rfl, by decide +kernel, rfl, by decide +kernel, by decide +kernel⟩
def B_is_whole : SF := (sRet (eAnd (eCB dIsi (aCons (eVar 0) (aCons (eC (.raw (.ty "int"))) aNil))) (eNot (eCB dIsi (aCons (eVar 0) (aCons (eC (.raw (.ty "bool"))) aNil))))))
def F_is_whole : List D → Res D := runB 1 B_is_whole
theorem fn_is_whole (t : Tx P w K mg base) : Fn P w K mg base "is_whole" 1 (spF K 1 F_is_whole) := by
  obtain ⟨fd, F⟩ := t.c.def_ 0 (d := d_is_whole) rfl
  exact fn_of' (fn_mk (k := 0) (N := sN_is_whole) F sc_is_whole (B := B_is_whole) (fun cdv A outer s H E hr => ⟨_, [], (dss_one (gretO (DE.ln (de_and (gcb call_isi cg_isi (t.free 40) (dl_cons (DE.ln (gv 0 (pv 0))) (dl_cons (DE.ln (de_type (t.free 42) (by decide +kernel))) dl_nil))) (de_one (de_not (gcb call_isi cg_isi (t.free 40) (dl_cons (DE.ln (gv 0 (pv 0))) (dl_cons (DE.ln (de_type (t.free 41) (by decide +kernel))) dl_nil)))))))))⟩)) F (t.glo 0) (F.bindsN fun _ _ _ _ _ _ us hl => match us, hl with | [_], _ => rfl)
abbrev sN_are_wholes : List PySem.Str := ["value", "low", "high", "one"]
theorem sc_are_wholes : FnScope sN_are_wholes ["value", "low", "high"] (defScope (top 5)) := ⟨rfl, rfl, rfl, by decide +kernel, rfl, by decide +kernel, by decide +kernel⟩
def B_are_wholes : SF := (sRet (eAnd (eCB dIsi (aCons (eVar 0) (aCons (eC (.raw (.ty "list"))) aNil))) (eCB dAll (aCons (eComp (iSeq (eVar 0)) (bName 3) cYes (eAnd (eCall 1 F_is_whole (aCons (eVar 3) aNil)) (eChain dLe dLe (eVar 1) (eVar 3) (eVar 2))) [3]) aNil))))
def F_are_wholes : List D → Res D := runB 4 B_are_wholes
theorem fn_are_wholes (t : Tx P w K mg base) : Fn P w K mg base "are_wholes" 2 (spF K 3 F_are_wholes) := by
  obtain ⟨fd, F⟩ := t.c.def_ 1 (d := d_are_wholes) rfl
  exact fn_of' (fn_mk (k := 1) (N := sN_are_wholes) F sc_are_wholes (B := B_are_wholes) (fun cdv A outer s H E hr => ⟨_, [], (dss_one (gretO (DE.ln (de_and (gcb call_isi cg_isi (t.free 40) (dl_cons (DE.ln (gv 0 (pv 0))) (dl_cons (DE.ln (de_type (t.free 44) (by decide +kernel))) dl_nil))) (de_one (gcb (cr_all rfl) cg_all (t.free 45) (dl_cons (DE.ln (DN.sh (glc sc_are_wholes.nd [("one", 3)] (dc_seq (DE.ln (gv 0 (pv 0)))) (blkOk_by (N := sN_are_wholes) (sc := (defScope (top 5))) (by decide +kernel)) (fun _ _ _ _ _ => (gn 3 sc_are_wholes.nd)) (fun _ _ _ _ _ => dts_nil) (fun _ _ _ _ _ => (de_and (de_call (fn_is_whole t) hr takes0 (da_cons (gv 3 (pv 3)) da_nil)) (de_one (de_chain op_le op_le og_le og_le (DE.ln (gv 1 (pv 1))) (DE.ln (gv 3 (pv 3))) (DE.ln (gv 2 (pv 2)))))))))) dl_nil)))))))⟩)) F (t.glo 1) (F.bindsN fun _ _ _ _ _ _ us hl => match us, hl with | [_, _, _], _ => rfl)
abbrev sN_degree : List PySem.Str := ["bits"]
theorem sc_degree : FnScope sN_degree ["bits"] (defScope (top 7)) := ⟨rfl, rfl, rfl, by decide +kernel, rfl, by decide +kernel, by decide +kernel⟩
def B_degree : SF := (sRet (eBin dSub (eBits (eVar 0)) (eC (.int 1))))
def F_degree : List D → Res D := runB 1 B_degree
theorem fn_degree (t : Tx P w K mg base) : Fn P w K mg base "degree" 1 (spF K 1 F_degree) := by
  obtain ⟨fd, F⟩ := t.c.def_ 2 (d := d_degree) rfl
  exact fn_of' (fn_mk (k := 0) (N := sN_degree) F sc_degree (B := B_degree) (fun cdv A outer s H E hr => ⟨_, [], (dss_one (gretO (DE.ln (de_op op_sub og_sub (DE.ln (gbits (gv 0 (pv 0)))) (DE.ln de_int)))))⟩)) F (t.glo 2) (F.bindsN fun _ _ _ _ _ _ us hl => match us, hl with | [_], _ => rfl)
abbrev sN_carried_off : List PySem.Str := ["bits", "modulus"]
theorem sc_carried_off : FnScope sN_carried_off ["bits", "modulus"] (defScope (top 8)) := ⟨rfl, rfl, rfl, by decide +kernel, rfl, by decide +kernel, by decide +kernel⟩
def B_carried_off : SF := (sSeq (whileD (tst (eBin dGe (eBits (eVar 0)) (eBits (eVar 1))))
  (sAug 0 dXor (eBin dShl (eVar 1) (eBin dSub (eBits (eVar 0)) (eBits (eVar 1))))) (64))
  (sRet (eVar 0)))
def F_carried_off : List D → Res D := runB 2 B_carried_off
theorem fn_carried_off (t : Tx P w K mg base) : Fn P w K mg base "carried_off" 1 (spF K 2 F_carried_off) := by
  obtain ⟨fd, F⟩ := t.c.def_ 3 (d := d_carried_off) rfl
  exact fn_of' (fn_mk (k := 0) (N := sN_carried_off) F sc_carried_off (B := B_carried_off) (fun cdv A outer s H E hr => ⟨_, [], (dss_cons (gwhile (ω1 := []) (64) (passes_of rfl) (dt_cmp op_ge og_ge rfl (DE.ln (gbits (gv 0 (pv 0)))) (DE.ln (gbits (gv 1 (pv 1)))))
    (dss_one (gaug 0 sc_carried_off.nd iop_xor og_xor (DE.ln (de_op op_shl og_shl (DE.ln (gv 1 (pv 1))) (DE.ln (de_op op_sub og_sub (DE.ln (gbits (gv 0 (pv 0)))) (DE.ln (gbits (gv 1 (pv 1)))))))))))
    (dss_one (gretO (DE.ln (gv 0 (pv 0))))))⟩)) F (t.glo 3) (F.bindsN fun _ _ _ _ _ _ us hl => match us, hl with | [_, _], _ => rfl)
abbrev sN_powers_of_two : List PySem.Str := ["modulus", "found", "size", "_", "following"]
theorem sc_powers_of_two : FnScope sN_powers_of_two ["modulus"] (defScope (top 9)) := ⟨rfl, rfl, rfl, by decide +kernel, rfl, by decide +kernel, by decide +kernel⟩
def B_powers_of_two : SF := (sSeq (sSet 1 (eLst (aCons (eC (.int 1)) aNil)))
  (sSeq (sSet 2 (eBin dShl (eC (.int 1)) (eCall 1 F_degree (aCons (eVar 0) aNil))))
  (sSeq (sFor (iRange (aCons (eVar 2) aNil)) (bName 3)
  (sSeq (sSet 4 (eCall 2 F_carried_off (aCons (eBin dShl (eBin dIx (eVar 1) (un1 (fun i => -i) (eC (.int 1)))) (eC (.int 1))) (aCons (eVar 0) aNil))))
  (sSeq (sIf (tst (eBin (dInA false) (eVar 4) (eTup (aCons (eC (.int 0)) (aCons (eC (.int 1)) aNil)))))
  (sRet (eVar 1))
  sNop)
  (sApp 1 (eVar 4)))))
  (sRet (eVar 1)))))
def F_powers_of_two : List D → Res D := runN 5 B_powers_of_two
theorem fn_powers_of_two (t : Tx P w K mg base) : Fn P w K mg base "powers_of_two" 2 (spN K 1 F_powers_of_two) := by
  obtain ⟨fd, F⟩ := t.c.def_ 4 (d := d_powers_of_two) rfl
  exact fn_of' (fn_mkN (k := 1) (N := sN_powers_of_two) F sc_powers_of_two (B := B_powers_of_two) (fun cdv A outer s H E hr => ⟨_, [], (dss_cons (gnew (ω1 := [1]) 1 sc_powers_of_two.nd (glst (da_cons de_int da_nil)))
    (dss_cons (gset (ω1 := [1]) 2 sc_powers_of_two.nd (de_op op_shl og_shl (DE.ln de_int) (DE.ln (de_call (fn_degree t) hr (takes_of rfl rfl rfl rfl) (da_cons (gv 0 (pv 0)) da_nil)))))
    (dss_cons (gfor (ω1 := [1]) (passes_of rfl) (gi1 (t.free 35) (DE.ln (gv 2 (pv 2)))) (gn 3 sc_powers_of_two.nd)
    (dss_cons (gset (ω1 := [1]) 4 sc_powers_of_two.nd (de_call (fn_carried_off t) hr (takes_of rfl rfl rfl rfl) (da_cons (de_op op_shl og_shl (DE.ln (de_ix (go 1 (pv 1)) (DE.ln (de_un un_neg de_int)))) (DE.ln de_int)) (da_cons (gv 0 (pv 0)) da_nil))))
    (dss_cons (gif (ω1 := [1]) (dt_cmp op_inA og_inA rfl (DE.ln (gv 4 (pv 4))) (DE.ln (gtup (da_cons de_int (da_cons de_int da_nil)))))
    (dss_one (gretV 1 (pv 1)))
    dss_nil)
    (dss_one (gapp 1 (pv 1) (gv 4 (pv 4)))))))
    (dss_one (gretV 1 (pv 1))))))⟩)) F (t.glo 4) (F.bindsN fun _ _ _ _ _ _ us hl => match us, hl with | [_], _ => rfl)
abbrev sN_check_parts : List PySem.Str := ["value"]
theorem sc_check_parts : FnScope sN_check_parts ["value"] (defScope (top 14)) := ⟨rfl, rfl, rfl, by decide +kernel, rfl, by decide +kernel, by decide +kernel⟩
def B_check_parts : SF := (sIf (bOr (bNot (tru (eCall 1 F_is_whole (aCons (eVar 0) aNil)))) (bNot (tst (eChain dLe dLe (eC (.int 1)) (eVar 0) (eC (.int (60)))))))
  (sRaise "BadNumber")
  sNop)
def F_check_parts : List D → Res D := runB 1 B_check_parts
theorem fn_check_parts (t : Tx P w K mg base) : Fn P w K mg base "check_parts" 2 (spF K 1 F_check_parts) := by
  obtain ⟨fd, F⟩ := t.c.def_ 5 (d := d_check_parts) rfl
  exact fn_of' (fn_mk (k := 1) (N := sN_check_parts) F sc_check_parts (B := B_check_parts) (fun cdv A outer s H E hr => ⟨_, _, (dss_one (gif (ω1 := []) (dw_dt (dw_or (dt_not (dt_tru (DE.ln (de_call (fn_is_whole t) hr (takes_of rfl rfl rfl rfl) (da_cons (gv 0 (pv 0)) da_nil))))) (dw_or1 (dt_not (dt_chain op_le op_le og_le og_le (DE.ln de_int) (DE.ln (gv 0 (pv 0))) (DE.ln (de_gint (t.int 50))))))))
    (dss_one (ds_raise (ω1 := []) (c := "BadNumber") (ps_raise rfl (takes_of rfl rfl rfl rfl) (t.own 33 55))))
    dss_nil))⟩)) F (t.glo 5) (F.bindsN fun _ _ _ _ _ _ us hl => match us, hl with | [_], _ => rfl)
abbrev sN_check_number : List PySem.Str := ["value"]
theorem sc_check_number : FnScope sN_check_number ["value"] (defScope (top 15)) := ⟨rfl, rfl, rfl, by decide +kernel, rfl, by decide +kernel, by decide +kernel⟩
def B_check_number : SF := (sIf (bOr (bNot (tru (eCall 1 F_is_whole (aCons (eVar 0) aNil)))) (bNot (tst (eChain dLe dLe (eC (.int 0)) (eVar 0) (eC (.int (4095)))))))
  (sRaise "BadNumber")
  sNop)
def F_check_number : List D → Res D := runB 1 B_check_number
theorem fn_check_number (t : Tx P w K mg base) : Fn P w K mg base "check_number" 2 (spF K 1 F_check_number) := by
  obtain ⟨fd, F⟩ := t.c.def_ 6 (d := d_check_number) rfl
  exact fn_of' (fn_mk (k := 1) (N := sN_check_number) F sc_check_number (B := B_check_number) (fun cdv A outer s H E hr => ⟨_, _, (dss_one (gif (ω1 := []) (dw_dt (dw_or (dt_not (dt_tru (DE.ln (de_call (fn_is_whole t) hr (takes_of rfl rfl rfl rfl) (da_cons (gv 0 (pv 0)) da_nil))))) (dw_or1 (dt_not (dt_chain op_le op_le og_le og_le (DE.ln de_int) (DE.ln (gv 0 (pv 0))) (DE.ln (de_gint (t.int 51))))))))
    (dss_one (ds_raise (ω1 := []) (c := "BadNumber") (ps_raise rfl (takes_of rfl rfl rfl rfl) (t.own 33 55))))
    dss_nil))⟩)) F (t.glo 6) (F.bindsN fun _ _ _ _ _ _ us hl => match us, hl with | [_], _ => rfl)
abbrev sN_check_numbers : List PySem.Str := ["parts", "value"]
theorem sc_check_numbers : FnScope sN_check_numbers ["parts", "value"] (defScope (top 16)) := ⟨rfl, rfl, rfl, by decide +kernel, rfl, by decide +kernel, by decide +kernel⟩
def B_check_numbers : SF := (sSeq (sDo (eCall 1 F_check_parts (aCons (eVar 0) aNil)))
  (sIf (bNot (tru (eCall 3 F_are_wholes (aCons (eVar 1) (aCons (eC (.int 0)) (aCons (eC (.int (4095))) aNil))))))
  (sRaise "BadNumber")
  sNop))
def F_check_numbers : List D → Res D := runB 2 B_check_numbers
theorem fn_check_numbers (t : Tx P w K mg base) : Fn P w K mg base "check_numbers" 3 (spF K 2 F_check_numbers) := by
  obtain ⟨fd, F⟩ := t.c.def_ 7 (d := d_check_numbers) rfl
  exact fn_of' (fn_mk (k := 2) (N := sN_check_numbers) F sc_check_numbers (B := B_check_numbers) (fun cdv A outer s H E hr => ⟨_, _, (dss_cons (gdo (de_call (fn_check_parts t) hr (takes_of rfl rfl rfl rfl) (da_cons (gv 0 (pv 0)) da_nil)))
    (dss_one (gif (ω1 := []) (dt_not (dt_tru (DE.ln (de_call (fn_are_wholes t) hr (takes_of rfl rfl rfl rfl) (da_cons (gv 1 (pv 1)) (da_cons de_int (da_cons (de_gint (t.int 51)) da_nil)))))))
    (dss_one (ds_raise (ω1 := []) (c := "BadNumber") (ps_raise rfl (takes_of rfl rfl rfl rfl) (t.own 33 55))))
    dss_nil)))⟩)) F (t.glo 7) (F.bindsN fun _ _ _ _ _ _ us hl => match us, hl with | [_, _], _ => rfl)
abbrev sN_row_by : List PySem.Str := ["parts", "number", "powers", "row", "k"]
theorem sc_row_by : FnScope sN_row_by ["parts", "number", "powers"] (defScope (top 17)) := ⟨rfl, rfl, rfl, by decide +kernel, rfl, by decide +kernel, by decide +kernel⟩
def B_row_by : SF := (sSeq (sIf (tst (eBin dLt (eVar 1) (eVar 0)))
  (sRet (eComp (iRange (aCons (eVar 0) aNil)) (bName 4) cYes (eCB dInt (aCons (eBin dEq (eVar 4) (eVar 1)) aNil)) [4]))
  sNop)
  (sSeq (sSet 3 (eComp (iRange (aCons (eVar 0) aNil)) (bName 4) cYes (eBin dMod (eBin dIx (eVar 2) (eBin dMod (eBin dAdd (eBin dMul (eVar 1) (eBin dAdd (eVar 4) (eC (.int 1)))) (eVar 4)) (eCB dLen (aCons (eVar 2) aNil)))) (eC (.int 2))) [4]))
  (sSeq (sIf (bNot (tru (eCB dAnyA (aCons (eVar 3) aNil))))
  (sPutL 3 (eBin dMod (eVar 1) (eVar 0)) (eC (.int 1)))
  sNop)
  (sRet (eVar 3)))))
def F_row_by : List D → Res D := runN 5 B_row_by
theorem fn_row_by (t : Tx P w K mg base) : Fn P w K mg base "row_by" 1 (spN K 3 F_row_by) := by
  obtain ⟨fd, F⟩ := t.c.def_ 8 (d := d_row_by) rfl
  exact fn_of' (fn_mkN (k := 0) (N := sN_row_by) F sc_row_by (B := B_row_by) (fun cdv A outer s H E hr => ⟨_, [], (dss_cons (gif (ω1 := []) (dt_cmp op_lt og_lt rfl (DE.ln (gv 1 (pv 1))) (DE.ln (gv 0 (pv 0))))
    (dss_one (gretN (glc sc_row_by.nd [("k", 4)] (gc1 (t.free 35) (DE.ln (gv 0 (pv 0)))) (blkOk_by (N := sN_row_by) (sc := (defScope (top 17))) (by decide +kernel)) (fun _ _ _ _ _ => (gn 4 sc_row_by.nd)) (fun _ _ _ _ _ => dts_nil) (fun _ _ _ _ _ => (gct call_int1 cg_int (t.free 42) (dl_cons (DE.ln (de_cmp (op_eqA hr.units) og_eqA rfl (DE.ln (gv 4 (pv 4))) (DE.ln (gv 1 (pv 1))))) dl_nil))))))
    dss_nil)
    (dss_cons (gnewLc (ω1 := [3]) 3 sc_row_by.nd [("k", 4)] (gc1 (t.free 35) (DE.ln (gv 0 (pv 0)))) (blkOk_by (N := sN_row_by) (sc := (defScope (top 17))) (by decide +kernel)) (fun _ _ _ _ _ => (gn 4 sc_row_by.nd)) (fun _ _ _ _ _ => dts_nil) (fun _ _ _ _ _ => (de_op op_mod og_mod (DE.ln (de_ix (DE.ln (gv 2 (pv 2))) (DE.ln (de_op op_mod og_mod (DE.ln (de_op op_addA og_addA (DE.ln (de_op op_mulA og_mulA (DE.ln (gv 1 (pv 1))) (DE.ln (de_op op_addA og_addA (DE.ln (gv 4 (pv 4))) (DE.ln de_int))))) (DE.ln (gv 4 (pv 4))))) (DE.ln (gcb call_lenA cg_len (t.free 47) (dl_cons (DE.ln (gv 2 (pv 2))) dl_nil))))))) (DE.ln de_int))))
    (dss_cons (gif (ω1 := [3]) (dt_not (dt_tru (DE.ln (gcb (cr_anyA rfl) cg_anyA (t.free 46) (dl_cons (go 3 (pv 3)) dl_nil)))))
    (dss_one (gputL 3 (pv 3) (de_op op_mod og_mod (DE.ln (gv 1 (pv 1))) (DE.ln (gv 0 (pv 0)))) de_int))
    dss_nil)
    (dss_one (gretV 3 (pv 3))))))⟩)) F (t.glo 8) (F.bindsN fun _ _ _ _ _ _ us hl => match us, hl with | [_, _, _], _ => rfl)
abbrev sN_added : List PySem.Str := ["first", "second", "a", "b"]
theorem sc_added : FnScope sN_added ["first", "second"] (defScope (top 18)) := ⟨rfl, rfl, rfl, by decide +kernel, rfl, by decide +kernel, by decide +kernel⟩
def B_added : SF := (sRet (eComp (iZipD (eVar 0) (eVar 1)) (bTup 2 (bCons (bName 2) (bCons (bName 3) bNil))) cYes (eBin dXor (eVar 2) (eVar 3)) [2, 3]))
def F_added : List D → Res D := runN 4 B_added
theorem fn_added (t : Tx P w K mg base) : Fn P w K mg base "added" 1 (spN K 2 F_added) := by
  obtain ⟨fd, F⟩ := t.c.def_ 9 (d := d_added) rfl
  exact fn_of' (fn_mkN (k := 0) (N := sN_added) F sc_added (B := B_added) (fun cdv A outer s H E hr => ⟨_, [], (dss_one (gretN (glc sc_added.nd [("a", 2), ("b", 3)] (gczip (t.free 48) (DE.ln (gv 0 (pv 0))) (DE.ln (gv 1 (pv 1)))) (blkOk_by (N := sN_added) (sc := (defScope (top 18))) (by decide +kernel)) (fun _ _ _ _ _ => (gtg (dgs_cons (gn 2 sc_added.nd) (dgs_cons (gn 3 sc_added.nd) dgs_nil)))) (fun _ _ _ _ _ => dts_nil) (fun _ _ _ _ _ => (de_op op_xor og_xor (DE.ln (gv 2 (pv 2))) (DE.ln (gv 3 (pv 3))))))))⟩)) F (t.glo 9) (F.bindsN fun _ _ _ _ _ _ us hl => match us, hl with | [_, _], _ => rfl)
abbrev sN_weight : List PySem.Str := ["row"]
theorem sc_weight : FnScope sN_weight ["row"] (defScope (top 19)) := ⟨rfl, rfl, rfl, by decide +kernel, rfl, by decide +kernel, by decide +kernel⟩
def B_weight : SF := (sRet (eCB dSum (aCons (eVar 0) aNil)))
def F_weight : List D → Res D := runB 1 B_weight
theorem fn_weight (t : Tx P w K mg base) : Fn P w K mg base "weight" 1 (spF K 1 F_weight) := by
  obtain ⟨fd, F⟩ := t.c.def_ 10 (d := d_weight) rfl
  exact fn_of' (fn_mk (k := 0) (N := sN_weight) F sc_weight (B := B_weight) (fun cdv A outer s H E hr => ⟨_, [], (dss_one (gretO (DE.ln (gcb (cr_sum rfl) cg_sum (t.free 36) (dl_cons (DE.ln (gv 0 (pv 0))) dl_nil)))))⟩)) F (t.glo 10) (F.bindsN fun _ _ _ _ _ _ us hl => match us, hl with | [_], _ => rfl)
abbrev sN_lead_of : List PySem.Str := ["row", "place", "bit"]
theorem sc_lead_of : FnScope sN_lead_of ["row"] (defScope (top 20)) := ⟨rfl, rfl, rfl, by decide +kernel, rfl, by decide +kernel, by decide +kernel⟩
def B_lead_of : SF := (sSeq (sFor (iEnumD (eVar 0)) (bTup 2 (bCons (bName 1) (bCons (bName 2) bNil)))
  (sIf (tst (eBin dEq (eVar 2) (eC (.int 1))))
  (sRet (eVar 1))
  sNop))
  (sRet (eC .non)))
def F_lead_of : List D → Res D := runB 3 B_lead_of
theorem fn_lead_of (t : Tx P w K mg base) : Fn P w K mg base "lead_of" 1 (spF K 1 F_lead_of) := by
  obtain ⟨fd, F⟩ := t.c.def_ 11 (d := d_lead_of) rfl
  exact fn_of' (fn_mk (k := 0) (N := sN_lead_of) F sc_lead_of (B := B_lead_of) (fun cdv A outer s H E hr => ⟨_, [], (dss_cons (gfor (ω1 := []) (passes_of rfl) (gien (t.free 37) (gv 0 (pv 0))) (gtg (dgs_cons (gn 1 sc_lead_of.nd) (dgs_cons (gn 2 sc_lead_of.nd) dgs_nil)))
    (dss_one (gif (ω1 := []) (dt_cmp (op_eqA hr.units) og_eqA rfl (DE.ln (gv 2 (pv 2))) (DE.ln de_int))
    (dss_one (gretO (DE.ln (gv 1 (pv 1)))))
    dss_nil)))
    (dss_one (gretO (DE.ln de_non))))⟩)) F (t.glo 11) (F.bindsN fun _ _ _ _ _ _ us hl => match us, hl with | [_], _ => rfl)
abbrev sN_reduced_by : List PySem.Str := ["known", "row", "words", "lead", "other", "told"]
theorem sc_reduced_by : FnScope sN_reduced_by ["known", "row", "words"] (defScope (top 21)) := ⟨rfl, rfl, rfl, by decide +kernel, rfl, by decide +kernel, by decide +kernel⟩
def B_reduced_by : SF := (sSeq (sFor (iSeq (eCB dSortK (aCons (eVar 0) aNil))) (bName 3)
  (sIf (tst (eBin dEq (eBin dIx (eVar 1) (eVar 3)) (eC (.int 1))))
  (sSeq (sAsg (eBin dGet (eVar 0) (eVar 3)) (bTup 2 (bCons (bName 4) (bCons (bName 5) bNil))))
  (sPar 1 2 (aCons (eCall 2 F_added (aCons (eVar 1) (aCons (eVar 4) aNil))) (aCons (eCall 2 F_added (aCons (eVar 2) (aCons (eVar 5) aNil))) aNil))))
  sNop))
  (sRet (eTup (aCons (eVar 1) (aCons (eVar 2) aNil)))))
def F_reduced_by : List D → Res D := runB 6 B_reduced_by
theorem fn_reduced_by (t : Tx P w K mg base) : Fn P w K mg base "reduced_by" 2 (spF K 3 F_reduced_by) := by
  obtain ⟨fd, F⟩ := t.c.def_ 12 (d := d_reduced_by) rfl
  exact fn_of' (fn_mk (k := 1) (N := sN_reduced_by) F sc_reduced_by (B := B_reduced_by) (fun cdv A outer s H E hr => ⟨_, [], (dss_cons (gfor (ω1 := []) (passes_of rfl) (di_seq (DN.sh (gcbN (call_sortedDI rfl) cg_sortK (t.free 38) (dl_cons (DE.ln (gv 0 (pv 0))) dl_nil)))) (gn 3 sc_reduced_by.nd)
    (dss_one (gif (ω1 := []) (dt_cmp (op_eqA hr.units) og_eqA rfl (DE.ln (de_ix (DE.ln (gv 1 (pv 1))) (DE.ln (gv 3 (pv 3))))) (DE.ln de_int))
    (dss_cons (gasg (de_dget (hu_of hr) (DE.ln (gv 0 (pv 0))) (DE.ln (gv 3 (pv 3))) (fun _ _ => rfl)) (gtg (dgs_cons (gn 4 sc_reduced_by.nd) (dgs_cons (gn 5 sc_reduced_by.nd) dgs_nil))))
    (dss_one (gpar 1 2 sc_reduced_by.nd (da_cons (DN.sh (dn_call (fn_added t) hr (takes_of rfl rfl rfl rfl) (da_cons (gv 1 (pv 1)) (da_cons (gv 4 (pv 4)) da_nil)))) (da_cons (DN.sh (dn_call (fn_added t) hr (takes_of rfl rfl rfl rfl) (da_cons (gv 2 (pv 2)) (da_cons (gv 5 (pv 5)) da_nil)))) da_nil)))))
    dss_nil)))
    (dss_one (gretO (DE.ln (gtup (da_cons (gv 1 (pv 1)) (da_cons (gv 2 (pv 2)) da_nil)))))))⟩)) F (t.glo 12) (F.bindsN fun _ _ _ _ _ _ us hl => match us, hl with | [_, _, _], _ => rfl)
abbrev sN_cleared_by : List PySem.Str := ["known", "lead", "row", "words", "found", "place", "other", "told"]
theorem sc_cleared_by : FnScope sN_cleared_by ["known", "lead", "row", "words"] (defScope (top 22)) := ⟨rfl, rfl, rfl, by decide +kernel, rfl, by decide +kernel, by decide +kernel⟩
def B_cleared_by : SF := (sSeq (sSet 4 (eC (.dct [])))
  (sSeq (sForI 0 (bTup 2 (bCons (bName 5) (bCons (bTup 2 (bCons (bName 6) (bCons (bName 7) bNil))) bNil)))
  (sIf (tst (eBin dEq (eBin dIx (eVar 6) (eVar 1)) (eC (.int 1))))
  (sPutK 4 (eVar 5) (eTup (aCons (eCall 2 F_added (aCons (eVar 6) (aCons (eVar 2) aNil))) (aCons (eCall 2 F_added (aCons (eVar 7) (aCons (eVar 3) aNil))) aNil))))
  (sPutK 4 (eVar 5) (eTup (aCons (eVar 6) (aCons (eVar 7) aNil))))))
  (sSeq (sPutK 4 (eVar 1) (eTup (aCons (eVar 2) (aCons (eVar 3) aNil))))
  (sRet (eVar 4)))))
def F_cleared_by : List D → Res D := runB 8 B_cleared_by
theorem fn_cleared_by (t : Tx P w K mg base) : Fn P w K mg base "cleared_by" 2 (spF K 4 F_cleared_by) := by
  obtain ⟨fd, F⟩ := t.c.def_ 13 (d := d_cleared_by) rfl
  exact fn_of' (fn_mk (k := 1) (N := sN_cleared_by) F sc_cleared_by (B := B_cleared_by) (fun cdv A outer s H E hr => ⟨_, [], (dss_cons (gnew (ω1 := [4]) 4 sc_cleared_by.nd dn_dict0)
    (dss_cons (gitems (ω1 := [4]) 0 (passes_of rfl) (pv 0) (gtg (dgs_cons (gn 5 sc_cleared_by.nd) (dgs_cons (gtg (dgs_cons (gn 6 sc_cleared_by.nd) (dgs_cons (gn 7 sc_cleared_by.nd) dgs_nil))) dgs_nil)))
    (dss_one (gif (ω1 := [4]) (dt_cmp (op_eqA hr.units) og_eqA rfl (DE.ln (de_ix (DE.ln (gv 6 (pv 6))) (DE.ln (gv 1 (pv 1))))) (DE.ln de_int))
    (dss_one (gputK 4 (hu_of hr) (pv 4) (gv 5 (pv 5)) (gtup (da_cons (DN.sh (dn_call (fn_added t) hr (takes_of rfl rfl rfl rfl) (da_cons (gv 6 (pv 6)) (da_cons (gv 2 (pv 2)) da_nil)))) (da_cons (DN.sh (dn_call (fn_added t) hr (takes_of rfl rfl rfl rfl) (da_cons (gv 7 (pv 7)) (da_cons (gv 3 (pv 3)) da_nil)))) da_nil)))))
    (dss_one (gputK 4 (hu_of hr) (pv 4) (gv 5 (pv 5)) (gtup (da_cons (gv 6 (pv 6)) (da_cons (gv 7 (pv 7)) da_nil))))))))
    (dss_cons (gputK 4 (hu_of hr) (pv 4) (gv 1 (pv 1)) (gtup (da_cons (gv 2 (pv 2)) (da_cons (gv 3 (pv 3)) da_nil))))
    (dss_one (gretO (go 4 (pv 4)))))))⟩)) F (t.glo 13) (F.bindsN fun _ _ _ _ _ _ us hl => match us, hl with | [_, _, _, _], _ => rfl)
abbrev sN_put_row : List PySem.Str := ["known", "row", "left", "_", "lead"]
theorem sc_put_row : FnScope sN_put_row ["known", "row"] (defScope (top 23)) := ⟨rfl, rfl, rfl, by decide +kernel, rfl, by decide +kernel, by decide +kernel⟩
def B_put_row : SF := (sSeq (sAsg (eCall 3 F_reduced_by (aCons (eVar 0) (aCons (eVar 1) (aCons (eLst aNil) aNil)))) (bTup 2 (bCons (bName 2) (bCons (bName 3) bNil))))
  (sSeq (sSet 4 (eCall 1 F_lead_of (aCons (eVar 2) aNil)))
  (sSeq (sIf (tst (eBin dIs (eVar 4) (eC .non)))
  (sRet (eTup (aCons (eVar 0) (aCons (eC (.bl false)) aNil))))
  sNop)
  (sRet (eTup (aCons (eCall 4 F_cleared_by (aCons (eVar 0) (aCons (eVar 4) (aCons (eVar 2) (aCons (eLst aNil) aNil))))) (aCons (eC (.bl true)) aNil)))))))
def F_put_row : List D → Res D := runB 5 B_put_row
theorem fn_put_row (t : Tx P w K mg base) : Fn P w K mg base "put_row" 3 (spF K 2 F_put_row) := by
  obtain ⟨fd, F⟩ := t.c.def_ 14 (d := d_put_row) rfl
  exact fn_of' (fn_mk (k := 2) (N := sN_put_row) F sc_put_row (B := B_put_row) (fun cdv A outer s H E hr => ⟨_, [], (dss_cons (gasg (de_call (fn_reduced_by t) hr (takes_of rfl rfl rfl rfl) (da_cons (gv 0 (pv 0)) (da_cons (gv 1 (pv 1)) (da_cons (DN.sh (glst da_nil)) da_nil)))) (gtg (dgs_cons (gn 2 sc_put_row.nd) (dgs_cons (gn 3 sc_put_row.nd) dgs_nil))))
    (dss_cons (gset (ω1 := []) 4 sc_put_row.nd (de_call (fn_lead_of t) hr (takes_of rfl rfl rfl rfl) (da_cons (gv 2 (pv 2)) da_nil)))
    (dss_cons (gif (ω1 := []) (dt_cmp op_isA og_isA rfl (DE.ln (gv 4 (pv 4))) (DE.ln de_non))
    (dss_one (gretO (DE.ln (gtup (da_cons (gv 0 (pv 0)) (da_cons de_bl da_nil))))))
    dss_nil)
    (dss_one (gretO (DE.ln (gtup (da_cons (de_call (fn_cleared_by t) hr (takes_of rfl rfl rfl rfl) (da_cons (gv 0 (pv 0)) (da_cons (gv 4 (pv 4)) (da_cons (gv 2 (pv 2)) (da_cons (DN.sh (glst da_nil)) da_nil))))) (da_cons de_bl da_nil)))))))))⟩)) F (t.glo 14) (F.bindsN fun _ _ _ _ _ _ us hl => match us, hl with | [_, _], _ => rfl)
abbrev sN_least_numbers : List PySem.Str := ["parts", "numbers", "powers", "known", "found", "number", "new"]
theorem sc_least_numbers : FnScope sN_least_numbers ["parts", "numbers"] (defScope (top 24)) := ⟨rfl, rfl, rfl, by decide +kernel, rfl, by decide +kernel, by decide +kernel⟩
def B_least_numbers : SF := (sSeq (sDo (eCall 2 F_check_numbers (aCons (eVar 0) (aCons (eVar 1) aNil))))
  (sSeq (sSet 2 (eCall 1 F_powers_of_two (aCons (eC (.int (285))) aNil)))
  (sSeq (sSet 3 (eC (.dct [])))
  (sSeq (sSet 4 (eLst aNil))
  (sSeq (sFor (iSeq (eVar 1)) (bName 5)
  (sSeq (sAsg (eCall 2 F_put_row (aCons (eVar 3) (aCons (eCall 3 F_row_by (aCons (eVar 0) (aCons (eVar 5) (aCons (eVar 2) aNil)))) aNil))) (bTup 2 (bCons (bName 3) (bCons (bName 6) bNil))))
  (sIf (tru (eVar 6))
  (sApp 4 (eVar 5))
  sNop)))
  (sRet (eVar 4)))))))
def F_least_numbers : List D → Res D := runN 7 B_least_numbers
theorem fn_least_numbers (t : Tx P w K mg base) : Fn P w K mg base "least_numbers" 4 (spN K 2 F_least_numbers) := by
  obtain ⟨fd, F⟩ := t.c.def_ 15 (d := d_least_numbers) rfl
  exact fn_of' (fn_mkN (k := 3) (N := sN_least_numbers) F sc_least_numbers (B := B_least_numbers) (fun cdv A outer s H E hr => ⟨_, [], (dss_cons (gdo (de_call (fn_check_numbers t) hr (takes_of rfl rfl rfl rfl) (da_cons (gv 0 (pv 0)) (da_cons (gv 1 (pv 1)) da_nil))))
    (dss_cons (gset (ω1 := []) 2 sc_least_numbers.nd (DN.sh (dn_call (fn_powers_of_two t) hr (takes_of rfl rfl rfl rfl) (da_cons (de_gint (t.int 52)) da_nil))))
    (dss_cons (gset (ω1 := []) 3 sc_least_numbers.nd (DN.sh dn_dict0))
    (dss_cons (gnew (ω1 := [4]) 4 sc_least_numbers.nd (glst da_nil))
    (dss_cons (gfor (ω1 := [4]) (passes_of rfl) (di_seq (gv 1 (pv 1))) (gn 5 sc_least_numbers.nd)
    (dss_cons (gasg (de_call (fn_put_row t) hr (takes_of rfl rfl rfl rfl) (da_cons (gv 3 (pv 3)) (da_cons (DN.sh (dn_call (fn_row_by t) hr (takes_of rfl rfl rfl rfl) (da_cons (gv 0 (pv 0)) (da_cons (gv 5 (pv 5)) (da_cons (gv 2 (pv 2)) da_nil))))) da_nil))) (gtg (dgs_cons (gn 3 sc_least_numbers.nd) (dgs_cons (gn 6 sc_least_numbers.nd) dgs_nil))))
    (dss_one (gif (ω1 := [4]) (dt_tru (DE.ln (gv 6 (pv 6))))
    (dss_one (gapp 4 (pv 4) (gv 5 (pv 5))))
    dss_nil))))
    (dss_one (gretV 4 (pv 4))))))))⟩)) F (t.glo 15) (F.bindsN fun _ _ _ _ _ _ us hl => match us, hl with | [_, _], _ => rfl)
abbrev sN_check_begin : List PySem.Str := ["parts", "begin"]
theorem sc_check_begin : FnScope sN_check_begin ["parts", "begin"] (defScope (top 27)) := ⟨rfl, rfl, rfl, by decide +kernel, rfl, by decide +kernel, by decide +kernel⟩
def B_check_begin : SF := (sSeq (sDo (eCall 1 F_check_parts (aCons (eVar 0) aNil)))
  (sDo (eCall 1 F_check_number (aCons (eVar 1) aNil))))
def F_check_begin : List D → Res D := runB 2 B_check_begin
theorem fn_check_begin (t : Tx P w K mg base) : Fn P w K mg base "check_begin" 3 (spF K 2 F_check_begin) := by
  obtain ⟨fd, F⟩ := t.c.def_ 16 (d := d_check_begin) rfl
  exact fn_of' (fn_mk (k := 2) (N := sN_check_begin) F sc_check_begin (B := B_check_begin) (fun cdv A outer s H E hr => ⟨_, _, (dss_cons (gdo (de_call (fn_check_parts t) hr (takes_of rfl rfl rfl rfl) (da_cons (gv 0 (pv 0)) da_nil)))
    (dss_one (gdo (de_call (fn_check_number t) hr (takes_of rfl rfl rfl rfl) (da_cons (gv 1 (pv 1)) da_nil)))))⟩)) F (t.glo 16) (F.bindsN fun _ _ _ _ _ _ us hl => match us, hl with | [_, _], _ => rfl)
abbrev sN_needed_from : List PySem.Str := ["parts", "begin", "powers", "known", "last", "number", "_"]
theorem sc_needed_from : FnScope sN_needed_from ["parts", "begin"] (defScope (top 28)) := ⟨rfl, rfl, rfl, by decide +kernel, rfl, by decide +kernel, by decide +kernel⟩
def B_needed_from : SF := (sSeq (sDo (eCall 2 F_check_begin (aCons (eVar 0) (aCons (eVar 1) aNil))))
  (sSeq (sSet 2 (eCall 1 F_powers_of_two (aCons (eC (.int (285))) aNil)))
  (sSeq (sSet 3 (eC (.dct [])))
  (sSeq (sSet 4 (eCB dMinA (aCons (eBin dAdd (eC (.int (4095))) (eC (.int 1))) (aCons (eBin dAdd (eVar 1) (eC (.int (400)))) aNil))))
  (sSeq (sFor (iRange (aCons (eVar 1) (aCons (eVar 4) aNil))) (bName 5)
  (sSeq (sAsg (eCall 2 F_put_row (aCons (eVar 3) (aCons (eCall 3 F_row_by (aCons (eVar 0) (aCons (eVar 5) (aCons (eVar 2) aNil)))) aNil))) (bTup 2 (bCons (bName 3) (bCons (bName 6) bNil))))
  (sIf (tst (eBin dEq (eCB dLen (aCons (eVar 3) aNil)) (eVar 0)))
  (sRet (eBin dSub (eBin dAdd (eVar 5) (eC (.int 1))) (eVar 1)))
  sNop)))
  (sRet (eC .non)))))))
def F_needed_from : List D → Res D := runB 7 B_needed_from
theorem fn_needed_from (t : Tx P w K mg base) : Fn P w K mg base "needed_from" 4 (spF K 2 F_needed_from) := by
  obtain ⟨fd, F⟩ := t.c.def_ 17 (d := d_needed_from) rfl
  exact fn_of' (fn_mk (k := 3) (N := sN_needed_from) F sc_needed_from (B := B_needed_from) (fun cdv A outer s H E hr => ⟨_, [], (dss_cons (gdo (de_call (fn_check_begin t) hr (takes_of rfl rfl rfl rfl) (da_cons (gv 0 (pv 0)) (da_cons (gv 1 (pv 1)) da_nil))))
    (dss_cons (gset (ω1 := []) 2 sc_needed_from.nd (DN.sh (dn_call (fn_powers_of_two t) hr (takes_of rfl rfl rfl rfl) (da_cons (de_gint (t.int 52)) da_nil))))
    (dss_cons (gset (ω1 := []) 3 sc_needed_from.nd (DN.sh dn_dict0))
    (dss_cons (gset (ω1 := []) 4 sc_needed_from.nd (gcb (cr_minA rfl) cg_minA (t.free 39) (dl_cons (DE.ln (de_op op_addA og_addA (DE.ln (de_gint (t.int 51))) (DE.ln de_int))) (dl_cons (DE.ln (de_op op_addA og_addA (DE.ln (gv 1 (pv 1))) (DE.ln (de_gint (t.int 53))))) dl_nil))))
    (dss_cons (gfor (ω1 := []) (passes_of rfl) (gi2 (t.free 35) (DE.ln (gv 1 (pv 1))) (DE.ln (gv 4 (pv 4)))) (gn 5 sc_needed_from.nd)
    (dss_cons (gasg (de_call (fn_put_row t) hr (takes_of rfl rfl rfl rfl) (da_cons (gv 3 (pv 3)) (da_cons (DN.sh (dn_call (fn_row_by t) hr (takes_of rfl rfl rfl rfl) (da_cons (gv 0 (pv 0)) (da_cons (gv 5 (pv 5)) (da_cons (gv 2 (pv 2)) da_nil))))) da_nil))) (gtg (dgs_cons (gn 3 sc_needed_from.nd) (dgs_cons (gn 6 sc_needed_from.nd) dgs_nil))))
    (dss_one (gif (ω1 := []) (dt_cmp (op_eqA hr.units) og_eqA rfl (DE.ln (gcb call_lenA cg_len (t.free 47) (dl_cons (DE.ln (gv 3 (pv 3))) dl_nil))) (DE.ln (gv 0 (pv 0))))
    (dss_one (gretO (DE.ln (de_op op_sub og_sub (DE.ln (de_op op_addA og_addA (DE.ln (gv 5 (pv 5))) (DE.ln de_int))) (DE.ln (gv 1 (pv 1)))))))
    dss_nil))))
    (dss_one (gretO (DE.ln de_non))))))))⟩)) F (t.glo 17) (F.bindsN fun _ _ _ _ _ _ us hl => match us, hl with | [_, _], _ => rfl)
abbrev sN_useful_from : List PySem.Str := ["parts", "begin", "count"]
theorem sc_useful_from : FnScope sN_useful_from ["parts", "begin", "count"] (defScope (top 29)) := ⟨rfl, rfl, rfl, by decide +kernel, rfl, by decide +kernel, by decide +kernel⟩
def B_useful_from : SF := (sSeq (sDo (eCall 2 F_check_begin (aCons (eVar 0) (aCons (eVar 1) aNil))))
  (sSeq (sIf (bOr (bNot (tru (eCall 1 F_is_whole (aCons (eVar 2) aNil)))) (bOr (bNot (tst (eChain dLe dLe (eC (.int 0)) (eVar 2) (eC (.int (400)))))) (tst (eBin dGt (eBin dAdd (eVar 1) (eVar 2)) (eBin dAdd (eC (.int (4095))) (eC (.int 1)))))))
  (sRaise "BadNumber")
  sNop)
  (sRet (eCall 2 F_least_numbers (aCons (eVar 0) (aCons (eRgL (aCons (eVar 1) (aCons (eBin dAdd (eVar 1) (eVar 2)) aNil))) aNil))))))
def F_useful_from : List D → Res D := runN 3 B_useful_from
theorem fn_useful_from (t : Tx P w K mg base) : Fn P w K mg base "useful_from" 5 (spN K 3 F_useful_from) := by
  obtain ⟨fd, F⟩ := t.c.def_ 18 (d := d_useful_from) rfl
  exact fn_of' (fn_mkN (k := 4) (N := sN_useful_from) F sc_useful_from (B := B_useful_from) (fun cdv A outer s H E hr => ⟨_, [], (dss_cons (gdo (de_call (fn_check_begin t) hr (takes_of rfl rfl rfl rfl) (da_cons (gv 0 (pv 0)) (da_cons (gv 1 (pv 1)) da_nil))))
    (dss_cons (gif (ω1 := []) (dw_dt (dw_or (dt_not (dt_tru (DE.ln (de_call (fn_is_whole t) hr (takes_of rfl rfl rfl rfl) (da_cons (gv 2 (pv 2)) da_nil))))) (dw_or (dt_not (dt_chain op_le op_le og_le og_le (DE.ln de_int) (DE.ln (gv 2 (pv 2))) (DE.ln (de_gint (t.int 53))))) (dw_or1 (dt_cmp op_gt og_gt rfl (DE.ln (de_op op_addA og_addA (DE.ln (gv 1 (pv 1))) (DE.ln (gv 2 (pv 2))))) (DE.ln (de_op op_addA og_addA (DE.ln (de_gint (t.int 51))) (DE.ln de_int))))))))
    (dss_one (ds_raise (ω1 := []) (c := "BadNumber") (ps_raise rfl (takes_of rfl rfl rfl rfl) (t.own 33 55))))
    dss_nil)
    (dss_one (gretN (dn_call (fn_least_numbers t) hr (takes_of rfl rfl rfl rfl) (da_cons (gv 0 (pv 0)) (da_cons (DN.sh (glr2 (t.free 44) (t.free 35) (DE.ln (gv 1 (pv 1))) (DE.ln (de_op op_addA og_addA (DE.ln (gv 1 (pv 1))) (DE.ln (gv 2 (pv 2))))))) da_nil)))))))⟩)) F (t.glo 18) (F.bindsN fun _ _ _ _ _ _ us hl => match us, hl with | [_, _, _], _ => rfl)
abbrev sN_worst_begin : List PySem.Str := ["parts", "begins", "best", "begin", "needed"]
theorem sc_worst_begin : FnScope sN_worst_begin ["parts", "begins"] (defScope (top 30)) := ⟨rfl, rfl, rfl, by decide +kernel, rfl, by decide +kernel, by decide +kernel⟩
def B_worst_begin : SF := (sSeq (sDo (eCall 2 F_check_numbers (aCons (eVar 0) (aCons (eVar 1) aNil))))
  (sSeq (sSet 2 (eC .non))
  (sSeq (sFor (iSeq (eVar 1)) (bName 3)
  (sSeq (sSet 4 (eCall 2 F_needed_from (aCons (eVar 0) (aCons (eVar 3) aNil))))
  (sSeq (sSet 4 (eIf (tst (eBin dIs (eVar 4) (eC .non))) (eBin dAdd (eC (.int (400))) (eC (.int 1))) (eVar 4)))
  (sIf (bOr (tst (eBin dIs (eVar 2) (eC .non))) (tst (eBin dGt (eVar 4) (eBin dIx (eVar 2) (eC (.int 0))))))
  (sSet 2 (eTup (aCons (eVar 4) (aCons (eVar 3) aNil))))
  sNop))))
  (sRet (eVar 2)))))
def F_worst_begin : List D → Res D := runB 5 B_worst_begin
theorem fn_worst_begin (t : Tx P w K mg base) : Fn P w K mg base "worst_begin" 5 (spF K 2 F_worst_begin) := by
  obtain ⟨fd, F⟩ := t.c.def_ 19 (d := d_worst_begin) rfl
  exact fn_of' (fn_mk (k := 4) (N := sN_worst_begin) F sc_worst_begin (B := B_worst_begin) (fun cdv A outer s H E hr => ⟨_, [], (dss_cons (gdo (de_call (fn_check_numbers t) hr (takes_of rfl rfl rfl rfl) (da_cons (gv 0 (pv 0)) (da_cons (gv 1 (pv 1)) da_nil))))
    (dss_cons (gset (ω1 := []) 2 sc_worst_begin.nd de_non)
    (dss_cons (gfor (ω1 := []) (passes_of rfl) (di_seq (gv 1 (pv 1))) (gn 3 sc_worst_begin.nd)
    (dss_cons (gset (ω1 := []) 4 sc_worst_begin.nd (de_call (fn_needed_from t) hr (takes_of rfl rfl rfl rfl) (da_cons (gv 0 (pv 0)) (da_cons (gv 3 (pv 3)) da_nil))))
    (dss_cons (gset (ω1 := []) 4 sc_worst_begin.nd (de_if (dt_cmp op_isA og_isA rfl (DE.ln (gv 4 (pv 4))) (DE.ln de_non)) (de_op op_addA og_addA (DE.ln (de_gint (t.int 53))) (DE.ln de_int)) (gv 4 (pv 4))))
    (dss_one (gif (ω1 := []) (dw_dt (dw_or (dt_cmp op_isA og_isA rfl (DE.ln (gv 2 (pv 2))) (DE.ln de_non)) (dw_or1 (dt_cmp op_gt og_gt rfl (DE.ln (gv 4 (pv 4))) (DE.ln (de_ix (DE.ln (gv 2 (pv 2))) (DE.ln de_int)))))))
    (dss_one (gset (ω1 := []) 2 sc_worst_begin.nd (gtup (da_cons (gv 4 (pv 4)) (da_cons (gv 3 (pv 3)) da_nil)))))
    dss_nil)))))
    (dss_one (gretO (DE.ln (gv 2 (pv 2))))))))⟩)) F (t.glo 19) (F.bindsN fun _ _ _ _ _ _ us hl => match us, hl with | [_, _], _ => rfl)
abbrev sN_weights_from : List PySem.Str := ["parts", "begin", "count", "powers", "number"]
theorem sc_weights_from : FnScope sN_weights_from ["parts", "begin", "count"] (defScope (top 31)) := ⟨rfl, rfl, rfl, by decide +kernel, rfl, by decide +kernel, by decide +kernel⟩
def B_weights_from : SF := (sSeq (sDo (eCall 2 F_check_begin (aCons (eVar 0) (aCons (eVar 1) aNil))))
  (sSeq (sIf (bOr (bNot (tru (eCall 1 F_is_whole (aCons (eVar 2) aNil)))) (bOr (bNot (tst (eChain dLe dLe (eC (.int 0)) (eVar 2) (eC (.int (400)))))) (tst (eBin dGt (eBin dAdd (eVar 1) (eVar 2)) (eBin dAdd (eC (.int (4095))) (eC (.int 1)))))))
  (sRaise "BadNumber")
  sNop)
  (sSeq (sSet 3 (eCall 1 F_powers_of_two (aCons (eC (.int (285))) aNil)))
  (sRet (eComp (iRange (aCons (eVar 1) (aCons (eBin dAdd (eVar 1) (eVar 2)) aNil))) (bName 4) cYes (eCall 1 F_weight (aCons (eCall 3 F_row_by (aCons (eVar 0) (aCons (eVar 4) (aCons (eVar 3) aNil)))) aNil)) [4])))))
def F_weights_from : List D → Res D := runN 5 B_weights_from
theorem fn_weights_from (t : Tx P w K mg base) : Fn P w K mg base "weights_from" 4 (spN K 3 F_weights_from) := by
  obtain ⟨fd, F⟩ := t.c.def_ 20 (d := d_weights_from) rfl
  exact fn_of' (fn_mkN (k := 3) (N := sN_weights_from) F sc_weights_from (B := B_weights_from) (fun cdv A outer s H E hr => ⟨_, [], (dss_cons (gdo (de_call (fn_check_begin t) hr (takes_of rfl rfl rfl rfl) (da_cons (gv 0 (pv 0)) (da_cons (gv 1 (pv 1)) da_nil))))
    (dss_cons (gif (ω1 := []) (dw_dt (dw_or (dt_not (dt_tru (DE.ln (de_call (fn_is_whole t) hr (takes_of rfl rfl rfl rfl) (da_cons (gv 2 (pv 2)) da_nil))))) (dw_or (dt_not (dt_chain op_le op_le og_le og_le (DE.ln de_int) (DE.ln (gv 2 (pv 2))) (DE.ln (de_gint (t.int 53))))) (dw_or1 (dt_cmp op_gt og_gt rfl (DE.ln (de_op op_addA og_addA (DE.ln (gv 1 (pv 1))) (DE.ln (gv 2 (pv 2))))) (DE.ln (de_op op_addA og_addA (DE.ln (de_gint (t.int 51))) (DE.ln de_int))))))))
    (dss_one (ds_raise (ω1 := []) (c := "BadNumber") (ps_raise rfl (takes_of rfl rfl rfl rfl) (t.own 33 55))))
    dss_nil)
    (dss_cons (gset (ω1 := []) 3 sc_weights_from.nd (DN.sh (dn_call (fn_powers_of_two t) hr (takes_of rfl rfl rfl rfl) (da_cons (de_gint (t.int 52)) da_nil))))
    (dss_one (gretN (glc sc_weights_from.nd [("number", 4)] (gc2 (t.free 35) (DE.ln (gv 1 (pv 1))) (DE.ln (de_op op_addA og_addA (DE.ln (gv 1 (pv 1))) (DE.ln (gv 2 (pv 2)))))) (blkOk_by (N := sN_weights_from) (sc := (defScope (top 31))) (by decide +kernel)) (fun _ _ _ _ _ => (gn 4 sc_weights_from.nd)) (fun _ _ _ _ _ => dts_nil) (fun _ _ _ _ _ => (de_call (fn_weight t) hr takes0 (da_cons (DN.sh (dn_call (fn_row_by t) hr takes0 (da_cons (gv 0 (pv 0)) (da_cons (gv 4 (pv 4)) (da_cons (gv 3 (pv 3)) da_nil))))) da_nil)))))))))⟩)) F (t.glo 20) (F.bindsN fun _ _ _ _ _ _ us hl => match us, hl with | [_, _, _], _ => rfl)
abbrev sN_overhead : List PySem.Str := ["parts", "begin", "needed"]
theorem sc_overhead : FnScope sN_overhead ["parts", "begin"] (defScope (top 32)) := ⟨rfl, rfl, rfl, by decide +kernel, rfl, by decide +kernel, by decide +kernel⟩
def B_overhead : SF := (sSeq (sSet 2 (eCall 2 F_needed_from (aCons (eVar 0) (aCons (eVar 1) aNil))))
  (sRet (eIf (tst (eBin dIs (eVar 2) (eC .non))) (eC .non) (eBin dSub (eVar 2) (eVar 0)))))
def F_overhead : List D → Res D := runB 3 B_overhead
theorem fn_overhead (t : Tx P w K mg base) : Fn P w K mg base "overhead" 5 (spF K 2 F_overhead) := by
  obtain ⟨fd, F⟩ := t.c.def_ 21 (d := d_overhead) rfl
  exact fn_of' (fn_mk (k := 4) (N := sN_overhead) F sc_overhead (B := B_overhead) (fun cdv A outer s H E hr => ⟨_, [], (dss_cons (gset (ω1 := []) 2 sc_overhead.nd (de_call (fn_needed_from t) hr (takes_of rfl rfl rfl rfl) (da_cons (gv 0 (pv 0)) (da_cons (gv 1 (pv 1)) da_nil))))
    (dss_one (gretO (DE.ln (de_if (dt_cmp op_isA og_isA rfl (DE.ln (gv 2 (pv 2))) (DE.ln de_non)) de_non (de_op op_sub og_sub (DE.ln (gv 2 (pv 2))) (DE.ln (gv 0 (pv 0)))))))))⟩)) F (t.glo 21) (F.bindsN fun _ _ _ _ _ _ us hl => match us, hl with | [_, _], _ => rfl)
abbrev sN__law_numbers : List PySem.Str := ["script", "at", "count", "cell", "numbers", "k", "mixed"]
theorem sc__law_numbers : FnScope sN__law_numbers ["script", "at", "count"] (defScope (top 34)) := ⟨rfl, rfl, rfl, by decide +kernel, rfl, by decide +kernel, by decide +kernel⟩
def B__law_numbers : SF := (sSeq (sSet 3 (eBin dMul (eC (.int 1000003)) (eBin dAdd (eVar 1) (eC (.int 1)))))
  (sSeq (sIf (tst (eBin dLt (eVar 1) (eCB dLen (aCons (eVar 0) aNil))))
  (sSet 3 (eCB dInt (aCons (eBin dIx (eVar 0) (eVar 1)) aNil)))
  sNop)
  (sSeq (sIf (tst (eBin dLt (eVar 3) (eC (.int 0))))
  (sSet 3 (eBin dSub (eC (.int 1)) (eBin dMul (eC (.int 2)) (eVar 3))))
  sNop)
  (sSeq (sSet 4 (eLst aNil))
  (sSeq (sFor (iRange (aCons (eVar 2) aNil)) (bName 5)
  (sIf (tst (eBin dGe (eVar 3) (eBin dPow (eC (.int 10)) (eC (.int 18)))))
  (sSeq (sApp 4 (eBin dMod (eVar 3) (eC (.int 1009))))
  (sSet 3 (eBin dDiv (eVar 3) (eC (.int 1009)))))
  (sSeq (sSet 6 (eBin dMod (eBin dAdd (eBin dAdd (eBin dMul (eVar 3) (eC (.int 48271))) (eBin dMul (eBin dAdd (eVar 5) (eC (.int 1))) (eC (.int 69621)))) (eBin dMul (eVar 1) (eC (.int 4001)))) (eC (.int 2147483647))))
  (sSeq (sSet 6 (eBin dMod (eBin dAdd (eBin dMul (eVar 6) (eVar 6)) (eBin dMul (eC (.int 16807)) (eBin dAdd (eVar 5) (eC (.int 3))))) (eC (.int 2147483629))))
  (sApp 4 (eBin dMod (eBin dDiv (eVar 6) (eC (.int 7))) (eC (.int 1009))))))))
  (sRet (eVar 4)))))))
def F__law_numbers : List D → Res D := runN 7 B__law_numbers
theorem fn__law_numbers (t : Tx P w K mg base) : Fn P w K mg base "_law_numbers" 1 (spN K 3 F__law_numbers) := by
  obtain ⟨fd, F⟩ := t.c.def_ 22 (d := d__law_numbers) rfl
  exact fn_of' (fn_mkN (k := 0) (N := sN__law_numbers) F sc__law_numbers (B := B__law_numbers) (fun cdv A outer s H E hr => ⟨_, [], (dss_cons (gset (ω1 := []) 3 sc__law_numbers.nd (de_op op_mulA og_mulA (DE.ln de_int) (DE.ln (de_op op_addA og_addA (DE.ln (gv 1 (pv 1))) (DE.ln de_int)))))
    (dss_cons (gif (ω1 := []) (dt_cmp op_lt og_lt rfl (DE.ln (gv 1 (pv 1))) (DE.ln (gcb call_lenA cg_len (t.free 47) (dl_cons (DE.ln (gv 0 (pv 0))) dl_nil))))
    (dss_one (gset (ω1 := []) 3 sc__law_numbers.nd (gct call_int1 cg_int (t.free 42) (dl_cons (DE.ln (de_ix (DE.ln (gv 0 (pv 0))) (DE.ln (gv 1 (pv 1))))) dl_nil))))
    dss_nil)
    (dss_cons (gif (ω1 := []) (dt_cmp op_lt og_lt rfl (DE.ln (gv 3 (pv 3))) (DE.ln de_int))
    (dss_one (gset (ω1 := []) 3 sc__law_numbers.nd (de_op op_sub og_sub (DE.ln de_int) (DE.ln (de_op op_mulA og_mulA (DE.ln de_int) (DE.ln (gv 3 (pv 3))))))))
    dss_nil)
    (dss_cons (gnew (ω1 := [4]) 4 sc__law_numbers.nd (glst da_nil))
    (dss_cons (gfor (ω1 := [4]) (passes_of rfl) (gi1 (t.free 35) (DE.ln (gv 2 (pv 2)))) (gn 5 sc__law_numbers.nd)
    (dss_one (gif (ω1 := [4]) (dt_cmp op_ge og_ge rfl (DE.ln (gv 3 (pv 3))) (DE.ln (de_op op_pow og_pow (DE.ln de_int) (DE.ln de_int))))
    (dss_cons (gapp 4 (pv 4) (de_op op_mod og_mod (DE.ln (gv 3 (pv 3))) (DE.ln de_int)))
    (dss_one (gset (ω1 := [4]) 3 sc__law_numbers.nd (de_op op_fdiv og_div (DE.ln (gv 3 (pv 3))) (DE.ln de_int)))))
    (dss_cons (gset (ω1 := [4]) 6 sc__law_numbers.nd (de_op op_mod og_mod (DE.ln (de_op op_addA og_addA (DE.ln (de_op op_addA og_addA (DE.ln (de_op op_mulA og_mulA (DE.ln (gv 3 (pv 3))) (DE.ln de_int))) (DE.ln (de_op op_mulA og_mulA (DE.ln (de_op op_addA og_addA (DE.ln (gv 5 (pv 5))) (DE.ln de_int))) (DE.ln de_int))))) (DE.ln (de_op op_mulA og_mulA (DE.ln (gv 1 (pv 1))) (DE.ln de_int))))) (DE.ln de_int)))
    (dss_cons (gset (ω1 := [4]) 6 sc__law_numbers.nd (de_op op_mod og_mod (DE.ln (de_op op_addA og_addA (DE.ln (de_op op_mulA og_mulA (DE.ln (gv 6 (pv 6))) (DE.ln (gv 6 (pv 6))))) (DE.ln (de_op op_mulA og_mulA (DE.ln de_int) (DE.ln (de_op op_addA og_addA (DE.ln (gv 5 (pv 5))) (DE.ln de_int))))))) (DE.ln de_int)))
    (dss_one (gapp 4 (pv 4) (de_op op_mod og_mod (DE.ln (de_op op_fdiv og_div (DE.ln (gv 6 (pv 6))) (DE.ln de_int))) (DE.ln de_int)))))))))
    (dss_one (gretV 4 (pv 4))))))))⟩)) F (t.glo 22) (F.bindsN fun _ _ _ _ _ _ us hl => match us, hl with | [_, _, _], _ => rfl)
abbrev sN__law_same : List PySem.Str := ["value", "due", "k"]
theorem sc__law_same : FnScope sN__law_same ["value", "due"] (defScope (top 35)) := ⟨rfl, rfl, rfl, by decide +kernel, rfl, by decide +kernel, by decide +kernel⟩
def B__law_same (F__law_same : List D → Res D) : SF := (sSeq (sIf (tst (eBin dIs (eVar 1) (eC .non)))
  (sRet (eBin dIs (eVar 0) (eC .non)))
  sNop)
  (sSeq (sIf (tru (eCB dIsi (aCons (eVar 1) (aCons (eC (.raw (.ty "bool"))) aNil))))
  (sRet (eAnd (eCB dIsi (aCons (eVar 0) (aCons (eC (.raw (.ty "bool"))) aNil))) (eBin dEq (eVar 0) (eVar 1))))
  sNop)
  (sSeq (sIf (tru (eCB dIsi (aCons (eVar 1) (aCons (eC (.raw (.ty "int"))) aNil))))
  (sRet (eAnd (eCB dIsi (aCons (eVar 0) (aCons (eC (.raw (.ty "int"))) aNil))) (eAnd (eNot (eCB dIsi (aCons (eVar 0) (aCons (eC (.raw (.ty "bool"))) aNil)))) (eBin dEq (eVar 0) (eVar 1)))))
  sNop)
  (sSeq (sIf (tru (eCB dIsi (aCons (eVar 1) (aCons (eC (.raw (.ty "str"))) aNil))))
  (sRet (eAnd (eCB dIsi (aCons (eVar 0) (aCons (eC (.raw (.ty "str"))) aNil))) (eBin dEq (eVar 0) (eVar 1))))
  sNop)
  (sSeq (sIf (bOr (bAnd (tru (eCB dIsi (aCons (eVar 1) (aCons (eC (.raw (.ty "list"))) aNil)))) (bNot (tru (eCB dIsi (aCons (eVar 0) (aCons (eC (.raw (.ty "list"))) aNil)))))) (bAnd (tru (eCB dIsi (aCons (eVar 1) (aCons (eC (.raw (.ty "tuple"))) aNil)))) (bNot (tru (eCB dIsi (aCons (eVar 0) (aCons (eC (.raw (.ty "tuple"))) aNil)))))))
  (sRet (eC (.bl false)))
  sNop)
  (sSeq (sIf (tst (eBin dNe (eCB dLen (aCons (eVar 0) aNil)) (eCB dLen (aCons (eVar 1) aNil))))
  (sRet (eC (.bl false)))
  sNop)
  (sSeq (sFor (iRange (aCons (eCB dLen (aCons (eVar 1) aNil)) aNil)) (bName 2)
  (sIf (bNot (tru (eCall 2 F__law_same (aCons (eBin dIx (eVar 0) (eVar 2)) (aCons (eBin dIx (eVar 1) (eVar 2)) aNil)))))
  (sRet (eC (.bl false)))
  sNop))
  (sRet (eC (.bl true))))))))))
def F__law_same : Nat → List D → Res D
  | 0 => fun _ => .bad
  | n + 1 => runB 3 (B__law_same (F__law_same n))
theorem fn__law_same (t : Tx P w K mg base) : (n : Nat) → Fn P w K mg base "_law_same" (0 + n) (spF K 2 (F__law_same n))
  | 0 => by
    obtain ⟨fd, F⟩ := t.c.def_ 23 (d := d__law_same) rfl
    refine fn_of' (ps := ["value", "due"]) (f := He.ga K "_law_same") ⟨fun vs H Q E h => spF_len h, fun A outer s H args us vs Q E _ _ _ _ h => ?_⟩ F (t.glo 23) (F.bindsN fun _ _ _ _ _ _ us hl => match us, hl with | [_, _], _ => rfl)
    obtain ⟨ds, P', _, _, k⟩ := h
    unfold arN F__law_same at k
    split at k <;> exact k.elim
  | n + 1 => by
    have ih := fn__law_same t n
    obtain ⟨fd, F⟩ := t.c.def_ 23 (d := d__law_same) rfl
    exact fn_of' (fn_mk (k := 0 + n) (N := sN__law_same) F sc__law_same (B := B__law_same (F__law_same n)) (fun cdv A outer s H E hr => ⟨_, [], (dss_cons (gif (ω1 := []) (dt_cmp op_isA og_isA rfl (DE.ln (gv 1 (pv 1))) (DE.ln de_non))
    (dss_one (gretO (DE.ln (de_cmp op_isA og_isA rfl (DE.ln (gv 0 (pv 0))) (DE.ln de_non)))))
    dss_nil)
    (dss_cons (gif (ω1 := []) (dt_tru (DE.ln (gcb call_isi cg_isi (t.free 40) (dl_cons (DE.ln (gv 1 (pv 1))) (dl_cons (DE.ln (de_type (t.free 41) (by decide +kernel))) dl_nil)))))
    (dss_one (gretO (DE.ln (de_and (gcb call_isi cg_isi (t.free 40) (dl_cons (DE.ln (gv 0 (pv 0))) (dl_cons (DE.ln (de_type (t.free 41) (by decide +kernel))) dl_nil))) (de_one (de_cmp (op_eqA hr.units) og_eqA rfl (DE.ln (gv 0 (pv 0))) (DE.ln (gv 1 (pv 1)))))))))
    dss_nil)
    (dss_cons (gif (ω1 := []) (dt_tru (DE.ln (gcb call_isi cg_isi (t.free 40) (dl_cons (DE.ln (gv 1 (pv 1))) (dl_cons (DE.ln (de_type (t.free 42) (by decide +kernel))) dl_nil)))))
    (dss_one (gretO (DE.ln (de_and (gcb call_isi cg_isi (t.free 40) (dl_cons (DE.ln (gv 0 (pv 0))) (dl_cons (DE.ln (de_type (t.free 42) (by decide +kernel))) dl_nil))) (de_and (de_not (gcb call_isi cg_isi (t.free 40) (dl_cons (DE.ln (gv 0 (pv 0))) (dl_cons (DE.ln (de_type (t.free 41) (by decide +kernel))) dl_nil)))) (de_one (de_cmp (op_eqA hr.units) og_eqA rfl (DE.ln (gv 0 (pv 0))) (DE.ln (gv 1 (pv 1))))))))))
    dss_nil)
    (dss_cons (gif (ω1 := []) (dt_tru (DE.ln (gcb call_isi cg_isi (t.free 40) (dl_cons (DE.ln (gv 1 (pv 1))) (dl_cons (DE.ln (de_type (t.free 43) (by decide +kernel))) dl_nil)))))
    (dss_one (gretO (DE.ln (de_and (gcb call_isi cg_isi (t.free 40) (dl_cons (DE.ln (gv 0 (pv 0))) (dl_cons (DE.ln (de_type (t.free 43) (by decide +kernel))) dl_nil))) (de_one (de_cmp (op_eqA hr.units) og_eqA rfl (DE.ln (gv 0 (pv 0))) (DE.ln (gv 1 (pv 1)))))))))
    dss_nil)
    (dss_cons (gif (ω1 := []) (dw_dt (dw_or (dw_dt (dw_and (dt_tru (DE.ln (gcb call_isi cg_isi (t.free 40) (dl_cons (DE.ln (gv 1 (pv 1))) (dl_cons (DE.ln (de_type (t.free 44) (by decide +kernel))) dl_nil))))) (dw_and1 (dt_not (dt_tru (DE.ln (gcb call_isi cg_isi (t.free 40) (dl_cons (DE.ln (gv 0 (pv 0))) (dl_cons (DE.ln (de_type (t.free 44) (by decide +kernel))) dl_nil))))))))) (dw_or1 (dw_dt (dw_and (dt_tru (DE.ln (gcb call_isi cg_isi (t.free 40) (dl_cons (DE.ln (gv 1 (pv 1))) (dl_cons (DE.ln (de_type (t.free 49) (by decide +kernel))) dl_nil))))) (dw_and1 (dt_not (dt_tru (DE.ln (gcb call_isi cg_isi (t.free 40) (dl_cons (DE.ln (gv 0 (pv 0))) (dl_cons (DE.ln (de_type (t.free 49) (by decide +kernel))) dl_nil))))))))))))
    (dss_one (gretO (DE.ln de_bl)))
    dss_nil)
    (dss_cons (gif (ω1 := []) (dt_cmp (op_neA hr.units) og_neA rfl (DE.ln (gcb call_lenA cg_len (t.free 47) (dl_cons (DE.ln (gv 0 (pv 0))) dl_nil))) (DE.ln (gcb call_lenA cg_len (t.free 47) (dl_cons (DE.ln (gv 1 (pv 1))) dl_nil))))
    (dss_one (gretO (DE.ln de_bl)))
    dss_nil)
    (dss_cons (gfor (ω1 := []) (passes_of rfl) (gi1 (t.free 35) (DE.ln (gcb call_lenA cg_len (t.free 47) (dl_cons (DE.ln (gv 1 (pv 1))) dl_nil)))) (gn 2 sc__law_same.nd)
    (dss_one (gif (ω1 := []) (dt_not (dt_tru (DE.ln (de_call (hk := Nat.le_refl _) ih hr (takes_of rfl rfl rfl rfl) (da_cons (de_ix (DE.ln (gv 0 (pv 0))) (DE.ln (gv 2 (pv 2)))) (da_cons (de_ix (DE.ln (gv 1 (pv 1))) (DE.ln (gv 2 (pv 2)))) da_nil))))))
    (dss_one (gretO (DE.ln de_bl)))
    dss_nil)))
    (dss_one (gretO (DE.ln de_bl))))))))))⟩)) F (t.glo 23) (F.bindsN fun _ _ _ _ _ _ us hl => match us, hl with | [_, _], _ => rfl)
abbrev sN__law_powers : List PySem.Str := ["powers", "k", "value"]
theorem sc__law_powers : FnScope sN__law_powers [] (defScope (top 36)) := ⟨rfl, rfl, rfl, by decide +kernel, rfl, by decide +kernel, by decide +kernel⟩
def B__law_powers : SF := (sSeq (sSet 0 (eLst (aCons (eC (.int 1)) aNil)))
  (sSeq (sFor (iRange (aCons (eC (.int 254)) aNil)) (bName 1)
  (sSeq (sSet 2 (eBin dMul (eBin dIx (eVar 0) (un1 (fun i => -i) (eC (.int 1)))) (eC (.int 2))))
  (sSeq (sIf (tst (eBin dGt (eVar 2) (eC (.int 255))))
  (sSet 2 (eBin dXor (eVar 2) (eC (.int 285))))
  sNop)
  (sApp 0 (eVar 2)))))
  (sRet (eVar 0))))
def F__law_powers : List D → Res D := runN 3 B__law_powers
theorem fn__law_powers (t : Tx P w K mg base) : Fn P w K mg base "_law_powers" 1 (spN K 0 F__law_powers) := by
  obtain ⟨fd, F⟩ := t.c.def_ 24 (d := d__law_powers) rfl
  exact fn_of' (fn_mkN (k := 0) (N := sN__law_powers) F sc__law_powers (B := B__law_powers) (fun cdv A outer s H E hr => ⟨_, [], (dss_cons (gnew (ω1 := [0]) 0 sc__law_powers.nd (glst (da_cons de_int da_nil)))
    (dss_cons (gfor (ω1 := [0]) (passes_of rfl) (gi1 (t.free 35) (DE.ln de_int)) (gn 1 sc__law_powers.nd)
    (dss_cons (gset (ω1 := [0]) 2 sc__law_powers.nd (de_op op_mulA og_mulA (DE.ln (de_ix (go 0 (pv 0)) (DE.ln (de_un un_neg de_int)))) (DE.ln de_int)))
    (dss_cons (gif (ω1 := [0]) (dt_cmp op_gt og_gt rfl (DE.ln (gv 2 (pv 2))) (DE.ln de_int))
    (dss_one (gset (ω1 := [0]) 2 sc__law_powers.nd (de_op op_xor og_xor (DE.ln (gv 2 (pv 2))) (DE.ln de_int))))
    dss_nil)
    (dss_one (gapp 0 (pv 0) (gv 2 (pv 2)))))))
    (dss_one (gretV 0 (pv 0)))))⟩)) F (t.glo 24) (F.bindsN fun _ _ _ _ _ _ us hl => match us, hl with | [], _ => rfl)
abbrev sN__law_mask : List PySem.Str := ["parts", "number", "powers", "mask", "j"]
theorem sc__law_mask : FnScope sN__law_mask ["parts", "number", "powers"] (defScope (top 37)) := ⟨rfl, rfl, rfl, by decide +kernel, rfl, by decide +kernel, by decide +kernel⟩
def B__law_mask : SF := (sSeq (sIf (tst (eBin dLt (eVar 1) (eVar 0)))
  (sRet (eBin dShl (eC (.int 1)) (eVar 1)))
  sNop)
  (sSeq (sSet 3 (eC (.int 0)))
  (sSeq (sFor (iRange (aCons (eVar 0) aNil)) (bName 4)
  (sSet 3 (eBin dOr (eVar 3) (eBin dShl (eBin dMod (eBin dIx (eVar 2) (eBin dMod (eBin dAdd (eBin dMul (eVar 1) (eBin dAdd (eVar 4) (eC (.int 1)))) (eVar 4)) (eC (.int 255)))) (eC (.int 2))) (eVar 4)))))
  (sSeq (sIf (tst (eBin dEq (eVar 3) (eC (.int 0))))
  (sSet 3 (eBin dShl (eC (.int 1)) (eBin dMod (eVar 1) (eVar 0))))
  sNop)
  (sRet (eVar 3))))))
def F__law_mask : List D → Res D := runB 5 B__law_mask
theorem fn__law_mask (t : Tx P w K mg base) : Fn P w K mg base "_law_mask" 1 (spF K 3 F__law_mask) := by
  obtain ⟨fd, F⟩ := t.c.def_ 25 (d := d__law_mask) rfl
  exact fn_of' (fn_mk (k := 0) (N := sN__law_mask) F sc__law_mask (B := B__law_mask) (fun cdv A outer s H E hr => ⟨_, [], (dss_cons (gif (ω1 := []) (dt_cmp op_lt og_lt rfl (DE.ln (gv 1 (pv 1))) (DE.ln (gv 0 (pv 0))))
    (dss_one (gretO (DE.ln (de_op op_shl og_shl (DE.ln de_int) (DE.ln (gv 1 (pv 1)))))))
    dss_nil)
    (dss_cons (gset (ω1 := []) 3 sc__law_mask.nd de_int)
    (dss_cons (gfor (ω1 := []) (passes_of rfl) (gi1 (t.free 35) (DE.ln (gv 0 (pv 0)))) (gn 4 sc__law_mask.nd)
    (dss_one (gset (ω1 := []) 3 sc__law_mask.nd (de_op op_or og_or' (DE.ln (gv 3 (pv 3))) (DE.ln (de_op op_shl og_shl (DE.ln (de_op op_mod og_mod (DE.ln (de_ix (DE.ln (gv 2 (pv 2))) (DE.ln (de_op op_mod og_mod (DE.ln (de_op op_addA og_addA (DE.ln (de_op op_mulA og_mulA (DE.ln (gv 1 (pv 1))) (DE.ln (de_op op_addA og_addA (DE.ln (gv 4 (pv 4))) (DE.ln de_int))))) (DE.ln (gv 4 (pv 4))))) (DE.ln de_int))))) (DE.ln de_int))) (DE.ln (gv 4 (pv 4)))))))))
    (dss_cons (gif (ω1 := []) (dt_cmp (op_eqA hr.units) og_eqA rfl (DE.ln (gv 3 (pv 3))) (DE.ln de_int))
    (dss_one (gset (ω1 := []) 3 sc__law_mask.nd (de_op op_shl og_shl (DE.ln de_int) (DE.ln (de_op op_mod og_mod (DE.ln (gv 1 (pv 1))) (DE.ln (gv 0 (pv 0))))))))
    dss_nil)
    (dss_one (gretO (DE.ln (gv 3 (pv 3)))))))))⟩)) F (t.glo 25) (F.bindsN fun _ _ _ _ _ _ us hl => match us, hl with | [_, _, _], _ => rfl)
abbrev sN__law_rest : List PySem.Str := ["kept", "mask", "low", "one"]
theorem sc__law_rest : FnScope sN__law_rest ["kept", "mask"] (defScope (top 38)) := ⟨rfl, rfl, rfl, by decide +kernel, rfl, by decide +kernel, by decide +kernel⟩
def B__law_rest : SF := (sSeq (sFor (iSeq (eVar 0)) (bTup 2 (bCons (bName 2) (bCons (bName 3) bNil)))
  (sIf (tst (eBin dEq (eBin dAnd (eBin dShr (eVar 1) (eVar 2)) (eC (.int 1))) (eC (.int 1))))
  (sSet 1 (eBin dXor (eVar 1) (eVar 3)))
  sNop))
  (sRet (eVar 1)))
def F__law_rest : List D → Res D := runB 4 B__law_rest
theorem fn__law_rest (t : Tx P w K mg base) : Fn P w K mg base "_law_rest" 1 (spF K 2 F__law_rest) := by
  obtain ⟨fd, F⟩ := t.c.def_ 26 (d := d__law_rest) rfl
  exact fn_of' (fn_mk (k := 0) (N := sN__law_rest) F sc__law_rest (B := B__law_rest) (fun cdv A outer s H E hr => ⟨_, [], (dss_cons (gfor (ω1 := []) (passes_of rfl) (di_seq (gv 0 (pv 0))) (gtg (dgs_cons (gn 2 sc__law_rest.nd) (dgs_cons (gn 3 sc__law_rest.nd) dgs_nil)))
    (dss_one (gif (ω1 := []) (dt_cmp (op_eqA hr.units) og_eqA rfl (DE.ln (de_op op_and og_and (DE.ln (de_op op_shr og_shr (DE.ln (gv 1 (pv 1))) (DE.ln (gv 2 (pv 2))))) (DE.ln de_int))) (DE.ln de_int))
    (dss_one (gset (ω1 := []) 1 sc__law_rest.nd (de_op op_xor og_xor (DE.ln (gv 1 (pv 1))) (DE.ln (gv 3 (pv 3))))))
    dss_nil)))
    (dss_one (gretO (DE.ln (gv 1 (pv 1))))))⟩)) F (t.glo 26) (F.bindsN fun _ _ _ _ _ _ us hl => match us, hl with | [_, _], _ => rfl)
abbrev sN__law_useful : List PySem.Str := ["parts", "begin", "count", "powers", "kept", "told", "number", "rest"]
theorem sc__law_useful : FnScope sN__law_useful ["parts", "begin", "count", "powers"] (defScope (top 39)) := ⟨rfl, rfl, rfl, by decide +kernel, rfl, by decide +kernel, by decide +kernel⟩
def B__law_useful : SF := (sSeq (sSet 4 (eLst aNil))
  (sSeq (sSet 5 (eLst aNil))
  (sSeq (sFor (iRange (aCons (eVar 1) (aCons (eCB dMinA (aCons (eBin dAdd (eVar 1) (eVar 2)) (aCons (eC (.int 4096)) aNil))) aNil))) (bName 6)
  (sSeq (sSet 7 (eC (.int 0)))
  (sSeq (sIf (tst (eBin dLt (eCB dLen (aCons (eVar 4) aNil)) (eVar 0)))
  (sSet 7 (eCallL 2 F__law_rest (aCons (eVar 4) (aCons (eCall 3 F__law_mask (aCons (eVar 0) (aCons (eVar 6) (aCons (eVar 3) aNil)))) aNil))))
  sNop)
  (sIf (tst (eBin dNe (eVar 7) (eC (.int 0))))
  (sSeq (sApp 4 (eTup (aCons (eBin dSub (eBits (eBin dAnd (eVar 7) (un1 (fun i => -i) (eVar 7)))) (eC (.int 1))) (aCons (eVar 7) aNil))))
  (sApp 5 (eVar 6)))
  sNop))))
  (sRet (eVar 5)))))
def F__law_useful : List D → Res D := runN 8 B__law_useful
theorem fn__law_useful (t : Tx P w K mg base) : Fn P w K mg base "_law_useful" 2 (spN K 4 F__law_useful) := by
  obtain ⟨fd, F⟩ := t.c.def_ 27 (d := d__law_useful) rfl
  exact fn_of' (fn_mkN (k := 1) (N := sN__law_useful) F sc__law_useful (B := B__law_useful) (fun cdv A outer s H E hr => ⟨_, [], (dss_cons (gnew (ω1 := [4]) 4 sc__law_useful.nd (glst da_nil))
    (dss_cons (gnew (ω1 := [4, 5]) 5 sc__law_useful.nd (glst da_nil))
    (dss_cons (gfor (ω1 := [4, 5]) (passes_of rfl) (gi2 (t.free 35) (DE.ln (gv 1 (pv 1))) (DE.ln (gcb (cr_minA rfl) cg_minA (t.free 39) (dl_cons (DE.ln (de_op op_addA og_addA (DE.ln (gv 1 (pv 1))) (DE.ln (gv 2 (pv 2))))) (dl_cons (DE.ln de_int) dl_nil))))) (gn 6 sc__law_useful.nd)
    (dss_cons (gset (ω1 := [4, 5]) 7 sc__law_useful.nd de_int)
    (dss_cons (gif (ω1 := [4, 5]) (dt_cmp op_lt og_lt rfl (DE.ln (gcb call_lenA cg_len (t.free 47) (dl_cons (go 4 (pv 4)) dl_nil))) (DE.ln (gv 0 (pv 0))))
    (dss_one (gset (ω1 := [4, 5]) 7 sc__law_useful.nd (de_callL (fn__law_rest t) hr (takes_of rfl rfl rfl rfl) (dl_cons (go 4 (pv 4)) (dl_cons (DE.ln (de_call (fn__law_mask t) hr (takes_of rfl rfl rfl rfl) (da_cons (gv 0 (pv 0)) (da_cons (gv 6 (pv 6)) (da_cons (gv 3 (pv 3)) da_nil))))) dl_nil)))))
    dss_nil)
    (dss_one (gif (ω1 := [4, 5]) (dt_cmp (op_neA hr.units) og_neA rfl (DE.ln (gv 7 (pv 7))) (DE.ln de_int))
    (dss_cons (gapp 4 (pv 4) (gtup (da_cons (de_op op_sub og_sub (DE.ln (gbits (de_op op_and og_and (DE.ln (gv 7 (pv 7))) (DE.ln (de_un un_neg (gv 7 (pv 7))))))) (DE.ln de_int)) (da_cons (gv 7 (pv 7)) da_nil))))
    (dss_one (gapp 5 (pv 5) (gv 6 (pv 6)))))
    dss_nil)))))
    (dss_one (gretV 5 (pv 5))))))⟩)) F (t.glo 27) (F.bindsN fun _ _ _ _ _ _ us hl => match us, hl with | [_, _, _, _], _ => rfl)
abbrev sN__law_needed : List PySem.Str := ["parts", "begin", "powers", "told"]
theorem sc__law_needed : FnScope sN__law_needed ["parts", "begin", "powers"] (defScope (top 40)) := ⟨rfl, rfl, rfl, by decide +kernel, rfl, by decide +kernel, by decide +kernel⟩
def B__law_needed : SF := (sSeq (sSet 3 (eCall 4 F__law_useful (aCons (eVar 0) (aCons (eVar 1) (aCons (eC (.int 400)) (aCons (eVar 2) aNil))))))
  (sSeq (sIf (tst (eBin dLt (eCB dLen (aCons (eVar 3) aNil)) (eVar 0)))
  (sRet (eC .non))
  sNop)
  (sRet (eBin dAdd (eBin dSub (eBin dIx (eVar 3) (un1 (fun i => -i) (eC (.int 1)))) (eVar 1)) (eC (.int 1))))))
def F__law_needed : List D → Res D := runB 4 B__law_needed
theorem fn__law_needed (t : Tx P w K mg base) : Fn P w K mg base "_law_needed" 3 (spF K 3 F__law_needed) := by
  obtain ⟨fd, F⟩ := t.c.def_ 28 (d := d__law_needed) rfl
  exact fn_of' (fn_mk (k := 2) (N := sN__law_needed) F sc__law_needed (B := B__law_needed) (fun cdv A outer s H E hr => ⟨_, [], (dss_cons (gset (ω1 := []) 3 sc__law_needed.nd (DN.sh (dn_call (fn__law_useful t) hr (takes_of rfl rfl rfl rfl) (da_cons (gv 0 (pv 0)) (da_cons (gv 1 (pv 1)) (da_cons de_int (da_cons (gv 2 (pv 2)) da_nil)))))))
    (dss_cons (gif (ω1 := []) (dt_cmp op_lt og_lt rfl (DE.ln (gcb call_lenA cg_len (t.free 47) (dl_cons (DE.ln (gv 3 (pv 3))) dl_nil))) (DE.ln (gv 0 (pv 0))))
    (dss_one (gretO (DE.ln de_non)))
    dss_nil)
    (dss_one (gretO (DE.ln (de_op op_addA og_addA (DE.ln (de_op op_sub og_sub (DE.ln (de_ix (DE.ln (gv 3 (pv 3))) (DE.ln (de_un un_neg de_int)))) (DE.ln (gv 1 (pv 1))))) (DE.ln de_int)))))))⟩)) F (t.glo 28) (F.bindsN fun _ _ _ _ _ _ us hl => match us, hl with | [_, _, _], _ => rfl)
abbrev sN__law_refused : List PySem.Str := ["what", "parts", "begin", "count"]
theorem sc__law_refused : FnScope sN__law_refused ["what", "parts", "begin", "count"] (defScope (top 41)) := ⟨rfl, rfl, rfl, by decide +kernel, rfl, by decide +kernel, by decide +kernel⟩
def B__law_refused : SF := (sSeq (sTry (sIf (tst (eBin dEq (eVar 0) (eC (.int 0))))
  (sDo (eCall 2 F_needed_from (aCons (eVar 1) (aCons (eVar 2) aNil))))
  (sIf (tst (eBin dEq (eVar 0) (eC (.int 1))))
  (sDo (eCall 2 F_overhead (aCons (eVar 1) (aCons (eVar 2) aNil))))
  (sIf (tst (eBin dEq (eVar 0) (eC (.int 2))))
  (sDo (eCall 3 F_useful_from (aCons (eVar 1) (aCons (eVar 2) (aCons (eVar 3) aNil)))))
  (sIf (tst (eBin dEq (eVar 0) (eC (.int 3))))
  (sDo (eCall 3 F_weights_from (aCons (eVar 1) (aCons (eVar 2) (aCons (eVar 3) aNil)))))
  (sDo (eCall 2 F_worst_begin (aCons (eVar 1) (aCons (eVar 2) aNil)))))))) mt_BadNumber fun _ => (sRet (eC (.bl true))))
  (sRet (eC (.bl false))))
def F__law_refused : List D → Res D := runB 4 B__law_refused
theorem fn__law_refused (t : Tx P w K mg base) : Fn P w K mg base "_law_refused" 6 (spF K 4 F__law_refused) := by
  obtain ⟨fd, F⟩ := t.c.def_ 29 (d := d__law_refused) rfl
  exact fn_of' (fn_mk (k := 5) (N := sN__law_refused) F sc__law_refused (B := B__law_refused) (fun cdv A outer s H E hr => ⟨_, [], (dss_cons (gtry mt_BadNumber (t.em_BadNumber) ⟨rfl, by decide, .inl (t.glo 33)⟩ (takes_of rfl rfl rfl rfl) (fun _ _ _ tk po => (dss_one (gif (ω1 := []) (dt_cmp (op_eqA hr.units) og_eqA rfl (DE.ln (gv 0 (pv 0))) (DE.ln de_int))
    (dss_one (gdo (de_call (fn_needed_from t) hr tk (da_cons (gv 1 (pv 1)) (da_cons (gv 2 (pv 2)) da_nil)))))
    (dss_one (gif (ω1 := []) (dt_cmp (op_eqA hr.units) og_eqA rfl (DE.ln (gv 0 (pv 0))) (DE.ln de_int))
    (dss_one (gdo (de_call (fn_overhead t) hr tk (da_cons (gv 1 (pv 1)) (da_cons (gv 2 (pv 2)) da_nil)))))
    (dss_one (gif (ω1 := []) (dt_cmp (op_eqA hr.units) og_eqA rfl (DE.ln (gv 0 (pv 0))) (DE.ln de_int))
    (dss_one (gdo (DN.sh (dn_call (fn_useful_from t) hr tk (da_cons (gv 1 (pv 1)) (da_cons (gv 2 (pv 2)) (da_cons (gv 3 (pv 3)) da_nil)))))))
    (dss_one (gif (ω1 := []) (dt_cmp (op_eqA hr.units) og_eqA rfl (DE.ln (gv 0 (pv 0))) (DE.ln de_int))
    (dss_one (gdo (DN.sh (dn_call (fn_weights_from t) hr tk (da_cons (gv 1 (pv 1)) (da_cons (gv 2 (pv 2)) (da_cons (gv 3 (pv 3)) da_nil)))))))
    (dss_one (gdo (de_call (fn_worst_begin t) hr tk (da_cons (gv 1 (pv 1)) (da_cons (gv 2 (pv 2)) da_nil)))))))))))))) (fun _ _ => (dss_one (gretO (DE.ln de_bl)))))
    (dss_one (gretO (DE.ln de_bl))))⟩)) F (t.glo 29) (F.bindsN fun _ _ _ _ _ _ us hl => match us, hl with | [_, _, _, _], _ => rfl)
abbrev sN__law_refusals : List PySem.Str := ["parts", "numbers", "none", "what", "one", "begin", "count", "begins"]
theorem sc__law_refusals : FnScope sN__law_refusals ["parts", "numbers"] (defScope (top 42)) := ⟨rfl, rfl, rfl, by decide +kernel, rfl, by decide +kernel, by decide +kernel⟩
def B__law_refusals : SF := (sSeq (sSet 2 (eBin dIx (eLst (aCons (eC (.bl true)) (aCons (eC .non) (aCons (eC (.str "1")) (aCons (un1 (fun i => -i) (eC (.int 1))) (aCons (eC (.int 4096)) (aCons (eBin dAdd (eBin dPow (eC (.int 10)) (eC (.int 18))) (eBin dIx (eVar 1) (eC (.int 9)))) aNil))))))) (eBin dMod (eBin dIx (eVar 1) (eC (.int 10))) (eC (.int 6)))))
  (sSeq (sFor (iRange (aCons (eC (.int 4)) aNil)) (bName 3)
  (sSeq (sFor (iSeq (eLst (aCons (eC (.int 0)) (aCons (eC (.int 61)) (aCons (eC .non) (aCons (eC (.bl true)) aNil)))))) (bName 4)
  (sIf (bNot (tru (eCall 4 F__law_refused (aCons (eVar 3) (aCons (eVar 4) (aCons (eC (.int 3)) (aCons (eC (.int 2)) aNil)))))))
  (sRet (eC (.bl false)))
  sNop))
  (sIf (bOr (bNot (tru (eCall 4 F__law_refused (aCons (eVar 3) (aCons (eVar 0) (aCons (eVar 2) (aCons (eC (.int 0)) aNil))))))) (bOr (bNot (tru (eCall 4 F__law_refused (aCons (eVar 3) (aCons (eVar 0) (aCons (eC (.int 4096)) (aCons (eC (.int 0)) aNil))))))) (bNot (tru (eCall 4 F__law_refused (aCons (eVar 3) (aCons (eVar 0) (aCons (un1 (fun i => -i) (eC (.int 1))) (aCons (eC (.int 0)) aNil)))))))))
  (sRet (eC (.bl false)))
  sNop)))
  (sSeq (sFor (iSeq (eLst (aCons (eC (.int 2)) (aCons (eC (.int 3)) aNil)))) (bName 3)
  (sFor (iSeq (eLst (aCons (eTup (aCons (eC (.int 3)) (aCons (un1 (fun i => -i) (eC (.int 1))) aNil))) (aCons (eTup (aCons (eC (.int 3)) (aCons (eC (.int 401)) aNil))) (aCons (eTup (aCons (eC (.int 4095)) (aCons (eC (.int 2)) aNil))) (aCons (eTup (aCons (eBin dSub (eC (.int 4096)) (eC (.int 30))) (aCons (eC (.int 31)) aNil))) (aCons (eTup (aCons (eC (.int 0)) (aCons (eC .non) aNil))) (aCons (eTup (aCons (eC (.int 0)) (aCons (eC (.bl true)) aNil))) (aCons (eTup (aCons (eC (.int 0)) (aCons (eC (.str "2")) aNil))) aNil))))))))) (bTup 2 (bCons (bName 5) (bCons (bName 6) bNil)))
  (sIf (bNot (tru (eCall 4 F__law_refused (aCons (eVar 3) (aCons (eVar 0) (aCons (eVar 5) (aCons (eVar 6) aNil)))))))
  (sRet (eC (.bl false)))
  sNop)))
  (sSeq (sFor (iSeq (eLst (aCons (eLst (aCons (eC (.int 4096)) aNil)) (aCons (eLst (aCons (eC (.int 0)) (aCons (un1 (fun i => -i) (eC (.int 1))) aNil))) (aCons (eC .non) (aCons (eC (.int 5)) (aCons (eLst (aCons (eC .non) aNil)) (aCons (eLst (aCons (eC (.int 0)) (aCons (eC (.bl true)) aNil))) (aCons (eLst (aCons (eC (.str "0")) aNil)) aNil))))))))) (bName 7)
  (sIf (bNot (tru (eCall 4 F__law_refused (aCons (eC (.int 4)) (aCons (eVar 0) (aCons (eVar 7) (aCons (eC (.int 0)) aNil)))))))
  (sRet (eC (.bl false)))
  sNop))
  (sRet (eAnd (eCall 4 F__law_refused (aCons (eC (.int 4)) (aCons (eC (.int 61)) (aCons (eLst (aCons (eC (.int 0)) aNil)) (aCons (eC (.int 0)) aNil))))) (eCall 4 F__law_refused (aCons (eC (.int 4)) (aCons (eC (.int 0)) (aCons (eLst aNil) (aCons (eC (.int 0)) aNil)))))))))))
def F__law_refusals : List D → Res D := runB 8 B__law_refusals
theorem fn__law_refusals (t : Tx P w K mg base) : Fn P w K mg base "_law_refusals" 7 (spF K 2 F__law_refusals) := by
  obtain ⟨fd, F⟩ := t.c.def_ 30 (d := d__law_refusals) rfl
  exact fn_of' (fn_mk (k := 6) (N := sN__law_refusals) F sc__law_refusals (B := B__law_refusals) (fun cdv A outer s H E hr => ⟨_, [], (dss_cons (gset (ω1 := []) 2 sc__law_refusals.nd (de_ix (DE.ln (DN.sh (glst (da_cons de_bl (da_cons de_non (da_cons de_str (da_cons (de_un un_neg de_int) (da_cons de_int (da_cons (de_op op_addA og_addA (DE.ln (de_op op_pow og_pow (DE.ln de_int) (DE.ln de_int))) (DE.ln (de_ix (DE.ln (gv 1 (pv 1))) (DE.ln de_int)))) da_nil))))))))) (DE.ln (de_op op_mod og_mod (DE.ln (de_ix (DE.ln (gv 1 (pv 1))) (DE.ln de_int))) (DE.ln de_int)))))
    (dss_cons (gfor (ω1 := []) (passes_of rfl) (gi1 (t.free 35) (DE.ln de_int)) (gn 3 sc__law_refusals.nd)
    (dss_cons (gfor (ω1 := []) (passes_of rfl) (di_seq (DN.sh (glst (da_cons de_int (da_cons de_int (da_cons de_non (da_cons de_bl da_nil))))))) (gn 4 sc__law_refusals.nd)
    (dss_one (gif (ω1 := []) (dt_not (dt_tru (DE.ln (de_call (fn__law_refused t) hr (takes_of rfl rfl rfl rfl) (da_cons (gv 3 (pv 3)) (da_cons (gv 4 (pv 4)) (da_cons de_int (da_cons de_int da_nil))))))))
    (dss_one (gretO (DE.ln de_bl)))
    dss_nil)))
    (dss_one (gif (ω1 := []) (dw_dt (dw_or (dt_not (dt_tru (DE.ln (de_call (fn__law_refused t) hr (takes_of rfl rfl rfl rfl) (da_cons (gv 3 (pv 3)) (da_cons (gv 0 (pv 0)) (da_cons (gv 2 (pv 2)) (da_cons de_int da_nil)))))))) (dw_or (dt_not (dt_tru (DE.ln (de_call (fn__law_refused t) hr (takes_of rfl rfl rfl rfl) (da_cons (gv 3 (pv 3)) (da_cons (gv 0 (pv 0)) (da_cons de_int (da_cons de_int da_nil)))))))) (dw_or1 (dt_not (dt_tru (DE.ln (de_call (fn__law_refused t) hr (takes_of rfl rfl rfl rfl) (da_cons (gv 3 (pv 3)) (da_cons (gv 0 (pv 0)) (da_cons (de_un un_neg de_int) (da_cons de_int da_nil))))))))))))
    (dss_one (gretO (DE.ln de_bl)))
    dss_nil))))
    (dss_cons (gfor (ω1 := []) (passes_of rfl) (di_seq (DN.sh (glst (da_cons de_int (da_cons de_int da_nil))))) (gn 3 sc__law_refusals.nd)
    (dss_one (gfor (ω1 := []) (passes_of rfl) (di_seq (DN.sh (glst (da_cons (gtup (da_cons de_int (da_cons (de_un un_neg de_int) da_nil))) (da_cons (gtup (da_cons de_int (da_cons de_int da_nil))) (da_cons (gtup (da_cons de_int (da_cons de_int da_nil))) (da_cons (gtup (da_cons (de_op op_sub og_sub (DE.ln de_int) (DE.ln de_int)) (da_cons de_int da_nil))) (da_cons (gtup (da_cons de_int (da_cons de_non da_nil))) (da_cons (gtup (da_cons de_int (da_cons de_bl da_nil))) (da_cons (gtup (da_cons de_int (da_cons de_str da_nil))) da_nil)))))))))) (gtg (dgs_cons (gn 5 sc__law_refusals.nd) (dgs_cons (gn 6 sc__law_refusals.nd) dgs_nil)))
    (dss_one (gif (ω1 := []) (dt_not (dt_tru (DE.ln (de_call (fn__law_refused t) hr (takes_of rfl rfl rfl rfl) (da_cons (gv 3 (pv 3)) (da_cons (gv 0 (pv 0)) (da_cons (gv 5 (pv 5)) (da_cons (gv 6 (pv 6)) da_nil))))))))
    (dss_one (gretO (DE.ln de_bl)))
    dss_nil)))))
    (dss_cons (gfor (ω1 := []) (passes_of rfl) (di_seq (DN.sh (glst (da_cons (DN.sh (glst (da_cons de_int da_nil))) (da_cons (DN.sh (glst (da_cons de_int (da_cons (de_un un_neg de_int) da_nil)))) (da_cons de_non (da_cons de_int (da_cons (DN.sh (glst (da_cons de_non da_nil))) (da_cons (DN.sh (glst (da_cons de_int (da_cons de_bl da_nil)))) (da_cons (DN.sh (glst (da_cons de_str da_nil))) da_nil)))))))))) (gn 7 sc__law_refusals.nd)
    (dss_one (gif (ω1 := []) (dt_not (dt_tru (DE.ln (de_call (fn__law_refused t) hr (takes_of rfl rfl rfl rfl) (da_cons de_int (da_cons (gv 0 (pv 0)) (da_cons (gv 7 (pv 7)) (da_cons de_int da_nil))))))))
    (dss_one (gretO (DE.ln de_bl)))
    dss_nil)))
    (dss_one (gretO (DE.ln (de_and (de_call (fn__law_refused t) hr (takes_of rfl rfl rfl rfl) (da_cons de_int (da_cons de_int (da_cons (DN.sh (glst (da_cons de_int da_nil))) (da_cons de_int da_nil))))) (de_one (de_call (fn__law_refused t) hr (takes_of rfl rfl rfl rfl) (da_cons de_int (da_cons de_int (da_cons (DN.sh (glst da_nil)) (da_cons de_int da_nil))))))))))))))⟩)) F (t.glo 30) (F.bindsN fun _ _ _ _ _ _ us hl => match us, hl with | [_, _], _ => rfl)
abbrev sN_law : List PySem.Str := ["script", "numbers", "parts", "powers", "drawn", "begins", "pairs", "begin", "due", "count", "answer", "weights", "number", "mask", "at", "best", "pair", "handed", "told", "j", "needed"]
theorem sc_law : FnScope sN_law ["script"] (defScope (top 43)) := ⟨rfl, rfl, rfl, by decide +kernel, rfl, by decide +kernel, by decide +kernel⟩
def B_law : SF := (sSeq (sSet 1 (eCall 3 F__law_numbers (aCons (eVar 0) (aCons (eC (.int 0)) (aCons (eC (.int 40)) aNil)))))
  (sSeq (sSet 2 (eBin dIx (eLst (aCons (eBin dAdd (eBin dMod (eBin dIx (eVar 1) (eC (.int 0))) (eC (.int 60))) (eC (.int 1))) (aCons (eBin dAdd (eBin dMod (eBin dIx (eVar 1) (eC (.int 0))) (eC (.int 9))) (eC (.int 1))) aNil))) (eBin dMod (eBin dIx (eVar 1) (eC (.int 1))) (eC (.int 2)))))
  (sSeq (sSet 3 (eCall0 F__law_powers))
  (sSeq (sSet 4 (eBin dMod (eBin dAdd (eBin dMul (eBin dIx (eVar 1) (eC (.int 2))) (eC (.int 1009))) (eBin dIx (eVar 1) (eC (.int 3)))) (eC (.int 4096))))
  (sSeq (sSet 5 (eLst (aCons (eBin dIx (eLst (aCons (eVar 4) (aCons (eBin dMod (eBin dIx (eVar 1) (eC (.int 2))) (eBin dAdd (eVar 2) (eC (.int 3)))) (aCons (eBin dSub (eC (.int 4095)) (eBin dMod (eBin dIx (eVar 1) (eC (.int 3))) (eBin dAdd (eBin dMul (eC (.int 2)) (eVar 2)) (eC (.int 9))))) aNil)))) (eBin dMod (eBin dIx (eVar 1) (eC (.int 4))) (eC (.int 3)))) (aCons (eVar 4) (aCons (eBin dSub (eC (.int 4096)) (eVar 2)) aNil)))))
  (sSeq (sSet 6 (eLst aNil))
  (sSeq (sFor (iSeq (eBin dAdd (eSl dSl (eVar 5) oNone (oSome (eC (.int 2)))) (eLst (aCons (eC (.int 0)) aNil)))) (bName 7)
  (sSeq (sSet 8 (eCall 3 F__law_needed (aCons (eVar 2) (aCons (eVar 7) (aCons (eVar 3) aNil)))))
  (sSeq (sIf (bNot (tru (eCall 2 (F__law_same 4) (aCons (eCall 2 F_needed_from (aCons (eVar 2) (aCons (eVar 7) aNil))) (aCons (eVar 8) aNil)))))
  (sRet (eC (.bl false)))
  sNop)
  (sSeq (sIf (bOr (bAnd (tst (eBin dIs (eVar 8) (eC .non))) (tst (eBin dIsNot (eCall 2 F_overhead (aCons (eVar 2) (aCons (eVar 7) aNil))) (eC .non)))) (bAnd (tst (eBin dIsNot (eVar 8) (eC .non))) (bNot (tru (eCall 2 (F__law_same 4) (aCons (eCall 2 F_overhead (aCons (eVar 2) (aCons (eVar 7) aNil))) (aCons (eBin dSub (eVar 8) (eVar 2)) aNil)))))))
  (sRet (eC (.bl false)))
  sNop)
  (sApp 6 (eTup (aCons (eIf (tst (eBin dIs (eVar 8) (eC .non))) (eC (.int 401)) (eVar 8)) (aCons (eVar 7) aNil))))))))
  (sSeq (sIf (bOr (tst (eBin dNe (eCall 2 F_needed_from (aCons (eVar 2) (aCons (eC (.int 0)) aNil))) (eVar 2))) (bOr (tst (eBin dNe (eCall 2 F_overhead (aCons (eVar 2) (aCons (eC (.int 0)) aNil))) (eC (.int 0)))) (bAnd (tst (eBin dGt (eVar 2) (eC (.int 1)))) (tst (eBin dIsNot (eCall 2 F_needed_from (aCons (eVar 2) (aCons (eBin dSub (eC (.int 4097)) (eVar 2)) aNil))) (eC .non))))))
  (sRet (eC (.bl false)))
  sNop)
  (sSeq (sFor (iSeq (eVar 5)) (bName 7)
  (sSeq (sSet 9 (eCB dMinA (aCons (eBin dIx (eLst (aCons (eBin dMod (eBin dIx (eVar 1) (eC (.int 5))) (eC (.int 90))) (aCons (eBin dMod (eBin dIx (eVar 1) (eC (.int 5))) (eC (.int 401))) aNil))) (eCB dInt (aCons (eBin dEq (eBin dMod (eBin dIx (eVar 1) (eC (.int 6))) (eC (.int 4))) (eC (.int 0))) aNil))) (aCons (eBin dSub (eC (.int 4096)) (eVar 7)) aNil))))
  (sSeq (sSet 10 (eCall 3 F_useful_from (aCons (eVar 2) (aCons (eVar 7) (aCons (eVar 9) aNil)))))
  (sSeq (sIf (bNot (tru (eCallL 2 (F__law_same 4) (aCons (eVar 10) (aCons (eCall 4 F__law_useful (aCons (eVar 2) (aCons (eVar 7) (aCons (eVar 9) (aCons (eVar 3) aNil))))) aNil)))))
  (sRet (eC (.bl false)))
  sNop)
  (sSeq (sApp 10 (eC (.int 0)))
  (sSeq (sIf (bOr (bNot (tru (eCall 2 (F__law_same 4) (aCons (eCall 3 F_useful_from (aCons (eVar 2) (aCons (eVar 7) (aCons (eVar 9) aNil)))) (aCons (eSl dSl (eVar 10) oNone (oSome (un1 (fun i => -i) (eC (.int 1))))) aNil))))) (tst (eBin dNe (eCall 3 F_useful_from (aCons (eVar 2) (aCons (eVar 7) (aCons (eC (.int 0)) aNil)))) (eLst aNil))))
  (sRet (eC (.bl false)))
  sNop)
  (sSeq (sSet 11 (eLst aNil))
  (sSeq (sFor (iRange (aCons (eVar 7) (aCons (eBin dAdd (eVar 7) (eVar 9)) aNil))) (bName 12)
  (sSeq (sSet 13 (eCall 3 F__law_mask (aCons (eVar 2) (aCons (eVar 12) (aCons (eVar 3) aNil)))))
  (sApp 11 (eCB dSum (aCons (eComp (iRange (aCons (eVar 2) aNil)) (bName 19) cYes (eBin dAnd (eBin dShr (eVar 13) (eVar 19)) (eC (.int 1))) [19]) aNil)))))
  (sIf (bNot (tru (eCallL 2 (F__law_same 4) (aCons (eCall 3 F_weights_from (aCons (eVar 2) (aCons (eVar 7) (aCons (eVar 9) aNil)))) (aCons (eVar 11) aNil)))))
  (sRet (eC (.bl false)))
  sNop)))))))))
  (sSeq (sIf (tst (eBin dIsNot (eCall 2 F_worst_begin (aCons (eVar 2) (aCons (eLst aNil) aNil))) (eC .non)))
  (sRet (eC (.bl false)))
  sNop)
  (sSeq (sIf (bAnd (tst (eBin dGt (eVar 2) (eC (.int 1)))) (tst (eBin dEq (eBin dMod (eBin dIx (eVar 1) (eC (.int 7))) (eC (.int 2))) (eC (.int 0)))))
  (sApp 6 (eTup (aCons (eC (.int 401)) (aCons (eBin dSub (eC (.int 4097)) (eVar 2)) aNil))))
  sNop)
  (sSeq (sSet 14 (eBin dMod (eBin dIx (eVar 1) (eC (.int 8))) (eCB dLen (aCons (eVar 6) aNil))))
  (sSeq (sSet 6 (eBin dCat (eBin dAdd (eSl dSl (eVar 6) (oSome (eVar 14)) oNone) (eSl dSl (eVar 6) oNone (oSome (eVar 14)))) (eSl dSl (eVar 6) oNone (oSome (eC (.int 1))))))
  (sSeq (sSet 15 (eBin dIx (eVar 6) (eC (.int 0))))
  (sSeq (sFor (iSeq (eVar 6)) (bName 16)
  (sIf (tst (eBin dGt (eBin dIx (eVar 16) (eC (.int 0))) (eBin dIx (eVar 15) (eC (.int 0)))))
  (sSet 15 (eVar 16))
  sNop))
  (sSeq (sSet 17 (eComp (iSeq (eVar 6)) (bTup 2 (bCons (bName 20) (bCons (bName 7) bNil))) cYes (eVar 7) [20, 7]))
  (sSeq (sSet 18 (eCB dList (aCons (eVar 17) aNil)))
  (sSeq (sIf (bOr (bNot (tru (eCall 2 (F__law_same 4) (aCons (eCall 2 F_worst_begin (aCons (eVar 2) (aCons (eVar 18) aNil))) (aCons (eVar 15) aNil))))) (tst (eBin dNe (eVar 18) (eVar 17))))
  (sRet (eC (.bl false)))
  sNop)
  (sRet (eCall 2 F__law_refusals (aCons (eVar 2) (aCons (eVar 1) aNil))))))))))))))))))))))
def F_law : List D → Res D := runB 21 B_law
theorem ok_law (t : Tx P w K mg base) {fd : FuncData} (F : FunD K d_law.name d_law.qual d_law.params d_law.body d_law.scope [] [] (He.fAd K d_law.at_) fd) : FnOk P w K mg base (L2.CX P w) 8 (He.fAd K d_law.at_) fd ["script"] (spF K 1 F_law) :=
  fn_mk (k := 7) (N := sN_law) F sc_law (B := B_law) (fun cdv A outer s H E hr => ⟨_, [], (dss_cons (gset (ω1 := []) 1 sc_law.nd (DN.sh (dn_call (fn__law_numbers t) hr (takes_of rfl rfl rfl rfl) (da_cons (gv 0 (pv 0)) (da_cons de_int (da_cons de_int da_nil))))))
    (dss_cons (gset (ω1 := []) 2 sc_law.nd (de_ix (DE.ln (DN.sh (glst (da_cons (de_op op_addA og_addA (DE.ln (de_op op_mod og_mod (DE.ln (de_ix (DE.ln (gv 1 (pv 1))) (DE.ln de_int))) (DE.ln de_int))) (DE.ln de_int)) (da_cons (de_op op_addA og_addA (DE.ln (de_op op_mod og_mod (DE.ln (de_ix (DE.ln (gv 1 (pv 1))) (DE.ln de_int))) (DE.ln de_int))) (DE.ln de_int)) da_nil))))) (DE.ln (de_op op_mod og_mod (DE.ln (de_ix (DE.ln (gv 1 (pv 1))) (DE.ln de_int))) (DE.ln de_int)))))
    (dss_cons (gset (ω1 := []) 3 sc_law.nd (DN.sh (dn_call0 (fn__law_powers t) hr)))
    (dss_cons (gset (ω1 := []) 4 sc_law.nd (de_op op_mod og_mod (DE.ln (de_op op_addA og_addA (DE.ln (de_op op_mulA og_mulA (DE.ln (de_ix (DE.ln (gv 1 (pv 1))) (DE.ln de_int))) (DE.ln de_int))) (DE.ln (de_ix (DE.ln (gv 1 (pv 1))) (DE.ln de_int))))) (DE.ln de_int)))
    (dss_cons (gset (ω1 := []) 5 sc_law.nd (DN.sh (glst (da_cons (de_ix (DE.ln (DN.sh (glst (da_cons (gv 4 (pv 4)) (da_cons (de_op op_mod og_mod (DE.ln (de_ix (DE.ln (gv 1 (pv 1))) (DE.ln de_int))) (DE.ln (de_op op_addA og_addA (DE.ln (gv 2 (pv 2))) (DE.ln de_int)))) (da_cons (de_op op_sub og_sub (DE.ln de_int) (DE.ln (de_op op_mod og_mod (DE.ln (de_ix (DE.ln (gv 1 (pv 1))) (DE.ln de_int))) (DE.ln (de_op op_addA og_addA (DE.ln (de_op op_mulA og_mulA (DE.ln de_int) (DE.ln (gv 2 (pv 2))))) (DE.ln de_int)))))) da_nil)))))) (DE.ln (de_op op_mod og_mod (DE.ln (de_ix (DE.ln (gv 1 (pv 1))) (DE.ln de_int))) (DE.ln de_int)))) (da_cons (gv 4 (pv 4)) (da_cons (de_op op_sub og_sub (DE.ln de_int) (DE.ln (gv 2 (pv 2)))) da_nil))))))
    (dss_cons (gnew (ω1 := [6]) 6 sc_law.nd (glst da_nil))
    (dss_cons (gfor (ω1 := [6]) (passes_of rfl) (di_seq (de_op op_addA og_addA (DE.ln (de_slice (DE.ln (gv 5 (pv 5))) do_none (do_some de_int))) (DE.ln (DN.sh (glst (da_cons de_int da_nil)))))) (gn 7 sc_law.nd)
    (dss_cons (gset (ω1 := [6]) 8 sc_law.nd (de_call (fn__law_needed t) hr (takes_of rfl rfl rfl rfl) (da_cons (gv 2 (pv 2)) (da_cons (gv 7 (pv 7)) (da_cons (gv 3 (pv 3)) da_nil)))))
    (dss_cons (gif (ω1 := [6]) (dt_not (dt_tru (DE.ln (de_call (fn__law_same t 4) hr (takes_of rfl rfl rfl rfl) (da_cons (de_call (fn_needed_from t) hr (takes_of rfl rfl rfl rfl) (da_cons (gv 2 (pv 2)) (da_cons (gv 7 (pv 7)) da_nil))) (da_cons (gv 8 (pv 8)) da_nil))))))
    (dss_one (gretO (DE.ln de_bl)))
    dss_nil)
    (dss_cons (gif (ω1 := [6]) (dw_dt (dw_or (dw_dt (dw_and (dt_cmp op_isA og_isA rfl (DE.ln (gv 8 (pv 8))) (DE.ln de_non)) (dw_and1 (dt_cmp op_isnotA og_isnotA rfl (DE.ln (de_call (fn_overhead t) hr (takes_of rfl rfl rfl rfl) (da_cons (gv 2 (pv 2)) (da_cons (gv 7 (pv 7)) da_nil)))) (DE.ln de_non))))) (dw_or1 (dw_dt (dw_and (dt_cmp op_isnotA og_isnotA rfl (DE.ln (gv 8 (pv 8))) (DE.ln de_non)) (dw_and1 (dt_not (dt_tru (DE.ln (de_call (fn__law_same t 4) hr (takes_of rfl rfl rfl rfl) (da_cons (de_call (fn_overhead t) hr (takes_of rfl rfl rfl rfl) (da_cons (gv 2 (pv 2)) (da_cons (gv 7 (pv 7)) da_nil))) (da_cons (de_op op_sub og_sub (DE.ln (gv 8 (pv 8))) (DE.ln (gv 2 (pv 2)))) da_nil))))))))))))
    (dss_one (gretO (DE.ln de_bl)))
    dss_nil)
    (dss_one (gapp 6 (pv 6) (gtup (da_cons (de_if (dt_cmp op_isA og_isA rfl (DE.ln (gv 8 (pv 8))) (DE.ln de_non)) de_int (gv 8 (pv 8))) (da_cons (gv 7 (pv 7)) da_nil)))))))))
    (dss_cons (gif (ω1 := [6]) (dw_dt (dw_or (dt_cmp (op_neA hr.units) og_neA rfl (DE.ln (de_call (fn_needed_from t) hr (takes_of rfl rfl rfl rfl) (da_cons (gv 2 (pv 2)) (da_cons de_int da_nil)))) (DE.ln (gv 2 (pv 2)))) (dw_or (dt_cmp (op_neA hr.units) og_neA rfl (DE.ln (de_call (fn_overhead t) hr (takes_of rfl rfl rfl rfl) (da_cons (gv 2 (pv 2)) (da_cons de_int da_nil)))) (DE.ln de_int)) (dw_or1 (dw_dt (dw_and (dt_cmp op_gt og_gt rfl (DE.ln (gv 2 (pv 2))) (DE.ln de_int)) (dw_and1 (dt_cmp op_isnotA og_isnotA rfl (DE.ln (de_call (fn_needed_from t) hr (takes_of rfl rfl rfl rfl) (da_cons (gv 2 (pv 2)) (da_cons (de_op op_sub og_sub (DE.ln de_int) (DE.ln (gv 2 (pv 2)))) da_nil)))) (DE.ln de_non)))))))))
    (dss_one (gretO (DE.ln de_bl)))
    dss_nil)
    (dss_cons (gfor (ω1 := [6, 10, 11]) (passes_of rfl) (di_seq (gv 5 (pv 5))) (gn 7 sc_law.nd)
    (dss_cons (gset (ω1 := [6]) 9 sc_law.nd (gcb (cr_minA rfl) cg_minA (t.free 39) (dl_cons (DE.ln (de_ix (DE.ln (DN.sh (glst (da_cons (de_op op_mod og_mod (DE.ln (de_ix (DE.ln (gv 1 (pv 1))) (DE.ln de_int))) (DE.ln de_int)) (da_cons (de_op op_mod og_mod (DE.ln (de_ix (DE.ln (gv 1 (pv 1))) (DE.ln de_int))) (DE.ln de_int)) da_nil))))) (DE.ln (gct call_int1 cg_int (t.free 42) (dl_cons (DE.ln (de_cmp (op_eqA hr.units) og_eqA rfl (DE.ln (de_op op_mod og_mod (DE.ln (de_ix (DE.ln (gv 1 (pv 1))) (DE.ln de_int))) (DE.ln de_int))) (DE.ln de_int))) dl_nil))))) (dl_cons (DE.ln (de_op op_sub og_sub (DE.ln de_int) (DE.ln (gv 7 (pv 7))))) dl_nil))))
    (dss_cons (gnew (ω1 := [6, 10]) 10 sc_law.nd (dn_call (fn_useful_from t) hr (takes_of rfl rfl rfl rfl) (da_cons (gv 2 (pv 2)) (da_cons (gv 7 (pv 7)) (da_cons (gv 9 (pv 9)) da_nil)))))
    (dss_cons (gif (ω1 := [6, 10]) (dt_not (dt_tru (DE.ln (de_callL (fn__law_same t 4) hr (takes_of rfl rfl rfl rfl) (dl_cons (go 10 (pv 10)) (dl_cons (DE.ln (DN.sh (dn_call (fn__law_useful t) hr (takes_of rfl rfl rfl rfl) (da_cons (gv 2 (pv 2)) (da_cons (gv 7 (pv 7)) (da_cons (gv 9 (pv 9)) (da_cons (gv 3 (pv 3)) da_nil))))))) dl_nil))))))
    (dss_one (gretO (DE.ln de_bl)))
    dss_nil)
    (dss_cons (gapp 10 (pv 10) de_int)
    (dss_cons (gif (ω1 := [6, 10]) (dw_dt (dw_or (dt_not (dt_tru (DE.ln (de_call (fn__law_same t 4) hr (takes_of rfl rfl rfl rfl) (da_cons (DN.sh (dn_call (fn_useful_from t) hr (takes_of rfl rfl rfl rfl) (da_cons (gv 2 (pv 2)) (da_cons (gv 7 (pv 7)) (da_cons (gv 9 (pv 9)) da_nil))))) (da_cons (de_slice (go 10 (pv 10)) do_none (do_some (de_un un_neg de_int))) da_nil)))))) (dw_or1 (dt_cmp (op_neA hr.units) og_neA rfl (DE.ln (DN.sh (dn_call (fn_useful_from t) hr (takes_of rfl rfl rfl rfl) (da_cons (gv 2 (pv 2)) (da_cons (gv 7 (pv 7)) (da_cons de_int da_nil)))))) (DE.ln (DN.sh (glst da_nil)))))))
    (dss_one (gretO (DE.ln de_bl)))
    dss_nil)
    (dss_cons (gnew (ω1 := [6, 10, 11]) 11 sc_law.nd (glst da_nil))
    (dss_cons (gfor (ω1 := [6, 10, 11]) (passes_of rfl) (gi2 (t.free 35) (DE.ln (gv 7 (pv 7))) (DE.ln (de_op op_addA og_addA (DE.ln (gv 7 (pv 7))) (DE.ln (gv 9 (pv 9)))))) (gn 12 sc_law.nd)
    (dss_cons (gset (ω1 := [6, 10, 11]) 13 sc_law.nd (de_call (fn__law_mask t) hr (takes_of rfl rfl rfl rfl) (da_cons (gv 2 (pv 2)) (da_cons (gv 12 (pv 12)) (da_cons (gv 3 (pv 3)) da_nil)))))
    (dss_one (gapp 11 (pv 11) (gcb (cr_sum rfl) cg_sum (t.free 36) (dl_cons (DE.ln (DN.sh (glc sc_law.nd [("j", 19)] (gc1 (t.free 35) (DE.ln (gv 2 (pv 2)))) (blkOk_by (N := sN_law) (sc := (defScope (top 43))) (by decide +kernel)) (fun _ _ _ _ _ => (gn 19 sc_law.nd)) (fun _ _ _ _ _ => dts_nil) (fun _ _ _ _ _ => (de_op op_and og_and (DE.ln (de_op op_shr og_shr (DE.ln (gv 13 (pv 13))) (DE.ln (gv 19 (pv 19))))) (DE.ln de_int)))))) dl_nil))))))
    (dss_one (gif (ω1 := [6, 10, 11]) (dt_not (dt_tru (DE.ln (de_callL (fn__law_same t 4) hr (takes_of rfl rfl rfl rfl) (dl_cons (DE.ln (DN.sh (dn_call (fn_weights_from t) hr (takes_of rfl rfl rfl rfl) (da_cons (gv 2 (pv 2)) (da_cons (gv 7 (pv 7)) (da_cons (gv 9 (pv 9)) da_nil)))))) (dl_cons (go 11 (pv 11)) dl_nil))))))
    (dss_one (gretO (DE.ln de_bl)))
    dss_nil))))))))))
    (dss_cons (gif (ω1 := [6]) (dt_cmp op_isnotA og_isnotA rfl (DE.ln (de_call (fn_worst_begin t) hr (takes_of rfl rfl rfl rfl) (da_cons (gv 2 (pv 2)) (da_cons (DN.sh (glst da_nil)) da_nil)))) (DE.ln de_non))
    (dss_one (gretO (DE.ln de_bl)))
    dss_nil)
    (dss_cons (gif (ω1 := [6]) (dw_dt (dw_and (dt_cmp op_gt og_gt rfl (DE.ln (gv 2 (pv 2))) (DE.ln de_int)) (dw_and1 (dt_cmp (op_eqA hr.units) og_eqA rfl (DE.ln (de_op op_mod og_mod (DE.ln (de_ix (DE.ln (gv 1 (pv 1))) (DE.ln de_int))) (DE.ln de_int))) (DE.ln de_int)))))
    (dss_one (gapp 6 (pv 6) (gtup (da_cons de_int (da_cons (de_op op_sub og_sub (DE.ln de_int) (DE.ln (gv 2 (pv 2)))) da_nil)))))
    dss_nil)
    (dss_cons (gset (ω1 := [6]) 14 sc_law.nd (de_op op_mod og_mod (DE.ln (de_ix (DE.ln (gv 1 (pv 1))) (DE.ln de_int))) (DE.ln (gcb call_lenA cg_len (t.free 47) (dl_cons (go 6 (pv 6)) dl_nil)))))
    (dss_cons (gnew (ω1 := [6]) 6 sc_law.nd (dn_op op_cat og_cat (DE.ln (de_op op_addA og_addA (DE.ln (de_slice (go 6 (pv 6)) (do_some (gv 14 (pv 14))) do_none)) (DE.ln (de_slice (go 6 (pv 6)) do_none (do_some (gv 14 (pv 14))))))) (DE.ln (de_slice (go 6 (pv 6)) do_none (do_some de_int)))))
    (dss_cons (gset (ω1 := [6]) 15 sc_law.nd (de_ix (go 6 (pv 6)) (DE.ln de_int)))
    (dss_share (ω1 := []) (dss_cons (gfor (ω1 := []) (passes_of rfl) (di_seq (gv 6 (pv 6))) (gn 16 sc_law.nd)
    (dss_one (gif (ω1 := []) (dt_cmp op_gt og_gt rfl (DE.ln (de_ix (DE.ln (gv 16 (pv 16))) (DE.ln de_int))) (DE.ln (de_ix (DE.ln (gv 15 (pv 15))) (DE.ln de_int))))
    (dss_one (gset (ω1 := []) 15 sc_law.nd (gv 16 (pv 16))))
    dss_nil)))
    (dss_cons (gsetLc (ω1 := []) 17 sc_law.nd [("needed", 20), ("begin", 7)] (dc_seq (DE.ln (gv 6 (pv 6)))) (blkOk_by (N := sN_law) (sc := (defScope (top 43))) (by decide +kernel)) (fun _ _ _ _ _ => (gtg (dgs_cons (gn 20 sc_law.nd) (dgs_cons (gn 7 sc_law.nd) dgs_nil)))) (fun _ _ _ _ _ => dts_nil) (fun _ _ _ _ _ => (gv 7 (pv 7))))
    (dss_cons (gset (ω1 := []) 18 sc_law.nd (DN.sh (gctN call_list_of cg_list (t.free 44) (dl_cons (DE.ln (gv 17 (pv 17))) dl_nil))))
    (dss_cons (gif (ω1 := []) (dw_dt (dw_or (dt_not (dt_tru (DE.ln (de_call (fn__law_same t 4) hr (takes_of rfl rfl rfl rfl) (da_cons (de_call (fn_worst_begin t) hr (takes_of rfl rfl rfl rfl) (da_cons (gv 2 (pv 2)) (da_cons (gv 18 (pv 18)) da_nil))) (da_cons (gv 15 (pv 15)) da_nil)))))) (dw_or1 (dt_cmp (op_neA hr.units) og_neA rfl (DE.ln (gv 18 (pv 18))) (DE.ln (gv 17 (pv 17)))))))
    (dss_one (gretO (DE.ln de_bl)))
    dss_nil)
    (dss_one (gretO (DE.ln (de_call (fn__law_refusals t) hr (takes_of rfl rfl rfl rfl) (da_cons (gv 2 (pv 2)) (da_cons (gv 1 (pv 1)) da_nil)))))))))))))))))))))))))⟩)
end
end Law

namespace Law
open PySem L2 Dl Gf2
def bit (b : Bool) : D := .int (if b then 1 else 0)
def rowD (p m : Nat) : D := .lst ((List.range p).map fun j => bit (m.testBit j))
def keyOf (l : Nat) : L2.Key := Sum.inl (l : Int)
def knE (p : Nat) (q : Nat × Nat) : L2.Key × D := (keyOf q.1, .tup [rowD p q.2, .lst []])
def knD (p : Nat) (k : List (Nat × Nat)) : D := .dct (k.map (knE p))
theorem zipD_map (f g : Nat → D) : ∀ l : List Nat, zipD (l.map f) (l.map g) = l.map fun j => .tup [f j, g j]
  | [] => rfl
  | x :: l => by rw [List.map_cons, List.map_cons, List.map_cons, ← zipD_map f g l]; rfl
theorem bit_xor (a b : Bool) : dXor (bit a) (bit b) = some (bit (a != b)) := by cases a <;> cases b <;> rfl
theorem added_nil : F_added [.lst [], .lst []] = .ok (.lst []) := rfl
theorem added_at {p : Nat} (hp : p ≤ 60) (a b : Nat) : F_added [rowD p a, rowD p b] = .ok (rowD p (a ^^^ b)) := by
  refine runN_rt ?_
  show B_added [some (rowD p a), some (rowD p b), none, none] = _
  unfold B_added
  rw [sRet_at, eComp_map (List.range p) (fun j => .tup [bit (a.testBit j), bit (b.testBit j)]) (fun j => bit ((a ^^^ b).testBit j)) ?_ ?_ ?_]
  · rfl
  · rw [iZipD_at]
    show Res.ofO (some (zipD _ _)) = _
    rw [zipD_map]; rfl
  · rw [List.length_range]; exact lim_lt (by omega)
  · intro j _
    refine ⟨_, rfl, rfl, ?_⟩
    show (Res.ofO (dXor (bit (a.testBit j)) (bit (b.testBit j)))) = _
    rw [bit_xor, tb_xor]; rfl
/-! ### the first place with a 1 -/
def lead (p m : Nat) : Option Nat := (List.range p).find? fun j => m.testBit j
theorem lead_some {p m l : Nat} (h : lead p m = some l) : m.testBit l = true ∧ l < p := by
  have a := List.find?_some h
  have b := List.mem_of_find?_eq_some h
  exact ⟨a, List.mem_range.mp b⟩
theorem lead_none {p m : Nat} (h : lead p m = none) (hm : m < 2 ^ p) : m = 0 := by
  apply Nat.eq_of_testBit_eq
  intro j
  rw [Nat.zero_testBit]
  by_cases hj : j < p
  · have := List.find?_eq_none.mp h j (List.mem_range.mpr hj)
    simpa using this
  · exact Nat.testBit_lt_two_pow (Nat.lt_of_lt_of_le hm (Nat.pow_le_pow_right (by decide) (by omega)))
theorem enumD_map (f : Nat → D) : ∀ (l : List Nat) (i : Nat), enumD i (l.map f) = (l.zipIdx i).map fun q => .tup [.int (q.2 : Int), f q.1]
  | [], _ => rfl
  | x :: l, i => by rw [List.map_cons, List.zipIdx_cons, List.map_cons, ← enumD_map f l (i + 1)]; rfl
def oLead : Option Nat → D
  | some l => .int (l : Int)
  | none => .non
theorem lead_go (m : Nat) (r : D) : ∀ (n i : Nat) (x y : Option D), (∃ x' y', forD (bTup 2 (bCons (bName 1) (bCons (bName 2) bNil))) (sIf (tst (eBin dEq (eVar 2) (eC (.int 1)))) (sRet (eVar 1)) sNop) (((List.range' i n).zipIdx i).map fun q => .tup [.int (q.2 : Int), bit (m.testBit q.1)]) [some r, x, y] =
    match (List.range' i n).find? (fun j => m.testBit j) with
    | some l => .rt (.int (l : Int))
    | none => .nx [some r, x', y'])
  | 0, i, x, y => ⟨x, y, rfl⟩
  | n + 1, i, x, y => by
    rw [List.range'_succ, List.zipIdx_cons, List.map_cons, List.find?_cons]
    have hb : bTup 2 (bCons (bName 1) (bCons (bName 2) bNil)) (.tup [.int (i : Int), bit (m.testBit i)]) [some r, x, y] = some [some r, some (.int (i : Int)), some (bit (m.testBit i))] := rfl
    dsimp only
    rw [forD_cons hb]
    cases q : m.testBit i with
    | true =>
      refine ⟨x, y, ?_⟩
      have : sIf (tst (eBin dEq (eVar 2) (eC (.int 1)))) (sRet (eVar 1)) sNop [some r, some (.int (i : Int)), some (bit true)] = .rt (.int (i : Int)) := by simp [bit]
      rw [this]; rfl
    | false =>
      have : sIf (tst (eBin dEq (eVar 2) (eC (.int 1)))) (sRet (eVar 1)) sNop [some r, some (.int (i : Int)), some (bit false)] = .nx [some r, some (.int (i : Int)), some (bit false)] := by simp [bit]
      rw [this]
      exact lead_go m r n (i + 1) _ _
theorem lead_at (p m : Nat) : F_lead_of [rowD p m] = .ok (oLead (lead p m)) := by
  obtain ⟨x, y, h⟩ := lead_go m (rowD p m) p 0 none none
  have e : iEnumD (eVar 0) [some (rowD p m), none, none] = .ok (((List.range' 0 p).zipIdx 0).map fun q => .tup [.int (q.2 : Int), bit (m.testBit q.1)]) := by
    show Res.ofO (some (enumD 0 _)) = _
    rw [enumD_map, List.range_eq_range']; rfl
  have hB : B_lead_of [some (rowD p m), none, none] = .rt (oLead (lead p m)) := by
    unfold B_lead_of
    rw [sSeq_at, sFor_at, e, outX_ok, h]
    unfold lead
    rw [List.range_eq_range']
    cases (List.range' 0 p).find? (fun j => m.testBit j) <;> rfl
  exact runB_rt hB
end Law

namespace Law
open PySem L2 Dl Gf2
theorem key_inj {a b : Nat} : keyOf a = keyOf b ↔ a = b := by
  unfold keyOf
  constructor
  · intro h
    have := Sum.inl.inj h
    omega
  · rintro rfl; rfl
theorem valG_kn (p : Nat) : ∀ {k : List (Nat × Nat)} {q : Nat × Nat}, (k.map (·.1)).Nodup → q ∈ k → valG (k.map (knE p)) (keyOf q.1) = some (.tup [rowD p q.2, .lst []])
  | a :: k, q, hn, hq => by
    obtain ⟨h1, h2⟩ := List.nodup_cons.mp hn
    rcases List.mem_cons.mp hq with rfl | hq
    · simp [valG, knE]
    · have hne : a.1 ≠ q.1 := fun e => h1 (by show a.1 ∈ _; rw [e]; exact List.mem_map_of_mem (f := fun x : Nat × Nat => x.1) hq)
      have ih := valG_kn p h2 hq
      unfold valG at ih ⊢
      rw [List.map_cons, List.find?_cons]
      have : decide ((knE p a).1 = keyOf q.1) = false := decide_eq_false fun e => hne (key_inj.mp e)
      rw [this]
      exact ih
theorem any_kn (p l : Nat) : ∀ {k : List (Nat × Nat)}, l ∉ k.map (·.1) → ((k.map (knE p)).any fun kv => decide (kv.1 = keyOf l)) = false
  | [], _ => rfl
  | a :: k, h => by
    rw [List.map_cons, List.any_cons, any_kn p l (fun z => h (List.mem_cons_of_mem _ z))]
    have : decide ((knE p a).1 = keyOf l) = false := decide_eq_false fun e => h (by rw [← key_inj.mp e]; exact List.mem_cons_self)
    rw [this]; rfl
theorem putG_kn (p : Nat) {k : List (Nat × Nat)} {q : Nat × Nat} (h : q.1 ∉ k.map (·.1)) : putG (k.map (knE p)) (keyOf q.1) (.tup [rowD p q.2, .lst []]) = (k ++ [q]).map (knE p) := by
  unfold putG
  rw [any_kn p q.1 h, if_neg Bool.false_ne_true, List.map_append]; rfl
theorem keys_kn (p : Nat) : ∀ k : List (Nat × Nat), (k.map (knE p)).mapM (fun kv => asL kv.1) = some (k.map fun q => (q.1 : Int))
  | [] => rfl
  | a :: k => by rw [List.map_cons, List.mapM_cons, keys_kn p k]; rfl
theorem lift_map {α β : Type} (f : α → β) (k : List α) : ∀ (L : List β), (∀ z ∈ L, ∃ q ∈ k, f q = z) → ∃ l : List α, l.map f = L ∧ ∀ q ∈ l, q ∈ k
  | [], _ => ⟨[], rfl, fun _ h => nomatch h⟩
  | z :: L, h => by
    obtain ⟨l, h1, h2⟩ := lift_map f k L fun y hy => h y (List.mem_cons_of_mem _ hy)
    obtain ⟨q, hq, e⟩ := h z List.mem_cons_self
    exact ⟨q :: l, by rw [List.map_cons, h1, e], fun r hr => by
      rcases List.mem_cons.mp hr with rfl | hr
      · exact hq
      · exact h2 r hr⟩
theorem row_ix {p m l : Nat} (h : l < p) : dIx (rowD p m) (.int (l : Int)) = some (bit (m.testBit l)) := by
  show atI _ _ = _
  exact at_nat (by rw [List.getElem?_map, List.getElem?_range h]; rfl)
theorem bit_one (b : Bool) : dEq (bit b) (.int 1) = some (.bl b) := by cases b <;> simp [bit]
structure KnOk (p : Nat) (k : List (Nat × Nat)) : Prop where
  pi : Pi k
  lt : ∀ q ∈ k, q.1 < p
  ml : ∀ q ∈ k, q.2 < 2 ^ p
theorem KnOk.len {p k} (h : KnOk p k) : k.length ≤ p := by
  have := nodup_le p (k.map (·.1)) h.pi.nd (fun x hx => by obtain ⟨q, hq, rfl⟩ := List.mem_map.mp hx; exact h.lt q hq)
  rwa [List.length_map] at this
theorem sort_kn {p : Nat} {k : List (Nat × Nat)} (hk : k.length < 64) : dSortK [knD p k] = some (.lst ((isort (k.map fun q => (q.1 : Int))).map D.int)) := by
  show ((k.map (knE p)).mapM fun kv => asL kv.1).bind _ = _
  rw [keys_kn]
  show (if (k.map fun q => (q.1 : Int)).length < 64 then _ else none) = _
  rw [if_pos (by rw [List.length_map]; exact hk)]
theorem red_body {p m : Nat} {k : List (Nat × Nat)} (hp : p ≤ 60) (h : KnOk p k) {q : Nat × Nat} (hq : q ∈ k) (y z : Option D) : ∃ y' z', (sIf (tst (eBin dEq (eBin dIx (eVar 1) (eVar 3)) (eC (.int 1))))
    (sSeq (sAsg (eBin dGet (eVar 0) (eVar 3)) (bTup 2 (bCons (bName 4) (bCons (bName 5) bNil))))
    (sPar 1 2 (aCons (eCall 2 F_added (aCons (eVar 1) (aCons (eVar 4) aNil))) (aCons (eCall 2 F_added (aCons (eVar 2) (aCons (eVar 5) aNil))) aNil))))
    sNop) [some (knD p k), some (rowD p m), some (.lst []), some (.int (q.1 : Int)), y, z] = .nx [some (knD p k), some (rowD p (Gf2.step m q)), some (.lst []), some (.int (q.1 : Int)), y', z'] := by
  have c : tst (eBin dEq (eBin dIx (eVar 1) (eVar 3)) (eC (.int 1))) [some (knD p k), some (rowD p m), some (.lst []), some (.int (q.1 : Int)), y, z] = .ok (m.testBit q.1) := by
    show ((Res.ofO (dIx (rowD p m) (.int (q.1 : Int)))).bind fun a => Res.ofO (dEq a (.int 1))).bind asB = _
    rw [row_ix (h.lt q hq)]
    show (Res.ofO (dEq (bit (m.testBit q.1)) (.int 1))).bind asB = _
    rw [bit_one]; rfl
  rw [sIf_at, c, outX_ok]
  unfold Gf2.step
  by_cases t : m.testBit q.1 = true
  · rw [if_pos t, if_pos t]
    have g : eBin dGet (eVar 0) (eVar 3) [some (knD p k), some (rowD p m), some (.lst []), some (.int (q.1 : Int)), y, z] = .ok (.tup [rowD p q.2, .lst []]) := by
      show Res.ofO (valG (k.map (knE p)) (keyOf q.1)) = _
      rw [valG_kn p h.pi.nd hq]; rfl
    refine ⟨some (rowD p q.2), some (.lst []), ?_⟩
    rw [sSeq_at, sAsg_at, g, outX_ok]
    show (sPar 1 2 _ [some (knD p k), some (rowD p m), some (.lst []), some (.int (q.1 : Int)), some (rowD p q.2), some (.lst [])]) = _
    have a1 : eCall 2 F_added (aCons (eVar 1) (aCons (eVar 4) aNil)) [some (knD p k), some (rowD p m), some (.lst []), some (.int (q.1 : Int)), some (rowD p q.2), some (.lst [])] = .ok (rowD p (m ^^^ q.2)) := added_at hp m q.2
    have a2 : eCall 2 F_added (aCons (eVar 2) (aCons (eVar 5) aNil)) [some (knD p k), some (rowD p m), some (.lst []), some (.int (q.1 : Int)), some (rowD p q.2), some (.lst [])] = .ok (.lst []) := added_nil
    rw [sPar_at, aCons_at, a1, Res.bind_ok, aCons_at, a2]
    rfl
  · rw [if_neg t, if_neg t]
    exact ⟨y, z, rfl⟩
theorem red_go {p : Nat} {k : List (Nat × Nat)} (hp : p ≤ 60) (h : KnOk p k) : ∀ (l : List (Nat × Nat)) (m : Nat) (x y z : Option D), (∀ q ∈ l, q ∈ k) → ∃ x' y' z', forD (bName 3) (sIf (tst (eBin dEq (eBin dIx (eVar 1) (eVar 3)) (eC (.int 1))))
    (sSeq (sAsg (eBin dGet (eVar 0) (eVar 3)) (bTup 2 (bCons (bName 4) (bCons (bName 5) bNil))))
    (sPar 1 2 (aCons (eCall 2 F_added (aCons (eVar 1) (aCons (eVar 4) aNil))) (aCons (eCall 2 F_added (aCons (eVar 2) (aCons (eVar 5) aNil))) aNil))))
    sNop) (l.map fun q => .int (q.1 : Int)) [some (knD p k), some (rowD p m), some (.lst []), x, y, z] = .nx [some (knD p k), some (rowD p (l.foldl Gf2.step m)), some (.lst []), x', y', z']
  | [], m, x, y, z, _ => ⟨x, y, z, rfl⟩
  | q :: l, m, x, y, z, hl => by
    obtain ⟨y1, z1, hb⟩ := red_body hp h (m := m) (hl q List.mem_cons_self) y z
    obtain ⟨x', y', z', ih⟩ := red_go hp h l (Gf2.step m q) (some (.int (q.1 : Int))) y1 z1 fun r hr => hl r (List.mem_cons_of_mem _ hr)
    refine ⟨x', y', z', ?_⟩
    rw [List.map_cons, forD_cons (ρ1 := [some (knD p k), some (rowD p m), some (.lst []), some (.int (q.1 : Int)), y, z]) rfl, hb]
    exact ih
theorem reduced_at {p m : Nat} {k : List (Nat × Nat)} (hp : p ≤ 60) (h : KnOk p k) : ∃ r : Nat, F_reduced_by [knD p k, rowD p m, .lst []] = .ok (.tup [rowD p r, .lst []]) ∧ Sp (ms k) (m ^^^ r) ∧ (∀ q ∈ k, r.testBit q.1 = false) ∧ (m < 2 ^ p → r < 2 ^ p) := by
  have hs := isort_perm (k.map fun q => (q.1 : Int))
  obtain ⟨l, hl, hlk⟩ := lift_map (fun q : Nat × Nat => (q.1 : Int)) k (isort (k.map fun q => (q.1 : Int))) fun z hz => by
    obtain ⟨q, hq, e⟩ := List.mem_map.mp (hs.mem_iff.mp hz)
    exact ⟨q, hq, e⟩
  refine ⟨l.foldl Gf2.step m, ?_, ?_, fun q hq => ?_, fun hm => ?_⟩
  · have e : iSeq (eCB dSortK (aCons (eVar 0) aNil)) [some (knD p k), some (rowD p m), some (.lst []), none, none, none] = .ok (l.map fun q => .int (q.1 : Int)) := by
      show ((Res.ofO (dSortK [knD p k])).bind fun d => .ofO (itemsD d)) = _
      rw [sort_kn (by have := h.len; omega), ← hl, List.map_map]; rfl
    obtain ⟨x', y', z', hg⟩ := red_go hp h l m none none none hlk
    refine runB_rt ?_
    show B_reduced_by [some (knD p k), some (rowD p m), some (.lst []), none, none, none] = _
    unfold B_reduced_by
    rw [sSeq_at, sFor_at, e, outX_ok, hg, then_nx]
    simp [lim]
  · exact fold_sp m l m (fun q hq => sp_mem (List.mem_map_of_mem (hlk q hq))) (by rw [Nat.xor_self]; exact sp_zero _)
  · have : (q.1 : Int) ∈ l.map fun q : Nat × Nat => (q.1 : Int) := by
      rw [hl]; exact hs.mem_iff.mpr (List.mem_map_of_mem (f := fun q : Nat × Nat => (q.1 : Int)) hq)
    obtain ⟨q', hq', e⟩ := List.mem_map.mp this
    have e' : q'.1 = q.1 := by omega
    rw [← e']
    exact fold_zero h.pi l m hlk q' hq'
  · exact fold_lt l m hm fun q hq => h.ml q (hlk q hq)
/-! ### clearing -/
theorem putR_kn (p : Nat) {k : List (Nat × Nat)} {q : Nat × Nat} (h : q.1 ∉ k.map (·.1)) (hk : k.length < 100) : putR (.tup [rowD p q.2, .lst []]) (.int (q.1 : Int)) (knD p k) = .ok (knD p (k ++ [q])) := by
  show (if (k.map (knE p)).length < lim then Res.ok (D.dct (putG (k.map (knE p)) (keyOf q.1) (.tup [rowD p q.2, .lst []]))) else .bad) = _
  rw [if_pos (by rw [List.length_map]; exact lim_lt (by omega)), putG_kn p h]; rfl
theorem clr_body {p l r : Nat} {k0 k : List (Nat × Nat)} (hp : p ≤ 60) (hl : l < p) {q : Nat × Nat} (hq : q.1 ∉ k.map (·.1)) (hk : k.length < 100) (x y z : Option D) :
    (sIf (tst (eBin dEq (eBin dIx (eVar 6) (eVar 1)) (eC (.int 1))))
  (sPutK 4 (eVar 5) (eTup (aCons (eCall 2 F_added (aCons (eVar 6) (aCons (eVar 2) aNil))) (aCons (eCall 2 F_added (aCons (eVar 7) (aCons (eVar 3) aNil))) aNil))))
  (sPutK 4 (eVar 5) (eTup (aCons (eVar 6) (aCons (eVar 7) aNil))))) [some (knD p k0), some (.int (l : Int)), some (rowD p r), some (.lst []), some (knD p k), some (.int (q.1 : Int)), some (rowD p q.2), some (.lst [])] =
    .nx [some (knD p k0), some (.int (l : Int)), some (rowD p r), some (.lst []), some (knD p (k ++ [clr l r q])), some (.int (q.1 : Int)), some (rowD p q.2), some (.lst [])] := by
  have c : tst (eBin dEq (eBin dIx (eVar 6) (eVar 1)) (eC (.int 1))) [some (knD p k0), some (.int (l : Int)), some (rowD p r), some (.lst []), some (knD p k), some (.int (q.1 : Int)), some (rowD p q.2), some (.lst [])] = .ok (q.2.testBit l) := by
    show ((Res.ofO (dIx (rowD p q.2) (.int (l : Int)))).bind fun a => Res.ofO (dEq a (.int 1))).bind asB = _
    rw [row_ix hl]
    show (Res.ofO (dEq (bit (q.2.testBit l)) (.int 1))).bind asB = _
    rw [bit_one]; rfl
  have put : ∀ m', putR (.tup [rowD p m', .lst []]) (.int (q.1 : Int)) (knD p k) = .ok (knD p (k ++ [(q.1, m')])) := fun m' => putR_kn p (q := (q.1, m')) hq hk
  rw [sIf_at, c, outX_ok]
  by_cases t : q.2.testBit l = true
  · rw [if_pos t]
    have ec : clr l r q = (q.1, q.2 ^^^ r) := by unfold clr; rw [if_pos t]
    have a1 : eCall 2 F_added (aCons (eVar 6) (aCons (eVar 2) aNil)) [some (knD p k0), some (.int (l : Int)), some (rowD p r), some (.lst []), some (knD p k), some (.int (q.1 : Int)), some (rowD p q.2), some (.lst [])] = .ok (rowD p (q.2 ^^^ r)) := added_at hp q.2 r
    have a2 : eCall 2 F_added (aCons (eVar 7) (aCons (eVar 3) aNil)) [some (knD p k0), some (.int (l : Int)), some (rowD p r), some (.lst []), some (knD p k), some (.int (q.1 : Int)), some (rowD p q.2), some (.lst [])] = .ok (.lst []) := added_nil
    have a3 : eTup (aCons (eCall 2 F_added (aCons (eVar 6) (aCons (eVar 2) aNil))) (aCons (eCall 2 F_added (aCons (eVar 7) (aCons (eVar 3) aNil))) aNil)) [some (knD p k0), some (.int (l : Int)), some (rowD p r), some (.lst []), some (knD p k), some (.int (q.1 : Int)), some (rowD p q.2), some (.lst [])] = .ok (.tup [rowD p (q.2 ^^^ r), .lst []]) := by
      rw [eTup_at, aCons_at, a1, Res.bind_ok, aCons_at, a2]; rfl
    rw [sPutK_at, a3, Res.bind_ok]
    show outX _ (putR (.tup [rowD p (q.2 ^^^ r), .lst []]) (.int (q.1 : Int)) (knD p k)) _ = _
    rw [put, outX_ok, ec]; rfl
  · rw [if_neg t]
    have ec : clr l r q = q := by unfold clr; rw [if_neg t]
    have a3 : eTup (aCons (eVar 6) (aCons (eVar 7) aNil)) [some (knD p k0), some (.int (l : Int)), some (rowD p r), some (.lst []), some (knD p k), some (.int (q.1 : Int)), some (rowD p q.2), some (.lst [])] = .ok (.tup [rowD p q.2, .lst []]) := rfl
    rw [sPutK_at, a3, Res.bind_ok]
    show outX _ (putR (.tup [rowD p q.2, .lst []]) (.int (q.1 : Int)) (knD p k)) _ = _
    rw [put, outX_ok, ec]; rfl
theorem clr_go {p l r : Nat} {k0 : List (Nat × Nat)} (hp : p ≤ 60) (hl : l < p) : ∀ (t d : List (Nat × Nat)) (x y z : Option D), ((d ++ t).map (·.1)).Nodup → (d ++ t).length < 100 → ∃ x' y' z', forD (bTup 2 (bCons (bName 5) (bCons (bTup 2 (bCons (bName 6) (bCons (bName 7) bNil))) bNil)))
  (sIf (tst (eBin dEq (eBin dIx (eVar 6) (eVar 1)) (eC (.int 1))))
  (sPutK 4 (eVar 5) (eTup (aCons (eCall 2 F_added (aCons (eVar 6) (aCons (eVar 2) aNil))) (aCons (eCall 2 F_added (aCons (eVar 7) (aCons (eVar 3) aNil))) aNil))))
  (sPutK 4 (eVar 5) (eTup (aCons (eVar 6) (aCons (eVar 7) aNil))))) (t.map fun q => .tup [.int (q.1 : Int), .tup [rowD p q.2, .lst []]]) [some (knD p k0), some (.int (l : Int)), some (rowD p r), some (.lst []), some (knD p (d.map (clr l r))), x, y, z] =
    .nx [some (knD p k0), some (.int (l : Int)), some (rowD p r), some (.lst []), some (knD p ((d ++ t).map (clr l r))), x', y', z']
  | [], d, x, y, z, _, _ => ⟨x, y, z, by rw [List.append_nil]; rfl⟩
  | q :: t, d, x, y, z, hn, hlen => by
    have hq : q.1 ∉ (d.map (clr l r)).map (·.1) := by
      rw [List.map_map, show ((fun p : Nat × Nat => p.1) ∘ clr l r) = (·.1) from rfl]
      rw [List.map_append] at hn
      intro hm
      exact (List.nodup_append.mp hn).2.2 _ hm _ (List.mem_cons_self) rfl
    have e : d ++ q :: t = (d ++ [q]) ++ t := by rw [List.append_assoc]; rfl
    obtain ⟨x', y', z', ih⟩ := clr_go (k0 := k0) hp hl (r := r) t (d ++ [q]) (some (.int (q.1 : Int))) (some (rowD p q.2)) (some (.lst [])) (by rw [← e]; exact hn) (by rw [← e]; exact hlen)
    refine ⟨x', y', z', ?_⟩
    rw [List.map_cons, forD_cons (ρ1 := [some (knD p k0), some (.int (l : Int)), some (rowD p r), some (.lst []), some (knD p (d.map (clr l r))), some (.int (q.1 : Int)), some (rowD p q.2), some (.lst [])]) rfl, clr_body hp hl hq (by rw [List.length_map]; rw [List.length_append] at hlen; omega) x y z]
    rw [List.map_append] at ih
    rw [e]
    exact ih
theorem cleared_at {p l r : Nat} {k : List (Nat × Nat)} (hp : p ≤ 60) (hl : l < p) (h : KnOk p k) (hz : ∀ q ∈ k, q.1 ≠ l) : F_cleared_by [knD p k, .int (l : Int), rowD p r, .lst []] = .ok (knD p (k.map (clr l r) ++ [(l, r)])) := by
  obtain ⟨x', y', z', hg⟩ := clr_go (p := p) (l := l) (r := r) (k0 := k) hp hl k [] none none none (by rw [List.nil_append]; exact h.pi.nd) (by have := h.len; rw [List.nil_append]; omega)
  refine runB_rt ?_
  show B_cleared_by [some (knD p k), some (.int (l : Int)), some (rowD p r), some (.lst []), none, none, none, none] = _
  unfold B_cleared_by
  have e : iItemsD (eVar 0) [some (knD p k), some (.int (l : Int)), some (rowD p r), some (.lst []), some (.dct []), none, none, none] = .ok (k.map fun q => .tup [.int (q.1 : Int), .tup [rowD p q.2, .lst []]]) := by
    show Res.ok ((k.map (knE p)).map fun kv => D.tup [keyD kv.1, kv.2]) = _
    rw [List.map_map]; rfl
  rw [sSeq_at, sSet_at, eC_at, outX_ok]
  show (sSeq (sForI 0 _ _) _ [some (knD p k), some (.int (l : Int)), some (rowD p r), some (.lst []), some (.dct []), none, none, none]) = _
  rw [sSeq_at]
  unfold sForI
  rw [e, outX_ok]
  have hg' : forD _ _ (k.map fun q => .tup [.int (q.1 : Int), .tup [rowD p q.2, .lst []]]) [some (knD p k), some (.int (l : Int)), some (rowD p r), some (.lst []), some (.dct []), none, none, none] = _ := hg
  rw [hg']
  have hq : l ∉ (k.map (clr l r)).map (·.1) := by
    rw [List.map_map, show ((fun p : Nat × Nat => p.1) ∘ clr l r) = (·.1) from rfl]
    intro hm
    obtain ⟨q, hq, e⟩ := List.mem_map.mp hm
    exact hz q hq e
  have put := putR_kn p (k := k.map (clr l r)) (q := (l, r)) hq (by have := h.len; rw [List.length_map]; omega)
  show ((sSeq (sPutK 4 (eVar 1) (eTup (aCons (eVar 2) (aCons (eVar 3) aNil)))) (sRet (eVar 4))) [some (knD p k), some (.int (l : Int)), some (rowD p r), some (.lst []), some (knD p (([] ++ k).map (clr l r))), x', y', z']) = _
  rw [sSeq_at, sPutK_at]
  show (outX _ (putR (.tup [rowD p r, .lst []]) (.int (l : Int)) (knD p (([] ++ k).map (clr l r)))) _).then _ = _
  rw [List.nil_append, put]
  rfl
/-- one row more -/
theorem put_row_at {p m : Nat} {k : List (Nat × Nat)} {rows : List Nat} (hp : p ≤ 60) (hm : m < 2 ^ p) (h : KnOk p k) (hs : ∀ v, Sp (ms k) v ↔ Sp rows v) :
    ∃ k' new, F_put_row [knD p k, rowD p m] = .ok (.tup [knD p k', .bl new]) ∧ KnOk p k' ∧ (∀ v, Sp (ms k') v ↔ Sp (m :: rows) v) ∧ (new = true ↔ ¬ Sp rows m) ∧ k'.length = k.length + (if new = true then 1 else 0) := by
  obtain ⟨r, hr, hrs, hrz, hrl⟩ := reduced_at (m := m) hp h
  have hrl := hrl hm
  have e1 : eCall 3 F_reduced_by (aCons (eVar 0) (aCons (eVar 1) (aCons (eLst aNil) aNil))) [some (knD p k), some (rowD p m), none, none, none] = .ok (.tup [rowD p r, .lst []]) := hr
  have e2 : eCall 1 F_lead_of (aCons (eVar 2) aNil) [some (knD p k), some (rowD p m), some (rowD p r), some (.lst []), none] = .ok (oLead (lead p r)) := lead_at p r
  have start : F_put_row [knD p k, rowD p m] = runB 5 B_put_row [knD p k, rowD p m] := rfl
  cases q : lead p r with
  | none =>
    have r0 : r = 0 := lead_none q hrl
    subst r0
    rw [Nat.xor_zero] at hrs
    refine ⟨k, false, ?_, h, fun v => ?_, ?_, by simp⟩
    · rw [start]
      refine runB_rt ?_
      show B_put_row [some (knD p k), some (rowD p m), none, none, none] = _
      unfold B_put_row
      rw [sSeq_at, sAsg_at, e1, outX_ok]
      show (sSeq (sSet 4 _) _ [some (knD p k), some (rowD p m), some (rowD p 0), some (.lst []), none]) = _
      rw [sSeq_at, sSet_at, e2, q]
      rfl
    · have hm' : Sp rows m := (hs m).mp hrs
      constructor
      · intro z; exact .inl ((hs v).mp z)
      · intro z
        refine (hs v).mpr ?_
        rcases z with z | z
        · exact z
        · have := sp_xor z hm'
          rwa [Nat.xor_assoc, Nat.xor_self, Nat.xor_zero] at this
    · constructor
      · intro z; cases z
      · intro z; exact absurd ((hs m).mp hrs) z
  | some l =>
    obtain ⟨hb, hlp⟩ := lead_some q
    have hne : ∀ a ∈ k, a.1 ≠ l := fun a ha e => by have := hrz a ha; rw [e, hb] at this; cases this
    have e3 : eCall 4 F_cleared_by (aCons (eVar 0) (aCons (eVar 4) (aCons (eVar 2) (aCons (eLst aNil) aNil)))) [some (knD p k), some (rowD p m), some (rowD p r), some (.lst []), some (.int (l : Int))] = .ok (knD p (k.map (clr l r) ++ [(l, r)])) := cleared_at hp hlp h hne
    refine ⟨k.map (clr l r) ++ [(l, r)], true, ?_, ⟨h.pi.put hb hrz, fun a ha => ?_, fun a ha => ?_⟩, fun v => ?_, ?_, by simp⟩
    · rw [start]
      refine runB_rt ?_
      show B_put_row [some (knD p k), some (rowD p m), none, none, none] = _
      unfold B_put_row
      rw [sSeq_at, sAsg_at, e1, outX_ok]
      show (sSeq (sSet 4 _) _ [some (knD p k), some (rowD p m), some (rowD p r), some (.lst []), none]) = _
      rw [sSeq_at, sSet_at, e2, q, outX_ok, then_nx]
      show (sSeq (sIf _ _ _) _ [some (knD p k), some (rowD p m), some (rowD p r), some (.lst []), some (.int (l : Int))]) = _
      rw [sSeq_at]
      show (sRet (eTup (aCons _ (aCons (eC (.bl true)) aNil))) [some (knD p k), some (rowD p m), some (rowD p r), some (.lst []), some (.int (l : Int))]) = _
      rw [sRet_at, eTup_at, aCons_at, e3]; rfl
    · rcases List.mem_append.mp ha with ha | ha
      · obtain ⟨b, hb', rfl⟩ := List.mem_map.mp ha
        exact h.lt b hb'
      · rw [List.mem_singleton.mp ha]; exact hlp
    · rcases List.mem_append.mp ha with ha | ha
      · obtain ⟨b, hb', rfl⟩ := List.mem_map.mp ha
        unfold clr
        dsimp only
        split
        · exact Nat.xor_lt_two_pow (h.ml b hb') hrl
        · exact h.ml b hb'
      · rw [List.mem_singleton.mp ha]; exact hrl
    · rw [put_sp hrs v]
      constructor
      · refine sp_sub fun a ha => ?_
        rcases List.mem_cons.mp ha with rfl | ha
        · exact sp_mem List.mem_cons_self
        · exact .inl ((hs a).mp (sp_mem ha))
      · refine sp_sub fun a ha => ?_
        rcases List.mem_cons.mp ha with rfl | ha
        · exact sp_mem List.mem_cons_self
        · exact .inl ((hs a).mpr (sp_mem ha))
    · constructor
      · intro _ z
        have z' := (hs m).mpr z
        have zr : Sp (ms k) r := by
          have := sp_xor z' hrs
          rwa [← Nat.xor_assoc, Nat.xor_self, Nat.zero_xor] at this
        have r0 := indep h.pi.li zr hrz
        rw [r0, Nat.zero_testBit] at hb
        cases hb
      · intro _; rfl
end Law

namespace Law
open PySem L2 Dl Gf2
/-! ### the powers -/
def nextP (x : Nat) : Nat := if 2 * x > 255 then (2 * x) ^^^ 285 else 2 * x
def pwGo : Nat → Nat → List Nat
  | 0, _ => []
  | n + 1, x => x :: pwGo n (nextP x)
def PW : List Nat := pwGo 255 1
def PWD : D := .lst (PW.map fun x : Nat => D.int (x : Int))
theorem powers_at : F_powers_of_two [.int 285] = .ok PWD := by kernel_rfl
theorem lpowers_at : F__law_powers [] = .ok PWD := by kernel_rfl
theorem PW_len : PW.length = 255 := by decide +kernel
def pb (i : Nat) : Bool := PW.getD i 0 % 2 == 1
theorem pw_ix {i : Nat} (h : i < 255) : dIx PWD (.int (i : Int)) = some (.int ((PW.getD i 0 : Nat) : Int)) := by
  show atI _ _ = _
  have hl : i < PW.length := by rw [PW_len]; exact h
  exact at_nat (by rw [List.getElem?_map, List.getElem?_eq_getElem hl, List.getD_eq_getElem?_getD, List.getElem?_eq_getElem hl]; rfl)
theorem mod_two (x : Nat) : dMod (.int (x : Int)) (.int 2) = some (bit (x % 2 == 1)) := by
  rw [mod_k (by decide)]
  unfold bit
  have : ((x : Int) % 2) = if (x % 2 == 1) = true then 1 else 0 := by
    by_cases h : x % 2 = 1
    · rw [if_pos (by simpa using h)]; omega
    · rw [if_neg (by simpa using h)]; omega
  rw [this]
/-! ### a row as a number -/
def mk : Nat → (Nat → Bool) → Nat
  | 0, _ => 0
  | n + 1, f => mk n f ||| (if f n = true then 2 ^ n else 0)
theorem mk_lt : ∀ (n : Nat) (f : Nat → Bool), mk n f < 2 ^ n
  | 0, _ => by show 0 < 2 ^ 0; decide
  | n + 1, f => by
    have h := mk_lt n f
    refine Nat.or_lt_two_pow (Nat.lt_of_lt_of_le h (Nat.pow_le_pow_right (by decide) (by omega))) ?_
    split
    · exact Nat.pow_lt_pow_right (by decide) (by omega)
    · exact Nat.two_pow_pos _
theorem mk_bit : ∀ (n : Nat) (f : Nat → Bool) (j : Nat), (mk n f).testBit j = (decide (j < n) && f j)
  | 0, f, j => by show (0 : Nat).testBit j = _; simp
  | n + 1, f, j => by
    show (mk n f ||| _).testBit j = _
    rw [Nat.testBit_or, mk_bit n f j]
    by_cases e : j = n
    · subst e
      cases q : f j with
      | true => simp [Nat.testBit_two_pow_self]
      | false => simp
    · have : (if f n = true then 2 ^ n else 0).testBit j = false := by
        split
        · exact Nat.testBit_two_pow_of_ne (Ne.symm e)
        · exact Nat.zero_testBit j
      rw [this, Bool.or_false]
      by_cases h : j < n
      · rw [decide_eq_true h, decide_eq_true (by omega : j < n + 1)]
      · rw [decide_eq_false h, decide_eq_false (by omega : ¬ j < n + 1)]
def fb (n j : Nat) : Bool := pb ((n * (j + 1) + j) % 255)
def rowM (p n : Nat) : Nat := if n < p then 2 ^ n else if mk p (fb n) = 0 then 2 ^ (n % p) else mk p (fb n)
theorem rowM_lt {p n : Nat} (h : 0 < p) : rowM p n < 2 ^ p := by
  unfold rowM
  split
  · rename_i c; exact Nat.pow_lt_pow_right (by decide) c
  · split
    · exact Nat.pow_lt_pow_right (by decide) (Nat.mod_lt _ h)
    · exact mk_lt _ _
theorem rowD_mk (p : Nat) (f : Nat → Bool) : rowD p (mk p f) = .lst ((List.range p).map fun j => bit (f j)) := by
  unfold rowD
  congr 1
  refine List.map_congr_left fun j hj => ?_
  rw [mk_bit, decide_eq_true (List.mem_range.mp hj)]; rfl
theorem rng0 {p : Nat} : rngD 0 p = (List.range p).map fun j : Nat => D.int (j : Int) := by
  rw [rngD_map]
  refine List.map_congr_left fun j _ => ?_
  rw [Int.zero_add]
theorem rng_ok {p : Nat} (hp : p < 1000000) : rangeD [.int (p : Int)] = some ((List.range p).map fun j : Nat => D.int (j : Int)) := by
  rw [rangeD_1 (ok62_i (by omega) (by omega)), show ((p : Int)).toNat = p from rfl, rng0]
theorem int_bit (b : Bool) : dInt [.bl b] = some (bit b) := by cases b <;> rfl
theorem elem_at {n j : Nat} (hn : n < 4096) (hj : j < 100) (ρ : En) (h1 : ρ[1]? = some (some (.int (n : Int)))) (h2 : ρ[2]? = some (some PWD)) (h4 : ρ[4]? = some (some (.int (j : Int)))) (L : En → Res D) (hL : L ρ = .ok (.int 255)) :
    eBin dMod (eBin dIx (eVar 2) (eBin dMod (eBin dAdd (eBin dMul (eVar 1) (eBin dAdd (eVar 4) (eC (.int 1)))) (eVar 4)) L)) (eC (.int 2)) ρ = .ok (bit (fb n j)) := by
  have i1 : eVar 1 ρ = .ok (.int (n : Int)) := by rw [eVar_at, h1]
  have i2 : eVar 2 ρ = .ok PWD := by rw [eVar_at, h2]
  have i4 : eVar 4 ρ = .ok (.int (j : Int)) := by rw [eVar_at, h4]
  have m : dMul (.int (n : Int)) (.int ((j : Int) + 1)) = some (.int ((n : Int) * ((j : Int) + 1))) := mul_kl (by omega) (by omega)
  have d : dMod (.int ((n : Int) * ((j : Int) + 1) + (j : Int))) (.int 255) = some (.int (((n * (j + 1) + j) % 255 : Nat) : Int)) := by
    rw [mod_k (by decide)]
    congr 2
  have x := pw_ix (i := (n * (j + 1) + j) % 255) (Nat.mod_lt _ (by decide))
  simp only [eBin_at, i1, i2, i4, hL, eC_at, Res.bind_ok, dAdd_ii, m, Res.ofO_some, d, x, mod_two]
  rfl
theorem row_by_at {p n : Nat} (hp0 : 0 < p) (hp : p ≤ 60) (hn : n < 4096) : F_row_by [.int (p : Int), .int (n : Int), PWD] = .ok (rowD p (rowM p n)) := by
  refine runN_rt ?_
  show B_row_by [some (.int (p : Int)), some (.int (n : Int)), some PWD, none, none] = _
  unfold B_row_by rowM
  have c1 : tst (eBin dLt (eVar 1) (eVar 0)) [some (.int (p : Int)), some (.int (n : Int)), some PWD, none, none] = .ok (decide (n < p)) := by
    show (Res.ofO (dLt (.int (n : Int)) (.int (p : Int)))).bind asB = _
    rw [dLt_ii]
    show Res.ok (decide ((n : Int) < (p : Int))) = _
    congr 1
    exact decide_eq_decide.mpr (by omega)
  have er : iRange (aCons (eVar 0) aNil) [some (.int (p : Int)), some (.int (n : Int)), some PWD, none, none] = .ok ((List.range p).map fun j : Nat => D.int (j : Int)) := by
    show Res.ofO (rangeD [.int (p : Int)]) = _
    rw [rng_ok (by omega)]; rfl
  rw [sSeq_at, sIf_at, c1, outX_ok]
  by_cases h : n < p
  · rw [decide_eq_true h, if_pos rfl, if_pos h]
    have ec := eComp_map (F := iRange (aCons (eVar 0) aNil)) (b := bName 4) (c := cYes) (e := eCB dInt (aCons (eBin dEq (eVar 4) (eVar 1)) aNil)) (vs := [4]) (List.range p) (fun j => D.int (j : Int)) (fun j => bit ((2 ^ n).testBit j)) er (by rw [List.length_range]; exact lim_lt (by omega)) (fun j _ => ⟨_, rfl, rfl, by
      show ((Res.ofO (dEq (.int (j : Int)) (.int (n : Int)))).bind fun d => (Res.ok [d])).bind (fun ds => Res.ofO (dInt ds)) = _
      rw [dEq_ii]
      show Res.ofO (dInt [.bl (decide ((j : Int) = (n : Int)))]) = _
      rw [int_bit, Nat.testBit_two_pow]
      show Res.ok _ = _
      congr 2
      exact decide_eq_decide.mpr (by omega)⟩)
    rw [sRet_at, ec]; rfl
  · rw [decide_eq_false h, if_neg Bool.false_ne_true, if_neg h, sNop_at, then_nx]
    have ec := eComp_map (F := iRange (aCons (eVar 0) aNil)) (b := bName 4) (c := cYes) (e := eBin dMod (eBin dIx (eVar 2) (eBin dMod (eBin dAdd (eBin dMul (eVar 1) (eBin dAdd (eVar 4) (eC (.int 1)))) (eVar 4)) (eCB dLen (aCons (eVar 2) aNil)))) (eC (.int 2))) (vs := [4]) (List.range p) (fun j => D.int (j : Int)) (fun j => bit (fb n j)) er (by rw [List.length_range]; exact lim_lt (by omega)) (fun j hj => ⟨_, rfl, rfl, elem_at (j := j) hn (by have := List.mem_range.mp hj; omega) _ rfl rfl rfl _ (by
      show Res.ofO (dLen [PWD]) = _
      show Res.ok (D.int _) = _
      rw [List.length_map, PW_len]; rfl)⟩)
    rw [sSeq_at, sSet_at, ec, outX_ok, then_nx, ← rowD_mk]
    show (sSeq (sIf _ _ _) _ [some (.int (p : Int)), some (.int (n : Int)), some PWD, some (rowD p (mk p (fb n))), none]) = _
    have ha : dAnyA [rowD p (mk p (fb n))] = some (.bl (decide (mk p (fb n) ≠ 0))) := by
      have e : rowD p (mk p (fb n)) = .lst (((List.range p).map fun j => if fb n j = true then (1 : Int) else 0).map D.int) := by
        rw [rowD_mk, List.map_map]; rfl
      rw [e, dAnyA_map, List.any_map]
      congr 2
      by_cases z : mk p (fb n) = 0
      · rw [decide_eq_false (by simpa using z), List.any_eq_false]
        intro j hj
        have := mk_bit p (fb n) j
        rw [z, Nat.zero_testBit, decide_eq_true (List.mem_range.mp hj), Bool.true_and] at this
        simp [← this]
      · rw [decide_eq_true z, List.any_eq_true]
        obtain ⟨j, hj⟩ := Nat.exists_testBit_of_ne_zero z
        rw [mk_bit] at hj
        rw [Bool.and_eq_true, decide_eq_true_eq] at hj
        exact ⟨j, List.mem_range.mpr hj.1, by simp [hj.2]⟩
    have c2 : bNot (tru (eCB dAnyA (aCons (eVar 3) aNil))) [some (.int (p : Int)), some (.int (n : Int)), some PWD, some (rowD p (mk p (fb n))), none] = .ok (decide (mk p (fb n) = 0)) := by
      show ((Res.ofO (dAnyA [rowD p (mk p (fb n))])).bind fun d => .ofO (truD d)).bind (fun b => .ok (!b)) = _
      rw [ha]
      show Res.ok (!decide (mk p (fb n) ≠ 0)) = _
      congr 1
      by_cases z : mk p (fb n) = 0 <;> simp [z]
    rw [sSeq_at, sIf_at, c2, outX_ok]
    by_cases z : mk p (fb n) = 0
    · rw [decide_eq_true z, if_pos rfl, if_pos z, z]
      have hm : dMod (.int (n : Int)) (.int (p : Int)) = some (.int ((n % p : Nat) : Int)) := by
        rw [mod_k (by omega)]; rfl
      have hx : ixN ((List.range p).map fun j => bit ((0 : Nat).testBit j)).length ((n % p : Nat) : Int) = some (n % p) := by
        rw [List.length_map, List.length_range]
        unfold ixN
        have := Nat.mod_lt n hp0
        rw [if_pos (by omega), if_pos (by omega)]; rfl
      have hp' : putL (.int 1) (.int ((n % p : Nat) : Int)) (rowD p 0) = .ok (rowD p (2 ^ (n % p))) := by
        show (match ixN ((List.range p).map fun j => bit ((0 : Nat).testBit j)).length ((n % p : Nat) : Int) with
          | some k => Res.ok (D.lst (((List.range p).map fun j => bit ((0 : Nat).testBit j)).set k (.int 1)))
          | none => .bad) = _
        rw [hx]
        show Res.ok (D.lst _) = Res.ok (D.lst _)
        congr 2
        apply List.ext_getElem?
        intro i
        rw [List.getElem?_set, List.getElem?_map, List.getElem?_map]
        by_cases hi : i < p
        · rw [List.getElem?_range hi]
          by_cases e : n % p = i
          · subst e
            rw [if_pos rfl, if_pos (by rw [List.length_map, List.length_range]; exact hi)]
            show _ = some (bit ((2 ^ (n % p)).testBit (n % p)))
            rw [Nat.testBit_two_pow_self]; rfl
          · rw [if_neg e]
            show some (bit ((0 : Nat).testBit i)) = some (bit ((2 ^ (n % p)).testBit i))
            rw [Nat.zero_testBit, Nat.testBit_two_pow_of_ne e]
        · have hr : (List.range p)[i]? = none := List.getElem?_eq_none (by rw [List.length_range]; omega)
          rw [hr]
          have e : n % p ≠ i := fun e => hi (by rw [← e]; exact Nat.mod_lt _ hp0)
          rw [if_neg e]; rfl
      rw [sPutL_at]
      show ((outX _ ((Res.ofO (dMod (.int (n : Int)) (.int (p : Int)))).bind fun k => putL (.int 1) k (rowD p 0)) _).then _) = _
      rw [hm]
      show ((outX _ (putL (.int 1) (.int ((n % p : Nat) : Int)) (rowD p 0)) _).then _) = _
      rw [hp']; rfl
    · rw [decide_eq_false z, if_neg Bool.false_ne_true, if_neg z]; rfl
end Law

namespace Law
open PySem L2 Dl Gf2
theorem shl1 {n : Nat} (h : n < 5000) : dShl (.int 1) (.int (n : Int)) = some (.int ((2 ^ n : Nat) : Int)) := by
  rw [shl_k (by omega) (by omega) (by decide)]
  congr 2
  rw [Int.one_mul, Int.toNat_natCast]
  exact (Int.natCast_pow 2 n).symm
theorem shl_bit {n : Nat} (b : Bool) (h : n < 5000) : dShl (bit b) (.int (n : Int)) = some (.int ((if b = true then 2 ^ n else 0 : Nat) : Int)) := by
  cases b with
  | true => exact shl1 h
  | false =>
    show dShl (.int 0) _ = _
    rw [shl_k (by omega) (by omega) (by decide), Int.zero_mul]; rfl
theorem or_nn (a b : Nat) : dOr (.int (a : Int)) (.int (b : Int)) = some (.int ((a ||| b : Nat) : Int)) := by
  rw [dOr_ii, _root_.Bits.bitOr_pp (Int.natCast_nonneg a) (Int.natCast_nonneg b)]; rfl
theorem xor_nn (a b : Nat) : dXor (.int (a : Int)) (.int (b : Int)) = some (.int ((a ^^^ b : Nat) : Int)) := by
  rw [dXor_ii, _root_.Bits.bitXor_pp (Int.natCast_nonneg a) (Int.natCast_nonneg b)]; rfl
theorem mod_nn {a b : Nat} (h : 0 < b) : dMod (.int (a : Int)) (.int (b : Int)) = some (.int ((a % b : Nat) : Int)) := by
  rw [mod_k (by omega)]; rfl
theorem lt_nn (a b : Nat) : dLt (.int (a : Int)) (.int (b : Int)) = some (.bl (decide (a < b))) := by
  rw [dLt_ii]; congr 2; exact decide_eq_decide.mpr (by omega)
theorem eq_nn (a b : Nat) : dEq (.int (a : Int)) (.int (b : Int)) = some (.bl (decide (a = b))) := by
  rw [dEq_ii]; congr 2; exact decide_eq_decide.mpr (by omega)
theorem ne_nn (a b : Nat) : dNe (.int (a : Int)) (.int (b : Int)) = some (.bl (!decide (a = b))) := by
  rw [dNe_ii]; congr 3; exact decide_eq_decide.mpr (by omega)
theorem mask_at {p n : Nat} (hp0 : 0 < p) (hp : p ≤ 60) (hn : n < 4096) : F__law_mask [.int (p : Int), .int (n : Int), PWD] = .ok (.int ((rowM p n : Nat) : Int)) := by
  refine runB_rt ?_
  show B__law_mask [some (.int (p : Int)), some (.int (n : Int)), some PWD, none, none] = _
  unfold B__law_mask rowM
  have c1 : tst (eBin dLt (eVar 1) (eVar 0)) [some (.int (p : Int)), some (.int (n : Int)), some PWD, none, none] = .ok (decide (n < p)) := by
    show (Res.ofO (dLt (.int (n : Int)) (.int (p : Int)))).bind asB = _
    rw [lt_nn]; rfl
  rw [sSeq_at, sIf_at, c1, outX_ok]
  by_cases h : n < p
  · rw [decide_eq_true h, if_pos rfl, if_pos h]
    have e : eBin dShl (eC (.int 1)) (eVar 1) [some (.int (p : Int)), some (.int (n : Int)), some PWD, none, none] = .ok (.int ((2 ^ n : Nat) : Int)) := by
      show Res.ofO (dShl (.int 1) (.int (n : Int))) = _
      rw [shl1 (by omega)]; rfl
    rw [sRet_at, e]; rfl
  · rw [decide_eq_false h, if_neg Bool.false_ne_true, if_neg h, sNop_at, then_nx]
    rw [sSeq_at, sSet_at, eC_at, outX_ok, then_nx, sSeq_at]
    have er : iRange (aCons (eVar 0) aNil) [some (.int (p : Int)), some (.int (n : Int)), some PWD, some (.int 0), none] = .ok ((List.range p).map fun j : Nat => D.int (j : Int)) := by
      show Res.ofO (rangeD [.int (p : Int)]) = _
      rw [rng_ok (by omega)]; rfl
    have hl : ∃ x, forD (bName 4) (sSet 3 (eBin dOr (eVar 3) (eBin dShl (eBin dMod (eBin dIx (eVar 2) (eBin dMod (eBin dAdd (eBin dMul (eVar 1) (eBin dAdd (eVar 4) (eC (.int 1)))) (eVar 4)) (eC (.int 255)))) (eC (.int 2))) (eVar 4)))) ((List.range p).map fun j : Nat => D.int (j : Int)) [some (.int (p : Int)), some (.int (n : Int)), some PWD, some (.int 0), none] = .nx [some (.int (p : Int)), some (.int (n : Int)), some PWD, some (.int ((mk p (fb n) : Nat) : Int)), x] := by
      refine for_rule (fun j : Nat => D.int (j : Int)) (fun i ρ => ∃ x, ρ = [some (.int (p : Int)), some (.int (n : Int)), some PWD, some (.int ((mk i (fb n) : Nat) : Int)), x]) (fun o => ∃ x, o = .nx [some (.int (p : Int)), some (.int (n : Int)), some PWD, some (.int ((mk p (fb n) : Nat) : Int)), x]) (fun i j ρ hj hI => ?_) (fun ρ ⟨x, e⟩ => ⟨x, by rw [e, List.length_range]⟩) ⟨none, rfl⟩
      obtain ⟨x, rfl⟩ := hI
      have hjp := List.mem_range.mp (List.mem_of_getElem? hj)
      have eji : j = i := by
        have := (List.getElem?_eq_some_iff.mp hj)
        obtain ⟨h1, h2⟩ := this
        rw [List.getElem_range] at h2
        exact h2.symm
      subst eji
      refine ⟨_, rfl, .inl ⟨[some (.int (p : Int)), some (.int (n : Int)), some PWD, some (.int ((mk (j + 1) (fb n) : Nat) : Int)), some (.int (j : Int))], .inl ?_, _, rfl⟩⟩
      have hE := elem_at (j := j) hn (by omega) [some (.int (p : Int)), some (.int (n : Int)), some PWD, some (.int ((mk j (fb n) : Nat) : Int)), some (.int (j : Int))] rfl rfl rfl (eC (.int 255)) rfl
      have hS : eBin dShl (eBin dMod (eBin dIx (eVar 2) (eBin dMod (eBin dAdd (eBin dMul (eVar 1) (eBin dAdd (eVar 4) (eC (.int 1)))) (eVar 4)) (eC (.int 255)))) (eC (.int 2))) (eVar 4) [some (.int (p : Int)), some (.int (n : Int)), some PWD, some (.int ((mk j (fb n) : Nat) : Int)), some (.int (j : Int))] = .ok (.int ((if fb n j = true then 2 ^ j else 0 : Nat) : Int)) := by
        rw [eBin_at, hE, Res.bind_ok]
        show Res.ofO (dShl (bit (fb n j)) (.int (j : Int))) = _
        rw [shl_bit _ (by omega)]; rfl
      show sSet 3 _ [some (.int (p : Int)), some (.int (n : Int)), some PWD, some (.int ((mk j (fb n) : Nat) : Int)), some (.int (j : Int))] = _
      rw [sSet_at, eBin_at, hS]
      show outX _ (Res.ofO (dOr (.int ((mk j (fb n) : Nat) : Int)) (.int ((if fb n j = true then 2 ^ j else 0 : Nat) : Int)))) _ = _
      rw [or_nn]; rfl
    obtain ⟨x, hx⟩ := hl
    rw [sFor_at]
    show (outX _ (iRange (aCons (eVar 0) aNil) [some (.int (p : Int)), some (.int (n : Int)), some PWD, some (.int 0), none]) _).then _ = _
    rw [er, outX_ok]
    show (forD _ _ _ [some (.int (p : Int)), some (.int (n : Int)), some PWD, some (.int 0), none]).then _ = _
    rw [hx, then_nx]
    have c2 : tst (eBin dEq (eVar 3) (eC (.int 0))) [some (.int (p : Int)), some (.int (n : Int)), some PWD, some (.int ((mk p (fb n) : Nat) : Int)), x] = .ok (decide (mk p (fb n) = 0)) := by
      show (Res.ofO (dEq (.int ((mk p (fb n) : Nat) : Int)) (.int ((0 : Nat) : Int)))).bind asB = _
      rw [eq_nn]; rfl
    rw [sSeq_at, sIf_at, c2, outX_ok]
    by_cases z : mk p (fb n) = 0
    · rw [decide_eq_true z, if_pos rfl, if_pos z]
      have e : eBin dShl (eC (.int 1)) (eBin dMod (eVar 1) (eVar 0)) [some (.int (p : Int)), some (.int (n : Int)), some PWD, some (.int ((mk p (fb n) : Nat) : Int)), x] = .ok (.int ((2 ^ (n % p) : Nat) : Int)) := by
        show (Res.ofO (dMod (.int (n : Int)) (.int (p : Int)))).bind (fun b => Res.ofO (dShl (.int 1) b)) = _
        rw [mod_nn hp0]
        show Res.ofO (dShl (.int 1) (.int ((n % p : Nat) : Int))) = _
        rw [shl1 (by have := Nat.mod_lt n hp0; omega)]; rfl
      rw [sSet_at, e]; rfl
    · rw [decide_eq_false z, if_neg Bool.false_ne_true, if_neg z]; rfl
def pairD (q : Nat × Nat) : D := .tup [.int (q.1 : Int), .int (q.2 : Int)]
theorem rest_go : ∀ (l : List (Nat × Nat)) (kd : D) (m : Nat) (x y : Option D), ∃ x' y', forD (bTup 2 (bCons (bName 2) (bCons (bName 3) bNil)))
  (sIf (tst (eBin dEq (eBin dAnd (eBin dShr (eVar 1) (eVar 2)) (eC (.int 1))) (eC (.int 1))))
  (sSet 1 (eBin dXor (eVar 1) (eVar 3)))
  sNop) (l.map pairD) [some kd, some (.int (m : Int)), x, y] = .nx [some kd, some (.int ((rest l m : Nat) : Int)), x', y']
  | [], _, _, x, y => ⟨x, y, rfl⟩
  | q :: l, kd, m, x, y => by
    obtain ⟨x', y', ih⟩ := rest_go l kd (Gf2.step m q) (some (.int (q.1 : Int))) (some (.int (q.2 : Int)))
    refine ⟨x', y', ?_⟩
    rw [List.map_cons, forD_cons (ρ1 := [some kd, some (.int (m : Int)), some (.int (q.1 : Int)), some (.int (q.2 : Int))]) rfl]
    have c : tst (eBin dEq (eBin dAnd (eBin dShr (eVar 1) (eVar 2)) (eC (.int 1))) (eC (.int 1))) [some kd, some (.int (m : Int)), some (.int (q.1 : Int)), some (.int (q.2 : Int))] = .ok (m.testBit q.1) := by
      show (((Res.ofO (dShr (.int (m : Int)) (.int (q.1 : Int)))).bind fun a => Res.ofO (dAnd a (.int 1))).bind fun a => Res.ofO (dEq a (.int 1))).bind asB = _
      rw [shr_k (by omega)]
      show ((Res.ofO (dEq (.int (Builtin.bitAnd ((m : Int) / 2 ^ q.1) 1)) (.int 1)))).bind asB = _
      rw [PyProof.Rows.bitAnd_m1, dEq_ii, Nat.testBit_eq_decide_div_mod_eq]
      show Res.ok _ = Res.ok _
      congr 1
      refine decide_eq_decide.mpr ?_
      have : ((m : Int) / 2 ^ q.1 % 2) = ((m / 2 ^ q.1 % 2 : Nat) : Int) := by
        rw [Int.natCast_emod, Int.natCast_ediv, Int.natCast_pow]; rfl
      rw [this]; omega
    have hb : sIf (tst (eBin dEq (eBin dAnd (eBin dShr (eVar 1) (eVar 2)) (eC (.int 1))) (eC (.int 1)))) (sSet 1 (eBin dXor (eVar 1) (eVar 3))) sNop [some kd, some (.int (m : Int)), some (.int (q.1 : Int)), some (.int (q.2 : Int))] = .nx [some kd, some (.int ((Gf2.step m q : Nat) : Int)), some (.int (q.1 : Int)), some (.int (q.2 : Int))] := by
      rw [sIf_at, c, outX_ok]
      unfold Gf2.step
      by_cases t : m.testBit q.1 = true
      · rw [if_pos t, if_pos t, sSet_at]
        show outX _ (Res.ofO (dXor (.int (m : Int)) (.int (q.2 : Int)))) _ = _
        rw [xor_nn]; rfl
      · rw [if_neg t, if_neg t]; rfl
    rw [hb]
    exact ih
theorem rest_at (k : List (Nat × Nat)) (m : Nat) : F__law_rest [.lst (k.map pairD), .int (m : Int)] = .ok (.int ((rest k m : Nat) : Int)) := by
  obtain ⟨x', y', h⟩ := rest_go k (.lst (k.map pairD)) m none none
  refine runB_rt ?_
  show B__law_rest [some (.lst (k.map pairD)), some (.int (m : Int)), none, none] = _
  unfold B__law_rest
  rw [sSeq_at, sFor_at]
  show (forD _ _ (k.map pairD) [some (.lst (k.map pairD)), some (.int (m : Int)), none, none]).then _ = _
  rw [h]; rfl
/-! ### what is useful -/
def useR (p : Nat) (k : List (Nat × Nat)) (n : Nat) : Nat := if k.length < p then rest k (rowM p n) else 0
def useK (p : Nat) (k : List (Nat × Nat)) (n : Nat) : List (Nat × Nat) := if useR p k n ≠ 0 then k ++ [(low (useR p k n), useR p k n)] else k
def useT (p : Nat) : List (Nat × Nat) → List Nat → List Nat
  | _, [] => []
  | k, n :: ns => if useR p k n ≠ 0 then n :: useT p (useK p k n) ns else useT p (useK p k n) ns
structure LkOk (p : Nat) (k : List (Nat × Nat)) : Prop where
  li : Li k
  lt : ∀ q ∈ k, q.1 < p
  ml : ∀ q ∈ k, q.2 < 2 ^ p
theorem LkOk.len {p k} (h : LkOk p k) : k.length ≤ p := by
  have := nodup_le p (k.map (·.1)) (li_nodup h.li) (fun x hx => by obtain ⟨q, hq, rfl⟩ := List.mem_map.mp hx; exact h.lt q hq)
  rwa [List.length_map] at this
theorem useR_eq {p k n} (hp0 : 0 < p) (h : LkOk p k) : useR p k n = rest k (rowM p n) := by
  unfold useR
  split
  · rfl
  · rename_i c
    exact (rest_full h.li h.lt (by have := h.len; omega) (fold_lt k _ (rowM_lt hp0) h.ml)).symm
theorem useR_lt {p k n} (hp0 : 0 < p) (h : LkOk p k) : useR p k n < 2 ^ p := by
  rw [useR_eq hp0 h]; exact fold_lt k _ (rowM_lt hp0) h.ml
theorem lt_of_bit {m j p : Nat} (h : m.testBit j = true) (hm : m < 2 ^ p) : j < p := by
  apply Classical.byContradiction
  intro z
  rw [Nat.testBit_lt_two_pow (Nat.lt_of_lt_of_le hm (Nat.pow_le_pow_right (by decide) (by omega)))] at h
  cases h
theorem useK_ok {p k n} (hp0 : 0 < p) (h : LkOk p k) : LkOk p (useK p k n) := by
  unfold useK
  split
  · rename_i c
    have hb := (low_ok _ (Nat.pos_of_ne_zero c)).2
    refine ⟨li_app h.li hb fun q hq => ?_, fun q hq => ?_, fun q hq => ?_⟩
    · show (useR p k n).testBit q.1 = false
      rw [useR_eq hp0 h]; exact rest_zero _ h.li q hq
    · rcases List.mem_append.mp hq with hq | hq
      · exact h.lt q hq
      · rw [List.mem_singleton.mp hq]; exact lt_of_bit hb (useR_lt hp0 h)
    · rcases List.mem_append.mp hq with hq | hq
      · exact h.ml q hq
      · rw [List.mem_singleton.mp hq]; exact useR_lt hp0 h
  · exact h
structure St (p : Nat) (R : List Nat) (kn k : List (Nat × Nat)) : Prop where
  ko : KnOk p kn
  sp : ∀ v, Gf2.Sp (ms kn) v ↔ Gf2.Sp R v
  lk : LkOk p k
  sp' : ∀ v, Gf2.Sp (ms k) v ↔ Gf2.Sp R v
  len : kn.length = k.length
theorem st0 {p : Nat} : St p [] [] [] := ⟨⟨⟨(fun _ h => by cases h), (fun _ h => by cases h), List.Pairwise.nil⟩, (fun _ h => by cases h), (fun _ h => by cases h)⟩, fun v => Iff.rfl, ⟨trivial, (fun _ h => by cases h), (fun _ h => by cases h)⟩, fun v => Iff.rfl, rfl⟩
theorem st_step {p n : Nat} {R : List Nat} {kn k : List (Nat × Nat)} (hp0 : 0 < p) (hp : p ≤ 60) (h : St p R kn k) :
    ∃ kn', F_put_row [knD p kn, rowD p (rowM p n)] = .ok (.tup [knD p kn', .bl (decide (useR p k n ≠ 0))]) ∧ St p (rowM p n :: R) kn' (useK p k n) := by
  obtain ⟨kn', new, h1, h2, h3, h4, h5⟩ := put_row_at hp (rowM_lt (n := n) hp0) h.ko h.sp
  have hr : useR p k n = 0 ↔ Gf2.Sp R (rowM p n) := by
    rw [useR_eq hp0 h.lk, rest_iff h.lk.li, h.sp']
  have hn : new = decide (useR p k n ≠ 0) := by
    by_cases z : useR p k n = 0
    · rw [decide_eq_false (by simpa using z)]
      have := hr.mp z
      cases new with
      | true => exact absurd this (h4.mp rfl)
      | false => rfl
    · rw [decide_eq_true z]
      exact h4.mpr fun s => z (hr.mpr s)
  refine ⟨kn', by rw [h1, hn], h2, h3, useK_ok hp0 h.lk, fun v => ?_, ?_⟩
  · unfold useK
    by_cases z : useR p k n = 0
    · rw [if_neg (by simpa using z)]
      have hm := hr.mp z
      rw [h.sp']
      constructor
      · intro s; exact .inl s
      · intro s
        rcases s with s | s
        · exact s
        · have := sp_xor s hm
          rwa [Nat.xor_assoc, Nat.xor_self, Nat.xor_zero] at this
    · rw [if_pos z]
      have e := useR_eq (n := n) hp0 h.lk
      rw [app_sp (m := rowM p n) (by rw [e]; exact rest_sp k _) v]
      constructor
      · refine sp_sub fun a ha => ?_
        rcases List.mem_cons.mp ha with rfl | ha
        · exact sp_mem List.mem_cons_self
        · exact .inl ((h.sp' a).mp (sp_mem ha))
      · refine sp_sub fun a ha => ?_
        rcases List.mem_cons.mp ha with rfl | ha
        · exact sp_mem List.mem_cons_self
        · exact .inl ((h.sp' a).mpr (sp_mem ha))
  · rw [h5, hn, h.len]
    unfold useK
    by_cases z : useR p k n = 0
    · rw [if_neg (by simpa using z), if_neg (by simpa using z)]; rfl
    · rw [if_pos z, if_pos (by simpa using z), List.length_append]; rfl
end Law

namespace Law
open PySem L2 Dl Gf2
@[simp] theorem chK_b (b : Bool) (r : Res D) : chK (.bl b) r = if b = true then r else .ok (.bl false) := by cases b <;> rfl
theorem call1 {G : List D → Res D} {fa : En → Res D} {ρ : En} {a : D} {r : Res D} (h : fa ρ = .ok a) (hr : G [a] = r) : eCall 1 G (aCons fa aNil) ρ = r := by
  rw [eCall_at, aCons_at, h, Res.bind_ok, aNil_at, Res.bind_ok, Res.bind_ok, arN_at]; exact (if_pos rfl).trans hr
theorem call2 {G : List D → Res D} {fa fb : En → Res D} {ρ : En} {a b : D} {r : Res D} (h : fa ρ = .ok a) (h2 : fb ρ = .ok b) (hr : G [a, b] = r) : eCall 2 G (aCons fa (aCons fb aNil)) ρ = r := by
  rw [eCall_at, aCons_at, h, Res.bind_ok, aCons_at, h2, Res.bind_ok, aNil_at, Res.bind_ok, Res.bind_ok, Res.bind_ok, arN_at]; exact (if_pos rfl).trans hr
theorem call3 {G : List D → Res D} {fa fb fc : En → Res D} {ρ : En} {a b c : D} {r : Res D} (h : fa ρ = .ok a) (h2 : fb ρ = .ok b) (h3 : fc ρ = .ok c) (hr : G [a, b, c] = r) : eCall 3 G (aCons fa (aCons fb (aCons fc aNil))) ρ = r := by
  rw [eCall_at, aCons_at, h, Res.bind_ok, aCons_at, h2, Res.bind_ok, aCons_at, h3, Res.bind_ok, aNil_at, Res.bind_ok, Res.bind_ok, Res.bind_ok, Res.bind_ok, arN_at]; exact (if_pos rfl).trans hr
theorem call4 {G : List D → Res D} {fa fb fc fd : En → Res D} {ρ : En} {a b c d : D} {r : Res D} (h : fa ρ = .ok a) (h2 : fb ρ = .ok b) (h3 : fc ρ = .ok c) (h4 : fd ρ = .ok d) (hr : G [a, b, c, d] = r) : eCall 4 G (aCons fa (aCons fb (aCons fc (aCons fd aNil)))) ρ = r := by
  rw [eCall_at, aCons_at, h, Res.bind_ok, aCons_at, h2, Res.bind_ok, aCons_at, h3, Res.bind_ok, aCons_at, h4, Res.bind_ok, aNil_at, Res.bind_ok, Res.bind_ok, Res.bind_ok, Res.bind_ok, Res.bind_ok, arN_at]; exact (if_pos rfl).trans hr
theorem app_go {i : Nat} {f : En → Res D} {ρ : En} {ds : List D} {b : D} (h : ρ[i]? = some (some (.lst ds))) (hf : f ρ = .ok b) (hl : ds.length < 1000000) : sApp i f ρ = .nx (ρ.set i (some (.lst (ds ++ [b])))) := by
  rw [sApp_at, eVar_at, h]
  show outX ρ (appD (f ρ) (.lst ds)) _ = _
  rw [appD_lst, hf, Res.bind_ok, if_pos (lim_lt (by omega))]; rfl
theorem set_go {i : Nat} {f : En → Res D} {ρ : En} {d : D} (hf : f ρ = .ok d) : sSet i f ρ = .nx (ρ.set i (some d)) := by rw [sSet_at, hf]; rfl
theorem lst0 {ρ : En} : eLst aNil ρ = .ok (.lst []) := by simp
theorem ite_len (c : Prop) [Decidable c] (l : List Nat) (n : Nat) : (if c then l ++ [n] else l).length ≤ l.length + 1 := by
  split
  · rw [List.length_append]; exact Nat.le_refl _
  · omega
theorem is_whole_i (i : Int) : F_is_whole [.int i] = .ok (.bl true) := rfl
theorem check_parts_ok {p : Nat} (h0 : 0 < p) (h : p ≤ 60) : F_check_parts [.int (p : Int)] = .ok .non := by
  refine runB_nx (ρ := [some (.int (p : Int))]) ?_
  show B_check_parts [some (.int (p : Int))] = _
  have h1 : (1 : Int) ≤ (p : Int) := by omega
  have h2 : (p : Int) ≤ 60 := by omega
  generalize (p : Int) = z at h1 h2
  simp [B_check_parts, is_whole_i, h1, h2]
theorem check_number_ok {n : Nat} (h : n < 4096) : F_check_number [.int (n : Int)] = .ok .non := by
  refine runB_nx (ρ := [some (.int (n : Int))]) ?_
  show B_check_number [some (.int (n : Int))] = _
  have h1 : (0 : Int) ≤ (n : Int) := by omega
  have h2 : (n : Int) ≤ 4095 := by omega
  generalize (n : Int) = z at h1 h2
  simp [B_check_number, is_whole_i, h1, h2]
theorem check_begin_ok {p n : Nat} (h0 : 0 < p) (h : p ≤ 60) (hn : n < 4096) : F_check_begin [.int (p : Int), .int (n : Int)] = .ok .non := by
  have a := check_parts_ok h0 h
  have b := check_number_ok hn
  refine runB_nx (ρ := [some (.int (p : Int)), some (.int (n : Int))]) ?_
  show B_check_begin [some (.int (p : Int)), some (.int (n : Int))] = _
  generalize (p : Int) = y at a ⊢
  generalize (n : Int) = z at b ⊢
  simp [B_check_begin, a, b]
def intsD (ns : List Nat) : D := .lst (ns.map fun n : Nat => D.int (n : Int))
theorem wholes_ok {ns : List Nat} (h : ∀ n ∈ ns, n < 4096) (hl : ns.length < 1000000) : F_are_wholes [intsD ns, .int 0, .int 4095] = .ok (.bl true) := by
  refine runB_rt ?_
  show B_are_wholes [some (intsD ns), some (.int 0), some (.int 4095), none] = _
  unfold B_are_wholes
  have ec := eComp_map (F := iSeq (eVar 0)) (b := bName 3) (c := cYes) (e := eAnd (eCall 1 F_is_whole (aCons (eVar 3) aNil)) (eChain dLe dLe (eVar 1) (eVar 3) (eVar 2))) (vs := [3]) (ρ := [some (intsD ns), some (.int 0), some (.int 4095), none]) ns (fun n : Nat => D.int (n : Int)) (fun _ => D.bl true) rfl (lim_lt (by omega)) (fun n hn => ⟨_, rfl, rfl, by
    have h1 : (0 : Int) ≤ (n : Int) := by omega
    have h2 : (n : Int) ≤ 4095 := by have := h n hn; omega
    show eAnd _ _ [some (intsD ns), some (.int 0), some (.int 4095), some (.int (n : Int))] = _
    generalize (n : Int) = z at h1 h2 ⊢
    simp [is_whole_i, h1, h2]⟩)
  have ha : dAll [.lst (ns.map fun _ => D.bl true)] = some (.bl true) := by
    have := dAll_map (ns.map fun _ => true)
    rw [List.map_map] at this
    rw [show (ns.map fun _ => D.bl true) = ns.map (D.bl ∘ fun _ => true) from rfl, this]
    congr 2
    rw [List.all_map]
    exact List.all_eq_true.mpr fun _ _ => rfl
  rw [sRet_at, eAnd_at]
  show outX _ ((eCB dAll (aCons _ aNil)) _) _ = _
  rw [eCB_at, aCons_at, ec]
  show outX _ (Res.ofO (dAll [.lst (ns.map fun _ => D.bl true)])) _ = _
  rw [ha]; rfl
theorem check_numbers_ok {p : Nat} {ns : List Nat} (h0 : 0 < p) (hp : p ≤ 60) (h : ∀ n ∈ ns, n < 4096) (hl : ns.length < 1000000) : F_check_numbers [.int (p : Int), intsD ns] = .ok .non := by
  have a := check_parts_ok h0 hp
  have b := wholes_ok h hl
  refine runB_nx (ρ := [some (.int (p : Int)), some (intsD ns)]) ?_
  show B_check_numbers [some (.int (p : Int)), some (intsD ns)] = _
  generalize (p : Int) = y at a ⊢
  generalize intsD ns = z at b ⊢
  simp [B_check_numbers, a, b]
/-! ### least_numbers -/
theorem least_body {p n : Nat} {R : List Nat} {kn k : List (Nat × Nat)} {told : List Nat} {ld : D} (hp0 : 0 < p) (hp : p ≤ 60) (hn : n < 4096) (h : St p R kn k) (ht : told.length < 1000000) (x6 : Option D) :
    ∃ kn', St p (rowM p n :: R) kn' (useK p k n) ∧ (sSeq (sAsg (eCall 2 F_put_row (aCons (eVar 3) (aCons (eCall 3 F_row_by (aCons (eVar 0) (aCons (eVar 5) (aCons (eVar 2) aNil)))) aNil))) (bTup 2 (bCons (bName 3) (bCons (bName 6) bNil))))
  (sIf (tru (eVar 6)) (sApp 4 (eVar 5)) sNop)) [some (.int (p : Int)), some ld, some PWD, some (knD p kn), some (intsD told), some (.int (n : Int)), x6] =
    .nx [some (.int (p : Int)), some ld, some PWD, some (knD p kn'), some (intsD (if useR p k n ≠ 0 then told ++ [n] else told)), some (.int (n : Int)), some (.bl (decide (useR p k n ≠ 0)))] := by
  obtain ⟨kn', h1, h2⟩ := st_step (n := n) hp0 hp h
  refine ⟨kn', h2, ?_⟩
  have e1 : eCall 3 F_row_by (aCons (eVar 0) (aCons (eVar 5) (aCons (eVar 2) aNil))) [some (.int (p : Int)), some ld, some PWD, some (knD p kn), some (intsD told), some (.int (n : Int)), x6] = .ok (rowD p (rowM p n)) := call3 rfl rfl rfl (row_by_at hp0 hp hn)
  have e2 : eCall 2 F_put_row (aCons (eVar 3) (aCons (eCall 3 F_row_by (aCons (eVar 0) (aCons (eVar 5) (aCons (eVar 2) aNil)))) aNil)) [some (.int (p : Int)), some ld, some PWD, some (knD p kn), some (intsD told), some (.int (n : Int)), x6] = .ok (.tup [knD p kn', .bl (decide (useR p k n ≠ 0))]) := call2 rfl e1 h1
  rw [sSeq_at, sAsg_at, e2, outX_ok]
  show (sIf _ _ _ [some (.int (p : Int)), some ld, some PWD, some (knD p kn'), some (intsD told), some (.int (n : Int)), some (.bl (decide (useR p k n ≠ 0)))]) = _
  by_cases z : useR p k n ≠ 0
  · rw [if_pos z, decide_eq_true z]
    show sApp 4 (eVar 5) [some (.int (p : Int)), some ld, some PWD, some (knD p kn'), some (intsD told), some (.int (n : Int)), some (.bl true)] = _
    rw [sApp_at]
    show outX _ (if (told.map fun n : Nat => D.int (n : Int)).length < lim then Res.ok (D.lst ((told.map fun n : Nat => D.int (n : Int)) ++ [.int (n : Int)])) else .bad) _ = _
    rw [if_pos (by rw [List.length_map]; exact lim_lt (by omega)), outX_ok]
    unfold intsD
    rw [List.map_append]; rfl
  · rw [if_neg z, decide_eq_false z]; rfl
theorem least_go {p : Nat} (hp0 : 0 < p) (hp : p ≤ 60) (ld : D) : ∀ (ns : List Nat) (R : List Nat) (kn k : List (Nat × Nat)) (told : List Nat) (x5 x6 : Option D), St p R kn k → (∀ n ∈ ns, n < 4096) → told.length + ns.length < 1000000 → ∃ kd' x5' x6',
    forD (bName 5) (sSeq (sAsg (eCall 2 F_put_row (aCons (eVar 3) (aCons (eCall 3 F_row_by (aCons (eVar 0) (aCons (eVar 5) (aCons (eVar 2) aNil)))) aNil))) (bTup 2 (bCons (bName 3) (bCons (bName 6) bNil))))
  (sIf (tru (eVar 6)) (sApp 4 (eVar 5)) sNop)) (ns.map fun n : Nat => D.int (n : Int)) [some (.int (p : Int)), some ld, some PWD, some (knD p kn), some (intsD told), x5, x6] = .nx [some (.int (p : Int)), some ld, some PWD, some kd', some (intsD (told ++ useT p k ns)), x5', x6']
  | [], R, kn, k, told, x5, x6, _, _, _ => ⟨knD p kn, x5, x6, by rw [show useT p k [] = [] from rfl, List.append_nil]; rfl⟩
  | n :: ns, R, kn, k, told, x5, x6, h, hn, hl => by
    have hl' : told.length + (ns.length + 1) < 1000000 := hl
    obtain ⟨kn', h2, hb⟩ := least_body (ld := ld) hp0 hp (hn n List.mem_cons_self) h (told := told) (by omega) x6
    obtain ⟨kd', x5', x6', ih⟩ := least_go hp0 hp ld ns _ kn' _ (if useR p k n ≠ 0 then told ++ [n] else told) (some (.int (n : Int))) (some (.bl (decide (useR p k n ≠ 0)))) h2 (fun m hm => hn m (List.mem_cons_of_mem _ hm)) (by have := ite_len (useR p k n ≠ 0) told n; omega)
    refine ⟨kd', x5', x6', ?_⟩
    rw [List.map_cons, forD_cons (ρ1 := [some (.int (p : Int)), some ld, some PWD, some (knD p kn), some (intsD told), some (.int (n : Int)), x6]) rfl, hb]
    show forD _ _ _ _ = _
    rw [ih]
    have e : told ++ useT p k (n :: ns) = (if useR p k n ≠ 0 then told ++ [n] else told) ++ useT p (useK p k n) ns := by
      show told ++ (if useR p k n ≠ 0 then n :: useT p (useK p k n) ns else useT p (useK p k n) ns) = _
      by_cases z : useR p k n ≠ 0
      · rw [if_pos z, if_pos z, List.append_assoc]; rfl
      · rw [if_neg z, if_neg z]
    rw [e]
theorem least_at {p : Nat} {ns : List Nat} (hp0 : 0 < p) (hp : p ≤ 60) (h : ∀ n ∈ ns, n < 4096) (hl : ns.length < 1000000) : F_least_numbers [.int (p : Int), intsD ns] = .ok (intsD (useT p [] ns)) := by
  obtain ⟨kd', x5', x6', hg⟩ := least_go hp0 hp (intsD ns) ns [] [] [] [] none none st0 h (by simpa using hl)
  refine runN_rt ?_
  show B_least_numbers [some (.int (p : Int)), some (intsD ns), none, none, none, none, none] = _
  unfold B_least_numbers
  have e1 : eCall 2 F_check_numbers (aCons (eVar 0) (aCons (eVar 1) aNil)) [some (.int (p : Int)), some (intsD ns), none, none, none, none, none] = .ok .non := call2 rfl rfl (check_numbers_ok hp0 hp h hl)
  have e2 : eCall 1 F_powers_of_two (aCons (eC (.int (285))) aNil) [some (.int (p : Int)), some (intsD ns), none, none, none, none, none] = .ok PWD := call1 rfl powers_at
  rw [sSeq_at, sDo_at, e1, outX_ok, then_nx, sSeq_at, sSet_at, e2, outX_ok, then_nx, sSeq_at, sSet_at, eC_at, outX_ok, then_nx, sSeq_at]
  show (sSeq (sFor _ _ _) _ [some (.int (p : Int)), some (intsD ns), some PWD, some (knD p []), some (intsD []), none, none]) = _
  rw [sSeq_at, sFor_at]
  show (forD _ _ (ns.map fun n : Nat => D.int (n : Int)) [some (.int (p : Int)), some (intsD ns), some PWD, some (knD p []), some (intsD []), none, none]).then _ = _
  rw [hg]; rfl
/-! ### the law's own -/
theorem luse_body {p n : Nat} {k : List (Nat × Nat)} {told : List Nat} {bd cd : D} (hp0 : 0 < p) (hp : p ≤ 60) (hn : n < 4096) (h : LkOk p k) (ht : told.length < 1000000) (x7 : Option D) :
    (sSeq (sSet 7 (eC (.int 0)))
  (sSeq (sIf (tst (eBin dLt (eCB dLen (aCons (eVar 4) aNil)) (eVar 0)))
  (sSet 7 (eCallL 2 F__law_rest (aCons (eVar 4) (aCons (eCall 3 F__law_mask (aCons (eVar 0) (aCons (eVar 6) (aCons (eVar 3) aNil)))) aNil))))
  sNop)
  (sIf (tst (eBin dNe (eVar 7) (eC (.int 0))))
  (sSeq (sApp 4 (eTup (aCons (eBin dSub (eBits (eBin dAnd (eVar 7) (un1 (fun i => -i) (eVar 7)))) (eC (.int 1))) (aCons (eVar 7) aNil))))
  (sApp 5 (eVar 6)))
  sNop))) [some (.int (p : Int)), some bd, some cd, some PWD, some (.lst (k.map pairD)), some (intsD told), some (.int (n : Int)), x7] =
    .nx [some (.int (p : Int)), some bd, some cd, some PWD, some (.lst ((useK p k n).map pairD)), some (intsD (if useR p k n ≠ 0 then told ++ [n] else told)), some (.int (n : Int)), some (.int ((useR p k n : Nat) : Int))] := by
  have c1 : tst (eBin dLt (eCB dLen (aCons (eVar 4) aNil)) (eVar 0)) [some (.int (p : Int)), some bd, some cd, some PWD, some (.lst (k.map pairD)), some (intsD told), some (.int (n : Int)), some (.int 0)] = .ok (decide (k.length < p)) := by
    show (Res.ofO (dLt (.int ((k.map pairD).length : Nat)) (.int (p : Int)))).bind asB = _
    rw [lt_nn, List.length_map]; rfl
  have e1 : eCall 3 F__law_mask (aCons (eVar 0) (aCons (eVar 6) (aCons (eVar 3) aNil))) [some (.int (p : Int)), some bd, some cd, some PWD, some (.lst (k.map pairD)), some (intsD told), some (.int (n : Int)), some (.int 0)] = .ok (.int ((rowM p n : Nat) : Int)) := call3 rfl rfl rfl (mask_at hp0 hp hn)
  have e2 : eCallL 2 F__law_rest (aCons (eVar 4) (aCons (eCall 3 F__law_mask (aCons (eVar 0) (aCons (eVar 6) (aCons (eVar 3) aNil)))) aNil)) [some (.int (p : Int)), some bd, some cd, some PWD, some (.lst (k.map pairD)), some (intsD told), some (.int (n : Int)), some (.int 0)] = .ok (.int ((rest k (rowM p n) : Nat) : Int)) := by
    rw [eCallL_at, aCons_at, aCons_at, e1]
    show flatR (F__law_rest [.lst (k.map pairD), .int ((rowM p n : Nat) : Int)]) = _
    rw [rest_at]; rfl
  have s1 : (sIf (tst (eBin dLt (eCB dLen (aCons (eVar 4) aNil)) (eVar 0)))
  (sSet 7 (eCallL 2 F__law_rest (aCons (eVar 4) (aCons (eCall 3 F__law_mask (aCons (eVar 0) (aCons (eVar 6) (aCons (eVar 3) aNil)))) aNil))))
  sNop) [some (.int (p : Int)), some bd, some cd, some PWD, some (.lst (k.map pairD)), some (intsD told), some (.int (n : Int)), some (.int 0)] = .nx [some (.int (p : Int)), some bd, some cd, some PWD, some (.lst (k.map pairD)), some (intsD told), some (.int (n : Int)), some (.int ((useR p k n : Nat) : Int))] := by
    rw [sIf_at, c1, outX_ok]
    unfold useR
    by_cases z : k.length < p
    · rw [decide_eq_true z, if_pos rfl, if_pos z, sSet_at, e2]; rfl
    · rw [decide_eq_false z, if_neg Bool.false_ne_true, if_neg z]; rfl
  rw [sSeq_at, sSet_at, eC_at, outX_ok, then_nx, sSeq_at]
  show (sIf _ _ _ [some (.int (p : Int)), some bd, some cd, some PWD, some (.lst (k.map pairD)), some (intsD told), some (.int (n : Int)), some (.int 0)]).then _ = _
  rw [s1, then_nx]
  unfold useK
  generalize hr : useR p k n = r
  have c2 : tst (eBin dNe (eVar 7) (eC (.int 0))) [some (.int (p : Int)), some bd, some cd, some PWD, some (.lst (k.map pairD)), some (intsD told), some (.int (n : Int)), some (.int (r : Int))] = .ok (!decide (r = 0)) := by
    show (Res.ofO (dNe (.int (r : Int)) (.int ((0 : Nat) : Int)))).bind asB = _
    rw [ne_nn]; rfl
  rw [sIf_at, c2, outX_ok]
  by_cases z : r = 0
  · rw [decide_eq_true z, if_neg (by decide), if_neg (by simpa using z), if_neg (by simpa using z)]; rfl
  · rw [decide_eq_false z, if_pos (by decide), if_pos z, if_pos z]
    have hb := low_ok r (Nat.pos_of_ne_zero z)
    have ea : Builtin.bitAnd (r : Int) (-(r : Int)) = ((r - (r &&& (r - 1)) : Nat) : Int) := by
      rw [PyProof.Rows.bitAnd_pn (Int.natCast_nonneg r) (by omega)]
      have e : (Builtin.bitNot (-(r : Int))).toNat = r - 1 := by
        show (-(-(r : Int)) - 1).toNat = r - 1
        omega
      rw [e, Int.toNat_natCast]
      have := Nat.and_le_left (n := r) (m := r - 1)
      omega
    have eb : Builtin.Int.intBits ((r - (r &&& (r - 1)) : Nat) : Int) = low r + 1 := by
      unfold Builtin.Int.intBits
      rw [if_neg (by have := hb.1; simp; omega)]
      rfl
    have e3 : eTup (aCons (eBin dSub (eBits (eBin dAnd (eVar 7) (un1 (fun i => -i) (eVar 7)))) (eC (.int 1))) (aCons (eVar 7) aNil)) [some (.int (p : Int)), some bd, some cd, some PWD, some (.lst (k.map pairD)), some (intsD told), some (.int (n : Int)), some (.int (r : Int))] = .ok (pairD (low r, r)) := by
      show ((((Res.ok (D.int ((Builtin.Int.intBits (Builtin.bitAnd (r : Int) (-(r : Int))) : Nat) : Int))).bind fun a => Res.ofO (dSub a (.int 1))).bind fun d => (Res.ok [D.int (r : Int)]).bind fun ds => Res.ok (d :: ds)).bind fun ds => if ds.length ≤ lim then Res.ok (D.tup ds) else Res.bad) = _
      rw [ea, eb]
      show Res.ok (D.tup [.int (((low r + 1 : Nat) : Int) - 1), .int (r : Int)]) = _
      unfold pairD
      congr 4
      show ((low r + 1 : Nat) : Int) - 1 = (low r : Int)
      omega
    have hk := h.len
    rw [sSeq_at, app_go rfl e3 (by rw [List.length_map]; omega), then_nx, app_go (b := .int (n : Int)) (ds := told.map fun n : Nat => D.int (n : Int)) rfl rfl (by rw [List.length_map]; omega)]
    unfold intsD
    rw [List.map_append, List.map_append]; rfl
theorem luse_go {p : Nat} (hp0 : 0 < p) (hp : p ≤ 60) (bd cd : D) : ∀ (ns : List Nat) (k : List (Nat × Nat)) (told : List Nat) (x6 x7 : Option D), LkOk p k → (∀ n ∈ ns, n < 4096) → told.length + ns.length < 1000000 → ∃ k' x6' x7',
    forD (bName 6) (sSeq (sSet 7 (eC (.int 0)))
  (sSeq (sIf (tst (eBin dLt (eCB dLen (aCons (eVar 4) aNil)) (eVar 0)))
  (sSet 7 (eCallL 2 F__law_rest (aCons (eVar 4) (aCons (eCall 3 F__law_mask (aCons (eVar 0) (aCons (eVar 6) (aCons (eVar 3) aNil)))) aNil))))
  sNop)
  (sIf (tst (eBin dNe (eVar 7) (eC (.int 0))))
  (sSeq (sApp 4 (eTup (aCons (eBin dSub (eBits (eBin dAnd (eVar 7) (un1 (fun i => -i) (eVar 7)))) (eC (.int 1))) (aCons (eVar 7) aNil))))
  (sApp 5 (eVar 6)))
  sNop))) (ns.map fun n : Nat => D.int (n : Int)) [some (.int (p : Int)), some bd, some cd, some PWD, some (.lst (k.map pairD)), some (intsD told), x6, x7] = .nx [some (.int (p : Int)), some bd, some cd, some PWD, some k', some (intsD (told ++ useT p k ns)), x6', x7']
  | [], k, told, x6, x7, _, _, _ => ⟨.lst (k.map pairD), x6, x7, by rw [show useT p k [] = [] from rfl, List.append_nil]; rfl⟩
  | n :: ns, k, told, x6, x7, h, hn, hl => by
    have hl' : told.length + (ns.length + 1) < 1000000 := hl
    have hb := luse_body (bd := bd) (cd := cd) hp0 hp (hn n List.mem_cons_self) h (told := told) (by omega) x7
    obtain ⟨k', x6', x7', ih⟩ := luse_go hp0 hp bd cd ns (useK p k n) (if useR p k n ≠ 0 then told ++ [n] else told) (some (.int (n : Int))) (some (.int ((useR p k n : Nat) : Int))) (useK_ok hp0 h) (fun m hm => hn m (List.mem_cons_of_mem _ hm)) (by have := ite_len (useR p k n ≠ 0) told n; omega)
    refine ⟨k', x6', x7', ?_⟩
    rw [List.map_cons, forD_cons (ρ1 := [some (.int (p : Int)), some bd, some cd, some PWD, some (.lst (k.map pairD)), some (intsD told), some (.int (n : Int)), x7]) rfl, hb]
    show forD _ _ _ _ = _
    rw [ih]
    have e : told ++ useT p k (n :: ns) = (if useR p k n ≠ 0 then told ++ [n] else told) ++ useT p (useK p k n) ns := by
      show told ++ (if useR p k n ≠ 0 then n :: useT p (useK p k n) ns else useT p (useK p k n) ns) = _
      by_cases z : useR p k n ≠ 0
      · rw [if_pos z, if_pos z, List.append_assoc]; rfl
      · rw [if_neg z, if_neg z]
    rw [e]
def numsFrom (b c : Nat) : List Nat := (List.range c).map (b + ·)
theorem nums_lt {b c : Nat} (h : b + c ≤ 4096) : ∀ n ∈ numsFrom b c, n < 4096 := fun n hn => by
  obtain ⟨i, hi, rfl⟩ := List.mem_map.mp hn
  have := List.mem_range.mp hi
  omega
theorem nums_len {b c : Nat} : (numsFrom b c).length = c := by unfold numsFrom; rw [List.length_map, List.length_range]
theorem rng_from {b e : Nat} (h : e < 1000000) (h2 : b < 1000000) : rangeD [.int (b : Int), .int (e : Int)] = some ((numsFrom b (e - b)).map fun n : Nat => D.int (n : Int)) := by
  rw [rangeD_2 (ok62_i (by omega) (by omega)) (ok62_i (by omega) (by omega)), rngD_map]
  unfold numsFrom
  rw [List.map_map, show ((e : Int) - (b : Int)).toNat = e - b by omega]
  rfl
/-- useful from b, count c, nought beyond 4095 -/
theorem luse_at {p b c : Nat} (hp0 : 0 < p) (hp : p ≤ 60) (hb : b < 4096) (hc : c < 5000) : F__law_useful [.int (p : Int), .int (b : Int), .int (c : Int), PWD] = .ok (intsD (useT p [] (numsFrom b (min (b + c) 4096 - b)))) := by
  obtain ⟨k', x6', x7', hg⟩ := luse_go hp0 hp (.int (b : Int)) (.int (c : Int)) (numsFrom b (min (b + c) 4096 - b)) [] [] none none ⟨trivial, (fun _ h => by cases h), (fun _ h => by cases h)⟩ (nums_lt (by omega)) (by rw [nums_len]; simp; omega)
  refine runN_rt ?_
  show B__law_useful [some (.int (p : Int)), some (.int (b : Int)), some (.int (c : Int)), some PWD, none, none, none, none] = _
  unfold B__law_useful
  have em : dMinA [.int ((b : Int) + (c : Int)), .int 4096] = some (.int ((min (b + c) 4096 : Nat) : Int)) := by
    show some (D.int _) = some (D.int _)
    congr 2
    by_cases z : (4096 : Int) < (b : Int) + (c : Int)
    · rw [if_pos z]; omega
    · rw [if_neg z]; omega
  have er : iRange (aCons (eVar 1) (aCons (eCB dMinA (aCons (eBin dAdd (eVar 1) (eVar 2)) (aCons (eC (.int 4096)) aNil))) aNil)) [some (.int (p : Int)), some (.int (b : Int)), some (.int (c : Int)), some PWD, some (.lst []), some (.lst []), none, none] = .ok ((numsFrom b (min (b + c) 4096 - b)).map fun n : Nat => D.int (n : Int)) := by
    show ((Res.ofO (dMinA [.int ((b : Int) + (c : Int)), .int 4096])).bind fun e => Res.ok [D.int (b : Int), e]).bind (fun ds => Res.ofO (rangeD ds)) = _
    rw [em]
    show Res.ofO (rangeD [.int (b : Int), .int ((min (b + c) 4096 : Nat) : Int)]) = _
    rw [rng_from (by omega) (by omega)]; rfl
  rw [sSeq_at, set_go lst0, then_nx, sSeq_at, set_go lst0, then_nx]
  show (sSeq (sFor _ _ _) _ [some (.int (p : Int)), some (.int (b : Int)), some (.int (c : Int)), some PWD, some (.lst []), some (.lst []), none, none]) = _
  rw [sSeq_at, sFor_at, er, outX_ok]
  have hg' : forD (bName 6) _ _ [some (.int (p : Int)), some (.int (b : Int)), some (.int (c : Int)), some PWD, some (.lst []), some (.lst []), none, none] = _ := hg
  rw [hg']; rfl
end Law

namespace Law
open PySem L2 Dl Gf2
theorem min2_at (i j : Int) : dMinA [.int i, .int j] = some (.int (if j < i then j else i)) := rfl
def needL (p : Nat) : List (Nat × Nat) → List Nat → Option Nat
  | _, [] => none
  | k, n :: ns => if (useK p k n).length = p then some n else needL p (useK p k n) ns
def numsN (b : Nat) : List Nat := numsFrom b (min 4096 (b + 400) - b)
def oNeed (p b : Nat) : D := match needL p [] (numsN b) with
  | some n => .int ((n : Int) + 1 - (b : Int))
  | none => .non
def oOver (p b : Nat) : D := match needL p [] (numsN b) with
  | some n => .int ((n : Int) + 1 - (b : Int) - (p : Int))
  | none => .non
theorem need_body {p n b : Nat} {R : List Nat} {kn k : List (Nat × Nat)} {x4 : D} (hp0 : 0 < p) (hp : p ≤ 60) (hn : n < 4096) (h : St p R kn k) (x6 : Option D) :
    ∃ kn', St p (rowM p n :: R) kn' (useK p k n) ∧ (sSeq (sAsg (eCall 2 F_put_row (aCons (eVar 3) (aCons (eCall 3 F_row_by (aCons (eVar 0) (aCons (eVar 5) (aCons (eVar 2) aNil)))) aNil))) (bTup 2 (bCons (bName 3) (bCons (bName 6) bNil))))
  (sIf (tst (eBin dEq (eCB dLen (aCons (eVar 3) aNil)) (eVar 0)))
  (sRet (eBin dSub (eBin dAdd (eVar 5) (eC (.int 1))) (eVar 1)))
  sNop)) [some (.int (p : Int)), some (.int (b : Int)), some PWD, some (knD p kn), some x4, some (.int (n : Int)), x6] =
    if (useK p k n).length = p then .rt (.int ((n : Int) + 1 - (b : Int))) else .nx [some (.int (p : Int)), some (.int (b : Int)), some PWD, some (knD p kn'), some x4, some (.int (n : Int)), some (.bl (decide (useR p k n ≠ 0)))] := by
  obtain ⟨kn', h1, h2⟩ := st_step (n := n) hp0 hp h
  refine ⟨kn', h2, ?_⟩
  have e1 : eCall 3 F_row_by (aCons (eVar 0) (aCons (eVar 5) (aCons (eVar 2) aNil))) [some (.int (p : Int)), some (.int (b : Int)), some PWD, some (knD p kn), some x4, some (.int (n : Int)), x6] = .ok (rowD p (rowM p n)) := call3 rfl rfl rfl (row_by_at hp0 hp hn)
  have e2 : eCall 2 F_put_row (aCons (eVar 3) (aCons (eCall 3 F_row_by (aCons (eVar 0) (aCons (eVar 5) (aCons (eVar 2) aNil)))) aNil)) [some (.int (p : Int)), some (.int (b : Int)), some PWD, some (knD p kn), some x4, some (.int (n : Int)), x6] = .ok (.tup [knD p kn', .bl (decide (useR p k n ≠ 0))]) := call2 rfl e1 h1
  rw [sSeq_at, sAsg_at, e2, outX_ok]
  show (sIf _ _ _ [some (.int (p : Int)), some (.int (b : Int)), some PWD, some (knD p kn'), some x4, some (.int (n : Int)), some (.bl (decide (useR p k n ≠ 0)))]) = _
  have c : tst (eBin dEq (eCB dLen (aCons (eVar 3) aNil)) (eVar 0)) [some (.int (p : Int)), some (.int (b : Int)), some PWD, some (knD p kn'), some x4, some (.int (n : Int)), some (.bl (decide (useR p k n ≠ 0)))] = .ok (decide ((useK p k n).length = p)) := by
    show (Res.ofO (dEq (.int ((kn'.map (knE p)).length : Nat)) (.int (p : Int)))).bind asB = _
    rw [eq_nn, List.length_map, h2.len]; rfl
  rw [sIf_at, c, outX_ok]
  by_cases z : (useK p k n).length = p
  · rw [decide_eq_true z, if_pos rfl, if_pos z]; rfl
  · rw [decide_eq_false z, if_neg Bool.false_ne_true, if_neg z]; rfl
theorem need_go {p b : Nat} (hp0 : 0 < p) (hp : p ≤ 60) (x4 : D) : ∀ (ns : List Nat) (R : List Nat) (kn k : List (Nat × Nat)) (x5 x6 : Option D), St p R kn k → (∀ n ∈ ns, n < 4096) → ∃ kd' x5' x6',
    forD (bName 5) (sSeq (sAsg (eCall 2 F_put_row (aCons (eVar 3) (aCons (eCall 3 F_row_by (aCons (eVar 0) (aCons (eVar 5) (aCons (eVar 2) aNil)))) aNil))) (bTup 2 (bCons (bName 3) (bCons (bName 6) bNil))))
  (sIf (tst (eBin dEq (eCB dLen (aCons (eVar 3) aNil)) (eVar 0)))
  (sRet (eBin dSub (eBin dAdd (eVar 5) (eC (.int 1))) (eVar 1)))
  sNop)) (ns.map fun n : Nat => D.int (n : Int)) [some (.int (p : Int)), some (.int (b : Int)), some PWD, some (knD p kn), some x4, x5, x6] = match needL p k ns with
    | some n => .rt (.int ((n : Int) + 1 - (b : Int)))
    | none => .nx [some (.int (p : Int)), some (.int (b : Int)), some PWD, some kd', some x4, x5', x6']
  | [], R, kn, k, x5, x6, _, _ => ⟨knD p kn, x5, x6, rfl⟩
  | n :: ns, R, kn, k, x5, x6, h, hn => by
    obtain ⟨kn', h2, hb⟩ := need_body (b := b) (x4 := x4) hp0 hp (hn n List.mem_cons_self) h x6
    obtain ⟨kd', x5', x6', ih⟩ := need_go hp0 hp x4 ns _ kn' _ (some (.int (n : Int))) (some (.bl (decide (useR p k n ≠ 0)))) h2 (fun m hm => hn m (List.mem_cons_of_mem _ hm))
    refine ⟨kd', x5', x6', ?_⟩
    rw [List.map_cons, forD_cons (ρ1 := [some (.int (p : Int)), some (.int (b : Int)), some PWD, some (knD p kn), some x4, some (.int (n : Int)), x6]) rfl, hb]
    show _ = match (if (useK p k n).length = p then some n else needL p (useK p k n) ns) with
      | some n => Out.rt (.int ((n : Int) + 1 - (b : Int)))
      | none => Out.nx [some (.int (p : Int)), some (.int (b : Int)), some PWD, some kd', some x4, x5', x6']
    by_cases z : (useK p k n).length = p
    · rw [if_pos z, if_pos z]; rfl
    · rw [if_neg z, if_neg z]; exact ih
theorem needed_at {p b : Nat} (hp0 : 0 < p) (hp : p ≤ 60) (hb : b < 4096) : F_needed_from [.int (p : Int), .int (b : Int)] = .ok (oNeed p b) := by
  obtain ⟨kd', x5', x6', hg⟩ := need_go (b := b) hp0 hp (.int ((min 4096 (b + 400) : Nat) : Int)) (numsN b) [] [] [] none none st0 (nums_lt (by omega))
  have e1 : eCall 2 F_check_begin (aCons (eVar 0) (aCons (eVar 1) aNil)) [some (.int (p : Int)), some (.int (b : Int)), none, none, none, none, none] = .ok .non := call2 rfl rfl (check_begin_ok hp0 hp hb)
  have e2 : eCall 1 F_powers_of_two (aCons (eC (.int (285))) aNil) [some (.int (p : Int)), some (.int (b : Int)), none, none, none, none, none] = .ok PWD := call1 rfl powers_at
  have e3 : eCB dMinA (aCons (eBin dAdd (eC (.int (4095))) (eC (.int 1))) (aCons (eBin dAdd (eVar 1) (eC (.int (400)))) aNil)) [some (.int (p : Int)), some (.int (b : Int)), some PWD, some (knD p []), none, none, none] = .ok (.int ((min 4096 (b + 400) : Nat) : Int)) := by
    have em : dMinA [.int (4095 + 1), .int ((b : Int) + 400)] = some (.int ((min 4096 (b + 400) : Nat) : Int)) := by
      rw [min2_at]
      refine congrArg (fun i => some (D.int i)) ?_
      split <;> omega
    rw [eCB_at]
    show (Res.ok [D.int (4095 + 1), D.int ((b : Int) + 400)]).bind _ = _
    rw [Res.bind_ok, em]; rfl
  have er : iRange (aCons (eVar 1) (aCons (eVar 4) aNil)) [some (.int (p : Int)), some (.int (b : Int)), some PWD, some (knD p []), some (.int ((min 4096 (b + 400) : Nat) : Int)), none, none] = .ok ((numsN b).map fun n : Nat => D.int (n : Int)) := by
    show Res.ofO (rangeD [.int (b : Int), .int ((min 4096 (b + 400) : Nat) : Int)]) = _
    rw [rng_from (by omega) (by omega)]; rfl
  have hB : B_needed_from [some (.int (p : Int)), some (.int (b : Int)), none, none, none, none, none] = .rt (oNeed p b) := by
    unfold B_needed_from
    rw [sSeq_at, sDo_at, e1, outX_ok, then_nx, sSeq_at, set_go e2, then_nx, sSeq_at, set_go (d := knD p []) rfl, then_nx, sSeq_at]
    show (sSet 4 _ [some (.int (p : Int)), some (.int (b : Int)), some PWD, some (knD p []), none, none, none]).then _ = _
    rw [set_go e3, then_nx]
    show sSeq (sFor _ _ _) _ [some (.int (p : Int)), some (.int (b : Int)), some PWD, some (knD p []), some (.int ((min 4096 (b + 400) : Nat) : Int)), none, none] = _
    rw [sSeq_at, sFor_at, er, outX_ok, hg]
    unfold oNeed
    cases needL p [] (numsN b) <;> rfl
  exact runB_rt hB
theorem overhead_at {p b : Nat} (hp0 : 0 < p) (hp : p ≤ 60) (hb : b < 4096) : F_overhead [.int (p : Int), .int (b : Int)] = .ok (oOver p b) := by
  have e1 : eCall 2 F_needed_from (aCons (eVar 0) (aCons (eVar 1) aNil)) [some (.int (p : Int)), some (.int (b : Int)), none] = .ok (oNeed p b) := call2 rfl rfl (needed_at hp0 hp hb)
  have hB : B_overhead [some (.int (p : Int)), some (.int (b : Int)), none] = .rt (oOver p b) := by
    unfold B_overhead
    rw [sSeq_at, set_go e1, then_nx]
    unfold oNeed oOver
    cases needL p [] (numsN b) <;> rfl
  exact runB_rt hB
/-! ### the law's way to it -/
theorem useT_full {p : Nat} {k : List (Nat × Nat)} (h : k.length = p) : ∀ ns, useT p k ns = []
  | [] => rfl
  | n :: ns => by
    have hr : useR p k n = 0 := by unfold useR; rw [if_neg (by omega)]
    have hk : useK p k n = k := by unfold useK; rw [hr]; rfl
    show (if useR p k n ≠ 0 then _ else _) = _
    rw [hr, hk]
    exact useT_full h ns
theorem useK_len {p n : Nat} {k : List (Nat × Nat)} : (useK p k n).length = k.length + (if useR p k n ≠ 0 then 1 else 0) := by
  unfold useK
  split
  · rw [List.length_append]; rfl
  · rfl
theorem need_told {p : Nat} : ∀ (ns : List Nat) (k : List (Nat × Nat)), k.length < p → match needL p k ns with
    | some n => ∃ t, useT p k ns = t ++ [n] ∧ k.length + t.length + 1 = p
    | none => k.length + (useT p k ns).length < p
  | [], k, h => h
  | n :: ns, k, h => by
    show match (if (useK p k n).length = p then some n else needL p (useK p k n) ns) with
      | some m => ∃ t, (if useR p k n ≠ 0 then n :: useT p (useK p k n) ns else useT p (useK p k n) ns) = t ++ [m] ∧ k.length + t.length + 1 = p
      | none => k.length + (if useR p k n ≠ 0 then n :: useT p (useK p k n) ns else useT p (useK p k n) ns).length < p
    have hl := useK_len (p := p) (n := n) (k := k)
    by_cases r : useR p k n ≠ 0
    · rw [if_pos r] at hl
      rw [if_pos r]
      by_cases z : (useK p k n).length = p
      · rw [if_pos z, useT_full z]
        exact ⟨[], rfl, by simp; omega⟩
      · rw [if_neg z]
        have ih := need_told (p := p) ns (useK p k n) (by omega)
        cases q : needL p (useK p k n) ns with
        | some m =>
          rw [q] at ih
          obtain ⟨t, h1, h2⟩ := ih
          exact ⟨n :: t, by rw [h1]; rfl, by rw [List.length_cons]; omega⟩
        | none =>
          rw [q] at ih
          show k.length + (n :: useT p (useK p k n) ns).length < p
          rw [List.length_cons]
          have ih' : (useK p k n).length + (useT p (useK p k n) ns).length < p := ih
          omega
    · rw [if_neg r] at hl
      rw [if_neg r]
      have hk : useK p k n = k := by unfold useK; rw [if_neg r]
      rw [hk]
      rw [if_neg (by omega)]
      exact need_told ns k h
theorem atI_last {α : Type} (t : List α) (x : α) : atI (t ++ [x]) (-1) = some x := by
  unfold atI ixN
  rw [if_neg (by decide), List.length_append, List.length_singleton, if_pos (by omega)]
  show (t ++ [x])[_]? = _
  rw [show ((-1 : Int) + ((t.length + 1 : Nat) : Int)).toNat = t.length by omega]
  simp
theorem lneeded_at {p b : Nat} (hp0 : 0 < p) (hp : p ≤ 60) (hb : b < 4096) : F__law_needed [.int (p : Int), .int (b : Int), PWD] = .ok (oNeed p b) := by
  have en : min (b + 400) 4096 - b = min 4096 (b + 400) - b := by omega
  have e1 : eCall 4 F__law_useful (aCons (eVar 0) (aCons (eVar 1) (aCons (eC (.int 400)) (aCons (eVar 2) aNil)))) [some (.int (p : Int)), some (.int (b : Int)), some PWD, none] = .ok (intsD (useT p [] (numsN b))) := call4 rfl rfl rfl rfl (by
    have := luse_at (c := 400) hp0 hp hb (by decide)
    rw [en] at this
    exact this)
  have nt := need_told (p := p) (numsN b) [] hp0
  have hB : B__law_needed [some (.int (p : Int)), some (.int (b : Int)), some PWD, none] = .rt (oNeed p b) := by
    unfold B__law_needed
    rw [sSeq_at, set_go e1, then_nx]
    show sSeq (sIf _ _ _) _ [some (.int (p : Int)), some (.int (b : Int)), some PWD, some (intsD (useT p [] (numsN b)))] = _
    have c : tst (eBin dLt (eCB dLen (aCons (eVar 3) aNil)) (eVar 0)) [some (.int (p : Int)), some (.int (b : Int)), some PWD, some (intsD (useT p [] (numsN b)))] = .ok (decide ((useT p [] (numsN b)).length < p)) := by
      show (Res.ofO (dLt (.int (((useT p [] (numsN b)).map fun n : Nat => D.int (n : Int)).length : Nat)) (.int (p : Int)))).bind asB = _
      rw [lt_nn, List.length_map]; rfl
    rw [sSeq_at, sIf_at, c, outX_ok]
    unfold oNeed
    cases q : needL p [] (numsN b) with
    | some n =>
      rw [q] at nt
      obtain ⟨t, h1, h2⟩ := nt
      have h3 : ([] : List (Nat × Nat)).length + t.length + 1 = p := h2
      rw [List.length_nil] at h3
      rw [h1, decide_eq_false (by rw [List.length_append, List.length_singleton]; omega), if_neg Bool.false_ne_true, sNop_at, then_nx]
      show outX _ ((((Res.ofO (atI ((t ++ [n]).map fun n : Nat => D.int (n : Int)) (-1))).bind fun a => Res.ofO (dSub a (.int (b : Int)))).bind fun a => Res.ofO (dAdd a (.int 1)))) _ = _
      rw [List.map_append]
      rw [show ([n].map fun n : Nat => D.int (n : Int)) = [D.int (n : Int)] from rfl, atI_last]
      show Out.rt (D.int ((n : Int) - (b : Int) + 1)) = Out.rt (D.int ((n : Int) + 1 - (b : Int)))
      congr 2
      omega
    | none =>
      rw [q] at nt
      have h3 : ([] : List (Nat × Nat)).length + (useT p [] (numsN b)).length < p := nt
      rw [List.length_nil] at h3
      rw [decide_eq_true (by omega), if_pos rfl]; rfl
  exact runB_rt hB
/-! ### useful_from, weights_from -/
theorem range_ok {p b c : Nat} (hc : c ≤ 400) (hbc : b + c ≤ 4096) (ρ : En) (h1 : ρ[1]? = some (some (.int (b : Int)))) (h2 : ρ[2]? = some (some (.int (c : Int)))) :
    (bOr (bNot (tru (eCall 1 F_is_whole (aCons (eVar 2) aNil)))) (bOr (bNot (tst (eChain dLe dLe (eC (.int 0)) (eVar 2) (eC (.int (400)))))) (tst (eBin dGt (eBin dAdd (eVar 1) (eVar 2)) (eBin dAdd (eC (.int (4095))) (eC (.int 1))))))) ρ = .ok false := by
  have i1 : eVar 1 ρ = .ok (.int (b : Int)) := by rw [eVar_at, h1]
  have i2 : eVar 2 ρ = .ok (.int (c : Int)) := by rw [eVar_at, h2]
  have a1 : (0 : Int) ≤ (c : Int) := by omega
  have a2 : (c : Int) ≤ 400 := by omega
  have a3 : ¬ (4096 : Int) < (b : Int) + (c : Int) := by omega
  generalize (b : Int) = y at i1 a3
  generalize (c : Int) = z at i2 a1 a2 a3
  simp [-eVar_at, i1, i2, is_whole_i, a1, a2]
  omega
theorem eRg_at {b c : Nat} (h : b + c < 1000000) (ρ : En) (h1 : ρ[1]? = some (some (.int (b : Int)))) (h2 : ρ[2]? = some (some (.int (c : Int)))) : eRgL (aCons (eVar 1) (aCons (eBin dAdd (eVar 1) (eVar 2)) aNil)) ρ = .ok (intsD (numsFrom b c)) := by
  have i1 : eVar 1 ρ = .ok (.int (b : Int)) := by rw [eVar_at, h1]
  have i2 : eVar 2 ρ = .ok (.int (c : Int)) := by rw [eVar_at, h2]
  have e : eRgL (aCons (eVar 1) (aCons (eBin dAdd (eVar 1) (eVar 2)) aNil)) ρ = .ofO (rgD [.int (b : Int), .int ((b : Int) + (c : Int))]) := by
    unfold eRgL
    rw [aCons_at, i1, Res.bind_ok, aCons_at, eBin_at, i1, Res.bind_ok, i2, Res.bind_ok]; rfl
  rw [e]
  show Res.ofO (if ok62 (b : Int) && ok62 ((b : Int) + (c : Int)) && decide ((((b : Int) + (c : Int)) - (b : Int)).toNat ≤ 2 ^ 24) then some (D.lst (rngD (b : Int) (((b : Int) + (c : Int)) - (b : Int)).toNat)) else none) = _
  rw [show (((b : Int) + (c : Int)) - (b : Int)).toNat = c by omega, ok62_i (by omega) (by omega), ok62_i (by omega) (by omega), decide_eq_true (show c ≤ 2 ^ 24 by omega)]
  show Res.ok (D.lst (rngD (b : Int) c)) = _
  rw [rngD_map]
  unfold intsD numsFrom
  rw [List.map_map]; rfl
theorem useful_at {p b c : Nat} (hp0 : 0 < p) (hp : p ≤ 60) (hb : b < 4096) (hc : c ≤ 400) (hbc : b + c ≤ 4096) : F_useful_from [.int (p : Int), .int (b : Int), .int (c : Int)] = .ok (intsD (useT p [] (numsFrom b c))) := by
  have e1 : eCall 2 F_check_begin (aCons (eVar 0) (aCons (eVar 1) aNil)) [some (.int (p : Int)), some (.int (b : Int)), some (.int (c : Int))] = .ok .non := call2 rfl rfl (check_begin_ok hp0 hp hb)
  have e2 := range_ok (p := p) hc hbc [some (.int (p : Int)), some (.int (b : Int)), some (.int (c : Int))] rfl rfl
  have e3 := eRg_at (b := b) (c := c) (by omega) [some (.int (p : Int)), some (.int (b : Int)), some (.int (c : Int))] rfl rfl
  have e4 : eCall 2 F_least_numbers (aCons (eVar 0) (aCons (eRgL (aCons (eVar 1) (aCons (eBin dAdd (eVar 1) (eVar 2)) aNil))) aNil)) [some (.int (p : Int)), some (.int (b : Int)), some (.int (c : Int))] = .ok (intsD (useT p [] (numsFrom b c))) := call2 rfl e3 (least_at hp0 hp (nums_lt hbc) (by rw [nums_len]; omega))
  have hB : B_useful_from [some (.int (p : Int)), some (.int (b : Int)), some (.int (c : Int))] = .rt (intsD (useT p [] (numsFrom b c))) := by
    unfold B_useful_from
    rw [sSeq_at, sDo_at, e1, outX_ok, then_nx, sSeq_at, sIf_at, e2, outX_ok, if_neg Bool.false_ne_true, sNop_at, then_nx, sRet_at, e4]; rfl
  exact runN_rt hB
def wt (p n : Nat) : Int := ((List.range p).map fun j => if (rowM p n).testBit j = true then (1 : Int) else 0).sum
theorem weight_at (p m : Nat) : F_weight [rowD p m] = .ok (.int ((List.range p).map fun j => if m.testBit j = true then (1 : Int) else 0).sum) := by
  have e : rowD p m = .lst (((List.range p).map fun j => if m.testBit j = true then (1 : Int) else 0).map D.int) := by
    unfold rowD
    rw [List.map_map]; rfl
  have e2 : eCB dSum (aCons (eVar 0) aNil) [some (rowD p m)] = .ok (.int ((List.range p).map fun j => if m.testBit j = true then (1 : Int) else 0).sum) := by
    show Res.ofO (dSum [rowD p m]) = _
    rw [e, dSum_map]; rfl
  have hB : B_weight [some (rowD p m)] = .rt (.int ((List.range p).map fun j => if m.testBit j = true then (1 : Int) else 0).sum) := by
    unfold B_weight
    rw [sRet_at, e2]; rfl
  exact runB_rt hB
theorem weights_at {p b c : Nat} (hp0 : 0 < p) (hp : p ≤ 60) (hb : b < 4096) (hc : c ≤ 400) (hbc : b + c ≤ 4096) : F_weights_from [.int (p : Int), .int (b : Int), .int (c : Int)] = .ok (.lst ((numsFrom b c).map fun n => .int (wt p n))) := by
  have e1 : eCall 2 F_check_begin (aCons (eVar 0) (aCons (eVar 1) aNil)) [some (.int (p : Int)), some (.int (b : Int)), some (.int (c : Int)), none, none] = .ok .non := call2 rfl rfl (check_begin_ok hp0 hp hb)
  have e2 := range_ok (p := p) hc hbc [some (.int (p : Int)), some (.int (b : Int)), some (.int (c : Int)), none, none] rfl rfl
  have e3 : eCall 1 F_powers_of_two (aCons (eC (.int (285))) aNil) [some (.int (p : Int)), some (.int (b : Int)), some (.int (c : Int)), none, none] = .ok PWD := call1 rfl powers_at
  have er : iRange (aCons (eVar 1) (aCons (eBin dAdd (eVar 1) (eVar 2)) aNil)) [some (.int (p : Int)), some (.int (b : Int)), some (.int (c : Int)), some PWD, none] = .ok ((numsFrom b c).map fun n : Nat => D.int (n : Int)) := by
    show Res.ofO (rangeD [.int (b : Int), .int ((b : Int) + (c : Int))]) = _
    rw [show (b : Int) + (c : Int) = ((b + c : Nat) : Int) by omega, rng_from (by omega) (by omega), show b + c - b = c by omega]; rfl
  have ec := eComp_map (F := iRange (aCons (eVar 1) (aCons (eBin dAdd (eVar 1) (eVar 2)) aNil))) (b := bName 4) (c := cYes) (e := eCall 1 F_weight (aCons (eCall 3 F_row_by (aCons (eVar 0) (aCons (eVar 4) (aCons (eVar 3) aNil)))) aNil)) (vs := [4]) (ρ := [some (.int (p : Int)), some (.int (b : Int)), some (.int (c : Int)), some PWD, none]) (numsFrom b c) (fun n : Nat => D.int (n : Int)) (fun n => .int (wt p n)) er (by rw [nums_len]; exact lim_lt (by omega)) (fun n hn => ⟨_, rfl, rfl, call1 (call3 rfl rfl rfl (row_by_at hp0 hp (nums_lt hbc n hn))) (weight_at p (rowM p n))⟩)
  have hB : B_weights_from [some (.int (p : Int)), some (.int (b : Int)), some (.int (c : Int)), none, none] = .rt (.lst ((numsFrom b c).map fun n => .int (wt p n))) := by
    unfold B_weights_from
    rw [sSeq_at, sDo_at, e1, outX_ok, then_nx, sSeq_at, sIf_at, e2, outX_ok, if_neg Bool.false_ne_true, sNop_at, then_nx, sSeq_at, set_go e3, then_nx]
    show sRet _ [some (.int (p : Int)), some (.int (b : Int)), some (.int (c : Int)), some PWD, none] = _
    rw [sRet_at, ec]; rfl
  exact runN_rt hB
end Law

namespace Law
open PySem L2 Dl Gf2
/-! ### from nought, from the end -/
def kI (i : Nat) : List (Nat × Nat) := (List.range i).map fun j => (j, 2 ^ j)
theorem low_pow (i : Nat) : low (2 ^ i) = i := by
  have := (low_ok (2 ^ i) (Nat.two_pow_pos i)).2
  rw [Nat.testBit_two_pow] at this
  exact (of_decide_eq_true this).symm
theorem fold_same {m : Nat} : ∀ l : List (Nat × Nat), (∀ q ∈ l, m.testBit q.1 = false) → l.foldl Gf2.step m = m
  | [], _ => rfl
  | q :: l, h => by
    have : Gf2.step m q = m := by unfold Gf2.step; rw [if_neg (by rw [h q List.mem_cons_self]; decide)]
    rw [List.foldl_cons, this]
    exact fold_same l fun r hr => h r (List.mem_cons_of_mem _ hr)
theorem useK_kI {p i : Nat} (h : i < p) : useK p (kI i) i = kI (i + 1) := by
  have hr : useR p (kI i) i = 2 ^ i := by
    unfold useR rowM
    rw [if_pos (by unfold kI; rw [List.length_map, List.length_range]; exact h), if_pos h]
    exact fold_same _ fun q hq => by
      obtain ⟨j, hj, rfl⟩ := List.mem_map.mp hq
      have := List.mem_range.mp hj
      exact Nat.testBit_two_pow_of_ne (by omega)
  unfold useK
  rw [hr, if_pos (Nat.ne_of_gt (Nat.two_pow_pos i)), low_pow]
  unfold kI
  rw [List.range_succ, List.map_append]; rfl
theorem need_from {p : Nat} : ∀ (c i : Nat), i < p → p ≤ i + c → needL p (kI i) ((List.range' i c)) = some (p - 1)
  | 0, i, h, h2 => by omega
  | c + 1, i, h, h2 => by
    rw [List.range'_succ]
    show (if (useK p (kI i) i).length = p then some i else needL p (useK p (kI i) i) (List.range' (i + 1) c)) = _
    rw [useK_kI h]
    have hl : (kI (i + 1)).length = i + 1 := by unfold kI; rw [List.length_map, List.length_range]
    by_cases z : i + 1 = p
    · rw [if_pos (by rw [hl]; exact z)]
      congr 1; omega
    · rw [if_neg (by rw [hl]; exact z)]
      exact need_from c (i + 1) (by omega) (by omega)
theorem need_zero {p : Nat} (hp0 : 0 < p) (hp : p ≤ 60) : needL p [] (numsN 0) = some (p - 1) := by
  have e : numsN 0 = List.range' 0 400 := by decide +kernel
  rw [e]
  exact need_from 400 0 hp0 (by omega)
theorem need_short {p : Nat} : ∀ (ns : List Nat) (k : List (Nat × Nat)), k.length + ns.length < p → needL p k ns = none
  | [], _, _ => rfl
  | n :: ns, k, h => by
    rw [List.length_cons] at h
    have hl := useK_len (p := p) (n := n) (k := k)
    have hl2 : (useK p k n).length ≤ k.length + 1 := by rw [hl]; split <;> omega
    show (if (useK p k n).length = p then some n else needL p (useK p k n) ns) = none
    rw [if_neg (by omega)]
    exact need_short ns _ (by omega)
theorem need_end {p : Nat} (hp0 : 1 < p) (hp : p ≤ 60) : needL p [] (numsN (4097 - p)) = none :=
  need_short _ _ (by unfold numsN; rw [nums_len, List.length_nil]; omega)
/-! ### worst_begin -/
def needV (p b : Nat) : Int := match needL p [] (numsN b) with
  | some n => (n : Int) + 1 - (b : Int)
  | none => 401
def pbD (p b : Nat) : D := .tup [.int (needV p b), .int (b : Int)]
def better (p a b : Nat) : Nat := if needV p a < needV p b then b else a
theorem worst_body {p b : Nat} (best : Option Nat) (hp0 : 0 < p) (hp : p ≤ 60) (hb : b < 4096) (ld : D) (x4 : Option D) :
    (sSeq (sSet 4 (eCall 2 F_needed_from (aCons (eVar 0) (aCons (eVar 3) aNil))))
  (sSeq (sSet 4 (eIf (tst (eBin dIs (eVar 4) (eC .non))) (eBin dAdd (eC (.int (400))) (eC (.int 1))) (eVar 4)))
  (sIf (bOr (tst (eBin dIs (eVar 2) (eC .non))) (tst (eBin dGt (eVar 4) (eBin dIx (eVar 2) (eC (.int 0))))))
  (sSet 2 (eTup (aCons (eVar 4) (aCons (eVar 3) aNil))))
  sNop))) [some (.int (p : Int)), some ld, some (match best with | none => .non | some a => pbD p a), some (.int (b : Int)), x4] =
    .nx [some (.int (p : Int)), some ld, some (pbD p (match best with | none => b | some a => better p a b)), some (.int (b : Int)), some (.int (needV p b))] := by
  have e1 : ∀ bd : D, eCall 2 F_needed_from (aCons (eVar 0) (aCons (eVar 3) aNil)) [some (.int (p : Int)), some ld, some bd, some (.int (b : Int)), x4] = .ok (oNeed p b) := fun bd => call2 rfl rfl (needed_at hp0 hp hb)
  have e2 : ∀ bd : D, eIf (tst (eBin dIs (eVar 4) (eC .non))) (eBin dAdd (eC (.int (400))) (eC (.int 1))) (eVar 4) [some (.int (p : Int)), some ld, some bd, some (.int (b : Int)), some (oNeed p b)] = .ok (.int (needV p b)) := fun bd => by
    unfold oNeed needV
    cases needL p [] (numsN b) <;> rfl
  have e3 : ∀ bd : D, eTup (aCons (eVar 4) (aCons (eVar 3) aNil)) [some (.int (p : Int)), some ld, some bd, some (.int (b : Int)), some (.int (needV p b))] = .ok (pbD p b) := fun bd => by
    rw [eTup_at]
    show (if [D.int (needV p b), D.int (b : Int)].length ≤ lim then Res.ok (D.tup [.int (needV p b), .int (b : Int)]) else .bad) = _
    rw [if_pos (lim_le (by show 2 ≤ 16777216; decide))]; rfl
  rw [sSeq_at, set_go (e1 _), then_nx, sSeq_at]
  show (sSet 4 _ [some (.int (p : Int)), some ld, some _, some (.int (b : Int)), some (oNeed p b)]).then _ = _
  rw [set_go (e2 _), then_nx]
  show (sIf _ _ _ [some (.int (p : Int)), some ld, some _, some (.int (b : Int)), some (.int (needV p b))]) = _
  cases best with
  | none =>
    have c : bOr (tst (eBin dIs (eVar 2) (eC .non))) (tst (eBin dGt (eVar 4) (eBin dIx (eVar 2) (eC (.int 0))))) [some (.int (p : Int)), some ld, some .non, some (.int (b : Int)), some (.int (needV p b))] = .ok true := rfl
    show (sIf _ _ _ [some (.int (p : Int)), some ld, some .non, some (.int (b : Int)), some (.int (needV p b))]) = _
    rw [sIf_at, c, outX_ok, if_pos rfl, set_go (e3 _)]; rfl
  | some a =>
    have c : bOr (tst (eBin dIs (eVar 2) (eC .non))) (tst (eBin dGt (eVar 4) (eBin dIx (eVar 2) (eC (.int 0))))) [some (.int (p : Int)), some ld, some (pbD p a), some (.int (b : Int)), some (.int (needV p b))] = .ok (decide (needV p a < needV p b)) := by
      show (Res.ofO (dGt (.int (needV p b)) (.int (needV p a)))).bind asB = _
      rw [dGt_ii]; rfl
    show (sIf _ _ _ [some (.int (p : Int)), some ld, some (pbD p a), some (.int (b : Int)), some (.int (needV p b))]) = .nx [some (.int (p : Int)), some ld, some (pbD p (better p a b)), some (.int (b : Int)), some (.int (needV p b))]
    rw [sIf_at, c, outX_ok]
    unfold better
    by_cases z : needV p a < needV p b
    · rw [decide_eq_true z, if_pos rfl, if_pos z, set_go (e3 _)]; rfl
    · rw [decide_eq_false z, if_neg Bool.false_ne_true, if_neg z]; rfl
theorem worst_go {p : Nat} (hp0 : 0 < p) (hp : p ≤ 60) (ld : D) : ∀ (bs : List Nat) (a : Nat) (x3 x4 : Option D), (∀ b ∈ bs, b < 4096) → ∃ x3' x4',
    forD (bName 3) (sSeq (sSet 4 (eCall 2 F_needed_from (aCons (eVar 0) (aCons (eVar 3) aNil))))
  (sSeq (sSet 4 (eIf (tst (eBin dIs (eVar 4) (eC .non))) (eBin dAdd (eC (.int (400))) (eC (.int 1))) (eVar 4)))
  (sIf (bOr (tst (eBin dIs (eVar 2) (eC .non))) (tst (eBin dGt (eVar 4) (eBin dIx (eVar 2) (eC (.int 0))))))
  (sSet 2 (eTup (aCons (eVar 4) (aCons (eVar 3) aNil))))
  sNop))) (bs.map fun n : Nat => D.int (n : Int)) [some (.int (p : Int)), some ld, some (pbD p a), x3, x4] = .nx [some (.int (p : Int)), some ld, some (pbD p (bs.foldl (better p) a)), x3', x4']
  | [], a, x3, x4, _ => ⟨x3, x4, rfl⟩
  | b :: bs, a, x3, x4, h => by
    have hb := worst_body (p := p) (b := b) (some a) hp0 hp (h b List.mem_cons_self) ld x4
    obtain ⟨x3', x4', ih⟩ := worst_go hp0 hp ld bs (better p a b) (some (.int (b : Int))) (some (.int (needV p b))) fun c hc => h c (List.mem_cons_of_mem _ hc)
    refine ⟨x3', x4', ?_⟩
    rw [List.map_cons, forD_cons (ρ1 := [some (.int (p : Int)), some ld, some (pbD p a), some (.int (b : Int)), x4]) rfl]
    have hb' : _ = Out.nx [some (.int (p : Int)), some ld, some (pbD p (better p a b)), some (.int (b : Int)), some (.int (needV p b))] := hb
    rw [hb']
    exact ih
def worst (p : Nat) : List Nat → D
  | [] => .non
  | b :: bs => pbD p (bs.foldl (better p) b)
theorem worst_at {p : Nat} {bs : List Nat} (hp0 : 0 < p) (hp : p ≤ 60) (h : ∀ b ∈ bs, b < 4096) (hl : bs.length < 1000000) : F_worst_begin [.int (p : Int), intsD bs] = .ok (worst p bs) := by
  have e1 : eCall 2 F_check_numbers (aCons (eVar 0) (aCons (eVar 1) aNil)) [some (.int (p : Int)), some (intsD bs), none, none, none] = .ok .non := call2 rfl rfl (check_numbers_ok hp0 hp h hl)
  have hB : B_worst_begin [some (.int (p : Int)), some (intsD bs), none, none, none] = .rt (worst p bs) := by
    unfold B_worst_begin
    rw [sSeq_at, sDo_at, e1, outX_ok, then_nx, sSeq_at, set_go (d := .non) rfl, then_nx]
    show sSeq (sFor _ _ _) _ [some (.int (p : Int)), some (intsD bs), some .non, none, none] = _
    rw [sSeq_at, sFor_at]
    show (forD _ _ (bs.map fun n : Nat => D.int (n : Int)) [some (.int (p : Int)), some (intsD bs), some .non, none, none]).then _ = _
    cases bs with
    | nil => rfl
    | cons b bs =>
      have hb := worst_body (p := p) (b := b) none hp0 hp (h b List.mem_cons_self) (intsD (b :: bs)) none
      obtain ⟨x3', x4', hg⟩ := worst_go hp0 hp (intsD (b :: bs)) bs b (some (.int (b : Int))) (some (.int (needV p b))) fun c hc => h c (List.mem_cons_of_mem _ hc)
      rw [List.map_cons, forD_cons (ρ1 := [some (.int (p : Int)), some (intsD (b :: bs)), some .non, some (.int (b : Int)), none]) rfl]
      have hb' : _ = Out.nx [some (.int (p : Int)), some (intsD (b :: bs)), some (pbD p b), some (.int (b : Int)), some (.int (needV p b))] := hb
      rw [hb']
      show (forD _ _ _ [some (.int (p : Int)), some (intsD (b :: bs)), some (pbD p b), some (.int (b : Int)), some (.int (needV p b))]).then _ = _
      rw [hg]; rfl
  exact runB_rt hB
/-! ### what is refused -/
abbrev BN : ExV := ⟨"BadNumber", none⟩
theorem c_parts {a b : D} (h : F_check_parts [a] = .exc BN) : F_check_begin [a, b] = .exc BN := by
  have e : eCall 1 F_check_parts (aCons (eVar 0) aNil) [some a, some b] = .exc BN := call1 rfl h
  have hB : B_check_begin [some a, some b] = .exc BN [some a, some b] := by unfold B_check_begin; rw [sSeq_at, sDo_at, e]; rfl
  exact runB_exc hB
theorem c_num {a b : D} (h : F_check_parts [a] = .ok .non) (h2 : F_check_number [b] = .exc BN) : F_check_begin [a, b] = .exc BN := by
  have e : eCall 1 F_check_parts (aCons (eVar 0) aNil) [some a, some b] = .ok .non := call1 rfl h
  have e2 : eCall 1 F_check_number (aCons (eVar 1) aNil) [some a, some b] = .exc BN := call1 rfl h2
  have hB : B_check_begin [some a, some b] = .exc BN [some a, some b] := by unfold B_check_begin; rw [sSeq_at, sDo_at, e, outX_ok, then_nx, sDo_at, e2]; rfl
  exact runB_exc hB
theorem x_need {a b : D} (h : F_check_begin [a, b] = .exc BN) : F_needed_from [a, b] = .exc BN := by
  have e : eCall 2 F_check_begin (aCons (eVar 0) (aCons (eVar 1) aNil)) [some a, some b, none, none, none, none, none] = .exc BN := call2 rfl rfl h
  have hB : B_needed_from [some a, some b, none, none, none, none, none] = .exc BN [some a, some b, none, none, none, none, none] := by unfold B_needed_from; rw [sSeq_at, sDo_at, e]; rfl
  exact runB_exc hB
theorem x_over {a b : D} (h : F_needed_from [a, b] = .exc BN) : F_overhead [a, b] = .exc BN := by
  have e : eCall 2 F_needed_from (aCons (eVar 0) (aCons (eVar 1) aNil)) [some a, some b, none] = .exc BN := call2 rfl rfl h
  have hB : B_overhead [some a, some b, none] = .exc BN [some a, some b, none] := by unfold B_overhead; rw [sSeq_at, sSet_at, e]; rfl
  exact runB_exc hB
theorem x_use {a b c : D} (h : F_check_begin [a, b] = .exc BN) : F_useful_from [a, b, c] = .exc BN := by
  have e : eCall 2 F_check_begin (aCons (eVar 0) (aCons (eVar 1) aNil)) [some a, some b, some c] = .exc BN := call2 rfl rfl h
  have hB : B_useful_from [some a, some b, some c] = .exc BN [some a, some b, some c] := by unfold B_useful_from; rw [sSeq_at, sDo_at, e]; rfl
  exact runN_exc hB
theorem x_wei {a b c : D} (h : F_check_begin [a, b] = .exc BN) : F_weights_from [a, b, c] = .exc BN := by
  have e : eCall 2 F_check_begin (aCons (eVar 0) (aCons (eVar 1) aNil)) [some a, some b, some c, none, none] = .exc BN := call2 rfl rfl h
  have hB : B_weights_from [some a, some b, some c, none, none] = .exc BN [some a, some b, some c, none, none] := by unfold B_weights_from; rw [sSeq_at, sDo_at, e]; rfl
  exact runN_exc hB
theorem x_worst {a b : D} (h : F_check_numbers [a, b] = .exc BN) : F_worst_begin [a, b] = .exc BN := by
  have e : eCall 2 F_check_numbers (aCons (eVar 0) (aCons (eVar 1) aNil)) [some a, some b, none, none, none] = .exc BN := call2 rfl rfl h
  have hB : B_worst_begin [some a, some b, none, none, none] = .exc BN [some a, some b, none, none, none] := by unfold B_worst_begin; rw [sSeq_at, sDo_at, e]; rfl
  exact runB_exc hB
theorem c_nums {a b : D} (h : F_check_parts [a] = .ok .non) (h2 : F_are_wholes [b, .int 0, .int 4095] = .ok (.bl false)) : F_check_numbers [a, b] = .exc BN := by
  have e : eCall 1 F_check_parts (aCons (eVar 0) aNil) [some a, some b] = .ok .non := call1 rfl h
  have e2 : bNot (tru (eCall 3 F_are_wholes (aCons (eVar 1) (aCons (eC (.int 0)) (aCons (eC (.int (4095))) aNil))))) [some a, some b] = .ok true := by
    rw [bNot_at, tru_at, call3 rfl rfl rfl h2]; rfl
  have hB : B_check_numbers [some a, some b] = .exc BN [some a, some b] := by unfold B_check_numbers; rw [sSeq_at, sDo_at, e, outX_ok, then_nx, sIf_at, e2]; rfl
  exact runB_exc hB
theorem c_nums1 {a b : D} (h : F_check_parts [a] = .exc BN) : F_check_numbers [a, b] = .exc BN := by
  have e : eCall 1 F_check_parts (aCons (eVar 0) aNil) [some a, some b] = .exc BN := call1 rfl h
  have hB : B_check_numbers [some a, some b] = .exc BN [some a, some b] := by unfold B_check_numbers; rw [sSeq_at, sDo_at, e]; rfl
  exact runB_exc hB
/-- what a call that raises leads to -/
theorem tried {w a b c : D} (T : SF) (hT : T [some w, some a, some b, some c] = .exc BN [some w, some a, some b, some c]) :
    (sSeq (sTry T mt_BadNumber fun _ => (sRet (eC (.bl true)))) (sRet (eC (.bl false)))) [some w, some a, some b, some c] = .rt (.bl true) := by
  rw [sSeq_at]
  unfold sTry
  rw [hT]; rfl
theorem r0 {a b c : D} (h : F_needed_from [a, b] = .exc BN) : F__law_refused [.int 0, a, b, c] = .ok (.bl true) := by
  have e : eCall 2 F_needed_from (aCons (eVar 1) (aCons (eVar 2) aNil)) [some (.int 0), some a, some b, some c] = .exc BN := call2 rfl rfl h
  exact runB_rt (tried _ (by rw [sIf_at]; show sDo _ _ = _; rw [sDo_at, e]; rfl))
theorem r1 {a b c : D} (h : F_overhead [a, b] = .exc BN) : F__law_refused [.int 1, a, b, c] = .ok (.bl true) := by
  have e : eCall 2 F_overhead (aCons (eVar 1) (aCons (eVar 2) aNil)) [some (.int 1), some a, some b, some c] = .exc BN := call2 rfl rfl h
  exact runB_rt (tried _ (by rw [sIf_at]; show sIf _ _ _ _ = _; rw [sIf_at]; show sDo _ _ = _; rw [sDo_at, e]; rfl))
theorem r2 {a b c : D} (h : F_useful_from [a, b, c] = .exc BN) : F__law_refused [.int 2, a, b, c] = .ok (.bl true) := by
  have e : eCall 3 F_useful_from (aCons (eVar 1) (aCons (eVar 2) (aCons (eVar 3) aNil))) [some (.int 2), some a, some b, some c] = .exc BN := call3 rfl rfl rfl h
  exact runB_rt (tried _ (by rw [sIf_at]; show sIf _ _ _ _ = _; rw [sIf_at]; show sIf _ _ _ _ = _; rw [sIf_at]; show sDo _ _ = _; rw [sDo_at, e]; rfl))
theorem r3 {a b c : D} (h : F_weights_from [a, b, c] = .exc BN) : F__law_refused [.int 3, a, b, c] = .ok (.bl true) := by
  have e : eCall 3 F_weights_from (aCons (eVar 1) (aCons (eVar 2) (aCons (eVar 3) aNil))) [some (.int 3), some a, some b, some c] = .exc BN := call3 rfl rfl rfl h
  exact runB_rt (tried _ (by rw [sIf_at]; show sIf _ _ _ _ = _; rw [sIf_at]; show sIf _ _ _ _ = _; rw [sIf_at]; show sIf _ _ _ _ = _; rw [sIf_at]; show sDo _ _ = _; rw [sDo_at, e]; rfl))
theorem r4 {a b c : D} (h : F_worst_begin [a, b] = .exc BN) : F__law_refused [.int 4, a, b, c] = .ok (.bl true) := by
  have e : eCall 2 F_worst_begin (aCons (eVar 1) (aCons (eVar 2) aNil)) [some (.int 4), some a, some b, some c] = .exc BN := call2 rfl rfl h
  exact runB_rt (tried _ (by rw [sIf_at]; show sIf _ _ _ _ = _; rw [sIf_at]; show sIf _ _ _ _ = _; rw [sIf_at]; show sIf _ _ _ _ = _; rw [sIf_at]; show sDo _ _ = _; rw [sDo_at, e]; rfl))
theorem r_any {w : Nat} (hw : w < 4) {a b c : D} (h : F_check_begin [a, b] = .exc BN) : F__law_refused [.int (w : Int), a, b, c] = .ok (.bl true) := by
  match w, hw with
  | 0, _ => exact r0 (x_need h)
  | 1, _ => exact r1 (x_over (x_need h))
  | 2, _ => exact r2 (x_use h)
  | 3, _ => exact r3 (x_wei h)
end Law

namespace Law
open PySem L2 Dl Gf2
theorem loop_nop {i : Nat} {B : SF} (base : En) : ∀ (ds : List D) (x : Option D), (∀ d ∈ ds, B (base.set i (some d)) = .nx (base.set i (some d))) → ∃ x', forD (bName i) B ds (base.set i x) = .nx (base.set i x')
  | [], x, _ => ⟨x, rfl⟩
  | d :: ds, x, h => by
    obtain ⟨x', ih⟩ := loop_nop base ds (some d) fun e he => h e (List.mem_cons_of_mem _ he)
    refine ⟨x', ?_⟩
    rw [forD_cons (ρ1 := base.set i (some d)) (by show some ((base.set i x).set i (some d)) = _; rw [List.set_set]), h d List.mem_cons_self]
    exact ih
theorem nt_ok {f : En → Res D} {ρ : En} (h : f ρ = .ok (.bl true)) : bNot (tru f) ρ = .ok false := by rw [bNot_at, tru_at, h]; rfl
theorem or2 {f g : En → Res Bool} {ρ : En} (h : f ρ = .ok false) (h2 : g ρ = .ok false) : bOr f g ρ = .ok false := by rw [bOr_at, h, Res.bind_ok, if_neg Bool.false_ne_true, h2]
theorem skip {c : En → Res Bool} {F : SF} {ρ : En} (h : c ρ = .ok false) : sIf c F sNop ρ = .nx ρ := by rw [sIf_at, h]; rfl
theorem nums_ix {ns : List Nat} {i : Nat} (h : i < ns.length) : dIx (intsD ns) (.int (i : Int)) = some (.int ((ns.getD i 0 : Nat) : Int)) := by
  show atI _ _ = _
  exact at_nat (by rw [List.getElem?_map, List.getElem?_eq_getElem h, List.getD_eq_getElem?_getD, List.getElem?_eq_getElem h]; rfl)
def noneD (ns : List Nat) : List D := [.bl true, .non, .str "1", .int (-1), .int 4096, .int (1000000000000000000 + ((ns.getD 9 0 : Nat) : Int))]
theorem big_no (x : Int) (h : 4095 < x) : F_check_number [.int x] = .exc BN := by
  refine runB_exc (ρ := [some (.int x)]) ?_
  show B_check_number [some (.int x)] = _
  have h1 : (0 : Int) ≤ x := by omega
  have h2 : ¬ x ≤ 4095 := by omega
  have c : bOr (bNot (tru (eCall 1 F_is_whole (aCons (eVar 0) aNil)))) (bNot (tst (eChain dLe dLe (eC (.int 0)) (eVar 0) (eC (.int (4095)))))) [some (.int x)] = .ok true := by
    simp [is_whole_i, h1, h2]
  unfold B_check_number
  rw [sIf_at, c]; rfl
theorem none_no (ns : List Nat) : ∀ d ∈ noneD ns, F_check_number [d] = .exc BN := fun d hd => by
  unfold noneD at hd
  simp only [List.mem_cons, List.not_mem_nil, or_false] at hd
  rcases hd with rfl | rfl | rfl | rfl | rfl | rfl
  · rfl
  · rfl
  · rfl
  · rfl
  · rfl
  · exact big_no _ (by omega)
theorem none_at {p : Nat} {ns : List Nat} (hl : ns.length = 40) : ∃ nv, nv ∈ noneD ns ∧ (eBin dIx (eLst (aCons (eC (.bl true)) (aCons (eC .non) (aCons (eC (.str "1")) (aCons (un1 (fun i => -i) (eC (.int 1))) (aCons (eC (.int 4096)) (aCons (eBin dAdd (eBin dPow (eC (.int 10)) (eC (.int 18))) (eBin dIx (eVar 1) (eC (.int 9)))) aNil))))))) (eBin dMod (eBin dIx (eVar 1) (eC (.int 10))) (eC (.int 6)))) [some (.int (p : Int)), some (intsD ns), none, none, none, none, none, none] = .ok nv := by
  have hm : ns.getD 10 0 % 6 < (noneD ns).length := by show _ < 6; exact Nat.mod_lt _ (by decide)
  refine ⟨(noneD ns)[ns.getD 10 0 % 6], List.getElem_mem hm, ?_⟩
  have a9 : eBin dAdd (eBin dPow (eC (.int 10)) (eC (.int 18))) (eBin dIx (eVar 1) (eC (.int 9))) [some (.int (p : Int)), some (intsD ns), none, none, none, none, none, none] = .ok (.int (1000000000000000000 + ((ns.getD 9 0 : Nat) : Int))) := by
    rw [eBin_at, eBin_at, eC_at, Res.bind_ok, eC_at, Res.bind_ok, p1018]
    show (Res.ofO (dIx (intsD ns) (.int ((9 : Nat) : Int)))).bind _ = _
    rw [nums_ix (by omega)]; rfl
  have a10 : eBin dMod (eBin dIx (eVar 1) (eC (.int 10))) (eC (.int 6)) [some (.int (p : Int)), some (intsD ns), none, none, none, none, none, none] = .ok (.int ((ns.getD 10 0 % 6 : Nat) : Int)) := by
    show (Res.ofO (dIx (intsD ns) (.int ((10 : Nat) : Int)))).bind (fun a => Res.ofO (dMod a (.int ((6 : Nat) : Int)))) = _
    rw [nums_ix (by omega)]
    show Res.ofO (dMod (.int ((ns.getD 10 0 : Nat) : Int)) (.int ((6 : Nat) : Int))) = _
    rw [mod_nn (by decide)]; rfl
  have al : eLst (aCons (eC (.bl true)) (aCons (eC .non) (aCons (eC (.str "1")) (aCons (un1 (fun i => -i) (eC (.int 1))) (aCons (eC (.int 4096)) (aCons (eBin dAdd (eBin dPow (eC (.int 10)) (eC (.int 18))) (eBin dIx (eVar 1) (eC (.int 9)))) aNil)))))) [some (.int (p : Int)), some (intsD ns), none, none, none, none, none, none] = .ok (.lst (noneD ns)) := by
    rw [eLst_at]
    simp only [aCons_at, eC_at, Res.bind_ok, un1_at, aNil_at, a9]
    rw [if_pos (lim_le (by show 6 ≤ 16777216; decide))]; rfl
  rw [eBin_at, al, Res.bind_ok, a10, Res.bind_ok, dIx_l, at_nat (List.getElem?_eq_getElem hm)]; rfl
theorem small_lst {ds : List D} (h : ds.length ≤ 100) (fa : En → Res (List D)) (ρ : En) (e : fa ρ = .ok ds) : eLst fa ρ = .ok (.lst ds) := by
  rw [eLst_at, e, Res.bind_ok, if_pos (lim_le (by omega))]
theorem rng_bad {p : Nat} (hp0 : 0 < p) (hp : p ≤ 60) {b : Nat} {c : D} (hb : b < 4096) (ρ : En) (h1 : ρ[1]? = some (some (.int (b : Int)))) (h2 : ρ[2]? = some (some c)) (hc : (∃ i : Int, c = .int i ∧ (i < 0 ∨ 400 < i ∨ 4096 < (b : Int) + i)) ∨ c = .non ∨ c = .bl true ∨ c = .str "2") :
    (bOr (bNot (tru (eCall 1 F_is_whole (aCons (eVar 2) aNil)))) (bOr (bNot (tst (eChain dLe dLe (eC (.int 0)) (eVar 2) (eC (.int (400)))))) (tst (eBin dGt (eBin dAdd (eVar 1) (eVar 2)) (eBin dAdd (eC (.int (4095))) (eC (.int 1))))))) ρ = .ok true := by
  have i1 : eVar 1 ρ = .ok (.int (b : Int)) := by rw [eVar_at, h1]
  have i2 : eVar 2 ρ = .ok c := by rw [eVar_at, h2]
  rcases hc with ⟨i, rfl, hi⟩ | rfl | rfl | rfl
  · have w : bNot (tru (eCall 1 F_is_whole (aCons (eVar 2) aNil))) ρ = .ok false := nt_ok (call1 i2 rfl)
    have ch : tst (eChain dLe dLe (eC (.int 0)) (eVar 2) (eC (.int (400)))) ρ = .ok (decide (0 ≤ i) && decide (i ≤ 400)) := by
      rw [tst_at, eChain_at, eC_at, Res.bind_ok, i2, Res.bind_ok, dLe_ii]
      show (chK (.bl (decide (0 ≤ i))) ((eC (.int 400) ρ).bind fun c => Res.ofO (dLe (.int i) c))).bind asB = _
      rw [chK_b, eC_at, Res.bind_ok, dLe_ii]
      by_cases z : 0 ≤ i
      · rw [decide_eq_true z, if_pos rfl]; rfl
      · rw [decide_eq_false z, if_neg Bool.false_ne_true]; rfl
    have g : tst (eBin dGt (eBin dAdd (eVar 1) (eVar 2)) (eBin dAdd (eC (.int (4095))) (eC (.int 1)))) ρ = .ok (decide (4096 < (b : Int) + i)) := by
      rw [tst_at, eBin_at, eBin_at, i1, Res.bind_ok, i2, Res.bind_ok]
      show (Res.ofO (dGt (.int ((b : Int) + i)) (.int (4095 + 1)))).bind asB = _
      rw [dGt_ii]; rfl
    rw [bOr_at, w, Res.bind_ok, if_neg Bool.false_ne_true, bOr_at, bNot_at, ch, Res.bind_ok, Res.bind_ok, g]
    by_cases z1 : 0 ≤ i
    · by_cases z2 : i ≤ 400
      · rw [decide_eq_true z1, decide_eq_true z2, decide_eq_true (show 4096 < (b : Int) + i by omega)]; rfl
      · rw [decide_eq_true z1, decide_eq_false z2]; rfl
    · rw [decide_eq_false z1]; rfl
  all_goals
    rw [bOr_at, bNot_at, tru_at, call1 i2 rfl]; rfl
theorem x_use2 {p b : Nat} {c : D} (hp0 : 0 < p) (hp : p ≤ 60) (hb : b < 4096) (hc : (∃ i : Int, c = .int i ∧ (i < 0 ∨ 400 < i ∨ 4096 < (b : Int) + i)) ∨ c = .non ∨ c = .bl true ∨ c = .str "2") : F_useful_from [.int (p : Int), .int (b : Int), c] = .exc BN := by
  have e1 : eCall 2 F_check_begin (aCons (eVar 0) (aCons (eVar 1) aNil)) [some (.int (p : Int)), some (.int (b : Int)), some c] = .ok .non := call2 rfl rfl (check_begin_ok hp0 hp hb)
  have e2 := rng_bad hp0 hp hb [some (.int (p : Int)), some (.int (b : Int)), some c] rfl rfl hc
  have hB : B_useful_from [some (.int (p : Int)), some (.int (b : Int)), some c] = .exc BN [some (.int (p : Int)), some (.int (b : Int)), some c] := by
    unfold B_useful_from
    rw [sSeq_at, sDo_at, e1, outX_ok, then_nx, sSeq_at, sIf_at, e2]; rfl
  exact runN_exc hB
theorem x_wei2 {p b : Nat} {c : D} (hp0 : 0 < p) (hp : p ≤ 60) (hb : b < 4096) (hc : (∃ i : Int, c = .int i ∧ (i < 0 ∨ 400 < i ∨ 4096 < (b : Int) + i)) ∨ c = .non ∨ c = .bl true ∨ c = .str "2") : F_weights_from [.int (p : Int), .int (b : Int), c] = .exc BN := by
  have e1 : eCall 2 F_check_begin (aCons (eVar 0) (aCons (eVar 1) aNil)) [some (.int (p : Int)), some (.int (b : Int)), some c, none, none] = .ok .non := call2 rfl rfl (check_begin_ok hp0 hp hb)
  have e2 := rng_bad hp0 hp hb [some (.int (p : Int)), some (.int (b : Int)), some c, none, none] rfl rfl hc
  have hB : B_weights_from [some (.int (p : Int)), some (.int (b : Int)), some c, none, none] = .exc BN [some (.int (p : Int)), some (.int (b : Int)), some c, none, none] := by
    unfold B_weights_from
    rw [sSeq_at, sDo_at, e1, outX_ok, then_nx, sSeq_at, sIf_at, e2]; rfl
  exact runN_exc hB
/-- the inner loop over parts that are none -/
theorem lp1 {w : Nat} (hw : w < 4) (a b c e f g : Option D) : ∃ x', forD (bName 4) (sIf (bNot (tru (eCall 4 F__law_refused (aCons (eVar 3) (aCons (eVar 4) (aCons (eC (.int 3)) (aCons (eC (.int 2)) aNil)))))))
  (sRet (eC (.bl false)))
  sNop) [.int 0, .int 61, .non, .bl true] [a, b, c, some (.int (w : Int)), none, e, f, g] = .nx [a, b, c, some (.int (w : Int)), x', e, f, g] := by
  refine loop_nop (i := 4) [a, b, c, some (.int (w : Int)), none, e, f, g] [.int 0, .int 61, .non, .bl true] none fun d hd => skip (nt_ok (call4 rfl rfl rfl rfl (r_any hw (c_parts ?_))))
  simp only [List.mem_cons, List.not_mem_nil, or_false] at hd
  rcases hd with rfl | rfl | rfl | rfl <;> rfl
end Law

namespace Law
open PySem L2 Dl Gf2
def pairsR : List (Nat × D) := [(3, .int (-1)), (3, .int 401), (4095, .int 2), (4066, .int 31), (0, .non), (0, .bl true), (0, .str "2")]
theorem pairsR_bad : ∀ q ∈ pairsR, q.1 < 4096 ∧ ((∃ i : Int, q.2 = .int i ∧ (i < 0 ∨ 400 < i ∨ 4096 < ((q.1 : Nat) : Int) + i)) ∨ q.2 = .non ∨ q.2 = .bl true ∨ q.2 = .str "2") := fun q hq => by
  unfold pairsR at hq
  simp only [List.mem_cons, List.not_mem_nil, or_false] at hq
  rcases hq with rfl | rfl | rfl | rfl | rfl | rfl | rfl
  · exact ⟨by decide, .inl ⟨_, rfl, .inl (by decide)⟩⟩
  · exact ⟨by decide, .inl ⟨_, rfl, .inr (.inl (by decide))⟩⟩
  · exact ⟨by decide, .inl ⟨_, rfl, .inr (.inr (by decide))⟩⟩
  · exact ⟨by decide, .inl ⟨_, rfl, .inr (.inr (by decide))⟩⟩
  · exact ⟨by decide, .inr (.inl rfl)⟩
  · exact ⟨by decide, .inr (.inr (.inl rfl))⟩
  · exact ⟨by decide, .inr (.inr (.inr rfl))⟩
theorem tup2 {fa fb : En → Res D} {ρ : En} {a b : D} (h : fa ρ = .ok a) (h2 : fb ρ = .ok b) : eTup (aCons fa (aCons fb aNil)) ρ = .ok (.tup [a, b]) := by
  rw [eTup_at, aCons_at, h, Res.bind_ok, aCons_at, h2, Res.bind_ok, aNil_at, Res.bind_ok, Res.bind_ok, Res.bind_ok, if_pos (lim_le (by show 2 ≤ 16777216; decide))]
theorem acons {fa : En → Res D} {fr : En → Res (List D)} {ρ : En} {a : D} {ds : List D} (h : fa ρ = .ok a) (h2 : fr ρ = .ok ds) : aCons fa fr ρ = .ok (a :: ds) := by
  rw [aCons_at, h, Res.bind_ok, h2]; rfl
theorem lp2 {p : Nat} (hp0 : 0 < p) (hp : p ≤ 60) {w : Nat} (hw : w = 2 ∨ w = 3) (b c d e f g : Option D) : ∃ f' g', forD (bTup 2 (bCons (bName 5) (bCons (bName 6) bNil)))
  (sIf (bNot (tru (eCall 4 F__law_refused (aCons (eVar 3) (aCons (eVar 0) (aCons (eVar 5) (aCons (eVar 6) aNil)))))))
  (sRet (eC (.bl false)))
  sNop) (pairsR.map fun q => .tup [.int (q.1 : Int), q.2]) [some (.int (p : Int)), b, c, some (.int (w : Int)), d, e, f, g] = .nx [some (.int (p : Int)), b, c, some (.int (w : Int)), d, f', g', g] := by
  refine for_rule (fun q : Nat × D => D.tup [.int (q.1 : Int), q.2]) (fun _ ρ => ∃ f' g', ρ = [some (.int (p : Int)), b, c, some (.int (w : Int)), d, f', g', g]) (fun o => ∃ f' g', o = .nx [some (.int (p : Int)), b, c, some (.int (w : Int)), d, f', g', g]) (fun i q ρ hq hI => ?_) (fun ρ ⟨x, y, h⟩ => ⟨x, y, by rw [h]⟩) ⟨e, f, rfl⟩
  obtain ⟨x, y, rfl⟩ := hI
  obtain ⟨h1, h2⟩ := pairsR_bad q (List.mem_of_getElem? hq)
  have key : F__law_refused [.int (w : Int), .int (p : Int), .int (q.1 : Int), q.2] = .ok (.bl true) := by
    rcases hw with rfl | rfl
    · exact r2 (x_use2 hp0 hp h1 h2)
    · exact r3 (x_wei2 hp0 hp h1 h2)
  exact ⟨_, rfl, .inl ⟨_, .inl (skip (nt_ok (call4 rfl rfl rfl rfl key))), _, _, rfl⟩⟩
def listsR : List D := [.lst [.int 4096], .lst [.int 0, .int (-1)], .non, .int 5, .lst [.non], .lst [.int 0, .bl true], .lst [.str "0"]]
theorem lp3 {p : Nat} (hp0 : 0 < p) (hp : p ≤ 60) (b c d e f g : Option D) : ∃ g', forD (bName 7) (sIf (bNot (tru (eCall 4 F__law_refused (aCons (eC (.int 4)) (aCons (eVar 0) (aCons (eVar 7) (aCons (eC (.int 0)) aNil)))))))
  (sRet (eC (.bl false)))
  sNop) listsR [some (.int (p : Int)), b, c, d, e, f, g, none] = .nx [some (.int (p : Int)), b, c, d, e, f, g, g'] := by
  refine loop_nop (i := 7) [some (.int (p : Int)), b, c, d, e, f, g, none] listsR none fun v hv => skip (nt_ok (call4 rfl rfl rfl rfl (r4 (x_worst (c_nums (check_parts_ok hp0 hp) ?_)))))
  unfold listsR at hv
  simp only [List.mem_cons, List.not_mem_nil, or_false] at hv
  rcases hv with rfl | rfl | rfl | rfl | rfl | rfl | rfl <;> rfl
theorem refusals_at {p : Nat} {ns : List Nat} (hp0 : 0 < p) (hp : p ≤ 60) (hl : ns.length = 40) : F__law_refusals [.int (p : Int), intsD ns] = .ok (.bl true) := by
  obtain ⟨nv, hnv, e0⟩ := none_at (p := p) hl
  have hno := none_no ns nv hnv
  have cp := check_parts_ok hp0 hp
  have hB : B__law_refusals [some (.int (p : Int)), some (intsD ns), none, none, none, none, none, none] = .rt (.bl true) := by
    unfold B__law_refusals
    rw [sSeq_at, set_go e0, then_nx]
    show sSeq (sFor _ _ _) _ [some (.int (p : Int)), some (intsD ns), some nv, none, none, none, none, none] = _
    rw [sSeq_at, sFor_at]
    have er : iRange (aCons (eC (.int 4)) aNil) [some (.int (p : Int)), some (intsD ns), some nv, none, none, none, none, none] = .ok ((List.range 4).map fun j : Nat => D.int (j : Int)) := by
      show Res.ofO (rangeD [.int ((4 : Nat) : Int)]) = _
      rw [rng_ok (by decide)]; rfl
    rw [er, outX_ok]
    have h1 : ∃ x3 x4, forD (bName 3)
        (sSeq (sFor (iSeq (eLst (aCons (eC (.int 0)) (aCons (eC (.int 61)) (aCons (eC .non) (aCons (eC (.bl true)) aNil)))))) (bName 4)
        (sIf (bNot (tru (eCall 4 F__law_refused (aCons (eVar 3) (aCons (eVar 4) (aCons (eC (.int 3)) (aCons (eC (.int 2)) aNil)))))))
        (sRet (eC (.bl false)))
        sNop))
        (sIf (bOr (bNot (tru (eCall 4 F__law_refused (aCons (eVar 3) (aCons (eVar 0) (aCons (eVar 2) (aCons (eC (.int 0)) aNil))))))) (bOr (bNot (tru (eCall 4 F__law_refused (aCons (eVar 3) (aCons (eVar 0) (aCons (eC (.int 4096)) (aCons (eC (.int 0)) aNil))))))) (bNot (tru (eCall 4 F__law_refused (aCons (eVar 3) (aCons (eVar 0) (aCons (un1 (fun i => -i) (eC (.int 1))) (aCons (eC (.int 0)) aNil)))))))))
        (sRet (eC (.bl false)))
        sNop)) ((List.range 4).map fun j : Nat => D.int (j : Int)) [some (.int (p : Int)), some (intsD ns), some nv, none, none, none, none, none] = .nx [some (.int (p : Int)), some (intsD ns), some nv, x3, x4, none, none, none] := by
      refine for_rule (fun j : Nat => D.int (j : Int)) (fun _ ρ => ∃ x3 x4, ρ = [some (.int (p : Int)), some (intsD ns), some nv, x3, x4, none, none, none]) (fun o => ∃ x3 x4, o = .nx [some (.int (p : Int)), some (intsD ns), some nv, x3, x4, none, none, none]) (fun i w ρ hw hI => ?_) (fun ρ ⟨x, y, h⟩ => ⟨x, y, by rw [h]⟩) ⟨none, none, rfl⟩
      obtain ⟨x3, x4, rfl⟩ := hI
      have hw4 : w < 4 := List.mem_range.mp (List.mem_of_getElem? hw)
      refine ⟨_, rfl, .inl ?_⟩
      have el : iSeq (eLst (aCons (eC (.int 0)) (aCons (eC (.int 61)) (aCons (eC .non) (aCons (eC (.bl true)) aNil))))) [some (.int (p : Int)), some (intsD ns), some nv, some (.int (w : Int)), x4, none, none, none] = .ok [.int 0, .int 61, .non, .bl true] := by
        rw [iSeq_at, small_lst (ds := [.int 0, .int 61, .non, .bl true]) (by show 4 ≤ 100; decide) _ _ rfl]; rfl
      obtain ⟨x', hx⟩ := loop_nop (i := 4) (B := (sIf (bNot (tru (eCall 4 F__law_refused (aCons (eVar 3) (aCons (eVar 4) (aCons (eC (.int 3)) (aCons (eC (.int 2)) aNil)))))))
        (sRet (eC (.bl false)))
        sNop)) [some (.int (p : Int)), some (intsD ns), some nv, some (.int (w : Int)), none, none, none, none] [.int 0, .int 61, .non, .bl true] x4 fun d hd => skip (nt_ok (call4 rfl rfl rfl rfl (r_any hw4 (c_parts (by
          simp only [List.mem_cons, List.not_mem_nil, or_false] at hd
          rcases hd with rfl | rfl | rfl | rfl <;> rfl)))))
      refine ⟨[some (.int (p : Int)), some (intsD ns), some nv, some (.int (w : Int)), x', none, none, none], .inl ?_, _, _, rfl⟩
      show sSeq (sFor _ _ _) _ [some (.int (p : Int)), some (intsD ns), some nv, some (.int (w : Int)), x4, none, none, none] = _
      rw [sSeq_at, sFor_at, el, outX_ok]
      have hx' : forD (bName 4) _ _ [some (.int (p : Int)), some (intsD ns), some nv, some (.int (w : Int)), x4, none, none, none] = .nx [some (.int (p : Int)), some (intsD ns), some nv, some (.int (w : Int)), x', none, none, none] := hx
      rw [hx', then_nx]
      exact skip (or2 (nt_ok (call4 rfl rfl rfl rfl (r_any hw4 (c_num cp hno)))) (or2 (nt_ok (call4 rfl rfl rfl rfl (r_any hw4 (c_num cp rfl)))) (nt_ok (call4 rfl rfl rfl rfl (r_any hw4 (c_num cp rfl))))))
    obtain ⟨x3, x4, hx⟩ := h1
    rw [hx, then_nx, sSeq_at, sFor_at]
    have el2 : iSeq (eLst (aCons (eC (.int 2)) (aCons (eC (.int 3)) aNil))) [some (.int (p : Int)), some (intsD ns), some nv, x3, x4, none, none, none] = .ok ([2, 3].map fun j : Nat => D.int (j : Int)) := by
      rw [iSeq_at, small_lst (ds := [.int 2, .int 3]) (by show 2 ≤ 100; decide) _ _ rfl]; rfl
    rw [el2, outX_ok]
    have h2 : ∃ z3 x5 x6, forD (bName 3)
        (sFor (iSeq (eLst (aCons (eTup (aCons (eC (.int 3)) (aCons (un1 (fun i => -i) (eC (.int 1))) aNil))) (aCons (eTup (aCons (eC (.int 3)) (aCons (eC (.int 401)) aNil))) (aCons (eTup (aCons (eC (.int 4095)) (aCons (eC (.int 2)) aNil))) (aCons (eTup (aCons (eBin dSub (eC (.int 4096)) (eC (.int 30))) (aCons (eC (.int 31)) aNil))) (aCons (eTup (aCons (eC (.int 0)) (aCons (eC .non) aNil))) (aCons (eTup (aCons (eC (.int 0)) (aCons (eC (.bl true)) aNil))) (aCons (eTup (aCons (eC (.int 0)) (aCons (eC (.str "2")) aNil))) aNil))))))))) (bTup 2 (bCons (bName 5) (bCons (bName 6) bNil)))
        (sIf (bNot (tru (eCall 4 F__law_refused (aCons (eVar 3) (aCons (eVar 0) (aCons (eVar 5) (aCons (eVar 6) aNil)))))))
        (sRet (eC (.bl false)))
        sNop)) ([2, 3].map fun j : Nat => D.int (j : Int)) [some (.int (p : Int)), some (intsD ns), some nv, x3, x4, none, none, none] = .nx [some (.int (p : Int)), some (intsD ns), some nv, z3, x4, x5, x6, none] := by
      have lp2' : ∀ w : Nat, w = 2 ∨ w = 3 → ∀ y5 y6 : Option D, ∃ x5 x6, (sFor (iSeq (eLst (aCons (eTup (aCons (eC (.int 3)) (aCons (un1 (fun i => -i) (eC (.int 1))) aNil))) (aCons (eTup (aCons (eC (.int 3)) (aCons (eC (.int 401)) aNil))) (aCons (eTup (aCons (eC (.int 4095)) (aCons (eC (.int 2)) aNil))) (aCons (eTup (aCons (eBin dSub (eC (.int 4096)) (eC (.int 30))) (aCons (eC (.int 31)) aNil))) (aCons (eTup (aCons (eC (.int 0)) (aCons (eC .non) aNil))) (aCons (eTup (aCons (eC (.int 0)) (aCons (eC (.bl true)) aNil))) (aCons (eTup (aCons (eC (.int 0)) (aCons (eC (.str "2")) aNil))) aNil))))))))) (bTup 2 (bCons (bName 5) (bCons (bName 6) bNil)))
        (sIf (bNot (tru (eCall 4 F__law_refused (aCons (eVar 3) (aCons (eVar 0) (aCons (eVar 5) (aCons (eVar 6) aNil)))))))
        (sRet (eC (.bl false)))
        sNop)) [some (.int (p : Int)), some (intsD ns), some nv, some (.int (w : Int)), x4, y5, y6, none] = .nx [some (.int (p : Int)), some (intsD ns), some nv, some (.int (w : Int)), x4, x5, x6, none] := fun w hw y5 y6 => by
        obtain ⟨x5, x6, h⟩ := lp2 hp0 hp hw (some (intsD ns)) (some nv) x4 y5 y6 none
        refine ⟨x5, x6, ?_⟩
        have e3 : iSeq (eLst (aCons (eTup (aCons (eC (.int 3)) (aCons (un1 (fun i => -i) (eC (.int 1))) aNil))) (aCons (eTup (aCons (eC (.int 3)) (aCons (eC (.int 401)) aNil))) (aCons (eTup (aCons (eC (.int 4095)) (aCons (eC (.int 2)) aNil))) (aCons (eTup (aCons (eBin dSub (eC (.int 4096)) (eC (.int 30))) (aCons (eC (.int 31)) aNil))) (aCons (eTup (aCons (eC (.int 0)) (aCons (eC .non) aNil))) (aCons (eTup (aCons (eC (.int 0)) (aCons (eC (.bl true)) aNil))) (aCons (eTup (aCons (eC (.int 0)) (aCons (eC (.str "2")) aNil))) aNil)))))))) [some (.int (p : Int)), some (intsD ns), some nv, some (.int (w : Int)), x4, y5, y6, none] = .ok (pairsR.map fun q => .tup [.int (q.1 : Int), q.2]) := by
          rw [iSeq_at, small_lst (ds := pairsR.map fun q => D.tup [.int (q.1 : Int), q.2]) (by show 7 ≤ 100; decide) _ _ (acons (tup2 rfl rfl) (acons (tup2 rfl rfl) (acons (tup2 rfl rfl) (acons (tup2 rfl rfl) (acons (tup2 rfl rfl) (acons (tup2 rfl rfl) (acons (tup2 rfl rfl) rfl)))))))]; rfl
        rw [sFor_at, e3, outX_ok]
        exact h
      refine for_rule (fun j : Nat => D.int (j : Int)) (fun _ ρ => ∃ x3 x5 x6, ρ = [some (.int (p : Int)), some (intsD ns), some nv, x3, x4, x5, x6, none]) (fun o => ∃ x3 x5 x6, o = .nx [some (.int (p : Int)), some (intsD ns), some nv, x3, x4, x5, x6, none]) (fun i w ρ hw hI => ?_) (fun ρ ⟨x, y, z, h⟩ => ⟨x, y, z, by rw [h]⟩) ⟨x3, none, none, rfl⟩
      obtain ⟨y3, y5, y6, rfl⟩ := hI
      have hw2 : w = 2 ∨ w = 3 := by
        have := List.mem_of_getElem? hw
        simpa using this
      obtain ⟨x5, x6, h⟩ := lp2' w hw2 y5 y6
      exact ⟨_, rfl, .inl ⟨_, .inl h, _, _, _, rfl⟩⟩
    obtain ⟨y3, x5, x6, hy⟩ := h2
    rw [hy, then_nx, sSeq_at, sFor_at]
    have el3 : iSeq (eLst (aCons (eLst (aCons (eC (.int 4096)) aNil)) (aCons (eLst (aCons (eC (.int 0)) (aCons (un1 (fun i => -i) (eC (.int 1))) aNil))) (aCons (eC .non) (aCons (eC (.int 5)) (aCons (eLst (aCons (eC .non) aNil)) (aCons (eLst (aCons (eC (.int 0)) (aCons (eC (.bl true)) aNil))) (aCons (eLst (aCons (eC (.str "0")) aNil)) aNil)))))))) [some (.int (p : Int)), some (intsD ns), some nv, y3, x4, x5, x6, none] = .ok listsR := by
      rw [iSeq_at, small_lst (ds := listsR) (by show 7 ≤ 100; decide) _ _ (acons (small_lst (ds := [.int 4096]) (by show 1 ≤ 100; decide) _ _ rfl) (acons (small_lst (ds := [.int 0, .int (-1)]) (by show 2 ≤ 100; decide) _ _ rfl) (acons rfl (acons rfl (acons (small_lst (ds := [.non]) (by show 1 ≤ 100; decide) _ _ rfl) (acons (small_lst (ds := [.int 0, .bl true]) (by show 2 ≤ 100; decide) _ _ rfl) (acons (small_lst (ds := [.str "0"]) (by show 1 ≤ 100; decide) _ _ rfl) rfl)))))))]; rfl
    rw [el3, outX_ok]
    obtain ⟨x7, h7⟩ := lp3 hp0 hp (some (intsD ns)) (some nv) y3 x4 x5 x6
    rw [h7, then_nx]
    have f1 : eCall 4 F__law_refused (aCons (eC (.int 4)) (aCons (eC (.int 61)) (aCons (eLst (aCons (eC (.int 0)) aNil)) (aCons (eC (.int 0)) aNil)))) [some (.int (p : Int)), some (intsD ns), some nv, y3, x4, x5, x6, x7] = .ok (.bl true) := call4 rfl rfl (small_lst (ds := [.int 0]) (by show 1 ≤ 100; decide) _ _ rfl) rfl (r4 (x_worst (c_nums1 rfl)))
    have f2 : eCall 4 F__law_refused (aCons (eC (.int 4)) (aCons (eC (.int 0)) (aCons (eLst aNil) (aCons (eC (.int 0)) aNil)))) [some (.int (p : Int)), some (intsD ns), some nv, y3, x4, x5, x6, x7] = .ok (.bl true) := call4 rfl rfl lst0 rfl (r4 (x_worst (c_nums1 rfl)))
    rw [sRet_at, eAnd_at, f1, Res.bind_ok]
    show outX _ (eCall 4 F__law_refused _ _) _ = _
    rw [f2]; rfl
  exact runB_rt hB
end Law

namespace Law
open PySem L2 Dl Gf2
def LS1 : SF := (sSet 1 (eCall 3 F__law_numbers (aCons (eVar 0) (aCons (eC (.int 0)) (aCons (eC (.int 40)) aNil)))))
def LS2 : SF := (sSet 2 (eBin dIx (eLst (aCons (eBin dAdd (eBin dMod (eBin dIx (eVar 1) (eC (.int 0))) (eC (.int 60))) (eC (.int 1))) (aCons (eBin dAdd (eBin dMod (eBin dIx (eVar 1) (eC (.int 0))) (eC (.int 9))) (eC (.int 1))) aNil))) (eBin dMod (eBin dIx (eVar 1) (eC (.int 1))) (eC (.int 2)))))
def LS3 : SF := (sSet 3 (eCall0 F__law_powers))
def LS4 : SF := (sSet 4 (eBin dMod (eBin dAdd (eBin dMul (eBin dIx (eVar 1) (eC (.int 2))) (eC (.int 1009))) (eBin dIx (eVar 1) (eC (.int 3)))) (eC (.int 4096))))
def LS5 : SF := (sSet 5 (eLst (aCons (eBin dIx (eLst (aCons (eVar 4) (aCons (eBin dMod (eBin dIx (eVar 1) (eC (.int 2))) (eBin dAdd (eVar 2) (eC (.int 3)))) (aCons (eBin dSub (eC (.int 4095)) (eBin dMod (eBin dIx (eVar 1) (eC (.int 3))) (eBin dAdd (eBin dMul (eC (.int 2)) (eVar 2)) (eC (.int 9))))) aNil)))) (eBin dMod (eBin dIx (eVar 1) (eC (.int 4))) (eC (.int 3)))) (aCons (eVar 4) (aCons (eBin dSub (eC (.int 4096)) (eVar 2)) aNil)))))
def LS6 : SF := (sSet 6 (eLst aNil))
def LS7 : SF := (sFor (iSeq (eBin dAdd (eSl dSl (eVar 5) oNone (oSome (eC (.int 2)))) (eLst (aCons (eC (.int 0)) aNil)))) (bName 7)   (sSeq (sSet 8 (eCall 3 F__law_needed (aCons (eVar 2) (aCons (eVar 7) (aCons (eVar 3) aNil)))))   (sSeq (sIf (bNot (tru (eCall 2 (F__law_same 4) (aCons (eCall 2 F_needed_from (aCons (eVar 2) (aCons (eVar 7) aNil))) (aCons (eVar 8) aNil)))))   (sRet (eC (.bl false)))   sNop)   (sSeq (sIf (bOr (bAnd (tst (eBin dIs (eVar 8) (eC .non))) (tst (eBin dIsNot (eCall 2 F_overhead (aCons (eVar 2) (aCons (eVar 7) aNil))) (eC .non)))) (bAnd (tst (eBin dIsNot (eVar 8) (eC .non))) (bNot (tru (eCall 2 (F__law_same 4) (aCons (eCall 2 F_overhead (aCons (eVar 2) (aCons (eVar 7) aNil))) (aCons (eBin dSub (eVar 8) (eVar 2)) aNil)))))))   (sRet (eC (.bl false)))   sNop)   (sApp 6 (eTup (aCons (eIf (tst (eBin dIs (eVar 8) (eC .non))) (eC (.int 401)) (eVar 8)) (aCons (eVar 7) aNil))))))))
def LS8 : SF := (sIf (bOr (tst (eBin dNe (eCall 2 F_needed_from (aCons (eVar 2) (aCons (eC (.int 0)) aNil))) (eVar 2))) (bOr (tst (eBin dNe (eCall 2 F_overhead (aCons (eVar 2) (aCons (eC (.int 0)) aNil))) (eC (.int 0)))) (bAnd (tst (eBin dGt (eVar 2) (eC (.int 1)))) (tst (eBin dIsNot (eCall 2 F_needed_from (aCons (eVar 2) (aCons (eBin dSub (eC (.int 4097)) (eVar 2)) aNil))) (eC .non))))))   (sRet (eC (.bl false)))   sNop)
def LS9 : SF := (sFor (iSeq (eVar 5)) (bName 7)   (sSeq (sSet 9 (eCB dMinA (aCons (eBin dIx (eLst (aCons (eBin dMod (eBin dIx (eVar 1) (eC (.int 5))) (eC (.int 90))) (aCons (eBin dMod (eBin dIx (eVar 1) (eC (.int 5))) (eC (.int 401))) aNil))) (eCB dInt (aCons (eBin dEq (eBin dMod (eBin dIx (eVar 1) (eC (.int 6))) (eC (.int 4))) (eC (.int 0))) aNil))) (aCons (eBin dSub (eC (.int 4096)) (eVar 7)) aNil))))   (sSeq (sSet 10 (eCall 3 F_useful_from (aCons (eVar 2) (aCons (eVar 7) (aCons (eVar 9) aNil)))))   (sSeq (sIf (bNot (tru (eCallL 2 (F__law_same 4) (aCons (eVar 10) (aCons (eCall 4 F__law_useful (aCons (eVar 2) (aCons (eVar 7) (aCons (eVar 9) (aCons (eVar 3) aNil))))) aNil)))))   (sRet (eC (.bl false)))   sNop)   (sSeq (sApp 10 (eC (.int 0)))   (sSeq (sIf (bOr (bNot (tru (eCall 2 (F__law_same 4) (aCons (eCall 3 F_useful_from (aCons (eVar 2) (aCons (eVar 7) (aCons (eVar 9) aNil)))) (aCons (eSl dSl (eVar 10) oNone (oSome (un1 (fun i => -i) (eC (.int 1))))) aNil))))) (tst (eBin dNe (eCall 3 F_useful_from (aCons (eVar 2) (aCons (eVar 7) (aCons (eC (.int 0)) aNil)))) (eLst aNil))))   (sRet (eC (.bl false)))   sNop)   (sSeq (sSet 11 (eLst aNil))   (sSeq (sFor (iRange (aCons (eVar 7) (aCons (eBin dAdd (eVar 7) (eVar 9)) aNil))) (bName 12)   (sSeq (sSet 13 (eCall 3 F__law_mask (aCons (eVar 2) (aCons (eVar 12) (aCons (eVar 3) aNil)))))   (sApp 11 (eCB dSum (aCons (eComp (iRange (aCons (eVar 2) aNil)) (bName 19) cYes (eBin dAnd (eBin dShr (eVar 13) (eVar 19)) (eC (.int 1))) [19]) aNil)))))   (sIf (bNot (tru (eCallL 2 (F__law_same 4) (aCons (eCall 3 F_weights_from (aCons (eVar 2) (aCons (eVar 7) (aCons (eVar 9) aNil)))) (aCons (eVar 11) aNil)))))   (sRet (eC (.bl false)))   sNop)))))))))
def LS10 : SF := (sIf (tst (eBin dIsNot (eCall 2 F_worst_begin (aCons (eVar 2) (aCons (eLst aNil) aNil))) (eC .non)))   (sRet (eC (.bl false)))   sNop)
def LS11 : SF := (sIf (bAnd (tst (eBin dGt (eVar 2) (eC (.int 1)))) (tst (eBin dEq (eBin dMod (eBin dIx (eVar 1) (eC (.int 7))) (eC (.int 2))) (eC (.int 0)))))   (sApp 6 (eTup (aCons (eC (.int 401)) (aCons (eBin dSub (eC (.int 4097)) (eVar 2)) aNil))))   sNop)
def LS12 : SF := (sSet 14 (eBin dMod (eBin dIx (eVar 1) (eC (.int 8))) (eCB dLen (aCons (eVar 6) aNil))))
def LS13 : SF := (sSet 6 (eBin dCat (eBin dAdd (eSl dSl (eVar 6) (oSome (eVar 14)) oNone) (eSl dSl (eVar 6) oNone (oSome (eVar 14)))) (eSl dSl (eVar 6) oNone (oSome (eC (.int 1))))))
def LS14 : SF := (sSet 15 (eBin dIx (eVar 6) (eC (.int 0))))
def LS15 : SF := (sFor (iSeq (eVar 6)) (bName 16)   (sIf (tst (eBin dGt (eBin dIx (eVar 16) (eC (.int 0))) (eBin dIx (eVar 15) (eC (.int 0)))))   (sSet 15 (eVar 16))   sNop))
def LS16 : SF := (sSet 17 (eComp (iSeq (eVar 6)) (bTup 2 (bCons (bName 20) (bCons (bName 7) bNil))) cYes (eVar 7) [20, 7]))
def LS17 : SF := (sSet 18 (eCB dList (aCons (eVar 17) aNil)))
def LS18 : SF := (sIf (bOr (bNot (tru (eCall 2 (F__law_same 4) (aCons (eCall 2 F_worst_begin (aCons (eVar 2) (aCons (eVar 18) aNil))) (aCons (eVar 15) aNil))))) (tst (eBin dNe (eVar 18) (eVar 17))))   (sRet (eC (.bl false)))   sNop)
def LS19 : SF := (sRet (eCall 2 F__law_refusals (aCons (eVar 2) (aCons (eVar 1) aNil))))
theorem B_law_eq : B_law = (sSeq LS1 (sSeq LS2 (sSeq LS3 (sSeq LS4 (sSeq LS5 (sSeq LS6 (sSeq LS7 (sSeq LS8 (sSeq LS9 (sSeq LS10 (sSeq LS11 (sSeq LS12 (sSeq LS13 (sSeq LS14 (sSeq LS15 (sSeq LS16 (sSeq LS17 (sSeq LS18 LS19)))))))))))))))))) := rfl

theorem same_eq : ∀ n, F__law_same n = sameF n
  | 0 => rfl
  | n + 1 => by
    show runB 3 (B__law_same (F__law_same n)) = runB 3 (sameB (sameF n))
    rw [same_eq n]; rfl
theorem same4 {d : D} (h : okS 4 d = true) : F__law_same 4 [d, d] = .ok (.bl true) := by rw [same_eq]; exact same_refl 4 d h
theorem nums_at (zs : List Int) : ∃ ns : List Nat, ns.length = 40 ∧ (∀ i, ns.getD i 0 < 1009) ∧ F__law_numbers [.frz zs, .int 0, .int 40] = .ok (intsD ns) := by
  obtain ⟨rs, h1, h2, h3⟩ := num_ok zs 0 40 (by decide)
  refine ⟨rs.map Int.toNat, by rw [List.length_map]; exact h1, fun i => ?_, ?_⟩
  · rw [List.getD_eq_getElem?_getD, List.getElem?_map]
    cases q : rs[i]? with
    | none => exact (by decide : (0 : Nat) < 1009)
    | some r =>
      have := h2 r (List.mem_of_getElem? q)
      show r.toNat < 1009
      omega
  · have e : intsD (rs.map Int.toNat) = .lst (rs.map D.int) := by
      unfold intsD
      rw [List.map_map]
      congr 1
      refine List.map_congr_left fun r hr => ?_
      show D.int ((r.toNat : Nat) : Int) = D.int r
      rw [Int.toNat_of_nonneg (h2 r hr).1]
    rw [e]
    exact h3
abbrev Env21 (s n p w d b q : Option D) (r : En) : En := s :: n :: p :: w :: d :: b :: q :: r
theorem nx_at {ns : List Nat} (hl : ns.length = 40) (i : Nat) (hi : i < 40) {ρ : En} (h : ρ[1]? = some (some (intsD ns))) : eBin dIx (eVar 1) (eC (.int (i : Int))) ρ = .ok (.int ((ns.getD i 0 : Nat) : Int)) := by
  rw [eBin_at, eVar_at, h]
  show Res.ofO (dIx (intsD ns) (.int (i : Int))) = _
  rw [nums_ix (by omega)]; rfl
theorem emod_at {f : En → Res D} {ρ : En} {a b : Nat} (h : f ρ = .ok (.int (a : Int))) (hb : 0 < b) : eBin dMod f (eC (.int (b : Int))) ρ = .ok (.int ((a % b : Nat) : Int)) := by
  rw [eBin_at, h, Res.bind_ok, eC_at, Res.bind_ok, mod_nn hb]; rfl
theorem eadd_at {f g : En → Res D} {ρ : En} {a b : Nat} (h : f ρ = .ok (.int (a : Int))) (h2 : g ρ = .ok (.int (b : Int))) : eBin dAdd f g ρ = .ok (.int ((a + b : Nat) : Int)) := by
  rw [eBin_at, h, Res.bind_ok, h2, Res.bind_ok, dAdd_ii]; rfl
theorem ix2 {f g : En → Res D} {ρ : En} {a b : D} {i : Nat} {h : En → Res D} (h1 : f ρ = .ok a) (h2 : g ρ = .ok b) (h3 : h ρ = .ok (.int ((i % 2 : Nat) : Int))) : eBin dIx (eLst (aCons f (aCons g aNil))) h ρ = .ok (if i % 2 = 0 then a else b) := by
  have el : eLst (aCons f (aCons g aNil)) ρ = .ok (.lst [a, b]) := small_lst (by show 2 ≤ 100; decide) _ _ (acons h1 (acons h2 rfl))
  rw [eBin_at, el, Res.bind_ok, h3, Res.bind_ok, dIx_l]
  rcases Nat.mod_two_eq_zero_or_one i with e | e
  · rw [e, if_pos rfl]; rfl
  · rw [e, if_neg (by decide)]; rfl
theorem parts_at {ns : List Nat} (hl : ns.length = 40) (s : Option D) (r : En) : ∃ p, 0 < p ∧ p ≤ 60 ∧ LS2 (s :: some (intsD ns) :: none :: r) = .nx (s :: some (intsD ns) :: some (.int ((p : Nat) : Int)) :: r) := by
  refine ⟨if ns.getD 1 0 % 2 = 0 then ns.getD 0 0 % 60 + 1 else ns.getD 0 0 % 9 + 1, ?_, ?_, ?_⟩
  · split <;> omega
  · split <;> omega
  · have e := ix2 (ρ := s :: some (intsD ns) :: none :: r) (i := ns.getD 1 0) (eadd_at (g := eC (.int ((1 : Nat) : Int))) (b := 1) (emod_at (nx_at hl 0 (by decide) rfl) (by decide : 0 < 60)) rfl) (eadd_at (g := eC (.int ((1 : Nat) : Int))) (b := 1) (emod_at (nx_at hl 0 (by decide) rfl) (by decide : 0 < 9)) rfl) (emod_at (nx_at hl 1 (by decide) rfl) (by decide : 0 < 2))
    have : LS2 (s :: some (intsD ns) :: none :: r) = _ := set_go e
    rw [this]
    split <;> rfl
theorem drawn_at {ns : List Nat} (hl : ns.length = 40) (hb : ∀ i, ns.getD i 0 < 1009) (s p w : Option D) (r : En) : ∃ d, d < 4096 ∧ LS4 (s :: some (intsD ns) :: p :: w :: none :: r) = .nx (s :: some (intsD ns) :: p :: w :: some (.int ((d : Nat) : Int)) :: r) := by
  refine ⟨(ns.getD 2 0 * 1009 + ns.getD 3 0) % 4096, Nat.mod_lt _ (by decide), ?_⟩
  have m : eBin dMul (eBin dIx (eVar 1) (eC (.int 2))) (eC (.int 1009)) (s :: some (intsD ns) :: p :: w :: none :: r) = .ok (.int ((ns.getD 2 0 * 1009 : Nat) : Int)) := by
    have a2 := nx_at (ρ := s :: some (intsD ns) :: p :: w :: none :: r) hl 2 (by decide) rfl
    have a2' : eBin dIx (eVar 1) (eC (.int 2)) (s :: some (intsD ns) :: p :: w :: none :: r) = _ := a2
    rw [eBin_at, a2', Res.bind_ok, eC_at, Res.bind_ok, mul_kr (by decide) (by decide)]; rfl
  exact set_go (emod_at (eadd_at m (nx_at hl 3 (by decide) rfl)) (by decide : 0 < 4096))
end Law

namespace Law
open PySem L2 Dl Gf2
def LB7 : SF := (sSeq (sSet 8 (eCall 3 F__law_needed (aCons (eVar 2) (aCons (eVar 7) (aCons (eVar 3) aNil)))))   (sSeq (sIf (bNot (tru (eCall 2 (F__law_same 4) (aCons (eCall 2 F_needed_from (aCons (eVar 2) (aCons (eVar 7) aNil))) (aCons (eVar 8) aNil)))))   (sRet (eC (.bl false)))   sNop)   (sSeq (sIf (bOr (bAnd (tst (eBin dIs (eVar 8) (eC .non))) (tst (eBin dIsNot (eCall 2 F_overhead (aCons (eVar 2) (aCons (eVar 7) aNil))) (eC .non)))) (bAnd (tst (eBin dIsNot (eVar 8) (eC .non))) (bNot (tru (eCall 2 (F__law_same 4) (aCons (eCall 2 F_overhead (aCons (eVar 2) (aCons (eVar 7) aNil))) (aCons (eBin dSub (eVar 8) (eVar 2)) aNil)))))))   (sRet (eC (.bl false)))   sNop)   (sApp 6 (eTup (aCons (eIf (tst (eBin dIs (eVar 8) (eC .non))) (eC (.int 401)) (eVar 8)) (aCons (eVar 7) aNil)))))))
def LB9 : SF := (sSeq (sSet 9 (eCB dMinA (aCons (eBin dIx (eLst (aCons (eBin dMod (eBin dIx (eVar 1) (eC (.int 5))) (eC (.int 90))) (aCons (eBin dMod (eBin dIx (eVar 1) (eC (.int 5))) (eC (.int 401))) aNil))) (eCB dInt (aCons (eBin dEq (eBin dMod (eBin dIx (eVar 1) (eC (.int 6))) (eC (.int 4))) (eC (.int 0))) aNil))) (aCons (eBin dSub (eC (.int 4096)) (eVar 7)) aNil))))   (sSeq (sSet 10 (eCall 3 F_useful_from (aCons (eVar 2) (aCons (eVar 7) (aCons (eVar 9) aNil)))))   (sSeq (sIf (bNot (tru (eCallL 2 (F__law_same 4) (aCons (eVar 10) (aCons (eCall 4 F__law_useful (aCons (eVar 2) (aCons (eVar 7) (aCons (eVar 9) (aCons (eVar 3) aNil))))) aNil)))))   (sRet (eC (.bl false)))   sNop)   (sSeq (sApp 10 (eC (.int 0)))   (sSeq (sIf (bOr (bNot (tru (eCall 2 (F__law_same 4) (aCons (eCall 3 F_useful_from (aCons (eVar 2) (aCons (eVar 7) (aCons (eVar 9) aNil)))) (aCons (eSl dSl (eVar 10) oNone (oSome (un1 (fun i => -i) (eC (.int 1))))) aNil))))) (tst (eBin dNe (eCall 3 F_useful_from (aCons (eVar 2) (aCons (eVar 7) (aCons (eC (.int 0)) aNil)))) (eLst aNil))))   (sRet (eC (.bl false)))   sNop)   (sSeq (sSet 11 (eLst aNil))   (sSeq (sFor (iRange (aCons (eVar 7) (aCons (eBin dAdd (eVar 7) (eVar 9)) aNil))) (bName 12)   (sSeq (sSet 13 (eCall 3 F__law_mask (aCons (eVar 2) (aCons (eVar 12) (aCons (eVar 3) aNil)))))   (sApp 11 (eCB dSum (aCons (eComp (iRange (aCons (eVar 2) aNil)) (bName 19) cYes (eBin dAnd (eBin dShr (eVar 13) (eVar 19)) (eC (.int 1))) [19]) aNil)))))   (sIf (bNot (tru (eCallL 2 (F__law_same 4) (aCons (eCall 3 F_weights_from (aCons (eVar 2) (aCons (eVar 7) (aCons (eVar 9) aNil)))) (aCons (eVar 11) aNil)))))   (sRet (eC (.bl false)))   sNop))))))))
def LB15 : SF := (sIf (tst (eBin dGt (eBin dIx (eVar 16) (eC (.int 0))) (eBin dIx (eVar 15) (eC (.int 0)))))   (sSet 15 (eVar 16))   sNop)
def L9_1 : SF := (sSet 9 (eCB dMinA (aCons (eBin dIx (eLst (aCons (eBin dMod (eBin dIx (eVar 1) (eC (.int 5))) (eC (.int 90))) (aCons (eBin dMod (eBin dIx (eVar 1) (eC (.int 5))) (eC (.int 401))) aNil))) (eCB dInt (aCons (eBin dEq (eBin dMod (eBin dIx (eVar 1) (eC (.int 6))) (eC (.int 4))) (eC (.int 0))) aNil))) (aCons (eBin dSub (eC (.int 4096)) (eVar 7)) aNil))))
def L9_2 : SF := (sSet 10 (eCall 3 F_useful_from (aCons (eVar 2) (aCons (eVar 7) (aCons (eVar 9) aNil)))))
def L9_3 : SF := (sIf (bNot (tru (eCallL 2 (F__law_same 4) (aCons (eVar 10) (aCons (eCall 4 F__law_useful (aCons (eVar 2) (aCons (eVar 7) (aCons (eVar 9) (aCons (eVar 3) aNil))))) aNil)))))   (sRet (eC (.bl false)))   sNop)
def L9_4 : SF := (sApp 10 (eC (.int 0)))
def L9_5 : SF := (sIf (bOr (bNot (tru (eCall 2 (F__law_same 4) (aCons (eCall 3 F_useful_from (aCons (eVar 2) (aCons (eVar 7) (aCons (eVar 9) aNil)))) (aCons (eSl dSl (eVar 10) oNone (oSome (un1 (fun i => -i) (eC (.int 1))))) aNil))))) (tst (eBin dNe (eCall 3 F_useful_from (aCons (eVar 2) (aCons (eVar 7) (aCons (eC (.int 0)) aNil)))) (eLst aNil))))   (sRet (eC (.bl false)))   sNop)
def L9_6 : SF := (sSet 11 (eLst aNil))
def L9_7 : SF := (sFor (iRange (aCons (eVar 7) (aCons (eBin dAdd (eVar 7) (eVar 9)) aNil))) (bName 12)   (sSeq (sSet 13 (eCall 3 F__law_mask (aCons (eVar 2) (aCons (eVar 12) (aCons (eVar 3) aNil)))))   (sApp 11 (eCB dSum (aCons (eComp (iRange (aCons (eVar 2) aNil)) (bName 19) cYes (eBin dAnd (eBin dShr (eVar 13) (eVar 19)) (eC (.int 1))) [19]) aNil)))))
def L9_8 : SF := (sIf (bNot (tru (eCallL 2 (F__law_same 4) (aCons (eCall 3 F_weights_from (aCons (eVar 2) (aCons (eVar 7) (aCons (eVar 9) aNil)))) (aCons (eVar 11) aNil)))))   (sRet (eC (.bl false)))   sNop)
theorem LB9_eq : LB9 = (sSeq L9_1 (sSeq L9_2 (sSeq L9_3 (sSeq L9_4 (sSeq L9_5 (sSeq L9_6 (sSeq L9_7 L9_8))))))) := rfl
theorem toPL_ints : ∀ ns : List Int, toPL (ns.map D.int) = some (ns.map PyData.int)
  | [] => rfl
  | n :: ns => by
    show (match toP (.int n), toPL (ns.map D.int) with
      | some p, some ps => some (p :: ps)
      | _, _ => none) = _
    rw [toPL_ints ns]; rfl
theorem lay_ints : ∀ ns : List Int, PyData.canLayAll0 (ns.map PyData.int) = true ∧ PyData.depthAll (ns.map PyData.int) = 0 ∧ PyData.eqvAll (ns.map PyData.int) (ns.map PyData.int) = true
  | [] => ⟨rfl, rfl, rfl⟩
  | n :: ns => by
    obtain ⟨h1, h2, h3⟩ := lay_ints ns
    refine ⟨?_, ?_, ?_⟩
    · show (true && PyData.canLayAll0 (ns.map PyData.int)) = true
      rw [h1]; rfl
    · show max 0 (PyData.depthAll (ns.map PyData.int)) = 0
      rw [h2]; rfl
    · show ((n == n) && PyData.eqvAll (ns.map PyData.int) (ns.map PyData.int)) = true
      rw [h3]; simp
theorem ne_same (ns : List Int) : dNe (.lst (ns.map D.int)) (.lst (ns.map D.int)) = some (.bl false) := by
  obtain ⟨h1, h2, h3⟩ := lay_ints ns
  show (dNeP (.lst (ns.map D.int)) (.lst (ns.map D.int))) = _
  unfold dNeP eqP
  have e : toP (.lst (ns.map D.int)) = some (.list (ns.map PyData.int)) := by
    show (toPL (ns.map D.int)).map PyData.list = _
    rw [toPL_ints]; rfl
  rw [e]
  have sh : SeqAt.shaped (.list (ns.map PyData.int)) = true := by
    show (PyData.canLayAll0 (ns.map PyData.int) && decide (PyData.depthAll (ns.map PyData.int) + 1 ≤ 64)) = true
    rw [h1, h2]; rfl
  show ((if SeqAt.shaped (.list (ns.map PyData.int)) = true ∧ SeqAt.shaped (.list (ns.map PyData.int)) = true then some (PyData.eqvAll (ns.map PyData.int) (ns.map PyData.int)) else none).map fun k => D.bl (!k)) = _
  rw [if_pos ⟨sh, sh⟩, h3]; rfl
theorem esub_at {f g : En → Res D} {ρ : En} {a b : Nat} (h : f ρ = .ok (.int (a : Int))) (h2 : g ρ = .ok (.int (b : Int))) (hb : b ≤ a) : eBin dSub f g ρ = .ok (.int ((a - b : Nat) : Int)) := by
  rw [eBin_at, h, Res.bind_ok, h2, Res.bind_ok, dSub_ii]
  show Res.ok (D.int ((a : Int) - (b : Int))) = _
  congr 2; omega
theorem emodv_at {f g : En → Res D} {ρ : En} {a b : Nat} (h : f ρ = .ok (.int (a : Int))) (h2 : g ρ = .ok (.int (b : Int))) (hb : 0 < b) : eBin dMod f g ρ = .ok (.int ((a % b : Nat) : Int)) := by
  rw [eBin_at, h, Res.bind_ok, h2, Res.bind_ok, mod_nn hb]; rfl
theorem emul_at {f g : En → Res D} {ρ : En} {a b : Nat} (h : f ρ = .ok (.int (a : Int))) (h2 : g ρ = .ok (.int (b : Int))) (ha : a < 1000000) : eBin dMul f g ρ = .ok (.int ((a * b : Nat) : Int)) := by
  rw [eBin_at, h, Res.bind_ok, h2, Res.bind_ok, mul_kl (by omega) (by omega)]; rfl
theorem ix3 {f g k : En → Res D} {ρ : En} {a b c i : Nat} {h : En → Res D} (h1 : f ρ = .ok (.int (a : Int))) (h2 : g ρ = .ok (.int (b : Int))) (h3 : k ρ = .ok (.int (c : Int))) (h4 : h ρ = .ok (.int ((i % 3 : Nat) : Int))) (P : Nat → Prop) (pa : P a) (pb : P b) (pc : P c) : ∃ z, P z ∧ eBin dIx (eLst (aCons f (aCons g (aCons k aNil)))) h ρ = .ok (.int ((z : Nat) : Int)) := by
  have el : eLst (aCons f (aCons g (aCons k aNil))) ρ = .ok (.lst [.int (a : Int), .int (b : Int), .int (c : Int)]) := small_lst (by show 3 ≤ 100; decide) _ _ (acons h1 (acons h2 (acons h3 rfl)))
  rw [eBin_at, el, Res.bind_ok, h4, Res.bind_ok, dIx_l]
  have : i % 3 = 0 ∨ i % 3 = 1 ∨ i % 3 = 2 := by omega
  rcases this with e | e | e
  · rw [e]; exact ⟨a, pa, rfl⟩
  · rw [e]; exact ⟨b, pb, rfl⟩
  · rw [e]; exact ⟨c, pc, rfl⟩
theorem begins_at {ns : List Nat} (hl : ns.length = 40) (hb : ∀ i, ns.getD i 0 < 1009) {p d : Nat} (hp0 : 0 < p) (hp : p ≤ 60) (hd : d < 4096) (s w : Option D) (r : En) : ∃ b0, b0 < 4096 ∧ LS5 (s :: some (intsD ns) :: some (.int (p : Int)) :: w :: some (.int (d : Int)) :: none :: r) = .nx (s :: some (intsD ns) :: some (.int (p : Int)) :: w :: some (.int (d : Int)) :: some (intsD [b0, d, 4096 - p]) :: r) := by
  have h2 := hb 2
  have h3 := hb 3
  have m3 := Nat.mod_le (ns.getD 3 0) (2 * p + 9)
  have m2 := Nat.mod_le (ns.getD 2 0) (p + 3)
  obtain ⟨b0, hb0, e⟩ := ix3 (ρ := s :: some (intsD ns) :: some (.int (p : Int)) :: w :: some (.int (d : Int)) :: none :: r) (f := eVar 4) (a := d) (i := ns.getD 4 0) rfl
    (emodv_at (a := ns.getD 2 0) (b := p + 3) (nx_at hl 2 (by decide) rfl) (eadd_at (f := eVar 2) (g := eC (.int ((3 : Nat) : Int))) (a := p) (b := 3) rfl rfl) (by omega))
    (esub_at (f := eC (.int ((4095 : Nat) : Int))) (a := 4095) rfl (emodv_at (a := ns.getD 3 0) (b := 2 * p + 9) (nx_at hl 3 (by decide) rfl) (eadd_at (g := eC (.int ((9 : Nat) : Int))) (a := 2 * p) (b := 9) (emul_at (f := eC (.int ((2 : Nat) : Int))) (g := eVar 2) (a := 2) (b := p) rfl rfl (by decide)) rfl) (by omega)) (by omega))
    (emod_at (nx_at hl 4 (by decide) rfl) (by decide : 0 < 3)) (fun z => z < 4096) hd (by omega) (by omega)
  refine ⟨b0, hb0, ?_⟩
  have e2 : eBin dSub (eC (.int ((4096 : Nat) : Int))) (eVar 2) (s :: some (intsD ns) :: some (.int (p : Int)) :: w :: some (.int (d : Int)) :: none :: r) = .ok (.int ((4096 - p : Nat) : Int)) := esub_at (a := 4096) rfl rfl (by omega)
  have := small_lst (ds := [.int (b0 : Int), .int (d : Int), .int ((4096 - p : Nat) : Int)]) (by show 3 ≤ 100; decide) _ _ (acons e (acons (fa := eVar 4) rfl (acons (fr := aNil) e2 rfl)))
  exact set_go this
/-- the law's env -/
abbrev ev (ns : List Nat) (p d : Nat) (s b q : Option D) (r : En) : En := s :: some (intsD ns) :: some (.int (p : Int)) :: some PWD :: some (.int (d : Int)) :: b :: q :: r
theorem okS_need (p b : Nat) : okS 4 (oNeed p b) = true := by unfold oNeed; cases needL p [] (numsN b) <;> rfl
theorem okS_over (p b : Nat) : okS 4 (oOver p b) = true := by unfold oOver; cases needL p [] (numsN b) <;> rfl
theorem body7 {ns : List Nat} {p d b : Nat} (hp0 : 0 < p) (hp : p ≤ 60) (hb : b < 4096) (s bs : Option D) (qs : List Nat) (hq : qs.length < 100) (x8 : Option D) (r : En) :
    ∃ x8', LB7 (ev ns p d s bs (some (.lst (qs.map (pbD p)))) (some (.int (b : Int)) :: x8 :: r)) = .nx (ev ns p d s bs (some (.lst ((qs ++ [b]).map (pbD p)))) (some (.int (b : Int)) :: x8' :: r)) := by
  refine ⟨some (oNeed p b), ?_⟩
  have e1 : eCall 3 F__law_needed (aCons (eVar 2) (aCons (eVar 7) (aCons (eVar 3) aNil))) (ev ns p d s bs (some (.lst (qs.map (pbD p)))) (some (.int (b : Int)) :: x8 :: r)) = .ok (oNeed p b) := call3 rfl rfl rfl (lneeded_at hp0 hp hb)
  have n1 : eCall 2 F_needed_from (aCons (eVar 2) (aCons (eVar 7) aNil)) (ev ns p d s bs (some (.lst (qs.map (pbD p)))) (some (.int (b : Int)) :: some (oNeed p b) :: r)) = .ok (oNeed p b) := call2 rfl rfl (needed_at hp0 hp hb)
  have n2 : eCall 2 F_overhead (aCons (eVar 2) (aCons (eVar 7) aNil)) (ev ns p d s bs (some (.lst (qs.map (pbD p)))) (some (.int (b : Int)) :: some (oNeed p b) :: r)) = .ok (oOver p b) := call2 rfl rfl (overhead_at hp0 hp hb)
  have c1 : bNot (tru (eCall 2 (F__law_same 4) (aCons (eCall 2 F_needed_from (aCons (eVar 2) (aCons (eVar 7) aNil))) (aCons (eVar 8) aNil)))) (ev ns p d s bs (some (.lst (qs.map (pbD p)))) (some (.int (b : Int)) :: some (oNeed p b) :: r)) = .ok false := nt_ok (call2 n1 rfl (same4 (okS_need p b)))
  have c2 : bOr (bAnd (tst (eBin dIs (eVar 8) (eC .non))) (tst (eBin dIsNot (eCall 2 F_overhead (aCons (eVar 2) (aCons (eVar 7) aNil))) (eC .non)))) (bAnd (tst (eBin dIsNot (eVar 8) (eC .non))) (bNot (tru (eCall 2 (F__law_same 4) (aCons (eCall 2 F_overhead (aCons (eVar 2) (aCons (eVar 7) aNil))) (aCons (eBin dSub (eVar 8) (eVar 2)) aNil)))))) (ev ns p d s bs (some (.lst (qs.map (pbD p)))) (some (.int (b : Int)) :: some (oNeed p b) :: r)) = .ok false := by
    have k := okS_over p b
    unfold oNeed oOver at *
    cases q : needL p [] (numsN b) with
    | none =>
      rw [q] at n2
      refine or2 ?_ rfl
      rw [bAnd_at]
      show tst (eBin dIsNot _ _) _ = _
      rw [tst_at, eBin_at, n2]; rfl
    | some n =>
      rw [q] at n2 k
      refine or2 rfl ?_
      rw [bAnd_at]
      show bNot _ _ = _
      exact nt_ok (call2 n2 rfl (same4 k))
  have e3 : eTup (aCons (eIf (tst (eBin dIs (eVar 8) (eC .non))) (eC (.int 401)) (eVar 8)) (aCons (eVar 7) aNil)) (ev ns p d s bs (some (.lst (qs.map (pbD p)))) (some (.int (b : Int)) :: some (oNeed p b) :: r)) = .ok (pbD p b) := by
    refine tup2 ?_ rfl
    unfold oNeed needV
    cases needL p [] (numsN b) <;> rfl
  unfold LB7
  rw [sSeq_at, set_go e1, then_nx, sSeq_at]
  show (sIf _ _ _ (ev ns p d s bs (some (.lst (qs.map (pbD p)))) (some (.int (b : Int)) :: some (oNeed p b) :: r))).then _ = _
  rw [skip c1, then_nx, sSeq_at, skip c2, then_nx, app_go rfl e3 (by rw [List.length_map]; omega), List.map_append]; rfl
end Law

namespace Law
open PySem L2 Dl Gf2
theorem ls7 {ns : List Nat} {p d b0 : Nat} (hp0 : 0 < p) (hp : p ≤ 60) (hb0 : b0 < 4096) (hd : d < 4096) (s : Option D) (r : En) :
    ∃ x7 x8, LS7 (ev ns p d s (some (intsD [b0, d, 4096 - p])) (some (.lst [])) (none :: none :: r)) = .nx (ev ns p d s (some (intsD [b0, d, 4096 - p])) (some (.lst ([b0, d, 0].map (pbD p)))) (x7 :: x8 :: r)) := by
  obtain ⟨y1, h1⟩ := body7 (ns := ns) (d := d) hp0 hp hb0 s (some (intsD [b0, d, 4096 - p])) [] (by decide) none r
  obtain ⟨y2, h2⟩ := body7 (ns := ns) (d := d) hp0 hp hd s (some (intsD [b0, d, 4096 - p])) [b0] (by show 1 < 100; decide) y1 r
  obtain ⟨y3, h3⟩ := body7 (ns := ns) (d := d) (b := 0) hp0 hp (by decide) s (some (intsD [b0, d, 4096 - p])) [b0, d] (by show 2 < 100; decide) y2 r
  refine ⟨some (.int ((0 : Nat) : Int)), y3, ?_⟩
  have e0 : eLst (aCons (eC (.int 0)) aNil) (ev ns p d s (some (intsD [b0, d, 4096 - p])) (some (.lst [])) (none :: none :: r)) = .ok (.lst [.int 0]) := small_lst (by show 1 ≤ 100; decide) _ _ rfl
  have e : iSeq (eBin dAdd (eSl dSl (eVar 5) oNone (oSome (eC (.int 2)))) (eLst (aCons (eC (.int 0)) aNil))) (ev ns p d s (some (intsD [b0, d, 4096 - p])) (some (.lst [])) (none :: none :: r)) = .ok [.int (b0 : Int), .int (d : Int), .int ((0 : Nat) : Int)] := by
    rw [iSeq_at, eBin_at, e0]
    show ((Res.ofO (dAdd (.lst [.int (b0 : Int), .int (d : Int)]) (.lst [.int 0])))).bind _ = _
    rw [dAdd_ll]
    show (Res.ofO (if 2 + 1 ≤ lim then some (D.lst [.int (b0 : Int), .int (d : Int), .int 0]) else none)).bind _ = _
    rw [if_pos (lim_le (by decide))]; rfl
  unfold LS7
  rw [sFor_at, e, outX_ok]
  have h1' : LB7 (ev ns p d s (some (intsD [b0, d, 4096 - p])) (some (.lst [])) (some (.int (b0 : Int)) :: none :: r)) = _ := h1
  show forD (bName 7) LB7 _ _ = _
  rw [forD_cons (ρ1 := ev ns p d s (some (intsD [b0, d, 4096 - p])) (some (.lst [])) (some (.int (b0 : Int)) :: none :: r)) rfl, h1']
  show forD (bName 7) LB7 _ _ = _
  rw [forD_cons (ρ1 := ev ns p d s (some (intsD [b0, d, 4096 - p])) (some (.lst ([b0].map (pbD p)))) (some (.int (d : Int)) :: y1 :: r)) rfl, h2]
  show forD (bName 7) LB7 _ _ = _
  rw [forD_cons (ρ1 := ev ns p d s (some (intsD [b0, d, 4096 - p])) (some (.lst ([b0, d].map (pbD p)))) (some (.int ((0 : Nat) : Int)) :: y2 :: r)) rfl, h3]
  rfl
theorem ls8 {ns : List Nat} {p d : Nat} (hp0 : 0 < p) (hp : p ≤ 60) (s b q : Option D) (r : En) : LS8 (ev ns p d s b q r) = .nx (ev ns p d s b q r) := by
  refine skip (or2 ?_ (or2 ?_ ?_))
  · have n1 : eCall 2 F_needed_from (aCons (eVar 2) (aCons (eC (.int 0)) aNil)) (ev ns p d s b q r) = .ok (.int (p : Int)) := call2 rfl rfl (by
      have := needed_at (b := 0) hp0 hp (by decide)
      have e : oNeed p 0 = .int (p : Int) := by
        unfold oNeed
        rw [need_zero hp0 hp]
        show D.int (((p - 1 : Nat) : Int) + 1 - ((0 : Nat) : Int)) = _
        congr 1; omega
      rw [e] at this; exact this)
    rw [tst_at, eBin_at, n1]
    show (Res.ofO (dNe (.int (p : Int)) (.int (p : Int)))).bind asB = _
    rw [ne_nn, decide_eq_true rfl]; rfl
  · have n1 : eCall 2 F_overhead (aCons (eVar 2) (aCons (eC (.int 0)) aNil)) (ev ns p d s b q r) = .ok (.int ((0 : Nat) : Int)) := call2 rfl rfl (by
      have := overhead_at (b := 0) hp0 hp (by decide)
      have e : oOver p 0 = .int ((0 : Nat) : Int) := by
        unfold oOver
        rw [need_zero hp0 hp]
        show D.int (((p - 1 : Nat) : Int) + 1 - ((0 : Nat) : Int) - (p : Int)) = _
        congr 1; omega
      rw [e] at this; exact this)
    rw [tst_at, eBin_at, n1]; rfl
  · have c : tst (eBin dGt (eVar 2) (eC (.int 1))) (ev ns p d s b q r) = .ok (decide (1 < p)) := by
      show (Res.ofO (dGt (.int (p : Int)) (.int ((1 : Nat) : Int)))).bind asB = _
      rw [dGt_ii]
      show Res.ok _ = Res.ok _
      congr 1
      exact decide_eq_decide.mpr (by omega)
    rw [bAnd_at, c, Res.bind_ok]
    by_cases z : 1 < p
    · rw [decide_eq_true z, if_pos rfl]
      have e2 : eBin dSub (eC (.int ((4097 : Nat) : Int))) (eVar 2) (ev ns p d s b q r) = .ok (.int ((4097 - p : Nat) : Int)) := esub_at (a := 4097) rfl rfl (by omega)
      have n1 : eCall 2 F_needed_from (aCons (eVar 2) (aCons (eBin dSub (eC (.int 4097)) (eVar 2)) aNil)) (ev ns p d s b q r) = .ok .non := call2 rfl e2 (by
        have := needed_at (b := 4097 - p) hp0 hp (by omega)
        have e : oNeed p (4097 - p) = .non := by
          unfold oNeed
          rw [need_end z hp]
        rw [e] at this; exact this)
      rw [tst_at, eBin_at, n1]; rfl
    · rw [decide_eq_false z]; rfl
theorem useT_len {p : Nat} : ∀ (ns : List Nat) (k : List (Nat × Nat)), (useT p k ns).length ≤ ns.length
  | [], _ => Nat.le_refl _
  | n :: ns, k => by
    have ih := useT_len (p := p) ns (useK p k n)
    show (if useR p k n ≠ 0 then n :: useT p (useK p k n) ns else useT p (useK p k n) ns).length ≤ ns.length + 1
    split
    · rw [List.length_cons]; omega
    · omega
theorem okS_ints {u : List Nat} (h : u.length < 1000000) : okS 4 (intsD u) = true := by
  show (decide ((u.map fun n : Nat => D.int (n : Int)).length < 1000000) && (u.map fun n : Nat => D.int (n : Int)).all (okS 3)) = true
  rw [List.length_map, decide_eq_true h, Bool.true_and, List.all_map]
  exact List.all_eq_true.mpr fun _ _ => rfl
theorem okS_wts {u : List Int} (h : u.length < 1000000) : okS 4 (.lst (u.map D.int)) = true := by
  show (decide ((u.map D.int).length < 1000000) && (u.map D.int).all (okS 3)) = true
  rw [List.length_map, decide_eq_true h, Bool.true_and, List.all_map]
  exact List.all_eq_true.mpr fun _ _ => rfl
theorem callL2 {G : List D → Res D} {fa fb : En → Res D} {ρ : En} {a b : D} (h : fa ρ = .ok a) (h2 : fb ρ = .ok b) (hr : G [a, b] = .ok (.bl true)) : eCallL 2 G (aCons fa (aCons fb aNil)) ρ = .ok (.bl true) := by
  rw [eCallL_at, aCons_at, h, Res.bind_ok, aCons_at, h2, Res.bind_ok, aNil_at, Res.bind_ok, Res.bind_ok, Res.bind_ok, arN_at, if_pos (show ([a, b] : List D).length = 2 from rfl), hr]; rfl
theorem cut_last {α : Type} (xs : List α) (x : α) : cutL (xs ++ [x]) none (some (-1)) = xs := by
  unfold cutL
  have e0 : HT.sIx (xs ++ [x]).length 0 none = 0 := rfl
  have e1 : HT.sIx (xs ++ [x]).length (xs ++ [x]).length (some (-1)) = xs.length := by
    rw [List.length_append, List.length_singleton]
    unfold HT.sIx
    simp
    try omega
  rw [e0, e1]
  simp
end Law

namespace Law
open PySem L2 Dl Gf2
abbrev e9 (ns : List Nat) (p d : Nat) (s bs q : Option D) (b : Nat) (x8 x9 x10 x11 x12 x13 : Option D) (r : En) : En := ev ns p d s bs q (some (.int (b : Int)) :: x8 :: x9 :: x10 :: x11 :: x12 :: x13 :: r)
theorem l9_1 {ns : List Nat} (hl : ns.length = 40) {p d b : Nat} (hb : b < 4096) (s bs q x8 x9 x10 x11 x12 x13 : Option D) (r : En) : ∃ c, c ≤ 400 ∧ b + c ≤ 4096 ∧ L9_1 (e9 ns p d s bs q b x8 x9 x10 x11 x12 x13 r) = .nx (e9 ns p d s bs q b x8 (some (.int ((c : Nat) : Int))) x10 x11 x12 x13 r) := by
  let ρ := e9 ns p d s bs q b x8 x9 x10 x11 x12 x13 r
  have m1 : eBin dMod (eBin dIx (eVar 1) (eC (.int 5))) (eC (.int 90)) ρ = .ok (.int ((ns.getD 5 0 % 90 : Nat) : Int)) := emod_at (nx_at hl 5 (by decide) rfl) (by decide : 0 < 90)
  have m2 : eBin dMod (eBin dIx (eVar 1) (eC (.int 5))) (eC (.int 401)) ρ = .ok (.int ((ns.getD 5 0 % 401 : Nat) : Int)) := emod_at (nx_at hl 5 (by decide) rfl) (by decide : 0 < 401)
  have m3 : eBin dMod (eBin dIx (eVar 1) (eC (.int 6))) (eC (.int 4)) ρ = .ok (.int ((ns.getD 6 0 % 4 : Nat) : Int)) := emod_at (nx_at hl 6 (by decide) rfl) (by decide : 0 < 4)
  have el := small_lst (ds := [.int ((ns.getD 5 0 % 90 : Nat) : Int), .int ((ns.getD 5 0 % 401 : Nat) : Int)]) (by show 2 ≤ 100; decide) _ ρ (acons m1 (acons (fr := aNil) m2 rfl))
  have ei : ∃ k : Bool, eCB dInt (aCons (eBin dEq (eBin dMod (eBin dIx (eVar 1) (eC (.int 6))) (eC (.int 4))) (eC (.int 0))) aNil) ρ = .ok (.int (if k = true then 1 else 0)) := by
    refine ⟨decide (ns.getD 6 0 % 4 = 0), ?_⟩
    rw [eCB_at, aCons_at, eBin_at, m3, Res.bind_ok, eC_at, Res.bind_ok]
    show ((Res.ofO (dEq (.int ((ns.getD 6 0 % 4 : Nat) : Int)) (.int ((0 : Nat) : Int)))).bind fun d => (aNil ρ).bind fun ds => Res.ok (d :: ds)).bind _ = _
    rw [eq_nn]; rfl
  obtain ⟨k, ei⟩ := ei
  have l1 := Nat.mod_lt (ns.getD 5 0) (by decide : 0 < 90)
  have l2 := Nat.mod_lt (ns.getD 5 0) (by decide : 0 < 401)
  have ex : ∃ z : Nat, z ≤ 400 ∧ eBin dIx (eLst (aCons (eBin dMod (eBin dIx (eVar 1) (eC (.int 5))) (eC (.int 90))) (aCons (eBin dMod (eBin dIx (eVar 1) (eC (.int 5))) (eC (.int 401))) aNil))) (eCB dInt (aCons (eBin dEq (eBin dMod (eBin dIx (eVar 1) (eC (.int 6))) (eC (.int 4))) (eC (.int 0))) aNil)) ρ = .ok (.int ((z : Nat) : Int)) := by
    rw [eBin_at, el, Res.bind_ok, ei, Res.bind_ok, dIx_l]
    cases k with
    | true => exact ⟨_, by omega, rfl⟩
    | false => exact ⟨_, by omega, rfl⟩
  obtain ⟨z, hz, ez⟩ := ex
  have es : eBin dSub (eC (.int ((4096 : Nat) : Int))) (eVar 7) ρ = .ok (.int ((4096 - b : Nat) : Int)) := esub_at (a := 4096) (b := b) rfl rfl (by omega)
  refine ⟨min z (4096 - b), by omega, by omega, ?_⟩
  refine set_go ?_
  rw [eCB_at]
  refine bind_eq_ok (acons ez (acons (fr := aNil) es rfl)) ?_
  rw [min2_at]
  show Res.ok (D.int _) = Res.ok (D.int _)
  refine congrArg (fun i => Res.ok (D.int i)) ?_
  split <;> omega
theorem l9_7 {ns : List Nat} {p d b c : Nat} (hp0 : 0 < p) (hp : p ≤ 60) (hc : c ≤ 400) (hbc : b + c ≤ 4096) (s bs q x8 x10 x12 x13 : Option D) (r : En) (hr : ∃ y z w u v j t, r = [y, z, w, u, v, j, t]) : ∃ x12' x13', L9_7 (e9 ns p d s bs q b x8 (some (.int (c : Int))) x10 (some (.lst [])) x12 x13 r) = .nx (e9 ns p d s bs q b x8 (some (.int (c : Int))) x10 (some (.lst (((numsFrom b c).map (wt p)).map D.int))) x12' x13' r) := by
  obtain ⟨y, z, w, u, v, j, t, rfl⟩ := hr
  have er : iRange (aCons (eVar 7) (aCons (eBin dAdd (eVar 7) (eVar 9)) aNil)) (e9 ns p d s bs q b x8 (some (.int (c : Int))) x10 (some (.lst [])) x12 x13 [y, z, w, u, v, j, t]) = .ok ((numsFrom b c).map fun n : Nat => D.int (n : Int)) := by
    show Res.ofO (rangeD [.int (b : Int), .int ((b : Int) + (c : Int))]) = _
    rw [show (b : Int) + (c : Int) = ((b + c : Nat) : Int) by omega, rng_from (by omega) (by omega), show b + c - b = c by omega]; rfl
  unfold L9_7
  rw [sFor_at, er, outX_ok]
  refine for_rule (fun n : Nat => D.int (n : Int)) (fun i ρ => ∃ a m, ρ = e9 ns p d s bs q b x8 (some (.int (c : Int))) x10 (some (.lst ((((numsFrom b c).take i).map (wt p)).map D.int))) a m [y, z, w, u, v, j, t]) (fun o => ∃ x12' x13', o = .nx (e9 ns p d s bs q b x8 (some (.int (c : Int))) x10 (some (.lst (((numsFrom b c).map (wt p)).map D.int))) x12' x13' [y, z, w, u, v, j, t])) (fun i n ρ hn hI => ?_) (fun ρ ⟨a, m, h⟩ => ⟨a, m, by rw [h, List.take_length]⟩) ⟨x12, x13, rfl⟩
  obtain ⟨a, m, rfl⟩ := hI
  have hn4 := nums_lt hbc n (List.mem_of_getElem? hn)
  have hi := (List.getElem?_eq_some_iff.mp hn).1
  rw [nums_len] at hi
  refine ⟨e9 ns p d s bs q b x8 (some (.int (c : Int))) x10 (some (.lst ((((numsFrom b c).take i).map (wt p)).map D.int))) (some (.int (n : Int))) m [y, z, w, u, v, j, t], rfl, .inl ⟨e9 ns p d s bs q b x8 (some (.int (c : Int))) x10 (some (.lst ((((numsFrom b c).take (i + 1)).map (wt p)).map D.int))) (some (.int (n : Int))) (some (.int ((rowM p n : Nat) : Int))) [y, z, w, u, v, j, t], .inl ?_, _, _, rfl⟩⟩
  have e1 : eCall 3 F__law_mask (aCons (eVar 2) (aCons (eVar 12) (aCons (eVar 3) aNil))) (e9 ns p d s bs q b x8 (some (.int (c : Int))) x10 (some (.lst ((((numsFrom b c).take i).map (wt p)).map D.int))) (some (.int (n : Int))) m [y, z, w, u, v, j, t]) = .ok (.int ((rowM p n : Nat) : Int)) := call3 rfl rfl rfl (mask_at hp0 hp hn4)
  have er2 : iRange (aCons (eVar 2) aNil) (e9 ns p d s bs q b x8 (some (.int (c : Int))) x10 (some (.lst ((((numsFrom b c).take i).map (wt p)).map D.int))) (some (.int (n : Int))) (some (.int ((rowM p n : Nat) : Int))) [y, z, w, u, v, j, t]) = .ok ((List.range p).map fun k : Nat => D.int (k : Int)) := by
    show Res.ofO (rangeD [.int (p : Int)]) = _
    rw [rng_ok (by omega)]; rfl
  have ec := eComp_map (F := iRange (aCons (eVar 2) aNil)) (b := bName 19) (c := cYes) (e := eBin dAnd (eBin dShr (eVar 13) (eVar 19)) (eC (.int 1))) (vs := [19]) (ρ := e9 ns p d s bs q b x8 (some (.int (c : Int))) x10 (some (.lst ((((numsFrom b c).take i).map (wt p)).map D.int))) (some (.int (n : Int))) (some (.int ((rowM p n : Nat) : Int))) [y, z, w, u, v, j, t]) (List.range p) (fun k : Nat => D.int (k : Int)) (fun k => bit ((rowM p n).testBit k)) er2 (by rw [List.length_range]; exact lim_lt (by omega)) (fun k hk => ⟨_, rfl, rfl, by
    show (Res.ofO (dShr (.int ((rowM p n : Nat) : Int)) (.int (k : Int)))).bind (fun a => Res.ofO (dAnd a (.int 1))) = _
    rw [shr_k (by omega)]
    show Res.ofO (dAnd (.int (((rowM p n : Nat) : Int) / 2 ^ k)) (.int 1)) = _
    rw [dAnd_ii, PyProof.Rows.bitAnd_m1, Nat.testBit_eq_decide_div_mod_eq]
    have e : (((rowM p n : Nat) : Int) / 2 ^ k % 2) = ((rowM p n / 2 ^ k % 2 : Nat) : Int) := by
      rw [Int.natCast_emod, Int.natCast_ediv, Int.natCast_pow]; rfl
    rw [e]
    show Res.ok (D.int _) = Res.ok (D.int _)
    refine congrArg (fun i => Res.ok (D.int i)) ?_
    by_cases h1 : rowM p n / 2 ^ k % 2 = 1
    · rw [decide_eq_true h1, if_pos rfl, h1]; rfl
    · rw [decide_eq_false h1, if_neg Bool.false_ne_true]; omega⟩)
  have es : eCB dSum (aCons (eComp (iRange (aCons (eVar 2) aNil)) (bName 19) cYes (eBin dAnd (eBin dShr (eVar 13) (eVar 19)) (eC (.int 1))) [19]) aNil) (e9 ns p d s bs q b x8 (some (.int (c : Int))) x10 (some (.lst ((((numsFrom b c).take i).map (wt p)).map D.int))) (some (.int (n : Int))) (some (.int ((rowM p n : Nat) : Int))) [y, z, w, u, v, j, t]) = .ok (.int (wt p n)) := by
    rw [eCB_at, acons (fr := aNil) ec rfl, Res.bind_ok]
    have e : (D.lst ((List.range p).map fun k => bit ((rowM p n).testBit k))) = .lst (((List.range p).map fun k => if (rowM p n).testBit k = true then (1 : Int) else 0).map D.int) := by
      rw [List.map_map]; rfl
    rw [e, dSum_map]; rfl
  rw [sSeq_at, set_go e1, then_nx]
  show sApp 11 _ (e9 ns p d s bs q b x8 (some (.int (c : Int))) x10 (some (.lst ((((numsFrom b c).take i).map (wt p)).map D.int))) (some (.int (n : Int))) (some (.int ((rowM p n : Nat) : Int))) [y, z, w, u, v, j, t]) = _
  rw [app_go rfl es (by rw [List.length_map, List.length_map, List.length_take, nums_len]; omega)]
  rw [List.take_succ, hn, List.map_append, List.map_append]; rfl
theorem body9 {ns : List Nat} (hl : ns.length = 40) {p d b : Nat} (hp0 : 0 < p) (hp : p ≤ 60) (hb : b < 4096) (s bs q x8 x9 x10 x11 x12 x13 : Option D) (r : En) (hr : ∃ y z w u v j t, r = [y, z, w, u, v, j, t]) : ∃ y9 y10 y11 y12 y13, LB9 (e9 ns p d s bs q b x8 x9 x10 x11 x12 x13 r) = .nx (e9 ns p d s bs q b x8 y9 y10 y11 y12 y13 r) := by
  obtain ⟨c, hc, hbc, h1⟩ := l9_1 hl (p := p) (d := d) hb s bs q x8 x9 x10 x11 x12 x13 r
  have ul := useT_len (p := p) (numsFrom b c) []
  rw [nums_len] at ul
  have u1 := useful_at hp0 hp hb hc hbc
  have e2 : eCall 3 F_useful_from (aCons (eVar 2) (aCons (eVar 7) (aCons (eVar 9) aNil))) (e9 ns p d s bs q b x8 (some (.int (c : Int))) x10 x11 x12 x13 r) = .ok (intsD (useT p [] (numsFrom b c))) := call3 rfl rfl rfl u1
  have e3 : eCall 4 F__law_useful (aCons (eVar 2) (aCons (eVar 7) (aCons (eVar 9) (aCons (eVar 3) aNil)))) (e9 ns p d s bs q b x8 (some (.int (c : Int))) (some (intsD (useT p [] (numsFrom b c)))) x11 x12 x13 r) = .ok (intsD (useT p [] (numsFrom b c))) := call4 rfl rfl rfl rfl (by
    have := luse_at (c := c) hp0 hp hb (by omega)
    rw [show min (b + c) 4096 - b = c by omega] at this
    exact this)
  have c3 : bNot (tru (eCallL 2 (F__law_same 4) (aCons (eVar 10) (aCons (eCall 4 F__law_useful (aCons (eVar 2) (aCons (eVar 7) (aCons (eVar 9) (aCons (eVar 3) aNil))))) aNil)))) (e9 ns p d s bs q b x8 (some (.int (c : Int))) (some (intsD (useT p [] (numsFrom b c)))) x11 x12 x13 r) = .ok false := nt_ok (callL2 rfl e3 (same4 (okS_ints (by omega))))
  have c5 : bOr (bNot (tru (eCall 2 (F__law_same 4) (aCons (eCall 3 F_useful_from (aCons (eVar 2) (aCons (eVar 7) (aCons (eVar 9) aNil)))) (aCons (eSl dSl (eVar 10) oNone (oSome (un1 (fun i => -i) (eC (.int 1))))) aNil))))) (tst (eBin dNe (eCall 3 F_useful_from (aCons (eVar 2) (aCons (eVar 7) (aCons (eC (.int 0)) aNil)))) (eLst aNil))) (e9 ns p d s bs q b x8 (some (.int (c : Int))) (some (.lst ((useT p [] (numsFrom b c)).map (fun n : Nat => D.int (n : Int)) ++ [.int 0]))) x11 x12 x13 r) = .ok false := by
    refine or2 (nt_ok (call2 (call3 rfl rfl rfl u1) ?_ (same4 (okS_ints (by omega))))) ?_
    · show Res.ofO (some (D.lst (cutL ((useT p [] (numsFrom b c)).map (fun n : Nat => D.int (n : Int)) ++ [.int 0]) none (some (-1))))) = _
      rw [cut_last]; rfl
    · have u0 := useful_at (c := 0) hp0 hp hb (by decide) (by omega)
      have e0 : eCall 3 F_useful_from (aCons (eVar 2) (aCons (eVar 7) (aCons (eC (.int 0)) aNil))) (e9 ns p d s bs q b x8 (some (.int (c : Int))) (some (.lst ((useT p [] (numsFrom b c)).map (fun n : Nat => D.int (n : Int)) ++ [.int 0]))) x11 x12 x13 r) = .ok (intsD []) := call3 rfl rfl rfl u0
      rw [tst_at, eBin_at, e0, Res.bind_ok, lst0, Res.bind_ok]
      show (Res.ofO (dNe (.lst (([] : List Int).map D.int)) (.lst (([] : List Int).map D.int)))).bind asB = _
      rw [ne_same]; rfl
  obtain ⟨y12, y13, h7⟩ := l9_7 (ns := ns) (d := d) hp0 hp hc hbc s bs q x8 (some (.lst ((useT p [] (numsFrom b c)).map (fun n : Nat => D.int (n : Int)) ++ [.int 0]))) x12 x13 r hr
  have c8 : bNot (tru (eCallL 2 (F__law_same 4) (aCons (eCall 3 F_weights_from (aCons (eVar 2) (aCons (eVar 7) (aCons (eVar 9) aNil)))) (aCons (eVar 11) aNil)))) (e9 ns p d s bs q b x8 (some (.int (c : Int))) (some (.lst ((useT p [] (numsFrom b c)).map (fun n : Nat => D.int (n : Int)) ++ [.int 0]))) (some (.lst (((numsFrom b c).map (wt p)).map D.int))) y12 y13 r) = .ok false := nt_ok (callL2 (call3 rfl rfl rfl (by
    have := weights_at hp0 hp hb hc hbc
    rw [show ((numsFrom b c).map fun n => D.int (wt p n)) = ((numsFrom b c).map (wt p)).map D.int from by rw [List.map_map]; rfl] at this
    exact this)) rfl (same4 (okS_wts (by rw [List.length_map, nums_len]; omega))))
  have s4 : L9_4 (e9 ns p d s bs q b x8 (some (.int (c : Int))) (some (intsD (useT p [] (numsFrom b c)))) x11 x12 x13 r) = .nx (e9 ns p d s bs q b x8 (some (.int (c : Int))) (some (.lst ((useT p [] (numsFrom b c)).map (fun n : Nat => D.int (n : Int)) ++ [.int 0]))) x11 x12 x13 r) := app_go (b := .int 0) (ds := (useT p [] (numsFrom b c)).map fun n : Nat => D.int (n : Int)) rfl rfl (by rw [List.length_map]; omega)
  have s2 : L9_2 (e9 ns p d s bs q b x8 (some (.int (c : Int))) x10 x11 x12 x13 r) = .nx (e9 ns p d s bs q b x8 (some (.int (c : Int))) (some (intsD (useT p [] (numsFrom b c)))) x11 x12 x13 r) := set_go e2
  have s3 : L9_3 (e9 ns p d s bs q b x8 (some (.int (c : Int))) (some (intsD (useT p [] (numsFrom b c)))) x11 x12 x13 r) = .nx (e9 ns p d s bs q b x8 (some (.int (c : Int))) (some (intsD (useT p [] (numsFrom b c)))) x11 x12 x13 r) := skip c3
  have s5 : L9_5 (e9 ns p d s bs q b x8 (some (.int (c : Int))) (some (.lst ((useT p [] (numsFrom b c)).map (fun n : Nat => D.int (n : Int)) ++ [.int 0]))) x11 x12 x13 r) = .nx (e9 ns p d s bs q b x8 (some (.int (c : Int))) (some (.lst ((useT p [] (numsFrom b c)).map (fun n : Nat => D.int (n : Int)) ++ [.int 0]))) x11 x12 x13 r) := skip c5
  have s6 : L9_6 (e9 ns p d s bs q b x8 (some (.int (c : Int))) (some (.lst ((useT p [] (numsFrom b c)).map (fun n : Nat => D.int (n : Int)) ++ [.int 0]))) x11 x12 x13 r) = .nx (e9 ns p d s bs q b x8 (some (.int (c : Int))) (some (.lst ((useT p [] (numsFrom b c)).map (fun n : Nat => D.int (n : Int)) ++ [.int 0]))) (some (.lst [])) x12 x13 r) := set_go lst0
  refine ⟨some (.int (c : Int)), some (.lst ((useT p [] (numsFrom b c)).map (fun n : Nat => D.int (n : Int)) ++ [.int 0])), some (.lst (((numsFrom b c).map (wt p)).map D.int)), y12, y13, ?_⟩
  rw [LB9_eq, sSeq_at, h1, then_nx, sSeq_at, s2, then_nx, sSeq_at, s3, then_nx, sSeq_at, s4, then_nx, sSeq_at, s5, then_nx, sSeq_at, s6, then_nx, sSeq_at, h7, then_nx]
  exact skip c8
end Law

namespace Law
open PySem L2 Dl Gf2
abbrev N7 : En := [none, none, none, none, none, none, none]
theorem ls9 {ns : List Nat} (hl : ns.length = 40) {p d : Nat} (hp0 : 0 < p) (hp : p ≤ 60) (bs : List Nat) (hbs : ∀ b ∈ bs, b < 4096) (s q x7 x8 : Option D) :
    ∃ y7 y8 y9 y10 y11 y12 y13, LS9 (ev ns p d s (some (intsD bs)) q (x7 :: x8 :: none :: none :: none :: none :: none :: N7)) = .nx (ev ns p d s (some (intsD bs)) q (y7 :: y8 :: y9 :: y10 :: y11 :: y12 :: y13 :: N7)) := by
  have e : LS9 (ev ns p d s (some (intsD bs)) q (x7 :: x8 :: none :: none :: none :: none :: none :: N7)) = forD (bName 7) LB9 (bs.map fun n : Nat => D.int (n : Int)) (ev ns p d s (some (intsD bs)) q (x7 :: x8 :: none :: none :: none :: none :: none :: N7)) := rfl
  rw [e]
  refine for_rule (fun n : Nat => D.int (n : Int)) (fun _ ρ => ∃ y7 y8 y9 y10 y11 y12 y13, ρ = ev ns p d s (some (intsD bs)) q (y7 :: y8 :: y9 :: y10 :: y11 :: y12 :: y13 :: N7)) (fun o => ∃ y7 y8 y9 y10 y11 y12 y13, o = .nx (ev ns p d s (some (intsD bs)) q (y7 :: y8 :: y9 :: y10 :: y11 :: y12 :: y13 :: N7))) (fun i b ρ hb hI => ?_) (fun ρ ⟨a, b, c, d, e, f, g, h⟩ => ⟨a, b, c, d, e, f, g, by rw [h]⟩) ⟨x7, x8, none, none, none, none, none, rfl⟩
  obtain ⟨y7, y8, y9, y10, y11, y12, y13, rfl⟩ := hI
  obtain ⟨z9, z10, z11, z12, z13, h⟩ := body9 hl (d := d) hp0 hp (hbs b (List.mem_of_getElem? hb)) s (some (intsD bs)) q y8 y9 y10 y11 y12 y13 N7 ⟨_, _, _, _, _, _, _, rfl⟩
  exact ⟨e9 ns p d s (some (intsD bs)) q b y8 y9 y10 y11 y12 y13 N7, rfl, .inl ⟨_, .inl h, _, _, _, _, _, _, _, rfl⟩⟩
theorem ls10 {ns : List Nat} {p d : Nat} (hp0 : 0 < p) (hp : p ≤ 60) (s b q : Option D) (r : En) : LS10 (ev ns p d s b q r) = .nx (ev ns p d s b q r) := by
  have w := worst_at (bs := []) hp0 hp (fun _ h => by cases h) (by decide)
  have e : eCall 2 F_worst_begin (aCons (eVar 2) (aCons (eLst aNil) aNil)) (ev ns p d s b q r) = .ok .non := call2 rfl lst0 w
  exact skip (by rw [tst_at, eBin_at, e]; rfl)
theorem ls11 {ns : List Nat} (hl : ns.length = 40) {p d : Nat} (hp0 : 0 < p) (hp : p ≤ 60) (s b : Option D) (qs : List Nat) (hq : qs.length < 100) (hqs : ∀ a ∈ qs, a < 4096) (hne : qs ≠ []) (r : En) :
    ∃ qs', qs'.length < 101 ∧ (∀ a ∈ qs', a < 4096) ∧ qs' ≠ [] ∧ LS11 (ev ns p d s b (some (.lst (qs.map (pbD p)))) r) = .nx (ev ns p d s b (some (.lst (qs'.map (pbD p)))) r) := by
  have c : ∃ k : Bool, (k = true → 1 < p) ∧ bAnd (tst (eBin dGt (eVar 2) (eC (.int 1)))) (tst (eBin dEq (eBin dMod (eBin dIx (eVar 1) (eC (.int 7))) (eC (.int 2))) (eC (.int 0)))) (ev ns p d s b (some (.lst (qs.map (pbD p)))) r) = .ok k := by
    have c1 : tst (eBin dGt (eVar 2) (eC (.int 1))) (ev ns p d s b (some (.lst (qs.map (pbD p)))) r) = .ok (decide (1 < p)) := by
      show (Res.ofO (dGt (.int (p : Int)) (.int ((1 : Nat) : Int)))).bind asB = _
      rw [dGt_ii]
      show Res.ok _ = Res.ok _
      congr 1
      exact decide_eq_decide.mpr (by omega)
    have m : eBin dMod (eBin dIx (eVar 1) (eC (.int 7))) (eC (.int 2)) (ev ns p d s b (some (.lst (qs.map (pbD p)))) r) = .ok (.int ((ns.getD 7 0 % 2 : Nat) : Int)) := emod_at (nx_at hl 7 (by decide) rfl) (by decide : 0 < 2)
    have c2 : tst (eBin dEq (eBin dMod (eBin dIx (eVar 1) (eC (.int 7))) (eC (.int 2))) (eC (.int 0))) (ev ns p d s b (some (.lst (qs.map (pbD p)))) r) = .ok (decide (ns.getD 7 0 % 2 = 0)) := by
      rw [tst_at, eBin_at, m]
      show (Res.ofO (dEq (.int ((ns.getD 7 0 % 2 : Nat) : Int)) (.int ((0 : Nat) : Int)))).bind asB = _
      rw [eq_nn]; rfl
    by_cases z : 1 < p
    · exact ⟨decide (ns.getD 7 0 % 2 = 0), fun _ => z, by rw [bAnd_at, c1, Res.bind_ok, decide_eq_true z, if_pos rfl, c2]⟩
    · exact ⟨false, (fun h => by cases h), by rw [bAnd_at, c1, Res.bind_ok, decide_eq_false z, if_neg Bool.false_ne_true]⟩
  obtain ⟨k, hk, c⟩ := c
  cases k with
  | false => exact ⟨qs, by omega, hqs, hne, skip c⟩
  | true =>
    have z := hk rfl
    have e2 : eBin dSub (eC (.int ((4097 : Nat) : Int))) (eVar 2) (ev ns p d s b (some (.lst (qs.map (pbD p)))) r) = .ok (.int ((4097 - p : Nat) : Int)) := esub_at (a := 4097) rfl rfl (by omega)
    have e3 : eTup (aCons (eC (.int 401)) (aCons (eBin dSub (eC (.int 4097)) (eVar 2)) aNil)) (ev ns p d s b (some (.lst (qs.map (pbD p)))) r) = .ok (pbD p (4097 - p)) := by
      have t := tup2 (fa := eC (.int 401)) (a := .int 401) (ρ := ev ns p d s b (some (.lst (qs.map (pbD p)))) r) rfl e2
      have v : needV p (4097 - p) = 401 := by unfold needV; rw [need_end z hp]
      unfold pbD
      rw [v]
      exact t
    refine ⟨qs ++ [4097 - p], by rw [List.length_append, List.length_singleton]; omega, fun a ha => ?_, by simp, ?_⟩
    · rcases List.mem_append.mp ha with ha | ha
      · exact hqs a ha
      · rw [List.mem_singleton.mp ha]; omega
    · have s6 : sApp 6 (eTup (aCons (eC (.int 401)) (aCons (eBin dSub (eC (.int 4097)) (eVar 2)) aNil))) (ev ns p d s b (some (.lst (qs.map (pbD p)))) r) = .nx (ev ns p d s b (some (.lst (qs.map (pbD p) ++ [pbD p (4097 - p)]))) r) := app_go rfl e3 (by rw [List.length_map]; omega)
      unfold LS11
      rw [sIf_at, c, outX_ok, if_pos rfl, s6, List.map_append]; rfl
theorem cut_map {α β : Type} (f : α → β) (xs : List α) (lo hi : Option Int) : cutL (xs.map f) lo hi = (cutL xs lo hi).map f := by
  unfold cutL
  rw [List.length_map, List.map_take, List.map_drop]
theorem cut_mem {α : Type} {xs : List α} {lo hi : Option Int} {x : α} (h : x ∈ cutL xs lo hi) : x ∈ xs := List.mem_of_mem_drop (List.mem_of_mem_take h)
theorem cut_len {α : Type} (xs : List α) (lo hi : Option Int) : (cutL xs lo hi).length ≤ xs.length := by
  unfold cutL
  rw [List.length_take, List.length_drop]; omega
theorem cat_at {f g : En → Res D} {ρ : En} {a b : List D} (h : f ρ = .ok (.lst a)) (h2 : g ρ = .ok (.lst b)) (hl : a.length + b.length ≤ 1000) : eBin dCat f g ρ = .ok (.lst (a ++ b)) ∧ eBin dAdd f g ρ = .ok (.lst (a ++ b)) := by
  have e : dCat (.lst a) (.lst b) = some (.lst (a ++ b)) := if_pos (lim_le (by omega))
  constructor
  · rw [eBin_at, h, Res.bind_ok, h2, Res.bind_ok, e]; rfl
  · rw [eBin_at, h, Res.bind_ok, h2, Res.bind_ok, dAdd_ll, e]; rfl
theorem ls13 {ns : List Nat} {p d at_ : Nat} (s b : Option D) (qs : List Nat) (hq : qs.length < 101) (hqs : ∀ a ∈ qs, a < 4096) (hne : qs ≠ []) (y7 y8 y9 y10 y11 y12 y13 : Option D) (r : En) :
    ∃ a rot, (a :: rot).length < 400 ∧ (∀ c ∈ a :: rot, c < 4096) ∧ LS13 (ev ns p d s b (some (.lst (qs.map (pbD p)))) (y7 :: y8 :: y9 :: y10 :: y11 :: y12 :: y13 :: some (.int (at_ : Int)) :: r)) = .nx (ev ns p d s b (some (.lst ((a :: rot).map (pbD p)))) (y7 :: y8 :: y9 :: y10 :: y11 :: y12 :: y13 :: some (.int (at_ : Int)) :: r)) := by
  have ne : cutL qs none (some 1) ≠ [] := by
    cases qs with
    | nil => exact absurd rfl hne
    | cons x t =>
      unfold cutL
      show (List.take _ (x :: t)) ≠ []
      show List.take (min (1 : Int).toNat (t.length + 1) - 0) (x :: t) ≠ []
      rw [show min (1 : Int).toNat (t.length + 1) - 0 = 1 by simp]
      simp
  have l1 := cut_len qs (some (at_ : Int)) none
  have l2 := cut_len qs none (some (at_ : Int))
  have l3 := cut_len qs none (some 1)
  generalize hr : (cutL qs (some (at_ : Int)) none ++ cutL qs none (some (at_ : Int))) ++ cutL qs none (some 1) = rot
  have hmem : ∀ c ∈ rot, c < 4096 := fun c hc => by
    rw [← hr] at hc
    rcases List.mem_append.mp hc with hc | hc
    · rcases List.mem_append.mp hc with hc | hc
      · exact hqs c (cut_mem hc)
      · exact hqs c (cut_mem hc)
    · exact hqs c (cut_mem hc)
  have hlen : rot.length < 400 := by rw [← hr, List.length_append, List.length_append]; omega
  have a1 : eSl dSl (eVar 6) (oSome (eVar 14)) oNone (ev ns p d s b (some (.lst (qs.map (pbD p)))) (y7 :: y8 :: y9 :: y10 :: y11 :: y12 :: y13 :: some (.int (at_ : Int)) :: r)) = .ok (.lst ((cutL qs (some (at_ : Int)) none).map (pbD p))) := by rw [← cut_map]; rfl
  have a2 : eSl dSl (eVar 6) oNone (oSome (eVar 14)) (ev ns p d s b (some (.lst (qs.map (pbD p)))) (y7 :: y8 :: y9 :: y10 :: y11 :: y12 :: y13 :: some (.int (at_ : Int)) :: r)) = .ok (.lst ((cutL qs none (some (at_ : Int))).map (pbD p))) := by rw [← cut_map]; rfl
  have a3 : eSl dSl (eVar 6) oNone (oSome (eC (.int 1))) (ev ns p d s b (some (.lst (qs.map (pbD p)))) (y7 :: y8 :: y9 :: y10 :: y11 :: y12 :: y13 :: some (.int (at_ : Int)) :: r)) = .ok (.lst ((cutL qs none (some 1)).map (pbD p))) := by rw [← cut_map]; rfl
  have a12 := (cat_at a1 a2 (by rw [List.length_map, List.length_map]; omega)).2
  have a := (cat_at a12 a3 (by rw [List.length_append, List.length_map, List.length_map, List.length_map]; omega)).1
  rw [← List.map_append, ← List.map_append, hr] at a
  cases rot with
  | nil =>
    exfalso
    exact ne (List.append_eq_nil_iff.mp hr).2
  | cons x t => exact ⟨x, t, hlen, hmem, set_go a⟩
end Law

namespace Law
open PySem L2 Dl Gf2
abbrev M6 : En := [none, none, none, none, none, none]
theorem ls12 {ns : List Nat} (hl : ns.length = 40) {p d : Nat} (s b : Option D) (qs : List Nat) (hne : qs ≠ []) (y7 y8 y9 y10 y11 y12 y13 x : Option D) (r : En) :
    ∃ a : Nat, LS12 (ev ns p d s b (some (.lst (qs.map (pbD p)))) (y7 :: y8 :: y9 :: y10 :: y11 :: y12 :: y13 :: x :: r)) = .nx (ev ns p d s b (some (.lst (qs.map (pbD p)))) (y7 :: y8 :: y9 :: y10 :: y11 :: y12 :: y13 :: some (.int (a : Int)) :: r)) := by
  have hp : 0 < qs.length := List.length_pos_iff.mpr hne
  have e2 : eCB dLen (aCons (eVar 6) aNil) (ev ns p d s b (some (.lst (qs.map (pbD p)))) (y7 :: y8 :: y9 :: y10 :: y11 :: y12 :: y13 :: x :: r)) = .ok (.int ((qs.length : Nat) : Int)) := by
    show Res.ok (D.int ((qs.map (pbD p)).length : Nat)) = _
    rw [List.length_map]
  exact ⟨ns.getD 8 0 % qs.length, set_go (emodv_at (a := ns.getD 8 0) (b := qs.length) (nx_at hl 8 (by decide) rfl) e2 hp)⟩
theorem ls15_go {p : Nat} (ns : List Nat) (d : Nat) (s b q y7 y8 y9 y10 y11 y12 y13 y14 : Option D) (r : En) : ∀ (t : List Nat) (a : Nat) (x : Option D), ∃ x', forD (bName 16) LB15 (t.map (pbD p)) (ev ns p d s b q (y7 :: y8 :: y9 :: y10 :: y11 :: y12 :: y13 :: y14 :: some (pbD p a) :: x :: r)) = .nx (ev ns p d s b q (y7 :: y8 :: y9 :: y10 :: y11 :: y12 :: y13 :: y14 :: some (pbD p (t.foldl (better p) a)) :: x' :: r))
  | [], a, x => ⟨x, rfl⟩
  | c :: t, a, x => by
    obtain ⟨x', ih⟩ := ls15_go ns d s b q y7 y8 y9 y10 y11 y12 y13 y14 r t (better p a c) (some (pbD p c))
    refine ⟨x', ?_⟩
    rw [List.map_cons, forD_cons (ρ1 := ev ns p d s b q (y7 :: y8 :: y9 :: y10 :: y11 :: y12 :: y13 :: y14 :: some (pbD p a) :: some (pbD p c) :: r)) rfl]
    have e : LB15 (ev ns p d s b q (y7 :: y8 :: y9 :: y10 :: y11 :: y12 :: y13 :: y14 :: some (pbD p a) :: some (pbD p c) :: r)) = .nx (ev ns p d s b q (y7 :: y8 :: y9 :: y10 :: y11 :: y12 :: y13 :: y14 :: some (pbD p (better p a c)) :: some (pbD p c) :: r)) := by
      have c1 : tst (eBin dGt (eBin dIx (eVar 16) (eC (.int 0))) (eBin dIx (eVar 15) (eC (.int 0)))) (ev ns p d s b q (y7 :: y8 :: y9 :: y10 :: y11 :: y12 :: y13 :: y14 :: some (pbD p a) :: some (pbD p c) :: r)) = .ok (decide (needV p a < needV p c)) := by
        show (Res.ofO (dGt (.int (needV p c)) (.int (needV p a)))).bind asB = _
        rw [dGt_ii]; rfl
      unfold LB15
      rw [sIf_at, c1, outX_ok]
      unfold better
      by_cases z : needV p a < needV p c
      · rw [decide_eq_true z, if_pos rfl, if_pos z]; rfl
      · rw [decide_eq_false z, if_neg Bool.false_ne_true, if_neg z]; rfl
    rw [e]
    exact ih
theorem law_ok (zs : List Int) : F_law [.frz zs] = .ok (.bl true) := by
  obtain ⟨ns, hl, hb, hn⟩ := nums_at zs
  obtain ⟨p, hp0, hp, h2⟩ := parts_at hl (some (.frz zs)) (none :: none :: none :: none :: none :: none :: none :: none :: none :: none :: none :: N7)
  obtain ⟨d, hd, h4⟩ := drawn_at hl hb (some (.frz zs)) (some (.int (p : Int))) (some PWD) (none :: none :: none :: none :: none :: none :: none :: none :: none :: N7)
  obtain ⟨b0, hb0, h5⟩ := begins_at hl hb hp0 hp hd (some (.frz zs)) (some PWD) (none :: none :: none :: none :: none :: none :: none :: none :: N7)
  obtain ⟨x7, x8, h7⟩ := ls7 (ns := ns) hp0 hp hb0 hd (some (.frz zs)) (none :: none :: none :: none :: none :: N7)
  have h8 := ls8 (ns := ns) (d := d) hp0 hp (some (.frz zs)) (some (intsD [b0, d, 4096 - p])) (some (.lst ([b0, d, 0].map (pbD p)))) (x7 :: x8 :: none :: none :: none :: none :: none :: N7)
  obtain ⟨y7, y8, y9, y10, y11, y12, y13, h9⟩ := ls9 hl (d := d) hp0 hp [b0, d, 4096 - p] (fun b h => by
    simp only [List.mem_cons, List.not_mem_nil, or_false] at h
    rcases h with rfl | rfl | rfl <;> omega) (some (.frz zs)) (some (.lst ([b0, d, 0].map (pbD p)))) x7 x8
  have h10 := ls10 (ns := ns) (d := d) hp0 hp (some (.frz zs)) (some (intsD [b0, d, 4096 - p])) (some (.lst ([b0, d, 0].map (pbD p)))) (y7 :: y8 :: y9 :: y10 :: y11 :: y12 :: y13 :: N7)
  obtain ⟨qs, q1, q2, q3, h11⟩ := ls11 hl (d := d) hp0 hp (some (.frz zs)) (some (intsD [b0, d, 4096 - p])) [b0, d, 0] (by show 3 < 100; decide) (fun b h => by
    simp only [List.mem_cons, List.not_mem_nil, or_false] at h
    rcases h with rfl | rfl | rfl <;> omega) (by simp) (y7 :: y8 :: y9 :: y10 :: y11 :: y12 :: y13 :: N7)
  obtain ⟨at_, h12⟩ := ls12 hl (p := p) (d := d) (some (.frz zs)) (some (intsD [b0, d, 4096 - p])) qs q3 y7 y8 y9 y10 y11 y12 y13 none M6
  obtain ⟨a, rot, r1, r2, h13⟩ := ls13 (ns := ns) (p := p) (d := d) (at_ := at_) (some (.frz zs)) (some (intsD [b0, d, 4096 - p])) qs q1 q2 q3 y7 y8 y9 y10 y11 y12 y13 M6
  have h14 : LS14 (ev ns p d (some (.frz zs)) (some (intsD [b0, d, 4096 - p])) (some (.lst ((a :: rot).map (pbD p)))) (y7 :: y8 :: y9 :: y10 :: y11 :: y12 :: y13 :: some (.int (at_ : Int)) :: M6)) = .nx (ev ns p d (some (.frz zs)) (some (intsD [b0, d, 4096 - p])) (some (.lst ((a :: rot).map (pbD p)))) (y7 :: y8 :: y9 :: y10 :: y11 :: y12 :: y13 :: some (.int (at_ : Int)) :: some (pbD p a) :: [none, none, none, none, none])) := set_go (d := pbD p a) (by
    show Res.ofO (atI ((a :: rot).map (pbD p)) ((0 : Nat) : Int)) = _
    rw [at_nat (x := pbD p a) rfl]; rfl)
  obtain ⟨x16, h15g⟩ := ls15_go (p := p) ns d (some (.frz zs)) (some (intsD [b0, d, 4096 - p])) (some (.lst ((a :: rot).map (pbD p)))) y7 y8 y9 y10 y11 y12 y13 (some (.int (at_ : Int))) [none, none, none, none] (a :: rot) a none
  have h15 : LS15 (ev ns p d (some (.frz zs)) (some (intsD [b0, d, 4096 - p])) (some (.lst ((a :: rot).map (pbD p)))) (y7 :: y8 :: y9 :: y10 :: y11 :: y12 :: y13 :: some (.int (at_ : Int)) :: some (pbD p a) :: [none, none, none, none, none])) = _ := h15g
  have ec := eComp_map (F := iSeq (eVar 6)) (b := bTup 2 (bCons (bName 20) (bCons (bName 7) bNil))) (c := cYes) (e := eVar 7) (vs := [20, 7]) (ρ := ev ns p d (some (.frz zs)) (some (intsD [b0, d, 4096 - p])) (some (.lst ((a :: rot).map (pbD p)))) (y7 :: y8 :: y9 :: y10 :: y11 :: y12 :: y13 :: some (.int (at_ : Int)) :: some (pbD p ((a :: rot).foldl (better p) a)) :: x16 :: [none, none, none, none])) (a :: rot) (pbD p) (fun n : Nat => D.int (n : Int)) rfl (lim_lt (by omega)) (fun c _ => ⟨_, rfl, rfl, rfl⟩)
  have hw : worst p (a :: rot) = pbD p ((a :: rot).foldl (better p) a) := by
    show pbD p (rot.foldl (better p) a) = pbD p (rot.foldl (better p) (better p a a))
    have : better p a a = a := by unfold better; split <;> rfl
    rw [this]
  have w := worst_at (bs := a :: rot) hp0 hp r2 (by omega)
  rw [hw] at w
  generalize hbest : pbD p ((a :: rot).foldl (better p) a) = best at h15g h15 ec w
  have h16 : LS16 (ev ns p d (some (.frz zs)) (some (intsD [b0, d, 4096 - p])) (some (.lst ((a :: rot).map (pbD p)))) (y7 :: y8 :: y9 :: y10 :: y11 :: y12 :: y13 :: some (.int (at_ : Int)) :: some best :: x16 :: [none, none, none, none])) = .nx (ev ns p d (some (.frz zs)) (some (intsD [b0, d, 4096 - p])) (some (.lst ((a :: rot).map (pbD p)))) (y7 :: y8 :: y9 :: y10 :: y11 :: y12 :: y13 :: some (.int (at_ : Int)) :: some best :: x16 :: [some (intsD (a :: rot)), none, none, none])) := set_go ec
  have h17 : LS17 (ev ns p d (some (.frz zs)) (some (intsD [b0, d, 4096 - p])) (some (.lst ((a :: rot).map (pbD p)))) (y7 :: y8 :: y9 :: y10 :: y11 :: y12 :: y13 :: some (.int (at_ : Int)) :: some best :: x16 :: [some (intsD (a :: rot)), none, none, none])) = .nx (ev ns p d (some (.frz zs)) (some (intsD [b0, d, 4096 - p])) (some (.lst ((a :: rot).map (pbD p)))) (y7 :: y8 :: y9 :: y10 :: y11 :: y12 :: y13 :: some (.int (at_ : Int)) :: some best :: x16 :: [some (intsD (a :: rot)), some (intsD (a :: rot)), none, none])) := set_go rfl
  have okb : okS 4 best = true := by rw [← hbest]; rfl
  have c18 : bOr (bNot (tru (eCall 2 (F__law_same 4) (aCons (eCall 2 F_worst_begin (aCons (eVar 2) (aCons (eVar 18) aNil))) (aCons (eVar 15) aNil))))) (tst (eBin dNe (eVar 18) (eVar 17))) (ev ns p d (some (.frz zs)) (some (intsD [b0, d, 4096 - p])) (some (.lst ((a :: rot).map (pbD p)))) (y7 :: y8 :: y9 :: y10 :: y11 :: y12 :: y13 :: some (.int (at_ : Int)) :: some best :: x16 :: [some (intsD (a :: rot)), some (intsD (a :: rot)), none, none])) = .ok false := by
    refine or2 (nt_ok (call2 (call2 rfl rfl w) rfl (same4 okb))) ?_
    have e := ne_same ((a :: rot).map fun n : Nat => (n : Int))
    rw [List.map_map] at e
    have e' : dNe (intsD (a :: rot)) (intsD (a :: rot)) = some (.bl false) := e
    show (Res.ofO (dNe (intsD (a :: rot)) (intsD (a :: rot)))).bind asB = _
    rw [e']; rfl
  have h18 : LS18 (ev ns p d (some (.frz zs)) (some (intsD [b0, d, 4096 - p])) (some (.lst ((a :: rot).map (pbD p)))) (y7 :: y8 :: y9 :: y10 :: y11 :: y12 :: y13 :: some (.int (at_ : Int)) :: some best :: x16 :: [some (intsD (a :: rot)), some (intsD (a :: rot)), none, none])) = _ := skip c18
  have h19 : LS19 (ev ns p d (some (.frz zs)) (some (intsD [b0, d, 4096 - p])) (some (.lst ((a :: rot).map (pbD p)))) (y7 :: y8 :: y9 :: y10 :: y11 :: y12 :: y13 :: some (.int (at_ : Int)) :: some best :: x16 :: [some (intsD (a :: rot)), some (intsD (a :: rot)), none, none])) = .rt (.bl true) := by
    have e : eCall 2 F__law_refusals (aCons (eVar 2) (aCons (eVar 1) aNil)) (ev ns p d (some (.frz zs)) (some (intsD [b0, d, 4096 - p])) (some (.lst ((a :: rot).map (pbD p)))) (y7 :: y8 :: y9 :: y10 :: y11 :: y12 :: y13 :: some (.int (at_ : Int)) :: some best :: x16 :: [some (intsD (a :: rot)), some (intsD (a :: rot)), none, none])) = .ok (.bl true) := call2 rfl rfl (refusals_at hp0 hp hl)
    unfold LS19
    rw [sRet_at, e]; rfl
  have h1 : LS1 (some (.frz zs) :: none :: none :: none :: none :: none :: none :: none :: none :: none :: none :: none :: none :: none :: N7) = .nx (some (.frz zs) :: some (intsD ns) :: none :: none :: none :: none :: none :: none :: none :: none :: none :: none :: none :: none :: N7) := set_go (call3 rfl rfl rfl hn)
  have h3 : LS3 (some (.frz zs) :: some (intsD ns) :: some (.int (p : Int)) :: none :: none :: none :: none :: none :: none :: none :: none :: none :: none :: none :: N7) = .nx (some (.frz zs) :: some (intsD ns) :: some (.int (p : Int)) :: some PWD :: none :: none :: none :: none :: none :: none :: none :: none :: none :: none :: N7) := by
    have e : eCall0 F__law_powers (some (.frz zs) :: some (intsD ns) :: some (.int (p : Int)) :: none :: none :: none :: none :: none :: none :: none :: none :: none :: none :: none :: N7) = .ok PWD := by
      rw [eCall0_at, arN_at, if_pos (show ([] : List D).length = 0 from rfl), lpowers_at]
    exact set_go e
  have h6 : LS6 (some (.frz zs) :: some (intsD ns) :: some (.int (p : Int)) :: some PWD :: some (.int (d : Int)) :: some (intsD [b0, d, 4096 - p]) :: none :: none :: none :: none :: none :: none :: none :: none :: N7) = .nx (ev ns p d (some (.frz zs)) (some (intsD [b0, d, 4096 - p])) (some (.lst [])) (none :: none :: none :: none :: none :: none :: none :: N7)) := set_go lst0
  refine runB_rt ?_
  show B_law (some (.frz zs) :: none :: none :: none :: none :: none :: none :: none :: none :: none :: none :: none :: none :: none :: N7) = _
  rw [B_law_eq, sSeq_at, h1, then_nx, sSeq_at, h2, then_nx, sSeq_at, h3, then_nx, sSeq_at, h4, then_nx, sSeq_at, h5, then_nx, sSeq_at, h6, then_nx, sSeq_at, h7, then_nx, sSeq_at, h8, then_nx, sSeq_at, h9, then_nx, sSeq_at, h10, then_nx, sSeq_at, h11, then_nx, sSeq_at]
  have h12' : LS12 (ev ns p d (some (.frz zs)) (some (intsD [b0, d, 4096 - p])) (some (.lst (qs.map (pbD p)))) (y7 :: y8 :: y9 :: y10 :: y11 :: y12 :: y13 :: N7)) = _ := h12
  rw [h12', then_nx, sSeq_at, h13, then_nx, sSeq_at, h14, then_nx, sSeq_at, h15, then_nx, sSeq_at, h16, then_nx, sSeq_at, h17, then_nx, sSeq_at, h18, then_nx]
  exact h19
end Law

namespace Law
open PySem PySem.Spec PyProof.Rows L2
abbrev RwL : PySem.W.OpenRow := PySem.W.OpenLaw.row PySem.Challenge.rw_askewread_k60_numbers_that_tell_all
abbrev hkL : PySem.W.Hook := He.hookD 4 fa fn
def obL (s : PySem.W.SharedT) : He.AlD := He.obsDG 4 fa fn (HandSHeadRun.getT s)
theorem obL_eq (s : PySem.W.SharedT) : obL s = hkL.obs s.abs := He.obsDG_eq (HandSHeadRun.getT_eq s)
def looseL : List PySem.Str := (["AskewError", "BadNumber", "is_whole", "are_wholes", "degree", "carried_off", "powers_of_two", "MOST_PARTS", "MOST_NUMBER", "MODULUS", "check_parts", "check_number", "check_numbers", "row_by", "added"] : List PySem.Str) ++ (["weight", "lead_of", "reduced_by", "cleared_by", "put_row", "least_numbers", "MOST_LOOKED", "check_begin", "needed_from", "useful_from", "worst_begin", "weights_from", "overhead", "_law_numbers", "_law_same"] : List PySem.Str) ++ (["_law_powers", "_law_mask", "_law_rest", "_law_useful", "_law_needed", "_law_refused", "_law_refusals"] : List PySem.Str)
theorem runL (w : World) : HandSHeadRun.RunEq RwL (PySem.W.view RwL.prog [43]) hkL obL 3000 looseL w := by
  intro os
  kernel_rfl
end Law

namespace Law
open PySem L2 Dl
theorem fn_plain {P : Program} {w : World} {K : PySem.W.Frag} {mg : Str → Option Value} {base : Heap} {k : Nat} {f : Addr} {fd : FuncData} {ps : List Str} {sp : Sp} (F : FnOk P w K mg base (L2.CX P w) k f fd ps sp) :
    FnOk P w K mg base L2.CX0 k f fd ps (fun vs H Q _ => sp vs H Q fun _ _ _ => False) :=
  ⟨fun vs H Q _ h => F.len vs H Q _ h, fun A outer s H args us vs Q _ hr he hb hv hs => codeAny_mono (F.run A outer s H args us vs Q (fun _ _ _ => False) hr he hb hv hs) fun r s' g => by
    cases r with
    | ok x => cases x <;> exact g
    | error e =>
      obtain ⟨_, _, _, _, _, _, _, _, _, _, _, _, z⟩ := (show L2.CX P w outer H s (fun _ _ _ => False) e s' from g)
      exact z.elim⟩
theorem factsL {P : Program} {w : World} {K : PySem.W.Frag} {h : Heap} {mg : Str → Option Value} {f : Addr} (X : K.In h) (G : h.Ns mainGlobals mg) (hfa : mg ("law" : Str) = some (.ref f)) (c : He.SaysD fa fn K) :
    ∃ fd : FuncData, (∀ (s : Shared) (v : Value), BindsTo s fd ⟨[v], []⟩ [("script", v)]) ∧ ∀ base : Heap, K.In base → base.Ns mainGlobals mg → FnOk P w K mg base L2.CX0 8 f fd ["script"] (fun vs H Q _ => spF K 1 F_law vs H Q fun _ _ _ => False) := by
  obtain ⟨fd, F⟩ := c.def_ 31 (d := d_law) rfl
  have e := hfa.symm.trans (He.glo_ok X G (c.fact 31 (f := .glo "law") rfl))
  cases e
  have b := FunD.bindsA (ps := ["script"]) F fun _ _ _ _ _ _ us hl => match us, hl with | [_], _ => rfl
  exact ⟨fd, fun s v => b s [v] rfl, fun base _ _ => fn_plain (ok_law ⟨c, _, X, G⟩ F)⟩
theorem sp_law {K : PySem.W.Frag} {H : Hp} {a : Addr} {ns : List Int} (hS : SqL K H a (ns.map V.int)) : spF K 1 F_law [.ref a] H (fun v _ => v = .bl true) fun _ _ _ => False := by
  have hm : mask H (fun _ => False) = H := funext fun b => mask_seen (fun z => z)
  refine ⟨[.frz ns], fun _ => False, fun _ z => z.elim, isl_cons ⟨a, rfl, by rw [hm]; exact hS⟩ isl_nil, ?_⟩
  rw [arN_at, if_pos (show ([D.frz ns] : List D).length = 1 from rfl), law_ok ns]
  exact fun v H' _ r => r
end Law
open PySem PySem.W PySem.Calls PyProof.Rows
theorem PySem.Challenge.cw_askewread_k60_numbers_that_tell_all_holds : PySem.Challenge.rw_askewread_k60_numbers_that_tell_all.Holds := by
  w_on; o_law
  refine HandSHeadRun.head_any (r := OpenLaw.row PySem.Challenge.rw_askewread_k60_numbers_that_tell_all) (q := view (OpenLaw.row PySem.Challenge.rw_askewread_k60_numbers_that_tell_all).prog [43]) (H := Law.hkL) (ob := Law.obL) (M := 3000) (loose := Law.looseL) (d := HandSHeadRun.topDef (OpenLaw.row PySem.Challenge.rw_askewread_k60_numbers_that_tell_all).prog 43) (kwd := []) Law.obL_eq
    (by kernel_rfl) (fun s => by kernel_rfl) Law.runL (by kernel_rfl) (by kernel_rfl) (by kernel_rfl) (by rfl) (by first | assumption | decide +kernel) (by decide +kernel) ⟨rfl, rfl, rfl, rfl, rfl, by decide +kernel⟩ ?hw ?hc
  case hw => w_witness2
  case hc =>
    refine L2.walk_ofE (l := PySem.Challenge.rw_askewread_k60_numbers_that_tell_all) (n := 63) (k := 8) (x := "script") (CX := L2.CX0) rfl (by decide) (by kernel_rfl) ⟨rfl, by decide, by decide⟩ ?F (fun _ _ _ _ z => z)
    intro w mg fa h Y G hmg0
    obtain ⟨K, KX, c⟩ := Y
    have hmg : mg ("law" : PySem.Str) = some (.ref fa) := by
      have e : (HandSHeadRun.topDef (OpenLaw.row PySem.Challenge.rw_askewread_k60_numbers_that_tell_all).prog 43).name = ("law" : PySem.Str) := by kernel_rfl
      rw [← e]
      exact hmg0
    obtain ⟨fd, hb, hF⟩ := Law.factsL (P := (PySem.Challenge.rw_askewread_k60_numbers_that_tell_all).prog) (w := w) KX G hmg c
    exact ⟨K, fd, (fun vs H Q _ => Dl.spF K 1 Law.F_law vs H Q fun _ _ _ => False), KX, hb, fun H a ns hl _ hS => Law.sp_law hS, hF⟩

