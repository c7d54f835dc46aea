import PyProof.Rows.All
import Wide.All
import OpenK.AllK
import Wide.FinOn
import HandS.ForMost
import HandS.Wide
import HandS.Style
import HandS.IsInst
import HandS.TupAny
import HandS.Deep
import HandS.SortInts
import HandS.Gcd
import HandS.ExcIs
import KE.KRevSl
import KE.DataMinMax
import KE.DataCmp
import KE.SortData
import PyProof.MaxThree
import PyProof.Rows.ReprR
import HandS.More
import PySem.Challenge.RW_kerbcall_k46_safe_comings_by_games
set_option Elab.async false
set_option linter.all false
set_option maxRecDepth 100000
namespace PL
open PySem PySem.Spec PyProof.Rows L2

/-! ### results -/
inductive R (α : Type) where
  | ok (a : α)
  | exc (c : Nat) (n : Int)
  | stuck
def R.bind {α β : Type} (x : R α) (f : α → R β) : R β := match x with
  | .ok a => f a
  | .exc c n => .exc c n
  | .stuck => .stuck
def R.wp {α : Type} (r : R α) (P : α → Prop) (W : Nat → Int → Prop) : Prop := match r with
  | .ok a => P a
  | .exc c n => W c n
  | .stuck => False
@[simp] theorem R.ok_bind {α β : Type} (a : α) (f : α → R β) : (R.ok a).bind f = f a := rfl
@[simp] theorem R.exc_bind {α β : Type} (c : Nat) (n : Int) (f : α → R β) : (R.exc c n : R α).bind f = .exc c n := rfl
@[simp] theorem R.stuck_bind {α β : Type} (f : α → R β) : (R.stuck : R α).bind f = .stuck := rfl
theorem R.wp_bind {α β : Type} {r : R α} {f : α → R β} {P : β → Prop} {W : Nat → Int → Prop} : (r.bind f).wp P W = r.wp (fun a => (f a).wp P W) W := by cases r <;> rfl
theorem R.wp_mono {α : Type} {r : R α} {P P' : α → Prop} {W W' : Nat → Int → Prop} (h : r.wp P W) (hP : ∀ a, P a → P' a) (hW : ∀ c n, W c n → W' c n) : r.wp P' W' := by
  cases r with
  | ok a => exact hP a h
  | exc c n => exact hW c n h
  | stuck => exact h
theorem R.bind_assoc {α β γ : Type} (r : R α) (f : α → R β) (g : β → R γ) : (r.bind f).bind g = r.bind fun a => (f a).bind g := by cases r <;> rfl

/-! ### plain data in the heap -/
def keyD : Key → PyData
  | .inl i => .int i
  | .inr x => .str x
def tkeyD (ks : List Key) : PyData := .tuple (ks.map keyD)
mutual
def Rp (K : PySem.W.Frag) (H : Hp) : PyData → V → Prop
  | .none, v => v = .non
  | .bool b, v => v = .bl b
  | .int i, v => v = .int i
  | .str x, v => v = .str x
  | .list ds, v => ∃ a xs, v = .ref a ∧ SqL K H a xs ∧ RpA K H ds xs
  | .tuple ds, v => ∃ a xs, v = .ref a ∧ SqT K H a xs ∧ RpA K H ds xs
  | .dict kvs, v => ∃ a, v = .ref a ∧ ((∃ xs : List (Key × V), H a = some (.dK xs) ∧ kvs.map (·.1) = xs.map (fun p => keyD p.1) ∧ RpV K H kvs (xs.map (·.2))) ∨
      ∃ xs : List (List Key × V), xs ≠ [] ∧ H a = some (.dT xs) ∧ kvs.map (·.1) = xs.map (fun p => tkeyD p.1) ∧ RpV K H kvs (xs.map (·.2)))
def RpA (K : PySem.W.Frag) (H : Hp) : List PyData → List V → Prop
  | [], xs => xs = []
  | d :: ds, xs => ∃ x r, xs = x :: r ∧ Rp K H d x ∧ RpA K H ds r
def RpV (K : PySem.W.Frag) (H : Hp) : List (PyData × PyData) → List V → Prop
  | [], xs => xs = []
  | (_, d) :: ds, xs => ∃ x r, xs = x :: r ∧ Rp K H d x ∧ RpV K H ds r
end
theorem sameT {K : PySem.W.Frag} {H H' : Hp} {a : Addr} {xs : List V} (e : Same H H') (h : SqT K H a xs) : SqT K H' a xs := by
  rcases h with (h | ⟨o, h⟩) | h
  · exact .inl (.inl (e _ _ h))
  · exact .inl (.inr ⟨o, e _ _ h⟩)
  · exact .inr h
mutual
theorem Rp.mono {K : PySem.W.Frag} {H H' : Hp} (e : Same H H') : ∀ (d : PyData) (v : V), Rp K H d v → Rp K H' d v
  | .none, _, h => by unfold Rp at h ⊢; exact h
  | .bool _, _, h => by unfold Rp at h ⊢; exact h
  | .int _, _, h => by unfold Rp at h ⊢; exact h
  | .str _, _, h => by unfold Rp at h ⊢; exact h
  | .list ds, v, h => by
    unfold Rp at h ⊢
    obtain ⟨a, xs, e1, h1, h2⟩ := h
    exact ⟨a, xs, e1, e.seq h1, RpA.mono e ds xs h2⟩
  | .tuple ds, v, h => by
    unfold Rp at h ⊢
    obtain ⟨a, xs, e1, h1, h2⟩ := h
    exact ⟨a, xs, e1, sameT e h1, RpA.mono e ds xs h2⟩
  | .dict kvs, v, h => by
    unfold Rp at h ⊢
    obtain ⟨a, e1, h⟩ := h
    refine ⟨a, e1, ?_⟩
    rcases h with ⟨xs, h1, h2, h3⟩ | ⟨xs, h0, h1, h2, h3⟩
    · exact .inl ⟨xs, e _ _ h1, h2, RpV.mono e kvs _ h3⟩
    · exact .inr ⟨xs, h0, e _ _ h1, h2, RpV.mono e kvs _ h3⟩
theorem RpA.mono {K : PySem.W.Frag} {H H' : Hp} (e : Same H H') : ∀ (ds : List PyData) (xs : List V), RpA K H ds xs → RpA K H' ds xs
  | [], _, h => by unfold RpA at h ⊢; exact h
  | d :: ds, _, h => by
    unfold RpA at h ⊢
    obtain ⟨x, r, e1, h1, h2⟩ := h
    exact ⟨x, r, e1, Rp.mono e d x h1, RpA.mono e ds r h2⟩
theorem RpV.mono {K : PySem.W.Frag} {H H' : Hp} (e : Same H H') : ∀ (ds : List (PyData × PyData)) (xs : List V), RpV K H ds xs → RpV K H' ds xs
  | [], _, h => by unfold RpV at h ⊢; exact h
  | (_, d) :: ds, _, h => by
    unfold RpV at h ⊢
    obtain ⟨x, r, e1, h1, h2⟩ := h
    exact ⟨x, r, e1, Rp.mono e d x h1, RpV.mono e ds r h2⟩
end
/-! flat data: no list, no dict within -/
mutual
def flat : PyData → Bool
  | .none => true
  | .bool _ => true
  | .int _ => true
  | .str _ => true
  | .list _ => false
  | .tuple ds => flatA ds
  | .dict _ => false
def flatA : List PyData → Bool
  | [] => true
  | d :: ds => flat d && flatA ds
end
/-- F holds all of H but lists and dicts -/
def TupF (F H : Hp) : Prop := ∀ a o, H a = some o → (∀ xs, o ≠ .lst xs) → (∀ xs, o ≠ .dK xs) → (∀ xs, o ≠ .dT xs) → F a = some o
theorem TupF.seqT {K : PySem.W.Frag} {F H : Hp} {a : Addr} {xs : List V} (t : TupF F H) (h : SqT K H a xs) : SqT K F a xs := by
  rcases h with (h | ⟨o, h⟩) | h
  · exact .inl (.inl (t _ _ h (fun _ z => nomatch z) (fun _ z => nomatch z) (fun _ z => nomatch z)))
  · exact .inl (.inr ⟨o, t _ _ h (fun _ z => nomatch z) (fun _ z => nomatch z) (fun _ z => nomatch z)⟩)
  · exact .inr h
mutual
theorem Rp.flat {K : PySem.W.Frag} {F H : Hp} (t : TupF F H) : ∀ (d : PyData) (v : V), PL.flat d = true → Rp K H d v → Rp K F d v
  | .none, _, _, h => by unfold Rp at h ⊢; exact h
  | .bool _, _, _, h => by unfold Rp at h ⊢; exact h
  | .int _, _, _, h => by unfold Rp at h ⊢; exact h
  | .str _, _, _, h => by unfold Rp at h ⊢; exact h
  | .list _, _, f, _ => by simp [PL.flat] at f
  | .tuple ds, v, f, h => by
    unfold Rp at h ⊢
    obtain ⟨a, xs, e1, h1, h2⟩ := h
    exact ⟨a, xs, e1, t.seqT h1, RpA.flat t ds xs (by simpa [PL.flat] using f) h2⟩
  | .dict _, _, f, _ => by simp [PL.flat] at f
theorem RpA.flat {K : PySem.W.Frag} {F H : Hp} (t : TupF F H) : ∀ (ds : List PyData) (xs : List V), flatA ds = true → RpA K H ds xs → RpA K F ds xs
  | [], _, _, h => by unfold RpA at h ⊢; exact h
  | d :: ds, _, f, h => by
    unfold RpA at h ⊢
    simp only [flatA, Bool.and_eq_true] at f
    obtain ⟨x, r, e1, h1, h2⟩ := h
    exact ⟨x, r, e1, Rp.flat t d x f.1 h1, RpA.flat t ds r f.2 h2⟩
end

section
variable {K : PySem.W.Frag} {H H' F F' : Hp}
theorem RpA.nil : RpA K H [] [] := by unfold RpA; rfl
theorem RpA.cons {d : PyData} {ds : List PyData} {x : V} {xs : List V} (h : Rp K H d x) (t : RpA K H ds xs) : RpA K H (d :: ds) (x :: xs) := by unfold RpA; exact ⟨x, xs, rfl, h, t⟩
theorem RpA.cons_iff {d : PyData} {ds : List PyData} {x : V} {xs : List V} : RpA K H (d :: ds) (x :: xs) ↔ Rp K H d x ∧ RpA K H ds xs := by
  constructor
  · intro h
    unfold RpA at h
    obtain ⟨y, r, e, h1, h2⟩ := h
    injection e with e1 e2
    subst e1; subst e2
    exact ⟨h1, h2⟩
  · exact fun ⟨a, b⟩ => RpA.cons a b
theorem RpA.length : ∀ {ds : List PyData} {xs : List V}, RpA K H ds xs → ds.length = xs.length
  | [], xs, h => by unfold RpA at h; subst h; rfl
  | d :: ds, xs, h => by
    unfold RpA at h
    obtain ⟨x, r, e, _, h2⟩ := h
    subst e
    simp [RpA.length h2]
theorem RpA.get : ∀ {ds : List PyData} {xs : List V} {i : Nat} {d : PyData}, RpA K H ds xs → ds[i]? = some d → ∃ x, xs[i]? = some x ∧ Rp K H d x
  | [], xs, i, d, h, e => by simp at e
  | d :: ds, xs, i, d', h, e => by
    unfold RpA at h
    obtain ⟨x, r, e1, h1, h2⟩ := h
    subst e1
    cases i with
    | zero => simp at e; subst e; exact ⟨x, rfl, h1⟩
    | succ i => simpa using RpA.get h2 (by simpa using e)
theorem RpA.get' : ∀ {ds : List PyData} {xs : List V} {i : Nat} {x : V}, RpA K H ds xs → xs[i]? = some x → ∃ d, ds[i]? = some d ∧ Rp K H d x
  | [], xs, i, x, h, e => by unfold RpA at h; subst h; simp at e
  | d :: ds, xs, i, x, h, e => by
    unfold RpA at h
    obtain ⟨y, r, e1, h1, h2⟩ := h
    subst e1
    cases i with
    | zero => simp at e; subst e; exact ⟨d, rfl, h1⟩
    | succ i => simpa using RpA.get' h2 (by simpa using e)
theorem RpA.append : ∀ {ds es : List PyData} {xs ys : List V}, RpA K H ds xs → RpA K H es ys → RpA K H (ds ++ es) (xs ++ ys)
  | [], es, xs, ys, h, h' => by unfold RpA at h; subst h; exact h'
  | d :: ds, es, xs, ys, h, h' => by
    unfold RpA at h
    obtain ⟨x, r, e1, h1, h2⟩ := h
    subst e1
    exact RpA.cons h1 (RpA.append h2 h')
theorem RpA.take : ∀ (n : Nat) {ds : List PyData} {xs : List V}, RpA K H ds xs → RpA K H (ds.take n) (xs.take n)
  | 0, _, _, _ => by simp; exact RpA.nil
  | n + 1, [], xs, h => by unfold RpA at h; subst h; exact RpA.nil
  | n + 1, d :: ds, xs, h => by
    unfold RpA at h
    obtain ⟨x, r, e1, h1, h2⟩ := h
    subst e1
    exact RpA.cons h1 (RpA.take n h2)
theorem RpA.drop : ∀ (n : Nat) {ds : List PyData} {xs : List V}, RpA K H ds xs → RpA K H (ds.drop n) (xs.drop n)
  | 0, _, _, h => by simpa using h
  | n + 1, [], xs, h => by unfold RpA at h; subst h; exact RpA.nil
  | n + 1, d :: ds, xs, h => by
    unfold RpA at h
    obtain ⟨x, r, e1, h1, h2⟩ := h
    subst e1
    exact RpA.drop n h2
theorem RpA.reverse : ∀ {ds : List PyData} {xs : List V}, RpA K H ds xs → RpA K H ds.reverse xs.reverse
  | [], xs, h => by unfold RpA at h; subst h; exact RpA.nil
  | d :: ds, xs, h => by
    unfold RpA at h
    obtain ⟨x, r, e1, h1, h2⟩ := h
    subst e1
    simp only [List.reverse_cons]
    exact RpA.append (RpA.reverse h2) (RpA.cons h1 RpA.nil)
theorem RpA.set : ∀ {ds : List PyData} {xs : List V} {d : PyData} {x : V} (i : Nat), RpA K H ds xs → Rp K H d x → RpA K H (ds.set i d) (xs.set i x)
  | [], xs, d, x, i, h, _ => by unfold RpA at h; subst h; exact RpA.nil
  | d :: ds, xs, d', x', i, h, q => by
    unfold RpA at h
    obtain ⟨x, r, e1, h1, h2⟩ := h
    subst e1
    cases i with
    | zero => exact RpA.cons q h2
    | succ i => exact RpA.cons h1 (RpA.set i h2 q)
theorem Rp.int_iff {i : Int} {v : V} : Rp K H (.int i) v ↔ v = .int i := by unfold Rp; exact Iff.rfl
theorem Rp.bool_iff {i : Bool} {v : V} : Rp K H (.bool i) v ↔ v = .bl i := by unfold Rp; exact Iff.rfl
theorem Rp.str_iff {i : Str} {v : V} : Rp K H (.str i) v ↔ v = .str i := by unfold Rp; exact Iff.rfl
theorem Rp.none_iff {v : V} : Rp K H .none v ↔ v = .non := by unfold Rp; exact Iff.rfl
theorem Rp.list_iff {ds : List PyData} {v : V} : Rp K H (.list ds) v ↔ ∃ a xs, v = .ref a ∧ SqL K H a xs ∧ RpA K H ds xs := by
  constructor
  · intro h; unfold Rp at h; exact h
  · intro h; unfold Rp; exact h
theorem Rp.tuple_iff {ds : List PyData} {v : V} : Rp K H (.tuple ds) v ↔ ∃ a xs, v = .ref a ∧ SqT K H a xs ∧ RpA K H ds xs := by
  constructor
  · intro h; unfold Rp at h; exact h
  · intro h; unfold Rp; exact h
theorem Rp.dict_iff {kvs : List (PyData × PyData)} {v : V} : Rp K H (.dict kvs) v ↔ ∃ a, v = .ref a ∧ ((∃ xs : List (Key × V), H a = some (.dK xs) ∧ kvs.map (·.1) = xs.map (fun p => keyD p.1) ∧ RpV K H kvs (xs.map (·.2))) ∨
      ∃ xs : List (List Key × V), xs ≠ [] ∧ H a = some (.dT xs) ∧ kvs.map (·.1) = xs.map (fun p => tkeyD p.1) ∧ RpV K H kvs (xs.map (·.2))) := by
  constructor
  · intro h; unfold Rp at h; exact h
  · intro h; unfold Rp; exact h
theorem RpA.ints : ∀ {ns : List Int} {xs : List V}, RpA K H (ns.map .int) xs → xs = ns.map V.int
  | [], xs, h => by unfold List.map RpA at h; exact h
  | n :: ns, xs, h => by
    rw [List.map_cons] at h
    unfold RpA at h
    obtain ⟨x, r, e1, h1, h2⟩ := h
    rw [Rp.int_iff] at h1
    rw [e1, h1, RpA.ints h2]
    rfl
theorem RpA.of_ints : ∀ (ns : List Int), RpA K H (ns.map .int) (ns.map V.int)
  | [] => RpA.nil
  | n :: ns => RpA.cons (Rp.int_iff.mpr rfl) (RpA.of_ints ns)
theorem RpA.bools : ∀ {ns : List Bool} {xs : List V}, RpA K H (ns.map .bool) xs → xs = ns.map V.bl
  | [], xs, h => by unfold List.map RpA at h; exact h
  | n :: ns, xs, h => by
    rw [List.map_cons] at h
    unfold RpA at h
    obtain ⟨x, r, e1, h1, h2⟩ := h
    rw [Rp.bool_iff] at h1
    rw [e1, h1, RpA.bools h2]
    rfl
/-- data that read alike at one value are alike: not needed; the value of a scalar -/
theorem RpV.length : ∀ {ds : List (PyData × PyData)} {xs : List V}, RpV K H ds xs → ds.length = xs.length
  | [], xs, h => by unfold RpV at h; subst h; rfl
  | (_, d) :: ds, xs, h => by
    unfold RpV at h
    obtain ⟨x, r, e, _, h2⟩ := h
    subst e
    simp [RpV.length h2]
end

/-! ### ownership -/
inductive Ty where
  | any | shr | imm
  | own (t : Ty)
  | dct (t : Ty)
  | bor (t : Ty)
  | bdc (t : Ty)
inductive OwnA (P : PyData → V → List Addr → Prop) : List PyData → List V → List Addr → Prop where
  | nil : OwnA P [] [] []
  | cons {d : PyData} {v : V} {f : List Addr} {ds : List PyData} {vs : List V} {fs : List Addr} : P d v f → OwnA P ds vs fs → OwnA P (d :: ds) (v :: vs) (f ++ fs)
/-- d at v, typed: any: as H has it; shr: within the part that stays; imm: no list within; own: a list that nobody else knows; dct: such a dict -/
def RpT (K : PySem.W.Frag) (F H : Hp) : Ty → PyData → V → List Addr → Prop
  | .any, d, v, fp => fp = [] ∧ Rp K H d v
  | .shr, d, v, fp => fp = [] ∧ Rp K F d v
  | .imm, d, v, fp => fp = [] ∧ Rp K H d v ∧ flat d = true
  | .own t, d, v, fp => ∃ ds p vs fs, d = .list ds ∧ v = .ref p ∧ H p = some (.lst vs) ∧ F p = none ∧ OwnA (RpT K F H t) ds vs fs ∧ fp = p :: fs
  | .dct t, d, v, fp => ∃ kvs p xs fs, d = .dict kvs ∧ v = .ref p ∧ (H p = some (.dK xs) ∧ kvs.map (·.1) = xs.map (fun q => keyD q.1)) ∧ F p = none ∧ OwnA (RpT K F H t) (kvs.map (·.2)) (xs.map (·.2)) fs ∧ fp = p :: fs
  | .bor t, d, v, fp => fp = [] ∧ ∃ ds p vs fs, d = .list ds ∧ v = .ref p ∧ H p = some (.lst vs) ∧ F p = none ∧ OwnA (RpT K F H t) ds vs fs
  | .bdc t, d, v, fp => fp = [] ∧ ∃ kvs p xs fs, d = .dict kvs ∧ v = .ref p ∧ (H p = some (.dK xs) ∧ kvs.map (·.1) = xs.map (fun q => keyD q.1)) ∧ F p = none ∧ OwnA (RpT K F H t) (kvs.map (·.2)) (xs.map (·.2)) fs
structure Grow (F H F' H' : Hp) : Prop where
  ff : Same F F'
  fh : Same F' H'
  hh : Same H H'
  tup : TupF F' H'
  old : ∀ a o, H a = some o → F' a = F a
theorem Grow.refl {F H : Hp} (h : Same F H) (t : TupF F H) : Grow F H F H := ⟨Same.refl F, h, Same.refl H, t, fun _ _ _ => rfl⟩
theorem Grow.trans {F H F1 H1 F2 H2 : Hp} (a : Grow F H F1 H1) (b : Grow F1 H1 F2 H2) : Grow F H F2 H2 :=
  ⟨a.ff.trans b.ff, b.fh, a.hh.trans b.hh, b.tup, fun p o e => (b.old p o (a.hh _ _ e)).trans (a.old p o e)⟩
theorem OwnA.mono {P P' : PyData → V → List Addr → Prop} (h : ∀ d v f, P d v f → P' d v f) : ∀ {ds : List PyData} {vs : List V} {fs : List Addr}, OwnA P ds vs fs → OwnA P' ds vs fs
  | _, _, _, .nil => .nil
  | _, _, _, .cons a b => .cons (h _ _ _ a) (OwnA.mono h b)
section
variable {K : PySem.W.Frag} {H H' F F' : Hp}
theorem RpT.grow (g : Grow F H F' H') : ∀ (t : Ty) (d : PyData) (v : V) (fp : List Addr), RpT K F H t d v fp → RpT K F' H' t d v fp
  | .any, d, v, _, ⟨e, h⟩ => ⟨e, Rp.mono g.hh d v h⟩
  | .shr, d, v, _, ⟨e, h⟩ => ⟨e, Rp.mono g.ff d v h⟩
  | .imm, d, v, _, ⟨e, h, f⟩ => ⟨e, Rp.mono g.hh d v h, f⟩
  | .own t, _, _, _, ⟨ds, p, vs, fs, e1, e2, h1, h2, h3, e3⟩ => ⟨ds, p, vs, fs, e1, e2, g.hh _ _ h1, (g.old _ _ h1).trans h2, h3.mono fun d v f q => RpT.grow g t d v f q, e3⟩
  | .dct t, _, _, _, ⟨ds, p, vs, fs, e1, e2, ⟨h1, h1'⟩, h2, h3, e3⟩ => ⟨ds, p, vs, fs, e1, e2, ⟨g.hh _ _ h1, h1'⟩, (g.old _ _ h1).trans h2, h3.mono fun d v f q => RpT.grow g t d v f q, e3⟩
  | .bor t, _, _, _, ⟨e3, ds, p, vs, fs, e1, e2, h1, h2, h3⟩ => ⟨e3, ds, p, vs, fs, e1, e2, g.hh _ _ h1, (g.old _ _ h1).trans h2, h3.mono fun d v f q => RpT.grow g t d v f q⟩
  | .bdc t, _, _, _, ⟨e3, ds, p, vs, fs, e1, e2, ⟨h1, h1'⟩, h2, h3⟩ => ⟨e3, ds, p, vs, fs, e1, e2, ⟨g.hh _ _ h1, h1'⟩, (g.old _ _ h1).trans h2, h3.mono fun d v f q => RpT.grow g t d v f q⟩
theorem OwnA.all {P : PyData → V → List Addr → Prop} {Hq : Hp} (h : ∀ d v f, P d v f → Rp K Hq d v) : ∀ {ds : List PyData} {vs : List V} {fs : List Addr}, OwnA P ds vs fs → RpA K Hq ds vs
  | _, _, _, .nil => RpA.nil
  | _, _, _, .cons a b => RpA.cons (h _ _ _ a) (OwnA.all h b)
theorem rpV_of : ∀ {kvs : List (PyData × PyData)} {vs : List V}, RpA K H (kvs.map (·.2)) vs → RpV K H kvs vs
  | [], vs, h => by unfold List.map RpA at h; unfold RpV; exact h
  | (k, d) :: r, vs, h => by
    rw [List.map_cons] at h
    unfold RpA at h
    obtain ⟨x, q, e, h1, h2⟩ := h
    unfold RpV
    exact ⟨x, q, e, h1, rpV_of h2⟩
theorem rpA_of : ∀ {kvs : List (PyData × PyData)} {vs : List V}, RpV K H kvs vs → RpA K H (kvs.map (·.2)) vs
  | [], vs, h => by unfold RpV at h; unfold List.map RpA; exact h
  | (k, d) :: r, vs, h => by
    unfold RpV at h
    obtain ⟨x, q, e, h1, h2⟩ := h
    rw [List.map_cons]
    unfold RpA
    exact ⟨x, q, e, h1, rpA_of h2⟩
/-- whatever its type, it stands in H -/
theorem RpT.rp (s : Same F H) : ∀ (t : Ty) (d : PyData) (v : V) (fp : List Addr), RpT K F H t d v fp → Rp K H d v
  | .any, d, v, _, ⟨e, h⟩ => h
  | .shr, d, v, _, ⟨e, h⟩ => Rp.mono s d v h
  | .imm, d, v, _, ⟨e, h, f⟩ => h
  | .own t, _, _, _, ⟨ds, p, vs, fs, e1, e2, h1, h2, h3, e3⟩ => by
    subst e1
    exact Rp.list_iff.mpr ⟨p, vs, e2, .inl (.inl h1), h3.all fun d v f q => RpT.rp s t d v f q⟩
  | .dct t, _, _, _, ⟨ds, p, vs, fs, e1, e2, ⟨h1, h1'⟩, h2, h3, e3⟩ => by
    subst e1
    exact Rp.dict_iff.mpr ⟨p, e2, .inl ⟨vs, h1, h1', rpV_of (h3.all fun d v f q => RpT.rp s t d v f q)⟩⟩
  | .bor t, _, _, _, ⟨e3, ds, p, vs, fs, e1, e2, h1, h2, h3⟩ => by
    subst e1
    exact Rp.list_iff.mpr ⟨p, vs, e2, .inl (.inl h1), h3.all fun d v f q => RpT.rp s t d v f q⟩
  | .bdc t, _, _, _, ⟨e3, ds, p, vs, fs, e1, e2, ⟨h1, h1'⟩, h2, h3⟩ => by
    subst e1
    exact Rp.dict_iff.mpr ⟨p, e2, .inl ⟨vs, h1, h1', rpV_of (h3.all fun d v f q => RpT.rp s t d v f q)⟩⟩
/-- its own addresses are lists' and dicts', not F's -/
theorem RpT.fps : ∀ (t : Ty) (d : PyData) (v : V) (fp : List Addr), RpT K F H t d v fp → ∀ a ∈ fp, F a = none ∧ ∃ o, H a = some o
  | .any, d, v, _, ⟨e, h⟩, a, ha => by subst e; exact absurd ha (by simp)
  | .shr, d, v, _, ⟨e, h⟩, a, ha => by subst e; exact absurd ha (by simp)
  | .imm, d, v, _, ⟨e, h⟩, a, ha => by subst e; exact absurd ha (by simp)
  | .bor t, d, v, _, ⟨e, h⟩, a, ha => by subst e; exact absurd ha (by simp)
  | .bdc t, d, v, _, ⟨e, h⟩, a, ha => by subst e; exact absurd ha (by simp)
  | .own t, _, _, _, ⟨ds, p, vs, fs, e1, e2, h1, h2, h3, e3⟩, a, ha => by
    subst e3
    rcases List.mem_cons.mp ha with rfl | ha
    · exact ⟨h2, _, h1⟩
    · have : ∀ {ds : List PyData} {vs : List V} {fs : List Addr}, OwnA (RpT K F H t) ds vs fs → a ∈ fs → F a = none ∧ ∃ o, H a = some o := by
        intro ds vs fs h
        induction h with
        | nil => intro z; exact absurd z (by simp)
        | cons q _ ih => intro z; rcases List.mem_append.mp z with z | z; exact RpT.fps t _ _ _ q a z; exact ih z
      exact this h3 ha
  | .dct t, _, _, _, ⟨ds, p, vs, fs, e1, e2, ⟨h1, h1'⟩, h2, h3, e3⟩, a, ha => by
    subst e3
    rcases List.mem_cons.mp ha with rfl | ha
    · exact ⟨h2, _, h1⟩
    · have : ∀ {ds : List PyData} {vs : List V} {fs : List Addr}, OwnA (RpT K F H t) ds vs fs → a ∈ fs → F a = none ∧ ∃ o, H a = some o := by
        intro ds vs fs h
        induction h with
        | nil => intro z; exact absurd z (by simp)
        | cons q _ ih => intro z; rcases List.mem_append.mp z with z | z; exact RpT.fps t _ _ _ q a z; exact ih z
      exact this h3 ha
/-- F with what stands at fp -/
def frzF (F H : Hp) (fp : List Addr) : Hp := fun a => if a ∈ fp then H a else F a
theorem frzF_same {fp : List Addr} (s : Same F H) : Same F (frzF F H fp) := fun a o e => by
  unfold frzF
  split
  · exact s _ _ e
  · exact e
theorem frzF_sub {fp : List Addr} (s : Same F H) : Same (frzF F H fp) H := fun a o e => by
  unfold frzF at e
  split at e
  · exact e
  · exact s _ _ e
theorem frzF_mem {fp : List Addr} {a : Addr} (h : a ∈ fp) : frzF F H fp a = H a := by unfold frzF; rw [if_pos h]
theorem frzF_not {fp : List Addr} {a : Addr} (h : a ∉ fp) : frzF F H fp a = F a := by unfold frzF; rw [if_neg h]
theorem frzF_mono {fp fq : List Addr} (s : Same F H) (h : ∀ a ∈ fp, a ∈ fq) : Same (frzF F H fp) (frzF F H fq) := fun a o e => by
  by_cases hp : a ∈ fp
  · rw [frzF_mem hp] at e; rw [frzF_mem (h a hp)]; exact e
  · rw [frzF_not hp] at e
    by_cases hq : a ∈ fq
    · rw [frzF_mem hq]; exact s _ _ e
    · rw [frzF_not hq]; exact e
theorem frzF_tup {fp : List Addr} (s : Same F H) (t : TupF F H) : TupF (frzF F H fp) H := fun a o e h1 h2 h3 => frzF_same s _ _ (t a o e h1 h2 h3)
/-- no any within -/
def Ty.firm : Ty → Bool
  | .any => false
  | .shr => true
  | .imm => true
  | .own t => t.firm
  | .dct t => t.firm
  | .bor _ => false
  | .bdc _ => false
/-- how a name is read -/
def Ty.read : Ty → Ty
  | .own t => .bor t
  | .dct t => .bdc t
  | t => t
/-- the type of what is within -/
def Ty.item : Ty → Ty
  | .any => .any
  | .shr => .shr
  | .imm => .imm
  | .own t => t.read
  | .dct t => t.read
  | .bor t => t.read
  | .bdc t => t.read
/-- what is owned may be given to all -/
theorem RpT.freeze (s : Same F H) (tu : TupF F H) : ∀ (t : Ty) (d : PyData) (v : V) (fp : List Addr), t.firm = true → RpT K F H t d v fp → Rp K (frzF F H fp) d v
  | .any, d, v, _, f, _ => by simp [Ty.firm] at f
  | .bor _, d, v, _, f, _ => by simp [Ty.firm] at f
  | .bdc _, d, v, _, f, _ => by simp [Ty.firm] at f
  | .shr, d, v, _, _, ⟨e, h⟩ => Rp.mono (frzF_same s) d v h
  | .imm, d, v, _, _, ⟨e, h, f⟩ => Rp.mono (frzF_same s) d v (Rp.flat tu d v f h)
  | .own t, _, _, _, f, ⟨ds, p, vs, fs, e1, e2, h1, h2, h3, e3⟩ => by
    subst e1; subst e3
    have key : ∀ {ds : List PyData} {vs : List V} {fs : List Addr}, OwnA (RpT K F H t) ds vs fs → RpA K (frzF F H fs) ds vs := by
      intro ds vs fs h
      induction h with
      | nil => exact RpA.nil
      | cons q _ ih => exact RpA.cons (Rp.mono (frzF_mono s fun a ha => List.mem_append_left _ ha) _ _ (RpT.freeze s tu t _ _ _ (by simpa [Ty.firm] using f) q)) (RpA.mono (frzF_mono s fun a ha => List.mem_append_right _ ha) _ _ ih)
    exact Rp.list_iff.mpr ⟨p, vs, e2, .inl (.inl (by rw [frzF_mem List.mem_cons_self]; exact h1)), RpA.mono (frzF_mono s fun a ha => List.mem_cons_of_mem _ ha) _ _ (key h3)⟩
  | .dct t, _, _, _, f, ⟨ds, p, vs, fs, e1, e2, ⟨h1, h1'⟩, h2, h3, e3⟩ => by
    subst e1; subst e3
    have key : ∀ {ds : List PyData} {vs : List V} {fs : List Addr}, OwnA (RpT K F H t) ds vs fs → RpA K (frzF F H fs) ds vs := by
      intro ds vs fs h
      induction h with
      | nil => exact RpA.nil
      | cons q _ ih => exact RpA.cons (Rp.mono (frzF_mono s fun a ha => List.mem_append_left _ ha) _ _ (RpT.freeze s tu t _ _ _ (by simpa [Ty.firm] using f) q)) (RpA.mono (frzF_mono s fun a ha => List.mem_append_right _ ha) _ _ ih)
    exact Rp.dict_iff.mpr ⟨p, e2, .inl ⟨vs, by rw [frzF_mem List.mem_cons_self]; exact h1, h1', rpV_of (RpA.mono (frzF_mono s fun a ha => List.mem_cons_of_mem _ ha) _ _ (key h3))⟩⟩
theorem RpT.read : ∀ {t : Ty} {d : PyData} {v : V} {fp : List Addr}, RpT K F H t d v fp → RpT K F H t.read d v []
  | .any, d, v, _, ⟨_, h⟩ => ⟨rfl, h⟩
  | .shr, d, v, _, ⟨_, h⟩ => ⟨rfl, h⟩
  | .imm, d, v, _, ⟨_, h⟩ => ⟨rfl, h⟩
  | .bor t, d, v, _, ⟨_, h⟩ => ⟨rfl, h⟩
  | .bdc t, d, v, _, ⟨_, h⟩ => ⟨rfl, h⟩
  | .own t, _, _, _, ⟨ds, p, vs, fs, e1, e2, h1, h2, h3, _⟩ => ⟨rfl, ds, p, vs, fs, e1, e2, h1, h2, h3⟩
  | .dct t, _, _, _, ⟨ds, p, vs, fs, e1, e2, h1, h2, h3, _⟩ => ⟨rfl, ds, p, vs, fs, e1, e2, h1, h2, h3⟩
theorem Ty.read_read (t : Ty) : t.read.read = t.read := by cases t <;> rfl
theorem OwnA.get {P : PyData → V → List Addr → Prop} : ∀ {ds : List PyData} {vs : List V} {fs : List Addr} {i : Nat} {d : PyData}, OwnA P ds vs fs → ds[i]? = some d → ∃ x f, vs[i]? = some x ∧ P d x f
  | _, _, _, i, d, .nil, e => by simp at e
  | _, _, _, 0, d, .cons a b, e => by simp at e; subst e; exact ⟨_, _, rfl, a⟩
  | _, _, _, i + 1, d, .cons a b, e => by simpa using OwnA.get b (i := i) (by simpa using e)
theorem OwnA.length {P : PyData → V → List Addr → Prop} : ∀ {ds : List PyData} {vs : List V} {fs : List Addr}, OwnA P ds vs fs → ds.length = vs.length
  | _, _, _, .nil => rfl
  | _, _, _, .cons a b => by simp [OwnA.length b]
/-- a list's places and items, whatever its type -/
theorem RpT.lst (s : Same F H) {t : Ty} {ds : List PyData} {v : V} {fp : List Addr} (h : RpT K F H t (.list ds) v fp) :
    ∃ p vs, v = .ref p ∧ SqL K H p vs ∧ ds.length = vs.length ∧ ∀ (i : Nat) d, ds[i]? = some d → ∃ x, vs[i]? = some x ∧ RpT K F H t.item d x [] := by
  cases t with
  | any =>
    obtain ⟨_, h⟩ := h
    obtain ⟨p, vs, e, h1, h2⟩ := Rp.list_iff.mp h
    exact ⟨p, vs, e, h1, h2.length, fun i d q => let ⟨x, a, b⟩ := h2.get q; ⟨x, a, rfl, b⟩⟩
  | shr =>
    obtain ⟨_, h⟩ := h
    obtain ⟨p, vs, e, h1, h2⟩ := Rp.list_iff.mp h
    exact ⟨p, vs, e, s.seq h1, h2.length, fun i d q => let ⟨x, a, b⟩ := h2.get q; ⟨x, a, rfl, b⟩⟩
  | imm => obtain ⟨_, _, f⟩ := h; simp [flat] at f
  | own t =>
    obtain ⟨ds', p, vs, fs, e1, e2, h1, h2, h3, e3⟩ := h
    cases e1
    exact ⟨p, vs, e2, .inl (.inl h1), h3.length, fun i d q => let ⟨x, f, a, b⟩ := h3.get q; ⟨x, a, b.read⟩⟩
  | dct t => obtain ⟨ds', p, vs, fs, e1, _⟩ := h; cases e1
  | bor t =>
    obtain ⟨_, ds', p, vs, fs, e1, e2, h1, h2, h3⟩ := h
    cases e1
    exact ⟨p, vs, e2, .inl (.inl h1), h3.length, fun i d q => let ⟨x, f, a, b⟩ := h3.get q; ⟨x, a, b.read⟩⟩
  | bdc t => obtain ⟨_, ds', p, vs, fs, e1, _⟩ := h; cases e1
theorem flatA_get : ∀ {ds : List PyData} {i : Nat} {d : PyData}, flatA ds = true → ds[i]? = some d → flat d = true
  | [], i, d, _, e => by simp at e
  | x :: ds, 0, d, f, e => by simp at e; subst e; simp [flatA] at f; exact f.1
  | x :: ds, i + 1, d, f, e => by simp [flatA] at f; exact flatA_get (i := i) f.2 (by simpa using e)
/-- a tuple's -/
theorem RpT.tup (s : Same F H) {t : Ty} {ds : List PyData} {v : V} {fp : List Addr} (h : RpT K F H t (.tuple ds) v fp) :
    ∃ p vs, v = .ref p ∧ SqT K H p vs ∧ ds.length = vs.length ∧ ∀ (i : Nat) d, ds[i]? = some d → ∃ x, vs[i]? = some x ∧ RpT K F H t.item d x [] := by
  cases t with
  | any =>
    obtain ⟨_, h⟩ := h
    obtain ⟨p, vs, e, h1, h2⟩ := Rp.tuple_iff.mp h
    exact ⟨p, vs, e, h1, h2.length, fun i d q => let ⟨x, a, b⟩ := h2.get q; ⟨x, a, rfl, b⟩⟩
  | shr =>
    obtain ⟨_, h⟩ := h
    obtain ⟨p, vs, e, h1, h2⟩ := Rp.tuple_iff.mp h
    exact ⟨p, vs, e, sameT s h1, h2.length, fun i d q => let ⟨x, a, b⟩ := h2.get q; ⟨x, a, rfl, b⟩⟩
  | imm =>
    obtain ⟨_, h, f⟩ := h
    obtain ⟨p, vs, e, h1, h2⟩ := Rp.tuple_iff.mp h
    exact ⟨p, vs, e, h1, h2.length, fun i d q => let ⟨x, a, b⟩ := h2.get q; ⟨x, a, rfl, b, flatA_get (by simpa [flat] using f) q⟩⟩
  | own t => obtain ⟨ds', p, vs, fs, e1, _⟩ := h; cases e1
  | dct t => obtain ⟨ds', p, vs, fs, e1, _⟩ := h; cases e1
  | bor t => obtain ⟨_, ds', p, vs, fs, e1, _⟩ := h; cases e1
  | bdc t => obtain ⟨_, ds', p, vs, fs, e1, _⟩ := h; cases e1
/-- a fresh result given to all: a growth still -/
theorem Grow.frozen {fp : List Addr} (g : Grow F H F' H') (n : ∀ a ∈ fp, H a = none) : Grow F H (frzF F' H' fp) H' where
  ff := g.ff.trans (frzF_same g.fh)
  fh := frzF_sub g.fh
  hh := g.hh
  tup := frzF_tup g.fh g.tup
  old := fun a o e => by
    rw [frzF_not fun z => by have := n a z; rw [e] at this; cases this]
    exact g.old a o e
end

abbrev St := L2.St
abbrev Ctx := List (Option (PyData × Ty))
def Slots (K : PySem.W.Frag) (F H : Hp) (Γ : Ctx) (σ : St) (fps : Nat → List Addr) : Prop :=
  Γ.length ≤ σ.length ∧ ∀ (i : Nat) d t, Γ[i]? = some (some (d, t)) → ∃ v, σ[i]? = some (some v) ∧ RpT K F H t d v (fps i)
structure Pre (K : PySem.W.Frag) (F H : Hp) (Γ : Ctx) (σ : St) : Prop where
  fh : Same F H
  tup : TupF F H
  sl : ∃ fps, Slots K F H Γ σ fps
theorem Slots.grow {K : PySem.W.Frag} {F H F' H' : Hp} {Γ : Ctx} {σ : St} {fps : Nat → List Addr} (g : Grow F H F' H') (s : Slots K F H Γ σ fps) : Slots K F' H' Γ σ fps :=
  ⟨s.1, fun i d t e => let ⟨v, a, b⟩ := s.2 i d t e; ⟨v, a, b.grow g⟩⟩
theorem Pre.grow {K : PySem.W.Frag} {F H F' H' : Hp} {Γ : Ctx} {σ : St} (p : Pre K F H Γ σ) (g : Grow F H F' H') : Pre K F' H' Γ σ :=
  ⟨g.fh, g.tup, let ⟨fps, s⟩ := p.sl; ⟨fps, s.grow g⟩⟩
def wishOf (cls : Nat → Value) (E : XK) (H : Hp) (c : Nat) (n : Int) : Prop := ∀ dx H', Same H H' → H' dx = some (.xd [("at", .int n)]) → E (cls c) (some dx) H'
theorem wishOf.mono {cls : Nat → Value} {E : XK} {H H' : Hp} (s : Same H H') {c : Nat} {n : Int} (w : wishOf cls E H c n) : wishOf cls E H' c n := fun dx H2 h e => w dx H2 (s.trans h) e
structure PX where
  X : Cx
  cls : Nat → Value
  E : XK
def Post (Z : PX) (F H : Hp) (t : Ty) (Q : VK) (r : R PyData) : Prop :=
  r.wp (fun d => ∀ v F' H' fv, Grow F H F' H' → RpT Z.X.K F' H' t d v fv → fv.Nodup → (∀ a ∈ fv, H a = none) → Q v H') (wishOf Z.cls Z.E H)
def tEv (Z : PX) (Γ : Ctx) (r : R PyData) (t : Ty) : TE := fun σ H Q => ∃ F, Pre Z.X.K F H Γ σ ∧ Post Z F H t Q r
/-- e, in the context Γ, comes to r, typed t -/
abbrev EvP (Z : PX) (Γ : Ctx) (e : Expr) (r : R PyData) (t : Ty) : Prop := PE Z.X e (tEv Z Γ r t)
def PostB (Z : PX) (F H : Hp) (Q : Bool → Hp → Prop) (r : R Bool) : Prop :=
  r.wp (fun b => ∀ F' H', Grow F H F' H' → Q b H') (wishOf Z.cls Z.E H)
def tTs (Z : PX) (Γ : Ctx) (r : R Bool) : TT := fun σ H Q => ∃ F, Pre Z.X.K F H Γ σ ∧ PostB Z F H Q r
abbrev TsP (Z : PX) (Γ : Ctx) (e : Expr) (r : R Bool) : Prop := PT Z.X e (tTs Z Γ r)
abbrev TwP (Z : PX) (Γ : Ctx) (e : Expr) (r : R Bool) : Prop := PW Z.X e (tTs Z Γ r)
/-- how arguments are told: within what stays; as the heap has them; without lists -/
inductive Md where
  | fr | an | im
abbrev Md.ty : Md → Ty
  | .fr => .shr
  | .an => .any
  | .im => .imm
def MdP (K : PySem.W.Frag) (F H : Hp) : Md → List PyData → List V → Prop
  | .fr, ds, vs => RpA K F ds vs
  | .an, ds, vs => RpA K H ds vs
  | .im, ds, vs => RpA K H ds vs ∧ flatA ds = true
theorem MdP.grow {K : PySem.W.Frag} {F H F' H' : Hp} {m : Md} {ds : List PyData} {vs : List V} (g : Grow F H F' H') (h : MdP K F H m ds vs) : MdP K F' H' m ds vs := by
  cases m with
  | fr => exact RpA.mono g.ff _ _ h
  | an => exact RpA.mono g.hh _ _ h
  | im => exact ⟨RpA.mono g.hh _ _ h.1, h.2⟩
theorem MdP.rp {K : PySem.W.Frag} {F H : Hp} {m : Md} {ds : List PyData} {vs : List V} (s : Same F H) (h : MdP K F H m ds vs) : RpA K H ds vs := by
  cases m with
  | fr => exact RpA.mono s _ _ h
  | an => exact h
  | im => exact h.1
theorem MdP.nil {K : PySem.W.Frag} {F H : Hp} {m : Md} : MdP K F H m [] [] := by
  cases m with
  | fr => exact RpA.nil (K := K) (H := F)
  | an => exact RpA.nil (K := K) (H := H)
  | im => exact ⟨RpA.nil (K := K) (H := H), rfl⟩
theorem MdP.cons {K : PySem.W.Frag} {F H : Hp} {m : Md} {d : PyData} {ds : List PyData} {v : V} {vs : List V} {fp : List Addr} (h : RpT K F H m.ty d v fp) (t : MdP K F H m ds vs) : MdP K F H m (d :: ds) (v :: vs) := by
  cases m with
  | fr => exact RpA.cons h.2 t
  | an => exact RpA.cons h.2 t
  | im => exact ⟨RpA.cons h.2.1 t.1, by simp [flatA, h.2.2, t.2]⟩
def PostA (Z : PX) (F H : Hp) (m : Md) (Q : List V → Hp → Prop) (r : R (List PyData)) : Prop :=
  r.wp (fun ds => ∀ vs F' H', Grow F H F' H' → MdP Z.X.K F' H' m ds vs → Q vs H') (wishOf Z.cls Z.E H)
def tAr (Z : PX) (Γ : Ctx) (r : R (List PyData)) (m : Md) : TA := fun σ H Q => ∃ F, Pre Z.X.K F H Γ σ ∧ PostA Z F H m Q r
abbrev ArP (Z : PX) (Γ : Ctx) (es : List Expr) (r : R (List PyData)) (m : Md) : Prop := PA Z.X es (tAr Z Γ r m)

section
variable {Z : PX} {Γ : Ctx} {F H F' H' : Hp} {t ta tb : Ty} {Q Q' : VK} {r ra rb : R PyData} {e a b : Expr} {σ : St} {pos : Pos}
theorem PEimp {X : Cx} {te te' : TE} (h : PE X e te) (i : ∀ σ H Q, te' σ H Q → te σ H Q) : PE X e te' := ⟨fun pins s σ H Q I q => h.run pins s σ H Q I (i σ H Q q)⟩
theorem PTimp {X : Cx} {te te' : TT} (h : PT X e te) (i : ∀ σ H Q, te' σ H Q → te σ H Q) : PT X e te' := ⟨fun pins s σ H Q I q => h.run pins s σ H Q I (i σ H Q q)⟩
theorem PWimp {X : Cx} {te te' : TT} (h : PW X e te) (i : ∀ σ H Q, te' σ H Q → te σ H Q) : PW X e te' := ⟨fun wh pins s σ H Q I q => h.run wh pins s σ H Q I (i σ H Q q)⟩
theorem PAimp {X : Cx} {es : List Expr} {te te' : TA} (h : PA X es te) (i : ∀ σ H Q, te' σ H Q → te σ H Q) : PA X es te' := ⟨fun p pins s σ H Q I q => h.run p pins s σ H Q I (i σ H Q q)⟩
theorem PSsimp {X : Cx} {st : List Stmt} {te te' : TS} (h : PSs X st te) (i : ∀ D σ H, te' D σ H → te D σ H) : PSs X st te' := ⟨fun pins s σ H D I q => h.run pins s σ H D I (i D σ H q)⟩
theorem PSimp {X : Cx} {st : Stmt} {te te' : TS} (h : PS X st te) (i : ∀ D σ H, te' D σ H → te D σ H) : PS X st te' := ⟨fun pins s σ H D I q => h.run pins s σ H D I (i D σ H q)⟩
theorem fresh_of {fv : List Addr} (s : Same H H') (n : ∀ a ∈ fv, H' a = none) : ∀ a ∈ fv, H a = none := fun a ha => by
  cases q : H a with
  | none => rfl
  | some o => have := s _ _ q; rw [n a ha] at this; cases this
theorem Post.imp (p : Post Z F H t Q r) (i : ∀ v H', Q v H' → Q' v H') : Post Z F H t Q' r := R.wp_mono p (fun _ q v F' H' fv g h n f => i _ _ (q v F' H' fv g h n f)) fun _ _ w => w
theorem Post.grow (p : Post Z F H t Q r) (g : Grow F H F' H') : Post Z F' H' t Q r :=
  R.wp_mono p (fun _ q v F2 H2 fv g2 h n f => q v F2 H2 fv (g.trans g2) h n (fresh_of g.hh f)) fun _ _ w => w.mono g.hh
theorem PostB.grow {r : R Bool} {Q : Bool → Hp → Prop} (p : PostB Z F H Q r) (g : Grow F H F' H') : PostB Z F' H' Q r :=
  R.wp_mono p (fun _ q F2 H2 g2 => q F2 H2 (g.trans g2)) fun _ _ w => w.mono g.hh
theorem PostA.grow {r : R (List PyData)} {m : Md} {Q : List V → Hp → Prop} (p : PostA Z F H m Q r) (g : Grow F H F' H') : PostA Z F' H' m Q r :=
  R.wp_mono p (fun _ q vs F2 H2 g2 => q vs F2 H2 (g.trans g2)) fun _ _ w => w.mono g.hh
/-- first ra, typed ta, then what hangs on it -/
theorem Post.split {k : PyData → R PyData} (p : Post Z F H t Q (ra.bind k)) :
    Post Z F H ta (fun v H1 => ∃ d F1 fv, ra = .ok d ∧ Grow F H F1 H1 ∧ RpT Z.X.K F1 H1 ta d v fv ∧ fv.Nodup ∧ (∀ a ∈ fv, H a = none) ∧ Post Z F1 H1 t Q (k d)) ra := by
  cases ra with
  | ok d => exact fun v F1 H1 fv g h n f => ⟨d, F1, fv, rfl, g, h, n, f, Post.grow p g⟩
  | exc c n => exact p
  | stuck => exact p
theorem Post.splitB {rc : R Bool} {k : Bool → R PyData} (p : Post Z F H t Q (rc.bind k)) :
    PostB Z F H (fun c H1 => ∃ F1, rc = .ok c ∧ Grow F H F1 H1 ∧ Post Z F1 H1 t Q (k c)) rc := by
  cases rc with
  | ok d => exact fun F1 H1 g => ⟨F1, rfl, g, Post.grow p g⟩
  | exc c n => exact p
  | stuck => exact p
theorem PostB.split {k : PyData → R Bool} {Q : Bool → Hp → Prop} (p : PostB Z F H Q (ra.bind k)) :
    Post Z F H ta (fun v H1 => ∃ d F1 fv, ra = .ok d ∧ Grow F H F1 H1 ∧ RpT Z.X.K F1 H1 ta d v fv ∧ fv.Nodup ∧ (∀ a ∈ fv, H a = none) ∧ PostB Z F1 H1 Q (k d)) ra := by
  cases ra with
  | ok d => exact fun v F1 H1 fv g h n f => ⟨d, F1, fv, rfl, g, h, n, f, PostB.grow p g⟩
  | exc c n => exact p
  | stuck => exact p
theorem PostB.splitB {rc : R Bool} {k : Bool → R Bool} {Q : Bool → Hp → Prop} (p : PostB Z F H Q (rc.bind k)) :
    PostB Z F H (fun c H1 => ∃ F1, rc = .ok c ∧ Grow F H F1 H1 ∧ PostB Z F1 H1 Q (k c)) rc := by
  cases rc with
  | ok d => exact fun F1 H1 g => ⟨F1, rfl, g, PostB.grow p g⟩
  | exc c n => exact p
  | stuck => exact p
theorem PostA.split {k : PyData → R (List PyData)} {m : Md} {Q : List V → Hp → Prop} (p : PostA Z F H m Q (ra.bind k)) :
    Post Z F H ta (fun v H1 => ∃ d F1 fv, ra = .ok d ∧ Grow F H F1 H1 ∧ RpT Z.X.K F1 H1 ta d v fv ∧ fv.Nodup ∧ (∀ a ∈ fv, H a = none) ∧ PostA Z F1 H1 m Q (k d)) ra := by
  cases ra with
  | ok d => exact fun v F1 H1 fv g h n f => ⟨d, F1, fv, rfl, g, h, n, f, PostA.grow p g⟩
  | exc c n => exact p
  | stuck => exact p
theorem Post.splitA {rs : R (List PyData)} {k : List PyData → R PyData} {m : Md} (p : Post Z F H t Q (rs.bind k)) :
    PostA Z F H m (fun vs H1 => ∃ ds F1, rs = .ok ds ∧ Grow F H F1 H1 ∧ MdP Z.X.K F1 H1 m ds vs ∧ Post Z F1 H1 t Q (k ds)) rs := by
  cases rs with
  | ok d => exact fun v F1 H1 g h => ⟨d, F1, rfl, g, h, Post.grow p g⟩
  | exc c n => exact p
  | stuck => exact p
theorem Post.imm_ok {d : PyData} (p : Post Z F H .imm Q (.ok d)) (s : Same F H) (tu : TupF F H) {v : V} (h : Rp Z.X.K H d v) (f : flat d = true) : Q v H :=
  p v F H [] (Grow.refl s tu) ⟨rfl, h, f⟩ List.nodup_nil (fun _ z => absurd z (by simp))

/-! ### names, constants -/
theorem ev_var {i : Nat} {x : Str} {d : PyData} {t : Ty} (hi : Z.X.N[i]? = some x) (hv : Vis Z.X.env.scope x) (hd : (x == ("__debug__" : Str)) = false) (hcd : (x == ("__classdict__" : Str)) = false) (hΓ : Γ[i]? = some (some (d, t))) : EvP Z Γ (.Name x pos) (.ok d) t.read :=
  PEimp (pe_var hi hv hd hcd) fun σ H Q ⟨F, p, q⟩ => by
    obtain ⟨fps, s⟩ := p.sl
    obtain ⟨v, h1, h2⟩ := s.2 i d t hΓ
    exact ⟨v, h1, q v F H [] (Grow.refl p.fh p.tup) h2.read List.nodup_nil (fun _ z => absurd z (by simp))⟩
/-- the name in slot i -/
theorem nv (i : Nat) {x : Str} {d : PyData} {t : Ty} (hΓ : Γ[i]? = some (some (d, t)) := by rfl) (hN : Z.X.N[i]? = some x := by rfl) (hv : Vis Z.X.env.scope x := by first | exact Or.inl rfl | exact Or.inr (Or.inl rfl) | exact Or.inr (Or.inr rfl)) (hd : (x == ("__debug__" : Str)) = false := by decide)
    (hcd : (x == ("__classdict__" : Str)) = false := by decide) : EvP Z Γ (.Name x pos) (.ok d) t.read := ev_var hN hv hd hcd hΓ
theorem ev_const {v : V} {d : PyData} (h : PE Z.X e (tC v)) (hd : ∀ K H, Rp K H d v) (f : flat d = true) : EvP Z Γ e (.ok d) .imm :=
  PEimp h fun σ H Q ⟨F, p, q⟩ => q.imm_ok p.fh p.tup (hd _ _) f
theorem ev_int {i : Int} {j : Nat} : EvP Z Γ (.Constant (.int i) j pos) (.ok (.int i)) .imm := ev_const pe_int (fun _ _ => Rp.int_iff.mpr rfl) rfl
theorem ev_bool {i : Bool} {j : Nat} : EvP Z Γ (.Constant (.bool i) j pos) (.ok (.bool i)) .imm := ev_const pe_bl (fun _ _ => Rp.bool_iff.mpr rfl) rfl
theorem ev_none {j : Nat} : EvP Z Γ (.Constant .none j pos) (.ok .none) .imm := ev_const pe_non (fun _ _ => Rp.none_iff.mpr rfl) rfl
theorem ev_str {i : Str} {j : Nat} : EvP Z Γ (.Constant (.str i) j pos) (.ok (.str i)) .imm := ev_const pe_str (fun _ _ => Rp.str_iff.mpr rfl) rfl
/-- a module's constant -/
theorem ev_globI {x : Str} {i : Int} {u : Value} (hm : Z.X.mg x = some u) (r : ∃ tk, u = .int i tk) (hg : Gl Z.X x := by rfl) (hd : (x == ("__debug__" : Str)) = false := by decide) : EvP Z Γ (.Name x pos) (.ok (.int i)) .imm :=
  ev_const (pe_glob (v := .int i) hg hm r hd) (fun _ _ => Rp.int_iff.mpr rfl) rfl

/-! ### another type -/
theorem ev_any (h : EvP Z Γ e r t) : EvP Z Γ e r .any := PEimp h fun σ H Q ⟨F, p, q⟩ => ⟨F, p, R.wp_mono q (fun d k v F' H' fv g h n f => k v F' H' [] g ⟨rfl, h.rp g.fh⟩ List.nodup_nil (fun _ z => absurd z (by simp))) fun _ _ w => w⟩
theorem ev_shr (h : EvP Z Γ e r t) (f : t.firm = true := by rfl) : EvP Z Γ e r .shr := PEimp h fun σ H Q ⟨F, p, q⟩ => ⟨F, p, R.wp_mono q (fun d k v F' H' fv g h n fr =>
  k v _ H' [] (g.frozen fr) ⟨rfl, h.freeze g.fh g.tup _ _ _ _ f⟩ List.nodup_nil (fun _ z => absurd z (by simp))) fun _ _ w => w⟩
def immC (d : PyData) : R PyData := if flat d then .ok d else .stuck
theorem ev_imm (h : EvP Z Γ e r t) : EvP Z Γ e (r.bind immC) .imm := PEimp h fun σ H Q ⟨F, p, q⟩ => ⟨F, p, (Post.split q).imp fun v H' ⟨d, F1, fv, _, g, h, _, _, q1⟩ => by
  unfold immC at q1
  by_cases f : flat d = true
  · rw [if_pos f] at q1
    exact q1.imm_ok g.fh g.tup (h.rp g.fh) f
  · rw [if_neg f] at q1
    exact q1.elim⟩

/-! ### operators -/
/-- a rule on values: what rd asks follows from f's outcome -/
def Rule2 (Z : PX) (f : PyData → PyData → R PyData) (ta tb t : Ty) (rd : R2) : Prop := ∀ F H x y vx vy fx fy Q, Same F H → TupF F H → RpT Z.X.K F H ta x vx fx → RpT Z.X.K F H tb y vy fy → Post Z F H t Q (f x y) → rd vx vy H Q
def Rule1 (Z : PX) (f : PyData → R PyData) (ta t : Ty) (rd : V → Hp → VK → Prop) : Prop := ∀ F H x vx fx Q, Same F H → TupF F H → RpT Z.X.K F H ta x vx fx → Post Z F H t Q (f x) → rd vx H Q
theorem bin_imp {rd : R2} {f : PyData → PyData → R PyData} (rule : Rule2 Z f ta tb t rd) (q : tEv Z Γ (ra.bind fun x => rb.bind fun y => f x y) t σ H Q) : tOp rd (tEv Z Γ ra ta) (tEv Z Γ rb tb) σ H Q := by
  obtain ⟨F, p, q⟩ := q
  refine ⟨F, p, (Post.split q).imp fun v H1 ⟨x, F1, fv, _, g, h, _, _, q1⟩ => ⟨F1, p.grow g, (Post.split q1).imp fun v2 H2 ⟨y, F2, fv2, _, g2, h2, _, _, q2⟩ => ?_⟩⟩
  exact rule F2 H2 x y v v2 _ _ Q g2.fh g2.tup (h.grow g2) h2 q2
theorem ev_op {op : Operator} {rd : R2} {f : PyData → PyData → R PyData} (ho : OpR Z.X (binaryOp op) rd) (rule : Rule2 Z f ta tb t rd) (ha : EvP Z Γ a ra ta) (hb : EvP Z Γ b rb tb) : EvP Z Γ (.BinOp a op b pos) (ra.bind fun x => rb.bind fun y => f x y) t :=
  PEimp (pe_op ho ha hb) fun _ _ _ q => bin_imp rule q
theorem ev_un {op : UnaryOp} {rd : V → Hp → VK → Prop} {f : PyData → R PyData} (ho : UnR Z.X (unaryOp op) rd) (rule : Rule1 Z f ta t rd) (ha : EvP Z Γ a ra ta) : EvP Z Γ (.UnaryOp op a pos) (ra.bind f) t :=
  PEimp (pe_un ho ha) fun σ H Q ⟨F, p, q⟩ => ⟨F, p, (Post.split q).imp fun v H1 ⟨x, F1, fv, _, g, h, _, _, q1⟩ => rule F1 H1 x v _ Q g.fh g.tup h q1⟩
theorem ev_cmp {op : CmpOp} {rd : R2} {f : PyData → PyData → R PyData} (ho : OpR Z.X (compareOp op) rd) (rule : Rule2 Z f ta tb t rd) (ha : EvP Z Γ a ra ta) (hb : EvP Z Γ b rb tb) (hm : behindInMarks op b = false := by first | exact nomark _ | rfl) :
    EvP Z Γ (.Compare a [op] [b] pos) (ra.bind fun x => rb.bind fun y => f x y) t := PEimp (pe_cmpR ho ha hb hm) fun _ _ _ q => bin_imp rule q
def asB : PyData → R Bool
  | .bool b => .ok b
  | _ => .stuck
theorem tst_of {d : PyData} {v : V} {Q : Bool → Hp → Prop} (s : Same F H) (tu : TupF F H) (h : Rp Z.X.K H d v) (q : PostB Z F H Q (asB d)) : ∃ k, v = .bl k ∧ Q k H := by
  cases d with
  | bool b => exact ⟨b, Rp.bool_iff.mp h, q F H (Grow.refl s tu)⟩
  | _ => exact q.elim
theorem ts_cmp {op : CmpOp} {rd : R2} {f : PyData → PyData → R PyData} (ho : OpR Z.X (compareOp op) rd) (rule : Rule2 Z f ta tb t rd) (ha : EvP Z Γ a ra ta) (hb : EvP Z Γ b rb tb) (hm : behindInMarks op b = false := by first | exact nomark _ | rfl) :
    TsP Z Γ (.Compare a [op] [b] pos) ((ra.bind fun x => rb.bind fun y => f x y).bind asB) :=
  PTimp (pt_cmpR ho ha hb hm) fun σ H Q ⟨F, p, q⟩ => bin_imp rule ⟨F, p, (PostB.split (ta := t) q).imp fun v H1 ⟨d, F1, fv, _, g, h, _, _, q1⟩ => tst_of g.fh g.tup (h.rp g.fh) q1⟩
theorem ts_val (h : EvP Z Γ e r t) (he : ∀ whole, isTrue e Z.X.env whole = (do let v ← whole; standAt e.pos; holding [v] (truthy v)) := by intro _; rfl) : TsP Z Γ e (r.bind asB) :=
  PTimp (pt_val h he) fun σ H Q ⟨F, p, q⟩ => ⟨F, p, (PostB.split (ta := t) q).imp fun v H1 ⟨d, F1, fv, _, g, h, _, _, q1⟩ => tst_of g.fh g.tup (h.rp g.fh) q1⟩
theorem ts_not {r : R Bool} (h : TsP Z Γ e r) : TsP Z Γ (.UnaryOp .Not e pos) (r.bind fun b => .ok (!b)) :=
  PTimp (pt_not h) fun σ H Q ⟨F, p, q⟩ => ⟨F, p, R.wp_mono (PostB.splitB q) (fun b k F' H' g => let ⟨_, _, g1, q1⟩ := k F' H' g; q1 _ _ (Grow.refl g1.fh g1.tup)) fun _ _ w => w⟩
theorem tw_and1 {r : R Bool} (h : TsP Z Γ e r) : TwP Z Γ (.BoolOp .And [e] pos) r := pw_and1 h
theorem tw_or1 {r : R Bool} (h : TsP Z Γ e r) : TwP Z Γ (.BoolOp .Or [e] pos) r := pw_or1 h
theorem tw_and {r r' : R Bool} {rest : List Expr} (h : TsP Z Γ a r) (h' : TwP Z Γ (.BoolOp .And (b :: rest) pos) r') : TwP Z Γ (.BoolOp .And (a :: b :: rest) pos) (r.bind fun c => if c = true then r' else .ok false) :=
  PWimp (pw_and h h') fun σ H Q ⟨F, p, q⟩ => ⟨F, p, R.wp_mono (PostB.splitB q) (fun c k F' H' g => by
    obtain ⟨F1, _, g1, q1⟩ := k F' H' g
    cases c with
    | true => exact ⟨_, p.grow g1, q1⟩
    | false => exact q1 _ _ (Grow.refl g1.fh g1.tup)) fun _ _ w => w⟩
theorem tw_or {r r' : R Bool} {rest : List Expr} (h : TsP Z Γ a r) (h' : TwP Z Γ (.BoolOp .Or (b :: rest) pos) r') : TwP Z Γ (.BoolOp .Or (a :: b :: rest) pos) (r.bind fun c => if c = true then .ok true else r') :=
  PWimp (pw_or h h') fun σ H Q ⟨F, p, q⟩ => ⟨F, p, R.wp_mono (PostB.splitB q) (fun c k F' H' g => by
    obtain ⟨F1, _, g1, q1⟩ := k F' H' g
    cases c with
    | true => exact q1 _ _ (Grow.refl g1.fh g1.tup)
    | false => exact ⟨_, p.grow g1, q1⟩) fun _ _ w => w⟩
theorem ts_tw {r : R Bool} (h : TwP Z Γ e r) : TsP Z Γ e r := h.pt
theorem ev_one {op} (h : EvP Z Γ a r t) : EvP Z Γ (.BoolOp op [a] pos) r t := pe_one h
theorem ev_and {rest : List Expr} (ha : EvP Z Γ a ra ta) (hb : EvP Z Γ (.BoolOp .And (b :: rest) pos) rb .imm) : EvP Z Γ (.BoolOp .And (a :: b :: rest) pos) (ra.bind fun x => (asB x).bind fun c => if c = true then rb else .ok (.bool false)) .imm :=
  PEimp (pe_and ha hb) fun σ H Q ⟨F, p, q⟩ => ⟨F, p, (Post.split q).imp fun v H1 ⟨d, F1, fv, _, g, h, _, _, q1⟩ => by
    have hr := h.rp g.fh
    cases d with
    | bool c =>
      refine ⟨c, Rp.bool_iff.mp hr, ?_⟩
      cases c with
      | true => exact ⟨F1, p.grow g, q1⟩
      | false => exact Post.imm_ok q1 g.fh g.tup (Rp.bool_iff.mpr rfl) rfl
    | _ => exact q1.elim⟩
theorem ev_or {rest : List Expr} (ha : EvP Z Γ a ra ta) (hb : EvP Z Γ (.BoolOp .Or (b :: rest) pos) rb .imm) : EvP Z Γ (.BoolOp .Or (a :: b :: rest) pos) (ra.bind fun x => (asB x).bind fun c => if c = true then .ok (.bool true) else rb) .imm :=
  PEimp (pe_or ha hb) fun σ H Q ⟨F, p, q⟩ => ⟨F, p, (Post.split q).imp fun v H1 ⟨d, F1, fv, _, g, h, _, _, q1⟩ => by
    have hr := h.rp g.fh
    cases d with
    | bool c =>
      refine ⟨c, Rp.bool_iff.mp hr, ?_⟩
      cases c with
      | true => exact Post.imm_ok q1 g.fh g.tup (Rp.bool_iff.mpr rfl) rfl
      | false => exact ⟨F1, p.grow g, q1⟩
    | _ => exact q1.elim⟩
theorem ev_not (ha : EvP Z Γ a ra ta) : EvP Z Γ (.UnaryOp .Not a pos) (ra.bind fun x => (asB x).bind fun c => .ok (.bool (!c))) .imm :=
  PEimp (pe_not ha) fun σ H Q ⟨F, p, q⟩ => ⟨F, p, (Post.split q).imp fun v H1 ⟨d, F1, fv, _, g, h, _, _, q1⟩ => by
    have hr := h.rp g.fh
    cases d with
    | bool c => exact ⟨c, Rp.bool_iff.mp hr, Post.imm_ok q1 g.fh g.tup (Rp.bool_iff.mpr rfl) rfl⟩
    | _ => exact q1.elim⟩
theorem ev_if {c : Expr} {rc : R Bool} (hc : TsP Z Γ c rc) (ha : EvP Z Γ a ra t) (hb : EvP Z Γ b rb t) : EvP Z Γ (.IfExp c a b pos) (rc.bind fun c => if c = true then ra else rb) t :=
  PEimp (pe_ifExp hc ha hb) fun σ H Q ⟨F, p, q⟩ => ⟨F, p, R.wp_mono (Post.splitB q) (fun c k F' H' g => by
    obtain ⟨F1, _, g1, q1⟩ := k F' H' g
    cases c with
    | true => exact ⟨_, p.grow g1, q1⟩
    | false => exact ⟨_, p.grow g1, q1⟩) fun _ _ w => w⟩
/-- a < b < c -/
theorem ev_chain {op op' : CmpOp} {c : Expr} {rc : R PyData} {tc : Ty} {rd rd' : R2} {f f' : PyData → PyData → R PyData} (ho : OpR Z.X (compareOp op) rd) (ho' : OpR Z.X (compareOp op') rd') (rule : Rule2 Z f ta tb .imm rd) (rule' : Rule2 Z f' tb tc .imm rd')
    (ha : EvP Z Γ a ra ta) (hb : EvP Z Γ b rb tb) (hc : EvP Z Γ c rc tc) (hm : lastMarks [op, op'] [b, c] = false := by with_unfolding_all rfl) : EvP Z Γ (.Compare a [op, op'] [b, c] pos) (ra.bind fun x => rb.bind fun y => (f x y).bind fun z => (asB z).bind fun k => if k = true then rc.bind fun w => f' y w else .ok (.bool false)) .imm :=
  PEimp (pe_chain ho ho' ha hb hc (hm := hm)) fun σ H Q ⟨F, p, q⟩ => by
    refine ⟨F, p, (Post.split q).imp fun v H1 ⟨x, F1, fv, _, g, h, _, _, q1⟩ => ⟨F1, p.grow g, (Post.split q1).imp fun v2 H2 ⟨y, F2, fv2, _, g2, h2, _, _, q2⟩ => ?_⟩⟩
    refine rule F2 H2 x y v v2 _ _ _ g2.fh g2.tup (h.grow g2) h2 ((Post.split (ta := .imm) q2).imp fun z H3 ⟨d, F3, fv3, _, g3, h3, _, _, q3⟩ => ?_)
    have hr := h3.rp g3.fh
    cases d with
    | bool k =>
      refine ⟨k, Rp.bool_iff.mp hr, ?_⟩
      cases k with
      | true => exact ⟨F3, (p.grow (g.trans g2)).grow g3, (Post.split q3).imp fun v4 H4 ⟨w, F4, fv4, _, g4, h4, _, _, q4⟩ => rule' F4 H4 y w v2 v4 _ _ Q g4.fh g4.tup ((h2.grow g3).grow g4) h4 q4⟩
      | false => exact Post.imm_ok q3 g3.fh g3.tup (Rp.bool_iff.mpr rfl) rfl
    | _ => exact q3.elim
theorem ts_chain {op op' : CmpOp} {c : Expr} {rc : R PyData} {tc : Ty} {rd rd' : R2} {f f' : PyData → PyData → R PyData} (ho : OpR Z.X (compareOp op) rd) (ho' : OpR Z.X (compareOp op') rd') (rule : Rule2 Z f ta tb .imm rd) (rule' : Rule2 Z f' tb tc .imm rd')
    (ha : EvP Z Γ a ra ta) (hb : EvP Z Γ b rb tb) (hc : EvP Z Γ c rc tc) (hm : lastMarks [op, op'] [b, c] = false := by with_unfolding_all rfl) : TsP Z Γ (.Compare a [op, op'] [b, c] pos) ((ra.bind fun x => rb.bind fun y => (f x y).bind fun z => (asB z).bind fun k => if k = true then rc.bind fun w => f' y w else .ok (.bool false)).bind asB) :=
  PTimp (pt_chain ho ho' ha hb hc (hm := hm)) fun σ H Q ⟨F, p, q⟩ => by
    rw [R.bind_assoc] at q
    simp only [R.bind_assoc] at q
    refine ⟨F, p, (PostB.split q).imp fun v H1 ⟨x, F1, fv, _, g, h, _, _, q1⟩ => ⟨F1, p.grow g, (PostB.split q1).imp fun v2 H2 ⟨y, F2, fv2, _, g2, h2, _, _, q2⟩ => ?_⟩⟩
    refine rule F2 H2 x y v v2 _ _ _ g2.fh g2.tup (h.grow g2) h2 ((PostB.split (ta := .imm) q2).imp fun z H3 ⟨d, F3, fv3, _, g3, h3, _, _, q3⟩ => ?_)
    have hr := h3.rp g3.fh
    cases d with
    | bool k =>
      refine ⟨k, Rp.bool_iff.mp hr, ?_⟩
      cases k with
      | true =>
        have q3' : PostB Z F3 H3 Q ((rc.bind fun w => f' y w).bind asB) := q3
        rw [R.bind_assoc] at q3'
        exact ⟨F3, (p.grow (g.trans g2)).grow g3, (PostB.split q3').imp fun v4 H4 ⟨w, F4, fv4, _, g4, h4, _, _, q4⟩ => rule' F4 H4 y w v2 v4 _ _ _ g4.fh g4.tup ((h2.grow g3).grow g4) h4 ((PostB.split (ta := .imm) q4).imp fun v5 H5 ⟨d5, F5, fv5, _, g5, h5, _, _, q5⟩ => tst_of g5.fh g5.tup (h5.rp g5.fh) q5)⟩
      | false => exact iteF ⟨false, rfl, q3 _ _ (Grow.refl g3.fh g3.tup)⟩
    | _ => exact q3.elim
end

/-! ### ints -/
def op2I (g : Int → Int → R PyData) : PyData → PyData → R PyData
  | .int i, .int j => g i j
  | _, _ => .stuck
def addI : PyData → PyData → R PyData := op2I fun i j => .ok (.int (i + j))
def subI : PyData → PyData → R PyData := op2I fun i j => .ok (.int (i - j))
def mulI : PyData → PyData → R PyData := op2I fun i j => if i.natAbs.log2 + j.natAbs.log2 < 1000000 then .ok (.int (i * j)) else .stuck
def divI : PyData → PyData → R PyData := op2I fun i j => if 0 < j ∧ j.natAbs.log2 < 9000 then .ok (.int (i / j)) else .stuck
def modI : PyData → PyData → R PyData := op2I fun i j => if 0 < j then .ok (.int (i % j)) else .stuck
def powI : PyData → PyData → R PyData := op2I fun i j => if 0 ≤ j ∧ j ≤ 1000000 ∧ i.natAbs < 2 ^ 64 then .ok (.int (i ^ j.toNat)) else .stuck
def shlI : PyData → PyData → R PyData := op2I fun i j => if 0 ≤ j ∧ j ≤ 1000000 ∧ i.natAbs < 2 ^ 64 then .ok (.int (i * 2 ^ j.toNat)) else .stuck
def shrI : PyData → PyData → R PyData := op2I fun i j => if 0 ≤ j then .ok (.int (i / 2 ^ j.toNat)) else .stuck
def andI : PyData → PyData → R PyData := op2I fun i j => .ok (.int (Builtin.bitAnd i j))
def orI : PyData → PyData → R PyData := op2I fun i j => .ok (.int (Builtin.bitOr i j))
def ltI : PyData → PyData → R PyData := op2I fun i j => .ok (.bool (decide (i < j)))
def leI : PyData → PyData → R PyData := op2I fun i j => .ok (.bool (decide (i ≤ j)))
def gtI : PyData → PyData → R PyData := op2I fun i j => .ok (.bool (decide (j < i)))
def geI : PyData → PyData → R PyData := op2I fun i j => .ok (.bool (decide (j ≤ i)))
def negI : PyData → R PyData
  | .int i => .ok (.int (-i))
  | _ => .stuck
def invI : PyData → R PyData
  | .int i => .ok (.int (Builtin.bitNot i))
  | _ => .stuck
section
variable {Z : PX} {Γ : Ctx} {F H F' H' : Hp} {t ta tb : Ty} {Q Q' : VK} {r ra rb : R PyData} {e a b : Expr} {σ : St} {pos : Pos}
theorem rp_int {i : Int} {v : V} {fp : List Addr} (s : Same F H) (h : RpT Z.X.K F H t (.int i) v fp) : v = .int i := Rp.int_iff.mp (h.rp s)
theorem post_int {i : Int} (p : Post Z F H .imm Q (.ok (.int i))) (s : Same F H) (tu : TupF F H) : Q (.int i) H := p.imm_ok s tu (Rp.int_iff.mpr rfl) rfl
theorem post_bool {i : Bool} (p : Post Z F H .imm Q (.ok (.bool i))) (s : Same F H) (tu : TupF F H) : Q (.bl i) H := p.imm_ok s tu (Rp.bool_iff.mpr rfl) rfl
theorem rule_int0 {h : Int → Int → Int} : Rule2 Z (op2I fun i j => .ok (.int (h i j))) ta tb .imm (rI0 fun i j => .int (h i j)) := fun F H x y vx vy fx fy Q s tu hx hy q => by
  cases x with
  | int i =>
    cases y with
    | int j => exact ⟨i, j, rp_int s hx, rp_int s hy, post_int q s tu⟩
    | _ => exact q.elim
  | _ => exact q.elim
theorem rule_bool0 {h : Int → Int → Bool} : Rule2 Z (op2I fun i j => .ok (.bool (h i j))) ta tb .imm (rI0 fun i j => .bl (h i j)) := fun F H x y vx vy fx fy Q s tu hx hy q => by
  cases x with
  | int i =>
    cases y with
    | int j => exact ⟨i, j, rp_int s hx, rp_int s hy, post_bool q s tu⟩
    | _ => exact q.elim
  | _ => exact q.elim
theorem rule_intC {C : Int → Int → Prop} {c : Int → Int → Prop} [∀ i j, Decidable (c i j)] {h : Int → Int → Int} (hc : ∀ i j, c i j → C i j) :
    Rule2 Z (op2I fun i j => if c i j then .ok (.int (h i j)) else .stuck) ta tb .imm (rI C fun i j => .int (h i j)) := fun F H x y vx vy fx fy Q s tu hx hy q => by
  cases x with
  | int i =>
    cases y with
    | int j =>
      have q' : Post Z F H .imm Q (if c i j then .ok (.int (h i j)) else .stuck) := q
      by_cases z : c i j
      · rw [if_pos z] at q'
        exact ⟨i, j, rp_int s hx, rp_int s hy, hc i j z, post_int q' s tu⟩
      · rw [if_neg z] at q'
        exact q'.elim
    | _ => exact q.elim
  | _ => exact q.elim
theorem ev_add (ha : EvP Z Γ a ra ta) (hb : EvP Z Γ b rb tb) : EvP Z Γ (.BinOp a .Add b pos) (ra.bind fun x => rb.bind fun y => addI x y) .imm := ev_op op_add rule_int0 ha hb
theorem ev_sub (ha : EvP Z Γ a ra ta) (hb : EvP Z Γ b rb tb) : EvP Z Γ (.BinOp a .Sub b pos) (ra.bind fun x => rb.bind fun y => subI x y) .imm := ev_op op_sub rule_int0 ha hb
theorem ev_mul (ha : EvP Z Γ a ra ta) (hb : EvP Z Γ b rb tb) : EvP Z Γ (.BinOp a .Mult b pos) (ra.bind fun x => rb.bind fun y => mulI x y) .imm := ev_op op_mulW (rule_intC fun _ _ h => h) ha hb
theorem ev_div (ha : EvP Z Γ a ra ta) (hb : EvP Z Γ b rb tb) : EvP Z Γ (.BinOp a .FloorDiv b pos) (ra.bind fun x => rb.bind fun y => divI x y) .imm := ev_op op_fdivW (rule_intC fun _ _ h => h) ha hb
theorem ev_mod (ha : EvP Z Γ a ra ta) (hb : EvP Z Γ b rb tb) : EvP Z Γ (.BinOp a .Mod b pos) (ra.bind fun x => rb.bind fun y => modI x y) .imm := ev_op op_mod (rule_intC fun _ _ h => h) ha hb
theorem ev_pow (ha : EvP Z Γ a ra ta) (hb : EvP Z Γ b rb tb) : EvP Z Γ (.BinOp a .Pow b pos) (ra.bind fun x => rb.bind fun y => powI x y) .imm := ev_op op_pow (rule_intC fun _ _ h => h) ha hb
theorem ev_shl (ha : EvP Z Γ a ra ta) (hb : EvP Z Γ b rb tb) : EvP Z Γ (.BinOp a .LShift b pos) (ra.bind fun x => rb.bind fun y => shlI x y) .imm := ev_op op_shl (rule_intC fun _ _ h => h) ha hb
theorem ev_shr2 (ha : EvP Z Γ a ra ta) (hb : EvP Z Γ b rb tb) : EvP Z Γ (.BinOp a .RShift b pos) (ra.bind fun x => rb.bind fun y => shrI x y) .imm := ev_op op_shr (rule_intC fun _ _ h => h) ha hb
theorem ev_band (ha : EvP Z Γ a ra ta) (hb : EvP Z Γ b rb tb) : EvP Z Γ (.BinOp a .BitAnd b pos) (ra.bind fun x => rb.bind fun y => andI x y) .imm := ev_op op_and rule_int0 ha hb
theorem ev_bor (ha : EvP Z Γ a ra ta) (hb : EvP Z Γ b rb tb) : EvP Z Γ (.BinOp a .BitOr b pos) (ra.bind fun x => rb.bind fun y => orI x y) .imm := ev_op op_or rule_int0 ha hb
theorem rule_lt : Rule2 Z ltI ta tb .imm (rI0 fun i j => .bl (decide (i < j))) := rule_bool0
theorem rule_le : Rule2 Z leI ta tb .imm (rI0 fun i j => .bl (decide (i ≤ j))) := rule_bool0
theorem rule_gt : Rule2 Z gtI ta tb .imm (rI0 fun i j => .bl (decide (j < i))) := rule_bool0
theorem rule_ge : Rule2 Z geI ta tb .imm (rI0 fun i j => .bl (decide (j ≤ i))) := rule_bool0
theorem ev_neg (ha : EvP Z Γ a ra ta) : EvP Z Γ (.UnaryOp .USub a pos) (ra.bind negI) .imm := ev_un (ta := ta) un_neg (fun F H x vx fx Q s tu hx q => by
  cases x with
  | int i => exact ⟨i, rp_int s hx, post_int q s tu⟩
  | _ => exact q.elim) ha
theorem ev_inv (ha : EvP Z Γ a ra ta) : EvP Z Γ (.UnaryOp .Invert a pos) (ra.bind invI) .imm := ev_un (ta := ta) un_inv (fun F H x vx fx Q s tu hx q => by
  cases x with
  | int i => exact ⟨i, rp_int s hx, post_int q s tu⟩
  | _ => exact q.elim) ha

/-! ### equality of scalars, of data; is None -/
def eqS : PyData → PyData → R PyData
  | .int i, .int j => .ok (.bool (decide (i = j)))
  | .bool i, .bool j => .ok (.bool (decide (i = j)))
  | .str i, .str j => .ok (.bool (decide (i = j)))
  | .none, .int _ => .ok (.bool false)
  | .int _, .none => .ok (.bool false)
  | .none, .none => .ok (.bool true)
  | _, _ => .stuck
def notR (r : R PyData) : R PyData := r.bind fun d => match d with
  | .bool b => .ok (.bool (!b))
  | _ => .stuck
def neS (x y : PyData) : R PyData := notR (eqS x y)
theorem rule_eqS : Rule2 Z eqS ta tb .imm rEq := fun F H x y vx vy fx fy Q s tu hx hy q => by
  have h1 := hx.rp s
  have h2 := hy.rp s
  cases x <;> cases y <;> first
    | exact q.elim
    | (simp only [Rp.int_iff, Rp.bool_iff, Rp.str_iff, Rp.none_iff] at h1 h2
       subst h1; subst h2
       refine ⟨rfl, ?_⟩
       have := post_bool q s tu
       simpa using this)
theorem rule_neS : Rule2 Z neS ta tb .imm rNe := fun F H x y vx vy fx fy Q s tu hx hy q => by
  have h1 := hx.rp s
  have h2 := hy.rp s
  cases x <;> cases y <;> first
    | exact q.elim
    | (simp only [Rp.int_iff, Rp.bool_iff, Rp.str_iff, Rp.none_iff] at h1 h2
       subst h1; subst h2
       refine ⟨rfl, ?_⟩
       have := post_bool q s tu
       simpa using this)
def isN : PyData → Bool
  | .none => true
  | _ => false
def isNone (x y : PyData) : R PyData := match y with
  | .none => .ok (.bool (isN x))
  | _ => .stuck
def notNone (x y : PyData) : R PyData := match y with
  | .none => .ok (.bool (!isN x))
  | _ => .stuck
theorem rp_none {x : PyData} {v : V} {K : PySem.W.Frag} (h : Rp K H x v) : decide (v = .non) = isN x := by
  unfold isN
  cases x with
  | none => simp [Rp.none_iff.mp h]
  | bool b => simp [Rp.bool_iff.mp h]
  | int b => simp [Rp.int_iff.mp h]
  | str b => simp [Rp.str_iff.mp h]
  | list b => obtain ⟨a, xs, e, _⟩ := Rp.list_iff.mp h; simp [e]
  | tuple b => obtain ⟨a, xs, e, _⟩ := Rp.tuple_iff.mp h; simp [e]
  | dict b => obtain ⟨a, e, _⟩ := Rp.dict_iff.mp h; simp [e]
theorem rule_isN : Rule2 Z isNone ta tb .imm (fun x y H Q => y = .non ∧ Q (.bl (decide (x = .non))) H) := fun F H x y vx vy fx fy Q s tu hx hy q => by
  cases y with
  | none =>
    refine ⟨Rp.none_iff.mp (hy.rp s), ?_⟩
    rw [rp_none (hx.rp s)]
    exact post_bool q s tu
  | _ => exact q.elim
theorem rule_notN : Rule2 Z notNone ta tb .imm (fun x y H Q => y = .non ∧ Q (.bl (!decide (x = .non))) H) := fun F H x y vx vy fx fy Q s tu hx hy q => by
  cases y with
  | none =>
    refine ⟨Rp.none_iff.mp (hy.rp s), ?_⟩
    rw [rp_none (hx.rp s)]
    exact post_bool q s tu
  | _ => exact q.elim
mutual
theorem Rp.dp {K : PySem.W.Frag} : ∀ (d : PyData) (v : V), d.canLay0 = true → Rp K H d v → Dp K H v d
  | .none, v, _, h => by rw [Rp.none_iff.mp h]; exact .non
  | .bool b, v, _, h => by rw [Rp.bool_iff.mp h]; exact .bl b
  | .int b, v, _, h => by rw [Rp.int_iff.mp h]; exact .int b
  | .str b, v, _, h => by rw [Rp.str_iff.mp h]; exact .str b
  | .list ds, v, c, h => by obtain ⟨a, xs, e, h1, h2⟩ := Rp.list_iff.mp h; rw [e]; exact .lst h1 (RpA.dp ds xs (by simpa [PyData.canLay0] using c) h2)
  | .tuple ds, v, c, h => by obtain ⟨a, xs, e, h1, h2⟩ := Rp.tuple_iff.mp h; rw [e]; exact .tup h1 (RpA.dp ds xs (by simpa [PyData.canLay0] using c) h2)
  | .dict _, v, c, h => by simp [PyData.canLay0] at c
theorem RpA.dp {K : PySem.W.Frag} : ∀ (ds : List PyData) (vs : List V), PyData.canLayAll0 ds = true → RpA K H ds vs → DpAll K H vs ds
  | [], vs, _, h => by unfold RpA at h; rw [h]; exact .nil
  | d :: ds, vs, c, h => by
    unfold RpA at h
    obtain ⟨x, r, e, h1, h2⟩ := h
    rw [e]
    simp only [PyData.canLayAll0, Bool.and_eq_true] at c
    exact .cons (Rp.dp d x c.1 h1) (RpA.dp ds r c.2 h2)
end
def eqD (x y : PyData) : R PyData := if SeqAt.shaped x = true ∧ SeqAt.shaped y = true then .ok (.bool (PyData.eqv x y)) else .stuck
def neD (x y : PyData) : R PyData := if SeqAt.shaped x = true ∧ SeqAt.shaped y = true then .ok (.bool (!PyData.eqv x y)) else .stuck
theorem rule_eqD : Rule2 Z eqD ta tb .imm (rEqD Z.X.K) := fun F H x y vx vy fx fy Q s tu hx hy q => by
  unfold eqD at q
  by_cases c : SeqAt.shaped x = true ∧ SeqAt.shaped y = true
  · rw [if_pos c] at q
    exact ⟨x, y, Rp.dp x vx (SeqAt.canLay_of_shaped c.1) (hx.rp s), Rp.dp y vy (SeqAt.canLay_of_shaped c.2) (hy.rp s), c.1, c.2, post_bool q s tu⟩
  · rw [if_neg c] at q
    exact q.elim
theorem rule_neD : Rule2 Z neD ta tb .imm (rNeD Z.X.K) := fun F H x y vx vy fx fy Q s tu hx hy q => by
  unfold neD at q
  by_cases c : SeqAt.shaped x = true ∧ SeqAt.shaped y = true
  · rw [if_pos c] at q
    exact ⟨x, y, Rp.dp x vx (SeqAt.canLay_of_shaped c.1) (hx.rp s), Rp.dp y vy (SeqAt.canLay_of_shaped c.2) (hy.rp s), c.1, c.2, post_bool q s tu⟩
  · rw [if_neg c] at q
    exact q.elim

/-! ### new objects -/
theorem none_of {p : Addr} (s : Same F H) (h : H p = none) : F p = none := by
  cases e : F p with
  | none => rfl
  | some o => have := s _ _ e; rw [h] at this; cases this
theorem same_new {p : Addr} {o : HO} (h : H p = none) : Same H (upd H p o) := fun b u e => by
  by_cases hb : b = p
  · subst hb; rw [h] at e; cases e
  · rw [upd_ne hb]; exact e
theorem grow_lst {p : Addr} {xs : List V} (s : Same F H) (tu : TupF F H) (h : H p = none) : Grow F H F (upd H p (.lst xs)) where
  ff := Same.refl F
  fh := s.trans (same_new h)
  hh := same_new h
  tup := fun a o e h1 h2 h3 => by
    by_cases hb : a = p
    · subst hb; rw [upd_same] at e; cases e; exact absurd rfl (h1 xs)
    · rw [upd_ne hb] at e; exact tu a o e h1 h2 h3
  old := fun _ _ _ => rfl
theorem grow_dK {p : Addr} {xs : List (Key × V)} (s : Same F H) (tu : TupF F H) (h : H p = none) : Grow F H F (upd H p (.dK xs)) where
  ff := Same.refl F
  fh := s.trans (same_new h)
  hh := same_new h
  tup := fun a o e h1 h2 h3 => by
    by_cases hb : a = p
    · subst hb; rw [upd_same] at e; cases e; exact absurd rfl (h2 xs)
    · rw [upd_ne hb] at e; exact tu a o e h1 h2 h3
  old := fun _ _ _ => rfl
theorem grow_in {p : Addr} {o : HO} (s : Same F H) (tu : TupF F H) (h : H p = none) : Grow F H (upd F p o) (upd H p o) where
  ff := same_new (none_of s h)
  fh := fun a u e => by
    by_cases hb : a = p
    · subst hb; rw [upd_same] at e ⊢; exact e
    · rw [upd_ne hb] at e ⊢; exact s _ _ e
  hh := same_new h
  tup := fun a u e h1 h2 h3 => by
    by_cases hb : a = p
    · subst hb; rw [upd_same] at e ⊢; exact e
    · rw [upd_ne hb] at e ⊢; exact tu a u e h1 h2 h3
  old := fun a u e => by
    rw [upd_ne]
    rintro rfl
    rw [h] at e; cases e
theorem ownA_fr {K : PySem.W.Frag} : ∀ {ds : List PyData} {vs : List V}, RpA K F ds vs → OwnA (RpT K F H .shr) ds vs []
  | [], vs, h => by unfold RpA at h; subst h; exact .nil
  | d :: ds, vs, h => by
    unfold RpA at h
    obtain ⟨x, r, e, h1, h2⟩ := h
    subst e
    exact OwnA.cons (f := []) ⟨rfl, h1⟩ (ownA_fr h2)
theorem ownA_im {K : PySem.W.Frag} : ∀ {ds : List PyData} {vs : List V}, RpA K H ds vs → flatA ds = true → OwnA (RpT K F H .imm) ds vs []
  | [], vs, h, _ => by unfold RpA at h; subst h; exact .nil
  | d :: ds, vs, h, f => by
    unfold RpA at h
    obtain ⟨x, r, e, h1, h2⟩ := h
    subst e
    simp only [flatA, Bool.and_eq_true] at f
    exact OwnA.cons (f := []) ⟨rfl, h1, f.1⟩ (ownA_im h2 f.2)
/-- a new list of what stands is handed on as one's own -/
theorem post_lst {ds : List PyData} {vs : List V} (q : Post Z F H (.own t) Q (.ok (.list ds))) (s : Same F H) (tu : TupF F H) {p : Addr} (h : H p = none) (o : OwnA (RpT Z.X.K F H t) ds vs []) : Q (.ref p) (upd H p (.lst vs)) := by
  have g : Grow F H F (upd H p (.lst vs)) := grow_lst s tu h
  refine q (.ref p) F _ [p] g ⟨ds, p, vs, [], rfl, rfl, upd_same, none_of s h, o.mono fun d v f z => z.grow g, rfl⟩ (by simp) fun a ha => ?_
  simp at ha; subst ha; exact h
theorem post_tupS {ds : List PyData} {vs : List V} (q : Post Z F H .shr Q (.ok (.tuple ds))) (s : Same F H) (tu : TupF F H) {p : Addr} (h : H p = none) (o : RpA Z.X.K F ds vs) : Q (.ref p) (upd H p (.tup vs)) := by
  have g : Grow F H (upd F p (.tup vs)) (upd H p (.tup vs)) := grow_in s tu h
  refine q (.ref p) _ _ [] g ⟨rfl, Rp.tuple_iff.mpr ⟨p, vs, rfl, .inl (.inl upd_same), RpA.mono g.ff _ _ o⟩⟩ List.nodup_nil (fun _ z => absurd z (by simp))
theorem post_tupA {ds : List PyData} {vs : List V} (q : Post Z F H .any Q (.ok (.tuple ds))) (s : Same F H) (tu : TupF F H) {p : Addr} (h : H p = none) (o : RpA Z.X.K H ds vs) : Q (.ref p) (upd H p (.tup vs)) := by
  have g : Grow F H (upd F p (.tup vs)) (upd H p (.tup vs)) := grow_in s tu h
  refine q (.ref p) _ _ [] g ⟨rfl, Rp.tuple_iff.mpr ⟨p, vs, rfl, .inl (.inl upd_same), RpA.mono g.hh _ _ o⟩⟩ List.nodup_nil (fun _ z => absurd z (by simp))
theorem post_tupI {ds : List PyData} {vs : List V} (q : Post Z F H .imm Q (.ok (.tuple ds))) (s : Same F H) (tu : TupF F H) {p : Addr} (h : H p = none) (o : RpA Z.X.K H ds vs) (f : flatA ds = true) : Q (.ref p) (upd H p (.tup vs)) := by
  have g : Grow F H (upd F p (.tup vs)) (upd H p (.tup vs)) := grow_in s tu h
  refine q (.ref p) _ _ [] g ⟨rfl, Rp.tuple_iff.mpr ⟨p, vs, rfl, .inl (.inl upd_same), RpA.mono g.hh _ _ o⟩, by simpa [flat] using f⟩ List.nodup_nil (fun _ z => absurd z (by simp))
end

/-! ### arguments -/
def aC (re : R PyData) (rr : R (List PyData)) : R (List PyData) := re.bind fun x => rr.bind fun xs => .ok (x :: xs)
def aN : R (List PyData) := .ok []
@[simp] theorem aC_ok (x : PyData) (xs : List PyData) : aC (.ok x) (.ok xs) = .ok (x :: xs) := rfl
@[simp] theorem aC_okr (x : PyData) (rr : R (List PyData)) : aC (.ok x) rr = rr.bind fun xs => .ok (x :: xs) := rfl
@[simp] theorem aN_ok : aN = .ok [] := rfl
def fn0 (f : R PyData) : List PyData → R PyData
  | [] => f
  | _ => .stuck
def fn1 (f : PyData → R PyData) : List PyData → R PyData
  | [a] => f a
  | _ => .stuck
def fn2 (f : PyData → PyData → R PyData) : List PyData → R PyData
  | [a, b] => f a b
  | _ => .stuck
def fn3 (f : PyData → PyData → PyData → R PyData) : List PyData → R PyData
  | [a, b, c] => f a b c
  | _ => .stuck
def fn4 (f : PyData → PyData → PyData → PyData → R PyData) : List PyData → R PyData
  | [a, b, c, d] => f a b c d
  | _ => .stuck
def fn5 (f : PyData → PyData → PyData → PyData → PyData → R PyData) : List PyData → R PyData
  | [a, b, c, d, e] => f a b c d e
  | _ => .stuck
def fn6 (f : PyData → PyData → PyData → PyData → PyData → PyData → R PyData) : List PyData → R PyData
  | [a, b, c, d, e, g] => f a b c d e g
  | _ => .stuck
def fn7 (f : PyData → PyData → PyData → PyData → PyData → PyData → PyData → R PyData) : List PyData → R PyData
  | [a, b, c, d, e, g, h] => f a b c d e g h
  | _ => .stuck
@[simp] theorem fn1_ok (f) (a : PyData) : fn1 f [a] = f a := rfl
@[simp] theorem fn2_ok (f) (a b : PyData) : fn2 f [a, b] = f a b := rfl
@[simp] theorem fn3_ok (f) (a b c : PyData) : fn3 f [a, b, c] = f a b c := rfl
@[simp] theorem fn4_ok (f) (a b c d : PyData) : fn4 f [a, b, c, d] = f a b c d := rfl
@[simp] theorem fn5_ok (f) (a b c d e : PyData) : fn5 f [a, b, c, d, e] = f a b c d e := rfl
@[simp] theorem fn6_ok (f) (a b c d e g : PyData) : fn6 f [a, b, c, d, e, g] = f a b c d e g := rfl
@[simp] theorem fn7_ok (f) (a b c d e g h : PyData) : fn7 f [a, b, c, d, e, g, h] = f a b c d e g h := rfl
section
variable {Z : PX} {Γ : Ctx} {F H F' H' : Hp} {t ta tb : Ty} {Q Q' : VK} {r ra rb : R PyData} {rs : R (List PyData)} {e a b : Expr} {es : List Expr} {σ : St} {pos : Pos} {m : Md}
theorem ar_nil : ArP Z Γ [] aN m := PAimp pa_nil fun σ H Q ⟨F, p, q⟩ => q [] F H (Grow.refl p.fh p.tup) MdP.nil
theorem ar_cons (he : EvP Z Γ e r m.ty) (hr : ArP Z Γ es rs m) (hs : starEach (e :: es) Z.X.env = (false, eval e Z.X.env) :: starEach es Z.X.env := by rfl) : ArP Z Γ (e :: es) (aC r rs) m :=
  PAimp (pa_cons he hr hs) fun σ H Q ⟨F, p, q⟩ => ⟨F, p, (PostA.split q).imp fun v H1 ⟨x, F1, fv, _, g, h, _, _, q1⟩ => ⟨F1, p.grow g, by
    cases rs with
    | ok ds => exact fun vs F2 H2 g2 h2 => q1 (v :: vs) F2 H2 g2 (MdP.cons (h.grow g2) h2)
    | exc c n => exact q1
    | stuck => exact q1⟩⟩
def mkT (ds : List PyData) : R PyData := if ds.length ≤ sizeLine then .ok (.tuple ds) else .stuck
def mkL (ds : List PyData) : R PyData := if ds.length ≤ sizeLine then .ok (.list ds) else .stuck
theorem sizeL : sizeLine = 16777216 := sizeLine_eq
/-- (a, b, ..) -/
theorem ev_tup {k : Nat} (h : ArP Z Γ es rs m) : EvP Z Γ (.Tuple es k pos) (rs.bind mkT) m.ty :=
  PEimp (pe_tup h) fun σ H Q ⟨F, p, q⟩ => ⟨F, p, R.wp_mono (Post.splitA (m := m) q) (fun ds k vs F' H' g hv => by
    obtain ⟨ds', F1, _, g1, h1, q1⟩ := k vs F' H' g hv
    unfold mkT at q1
    by_cases c : ds'.length ≤ sizeLine
    · rw [if_pos c] at q1
      refine ⟨by rw [← (h1.rp g1.fh).length]; exact c, fun p hp => ?_⟩
      cases m with
      | fr => exact post_tupS q1 g1.fh g1.tup hp h1
      | an => exact post_tupA q1 g1.fh g1.tup hp h1
      | im => exact post_tupI q1 g1.fh g1.tup hp h1.1 h1.2
    · rw [if_neg c] at q1
      exact q1.elim) fun _ _ w => w⟩
theorem ev_lstF (h : ArP Z Γ es rs .fr) : EvP Z Γ (.List es pos) (rs.bind mkL) (.own .shr) :=
  PEimp (pe_lst h) fun σ H Q ⟨F, p, q⟩ => ⟨F, p, R.wp_mono (Post.splitA (m := .fr) q) (fun ds k vs F' H' g hv => by
    obtain ⟨ds', F1, _, g1, h1, q1⟩ := k vs F' H' g hv
    unfold mkL at q1
    by_cases c : ds'.length ≤ sizeLine
    · rw [if_pos c] at q1
      exact ⟨by rw [← (h1.rp g1.fh).length]; exact c, fun p hp => post_lst q1 g1.fh g1.tup hp (ownA_fr h1)⟩
    · rw [if_neg c] at q1
      exact q1.elim) fun _ _ w => w⟩
theorem ev_lstI (h : ArP Z Γ es rs .im) : EvP Z Γ (.List es pos) (rs.bind mkL) (.own .imm) :=
  PEimp (pe_lst h) fun σ H Q ⟨F, p, q⟩ => ⟨F, p, R.wp_mono (Post.splitA (m := .im) q) (fun ds k vs F' H' g hv => by
    obtain ⟨ds', F1, _, g1, h1, q1⟩ := k vs F' H' g hv
    unfold mkL at q1
    by_cases c : ds'.length ≤ sizeLine
    · rw [if_pos c] at q1
      exact ⟨by rw [← (h1.rp g1.fh).length]; exact c, fun p hp => post_lst q1 g1.fh g1.tup hp (ownA_im h1.1 h1.2)⟩
    · rw [if_neg c] at q1
      exact q1.elim) fun _ _ w => w⟩
/-- [] -/
theorem ev_nil : EvP Z Γ (.List [] pos) (.ok (.list [])) (.own t) :=
  PEimp (pe_lst pa_nil) fun σ H Q ⟨F, p, q⟩ => ⟨Nat.zero_le _, fun a ha => post_lst q p.fh p.tup ha .nil⟩
/-- {} -/
theorem ev_nilD : EvP Z Γ (.Dict [] [] pos) (.ok (.dict [])) (.dct t) :=
  PEimp pe_dnewK fun σ H Q ⟨F, p, q⟩ => fun a ha => by
    have g : Grow F H F (upd H a (.dK [])) := grow_dK p.fh p.tup ha
    refine q (.ref a) F _ [a] g ⟨[], a, [], [], rfl, rfl, ⟨upd_same, rfl⟩, none_of p.fh ha, .nil, rfl⟩ (by simp) fun b hb => ?_
    simp at hb; subst hb; exact ha

/-! ### calls of built-ins -/
def RuleA (Z : PX) (f : List PyData → R PyData) (m : Md) (t : Ty) (rd : List V → Hp → VK → Prop) : Prop := ∀ F H ds vs Q, Same F H → TupF F H → MdP Z.X.K F H m ds vs → Post Z F H t Q (f ds) → rd vs H Q
theorem callA_imp {rd : List V → Hp → VK → Prop} {f : List PyData → R PyData} (rule : RuleA Z f m t rd) (q : tEv Z Γ (rs.bind f) t σ H Q) : tCB rd (tAr Z Γ rs m) σ H Q := by
  obtain ⟨F, p, q⟩ := q
  exact ⟨F, p, R.wp_mono (Post.splitA (m := m) q) (fun ds k vs F' H' g hv => let ⟨_, _, _, g1, h1, q1⟩ := k vs F' H' g hv; rule _ _ _ _ _ g1.fh g1.tup h1 q1) fun _ _ w => w⟩
theorem ev_blt {rd : List V → Hp → VK → Prop} {f : List PyData → R PyData} {x : Str} {p : Pos} {id : String} (hc : CallR Z.X (.builtin id) rd) (rule : RuleA Z f m t rd) (hm : Z.X.mg x = none) (hv : bootBuiltins x = some (.builtin id)) (ha : ArP Z Γ (e :: es) rs m) (hg : Gl Z.X x := by rfl)
    (hn : x ≠ "__name__" := by decide) (hdb : (x == ("__debug__" : Str)) = false := by decide) (he : starEach (e :: es) Z.X.env = (false, eval e Z.X.env) :: starEach es Z.X.env := by rfl) (hpl : (backTo pos (starEach es Z.X.env)).any (·.1) = false := by rfl) :
    EvP Z Γ (.Call (.Name x p) (e :: es) [] pos) (rs.bind f) t := PEimp (pe_callB hc hg hm hv ha hn hdb he hpl) fun _ _ _ q => callA_imp rule q
theorem ev_bty {rd : List V → Hp → VK → Prop} {f : List PyData → R PyData} {x : Str} {p : Pos} {T : String} (hc : CallR Z.X (.type T) rd) (rule : RuleA Z f m t rd) (hm : Z.X.mg x = none) (hv : bootBuiltins x = some (.type T)) (ha : ArP Z Γ (e :: es) rs m) (hg : Gl Z.X x := by rfl)
    (hn : x ≠ "__name__" := by decide) (hdb : (x == ("__debug__" : Str)) = false := by decide) (he : starEach (e :: es) Z.X.env = (false, eval e Z.X.env) :: starEach es Z.X.env := by rfl) (hpl : (backTo pos (starEach es Z.X.env)).any (·.1) = false := by rfl) :
    EvP Z Γ (.Call (.Name x p) (e :: es) [] pos) (rs.bind f) t := PEimp (pe_callTy hc hg hm hv ha hn hdb he hpl) fun _ _ _ q => callA_imp rule q
/-- one argument, its type known -/
def Rule1A (Z : PX) (f : PyData → R PyData) (ta t : Ty) (rd : List V → Hp → VK → Prop) : Prop := ∀ F H x vx fx Q, Same F H → TupF F H → RpT Z.X.K F H ta x vx fx → Post Z F H t Q (f x) → rd [vx] H Q
theorem call1_imp {rd : List V → Hp → VK → Prop} {f : PyData → R PyData} (rule : Rule1A Z f ta t rd) (q : tEv Z Γ (r.bind f) t σ H Q) : tCB rd (tCons (tEv Z Γ r ta) tNil) σ H Q := by
  obtain ⟨F, p, q⟩ := q
  exact ⟨F, p, (Post.split q).imp fun v H1 ⟨x, F1, fv, _, g, h, _, _, q1⟩ => rule F1 H1 x v _ Q g.fh g.tup h q1⟩
theorem ev_blt1 {rd : List V → Hp → VK → Prop} {f : PyData → R PyData} {x : Str} {p : Pos} {id : String} (hc : CallR Z.X (.builtin id) rd) (rule : Rule1A Z f ta t rd) (hm : Z.X.mg x = none) (hv : bootBuiltins x = some (.builtin id)) (ha : EvP Z Γ e r ta) (hg : Gl Z.X x := by rfl)
    (hn : x ≠ "__name__" := by decide) (hdb : (x == ("__debug__" : Str)) = false := by decide) (he : starEach (e :: []) Z.X.env = (false, eval e Z.X.env) :: starEach [] Z.X.env := by rfl) (hpl : (backTo pos (starEach [] Z.X.env)).any (·.1) = false := by rfl) :
    EvP Z Γ (.Call (.Name x p) [e] [] pos) (r.bind f) t := PEimp (pe_callB hc hg hm hv (pa_cons ha pa_nil he) hn hdb he hpl) fun _ _ _ q => call1_imp rule q
theorem ev_bty1 {rd : List V → Hp → VK → Prop} {f : PyData → R PyData} {x : Str} {p : Pos} {T : String} (hc : CallR Z.X (.type T) rd) (rule : Rule1A Z f ta t rd) (hm : Z.X.mg x = none) (hv : bootBuiltins x = some (.type T)) (ha : EvP Z Γ e r ta) (hg : Gl Z.X x := by rfl)
    (hn : x ≠ "__name__" := by decide) (hdb : (x == ("__debug__" : Str)) = false := by decide) (he : starEach (e :: []) Z.X.env = (false, eval e Z.X.env) :: starEach [] Z.X.env := by rfl) (hpl : (backTo pos (starEach [] Z.X.env)).any (·.1) = false := by rfl) :
    EvP Z Γ (.Call (.Name x p) [e] [] pos) (r.bind f) t := PEimp (pe_callTy hc hg hm hv (pa_cons ha pa_nil he) hn hdb he hpl) fun _ _ _ q => call1_imp rule q

/-- len -/
def lenD : PyData → R PyData
  | .list ds => .ok (.int ds.length)
  | .tuple ds => .ok (.int ds.length)
  | _ => .stuck
theorem rule_len : Rule1A Z lenD ta .imm (fun xs H Q => ∃ p ys, xs = [.ref p] ∧ (SqL Z.X.K H p ys ∨ SqT Z.X.K H p ys) ∧ Q (.int ys.length) H) := fun F H x vx fx Q s tu hx q => by
  have h := hx.rp s
  cases x with
  | list ds =>
    obtain ⟨p, vs, e, h1, h2⟩ := Rp.list_iff.mp h
    exact ⟨p, vs, by rw [e], .inl h1, by rw [← h2.length]; exact post_int q s tu⟩
  | tuple ds =>
    obtain ⟨p, vs, e, h1, h2⟩ := Rp.tuple_iff.mp h
    exact ⟨p, vs, by rw [e], .inr h1, by rw [← h2.length]; exact post_int q s tu⟩
  | _ => exact q.elim
theorem ev_len {p : Pos} (hm : Z.X.mg "len" = none) (ha : EvP Z Γ e r ta) (hg : Gl Z.X "len" := by rfl) (he : starEach (e :: []) Z.X.env = (false, eval e Z.X.env) :: starEach [] Z.X.env := by rfl) : EvP Z Γ (.Call (.Name "len" p) [e] [] pos) (r.bind lenD) .imm :=
  ev_blt1 call_len_seq rule_len hm PySem.boot_len ha hg (by decide) (by decide) he rfl
/-- abs, int, max, min of ints -/
def absI : PyData → R PyData
  | .int i => .ok (.int (if i < 0 then -i else i))
  | _ => .stuck
def intI : PyData → R PyData
  | .int i => .ok (.int i)
  | .bool k => .ok (.int (if k then 1 else 0))
  | _ => .stuck
theorem rule_abs : Rule1A Z absI ta .imm (fun xs H Q => ∃ i, xs = [.int i] ∧ Q (.int (if i < 0 then -i else i)) H) := fun F H x vx fx Q s tu hx q => by
  cases x with
  | int i => exact ⟨i, by rw [rp_int s hx], post_int q s tu⟩
  | _ => exact q.elim
theorem rule_int : Rule1A Z intI ta .imm (fun xs H Q => (∃ i, xs = [.int i] ∧ Q (.int i) H) ∨ ∃ k, xs = [.bl k] ∧ Q (.int (if k then 1 else 0)) H) := fun F H x vx fx Q s tu hx q => by
  cases x with
  | int i => exact .inl ⟨i, by rw [rp_int s hx], post_int q s tu⟩
  | bool k => exact .inr ⟨k, by rw [Rp.bool_iff.mp (hx.rp s)], post_int q s tu⟩
  | _ => exact q.elim
theorem ev_abs {p : Pos} (hm : Z.X.mg "abs" = none) (ha : EvP Z Γ e r ta) (hg : Gl Z.X "abs" := by rfl) (he : starEach (e :: []) Z.X.env = (false, eval e Z.X.env) :: starEach [] Z.X.env := by rfl) : EvP Z Γ (.Call (.Name "abs" p) [e] [] pos) (r.bind absI) .imm :=
  ev_blt1 call_abs rule_abs hm (by decide +kernel) ha hg (by decide) (by decide) he rfl
theorem ev_toInt {p : Pos} (hm : Z.X.mg "int" = none) (ha : EvP Z Γ e r ta) (hg : Gl Z.X "int" := by rfl) (he : starEach (e :: []) Z.X.env = (false, eval e Z.X.env) :: starEach [] Z.X.env := by rfl) : EvP Z Γ (.Call (.Name "int" p) [e] [] pos) (r.bind intI) .imm :=
  ev_bty1 call_int1 rule_int hm (by decide +kernel) ha hg (by decide) (by decide) he rfl
def maxI : PyData → PyData → R PyData := op2I fun i j => .ok (.int (if j > i then j else i))
def minI : PyData → PyData → R PyData := op2I fun i j => .ok (.int (if j < i then j else i))
theorem fn2_ints (g : Int → Int → R PyData) (ds : List PyData) : fn2 (op2I g) ds = .stuck ∨ ∃ i j, ds = [.int i, .int j] := by
  rcases ds with _ | ⟨a, _ | ⟨b, _ | ⟨c, r⟩⟩⟩
  · exact .inl rfl
  · exact .inl rfl
  · cases a <;> cases b <;> first
      | exact .inl rfl
      | exact .inr ⟨_, _, rfl⟩
  · exact .inl rfl
theorem RpA.two {K : PySem.W.Frag} {x y : PyData} {vs : List V} (h : RpA K H [x, y] vs) : ∃ v u, vs = [v, u] ∧ Rp K H x v ∧ Rp K H y u := by
  unfold RpA at h
  obtain ⟨v, r, e, h1, h2⟩ := h
  unfold RpA at h2
  obtain ⟨u, r2, e2, h3, h4⟩ := h2
  unfold RpA at h4
  subst h4; subst e2; subst e
  exact ⟨v, u, rfl, h1, h3⟩
theorem ruleA_2I {g : Int → Int → Int} : RuleA Z (fn2 (op2I fun i j => .ok (.int (g i j)))) m .imm (fun xs H Q => ∃ i j, xs = [.int i, .int j] ∧ Q (.int (g i j)) H) := fun F H ds vs Q s tu hv q => by
  rcases fn2_ints (fun i j => .ok (.int (g i j))) ds with e | ⟨i, j, e⟩
  · rw [e] at q; exact q.elim
  · subst e
    obtain ⟨v, u, e, h1, h2⟩ := (hv.rp s).two
    exact ⟨i, j, by rw [e, Rp.int_iff.mp h1, Rp.int_iff.mp h2], post_int q s tu⟩
theorem ev_max2 {p : Pos} (hcalm : Z.X.calm = true) (hm : Z.X.mg "max" = none) (ha : ArP Z Γ [a, b] rs m) (hg : Gl Z.X "max" := by rfl) (he : starEach (a :: [b]) Z.X.env = (false, eval a Z.X.env) :: starEach [b] Z.X.env := by rfl) (hpl : (backTo pos (starEach [b] Z.X.env)).any (·.1) = false := by rfl) :
    EvP Z Γ (.Call (.Name "max" p) [a, b] [] pos) (rs.bind (fn2 maxI)) .imm := ev_blt (call_max2 hcalm) ruleA_2I hm (by decide +kernel) ha hg (by decide) (by decide) he hpl
theorem ev_min2 {p : Pos} (hcalm : Z.X.calm = true) (hm : Z.X.mg "min" = none) (ha : ArP Z Γ [a, b] rs m) (hg : Gl Z.X "min" := by rfl) (he : starEach (a :: [b]) Z.X.env = (false, eval a Z.X.env) :: starEach [b] Z.X.env := by rfl) (hpl : (backTo pos (starEach [b] Z.X.env)).any (·.1) = false := by rfl) :
    EvP Z Γ (.Call (.Name "min" p) [a, b] [] pos) (rs.bind (fn2 minI)) .imm := ev_blt (call_min2 hcalm) ruleA_2I hm (by decide +kernel) ha hg (by decide) (by decide) he hpl

/-! ### items -/
def ixD (x y : PyData) : R PyData := match x, y with
  | .list ds, .int i => match atI ds i with
    | some d => .ok d
    | none => .stuck
  | .tuple ds, .int i => match atI ds i with
    | some d => .ok d
    | none => .stuck
  | _, _ => .stuck
theorem atI_rp {ds : List PyData} {vs : List V} {P : PyData → V → Prop} (hl : ds.length = vs.length) (h : ∀ (i : Nat) d, ds[i]? = some d → ∃ x, vs[i]? = some x ∧ P d x) {i : Int} {d : PyData} (e : atI ds i = some d) : ∃ x, atI vs i = some x ∧ P d x := by
  unfold atI at e ⊢
  rw [← hl]
  cases hj : ixN ds.length i with
  | none => rw [hj] at e; simp at e
  | some j =>
    rw [hj] at e
    simp only [Option.bind_some] at e ⊢
    exact h j d e
theorem post_item {d : PyData} {v : V} (q : Post Z F H t Q (.ok d)) (s : Same F H) (tu : TupF F H) (h : RpT Z.X.K F H t d v []) : Q v H := q v F H [] (Grow.refl s tu) h List.nodup_nil (fun _ z => absurd z (by simp))
theorem rule_ix : Rule2 Z ixD ta tb ta.item (fun x y H Q => rIxL Z.X.K x y H Q ∨ rIxT Z.X.K x y H Q) := fun F H x y vx vy fx fy Q s tu hx hy q => by
  unfold ixD at q
  split at q
  · rename_i ds i
    obtain ⟨p, vs, e, h1, h2, h3⟩ := RpT.lst s hx
    split at q
    · rename_i d hd
      obtain ⟨v, hv, hr⟩ := atI_rp h2 h3 hd
      exact .inl ⟨p, vs, i, v, e, rp_int s hy, h1, hv, post_item q s tu hr⟩
    · exact q.elim
  · rename_i ds i
    obtain ⟨p, vs, e, h1, h2, h3⟩ := RpT.tup s hx
    split at q
    · rename_i d hd
      obtain ⟨v, hv, hr⟩ := atI_rp h2 h3 hd
      exact .inr ⟨p, vs, i, v, e, rp_int s hy, h1, hv, post_item q s tu hr⟩
    · exact q.elim
  · exact q.elim
/-- a[b] -/
theorem ev_ix (ha : EvP Z Γ a ra ta) (hb : EvP Z Γ b rb tb) (hs : PlainIx b := by exact fun _ _ => rfl) : EvP Z Γ (.Subscript a b pos) (ra.bind fun x => rb.bind fun y => ixD x y) ta.item :=
  PEimp (pe_ix (ix_list.or ix_tup) ha hb hs) fun _ _ _ q => bin_imp rule_ix q
end

/-! ### defs: a promise that asks that no repr runs around -/
structure FnG (P : Program) (w : World) (K : PySem.W.Frag) (mg : Str → Option Value) (base : Heap) (CX : CXT) (k : Nat) (f : Addr) (fd : FuncData) (ps : List Str) (sp : Sp) : Prop where
  len : ∀ vs H Q E, sp vs H Q E → vs.length = ps.length
  run : ∀ (A : Around) (outer : List Env) (s : Shared) (H : Hp) (args : Args) (us : List Value) (vs : List V) (Q : VK) (E : XK), A.guards = some [] → Room k A → Env0 P w K mg base A outer s H → BindsTo s fd args (ps.zip us) → Vals vs us → sp vs H Q E →
    codeAny (model P w) A (.call (.ref f) args) (CR CX outer P w H s Q E) s
section
variable {X : Cx} {CX : CXT} {k : Nat} {f C : Addr} {fd : FuncData} {ps : List Str} {sp : Sp} {E : XK} {x m : Str} {p pos apos : Pos} {e o : Expr} {es : List Expr} {ta : TE} {t : TA}
theorem run_fnG {pins : List (Addr × Obj)} {σ : St} {H : Hp} {s : Shared} {Q : VK} {us : List Value} {vs : List V} (F : FnG X.prog X.w X.K X.mg X.base CX k f fd ps sp) (gd : X.A.guards = some []) (hr : Room k X.A) (hb : Binds X.K fd ps []) (hx : Passes CX X E)
    (I : Inv X pins σ H s) (r : Vals vs us) (h : sp vs H Q E) : wpAny (model X.prog X.w) X.A (call (.ref f) us) (EP X pins σ Q) X.xe s := by
  have hl : us.length = ps.length := by rw [← r.length]; exact F.len _ _ _ _ h
  have b := hb s us I.kIn (by rw [List.append_nil]; exact hl)
  rw [List.append_nil] at b
  refine wpAny_call (codeAny_mono (F.run X.A X.stack s H ⟨us, []⟩ us vs Q E gd hr I.env0 b r h) fun r s' hq => ?_)
  cases r with
  | error e => exact hx pins σ H s e s' I hq
  | ok fl =>
    cases fl with
    | ret u => exact I.after hq
    | next => exact False.elim hq
    | brk => exact False.elim hq
    | cont => exact False.elim hq
def tCallG (sp : Sp) (E : XK) (t : TA) : TE := fun σ H Q => t σ H fun vs H1 => sp vs H1 Q E
theorem pe_callG (F : FnG X.prog X.w X.K X.mg X.base CX k f fd ps sp) (gd : X.A.guards = some []) (hr : Room k X.A) (hg : Gl X x) (hm : X.mg x = some (.ref f)) (hk : PySem.W.keepIn X.K (.ref f) = true) (hb : Binds X.K fd ps []) (hx : Passes CX X E)
    (ha : PA X (e :: es) t) (hdb : (x == ("__debug__" : Str)) = false := by decide) (he : starEach (e :: es) X.env = (false, eval e X.env) :: starEach es X.env := by rfl) (hpl : (backTo pos (starEach es X.env)).any (·.1) = false := by rfl) :
    PE X (.Call (.Name x p) (e :: es) [] pos) (tCallG sp E t) := by
  refine ⟨fun pins s σ H Q I h => ?_⟩
  refine wpAny_Call_Name_kw (ld_glob I hg hm ?_ hdb)
  refine PySem.W.callWith_K (h₀ := X.base) I.ok.mod.kin hk (thn (ha.run pos pins s σ H _ I h) fun us s1 ⟨vs, H1, I1, r, q⟩ => ⟨I1.kIn, ?_⟩) he hpl
  exact run_fnG F gd hr hb hx I1 r q
end
/-- a def by its body -/
theorem fn_ofG {CX : CXT} {P : Program} {w : World} {K : PySem.W.Frag} {mg : Str → Option Value} {base : Heap} {k : Nat} {f : Addr} {name qual : Str} {params : Arguments} {body : List Stmt} {scope : Scope} {dV kV doc pm cdv ct oc : Value} {an od : Option Addr}
    {osl : Array (Option Value)} {N ps : List Str} {sp : Sp} (lk : K.lookup f = some ⟨oc, od, .func (PySem.W.fnOf name qual params body scope dV kV doc pm an cdv ct), osl⟩) (hcd : PySem.W.codeIn K cdv qual = true) (S : FnScope N ps scope)
    (len : ∀ vs H Q E, sp vs H Q E → vs.length = ps.length)
    (hbody : ∀ (A : Around) (outer : List Env) (s : Shared) (H : Hp) (vs : List V) (Q : VK) (E : XK), A.guards = some [] → Room k (A.deeper (envOfC qual scope s.heap.objs.size f cdv)) → sp vs H Q E →
      ∃ t, PSs (cxOf CX P w K mg base N qual scope f cdv A outer s H E) body t ∧ t { nx := fun _ H' => Q .non H', rt := Q } (start N vs) H) :
    FnG P w K mg base CX (k + 1) f (PySem.W.fnOf name qual params body scope dV kV doc pm an cdv ct) ps sp := by
  refine ⟨len, fun A outer s H args us vs Q E gd hr e0 hb r hsp => ?_⟩
  have hl := len _ _ _ _ hsp
  have KX : K.In s.heap := e0.mod.kin.keeps fun b o e => (e0.bs b o e).1
  have lim : s.heap.NoLimit := e0.mod.nolimit.keeps fun b o e => (e0.bs b o e).1
  have hkind : ∀ y ∈ ps.zip us, scope.names.lookup y.1 = some .local ∨ (scope.names.lookup y.1 = some .cell ∧ ((cellsFrom (s.heap.objs.size + 1) scope.names []).lookup y.1).isSome = true) := fun ⟨n, v⟩ hy => by
    rcases S.par n (List.of_mem_zip hy).1 with q | q
    · exact .inl q
    · exact .inr ⟨q, PySem.W.cellsFrom_some _ _ _ (.inl q)⟩
  refine codeAny_call_function hr.depth (KX _ _ lk) rfl S.co S.gen rfl (PySem.W.codeRec_of KX hcd) (hb _ _ _ _ ?_)
  refine wpAny_newFunctionEnv_cells S.kind hkind fun env he s1 x => ?_
  subst he
  refine ⟨lim.keeps x.toInCall.keep, codeAny_func ?_⟩
  obtain ⟨t, ht, hq⟩ := hbody A outer s H vs Q E gd (hr.deeper _) hsp
  have I : Inv (cxOf CX P w K mg base N qual scope f cdv A outer s H E) [] (start N vs) H s1 := inv_start S hr.hd e0 hl r x
  refine wpAny_mono (ht.run [] s1 (start N vs) H _ I hq) (fun fl s' hs => ?_) fun e s' hs => hs
  have fin : ∀ {σ' : St} {H' : Hp} {v : V} {u : Value}, Inv (cxOf CX P w K mg base N qual scope f cdv A outer s H E) [] σ' H' s' → RelV v u → Q v H' → CE outer P w H s Q u s' :=
    fun {σ' H' v u} J rv q => ⟨v, H', J.os, J.bare, J.base, J.hok, rv, q⟩
  cases fl with
  | ret u =>
    obtain ⟨v, σ', H', J, rv, q⟩ := hs
    exact fin J rv q
  | next =>
    obtain ⟨σ', H', J, q⟩ := hs
    exact fin (v := V.non) (u := Value.none) J rfl q
  | brk =>
    obtain ⟨_, _, _, q⟩ := hs
    exact False.elim q
  | cont =>
    obtain ⟨_, _, _, q⟩ := hs
    exact False.elim q

/-! ### the promise of a def that is a function of data -/
def spP (cls : Nat → Value) (K : PySem.W.Frag) (n : Nat) (f : List PyData → R PyData) (t : Ty) : Sp := fun vs H Q E => ∃ ds F0, ds.length = n ∧ Same F0 H ∧ TupF F0 H ∧ RpA K F0 ds vs ∧
  (f ds).wp (fun d => ∀ v F' H' fv, Grow F0 H F' H' → RpT K F' H' t d v fv → fv.Nodup → (∀ a ∈ fv, H a = none) → Q v H') (wishOf cls E H)
/-- a def of the text that keeps such a promise, as its callers know it -/
structure Callee (P : Program) (w : World) (K : PySem.W.Frag) (mg : Str → Option Value) (base : Heap) (CX : CXT) (cls : Nat → Value) (k : Nat) (x : Str) (n : Nat) (f : List PyData → R PyData) (t : Ty) : Prop where
  ex : ∃ (a : Addr) (fd : FuncData) (ps : List Str), FnG P w K mg base CX k a fd ps (spP cls K n f t) ∧ mg x = some (.ref a) ∧ PySem.W.keepIn K (.ref a) = true ∧ Binds K fd ps []
def Ty.loc : Ty → Bool
  | .imm => true
  | .own t => t.loc
  | _ => false
section
variable {K : PySem.W.Frag} {F H F' H' F2 : Hp}
theorem RpT.loc : ∀ (t : Ty) (d : PyData) (v : V) (fp : List Addr), t.loc = true → RpT K F H t d v fp → (∀ a ∈ fp, F2 a = none) → RpT K F2 H t d v fp
  | .any, _, _, _, l, _, _ => by simp [Ty.loc] at l
  | .shr, _, _, _, l, _, _ => by simp [Ty.loc] at l
  | .dct _, _, _, _, l, _, _ => by simp [Ty.loc] at l
  | .bor _, _, _, _, l, _, _ => by simp [Ty.loc] at l
  | .bdc _, _, _, _, l, _, _ => by simp [Ty.loc] at l
  | .imm, d, v, fp, _, h, _ => h
  | .own t, _, _, _, l, ⟨ds, p, vs, fs, e1, e2, h1, h2, h3, e3⟩, n => by
    subst e3
    have key : ∀ {ds : List PyData} {vs : List V} {fs : List Addr}, OwnA (RpT K F H t) ds vs fs → (∀ a ∈ fs, F2 a = none) → OwnA (RpT K F2 H t) ds vs fs := by
      intro ds vs fs h
      induction h with
      | nil => intro _; exact .nil
      | cons q _ ih => intro z; exact .cons (RpT.loc t _ _ _ (by simpa [Ty.loc] using l) q fun a ha => z a (List.mem_append_left _ ha)) (ih fun a ha => z a (List.mem_append_right _ ha))
    exact ⟨ds, p, vs, fs, e1, e2, h1, n p List.mem_cons_self, key h3 fun a ha => n a (List.mem_cons_of_mem _ ha), rfl⟩
/-- F where H already stood, F' at what is new -/
def mixF (F H F' : Hp) : Hp := fun a => if (H a).isSome = true then F a else F' a
theorem mixF_old {a : Addr} {o : HO} (h : H a = some o) : mixF F H F' a = F a := by unfold mixF; rw [if_pos (by rw [h]; rfl)]
theorem mixF_new {a : Addr} (h : H a = none) : mixF F H F' a = F' a := by unfold mixF; rw [if_neg (by rw [h]; simp)]
theorem grow_mix (s : Same F H) (tu : TupF F H) (g : Grow H H F' H') : Grow F H (mixF F H F') H' where
  ff := fun a o e => by rw [mixF_old (s _ _ e)]; exact e
  fh := fun a o e => by
    cases q : H a with
    | none => rw [mixF_new q] at e; exact g.fh _ _ e
    | some u => rw [mixF_old q] at e; exact g.hh _ _ (s _ _ e)
  hh := g.hh
  tup := fun a o e h1 h2 h3 => by
    cases q : H a with
    | none => rw [mixF_new q]; exact g.tup a o e h1 h2 h3
    | some u =>
      rw [mixF_old q]
      have := g.hh _ _ q
      rw [e] at this
      cases this
      exact tu a o q h1 h2 h3
  old := fun a o e => mixF_old e
end
section
variable {Z : PX} {Γ : Ctx} {F H F' H' : Hp} {t ta tb : Ty} {Q Q' : VK} {r ra rb : R PyData} {rs : R (List PyData)} {e a b : Expr} {es : List Expr} {σ : St} {pos p : Pos} {m : Md} {CX : CXT} {k j n : Nat} {x : Str} {f : List PyData → R PyData}
/-- f(..), all arguments within what stays; the number of the arguments is f's own matter: for another number it is stuck -/
theorem ev_callF (c : Callee Z.X.prog Z.X.w Z.X.K Z.X.mg Z.X.base CX Z.cls k x n f t) (hr : Room j Z.X.A) (gd : Z.X.A.guards = some []) (hx : Passes CX Z.X Z.E) (hn : ∀ ds, f ds = .stuck ∨ ds.length = n) (ha : ArP Z Γ (e :: es) rs .fr) (hk : k ≤ j := by decide) (hg : Gl Z.X x := by rfl)
    (hdb : (x == ("__debug__" : Str)) = false := by decide) (he : starEach (e :: es) Z.X.env = (false, eval e Z.X.env) :: starEach es Z.X.env := by rfl) (hpl : (backTo pos (starEach es Z.X.env)).any (·.1) = false := by rfl) :
    EvP Z Γ (.Call (.Name x p) (e :: es) [] pos) (rs.bind f) t := by
  obtain ⟨ad, fd, ps, G, hm, hkp, hb⟩ := c.ex
  refine PEimp (pe_callG G gd (hr.mono hk) hg hm hkp hb hx ha hdb he hpl) fun σ H Q ⟨F, pr, q⟩ => ⟨F, pr, R.wp_mono (Post.splitA (m := .fr) q) (fun ds kq vs F' H' g hv => ?_) fun _ _ w => w⟩
  obtain ⟨ds', F1, _, g1, h1, q1⟩ := kq vs F' H' g hv
  rcases hn ds' with z | z
  · rw [z] at q1; exact q1.elim
  · exact ⟨ds', F1, z, g1.fh, g1.tup, h1, q1⟩
/-- f(..), arguments of any kind; what comes back holds nothing of them -/
theorem ev_callA (c : Callee Z.X.prog Z.X.w Z.X.K Z.X.mg Z.X.base CX Z.cls k x n f t) (hr : Room j Z.X.A) (gd : Z.X.A.guards = some []) (hx : Passes CX Z.X Z.E) (hn : ∀ ds, f ds = .stuck ∨ ds.length = n) (ha : ArP Z Γ (e :: es) rs .an) (hl : t.loc = true := by rfl) (hk : k ≤ j := by decide) (hg : Gl Z.X x := by rfl)
    (hdb : (x == ("__debug__" : Str)) = false := by decide) (he : starEach (e :: es) Z.X.env = (false, eval e Z.X.env) :: starEach es Z.X.env := by rfl) (hpl : (backTo pos (starEach es Z.X.env)).any (·.1) = false := by rfl) :
    EvP Z Γ (.Call (.Name x p) (e :: es) [] pos) (rs.bind f) t := by
  obtain ⟨ad, fd, ps, G, hm, hkp, hb⟩ := c.ex
  refine PEimp (pe_callG G gd (hr.mono hk) hg hm hkp hb hx ha hdb he hpl) fun σ H Q ⟨F, pr, q⟩ => ⟨F, pr, R.wp_mono (Post.splitA (m := .an) q) (fun ds kq vs F' H' g hv => ?_) fun _ _ w => w⟩
  obtain ⟨ds', F1, _, g1, h1, q1⟩ := kq vs F' H' g hv
  rcases hn ds' with z | z
  · rw [z] at q1; exact q1.elim
  · refine ⟨ds', H', z, Same.refl _, fun a o e _ _ _ => e, h1, R.wp_mono q1 (fun d kd v F2 H2 fv g2 h2 nd fr => ?_) fun _ _ w => w⟩
    have gm := grow_mix g1.fh g1.tup g2
    exact kd v _ H2 fv gm (RpT.loc t d v fv hl h2 fun a ha => by rw [mixF_new (fr a ha)]; exact (RpT.fps t d v fv h2 a ha).1) nd fr
end
theorem fn1_n (g) (ds : List PyData) : fn1 g ds = .stuck ∨ ds.length = 1 := by
  rcases ds with _ | ⟨a, _ | ⟨b, r⟩⟩ <;> first | exact .inr rfl | exact .inl rfl
theorem fn2_n (g) (ds : List PyData) : fn2 g ds = .stuck ∨ ds.length = 2 := by
  rcases ds with _ | ⟨a, _ | ⟨b, _ | ⟨c, r⟩⟩⟩ <;> first | exact .inr rfl | exact .inl rfl
theorem fn3_n (g) (ds : List PyData) : fn3 g ds = .stuck ∨ ds.length = 3 := by
  rcases ds with _ | ⟨a, _ | ⟨b, _ | ⟨c, _ | ⟨d, r⟩⟩⟩⟩ <;> first | exact .inr rfl | exact .inl rfl
theorem fn4_n (g) (ds : List PyData) : fn4 g ds = .stuck ∨ ds.length = 4 := by
  rcases ds with _ | ⟨a, _ | ⟨b, _ | ⟨c, _ | ⟨d, _ | ⟨e, r⟩⟩⟩⟩⟩ <;> first | exact .inr rfl | exact .inl rfl
theorem fn5_n (g) (ds : List PyData) : fn5 g ds = .stuck ∨ ds.length = 5 := by
  rcases ds with _ | ⟨a, _ | ⟨b, _ | ⟨c, _ | ⟨d, _ | ⟨e, _ | ⟨h, r⟩⟩⟩⟩⟩⟩ <;> first | exact .inr rfl | exact .inl rfl
theorem fn6_n (g) (ds : List PyData) : fn6 g ds = .stuck ∨ ds.length = 6 := by
  rcases ds with _ | ⟨a, _ | ⟨b, _ | ⟨c, _ | ⟨d, _ | ⟨e, _ | ⟨h, _ | ⟨i, r⟩⟩⟩⟩⟩⟩⟩ <;> first | exact .inr rfl | exact .inl rfl
theorem fn7_n (g) (ds : List PyData) : fn7 g ds = .stuck ∨ ds.length = 7 := by
  rcases ds with _ | ⟨a, _ | ⟨b, _ | ⟨c, _ | ⟨d, _ | ⟨e, _ | ⟨h, _ | ⟨i, _ | ⟨l, r⟩⟩⟩⟩⟩⟩⟩⟩ <;> first | exact .inr rfl | exact .inl rfl

/-! ### statements -/
/-- what is typed stays typed where other addresses join what stays; what is borrowed of these does not: it is told only by what stands -/
def Ty.nob : Ty → Bool
  | .bor _ => false
  | .bdc _ => false
  | .own t => t.nob
  | .dct t => t.nob
  | _ => true
theorem RpT.frz {K : PySem.W.Frag} {F H : Hp} (s : Same F H) (fi : List Addr) : ∀ (t : Ty) (d : PyData) (v : V) (fp : List Addr), t.nob = true → (∀ a ∈ fp, a ∉ fi) → RpT K F H t d v fp → RpT K (frzF F H fi) H t d v fp
  | .any, d, v, _, _, _, h => h
  | .shr, d, v, _, _, _, ⟨e, h⟩ => ⟨e, Rp.mono (frzF_same s) d v h⟩
  | .imm, d, v, _, _, _, h => h
  | .bor _, _, _, _, b, _, _ => by simp [Ty.nob] at b
  | .bdc _, _, _, _, b, _, _ => by simp [Ty.nob] at b
  | .own t, _, _, _, b, n, ⟨ds, p, vs, fs, e1, e2, h1, h2, h3, e3⟩ => by
    subst e3
    have key : ∀ {ds : List PyData} {vs : List V} {fs : List Addr}, OwnA (RpT K F H t) ds vs fs → (∀ a ∈ fs, a ∉ fi) → OwnA (RpT K (frzF F H fi) H t) ds vs fs := by
      intro ds vs fs h
      induction h with
      | nil => intro _; exact .nil
      | cons q _ ih => intro z; exact .cons (RpT.frz s fi t _ _ _ (by simpa [Ty.nob] using b) (fun a ha => z a (List.mem_append_left _ ha)) q) (ih fun a ha => z a (List.mem_append_right _ ha))
    exact ⟨ds, p, vs, fs, e1, e2, h1, (frzF_not (n p List.mem_cons_self)).trans h2, key h3 fun a ha => n a (List.mem_cons_of_mem _ ha), rfl⟩
  | .dct t, _, _, _, b, n, ⟨ds, p, vs, fs, e1, e2, h1, h2, h3, e3⟩ => by
    subst e3
    have key : ∀ {ds : List PyData} {vs : List V} {fs : List Addr}, OwnA (RpT K F H t) ds vs fs → (∀ a ∈ fs, a ∉ fi) → OwnA (RpT K (frzF F H fi) H t) ds vs fs := by
      intro ds vs fs h
      induction h with
      | nil => intro _; exact .nil
      | cons q _ ih => intro z; exact .cons (RpT.frz s fi t _ _ _ (by simpa [Ty.nob] using b) (fun a ha => z a (List.mem_append_left _ ha)) q) (ih fun a ha => z a (List.mem_append_right _ ha))
    exact ⟨ds, p, vs, fs, e1, e2, h1, (frzF_not (n p List.mem_cons_self)).trans h2, key h3 fun a ha => n a (List.mem_cons_of_mem _ ha), rfl⟩
/-- a context whose slots borrow nothing -/
def nobC : Ctx → Bool
  | [] => true
  | none :: r => nobC r
  | some (_, t) :: r => t.nob && nobC r
theorem nobC_get : ∀ {Γ : Ctx} {i : Nat} {d : PyData} {t : Ty}, nobC Γ = true → Γ[i]? = some (some (d, t)) → t.nob = true
  | [], i, d, t, _, e => by simp at e
  | none :: r, 0, d, t, _, e => by simp at e
  | some (d', t') :: r, 0, d, t, h, e => by simp at e; obtain ⟨rfl, rfl⟩ := e; simp [nobC] at h; exact h.1
  | none :: r, i + 1, d, t, h, e => nobC_get (Γ := r) (i := i) (by simpa [nobC] using h) (by simpa using e)
  | some (_, _) :: r, i + 1, d, t, h, e => nobC_get (Γ := r) (i := i) (by simp [nobC] at h; exact h.2) (by simpa using e)
inductive Fl (S L : Type) where
  | nx (s : S)
  | bk (l : L)
  | ct (l : L)
  | rt (d : PyData)
structure StI (K : PySem.W.Frag) (F0 He : Hp) (Γ : Ctx) (F : Hp) (σ : St) (H : Hp) (fps : Nat → List Addr) : Prop where
  g : Grow F0 He F H
  sl : Slots K F H Γ σ fps
  nd : ∀ i, (fps i).Nodup
  sep : ∀ i j, i ≠ j → ∀ a ∈ fps i, a ∉ fps j
  fr : ∀ i, ∀ a ∈ fps i, He a = none
def StOk (K : PySem.W.Frag) (F0 He : Hp) (Γ : Ctx) (σ : St) (H : Hp) : Prop := ∃ F fps, StI K F0 He Γ F σ H fps
structure BX where
  Z : PX
  He : Hp
  tr : Ty
def flP (Y : BX) (F0 : Hp) {S L : Type} (Δ : S → Ctx) (Λ : L → Ctx) (D : Ends) : Fl S L → Prop
  | .nx s => ∀ σ' H', StOk Y.Z.X.K F0 Y.He (Δ s) σ' H' → D.nx σ' H'
  | .bk l => ∀ σ' H', StOk Y.Z.X.K F0 Y.He (Λ l) σ' H' → D.bk σ' H'
  | .ct l => ∀ σ' H', StOk Y.Z.X.K F0 Y.He (Λ l) σ' H' → D.ct σ' H'
  | .rt d => ∀ v F' H' fv, Grow F0 Y.He F' H' → RpT Y.Z.X.K F' H' Y.tr d v fv → fv.Nodup → (∀ a ∈ fv, Y.He a = none) → D.rt v H'
def PostS (Y : BX) (F0 : Hp) {S L : Type} (Δ : S → Ctx) (Λ : L → Ctx) (D : Ends) (r : R (Fl S L)) : Prop := r.wp (flP Y F0 Δ Λ D) (wishOf Y.Z.cls Y.Z.E Y.He)
def tBl (Y : BX) {S L : Type} (Γ : Ctx) (Δ : S → Ctx) (Λ : L → Ctx) (r : R (Fl S L)) : TS := fun D σ H => ∃ F0, StOk Y.Z.X.K F0 Y.He Γ σ H ∧ PostS Y F0 Δ Λ D r
abbrev BlP (Y : BX) {S L : Type} (Γ : Ctx) (sts : List Stmt) (Δ : S → Ctx) (Λ : L → Ctx) (r : R (Fl S L)) : Prop := PSs Y.Z.X sts (tBl Y Γ Δ Λ r)
section
variable {Y : BX} {F0 : Hp} {S L S1 : Type} {Γ : Ctx} {Δ : S → Ctx} {Λ : L → Ctx} {Δ1 : S1 → Ctx} {F H F' H' : Hp} {t ta tb : Ty} {r : R PyData} {e a b : Expr} {σ : St} {pos p : Pos} {st : Stmt} {rest : List Stmt} {D : Ends} {fps : Nat → List Addr}
theorem StI.pre (s : StI Y.Z.X.K F0 Y.He Γ F σ H fps) : Pre Y.Z.X.K F H Γ σ := ⟨s.g.fh, s.g.tup, fps, s.sl⟩
theorem StI.grow (s : StI Y.Z.X.K F0 Y.He Γ F σ H fps) (g : Grow F H F' H') : StI Y.Z.X.K F0 Y.He Γ F' σ H' fps := ⟨s.g.trans g, s.sl.grow g, s.nd, s.sep, s.fr⟩
theorem StI.he (s : StI Y.Z.X.K F0 Y.He Γ F σ H fps) {fv : List Addr} (n : ∀ a ∈ fv, H a = none) : ∀ a ∈ fv, Y.He a = none := fresh_of s.g.hh n
/-- the value goes first; what is wanted of a statement behind it -/
theorem PostS.split {k : PyData → R (Fl S L)} (q : PostS Y F0 Δ Λ D (r.bind k)) (s : StI Y.Z.X.K F0 Y.He Γ F σ H fps) :
    Post Y.Z F H t (fun v H1 => ∃ d F1 fv, r = .ok d ∧ Grow F H F1 H1 ∧ RpT Y.Z.X.K F1 H1 t d v fv ∧ fv.Nodup ∧ (∀ a ∈ fv, H a = none) ∧ PostS Y F0 Δ Λ D (k d)) r := by
  cases r with
  | ok d => exact fun v F1 H1 fv g h n f => ⟨d, F1, fv, rfl, g, h, n, f, q⟩
  | exc c n => exact wishOf.mono s.g.hh q
  | stuck => exact q
theorem PostS.splitB {rc : R Bool} {k : Bool → R (Fl S L)} (q : PostS Y F0 Δ Λ D (rc.bind k)) (s : StI Y.Z.X.K F0 Y.He Γ F σ H fps) :
    PostB Y.Z F H (fun c H1 => ∃ F1, rc = .ok c ∧ Grow F H F1 H1 ∧ PostS Y F0 Δ Λ D (k c)) rc := by
  cases rc with
  | ok d => exact fun F1 H1 g => ⟨F1, rfl, g, q⟩
  | exc c n => exact wishOf.mono s.g.hh q
  | stuck => exact q
/-- a slot is stored -/
def putF' (fps : Nat → List Addr) (i : Nat) (fv : List Addr) : Nat → List Addr := fun j => if j = i then fv else fps j
theorem StI.set {i : Nat} {d : PyData} {v : V} {fv : List Addr} (s : StI Y.Z.X.K F0 Y.He Γ F σ H fps) (g : Grow F H F' H') (h : RpT Y.Z.X.K F' H' t d v fv) (n : fv.Nodup) (f : ∀ a ∈ fv, H a = none) :
    StOk Y.Z.X.K F0 Y.He (Γ.set i (some (d, t))) (σ.set i (some v)) H' := by
  have s' := s.grow g
  -- slots without a type carry nothing: their footprints are dropped
  refine ⟨F', fun j => if j = i then fv else match Γ[j]? with | some (some _) => fps j | _ => [], s'.g, ⟨by rw [List.length_set, List.length_set]; exact s'.sl.1, fun j d' t' e => ?_⟩, fun j => ?_, fun j k hjk a ha => ?_, fun j a ha => ?_⟩
  · by_cases hj : j = i
    · subst hj
      have hl : j < Γ.length := by
        have := (List.getElem?_eq_some_iff.mp e).1
        simpa using this
      rw [List.getElem?_set_self hl] at e
      cases e
      refine ⟨v, by rw [List.getElem?_set_self (Nat.lt_of_lt_of_le hl s'.sl.1)], ?_⟩
      dsimp only
      rw [if_pos rfl]
      exact h
    · rw [List.getElem?_set_ne (Ne.symm hj)] at e
      obtain ⟨u, a1, a2⟩ := s'.sl.2 j d' t' e
      refine ⟨u, by rw [List.getElem?_set_ne (Ne.symm hj)]; exact a1, ?_⟩
      dsimp only
      rw [if_neg hj, e]
      exact a2
  · by_cases hj : j = i
    · rw [if_pos hj]; exact n
    · rw [if_neg hj]
      split
      · exact s.nd j
      · exact List.nodup_nil
  · have typed : ∀ (j : Nat) (a : Addr), a ∈ (match Γ[j]? with | some (some _) => fps j | _ => []) → a ∈ fps j ∧ ∃ o, H a = some o := by
      intro j a hm
      split at hm
      · rename_i p he
        obtain ⟨d', t'⟩ := p
        obtain ⟨u, a1, a2⟩ := s.sl.2 j d' t' he
        exact ⟨hm, (RpT.fps _ _ _ _ a2 a hm).2⟩
      · exact absurd hm (by simp)
    by_cases hj : j = i
    · rw [if_pos hj] at ha
      have hk : k ≠ i := fun z => hjk (hj.trans z.symm)
      rw [if_neg hk]
      intro z
      obtain ⟨_, o, ho⟩ := typed k a z
      rw [f a ha] at ho; cases ho
    · rw [if_neg hj] at ha
      obtain ⟨hm, o, ho⟩ := typed j a ha
      by_cases hk : k = i
      · rw [if_pos hk]
        intro z
        rw [f a z] at ho; cases ho
      · rw [if_neg hk]
        intro z
        exact s.sep j k hjk a hm (typed k a z).1
  · by_cases hj : j = i
    · rw [if_pos hj] at ha; exact s.he f a ha
    · rw [if_neg hj] at ha
      split at ha
      · exact s.fr j a ha
      · exact absurd ha (by simp)
/-- contexts: less is known -/
inductive Wk : Ctx → Ctx → Prop where
  | nil {Γ : Ctx} : Wk Γ []
  | drop {o : Option (PyData × Ty)} {Γ Γ' : Ctx} : Wk Γ Γ' → Wk (o :: Γ) (none :: Γ')
  | keep {o : Option (PyData × Ty)} {Γ Γ' : Ctx} : Wk Γ Γ' → Wk (o :: Γ) (o :: Γ')
  | shr {d : PyData} {Γ Γ' : Ctx} : Wk Γ Γ' → Wk (some (d, .imm) :: Γ) (some (d, .shr) :: Γ')
theorem Wk.len {Γ Γ' : Ctx} (w : Wk Γ Γ') : Γ'.length ≤ Γ.length := by
  induction w with
  | nil => simp
  | drop _ ih => simp; exact ih
  | keep _ ih => simp; exact ih
  | shr _ ih => simp; exact ih
theorem Wk.get {Γ Γ' : Ctx} (w : Wk Γ Γ') : ∀ (i : Nat) d t, Γ'[i]? = some (some (d, t)) → Γ[i]? = some (some (d, t)) ∨ (t = .shr ∧ Γ[i]? = some (some (d, .imm))) := by
  induction w with
  | nil => intro i d t e; simp at e
  | drop _ ih =>
    intro i d t e
    cases i with
    | zero => simp at e
    | succ i => simpa using ih i d t (by simpa using e)
  | keep _ ih =>
    intro i d t e
    cases i with
    | zero => exact .inl (by simpa using e)
    | succ i => simpa using ih i d t (by simpa using e)
  | shr _ ih =>
    intro i d t e
    cases i with
    | zero =>
      simp at e
      obtain ⟨rfl, rfl⟩ := e
      exact .inr ⟨rfl, by simp⟩
    | succ i => simpa using ih i d t (by simpa using e)
theorem StOk.wk {Γ' : Ctx} (s : StOk Y.Z.X.K F0 Y.He Γ σ H) (w : Wk Γ Γ') : StOk Y.Z.X.K F0 Y.He Γ' σ H := by
  obtain ⟨F, fps, s⟩ := s
  refine ⟨F, fun j => match Γ'[j]? with | some (some (_, .shr)) => [] | some (some _) => fps j | _ => [], s.g, ⟨Nat.le_trans w.len s.sl.1, fun i d t e => ?_⟩, fun j => ?_, fun j k hjk a ha => ?_, fun j a ha => ?_⟩
  · rcases w.get i d t e with z | ⟨z1, z⟩
    · obtain ⟨v, a1, a2⟩ := s.sl.2 i d t z
      refine ⟨v, a1, ?_⟩
      simp only [e]
      cases t with
      | shr => obtain ⟨_, h⟩ := a2; exact ⟨rfl, h⟩
      | _ => exact a2
    · subst z1
      obtain ⟨v, a1, _, a2, a3⟩ := s.sl.2 i d _ z
      refine ⟨v, a1, ?_⟩
      simp only [e]
      exact ⟨rfl, Rp.flat s.g.tup d v a3 a2⟩
  · split
    · exact List.nodup_nil
    · exact s.nd j
    · exact List.nodup_nil
  · have sub : ∀ (j : Nat) (a : Addr), a ∈ (match Γ'[j]? with | some (some (_, Ty.shr)) => [] | some (some _) => fps j | _ => []) → a ∈ fps j := by
      intro j a hm
      split at hm
      · exact absurd hm (by simp)
      · exact hm
      · exact absurd hm (by simp)
    exact fun z => s.sep j k hjk a (sub j a ha) (sub k a z)
  · have : a ∈ fps j := by
      split at ha
      · exact absurd ha (by simp)
      · exact ha
      · exact absurd ha (by simp)
    exact s.fr j a this
/-- the block's end -/
theorem bl_end {s : S} (w : Wk Γ (Δ s)) : BlP Y Γ [] Δ Λ (.ok (.nx s) : R (Fl S L)) := PSsimp pss_nil fun D σ H ⟨F0, h, q⟩ => q σ H (h.wk w)
/-- x = e -/
theorem bl_set {i : Nat} {x : Str} {pos' : Pos} {k : PyData → R (Fl S L)} (nd : Y.Z.X.N.Nodup) (hi : Y.Z.X.N[i]? = some x) (he : EvP Y.Z Γ e r t) (hk : ∀ d, BlP Y (Γ.set i (some (d, t))) rest Δ Λ (k d)) (hx : Loc Y.Z.X.env.scope x := by first | exact Or.inl rfl | exact Or.inr rfl)
    (hs : swapsWith e (some (.Name x pos')) pos.line Y.Z.X.env = pure false := by rfl) (hf : Y.Z.X.fn x = true ∨ Y.Z.X.env.scope.names.lookup x = some .local := by first | exact .inl rfl | exact .inr rfl) :
    BlP Y Γ (.Assign [.Name x pos'] e pos :: rest) Δ Λ (r.bind k) := by
  refine PSsimp (pss_cons (ps_set nd hi hx he hs hf) (⟨fun pins s σ H D I ⟨d, h⟩ => (hk d).run pins s σ H D I h⟩ : PSs Y.Z.X rest fun D σ H => ∃ d, tBl Y (Γ.set i (some (d, t))) Δ Λ (k d) D σ H)) fun D σ H ⟨F0, ⟨F, fps, s⟩, q⟩ => ?_
  exact ⟨F, s.pre, (PostS.split q s).imp fun v H1 ⟨d, F1, fv, _, g, h, n, f, q1⟩ => ⟨d, F0, s.set g h n f, q1⟩⟩
/-- e alone -/
theorem bl_expr {k : PyData → R (Fl S L)} (he : EvP Y.Z Γ e r t) (hk : ∀ d, BlP Y Γ rest Δ Λ (k d)) (hs : swapsWith e none pos.line Y.Z.X.env = pure false := by rfl) : BlP Y Γ (.Expr e pos :: rest) Δ Λ (r.bind k) := by
  refine PSsimp (pss_cons (ps_expr he hs) (⟨fun pins s σ H D I ⟨d, h⟩ => (hk d).run pins s σ H D I h⟩ : PSs Y.Z.X rest fun D σ H => ∃ d, tBl Y Γ Δ Λ (k d) D σ H)) fun D σ H ⟨F0, ⟨F, fps, s⟩, q⟩ => ?_
  exact ⟨F, s.pre, (PostS.split q s).imp fun v H1 ⟨d, F1, fv, _, g, h, n, f, q1⟩ => ⟨d, F0, ⟨F1, fps, s.grow g⟩, q1⟩⟩
/-- return e -/
theorem bl_ret (he : EvP Y.Z Γ e r Y.tr) : BlP Y Γ (.Return (some e) pos :: rest) Δ Λ (r.bind fun d => .ok (.rt d) : R (Fl S L)) := by
  refine PSsimp (pss_cons (ps_ret he) (pss_never (sts := rest))) fun D σ H ⟨F0, ⟨F, fps, s⟩, q⟩ => ?_
  exact ⟨F, s.pre, (PostS.split q s).imp fun v H1 ⟨d, F1, fv, _, g, h, n, f, q1⟩ => q1 v F1 H1 fv (s.g.trans g) h n (s.he f)⟩
theorem bl_retN (ht : Y.tr = .imm) : BlP Y Γ (.Return none pos :: rest) Δ Λ (.ok (.rt .none) : R (Fl S L)) := by
  refine PSsimp (pss_cons ps_retN (pss_never (sts := rest))) fun D σ H ⟨F0, ⟨F, fps, s⟩, q⟩ => ?_
  exact q .non F H [] s.g (by rw [ht]; exact ⟨rfl, Rp.none_iff.mpr rfl, rfl⟩) List.nodup_nil (fun _ z => absurd z (by simp))
/-- return x, x one's own: handed on -/
theorem bl_retM {i : Nat} {x : Str} {d : PyData} {pos' : Pos} (hΓ : Γ[i]? = some (some (d, Y.tr))) (hN : Y.Z.X.N[i]? = some x := by rfl) (hv : Vis Y.Z.X.env.scope x := by first | exact Or.inl rfl | exact Or.inr (Or.inl rfl) | exact Or.inr (Or.inr rfl)) (hd : (x == ("__debug__" : Str)) = false := by decide)
    (hcd : (x == ("__classdict__" : Str)) = false := by decide) : BlP Y Γ (.Return (some (.Name x pos')) pos :: rest) Δ Λ (.ok (.rt d) : R (Fl S L)) := by
  refine PSsimp (pss_cons (ps_ret (pe_var hN hv hd hcd)) (pss_never (sts := rest))) fun D σ H ⟨F0, ⟨F, fps, s⟩, q⟩ => ?_
  obtain ⟨v, a1, a2⟩ := s.sl.2 i d _ hΓ
  exact ⟨v, a1, q v F H (fps i) s.g a2 (s.nd i) (s.fr i)⟩
theorem bl_break {l : L} (w : Wk Γ (Λ l)) : BlP Y Γ (.Break pos :: rest) Δ Λ (.ok (.bk l) : R (Fl S L)) := PSsimp (pss_cons ps_break (pss_never (sts := rest))) fun D σ H ⟨F0, h, q⟩ => q σ H (h.wk w)
theorem bl_continue {l : L} (w : Wk Γ (Λ l)) : BlP Y Γ (.Continue pos :: rest) Δ Λ (.ok (.ct l) : R (Fl S L)) := PSsimp (pss_cons ps_continue (pss_never (sts := rest))) fun D σ H ⟨F0, h, q⟩ => q σ H (h.wk w)
theorem bl_pass {k : R (Fl S L)} (hk : BlP Y Γ rest Δ Λ k) : BlP Y Γ (.Pass pos :: rest) Δ Λ k := PSsimp (pss_cons ps_pass hk) fun D σ H h => h
/-- code that is not reached -/
theorem bl_never {sts : List Stmt} : BlP Y Γ sts Δ Λ (.stuck : R (Fl S L)) := PSsimp (pss_never (sts := sts)) fun D σ H ⟨_, _, q⟩ => q
def Fl.seq {S1 S L : Type} (f : Fl S1 L) (k : S1 → R (Fl S L)) : R (Fl S L) := match f with
  | .nx s => k s
  | .bk l => .ok (.bk l)
  | .ct l => .ok (.ct l)
  | .rt d => .ok (.rt d)
@[simp] theorem Fl.seq_nx (s : S1) (k : S1 → R (Fl S L)) : Fl.seq (.nx s : Fl S1 L) k = k s := rfl
@[simp] theorem Fl.seq_bk (l : L) (k : S1 → R (Fl S L)) : Fl.seq (.bk l : Fl S1 L) k = .ok (.bk l) := rfl
@[simp] theorem Fl.seq_ct (l : L) (k : S1 → R (Fl S L)) : Fl.seq (.ct l : Fl S1 L) k = .ok (.ct l) := rfl
@[simp] theorem Fl.seq_rt (d : PyData) (k : S1 → R (Fl S L)) : Fl.seq (.rt d : Fl S1 L) k = .ok (.rt d) := rfl
theorem PostS.seq {rf : R (Fl S1 L)} {k : S1 → R (Fl S L)} (q : PostS Y F0 Δ Λ D (rf.bind fun f => f.seq k)) (T : St → Hp → Prop) (hT : ∀ s σ' H', StOk Y.Z.X.K F0 Y.He (Δ1 s) σ' H' → PostS Y F0 Δ Λ D (k s) → T σ' H') :
    PostS Y F0 Δ1 Λ { D with nx := T } rf := by
  cases rf with
  | ok f =>
    cases f with
    | nx s => exact fun σ' H' h => hT s σ' H' h q
    | bk l => exact q
    | ct l => exact q
    | rt d => exact q
  | exc c n => exact q
  | stuck => exact q
/-- if c: A (which leaves on every way); rest -/
theorem bl_ifx {c : Expr} {A : List Stmt} {rc : R Bool} {rA : R (Fl Empty L)} {k : R (Fl S L)} (hc : TsP Y.Z Γ c rc) (hA : BlP Y Γ A (fun z : Empty => z.elim) Λ rA) (hk : BlP Y Γ rest Δ Λ k) :
    BlP Y Γ (.If c A [] pos :: rest) Δ Λ (rc.bind fun b => if b = true then rA.bind fun f => f.seq fun z => z.elim else k) := by
  refine PSsimp (pss_cons (ps_if hc hA pss_nil) hk) fun D σ H ⟨F0, ⟨F, fps, s⟩, q⟩ => ?_
  refine ⟨F, s.pre, R.wp_mono (PostS.splitB q s) (fun b kq F' H' g => ?_) fun _ _ w => w⟩
  obtain ⟨F1, _, g1, q1⟩ := kq F' H' g
  cases b with
  | true => exact ⟨F0, ⟨_, fps, s.grow g1⟩, PostS.seq q1 _ fun z => z.elim⟩
  | false => exact ⟨F0, ⟨_, fps, s.grow g1⟩, q1⟩
/-- if c: A else: B; rest -/
theorem bl_if {c : Expr} {A B : List Stmt} {rc : R Bool} {rA rB : R (Fl S1 L)} {k : S1 → R (Fl S L)} (hc : TsP Y.Z Γ c rc) (hA : BlP Y Γ A Δ1 Λ rA) (hB : BlP Y Γ B Δ1 Λ rB) (hk : ∀ s, BlP Y (Δ1 s) rest Δ Λ (k s)) :
    BlP Y Γ (.If c A B pos :: rest) Δ Λ (rc.bind fun b => (if b = true then rA else rB).bind fun f => f.seq k) := by
  refine PSsimp (pss_cons (ps_if hc hA hB) (⟨fun pins s σ H D I ⟨d, h⟩ => (hk d).run pins s σ H D I h⟩ : PSs Y.Z.X rest fun D σ H => ∃ s, tBl Y (Δ1 s) Δ Λ (k s) D σ H)) fun D σ H ⟨F0, ⟨F, fps, s⟩, q⟩ => ?_
  refine ⟨F, s.pre, R.wp_mono (PostS.splitB q s) (fun b kq F' H' g => ?_) fun _ _ w => w⟩
  obtain ⟨F1, _, g1, q1⟩ := kq F' H' g
  cases b with
  | true => exact ⟨F0, ⟨_, fps, s.grow g1⟩, PostS.seq q1 _ fun s' σ' H' h q2 => ⟨s', F0, h, q2⟩⟩
  | false => exact ⟨F0, ⟨_, fps, s.grow g1⟩, PostS.seq q1 _ fun s' σ' H' h q2 => ⟨s', F0, h, q2⟩⟩
/-- what is one's own at slot i is given to all from here on -/
theorem bl_frz {i : Nat} {d : PyData} {sts : List Stmt} {k : R (Fl S L)} (hΓ : Γ[i]? = some (some (d, t))) (hk : BlP Y (Γ.set i (some (d, .shr))) sts Δ Λ k) (hf : t.firm = true := by rfl) (hb : nobC Γ = true := by rfl) : BlP Y Γ sts Δ Λ k := by
  refine PSsimp hk fun D σ H ⟨F0, ⟨F, fps, s⟩, q⟩ => ⟨F0, ?_, q⟩
  obtain ⟨v, a1, a2⟩ := s.sl.2 i d t hΓ
  have hrp := a2.freeze s.g.fh s.g.tup t d v (fps i) hf
  have fpo := RpT.fps t d v (fps i) a2
  have own : ∀ j d' t', j ≠ i → ∀ v', RpT Y.Z.X.K F H t' d' v' (fps j) → t'.nob = true → RpT Y.Z.X.K (frzF F H (fps i)) H t' d' v' (fps j) := by
    intro j d' t' hj v' h
    exact fun hb => RpT.frz s.g.fh (fps i) t' d' v' (fps j) hb (fun a ha => s.sep j i hj a ha) h
  refine ⟨frzF F H (fps i), fun j => if j = i then [] else fps j, ⟨s.g.ff.trans (frzF_same s.g.fh), frzF_sub s.g.fh, s.g.hh, frzF_tup s.g.fh s.g.tup, fun a o e => ?_⟩, ⟨by rw [List.length_set]; exact s.sl.1, fun j d' t' e => ?_⟩, fun j => ?_, fun j k hjk a ha => ?_, fun j a ha => ?_⟩
  · rw [frzF_not fun z => by have := s.fr i a z; rw [e] at this; cases this]
    exact s.g.old a o e
  · by_cases hj : j = i
    · subst hj
      have hl : j < Γ.length := (List.getElem?_eq_some_iff.mp hΓ).1
      rw [List.getElem?_set_self hl] at e
      cases e
      exact ⟨v, a1, by dsimp only; rw [if_pos rfl]; exact ⟨rfl, hrp⟩⟩
    · rw [List.getElem?_set_ne (Ne.symm hj)] at e
      obtain ⟨u, b1, b2⟩ := s.sl.2 j d' t' e
      exact ⟨u, b1, by dsimp only; rw [if_neg hj]; exact own j d' t' hj u b2 (nobC_get hb e)⟩
  · split
    · exact List.nodup_nil
    · exact s.nd j
  · split at ha
    · exact absurd ha (by simp)
    · split
      · simp
      · exact s.sep j k hjk a ha
  · split at ha
    · exact absurd ha (by simp)
    · exact s.fr j a ha
end

/-! ### targets -/
abbrev Sl := List (Nat × PyData × Ty)
def setAll : St → Sl → List V → St
  | σ, (i, _, _) :: r, v :: vs => setAll (σ.set i (some v)) r vs
  | σ, _, _ => σ
def setC : Ctx → Sl → Ctx
  | Γ, [] => Γ
  | Γ, (i, d, t) :: r => setC (Γ.set i (some (d, t))) r
def SlP (K : PySem.W.Frag) (F H : Hp) : Sl → List V → Prop
  | [], vs => vs = []
  | (_, d, t) :: r, vs => ∃ v q, vs = v :: q ∧ RpT K F H t d v [] ∧ SlP K F H r q
theorem setAll_app : ∀ (s1 s2 : Sl) (σ : St) (v1 v2 : List V), s1.length = v1.length → setAll σ (s1 ++ s2) (v1 ++ v2) = setAll (setAll σ s1 v1) s2 v2
  | [], s2, σ, v1, v2, h => by
    have e : v1 = [] := by cases v1 with | nil => rfl | cons _ _ => simp at h
    subst e; cases s2 <;> rfl
  | (i, d, t) :: r, s2, σ, v :: vs, v2, h => setAll_app r s2 (σ.set i (some v)) vs v2 (by simpa using h)
  | (i, d, t) :: r, s2, σ, [], v2, h => by simp at h
theorem SlP.len {K : PySem.W.Frag} {F H : Hp} : ∀ {s : Sl} {vs : List V}, SlP K F H s vs → s.length = vs.length
  | [], vs, h => by unfold SlP at h; subst h; rfl
  | (_, d, t) :: r, vs, h => by
    unfold SlP at h
    obtain ⟨v, q, e, _, h2⟩ := h
    subst e
    simp [SlP.len h2]
theorem SlP.app {K : PySem.W.Frag} {F H : Hp} : ∀ {s s' : Sl} {vs vs' : List V}, SlP K F H s vs → SlP K F H s' vs' → SlP K F H (s ++ s') (vs ++ vs')
  | [], s', vs, vs', h, h' => by unfold SlP at h; subst h; exact h'
  | (i, d, t) :: r, s', vs, vs', h, h' => by
    unfold SlP at h
    obtain ⟨v, q, e, h1, h2⟩ := h
    subst e
    show SlP K F H ((i, d, t) :: (r ++ s')) (v :: (q ++ vs'))
    unfold SlP
    exact ⟨v, _, rfl, h1, SlP.app h2 h'⟩
/-- target tg takes a datum typed t apart by f; the slots are stored -/
def tTg (Z : PX) {S : Type} (t : Ty) (f : PyData → R S) (sl : S → Sl) : TG := fun v σ H Q => ∃ d F, Same F H ∧ RpT Z.X.K F H t d v [] ∧ (f d).wp (fun s => ∀ vs, SlP Z.X.K F H (sl s) vs → Q (setAll σ (sl s) vs) H) fun _ _ => False
abbrev TgP (Z : PX) (tg : Expr) {S : Type} (t : Ty) (f : PyData → R S) (sl : S → Sl) : Prop := PG Z.X tg (tTg Z t f sl)
def DsP (K : PySem.W.Frag) (F H : Hp) (t : Ty) : List PyData → List V → Prop
  | [], vs => vs = []
  | d :: ds, vs => ∃ v q, vs = v :: q ∧ RpT K F H t d v [] ∧ DsP K F H t ds q
theorem DsP.of {K : PySem.W.Frag} {F H : Hp} {t : Ty} : ∀ {ds : List PyData} {vs : List V}, ds.length = vs.length → (∀ (i : Nat) d, ds[i]? = some d → ∃ x, vs[i]? = some x ∧ RpT K F H t d x []) → DsP K F H t ds vs
  | [], vs, hl, _ => by cases vs with | nil => rfl | cons _ _ => simp at hl
  | d :: ds, [], hl, _ => by simp at hl
  | d :: ds, v :: vs, hl, h => by
    obtain ⟨x, e, hx⟩ := h 0 d rfl
    simp at e; subst e
    exact ⟨_, vs, rfl, hx, DsP.of (by simpa using hl) fun i d' e => h (i + 1) d' (by simpa using e)⟩
def tTgs (Z : PX) {S : Type} (t : Ty) (f : List PyData → R S) (sl : S → Sl) : TGs := fun vs σ H Q => ∃ ds F, Same F H ∧ DsP Z.X.K F H t ds vs ∧ (f ds).wp (fun s => ∀ ws, SlP Z.X.K F H (sl s) ws → Q (setAll σ (sl s) ws) H) fun _ _ => False
abbrev TgsP (Z : PX) (es : List Expr) {S : Type} (t : Ty) (f : List PyData → R S) (sl : S → Sl) : Prop := PGs Z.X es (tTgs Z t f sl)
section
variable {Z : PX} {S S1 S2 : Type} {t : Ty} {pos : Pos}
theorem PGimp {X : Cx} {tg : Expr} {g g' : TG} (h : PG X tg g) (i : ∀ v σ H Q, g' v σ H Q → g v σ H Q) : PG X tg g' := ⟨fun pins s σ H v u Q I r q => h.run pins s σ H v u Q I r (i v σ H Q q)⟩
theorem PGsimp {X : Cx} {tg : List Expr} {g g' : TGs} (h : PGs X tg g) (i : ∀ v σ H Q, g' v σ H Q → g v σ H Q) : PGs X tg g' := ⟨fun pins s σ H v u Q I r q => h.run pins s σ H v u Q I r (i v σ H Q q)⟩
theorem tg_nm {x : Str} (i : Nat) (nd : Z.X.N.Nodup) (hi : Z.X.N[i]? = some x) (hx : Loc Z.X.env.scope x := by first | exact Or.inl rfl | exact Or.inr rfl) (hf : Z.X.fn x = true ∨ Z.X.env.scope.names.lookup x = some .local := by first | exact .inl rfl | exact .inr rfl) :
    TgP Z (.Name x pos) t (fun d => .ok d) (fun d => [(i, d, t)]) :=
  PGimp (pg_name nd hi hx hf) fun v σ H Q ⟨d, F, s, h, q⟩ => q [v] ⟨v, [], rfl, h, rfl⟩
def tsN : List PyData → R Unit
  | [] => .ok ()
  | _ => .stuck
def tsC {S1 S2 : Type} (f : PyData → R S1) (g : List PyData → R S2) : List PyData → R (S1 × S2)
  | d :: ds => (f d).bind fun a => (g ds).bind fun b => .ok (a, b)
  | [] => .stuck
@[simp] theorem tsN_nil : tsN [] = .ok () := rfl
@[simp] theorem tsC_cons {S1 S2 : Type} (f : PyData → R S1) (g : List PyData → R S2) (d : PyData) (ds : List PyData) : tsC f g (d :: ds) = (f d).bind fun a => (g ds).bind fun b => .ok (a, b) := rfl
theorem tgs_nil : TgsP Z [] t tsN (fun _ => []) := PGsimp pgs_nil fun vs σ H Q ⟨ds, F, s, h, q⟩ => by
  cases ds with
  | nil => exact ⟨h, q [] rfl⟩
  | cons d ds => exact q.elim
theorem tgs_cons {e : Expr} {es : List Expr} {f : PyData → R S1} {sl : S1 → Sl} {g : List PyData → R S2} {sg : S2 → Sl} (h1 : TgP Z e t f sl) (h2 : TgsP Z es t g sg)
    (hs : (assignEach (e :: es) Z.X.env).map (·.2) = assign e Z.X.env :: (assignEach es Z.X.env).map (·.2) := by rfl) : TgsP Z (e :: es) t (tsC f g) (fun s => sl s.1 ++ sg s.2) :=
  PGsimp (pgs_cons h1 h2 hs) fun vs σ H Q ⟨ds, F, s, h, q⟩ => by
    cases ds with
    | nil => exact q.elim
    | cons d ds =>
      obtain ⟨v, r, e, hv, hr⟩ := h
      subst e
      refine ⟨v, r, rfl, d, F, s, hv, ?_⟩
      have q' : ((f d).bind fun a => (g ds).bind fun b => R.ok (a, b)).wp (fun s => ∀ ws, SlP Z.X.K F H (sl s.1 ++ sg s.2) ws → Q (setAll σ (sl s.1 ++ sg s.2) ws) H) (fun _ _ => False) := q
      rw [R.wp_bind] at q'
      refine R.wp_mono q' (fun a qa vs1 hv1 => ?_) fun _ _ w => w
      rw [R.wp_bind] at qa
      refine ⟨ds, F, s, hr, R.wp_mono qa (fun b qb ws hw => ?_) fun _ _ w => w⟩
      have := qb (vs1 ++ ws) (hv1.app hw)
      rw [setAll_app _ _ _ _ _ hv1.len] at this
      exact this
/-- (a, b, ..) -/
def unT {S : Type} (n : Nat) (f : List PyData → R S) : PyData → R S
  | .tuple ds => if ds.length = n then f ds else .stuck
  | _ => .stuck
theorem unT_ok {S : Type} (n : Nat) (f : List PyData → R S) (ds : List PyData) (h : ds.length = n) : unT n f (.tuple ds) = f ds := if_pos h
theorem tg_tup {es : List Expr} {k n : Nat} {f : List PyData → R S} {sl : S → Sl} (hc : Z.X.calm = true) (h : TgsP Z es t.item f sl) (hl : (assignEach es Z.X.env).length = n := by rfl) (hst : (assignEach es Z.X.env).findIdx? (·.1) = none := by rfl) :
    TgP Z (.Tuple es k pos) t (unT n f) sl :=
  PGimp (pg_tup hc h hl hst) fun v σ H Q ⟨d, F, s, hd, q⟩ => by
    cases d with
    | tuple ds =>
      obtain ⟨p, vs, e, h1, h2, h3⟩ := RpT.tup s hd
      have q' : (if ds.length = n then f ds else .stuck).wp _ _ := q
      by_cases z : ds.length = n
      · rw [if_pos z] at q'
        exact ⟨p, vs, e, h1, by rw [← h2]; exact z, ds, F, s, DsP.of h2 h3, q'⟩
      · rw [if_neg z] at q'
        exact q'.elim
    | _ => exact q.elim
end

/-! ### what a loop walks -/
structure Srcs (K : PySem.W.Frag) (F : Hp) (J : It) (t : Ty) (ds : List PyData) : Prop where
  go : ∀ i F' H', i < ds.length → Same F F' → Same F' H' → TupF F' H' → J.go i H'
  stop : ∀ F' H', Same F F' → Same F' H' → TupF F' H' → J.stop ds.length H'
  yld : ∀ (i : Nat) F' H' x H'' d, ds[i]? = some d → Same F F' → Same F' H' → TupF F' H' → J.yld i H' x H'' → ∃ F'', Grow F' H' F'' H'' ∧ RpT K F'' H'' t d x []
/-- for a comprehension: what stands at its start stands through it -/
structure SrcG (K : PySem.W.Frag) (F H : Hp) (J : It) (t : Ty) (ds : List PyData) : Prop where
  go : ∀ i F' H', i < ds.length → Grow F H F' H' → J.go i H'
  stop : ∀ F' H', Grow F H F' H' → J.stop ds.length H'
  yld : ∀ (i : Nat) F' H' x H'' d, ds[i]? = some d → Grow F H F' H' → J.yld i H' x H'' → ∃ F'', Grow F' H' F'' H'' ∧ RpT K F'' H'' t d x []
theorem Srcs.toG {K : PySem.W.Frag} {F H : Hp} {J : It} {t : Ty} {ds : List PyData} (s : Srcs K F J t ds) : SrcG K F H J t ds :=
  ⟨fun i F' H' h g => s.go i F' H' h g.ff g.fh g.tup, fun F' H' g => s.stop F' H' g.ff g.fh g.tup, fun i F' H' x H'' d e g y => s.yld i F' H' x H'' d e g.ff g.fh g.tup y⟩
def tIt (Z : PX) (Γ : Ctx) (r : R (List PyData)) (t : Ty) : TI := fun σ H Rk => ∃ F, Pre Z.X.K F H Γ σ ∧ r.wp (fun ds => ∀ J F' H', Grow F H F' H' → Srcs Z.X.K F' J t ds → Rk J H') (wishOf Z.cls Z.E H)
abbrev ItP (Z : PX) (Γ : Ctx) (tg iter : Expr) (r : R (List PyData)) (t : Ty) : Prop := PI Z.X tg iter (tIt Z Γ r t)
def tItG (Z : PX) (Γ : Ctx) (r : R (List PyData)) (t : Ty) : TI := fun σ H Rk => ∃ F, Pre Z.X.K F H Γ σ ∧ r.wp (fun ds => ∀ J F' H', Grow F H F' H' → SrcG Z.X.K F' H' J t ds → Rk J H') (wishOf Z.cls Z.E H)
abbrev ItG (Z : PX) (Γ : Ctx) (tg iter : Expr) (r : R (List PyData)) (t : Ty) : Prop := PI Z.X tg iter (tItG Z Γ r t)
theorem PIimp {X : Cx} {tg iter : Expr} {w w' : TI} (h : PI X tg iter w) (i : ∀ σ H Rk, w' σ H Rk → w σ H Rk) : PI X tg iter w' := ⟨fun pins s σ H Rk I q => h.run pins s σ H Rk I (i σ H Rk q)⟩
theorem PIor {X : Cx} {tg iter : Expr} {w w' : TI} (h : PI X tg iter w) (h' : PI X tg iter w') : PI X tg iter (fun σ H Rk => w σ H Rk ∨ w' σ H Rk) :=
  ⟨fun pins s σ H Rk I q => q.elim (h.run pins s σ H Rk I) (h'.run pins s σ H Rk I)⟩
section
variable {Z : PX} {Γ : Ctx} {F H F' H' : Hp} {t ta tb : Ty} {r ra rb : R PyData} {rs : R (List PyData)} {e a b tg iter : Expr} {pos p : Pos} {m : Md}
theorem itG (h : ItP Z Γ tg iter rs t) : ItG Z Γ tg iter rs t := PIimp h fun σ H Rk ⟨F, p, q⟩ => ⟨F, p, R.wp_mono q (fun ds k J F' H' g s => k J F' H' g s.toG) fun _ _ w => w⟩
/-- what hangs on a datum -/
theorem splitI {Rk : It → Hp → Prop} {P : List PyData → It → Hp → Hp → Prop} {k : PyData → R (List PyData)} (q : ((r.bind k).wp (fun ds => ∀ J F' H', Grow F H F' H' → P ds J F' H' → Rk J H') (wishOf Z.cls Z.E H))) :
    Post Z F H t (fun v H1 => ∃ d F1 fv, r = .ok d ∧ Grow F H F1 H1 ∧ RpT Z.X.K F1 H1 t d v fv ∧ (∀ a ∈ fv, H a = none) ∧ (k d).wp (fun ds => ∀ J F' H', Grow F1 H1 F' H' → P ds J F' H' → Rk J H') (wishOf Z.cls Z.E H1)) r := by
  cases r with
  | ok d => exact fun v F1 H1 fv g h n f => ⟨d, F1, fv, rfl, g, h, f, R.wp_mono q (fun ds kq J F' H' g2 => kq J F' H' (g.trans g2)) fun _ _ w => w.mono g.hh⟩
  | exc c n => exact q
  | stuck => exact q
def seqOf : PyData → R (List PyData)
  | .list ds => .ok ds
  | .tuple ds => .ok ds
  | _ => .stuck
@[simp] theorem seqOf_list (ds : List PyData) : seqOf (.list ds) = .ok ds := rfl
@[simp] theorem seqOf_tuple (ds : List PyData) : seqOf (.tuple ds) = .ok ds := rfl
theorem srcs_list {K : PySem.W.Frag} {p : Addr} {vs : List V} {ds : List PyData} (h1 : SqL K F p vs) (h2 : RpA K F ds vs) : Srcs K F (Itl K p) .shr ds where
  go := fun i F' H' hi f1 f2 _ => by
    obtain ⟨x, hx, _⟩ := h2.get (List.getElem?_eq_getElem hi)
    exact ⟨vs, x, f2.seq (f1.seq h1), hx⟩
  stop := fun F' H' f1 f2 _ => ⟨vs, f2.seq (f1.seq h1), by rw [h2.length]; exact Nat.le_refl _⟩
  yld := fun i F' H' x H'' d e f1 f2 tu y => by
    obtain ⟨e1, y⟩ := y
    subst e1
    obtain ⟨x', hx, hr⟩ := h2.get e
    have := y vs (f2.seq (f1.seq h1))
    rw [hx] at this; cases this
    exact ⟨F', Grow.refl f2 tu, rfl, Rp.mono f1 _ _ hr⟩
theorem srcs_tup {K : PySem.W.Frag} {p : Addr} {vs : List V} {ds : List PyData} (h1 : SqT K F p vs) (h2 : RpA K F ds vs) : Srcs K F (Itt K p) .shr ds where
  go := fun i F' H' hi f1 f2 _ => by
    obtain ⟨x, hx, _⟩ := h2.get (List.getElem?_eq_getElem hi)
    exact ⟨vs, x, sameT f2 (sameT f1 h1), hx⟩
  stop := fun F' H' f1 f2 _ => ⟨vs, sameT f2 (sameT f1 h1), by rw [h2.length]; exact Nat.le_refl _⟩
  yld := fun i F' H' x H'' d e f1 f2 tu y => by
    obtain ⟨e1, y⟩ := y
    subst e1
    obtain ⟨x', hx, hr⟩ := h2.get e
    have := y vs (sameT f2 (sameT f1 h1))
    rw [hx] at this; cases this
    exact ⟨F', Grow.refl f2 tu, rfl, Rp.mono f1 _ _ hr⟩
/-- for x in e -/
theorem it_seq (h : EvP Z Γ e r .shr) : ItP Z Γ tg e (r.bind seqOf) .shr :=
  PIimp (PIor (pi_list h) (pi_tup h)) fun σ H Rk ⟨F, p, q⟩ => by
    have q' := splitI (t := .shr) q
    cases r with
    | ok d =>
      cases d with
      | list ds =>
        exact .inl ⟨F, p, q'.imp fun v H1 ⟨d, F1, fv, e1, g, h1, _, k⟩ => by
          cases e1
          obtain ⟨_, h1⟩ := h1
          obtain ⟨pp, vs, e2, h2, h3⟩ := Rp.list_iff.mp h1
          exact ⟨pp, e2, ⟨vs, g.fh.seq h2⟩, k _ F1 H1 (Grow.refl g.fh g.tup) (srcs_list h2 h3)⟩⟩
      | tuple ds =>
        exact .inr ⟨F, p, q'.imp fun v H1 ⟨d, F1, fv, e1, g, h1, _, k⟩ => by
          cases e1
          obtain ⟨_, h1⟩ := h1
          obtain ⟨pp, vs, e2, h2, h3⟩ := Rp.tuple_iff.mp h1
          exact ⟨pp, e2, ⟨vs, sameT g.fh h2⟩, k _ F1 H1 (Grow.refl g.fh g.tup) (srcs_tup h2 h3)⟩⟩
      | _ => exact q.elim
    | exc c n => exact .inl ⟨F, p, q'.imp fun v H1 ⟨d, F1, fv, e1, _⟩ => nomatch e1⟩
    | stuck => exact q.elim
theorem srcG_list {K : PySem.W.Frag} {p : Addr} {vs : List V} {ds : List PyData} (h1 : SqL K H p vs) (hl : ds.length = vs.length) (h2 : ∀ (i : Nat) d, ds[i]? = some d → ∃ x, vs[i]? = some x ∧ RpT K F H t d x []) : SrcG K F H (Itl K p) t ds where
  go := fun i F' H' hi g => by
    obtain ⟨x, hx, _⟩ := h2 i _ (List.getElem?_eq_getElem hi)
    exact ⟨vs, x, g.hh.seq h1, hx⟩
  stop := fun F' H' g => ⟨vs, g.hh.seq h1, by rw [hl]; exact Nat.le_refl _⟩
  yld := fun i F' H' x H'' d e g y => by
    obtain ⟨e1, y⟩ := y
    subst e1
    obtain ⟨x', hx, hr⟩ := h2 i d e
    have := y vs (g.hh.seq h1)
    rw [hx] at this; cases this
    exact ⟨F', Grow.refl g.fh g.tup, hr.grow g⟩
theorem srcG_tup {K : PySem.W.Frag} {p : Addr} {vs : List V} {ds : List PyData} (h1 : SqT K H p vs) (hl : ds.length = vs.length) (h2 : ∀ (i : Nat) d, ds[i]? = some d → ∃ x, vs[i]? = some x ∧ RpT K F H t d x []) : SrcG K F H (Itt K p) t ds where
  go := fun i F' H' hi g => by
    obtain ⟨x, hx, _⟩ := h2 i _ (List.getElem?_eq_getElem hi)
    exact ⟨vs, x, sameT g.hh h1, hx⟩
  stop := fun F' H' g => ⟨vs, sameT g.hh h1, by rw [hl]; exact Nat.le_refl _⟩
  yld := fun i F' H' x H'' d e g y => by
    obtain ⟨e1, y⟩ := y
    subst e1
    obtain ⟨x', hx, hr⟩ := h2 i d e
    have := y vs (sameT g.hh h1)
    rw [hx] at this; cases this
    exact ⟨F', Grow.refl g.fh g.tup, hr.grow g⟩
/-- in a comprehension: for x in e, whatever e's type -/
theorem ig_seq (h : EvP Z Γ e r ta) : ItG Z Γ tg e (r.bind seqOf) ta.item :=
  PIimp (PIor (pi_list h) (pi_tup h)) fun σ H Rk ⟨F, p, q⟩ => by
    have q' := splitI (t := ta) q
    cases r with
    | ok d =>
      cases d with
      | list ds =>
        exact .inl ⟨F, p, q'.imp fun v H1 ⟨d, F1, fv, e1, g, h1, _, k⟩ => by
          cases e1
          obtain ⟨pp, vs, e2, h2, h3, h4⟩ := RpT.lst g.fh h1
          exact ⟨pp, e2, ⟨vs, h2⟩, k _ F1 H1 (Grow.refl g.fh g.tup) (srcG_list h2 h3 h4)⟩⟩
      | tuple ds =>
        exact .inr ⟨F, p, q'.imp fun v H1 ⟨d, F1, fv, e1, g, h1, _, k⟩ => by
          cases e1
          obtain ⟨pp, vs, e2, h2, h3, h4⟩ := RpT.tup g.fh h1
          exact ⟨pp, e2, ⟨vs, h2⟩, k _ F1 H1 (Grow.refl g.fh g.tup) (srcG_tup h2 h3 h4)⟩⟩
      | _ => exact q.elim
    | exc c n => exact .inl ⟨F, p, q'.imp fun v H1 ⟨d, F1, fv, e1, _⟩ => nomatch e1⟩
    | stuck => exact q.elim

/-! ranges -/
def rangeL (lo : Int) (n : Nat) : List PyData := (List.range n).map fun (k : Nat) => .int (lo + k)
theorem rangeL_len (lo : Int) (n : Nat) : (rangeL lo n).length = n := by simp [rangeL]
theorem rangeL_get {lo : Int} {n i : Nat} {d : PyData} (h : (rangeL lo n)[i]? = some d) : i < n ∧ d = .int (lo + i) := by
  unfold rangeL at h
  rw [List.getElem?_map] at h
  cases e : (List.range n)[i]? with
  | none => rw [e] at h; cases h
  | some k =>
    rw [e] at h
    obtain ⟨h1, h2⟩ := List.getElem?_eq_some_iff.mp e
    simp at h1 h2 h
    subst h2
    exact ⟨h1, h.symm⟩
theorem srcs_rng {K : PySem.W.Frag} {lo : Int} {n : Nat} : Srcs K F (Itr lo n) .imm (rangeL lo n) where
  go := fun i F' H' hi _ _ _ => by rw [rangeL_len] at hi; exact hi
  stop := fun F' H' _ _ _ => by rw [rangeL_len]; exact Nat.le_refl n
  yld := fun i F' H' x H'' d e f1 f2 tu y => by
    obtain ⟨e1, y⟩ := y
    subst e1; subst y
    obtain ⟨_, rfl⟩ := rangeL_get e
    exact ⟨F', Grow.refl f2 tu, rfl, Rp.int_iff.mpr rfl, rfl⟩
def Bd (i : Int) : Prop := -(2 ^ 62) ≤ i ∧ i < 2 ^ 62
instance (i : Int) : Decidable (Bd i) := inferInstanceAs (Decidable (_ ∧ _))
def rng1 : List PyData → R (List PyData)
  | [.int j] => if Bd j then .ok (rangeL 0 j.toNat) else .stuck
  | _ => .stuck
def rng2 : List PyData → R (List PyData)
  | [.int i, .int j] => if Bd i ∧ Bd j then .ok (rangeL i (j - i).toNat) else .stuck
  | _ => .stuck
theorem splitIA {Rk : It → Hp → Prop} {P : List PyData → It → Hp → Hp → Prop} {k : List PyData → R (List PyData)} (q : ((rs.bind k).wp (fun ds => ∀ J F' H', Grow F H F' H' → P ds J F' H' → Rk J H') (wishOf Z.cls Z.E H))) :
    PostA Z F H m (fun vs H1 => ∃ ds F1, rs = .ok ds ∧ Grow F H F1 H1 ∧ MdP Z.X.K F1 H1 m ds vs ∧ (k ds).wp (fun ds => ∀ J F' H', Grow F1 H1 F' H' → P ds J F' H' → Rk J H') (wishOf Z.cls Z.E H1)) rs := by
  cases rs with
  | ok d => exact fun v F1 H1 g h => ⟨d, F1, rfl, g, h, R.wp_mono q (fun ds kq J F' H' g2 => kq J F' H' (g.trans g2)) fun _ _ w => w.mono g.hh⟩
  | exc c n => exact q
  | stuck => exact q
theorem PostA.imp {Q Q' : List V → Hp → Prop} (p : PostA Z F H m Q rs) (i : ∀ vs H', Q vs H' → Q' vs H') : PostA Z F H m Q' rs := R.wp_mono p (fun _ q v F' H' g h => i _ _ (q v F' H' g h)) fun _ _ w => w
theorem RpA.one {K : PySem.W.Frag} {x : PyData} {vs : List V} (h : RpA K H [x] vs) : ∃ v, vs = [v] ∧ Rp K H x v := by
  unfold RpA at h
  obtain ⟨v, r, e, h1, h2⟩ := h
  unfold RpA at h2
  subst h2; subst e
  exact ⟨v, rfl, h1⟩
theorem it_rng1 (hm : Z.X.mg "range" = none) (ha : ArP Z Γ [a] rs m) (hg : Gl Z.X "range" := by rfl) (hs : starEach [a] Z.X.env = [(false, eval a Z.X.env)] := by rfl) : ItP Z Γ tg (.Call (.Name "range" p) [a] [] pos) (rs.bind rng1) .imm :=
  PIimp (pi_range1 hg hm ha hs) fun σ H Rk ⟨F, p, q⟩ => ⟨F, p, (splitIA (m := m) q).imp fun vs H1 ⟨ds, F1, hrs, g, h1, k⟩ => by
    clear hrs
    unfold rng1 at k
    split at k
    · rename_i j
      obtain ⟨v, e, h2⟩ := (h1.rp g.fh).one
      split at k
      · rename_i hb
        exact ⟨j, by rw [e, Rp.int_iff.mp h2], hb.1, hb.2, k _ F1 H1 (Grow.refl g.fh g.tup) srcs_rng⟩
      · exact k.elim
    · exact k.elim⟩
theorem it_rng2 (hm : Z.X.mg "range" = none) (ha : ArP Z Γ [a, b] rs m) (hg : Gl Z.X "range" := by rfl) (hs : starEach [a, b] Z.X.env = [(false, eval a Z.X.env), (false, eval b Z.X.env)] := by rfl) (hs2 : starEach [b] Z.X.env = [(false, eval b Z.X.env)] := by rfl) :
    ItP Z Γ tg (.Call (.Name "range" p) [a, b] [] pos) (rs.bind rng2) .imm :=
  PIimp (pi_range2 hg hm ha hs hs2) fun σ H Rk ⟨F, p, q⟩ => ⟨F, p, (splitIA (m := m) q).imp fun vs H1 ⟨ds, F1, hrs, g, h1, k⟩ => by
    clear hrs
    unfold rng2 at k
    split at k
    · rename_i i j
      obtain ⟨v, u, e, h2, h3⟩ := (h1.rp g.fh).two
      split at k
      · rename_i hb
        exact ⟨i, j, by rw [e, Rp.int_iff.mp h2, Rp.int_iff.mp h3], ⟨hb.1.1, hb.1.2, hb.2.1, hb.2.2⟩, k _ F1 H1 (Grow.refl g.fh g.tup) srcs_rng⟩
      · exact k.elim
    · exact k.elim⟩
/-- range(a, b, -1) -/
def rngD (hi : Int) (n : Nat) : List PyData := (List.range n).map fun (k : Nat) => .int (hi - k)
theorem rngD_len (lo : Int) (n : Nat) : (rngD lo n).length = n := by simp [rngD]
theorem rngD_get {lo : Int} {n i : Nat} {d : PyData} (h : (rngD lo n)[i]? = some d) : i < n ∧ d = .int (lo - i) := by
  unfold rngD at h
  rw [List.getElem?_map] at h
  cases e : (List.range n)[i]? with
  | none => rw [e] at h; cases h
  | some k =>
    rw [e] at h
    obtain ⟨h1, h2⟩ := List.getElem?_eq_some_iff.mp e
    simp at h1 h2 h
    subst h2
    exact ⟨h1, h.symm⟩
def rng3d : List PyData → R (List PyData)
  | [.int i, .int j, .int c] => if c = -1 ∧ Bd i ∧ Bd j then .ok (rngD i (i - j).toNat) else .stuck
  | _ => .stuck
theorem srcs_rngD {K : PySem.W.Frag} {lo : Int} {n : Nat} : Srcs K F (Itc lo (-1) n) .imm (rngD lo n) where
  go := fun i F' H' hi _ _ _ => by rw [rngD_len] at hi; exact hi
  stop := fun F' H' _ _ _ => by rw [rngD_len]; exact Nat.le_refl n
  yld := fun i F' H' x H'' d e f1 f2 tu y => by
    obtain ⟨e1, y⟩ := y
    subst e1; subst y
    obtain ⟨_, rfl⟩ := rngD_get e
    exact ⟨F', Grow.refl f2 tu, rfl, Rp.int_iff.mpr (by congr 1; omega), rfl⟩
theorem RpA.three {K : PySem.W.Frag} {x y z : PyData} {vs : List V} (h : RpA K H [x, y, z] vs) : ∃ v u w, vs = [v, u, w] ∧ Rp K H x v ∧ Rp K H y u ∧ Rp K H z w := by
  unfold RpA at h
  obtain ⟨v, r, e, h1, h2⟩ := h
  obtain ⟨u, w, e2, h3, h4⟩ := h2.two
  subst e2; subst e
  exact ⟨v, u, w, rfl, h1, h3, h4⟩
theorem it_rng3d {c : Expr} (hm : Z.X.mg "range" = none) (ha : ArP Z Γ [a, b, c] rs m) (hg : Gl Z.X "range" := by rfl) (hs : starEach [a, b, c] Z.X.env = (false, eval a Z.X.env) :: starEach [b, c] Z.X.env := by rfl) (hpl : (backTo pos (starEach [b, c] Z.X.env)).any (·.1) = false := by rfl) :
    ItP Z Γ tg (.Call (.Name "range" p) [a, b, c] [] pos) (rs.bind rng3d) .imm :=
  PIimp (pi_range3 hg hm ha hs hpl) fun σ H Rk ⟨F, p, q⟩ => ⟨F, p, (splitIA (m := m) q).imp fun vs H1 ⟨ds, F1, hrs, g, h1, k⟩ => by
    clear hrs
    unfold rng3d at k
    split at k
    · rename_i i j c
      obtain ⟨v, u, w, e, h2, h3, h4⟩ := (h1.rp g.fh).three
      split at k
      · rename_i hb
        obtain ⟨rfl, hb1, hb2⟩ := hb
        exact ⟨i, j, -1, _, by rw [e, Rp.int_iff.mp h2, Rp.int_iff.mp h3, Rp.int_iff.mp h4], RgC.neg hb1.1 hb1.2 hb2.1 hb2.2, k _ F1 H1 (Grow.refl g.fh g.tup) srcs_rngD⟩
      · exact k.elim
    · exact k.elim⟩
/-! enumerate, zip -/
def enumL (ds : List PyData) : List PyData := ds.mapIdx fun (i : Nat) d => .tuple [.int i, d]
theorem enumL_get {ds : List PyData} {i : Nat} {d : PyData} (h : (enumL ds)[i]? = some d) : ∃ x, ds[i]? = some x ∧ d = .tuple [.int i, x] := by
  unfold enumL at h
  rw [List.getElem?_mapIdx] at h
  cases e : ds[i]? with
  | none => rw [e] at h; cases h
  | some x => rw [e] at h; exact ⟨x, rfl, (Option.some.inj h).symm⟩
theorem enumL_len (ds : List PyData) : (enumL ds).length = ds.length := by simp [enumL]
theorem srcs_enum {K : PySem.W.Frag} {p : Addr} {vs : List V} {ds : List PyData} (h1 : SqL K F p vs) (h2 : RpA K F ds vs) : Srcs K F (Ite K p) .shr (enumL ds) where
  go := fun i F' H' hi f1 f2 _ => by
    rw [enumL_len] at hi
    obtain ⟨x, hx, _⟩ := h2.get (List.getElem?_eq_getElem hi)
    exact ⟨vs, x, f2.seq (f1.seq h1), hx⟩
  stop := fun F' H' f1 f2 _ => ⟨vs, f2.seq (f1.seq h1), by rw [enumL_len, h2.length]; exact Nat.le_refl _⟩
  yld := fun i F' H' x H'' d e f1 f2 tu y => by
    obtain ⟨T, x', e1, nT, e2, y⟩ := y
    obtain ⟨dx, hd, rfl⟩ := enumL_get e
    obtain ⟨x2, hx, hr⟩ := h2.get hd
    have := y vs (f2.seq (f1.seq h1))
    rw [hx] at this; cases this
    subst e1; subst e2
    have g := grow_in (o := .tup [.int (i : Nat), x']) f2 tu nT
    exact ⟨_, g, rfl, Rp.tuple_iff.mpr ⟨T, _, rfl, .inl (.inl upd_same), RpA.cons (Rp.int_iff.mpr rfl) (RpA.cons (Rp.mono (f1.trans g.ff) _ _ hr) RpA.nil)⟩⟩
def listOf : PyData → R (List PyData)
  | .list ds => .ok ds
  | _ => .stuck
@[simp] theorem listOf_list (ds : List PyData) : listOf (.list ds) = .ok ds := rfl
def enumR : List PyData → R (List PyData)
  | [.list ds] => .ok (enumL ds)
  | _ => .stuck
@[simp] theorem enumR_list (ds : List PyData) : enumR [.list ds] = .ok (enumL ds) := rfl
theorem it_enum {elts : List Expr} {kk : Nat} {tpos : Pos} (hm : Z.X.mg "enumerate" = none) (ha : ArP Z Γ [a] rs .fr) (hg : Gl Z.X "enumerate" := by rfl) (hs : starEach [a] Z.X.env = [(false, eval a Z.X.env)] := by rfl) :
    ItP Z Γ (.Tuple elts kk tpos) (.Call (.Name "enumerate" p) [a] [] pos) (rs.bind enumR) .shr :=
  PIimp (pi_enum hg hm ha hs) fun σ H Rk ⟨F, p, q⟩ => ⟨F, p, (splitIA (m := .fr) q).imp fun vs H1 ⟨ds, F1, hrs, g, h1, k⟩ => by
    clear hrs
    unfold enumR at k
    split at k
    · rename_i xs
      obtain ⟨v, e, h2⟩ := RpA.one h1
      obtain ⟨pp, ws, e2, h3, h4⟩ := Rp.list_iff.mp h2
      exact ⟨pp, ws, by rw [e, e2], g.fh.seq h3, k _ F1 H1 (Grow.refl g.fh g.tup) (srcs_enum h3 h4)⟩
    · exact k.elim⟩
def zipL (ds es : List PyData) : List PyData := List.zipWith (fun d e => .tuple [d, e]) ds es
theorem zipL_get {ds es : List PyData} {i : Nat} {d : PyData} (h : (zipL ds es)[i]? = some d) : ∃ x y, ds[i]? = some x ∧ es[i]? = some y ∧ d = .tuple [x, y] := by
  unfold zipL at h
  rw [List.getElem?_zipWith] at h
  cases e : ds[i]? with
  | none => rw [e] at h; cases h
  | some x =>
    cases e2 : es[i]? with
    | none => rw [e, e2] at h; cases h
    | some y => rw [e, e2] at h; exact ⟨x, y, rfl, rfl, (Option.some.inj h).symm⟩
theorem zipL_len (ds es : List PyData) : (zipL ds es).length = min ds.length es.length := by simp [zipL]
theorem srcs_zip {K : PySem.W.Frag} {p p2 : Addr} {vs us : List V} {ds es : List PyData} (h1 : SqL K F p vs) (h2 : RpA K F ds vs) (k1 : SqL K F p2 us) (k2 : RpA K F es us) : Srcs K F (Itz K p p2) .shr (zipL ds es) where
  go := fun i F' H' hi f1 f2 _ => by
    rw [zipL_len] at hi
    obtain ⟨x, hx, _⟩ := h2.get (List.getElem?_eq_getElem (show i < ds.length by omega))
    obtain ⟨y, hy, _⟩ := k2.get (List.getElem?_eq_getElem (show i < es.length by omega))
    exact ⟨vs, us, x, y, f2.seq (f1.seq h1), f2.seq (f1.seq k1), hx, hy⟩
  stop := fun F' H' f1 f2 _ => ⟨vs, us, f2.seq (f1.seq h1), f2.seq (f1.seq k1), by
    rw [zipL_len]
    have := h2.length
    have := k2.length
    omega⟩
  yld := fun i F' H' x H'' d e f1 f2 tu y => by
    obtain ⟨T, x', y', e1, nT, e2, y1, y2⟩ := y
    obtain ⟨dx, dy, hd, hd2, rfl⟩ := zipL_get e
    obtain ⟨x2, hx, hr⟩ := h2.get hd
    obtain ⟨x3, hx3, hr3⟩ := k2.get hd2
    have := y1 vs (f2.seq (f1.seq h1))
    rw [hx] at this; cases this
    have := y2 us (f2.seq (f1.seq k1))
    rw [hx3] at this; cases this
    subst e1; subst e2
    have g := grow_in (o := .tup [x', y']) f2 tu nT
    exact ⟨_, g, rfl, Rp.tuple_iff.mpr ⟨T, _, rfl, .inl (.inl upd_same), RpA.cons (Rp.mono (f1.trans g.ff) _ _ hr) (RpA.cons (Rp.mono (f1.trans g.ff) _ _ hr3) RpA.nil)⟩⟩
def zipR : List PyData → R (List PyData)
  | [.list ds, .list es] => .ok (zipL ds es)
  | _ => .stuck
@[simp] theorem zipR_list (ds es : List PyData) : zipR [.list ds, .list es] = .ok (zipL ds es) := rfl
theorem it_zip {elts : List Expr} {kk : Nat} {tpos : Pos} (hm : Z.X.mg "zip" = none) (ha : ArP Z Γ [a, b] rs .fr) (hg : Gl Z.X "zip" := by rfl) (hs : starEach [a, b] Z.X.env = (false, eval a Z.X.env) :: starEach [b] Z.X.env := by rfl) (hpl : (backTo pos (starEach [b] Z.X.env)).any (·.1) = false := by rfl) :
    ItP Z Γ (.Tuple elts kk tpos) (.Call (.Name "zip" p) [a, b] [] pos) (rs.bind zipR) .shr :=
  PIimp (pi_zip hg hm ha hs hpl) fun σ H Rk ⟨F, p, q⟩ => ⟨F, p, (splitIA (m := .fr) q).imp fun vs H1 ⟨ds, F1, hrs, g, h1, k⟩ => by
    clear hrs
    unfold zipR at k
    split at k
    · rename_i xs ys
      obtain ⟨v, u, e, h2, h3⟩ := RpA.two h1
      obtain ⟨p1, w1, e1, a1, a2⟩ := Rp.list_iff.mp h2
      obtain ⟨p2, w2, e2, b1, b2⟩ := Rp.list_iff.mp h3
      exact ⟨p1, p2, w1, w2, by rw [e, e1, e2], g.fh.seq a1, g.fh.seq b1, k _ F1 H1 (Grow.refl g.fh g.tup) (srcs_zip a1 a2 b1 b2)⟩
    · exact k.elim⟩
end

/-! ### loops -/
/-- no exception -/
def R.noX {α : Type} : R α → Prop
  | .exc _ _ => False
  | _ => True
theorem noX_ok (d : PyData) : (R.ok d).noX := trivial
theorem noX_tsN (ds : List PyData) : (tsN ds).noX := by cases ds <;> trivial
theorem noX_tsC {S1 S2 : Type} {f : PyData → R S1} {g : List PyData → R S2} (h1 : ∀ d, (f d).noX) (h2 : ∀ ds, (g ds).noX) (ds : List PyData) : (tsC f g ds).noX := by
  cases ds with
  | nil => trivial
  | cons d r =>
    have a := h1 d
    have b := h2 r
    show ((f d).bind _).noX
    cases e : f d with
    | exc c n => rw [e] at a; exact a
    | stuck => trivial
    | ok x =>
      show ((g r).bind _).noX
      cases e2 : g r with
      | exc c n => rw [e2] at b; exact b
      | stuck => trivial
      | ok y => trivial
theorem noX_unT {S : Type} {n : Nat} {f : List PyData → R S} (h : ∀ ds, (f ds).noX) (d : PyData) : (unT n f d).noX := by
  cases d with
  | tuple ds =>
    show (if ds.length = n then f ds else .stuck).noX
    split
    · exact h ds
    · trivial
  | _ => trivial
def forR {L : Type} (g : PyData → L → R (Fl L L)) : List PyData → L → R (Fl L L)
  | [], s => .ok (.nx s)
  | d :: ds, s => (g d s).bind fun f => match f with
    | .nx s' => forR g ds s'
    | .ct s' => forR g ds s'
    | .bk s' => .ok (.bk s')
    | .rt d => .ok (.rt d)
def Fl.done {S L Lo : Type} (f : Fl L L) (k : L → R (Fl S Lo)) : R (Fl S Lo) := match f with
  | .nx s => k s
  | .bk s => k s
  | .ct s => k s
  | .rt d => .ok (.rt d)
@[simp] theorem forR_nil {L : Type} (g : PyData → L → R (Fl L L)) (s : L) : forR g [] s = .ok (.nx s) := rfl
theorem forR_cons {L : Type} (g : PyData → L → R (Fl L L)) (d : PyData) (ds : List PyData) (s : L) : forR g (d :: ds) s = (g d s).bind fun f => match f with
    | .nx s' => forR g ds s'
    | .ct s' => forR g ds s'
    | .bk s' => .ok (.bk s')
    | .rt d => .ok (.rt d) := rfl
@[simp] theorem Fl.done_nx {S L Lo : Type} (s : L) (k : L → R (Fl S Lo)) : Fl.done (.nx s : Fl L L) k = k s := rfl
@[simp] theorem Fl.done_bk {S L Lo : Type} (s : L) (k : L → R (Fl S Lo)) : Fl.done (.bk s : Fl L L) k = k s := rfl
@[simp] theorem Fl.done_ct {S L Lo : Type} (s : L) (k : L → R (Fl S Lo)) : Fl.done (.ct s : Fl L L) k = k s := rfl
@[simp] theorem Fl.done_rt {S L Lo : Type} (d : PyData) (k : L → R (Fl S Lo)) : Fl.done (.rt d : Fl L L) k = .ok (.rt d) := rfl
def whileR {L : Type} (c : L → R Bool) (g : L → R (Fl L L)) : Nat → L → R (Fl L L)
  | 0, _ => .stuck
  | n + 1, s => (c s).bind fun b => if b = true then (g s).bind fun f => match f with
    | .nx s' => whileR c g n s'
    | .ct s' => whileR c g n s'
    | .bk s' => .ok (.bk s')
    | .rt d => .ok (.rt d)
    else .ok (.nx s)
section
variable {Y : BX} {F0 : Hp} {S L Lo SX : Type} {Γ : Ctx} {Δ : S → Ctx} {Λ : L → Ctx} {Λo : Lo → Ctx} {F H F' H' F1 : Hp} {t ta tb : Ty} {r : R PyData} {rs : R (List PyData)} {e a b tg iter : Expr} {σ : St} {pos p : Pos} {st : Stmt} {rest body : List Stmt} {D : Ends} {fps : Nat → List Addr}
/-- several slots are stored -/
theorem StOk.setAll : ∀ {sl : Sl} {vs : List V} {Γ : Ctx} {σ : St} {F H : Hp}, (∃ fps, StI Y.Z.X.K F0 Y.He Γ F σ H fps) → SlP Y.Z.X.K F H sl vs → ∃ fps, StI Y.Z.X.K F0 Y.He (setC Γ sl) F (PL.setAll σ sl vs) H fps
  | [], vs, Γ, σ, F, H, s, h => by
    unfold SlP at h
    subst h
    exact s
  | (i, d, t) :: r, vs, Γ, σ, F, H, ⟨fps, s⟩, h => by
    unfold SlP at h
    obtain ⟨v, q, e, h1, h2⟩ := h
    subst e
    have s1 : ∃ fps, StI Y.Z.X.K F0 Y.He (Γ.set i (some (d, t))) F (σ.set i (some v)) H fps := by
      refine ⟨fun j => if j = i then [] else fps j, s.g, ⟨by rw [List.length_set, List.length_set]; exact s.sl.1, fun j d' t' e => ?_⟩, fun j => ?_, fun j k hjk a ha => ?_, fun j a ha => ?_⟩
      · by_cases hj : j = i
        · subst hj
          have hl : j < Γ.length := by
            have := (List.getElem?_eq_some_iff.mp e).1
            simpa using this
          rw [List.getElem?_set_self hl] at e
          cases e
          refine ⟨v, by rw [List.getElem?_set_self (Nat.lt_of_lt_of_le hl s.sl.1)], ?_⟩
          dsimp only
          rw [if_pos rfl]
          exact h1
        · rw [List.getElem?_set_ne (Ne.symm hj)] at e
          obtain ⟨u, a1, a2⟩ := s.sl.2 j d' t' e
          refine ⟨u, by rw [List.getElem?_set_ne (Ne.symm hj)]; exact a1, ?_⟩
          dsimp only
          rw [if_neg hj]
          exact a2
      · split
        · exact List.nodup_nil
        · exact s.nd j
      · split at ha
        · exact absurd ha (by simp)
        · split
          · simp
          · exact s.sep j k hjk a ha
      · split at ha
        · exact absurd ha (by simp)
        · exact s.fr j a ha
    have z := StOk.setAll (sl := r) (vs := q) s1 h2
    exact z
/-- the part that stays may be told greater: what lies between is forgotten -/
theorem StI.rebase (s : StI Y.Z.X.K F0 Y.He Γ F σ H fps) : StI Y.Z.X.K F Y.He Γ F σ H fps := ⟨⟨Same.refl F, s.g.fh, s.g.hh, s.g.tup, fun _ _ _ => rfl⟩, s.sl, s.nd, s.sep, s.fr⟩
theorem Grow.unbase {F0 He F1 H1 F2 H2 : Hp} (a : Grow F0 He F1 H1) (b : Grow F1 He F2 H2) : Grow F0 He F2 H2 := ⟨a.ff.trans b.ff, b.fh, b.hh, b.tup, fun p o e => (b.old p o e).trans (a.old p o e)⟩
theorem StI.unbase (g : Grow F0 Y.He F1 H') (s : StI Y.Z.X.K F1 Y.He Γ F σ H fps) : StI Y.Z.X.K F0 Y.He Γ F σ H fps := ⟨g.unbase s.g, s.sl, s.nd, s.sep, s.fr⟩
theorem flP.rebase {Δ : S → Ctx} {Λ : L → Ctx} {f : Fl S L} (g : Grow F0 Y.He F1 H') (T : Fl S L → Prop) (q : flP Y F0 Δ Λ D f) : flP Y F1 Δ Λ D f := by
  cases f with
  | nx s => exact fun σ' H2 ⟨F2, fps2, s2⟩ => q σ' H2 ⟨F2, fps2, s2.unbase g⟩
  | bk s => exact fun σ' H2 ⟨F2, fps2, s2⟩ => q σ' H2 ⟨F2, fps2, s2.unbase g⟩
  | ct s => exact fun σ' H2 ⟨F2, fps2, s2⟩ => q σ' H2 ⟨F2, fps2, s2.unbase g⟩
  | rt d => exact fun v F2 H2 fv g2 => q v F2 H2 fv (g.unbase g2)
/-- for tg in iter: body -/
theorem bl_for {f : PyData → R SX} {sl : SX → Sl} {g : SX → L → R (Fl L L)} {k : L → R (Fl S Lo)} {s0 : L} (hp : PassesOwn (model Y.Z.X.prog Y.Z.X.w) Y.Z.X.A Y.Z.X.env Y.Z.X.xe) (hc : Y.Z.X.calm = true) (hi : ItP Y.Z Γ tg iter rs t) (htg : TgP Y.Z tg t f sl) (hx : ∀ d, (f d).noX) (w0 : Wk Γ (Λ s0))
    (hb : ∀ x s, BlP Y (setC (Λ s) (sl x)) body Λ Λ (g x s)) (hk : ∀ s, BlP Y (Λ s) rest Δ Λo (k s)) (hs : ∀ x, foldedSetIterable iter Y.Z.X.env x = pure x := by intro _; rfl) :
    BlP Y Γ (.For tg iter body [] pos :: rest) Δ Λo (rs.bind fun ds => (forR (fun d s => (f d).bind fun x => g x s) ds s0).bind fun fl => fl.done k) := by
  have hbody : PSs Y.Z.X body (fun D σ H => ∃ x s, tBl Y (setC (Λ s) (sl x)) Λ Λ (g x s) D σ H) := ⟨fun pins s σ H D I ⟨x, l, h⟩ => (hb x l).run pins s σ H D I h⟩
  have hrest : PSs Y.Z.X rest (fun D σ H => ∃ s, tBl Y (Λ s) Δ Λo (k s) D σ H) := ⟨fun pins s σ H D I ⟨d, h⟩ => (hk d).run pins s σ H D I h⟩
  refine PSsimp (pss_cons (ps_for hp hc hi htg hbody hs) hrest) fun D σ H ⟨F0, ⟨F, fps, s⟩, q⟩ => ?_
  refine ⟨F, s.pre, ?_⟩
  cases rs with
  | exc c n => exact wishOf.mono s.g.hh q
  | stuck => exact q
  | ok ds =>
    intro J F1 H1 g1 sr
    have s1 := s.grow g1
    have q0 : PostS Y F0 Δ Λo D ((forR (fun d s => (f d).bind fun x => g x s) ds s0).bind fun fl => fl.done k) := q
    refine ⟨fun i m σ' H' => m = ds.length - i ∧ i ≤ ds.length ∧ ∃ l, StOk Y.Z.X.K F1 Y.He (Λ l) σ' H' ∧ PostS Y F0 Δ Λo D ((forR (fun d s => (f d).bind fun x => g x s) (ds.drop i) l).bind fun fl => fl.done k), ⟨_, rfl, Nat.zero_le _, s0, (show StOk Y.Z.X.K F1 Y.He Γ σ H1 from ⟨F1, fps, s1.rebase⟩).wk w0, by simpa using q0⟩, ?_⟩
    rintro i m σ' H' ⟨rfl, hi, l, ⟨F2, fps2, s2⟩, q2⟩
    by_cases hlt : i < ds.length
    · refine .inr ⟨sr.go i F2 H' hlt s2.g.ff s2.g.fh s2.g.tup, fun σ3 H3 => ∃ l, StOk Y.Z.X.K F1 Y.He (Λ l) σ3 H3 ∧ PostS Y F0 Δ Λo D ((forR (fun d s => (f d).bind fun x => g x s) (ds.drop (i + 1)) l).bind fun fl => fl.done k), fun σ3 H3 ⟨l3, a3, b3⟩ => ⟨ds.length - (i + 1), by omega, rfl, hlt, l3, a3, b3⟩, fun x H3 y => ?_⟩
      obtain ⟨F3, g3, h3⟩ := sr.yld i F2 H' x H3 ds[i] (List.getElem?_eq_getElem hlt) s2.g.ff s2.g.fh s2.g.tup y
      have s3 := s2.grow g3
      rw [List.drop_eq_getElem_cons hlt, forR_cons] at q2
      refine ⟨ds[i], F3, s3.g.fh, h3, ?_⟩
      cases hfd : f ds[i] with
      | exc c n =>
        have := hx ds[i]
        rw [hfd] at this
        exact this.elim
      | stuck => rw [hfd] at q2; exact q2
      | ok sx =>
        rw [hfd] at q2
        intro vs hvs
        obtain ⟨fps4, s4⟩ := StOk.setAll ⟨fps2, s3⟩ hvs
        refine ⟨sx, l, F1, ⟨F3, fps4, s4⟩, ?_⟩
        have q3 : PostS Y F0 Δ Λo D (((g sx l).bind fun f_1 => match f_1 with
            | .nx s' => forR (fun d s => (f d).bind fun x => g x s) (ds.drop (i + 1)) s'
            | .ct s' => forR (fun d s => (f d).bind fun x => g x s) (ds.drop (i + 1)) s'
            | .bk s' => .ok (.bk s')
            | .rt d => .ok (.rt d)).bind fun fl => fl.done k) := q2
        rw [R.bind_assoc] at q3
        cases hg : g sx l with
        | exc c n => rw [hg] at q3; exact q3
        | stuck => rw [hg] at q3; exact q3
        | ok fl =>
          rw [hg] at q3
          cases fl with
          | nx l' => exact fun σ5 H5 s5 => ⟨l', s5, q3⟩
          | ct l' => exact fun σ5 H5 s5 => ⟨l', s5, q3⟩
          | bk l' => exact fun σ5 H5 ⟨F5, fps5, s5⟩ => ⟨l', F0, ⟨F5, fps5, s5.unbase s1.g⟩, q3⟩
          | rt d => exact fun v F5 H5 fv g5 => q3 v F5 H5 fv (s1.g.unbase g5)
    · have ei : i = ds.length := by omega
      subst ei
      refine .inl ⟨sr.stop F2 H' s2.g.ff s2.g.fh s2.g.tup, ?_⟩
      rw [List.drop_length] at q2
      exact ⟨l, F0, ⟨F2, fps2, s2.unbase s1.g⟩, q2⟩
end

/-! ### what is one's own is changed -/
section
variable {K : PySem.W.Frag} {F H H2 : Hp}
/-- the heap may change at D, where nothing of this stands -/
theorem RpT.chg {D : Addr} (tu : TupF F H) (s2 : Same F H2) (hq : ∀ a, a ≠ D → H2 a = H a) : ∀ (t : Ty) (d : PyData) (v : V) (fp : List Addr), t.firm = true → (∀ a ∈ fp, a ≠ D) → RpT K F H t d v fp → RpT K F H2 t d v fp
  | .any, d, v, _, f, _, _ => by simp [Ty.firm] at f
  | .bor _, d, v, _, f, _, _ => by simp [Ty.firm] at f
  | .bdc _, d, v, _, f, _, _ => by simp [Ty.firm] at f
  | .shr, d, v, _, _, _, h => h
  | .imm, d, v, _, _, _, ⟨e, h, f⟩ => ⟨e, Rp.mono s2 d v (Rp.flat tu d v f h), f⟩
  | .own t, _, _, _, f, n, ⟨ds, p, vs, fs, e1, e2, h1, h2, h3, e3⟩ => by
    subst e3
    have key : ∀ {ds : List PyData} {vs : List V} {fs : List Addr}, OwnA (RpT K F H t) ds vs fs → (∀ a ∈ fs, a ≠ D) → OwnA (RpT K F H2 t) ds vs fs := by
      intro ds vs fs h
      induction h with
      | nil => intro _; exact .nil
      | cons q _ ih => intro z; exact .cons (RpT.chg tu s2 hq t _ _ _ (by simpa [Ty.firm] using f) (fun a ha => z a (List.mem_append_left _ ha)) q) (ih fun a ha => z a (List.mem_append_right _ ha))
    exact ⟨ds, p, vs, fs, e1, e2, (hq p (n p List.mem_cons_self)).trans h1, h2, key h3 fun a ha => n a (List.mem_cons_of_mem _ ha), rfl⟩
  | .dct t, _, _, _, f, n, ⟨ds, p, vs, fs, e1, e2, ⟨h1, h1'⟩, h2, h3, e3⟩ => by
    subst e3
    have key : ∀ {ds : List PyData} {vs : List V} {fs : List Addr}, OwnA (RpT K F H t) ds vs fs → (∀ a ∈ fs, a ≠ D) → OwnA (RpT K F H2 t) ds vs fs := by
      intro ds vs fs h
      induction h with
      | nil => intro _; exact .nil
      | cons q _ ih => intro z; exact .cons (RpT.chg tu s2 hq t _ _ _ (by simpa [Ty.firm] using f) (fun a ha => z a (List.mem_append_left _ ha)) q) (ih fun a ha => z a (List.mem_append_right _ ha))
    exact ⟨ds, p, vs, fs, e1, e2, ⟨(hq p (n p List.mem_cons_self)).trans h1, h1'⟩, h2, key h3 fun a ha => n a (List.mem_cons_of_mem _ ha), rfl⟩
theorem OwnA.chg {D : Addr} {t : Ty} (tu : TupF F H) (s2 : Same F H2) (hq : ∀ a, a ≠ D → H2 a = H a) (f : t.firm = true) : ∀ {ds : List PyData} {vs : List V} {fs : List Addr}, OwnA (RpT K F H t) ds vs fs → (∀ a ∈ fs, a ≠ D) → OwnA (RpT K F H2 t) ds vs fs
  | _, _, _, .nil, _ => .nil
  | _, _, _, .cons q r, z => .cons (RpT.chg tu s2 hq t _ _ _ f (fun a ha => z a (List.mem_append_left _ ha)) q) (OwnA.chg tu s2 hq f r fun a ha => z a (List.mem_append_right _ ha))
theorem OwnA.app {P : PyData → V → List Addr → Prop} : ∀ {ds es : List PyData} {vs us : List V} {fs gs : List Addr}, OwnA P ds vs fs → OwnA P es us gs → OwnA P (ds ++ es) (vs ++ us) (fs ++ gs)
  | _, _, _, _, _, _, .nil, h => h
  | _, _, _, _, _, _, .cons a r, h => by
    rw [List.append_assoc]
    exact .cons a (OwnA.app r h)
theorem OwnA.one {P : PyData → V → List Addr → Prop} {d : PyData} {v : V} {f : List Addr} (h : P d v f) : OwnA P [d] [v] f := by
  have := OwnA.cons h (OwnA.nil (P := P))
  rwa [List.append_nil] at this
/-- no address within -/
def Ty.thin : Ty → Bool
  | .imm => true
  | .shr => true
  | _ => false
theorem RpT.thin {t : Ty} {d : PyData} {v : V} {fp : List Addr} (f : t.thin = true) (h : RpT K F H t d v fp) : fp = [] := by
  cases t <;> first | exact h.1 | simp [Ty.thin] at f
theorem OwnA.thin {t : Ty} (f : t.thin = true) : ∀ {ds : List PyData} {vs : List V} {fs : List Addr}, OwnA (RpT K F H t) ds vs fs → fs = []
  | _, _, _, .nil => rfl
  | _, _, _, .cons q r => by rw [RpT.thin f q, OwnA.thin f r]; rfl
theorem OwnA.set {t : Ty} (f : t.thin = true) : ∀ {ds : List PyData} {vs : List V} {fs : List Addr} {d : PyData} {v : V} (i : Nat), OwnA (RpT K F H t) ds vs fs → RpT K F H t d v [] → OwnA (RpT K F H t) (ds.set i d) (vs.set i v) []
  | _, _, _, d, v, i, .nil, _ => .nil
  | _, _, _, d, v, 0, .cons q r, h => by
    have e := OwnA.thin f r
    subst e
    exact OwnA.cons (f := []) h r
  | _, _, _, d, v, i + 1, .cons q r, h => by
    have e := RpT.thin f q
    subst e
    exact OwnA.cons (f := []) q (OwnA.set f i r h)
theorem OwnA.sub {t : Ty} (f : t.thin = true) {ds : List PyData} {vs : List V} : (∀ (i : Nat) d, ds[i]? = some d → ∃ x, vs[i]? = some x ∧ RpT K F H t d x []) → ds.length = vs.length → OwnA (RpT K F H t) ds vs [] := by
  induction ds generalizing vs with
  | nil => intro _ hl; cases vs with | nil => exact .nil | cons _ _ => simp at hl
  | cons d ds ih =>
    intro h hl
    cases vs with
    | nil => simp at hl
    | cons v vs =>
      obtain ⟨x, e, hx⟩ := h 0 d rfl
      simp at e; subst e
      exact OwnA.cons (f := []) hx (ih (fun i d' e => h (i + 1) d' (by simpa using e)) (by simpa using hl))
end
/-- a context in which all is firm -/
def firmC : Ctx → Bool
  | [] => true
  | none :: r => firmC r
  | some (_, t) :: r => t.firm && firmC r
theorem firmC_get : ∀ {Γ : Ctx} {i : Nat} {d : PyData} {t : Ty}, firmC Γ = true → Γ[i]? = some (some (d, t)) → t.firm = true
  | [], i, d, t, _, e => by simp at e
  | none :: r, 0, d, t, _, e => by simp at e
  | some (d', t') :: r, 0, d, t, h, e => by simp at e; obtain ⟨rfl, rfl⟩ := e; simp [firmC] at h; exact h.1
  | none :: r, i + 1, d, t, h, e => firmC_get (Γ := r) (i := i) (by simpa [firmC] using h) (by simpa using e)
  | some (_, _) :: r, i + 1, d, t, h, e => firmC_get (Γ := r) (i := i) (by simp [firmC] at h; exact h.2) (by simpa using e)
section
variable {Y : BX} {F0 : Hp} {S L : Type} {Γ : Ctx} {Δ : S → Ctx} {Λ : L → Ctx} {F H F' H' H2 : Hp} {t ta tb : Ty} {r ra rb : R PyData} {e a b : Expr} {σ : St} {pos p : Pos} {rest : List Stmt} {D : Ends} {fps : Nat → List Addr}
theorem grow_chg {D : Addr} {He : Hp} (g : Grow F0 He F H) (hD : F D = none) (hE : He D = none) (hq : ∀ a, a ≠ D → H2 a = H a) (ho : ∀ o, H2 D = some o → (∃ xs, o = .lst xs) ∨ ∃ xs, o = .dK xs) : Grow F0 He F H2 where
  ff := g.ff
  fh := fun a o e => by
    have n : a ≠ D := fun z => by rw [z, hD] at e; cases e
    rw [hq a n]; exact g.fh _ _ e
  hh := fun a o e => by
    have n : a ≠ D := fun z => by rw [z, hE] at e; cases e
    rw [hq a n]; exact g.hh _ _ e
  tup := fun a o e h1 h2 h3 => by
    by_cases n : a = D
    · subst n
      rcases ho o e with ⟨xs, rfl⟩ | ⟨xs, rfl⟩
      · exact absurd rfl (h1 xs)
      · exact absurd rfl (h2 xs)
    · rw [hq a n] at e; exact g.tup a o e h1 h2 h3
  old := g.old
/-- the object at D, in slot i, is changed; what was in the slot's footprint, and fv besides, is the new footprint -/
theorem StI.chg {i : Nat} {d d' : PyData} {fv : List Addr} {D : Addr} (s : StI Y.Z.X.K F0 Y.He Γ F σ H fps) (hf : firmC Γ = true) (hΓ : Γ[i]? = some (some (d, t))) (hv : σ[i]? = some (some (.ref D))) (hD : D ∈ fps i)
    (hq : ∀ a, a ≠ D → H2 a = H a) (ho : ∀ o, H2 D = some o → (∃ xs, o = .lst xs) ∨ ∃ xs, o = .dK xs) (hfv : ∀ a ∈ fv, a ∈ fps i ∨ (Y.He a = none ∧ ∀ j, a ∉ fps j)) (nd : fv.Nodup) (h : RpT Y.Z.X.K F H2 t d' (.ref D) fv) :
    StOk Y.Z.X.K F0 Y.He (Γ.set i (some (d', t))) σ H2 := by
  obtain ⟨u, au, bu⟩ := s.sl.2 i d t hΓ
  rw [hv] at au; cases au
  have fD := (RpT.fps _ _ _ _ bu D hD).1
  have g2 : Grow F0 Y.He F H2 := grow_chg s.g fD (s.fr i D hD) hq ho
  refine ⟨F, fun j => if j = i then fv else fps j, g2, ⟨by rw [List.length_set]; exact s.sl.1, fun j d2 t2 e => ?_⟩, fun j => ?_, fun j k hjk a ha => ?_, fun j a ha => ?_⟩
  · by_cases hj : j = i
    · subst hj
      have hl : j < Γ.length := (List.getElem?_eq_some_iff.mp hΓ).1
      rw [List.getElem?_set_self hl] at e
      cases e
      exact ⟨.ref D, hv, by dsimp only; rw [if_pos rfl]; exact h⟩
    · rw [List.getElem?_set_ne (Ne.symm hj)] at e
      obtain ⟨w, a1, a2⟩ := s.sl.2 j d2 t2 e
      refine ⟨w, a1, ?_⟩
      dsimp only
      rw [if_neg hj]
      exact RpT.chg s.g.tup g2.fh hq t2 d2 w (fps j) (firmC_get hf e) (fun a ha z => by subst z; exact s.sep j i hj a ha hD) a2
  · split
    · exact nd
    · exact s.nd j
  · split at ha
    · rename_i hj
      split
      · rename_i hk; exact absurd (hj.trans hk.symm) hjk
      · rename_i hk
        rcases hfv a ha with z | ⟨_, z⟩
        · exact s.sep i k (fun q => hk q.symm) a z
        · exact z k
    · rename_i hj
      split
      · rename_i hk
        intro z
        rcases hfv a z with w | ⟨_, w⟩
        · exact s.sep j i hj a ha w
        · exact w j ha
      · exact s.sep j k hjk a ha
  · split at ha
    · rcases hfv a ha with w | ⟨w, _⟩
      · exact s.fr i a w
      · exact w
    · exact s.fr j a ha
/-- addresses in footprints of typed slots stand in the heap; the stale ones are cleaned -/
theorem StI.clean (s : StI Y.Z.X.K F0 Y.He Γ F σ H fps) : ∃ fps', StI Y.Z.X.K F0 Y.He Γ F σ H fps' ∧ ∀ j, ∀ a ∈ fps' j, ∃ o, H a = some o := by
  have typed : ∀ (j : Nat) (a : Addr), a ∈ (match Γ[j]? with | some (some _) => fps j | _ => []) → a ∈ fps j ∧ ∃ o, H a = some o := by
    intro j a hm
    split at hm
    · rename_i p he
      obtain ⟨d', t'⟩ := p
      obtain ⟨u, a1, a2⟩ := s.sl.2 j d' t' he
      exact ⟨hm, (RpT.fps _ _ _ _ a2 a hm).2⟩
    · exact absurd hm (by simp)
  refine ⟨fun j => match Γ[j]? with | some (some _) => fps j | _ => [], ⟨s.g, ⟨s.sl.1, fun i d t e => ?_⟩, fun j => ?_, fun j k hjk a ha => ?_, fun j a ha => ?_⟩, fun j a ha => (typed j a ha).2⟩
  · obtain ⟨v, a1, a2⟩ := s.sl.2 i d t e
    refine ⟨v, a1, ?_⟩
    simp only [e]
    exact a2
  · split
    · exact s.nd j
    · exact List.nodup_nil
  · exact fun z => s.sep j k hjk a (typed j a ha).1 (typed k a z).1
  · exact s.fr j a (typed j a ha).1
def appD (x d : PyData) : R PyData := match x with
  | .list ds => if ds.length < sizeLine then .ok (.list (ds ++ [d])) else .stuck
  | _ => .stuck
/-- x.append(e), x one's own list -/
theorem bl_append {i : Nat} {x : Str} {xd : PyData} {px apos cpos : Pos} {k : PyData → R (Fl S L)} (hΓ : Γ[i]? = some (some (xd, .own t))) (he : EvP Y.Z Γ e r t) (hk : ∀ d, BlP Y (Γ.set i (some (d, .own t))) rest Δ Λ (k d)) (hft : t.firm = true := by rfl) (hf : firmC Γ = true := by rfl)
    (hN : Y.Z.X.N[i]? = some x := by rfl) (hv : Vis Y.Z.X.env.scope x := by first | exact Or.inl rfl | exact Or.inr (Or.inl rfl) | exact Or.inr (Or.inr rfl)) (hd : (x == ("__debug__" : Str)) = false := by decide) (hcd : (x == ("__classdict__" : Str)) = false := by decide)
    (hs : swapsWith (.Call (.Attribute (.Name x px) "append" apos) [e] [] cpos) none pos.line Y.Z.X.env = pure false := by rfl)
    (hbase : attributeBase (.Name x px) "append" Y.Z.X.env (eval (.Name x px) Y.Z.X.env) = eval (.Name x px) Y.Z.X.env := by rfl)
    (hfew : ((backTo cpos (starEach [e] Y.Z.X.env)).all (fun x => !x.1) && (backToKw cpos (keywordEach [] Y.Z.X.env)).all (fun x => x.1.isSome)
      && decide (([e] : List Expr).length + ([] : List Keyword).length + (if ([] : List Keyword).isEmpty then 0 else 1) < 30)) = true := by rfl)
    (hline : (apos.endLine == cpos.line) = true := by rfl) (hst : starEach [e] Y.Z.X.env = (false, eval e Y.Z.X.env) :: starEach [] Y.Z.X.env := by rfl) (hplain : (backTo cpos (starEach [] Y.Z.X.env)).any (·.1) = false := by rfl) :
    BlP Y Γ (.Expr (.Call (.Attribute (.Name x px) "append" apos) [e] [] cpos) pos :: rest) Δ Λ (r.bind fun d => (appD xd d).bind k) := by
  have hrest : PSs Y.Z.X rest (fun D σ H => ∃ d, tBl Y (Γ.set i (some (d, .own t))) Δ Λ (k d) D σ H) := ⟨fun pins s σ H D I ⟨d, h⟩ => (hk d).run pins s σ H D I h⟩
  refine PSsimp (pss_cons (ps_expr (pe_bm PySem.F.plainAttrs_list PySem.F.slot_list_append PySem.F.type_list_append mt_append (pe_var hN hv hd hcd) (pa_cons he pa_nil hst) hbase hfew hline hst hplain) hs) hrest) fun D σ H ⟨F0, ⟨F, fps, s⟩, q⟩ => ?_
  obtain ⟨fps, s, hst⟩ := s.clean
  obtain ⟨v, a1, ds, p, vs, fs, e1, e2, h1, h2, h3, e3⟩ := s.sl.2 i xd _ hΓ
  subst e1; subst e2
  refine ⟨_, a1, .inl ⟨rfl, vs, .inl (.inl h1)⟩, F, s.pre, (PostS.split q s).imp fun u H1 ⟨d, F1, fv, _, g, h, n, f, q1⟩ => ?_⟩
  unfold appD at q1
  have q2 : PostS Y F0 Δ Λ D ((if ds.length < sizeLine then R.ok (PyData.list (ds ++ [d])) else R.stuck).bind k) := q1
  by_cases c : ds.length < sizeLine
  · rw [if_pos c] at q2
    have s1 := s.grow g
    have hp1 := g.hh _ _ h1
    have h3' := h3.mono fun d v f z => z.grow g
    refine ⟨p, vs, u, rfl, rfl, hp1, by rw [← h3.length]; exact c, _, F0, ?_, q2⟩
    have hD : p ∈ fps i := by rw [e3]; exact List.mem_cons_self
    have nfp : (p :: fs).Nodup := by rw [← e3]; exact s.nd i
    have hfv : ∀ a ∈ fv, Y.He a = none ∧ ∀ j, a ∉ fps j := fun a ha => ⟨s.he f a ha, fun j z => by obtain ⟨o, ho⟩ := hst j a z; rw [f a ha] at ho; cases ho⟩
    have fp1 : F1 p = none := (g.old _ _ h1).trans h2
    have hq : ∀ a, a ≠ p → (upd H1 p (.lst (vs ++ [u]))) a = H1 a := fun a ha => upd_ne ha
    refine s1.chg (fv := p :: (fs ++ fv)) hf hΓ a1 hD hq (fun o ho => .inl ⟨_, by rw [upd_same] at ho; exact (Option.some.inj ho).symm⟩) (fun a ha => ?_) ?_ ?_
    · rcases List.mem_cons.mp ha with rfl | ha
      · exact .inl hD
      · rcases List.mem_append.mp ha with ha | ha
        · exact .inl (by rw [e3]; exact List.mem_cons_of_mem _ ha)
        · exact .inr (hfv a ha)
    · have hnn := List.nodup_cons.mp nfp
      refine List.nodup_cons.mpr ⟨fun z => ?_, List.nodup_append.mpr ⟨hnn.2, n, fun a ha b hb z => ?_⟩⟩
      · rcases List.mem_append.mp z with z | z
        · exact hnn.1 z
        · exact (hfv p z).2 i hD
      · subst z
        exact (hfv a hb).2 i (by rw [e3]; exact List.mem_cons_of_mem _ ha)
    · have g2 := grow_chg s1.g fp1 (s.fr i p hD) hq (fun o ho => .inl ⟨_, by rw [upd_same] at ho; exact (Option.some.inj ho).symm⟩)
      have hnn := List.nodup_cons.mp nfp
      refine ⟨ds ++ [d], p, vs ++ [u], fs ++ fv, rfl, rfl, upd_same, fp1, OwnA.app (OwnA.chg g.tup g2.fh hq hft h3' fun a ha z => hnn.1 (by rw [← z]; exact ha)) (OwnA.one (RpT.chg g.tup g2.fh hq t d u fv hft (fun a ha z => by subst z; exact (hfv a ha).2 i hD) h)), rfl⟩
  · rw [if_neg c] at q2
    exact q2.elim
end

/-! ### while -/
section
variable {Y : BX} {F0 : Hp} {S L Lo : Type} {Γ : Ctx} {Δ : S → Ctx} {Λ : L → Ctx} {Λo : Lo → Ctx} {F H F' H' F1 : Hp} {t ta tb : Ty} {r : R PyData} {rs : R (List PyData)} {e a b c : Expr} {σ : St} {pos p : Pos} {rest body : List Stmt} {D : Ends}
theorem bl_while {rc : L → R Bool} {g : L → R (Fl L L)} {k : L → R (Fl S Lo)} {s0 : L} (N : Nat) (hp : PassesOwn (model Y.Z.X.prog Y.Z.X.w) Y.Z.X.A Y.Z.X.env Y.Z.X.xe) (w0 : Wk Γ (Λ s0)) (hc : ∀ s, TsP Y.Z (Λ s) c (rc s))
    (hb : ∀ s, BlP Y (Λ s) body Λ Λ (g s)) (hk : ∀ s, BlP Y (Λ s) rest Δ Λo (k s)) :
    BlP Y Γ (.While c body [] pos :: rest) Δ Λo ((whileR rc g N s0).bind fun fl => fl.done k) := by
  have htest : PT Y.Z.X c (fun σ H Q => ∃ s, tTs Y.Z (Λ s) (rc s) σ H Q) := ⟨fun pins s σ H Q I ⟨l, h⟩ => (hc l).run pins s σ H Q I h⟩
  have hbody : PSs Y.Z.X body (fun D σ H => ∃ s, tBl Y (Λ s) Λ Λ (g s) D σ H) := ⟨fun pins s σ H D I ⟨l, h⟩ => (hb l).run pins s σ H D I h⟩
  have hrest : PSs Y.Z.X rest (fun D σ H => ∃ s, tBl Y (Λ s) Δ Λo (k s) D σ H) := ⟨fun pins s σ H D I ⟨d, h⟩ => (hk d).run pins s σ H D I h⟩
  refine PSsimp (pss_cons (ps_while hp htest hbody) hrest) fun D σ H ⟨F0, s, q⟩ => ?_
  refine ⟨fun m σ' H' => ∃ l, StOk Y.Z.X.K F0 Y.He (Λ l) σ' H' ∧ PostS Y F0 Δ Λo D ((whileR rc g m l).bind fun fl => fl.done k), ⟨N, s0, s.wk w0, q⟩, ?_⟩
  rintro m σ1 H1 ⟨l, ⟨F1, fps, s1⟩, q1⟩
  cases m with
  | zero => exact q1.elim
  | succ m =>
    refine ⟨l, F1, s1.pre, ?_⟩
    have q2 : PostS Y F0 Δ Λo D (((rc l).bind fun b => if b = true then (g l).bind fun f => match f with
      | .nx s' => whileR rc g m s'
      | .ct s' => whileR rc g m s'
      | .bk s' => .ok (.bk s')
      | .rt d => .ok (.rt d)
      else .ok (.nx l)).bind fun fl => fl.done k) := q1
    rw [R.bind_assoc] at q2
    refine R.wp_mono (PostS.splitB q2 s1) (fun b kq F' H' g' => ?_) fun _ _ w => w
    obtain ⟨F2, _, g2, q3⟩ := kq F' H' g'
    have s2 := s1.grow g2
    cases b with
    | false => exact iteF ⟨l, F0, ⟨F2, fps, s2⟩, q3⟩
    | true =>
      refine iteT ⟨fun σ3 H3 => ∃ l', StOk Y.Z.X.K F0 Y.He (Λ l') σ3 H3 ∧ PostS Y F0 Δ Λo D ((whileR rc g m l').bind fun fl => fl.done k), fun σ3 H3 h => ⟨m, Nat.lt_succ_self m, h⟩, l, F0, ⟨F2, fps, s2⟩, ?_⟩
      have q4 : PostS Y F0 Δ Λo D (((g l).bind fun f => match f with
        | .nx s' => whileR rc g m s'
        | .ct s' => whileR rc g m s'
        | .bk s' => .ok (.bk s')
        | .rt d => .ok (.rt d)).bind fun fl => fl.done k) := q3
      rw [R.bind_assoc] at q4
      cases hg : g l with
      | exc c n => rw [hg] at q4; exact q4
      | stuck => rw [hg] at q4; exact q4
      | ok fl =>
        rw [hg] at q4
        cases fl with
        | nx l' => exact fun σ5 H5 s5 => ⟨l', s5, q4⟩
        | ct l' => exact fun σ5 H5 s5 => ⟨l', s5, q4⟩
        | bk l' => exact fun σ5 H5 s5 => ⟨l', F0, s5, q4⟩
        | rt d => exact q4
end

/-! ### comprehensions -/
def R.sx {α : Type} : R α → R α
  | .ok a => .ok a
  | _ => .stuck
@[simp] theorem R.sx_ok {α : Type} (a : α) : (R.ok a).sx = .ok a := rfl
@[simp] theorem R.sx_stuck {α : Type} : (R.stuck : R α).sx = .stuck := rfl
def compR {X : Type} (f : PyData → R X) (c : X → R Bool) (g : X → R PyData) : List PyData → R (List PyData)
  | [] => .ok []
  | d :: ds => (f d).bind fun x => (c x).sx.bind fun b => if b = true then (g x).sx.bind fun y => (compR f c g ds).bind fun ys => .ok (y :: ys) else compR f c g ds
@[simp] theorem compR_nil {X : Type} (f : PyData → R X) (c : X → R Bool) (g : X → R PyData) : compR f c g [] = .ok [] := rfl
theorem compR_cons {X : Type} (f : PyData → R X) (c : X → R Bool) (g : X → R PyData) (d : PyData) (ds : List PyData) : compR f c g (d :: ds) = (f d).bind fun x => (c x).sx.bind fun b => if b = true then (g x).sx.bind fun y => (compR f c g ds).bind fun ys => .ok (y :: ys) else compR f c g ds := rfl
theorem compR_noX {X : Type} (f : PyData → R X) (c : X → R Bool) (g : X → R PyData) (hx : ∀ d, (f d).noX) : ∀ (ds : List PyData) {k : Nat} {n : Int}, compR f c g ds = .exc k n → False
  | [], k, n, h => by cases h
  | d :: ds, k, n, h => by
    rw [compR_cons] at h
    have a := hx d
    cases hf : f d with
    | exc _ _ => rw [hf] at a; exact a
    | stuck => rw [hf] at h; cases h
    | ok x =>
      rw [hf] at h
      cases hc : c x with
      | exc _ _ => rw [R.ok_bind, hc] at h; cases h
      | stuck => rw [R.ok_bind, hc] at h; cases h
      | ok b =>
        rw [R.ok_bind, hc] at h
        cases b with
        | false => exact compR_noX f c g hx ds (k := k) (n := n) h
        | true =>
          have h' : ((g x).sx.bind fun y => (compR f c g ds).bind fun ys => R.ok (y :: ys)) = .exc k n := h
          cases hg : g x with
          | exc _ _ => rw [hg] at h'; cases h'
          | stuck => rw [hg] at h'; cases h'
          | ok y =>
            rw [hg] at h'
            cases hr : compR f c g ds with
            | ok ys => rw [R.sx_ok, R.ok_bind, hr] at h'; cases h'
            | stuck => rw [R.sx_ok, R.ok_bind, hr] at h'; cases h'
            | exc k2 n2 => exact compR_noX f c g hx ds hr
def wipeC (Γ : Ctx) : List Nat → Ctx
  | [] => Γ
  | v :: vs => (wipeC Γ vs).set v none
theorem wipe_get (σ : L2.St) (vs : List Nat) (i : Nat) : (wipe σ vs)[i]? = if i ∈ vs then (if i < σ.length then some none else none) else σ[i]? := by
  induction vs with
  | nil => simp [wipe]
  | cons v vs ih =>
    unfold wipe
    by_cases h : i = v
    · subst h
      rw [if_pos List.mem_cons_self]
      by_cases hl : i < σ.length
      · rw [if_pos hl, List.getElem?_set_self (by rw [wipe_length]; exact hl)]
      · rw [if_neg hl, List.getElem?_eq_none (by rw [List.length_set, wipe_length]; omega)]
    · rw [List.getElem?_set_ne (Ne.symm h), ih]
      by_cases h2 : i ∈ vs
      · rw [if_pos h2, if_pos (List.mem_cons_of_mem _ h2)]
      · rw [if_neg h2, if_neg (by simp [h, h2])]
theorem wipe_wipe (σ : L2.St) (vs : List Nat) : wipe (wipe σ vs) vs = wipe σ vs := by
  apply List.ext_getElem?
  intro i
  rw [wipe_get, wipe_length]
  split
  · rename_i h; rw [wipe_get, if_pos h]
  · rfl
theorem wipe_set (σ : L2.St) (vs : List Nat) (j : Nat) (x : Option V) (h : j ∈ vs) : wipe (σ.set j x) vs = wipe σ vs := by
  apply List.ext_getElem?
  intro i
  rw [wipe_get, wipe_get, List.length_set]
  split
  · rfl
  · rename_i hi
    rw [List.getElem?_set_ne]
    rintro rfl
    exact hi h
theorem wipe_setAll : ∀ (sl : Sl) (ws : List V) (σ : L2.St) (vs : List Nat), (∀ q ∈ sl, q.1 ∈ vs) → wipe (setAll σ sl ws) vs = wipe σ vs
  | [], ws, σ, vs, h => by unfold setAll; rfl
  | (i, d, t) :: r, [], σ, vs, h => by unfold setAll; rfl
  | (i, d, t) :: r, w :: ws, σ, vs, h => by
    show wipe (setAll (σ.set i (some w)) r ws) vs = wipe σ vs
    rw [wipe_setAll r ws _ vs fun q hq => h q (List.mem_cons_of_mem _ hq), wipe_set _ _ _ _ (h _ List.mem_cons_self)]
section
variable {K : PySem.W.Frag} {F H F' H' : Hp}
theorem Slots.set {Γ : Ctx} {σ : St} {fps : Nat → List Addr} {i : Nat} {v : V} {d : PyData} {t : Ty} {fv : List Addr} (s : Slots K F H Γ σ fps) (h : RpT K F H t d v fv) : Slots K F H (Γ.set i (some (d, t))) (σ.set i (some v)) (fun j => if j = i then fv else fps j) := by
  refine ⟨by rw [List.length_set, List.length_set]; exact s.1, fun j d' t' e => ?_⟩
  by_cases hj : j = i
  · subst hj
    have hl : j < Γ.length := by
      have := (List.getElem?_eq_some_iff.mp e).1
      simpa using this
    rw [List.getElem?_set_self hl] at e
    cases e
    refine ⟨v, by rw [List.getElem?_set_self (Nat.lt_of_lt_of_le hl s.1)], ?_⟩
    dsimp only
    rw [if_pos rfl]
    exact h
  · rw [List.getElem?_set_ne (Ne.symm hj)] at e
    obtain ⟨u, a1, a2⟩ := s.2 j d' t' e
    refine ⟨u, by rw [List.getElem?_set_ne (Ne.symm hj)]; exact a1, ?_⟩
    dsimp only
    rw [if_neg hj]
    exact a2
theorem Slots.setAll : ∀ {sl : Sl} {vs : List V} {Γ : Ctx} {σ : St}, (∃ fps, Slots K F H Γ σ fps) → SlP K F H sl vs → ∃ fps, Slots K F H (setC Γ sl) (PL.setAll σ sl vs) fps
  | [], vs, Γ, σ, s, h => by
    unfold SlP at h
    subst h
    exact s
  | (i, d, t) :: r, vs, Γ, σ, ⟨fps, s⟩, h => by
    unfold SlP at h
    obtain ⟨v, q, e, h1, h2⟩ := h
    subst e
    have z := Slots.setAll (sl := r) (vs := q) ⟨_, s.set (i := i) h1⟩ h2
    exact z
theorem Slots.wipe {Γ : Ctx} {σ : St} {fps : Nat → List Addr} (s : Slots K F H Γ σ fps) (vs : List Nat) : Slots K F H (wipeC Γ vs) (L2.wipe σ vs) fps := by
  have len : ∀ vs, (wipeC Γ vs).length = Γ.length := by
    intro vs
    induction vs with
    | nil => rfl
    | cons v vs ih => unfold wipeC; rw [List.length_set]; exact ih
  have get : ∀ vs (i : Nat) d t, (wipeC Γ vs)[i]? = some (some (d, t)) → i ∉ vs ∧ Γ[i]? = some (some (d, t)) := by
    intro vs
    induction vs with
    | nil => intro i d t e; exact ⟨by simp, e⟩
    | cons v vs ih =>
      intro i d t e
      unfold wipeC at e
      by_cases hi : v = i
      · subst hi
        by_cases hl : v < (wipeC Γ vs).length
        · rw [List.getElem?_set_self hl] at e; cases e
        · rw [List.getElem?_eq_none (by rw [List.length_set]; omega)] at e; cases e
      · rw [List.getElem?_set_ne hi] at e
        obtain ⟨a, b⟩ := ih i d t e
        exact ⟨by simp [a, Ne.symm hi], b⟩
  refine ⟨by rw [len, wipe_length]; exact s.1, fun i d t e => ?_⟩
  obtain ⟨n, e'⟩ := get vs i d t e
  obtain ⟨v, a, b⟩ := s.2 i d t e'
  exact ⟨v, by rw [wipe_get, if_neg n]; exact a, b⟩
end
abbrev PX.blk (Z : PX) (s : Shared) (H : Hp) (scope : Scope) (cl : List (Str × Addr)) (C : Addr) (fp : List Addr) : PX := ⟨Z.X.blk s H scope (compEnvC scope cl C Z.X.env) fp, Z.cls, fun _ _ _ => False⟩
abbrev TssP (Z : PX) (Γ : Ctx) (ifs : List Expr) (r : R Bool) : Prop := PTs Z.X ifs (tTs Z Γ r)
section
variable {Z : PX} {Γ : Ctx} {F H F' H' : Hp} {t ti : Ty} {Q : VK} {rs : R (List PyData)} {elt tg iter : Expr} {ifs : List Expr} {scope : Scope} {own : List (Str × Nat)} {pos : Pos} {SX : Type}
theorem tss_nil : TssP Z Γ [] (.ok true) := ⟨fun pins s σ H Q I ⟨F, p, q⟩ => pts_nil.run pins s σ H Q I (q F H (Grow.refl p.fh p.tup))⟩
theorem tss_one {c : Expr} {r : R Bool} (h : TsP Z Γ c r) : TssP Z Γ [c] r := pts_one h
theorem post_sx {Z' : PX} {r : R PyData} {T : VK} (hK : Z'.X.K = Z.X.K) (q : ∃ y, r = .ok y ∧ ∀ v F' H' fv, Grow F H F' H' → RpT Z.X.K F' H' t y v fv → fv.Nodup → (∀ a ∈ fv, H a = none) → T v H') : Post Z' F H t T r := by
  obtain ⟨y, e, k⟩ := q
  subst e
  intro v F' H' fv g h n f
  rw [hK] at h
  exact k v F' H' fv g h n f
/-- what a comprehension reads: from the pure result -/
theorem lc_imp {f : PyData → R SX} {sl : SX → Sl} {c : SX → R Bool} {g : SX → R PyData} (hx : ∀ d, (f d).noX) (hsl : ∀ x, ∀ q ∈ sl x, q.1 ∈ own.map (·.2)) (ft : t.firm = true) {tt : TT} {te : TE}
    (htt : ∀ x σ F H Q, Pre Z.X.K F H (setC (wipeC Γ (own.map (·.2))) (sl x)) σ → (∃ b, c x = .ok b ∧ ∀ F' H', Grow F H F' H' → Q b H') → tt σ H Q)
    (hte : ∀ x σ F H Q, Pre Z.X.K F H (setC (wipeC Γ (own.map (·.2))) (sl x)) σ → (∃ y, g x = .ok y ∧ ∀ v F' H' fv, Grow F H F' H' → RpT Z.X.K F' H' t y v fv → fv.Nodup → (∀ a ∈ fv, H a = none) → Q v H') → te σ H Q)
    {σ : St} (q : tEv Z Γ (rs.bind fun ds => (compR f c g ds).bind mkL) (.own t) σ H Q) : tLc (tItG Z Γ rs ti) (tTg Z ti f sl) tt te (own.map (·.2)) σ H Q := by
  obtain ⟨F, p, q⟩ := q
  refine ⟨F, p, ?_⟩
  cases rs with
  | exc c n => exact q
  | stuck => exact q
  | ok ds =>
    intro J F1 H1 g1 sr D hD
    have p1 := p.grow g1
    have q0 : Post Z F1 H1 (.own t) Q ((compR f c g ds).bind mkL) := Post.grow q g1
    refine ⟨fun i m H' => m = ds.length - i ∧ i ≤ ds.length ∧ ∃ F' ys vs fs, Grow F1 H1 F' H' ∧ F' D = none ∧ H' D = some (.lst vs) ∧ OwnA (RpT Z.X.K F' H' t) ys vs fs ∧ (D :: fs).Nodup ∧ (∀ a ∈ D :: fs, H1 a = none) ∧ Post Z F1 H1 (.own t) Q ((compR f c g (ds.drop i)).bind fun zs => mkL (ys ++ zs)),
      ⟨_, rfl, Nat.zero_le _, F1, [], [], [], grow_lst g1.fh g1.tup hD, none_of g1.fh hD, upd_same, .nil, by simp, fun a ha => by simp at ha; subst ha; exact hD, by simpa using q0⟩, ?_⟩
    rintro i m H' ⟨rfl, hi, F', ys, vs, fs, g2, fD, hD', ho, nd, fr, q2⟩
    by_cases hlt : i < ds.length
    · refine .inr ⟨sr.go i F' H' hlt g2, fun H3 => ∃ F' ys vs fs, Grow F1 H1 F' H3 ∧ F' D = none ∧ H3 D = some (.lst vs) ∧ OwnA (RpT Z.X.K F' H3 t) ys vs fs ∧ (D :: fs).Nodup ∧ (∀ a ∈ D :: fs, H1 a = none) ∧ Post Z F1 H1 (.own t) Q ((compR f c g (ds.drop (i + 1))).bind fun zs => mkL (ys ++ zs)), fun H3 h => ⟨ds.length - (i + 1), by omega, rfl, hlt, h⟩, fun x H3 y => ?_⟩
      obtain ⟨F3, g3, h3⟩ := sr.yld i F' H' x H3 ds[i] (List.getElem?_eq_getElem hlt) g2 y
      have g23 := g2.trans g3
      rw [List.drop_eq_getElem_cons hlt, compR_cons] at q2
      refine ⟨ds[i], F3, g3.fh, h3, ?_⟩
      cases hfd : f ds[i] with
      | exc c n => have := hx ds[i]; rw [hfd] at this; exact this.elim
      | stuck => rw [hfd] at q2; exact q2
      | ok sx =>
        rw [hfd] at q2
        intro ws hws
        refine ⟨by rw [wipe_setAll _ _ _ _ (hsl sx), wipe_wipe], ?_⟩
        have pw : Pre Z.X.K F3 H3 (setC (wipeC Γ (own.map (·.2))) (sl sx)) (setAll (wipe σ (own.map (·.2))) (sl sx) ws) := by
          obtain ⟨fps, s⟩ := (p1.grow g23).sl
          exact ⟨g3.fh, g3.tup, Slots.setAll ⟨fps, s.wipe _⟩ hws⟩
        have q3 : Post Z F1 H1 (.own t) Q (((c sx).sx.bind fun b => if b = true then (g sx).sx.bind fun y => (compR f c g (ds.drop (i + 1))).bind fun ys => .ok (y :: ys) else compR f c g (ds.drop (i + 1))).bind fun zs => mkL (ys ++ zs)) := q2
        rw [R.bind_assoc] at q3
        cases hcx : c sx with
        | exc _ _ => rw [hcx] at q3; exact q3.elim
        | stuck => rw [hcx] at q3; exact q3.elim
        | ok bb =>
          rw [hcx] at q3
          refine htt sx _ F3 H3 _ pw ⟨bb, hcx, fun F4 H4 g4 => ?_⟩
          have g24 := g23.trans g4
          have fD3 : F3 D = none := (g3.old _ _ hD').trans fD
          have hD3 := g3.hh _ _ hD'
          have fD4 : F4 D = none := (g4.old _ _ hD3).trans fD3
          have hD4 := g4.hh _ _ hD3
          have ho4 := ho.mono fun d v f z => RpT.grow (g3.trans g4) t d v f z
          cases bb with
          | false => exact iteF ⟨F4, ys, vs, fs, g24, fD4, hD4, ho4, nd, fr, q3⟩
          | true =>
            refine iteT ?_
            have q4 : Post Z F1 H1 (.own t) Q (((g sx).sx.bind fun y => (compR f c g (ds.drop (i + 1))).bind fun ys => .ok (y :: ys)).bind fun zs => mkL (ys ++ zs)) := q3
            rw [R.bind_assoc] at q4
            cases hgx : g sx with
            | exc _ _ => rw [hgx] at q4; exact q4.elim
            | stuck => rw [hgx] at q4; exact q4.elim
            | ok yv =>
              rw [hgx] at q4
              have q5 : Post Z F1 H1 (.own t) Q (((compR f c g (ds.drop (i + 1))).bind fun ys => .ok (yv :: ys)).bind fun zs => mkL (ys ++ zs)) := q4
              rw [R.bind_assoc] at q5
              refine hte sx _ F4 H4 _ (pw.grow g4) ⟨yv, hgx, fun v F5 H5 fv g5 h5 n5 f5 => ?_⟩
              have g25 := g24.trans g5
              have fD5 : F5 D = none := (g5.old _ _ hD4).trans fD4
              have hD5 := g5.hh _ _ hD4
              have ho5 := ho4.mono fun d v f z => RpT.grow g5 t d v f z
              have hq : ∀ a, a ≠ D → (upd H5 D (.lst (vs ++ [v]))) a = H5 a := fun a ha => upd_ne ha
              have gu : Grow F1 H1 F5 (upd H5 D (.lst (vs ++ [v]))) := grow_chg g25 fD5 (fr D List.mem_cons_self) hq (fun o ho => .inl ⟨_, by rw [upd_same] at ho; exact (Option.some.inj ho).symm⟩)
              have hnn := List.nodup_cons.mp nd
              have fvH4 : ∀ a ∈ fv, H4 a = none := f5
              have key : ∀ (a : Addr) {ds : List PyData} {vs : List V} {fs : List Addr}, OwnA (RpT Z.X.K F4 H4 t) ds vs fs → a ∈ fs → ∃ o, H4 a = some o := by
                intro a ds vs fs h
                induction h with
                | nil => intro z; exact absurd z (by simp)
                | cons q _ ih =>
                  intro z
                  rcases List.mem_append.mp z with z | z
                  · exact (RpT.fps t _ _ _ q a z).2
                  · exact ih z
              have apart : ∀ a ∈ fv, a ≠ D ∧ a ∉ fs := fun a ha => by
                refine ⟨fun z => ?_, fun z => ?_⟩
                · subst z
                  have := f5 _ ha
                  rw [hD4] at this; cases this
                · obtain ⟨o, ho'⟩ := key a ho4 z
                  rw [f5 a ha] at ho'; cases ho'
              -- the length stays within the line
              have hlen : vs.length < sizeLine := by
                cases hcr : compR f c g (ds.drop (i + 1)) with
                | exc _ _ => rw [hcr] at q5; exact (compR_noX _ _ _ hx _ hcr).elim
                | stuck => rw [hcr] at q5; exact q5.elim
                | ok zs =>
                  rw [hcr] at q5
                  have q6 : Post Z F1 H1 (.own t) Q (mkL (ys ++ yv :: zs)) := q5
                  unfold mkL at q6
                  split at q6
                  · rename_i hz
                    rw [← ho.length]
                    simp at hz
                    omega
                  · exact q6.elim
              refine ⟨vs, hD5, hlen, F5, ys ++ [yv], vs ++ [v], fs ++ fv, gu, fD5, upd_same, OwnA.app (OwnA.chg g25.tup gu.fh hq ft ho5 fun a ha z => hnn.1 (by rw [← z]; exact ha)) (OwnA.one (RpT.chg g25.tup gu.fh hq t yv v fv ft (fun a ha => (apart a ha).1) h5)), ?_, fun a ha => ?_, ?_⟩
              · refine List.nodup_cons.mpr ⟨fun z => ?_, List.nodup_append.mpr ⟨hnn.2, n5, fun a ha b hb z => ?_⟩⟩
                · rcases List.mem_append.mp z with z | z
                  · exact hnn.1 z
                  · exact (apart D z).1 rfl
                · subst z; exact (apart a hb).2 ha
              · rcases List.mem_cons.mp ha with rfl | ha
                · exact fr _ List.mem_cons_self
                · rcases List.mem_append.mp ha with ha | ha
                  · exact fr a (List.mem_cons_of_mem _ ha)
                  · exact fresh_of g24.hh f5 a ha
              · have e1 : (fun zs => mkL (ys ++ [yv] ++ zs)) = (fun (x : List PyData) => (R.ok (yv :: x)).bind fun zs => mkL (ys ++ zs)) := by
                  funext zs
                  simp
                rw [e1]
                exact q5
    · have ei : i = ds.length := by omega
      subst ei
      refine .inl ⟨sr.stop F' H' g2, ?_⟩
      rw [List.drop_length] at q2
      have q3 : Post Z F1 H1 (.own t) Q (mkL (ys ++ [])) := q2
      rw [List.append_nil] at q3
      unfold mkL at q3
      split at q3
      · exact q3 (.ref D) F' H' (D :: fs) g2 ⟨ys, D, vs, fs, rfl, rfl, hD', fD, ho, rfl⟩ nd fr
      · exact q3.elim
end

/-! ### comprehensions as rules -/
section
variable {Z : PX} {Γ : Ctx} {F H F' H' : Hp} {t ti ta tb tc : Ty} {Q : VK} {r ra rb : R PyData} {rs : R (List PyData)} {elt tg iter e a b : Expr} {ifs : List Expr} {scope : Scope} {own : List (Str × Nat)} {pos : Pos} {SX : Type}
theorem ev_lc {f : PyData → R SX} {sl : SX → Sl} {c : SX → R Bool} {g : SX → R PyData} (hc : Z.X.calm = true) (nd : Z.X.N.Nodup) (hi : ItG Z Γ tg iter rs ti) (ok : BlkOk Z.X.N Z.X.env.scope scope own)
    (htg : ∀ (s : Shared) (H : Hp) (C : Addr) (cl : List (Str × Addr)) (fp : List Addr), TgP (Z.blk s H scope cl C fp) tg ti f sl) (hx : ∀ d, (f d).noX) (hsl : ∀ x, ∀ q ∈ sl x, q.1 ∈ own.map (·.2))
    (ht : ∀ (s : Shared) (H : Hp) (C : Addr) (cl : List (Str × Addr)) (fp : List Addr) (x : SX), TssP (Z.blk s H scope cl C fp) (setC (wipeC Γ (own.map (·.2))) (sl x)) ifs (c x))
    (he : ∀ (s : Shared) (H : Hp) (C : Addr) (cl : List (Str × Addr)) (fp : List Addr) (x : SX), EvP (Z.blk s H scope cl C fp) (setC (wipeC Γ (own.map (·.2))) (sl x)) elt (g x) t)
    (ft : t.firm = true := by rfl) (hs : ∀ x, foldedSetIterable iter Z.X.env x = pure x := by intro _; rfl) :
    EvP Z Γ (.ListComp elt [⟨tg, iter, ifs, 0⟩] scope pos) (rs.bind fun ds => (compR f c g ds).bind mkL) (.own t) := by
  refine PEimp (pe_lc (g := tTg Z ti f sl) (tt := fun σ H Q => ∃ x, tTs ⟨Z.X, Z.cls, fun _ _ _ => False⟩ (setC (wipeC Γ (own.map fun p : Str × Nat => p.2)) (sl x)) (c x) σ H Q) (te := fun σ H Q => ∃ x, tEv ⟨Z.X, Z.cls, fun _ _ _ => False⟩ (setC (wipeC Γ (own.map fun p : Str × Nat => p.2)) (sl x)) (g x) t σ H Q)
    hc nd hi ok (fun s H C cl fp => htg s H C cl fp) (fun s H C cl fp => ⟨fun pins s' σ H' Q I ⟨x, h⟩ => (ht s H C cl fp x).run pins s' σ H' Q I h⟩) (fun s H C cl fp => ⟨fun pins s' σ H' Q I ⟨x, h⟩ => (he s H C cl fp x).run pins s' σ H' Q I h⟩) hs) fun σ H Q q => ?_
  refine lc_imp hx hsl ft (fun x σ F H Q p ⟨b, e, k⟩ => ⟨x, F, p, ?_⟩) (fun x σ F H Q p ⟨y, e, k⟩ => ⟨x, F, p, ?_⟩) q
  · rw [e]; exact k
  · rw [e]; exact k
end
section
variable {Y : BX} {S L SX : Type} {Γ : Ctx} {Δ : S → Ctx} {Λ : L → Ctx} {t ti : Ty} {rs : R (List PyData)} {elt tg iter : Expr} {ifs : List Expr} {scope : Scope} {own : List (Str × Nat)} {pos spos py : Pos} {rest : List Stmt}
/-- y = [..] -/
theorem bl_setLc {i : Nat} {y : Str} {f : PyData → R SX} {sl : SX → Sl} {c : SX → R Bool} {g : SX → R PyData} {k : PyData → R (Fl S L)} (hc : Y.Z.X.calm = true) (nd : Y.Z.X.N.Nodup) (hy : Y.Z.X.N[i]? = some y) (hi : ItG Y.Z Γ tg iter rs ti) (ok : BlkOk Y.Z.X.N Y.Z.X.env.scope scope own)
    (htg : ∀ (s : Shared) (H : Hp) (C : Addr) (cl : List (Str × Addr)) (fp : List Addr), TgP (Y.Z.blk s H scope cl C fp) tg ti f sl) (hx : ∀ d, (f d).noX) (hsl : ∀ x, ∀ q ∈ sl x, q.1 ∈ own.map (·.2))
    (ht : ∀ (s : Shared) (H : Hp) (C : Addr) (cl : List (Str × Addr)) (fp : List Addr) (x : SX), TssP (Y.Z.blk s H scope cl C fp) (setC (wipeC Γ (own.map (·.2))) (sl x)) ifs (c x))
    (he : ∀ (s : Shared) (H : Hp) (C : Addr) (cl : List (Str × Addr)) (fp : List Addr) (x : SX), EvP (Y.Z.blk s H scope cl C fp) (setC (wipeC Γ (own.map (·.2))) (sl x)) elt (g x) t)
    (hk : ∀ d, BlP Y (Γ.set i (some (d, .own t))) rest Δ Λ (k d))
    (hsw : swapsWith (.ListComp elt [⟨tg, iter, ifs, 0⟩] scope pos) (some (.Name y py)) spos.line Y.Z.X.env = pure true) (hyl : Y.Z.X.env.scope.names.lookup y = some .local := by rfl) (ft : t.firm = true := by rfl) (hs : ∀ x, foldedSetIterable iter Y.Z.X.env x = pure x := by intro _; rfl) :
    BlP Y Γ (.Assign [.Name y py] (.ListComp elt [⟨tg, iter, ifs, 0⟩] scope pos) spos :: rest) Δ Λ ((rs.bind fun ds => (compR f c g ds).bind mkL).bind k) := by
  have hrest : PSs Y.Z.X rest (fun D σ H => ∃ d, tBl Y (Γ.set i (some (d, .own t))) Δ Λ (k d) D σ H) := ⟨fun pins s σ H D I ⟨d, h⟩ => (hk d).run pins s σ H D I h⟩
  refine PSsimp (pss_cons (ps_setLc (g := tTg Y.Z ti f sl) (tt := fun σ H Q => ∃ x, tTs ⟨Y.Z.X, Y.Z.cls, fun _ _ _ => False⟩ (setC (wipeC Γ (own.map fun p : Str × Nat => p.2)) (sl x)) (c x) σ H Q) (te := fun σ H Q => ∃ x, tEv ⟨Y.Z.X, Y.Z.cls, fun _ _ _ => False⟩ (setC (wipeC Γ (own.map fun p : Str × Nat => p.2)) (sl x)) (g x) t σ H Q)
    hc nd hy hyl hsw hi ok (fun s H C cl fp => htg s H C cl fp) (fun s H C cl fp => ⟨fun pins s' σ H' Q I ⟨x, h⟩ => (ht s H C cl fp x).run pins s' σ H' Q I h⟩) (fun s H C cl fp => ⟨fun pins s' σ H' Q I ⟨x, h⟩ => (he s H C cl fp x).run pins s' σ H' Q I h⟩) hs) hrest) fun D σ H ⟨F0, ⟨F, fps, s⟩, q⟩ => ?_
  simp only [tSeq, tAsg, gName]
  refine lc_imp hx hsl ft (fun x σ F H Q p ⟨b, e, k⟩ => ⟨x, F, p, ?_⟩) (fun x σ F H Q p ⟨y, e, k⟩ => ⟨x, F, p, ?_⟩) ⟨F, s.pre, (PostS.split q s).imp fun v H1 ⟨d, F1, fv, _, g, h, n, f, q1⟩ => ⟨d, F0, s.set g h n f, q1⟩⟩
  · rw [e]; exact k
  · rw [e]; exact k
end

/-! ### slices -/
section
variable {Z : PX} {Γ : Ctx} {F H F' H' : Hp} {t ta tb tc : Ty} {Q : VK} {r ra rb rc : R PyData} {rs : R (List PyData)} {e a b c : Expr} {pos p : Pos}
def cutL {α : Type} (xs : List α) (lo hi : Option Int) : List α := (xs.drop (HT.sIx xs.length 0 lo)).take (HT.sIx xs.length xs.length hi - HT.sIx xs.length 0 lo)
/-- an optional part of a slice -/
def PostO (Z : PX) (F H : Hp) (Q : Option Int → Hp → Prop) (r : R (Option Int)) : Prop := r.wp (fun o => ∀ F' H', Grow F H F' H' → Q o H') (wishOf Z.cls Z.E H)
def tPo (Z : PX) (Γ : Ctx) (r : R (Option Int)) : TO := fun σ H Q => ∃ F, Pre Z.X.K F H Γ σ ∧ PostO Z F H Q r
abbrev PoP (Z : PX) (Γ : Ctx) (e : Option Expr) (r : R (Option Int)) : Prop := PO Z.X e (tPo Z Γ r)
def asI : PyData → R (Option Int)
  | .int i => .ok (some i)
  | _ => .stuck
@[simp] theorem asI_int (i : Int) : asI (.int i) = .ok (some i) := rfl
theorem POimp {X : Cx} {e : Option Expr} {te te' : TO} (h : PO X e te) (i : ∀ σ H Q, te' σ H Q → te σ H Q) : PO X e te' := ⟨fun pins s σ H Q I q => h.run pins s σ H Q I (i σ H Q q)⟩
theorem po_n : PoP Z Γ none (.ok none) := POimp po_none fun σ H Q ⟨F, p, q⟩ => q F H (Grow.refl p.fh p.tup)
theorem po_s (h : EvP Z Γ e r t) : PoP Z Γ (some e) (r.bind asI) := POimp (po_some h) fun σ H Q ⟨F, p, q⟩ => ⟨F, p, by
  cases r with
  | ok d =>
    intro v F1 H1 fv g h n f
    cases d with
    | int i => exact ⟨i, Rp.int_iff.mp (h.rp g.fh), q F1 H1 g⟩
    | _ => exact q.elim
  | exc c n => exact q
  | stuck => exact q⟩
theorem RpA.cut {K : PySem.W.Frag} {ds : List PyData} {vs : List V} (h : RpA K H ds vs) (lo hi : Option Int) : RpA K H (cutL ds lo hi) (cutV vs lo hi) := by
  unfold cutL cutV
  rw [h.length]
  exact (h.drop _).take _
theorem get_cut {α : Type} {xs : List α} {lo hi : Option Int} {i : Nat} {x : α} (h : (cutL xs lo hi)[i]? = some x) : xs[HT.sIx xs.length 0 lo + i]? = some x ∧ i < HT.sIx xs.length xs.length hi - HT.sIx xs.length 0 lo := by
  unfold cutL at h
  rw [List.getElem?_take] at h
  split at h
  · rename_i hi
    rw [List.getElem?_drop] at h
    exact ⟨h, hi⟩
  · cases h
theorem cutV_get {xs : List V} {lo hi : Option Int} {i : Nat} (h : i < HT.sIx xs.length xs.length hi - HT.sIx xs.length 0 lo) : (cutV xs lo hi)[i]? = xs[HT.sIx xs.length 0 lo + i]? := by
  unfold cutV
  rw [List.getElem?_take, if_pos h, List.getElem?_drop]
def cutLD (d : PyData) (lo hi : Option Int) : R PyData := match d with
  | .list ds => .ok (.list (cutL ds lo hi))
  | _ => .stuck
def cutTD (d : PyData) (lo hi : Option Int) : R PyData := match d with
  | .tuple ds => .ok (.tuple (cutL ds lo hi))
  | _ => .stuck
theorem tri_split {f : PyData → Option Int → Option Int → R PyData} {rl rh : R (Option Int)} {rd : V → Option Int → Option Int → Hp → VK → Prop} {σ : St}
    (rule : ∀ F H x vx fx lo hi Q, Same F H → TupF F H → RpT Z.X.K F H ta x vx fx → Post Z F H t Q (f x lo hi) → rd vx lo hi H Q)
    (q : tEv Z Γ (r.bind fun x => rl.bind fun lo => rh.bind fun hi => f x lo hi) t σ H Q) : tSl rd (tEv Z Γ r ta) (tPo Z Γ rl) (tPo Z Γ rh) σ H Q := by
  obtain ⟨F, p, q⟩ := q
  refine ⟨F, p, (Post.split q).imp fun v H1 ⟨x, F1, fv, _, g, h, _, _, q1⟩ => ⟨F1, p.grow g, ?_⟩⟩
  cases rl with
  | exc c n => exact q1
  | stuck => exact q1
  | ok lo =>
    intro F2 H2 g2
    refine ⟨F2, (p.grow g).grow g2, ?_⟩
    have q2 : Post Z F1 H1 t Q (rh.bind fun hi => f x lo hi) := q1
    cases rh with
    | exc c n => exact wishOf.mono g2.hh q2
    | stuck => exact q2
    | ok hi =>
      intro F3 H3 g3
      have g23 := g2.trans g3
      exact rule F3 H3 x v fv lo hi Q g23.fh g23.tup (h.grow g23) (Post.grow q2 g23)
theorem ev_cutL {lo hi : Option Expr} {rl rh : R (Option Int)} {p2 : Pos} (h : EvP Z Γ e r ta) (hl : PoP Z Γ lo rl) (hh : PoP Z Γ hi rh) (ft : ta.item.thin = true := by rfl) : EvP Z Γ (.Subscript e (.Slice lo hi none p2) pos) (r.bind fun x => rl.bind fun lo => rh.bind fun hi => cutLD x lo hi) (.own ta.item) :=
  PEimp (pe_slice sl_list h hl hh) fun σ H Q q => tri_split (fun F H x vx fx lo hi Q s tu hx q => by
    cases x with
    | list ds =>
      obtain ⟨a, vs, e1, h1, h2, h3⟩ := RpT.lst s hx
      refine ⟨a, vs, e1, h1, fun p hp => post_lst q s tu hp (OwnA.sub ft (fun i d hd => ?_) ?_)⟩
      · obtain ⟨hd, hlt⟩ := get_cut hd
        obtain ⟨x, hx, hr⟩ := h3 _ _ hd
        rw [h2] at hx hlt
        exact ⟨x, by rw [cutV_get hlt]; exact hx, hr⟩
      · unfold cutL cutV
        simp [h2]
    | _ => exact q.elim) q
theorem ev_cutT {lo hi : Option Expr} {rl rh : R (Option Int)} {p2 : Pos} (h : EvP Z Γ e r ta) (hl : PoP Z Γ lo rl) (hh : PoP Z Γ hi rh) (ft : ta = .imm ∨ ta = .shr := by first | exact .inl rfl | exact .inr rfl) : EvP Z Γ (.Subscript e (.Slice lo hi none p2) pos) (r.bind fun x => rl.bind fun lo => rh.bind fun hi => cutTD x lo hi) ta :=
  PEimp (pe_slice sl_tupA h hl hh) fun σ H Q q => tri_split (fun F H x vx fx lo hi Q s tu hx q => by
    cases x with
    | tuple ds =>
      have whole : ∀ {vs : List V}, ds.length = vs.length → HT.sIx vs.length 0 lo = 0 ∧ HT.sIx vs.length vs.length hi = vs.length → cutL ds lo hi = ds := fun {vs} hl hw => by
        unfold cutL
        rw [hl, hw.1, hw.2, List.drop_zero, Nat.sub_zero, List.take_of_length_le (Nat.le_of_eq hl)]
      rcases ft with rfl | rfl
      · obtain ⟨_, h1, f1⟩ := hx
        obtain ⟨a, vs, e1, h2, h3⟩ := Rp.tuple_iff.mp h1
        refine ⟨a, vs, e1, h2, fun hw => ?_, fun hw p hp => post_tupI q s tu hp (h3.cut lo hi) ?_⟩
        · have q' : Post Z F H .imm Q (.ok (.tuple (cutL ds lo hi))) := q
          rw [whole h3.length hw] at q'
          subst e1
          exact Post.imm_ok q' s tu h1 f1
        · have : ∀ (l : List PyData), (∀ (i : Nat) d, l[i]? = some d → flat d = true) → flatA l = true := by
            intro l
            induction l with
            | nil => intro _; rfl
            | cons x l ih => intro h; simp [flatA, h 0 x rfl, ih fun i d e => h (i + 1) d (by simpa using e)]
          exact this _ fun i d hd => flatA_get (by simpa [flat] using f1) (get_cut hd).1
      · obtain ⟨_, h1⟩ := hx
        obtain ⟨a, vs, e1, h2, h3⟩ := Rp.tuple_iff.mp h1
        refine ⟨a, vs, e1, sameT s h2, fun hw => ?_, fun hw p hp => post_tupS q s tu hp (h3.cut lo hi)⟩
        have q' : Post Z F H .shr Q (.ok (.tuple (cutL ds lo hi))) := q
        rw [whole h3.length hw] at q'
        subst e1
        exact q' _ F H [] (Grow.refl s tu) ⟨rfl, h1⟩ List.nodup_nil (fun _ z => absurd z (by simp))
    | _ => exact q.elim) q
/-- xs[::-1] -/
def revD : PyData → R PyData
  | .list ds => .ok (.list ds.reverse)
  | _ => .stuck
theorem OwnA.rev {K : PySem.W.Frag} {ds : List PyData} {vs : List V} (f : t.thin = true) (hl : ds.length = vs.length) (h : ∀ (i : Nat) d, ds[i]? = some d → ∃ x, vs[i]? = some x ∧ RpT K F H t d x []) : OwnA (RpT K F H t) ds.reverse vs.reverse [] := by
  refine OwnA.sub f (fun i d e => ?_) (by simp [hl])
  have hi : i < ds.length := by
    have := (List.getElem?_eq_some_iff.mp e).1
    simpa using this
  rw [List.getElem?_reverse hi] at e
  obtain ⟨x, hx, hr⟩ := h _ _ e
  exact ⟨x, by rw [List.getElem?_reverse (by omega), ← hl]; exact hx, hr⟩
theorem ev_rev {k : Nat} {p1 p2 p3 : Pos} (h : EvP Z Γ e r ta) (ft : ta.item.thin = true := by rfl) : EvP Z Γ (.Subscript e (.Slice none none (some (.UnaryOp .USub (.Constant (.int 1) k p1) p2)) p3) pos) (r.bind revD) (.own ta.item) :=
  PEimp (pe_revL h) fun σ H Q ⟨F, p, q⟩ => ⟨F, p, (Post.split q).imp fun v H1 ⟨x, F1, fv, _, g, h, _, _, q1⟩ => by
    cases x with
    | list ds =>
      obtain ⟨a, vs, e1, h1, h2, h3⟩ := RpT.lst g.fh h
      exact ⟨a, vs, e1, h1, fun p hp => post_lst q1 g.fh g.tup hp (OwnA.rev ft h2 h3)⟩
    | _ => exact q1.elim⟩
/-- xs[-2::-1]: all but the last one, from behind -/
theorem rev2_bounds (n : Nat) : sliceBounds (some (-2)) none (some (-1)) n = (((n - 1 : Nat) : Int) - 1, -1, -1) := by
  simp only [sliceBounds, Option.getD_some]
  refine Prod.ext ?_ rfl
  simp
  omega
theorem rev2_pick (items : Array Value) : slicePick items (some (-2)) none (some (-1)) = items.toList.dropLast.reverse.toArray := by
  unfold slicePick
  rw [rev2_bounds]
  show ((sliceRange (((items.size - 1 : Nat) : Int) - 1) (-1) (-1)).filterMap (items[·]?)).toArray = _
  rw [PySem.W.krv_sliceRange, PySem.W.krv_range, List.filterMap_reverse]
  have h := pick_run items 0 (items.size - 1)
  have e : (List.range (items.size - 1)).map (0 + ·) = List.range (items.size - 1) := by
    rw [show ((0 + ·) : Nat → Nat) = id from funext fun k => Nat.zero_add k, List.map_id]
  rw [e, List.drop_zero] at h
  rw [h, List.dropLast_eq_take, Array.length_toList]
def tRev2 (K : PySem.W.Frag) (te : TE) : TE := fun σ H Q => te σ H fun x H1 => ∃ a xs, x = .ref a ∧ SqL K H1 a xs ∧ ∀ p, H1 p = none → Q (.ref p) (upd H1 p (.lst xs.dropLast.reverse))
theorem pe_rev2 {X : Cx} {e : Expr} {te : TE} {k k2 : Nat} {p1 p2 p3 p4 p5 pos : Pos} (he : PE X e te) : PE X (.Subscript e (.Slice (some (.UnaryOp .USub (.Constant (.int 2) k2 p4) p5)) none (some (.UnaryOp .USub (.Constant (.int 1) k p1) p2)) p3) pos) (tRev2 X.K te) := by
  refine ⟨fun pins s σ H Q I h => ?_⟩
  refine Subscript_ (thn (he.run pins s σ H _ I h) fun v s1 ⟨x, H1, I1, r1, q1⟩ => ?_)
  obtain ⟨a, xs, ex, hx, q⟩ := q1
  subst ex
  cases r1
  have hst : PO X (some (.UnaryOp .USub (.Constant (.int 1) k p1) p2)) (tPart (tUn (rU fun i => .int (-i)) (tC (.int 1)))) := po_some (pe_un un_neg pe_int)
  have hlo : PO X (some (.UnaryOp .USub (.Constant (.int 2) k2 p4) p5)) (tPart (tUn (rU fun i => .int (-i)) (tC (.int 2)))) := po_some (pe_un un_neg pe_int)
  refine wpAny_Slice (thn (hlo.run pins s1 σ H1 (fun o H2 => o = some (-2) ∧ H2 = H1) I1 ⟨2, rfl, -2, rfl, rfl, rfl⟩) fun vl s2 ⟨l, H2, I2, pl, el, e2⟩ => ?_)
  subst el e2
  refine thn (po_none.run pins s2 σ H2 (fun o H3 => o = none ∧ H3 = H2) I2 ⟨rfl, rfl⟩) fun vu s3 ⟨u, H3, I3, pu, eu, e3⟩ => ?_
  subst eu e3
  refine thn (hst.run pins s3 σ H3 (fun o H4 => o = some (-1) ∧ H4 = H3) I3 ⟨1, rfl, -1, rfl, rfl, rfl⟩) fun vs s4 ⟨o, H4, I4, ps, eo, e4⟩ => ?_
  subst eo e4
  have I5 : Inv X pins σ H4 { s4 with heap := s4.heap.push { cls := .type "slice", data := .fields #[vl, vu, vs] } } := I4.kept (t' := s4.toks) fun b ob q => Heap.get?_push_of_some _ q
  obtain ⟨its, r, ht, hz⟩ := I5.list hx
  have hlen := r.length
  show wpAny (model X.prog X.w) X.A (subscriptTail e (.Slice (some (.UnaryOp .USub (.Constant (.int 2) k2 p4) p5)) none (some (.UnaryOp .USub (.Constant (.int 1) k p1) p2)) p3) (.ref a) (.ref s4.heap.objs.size)) (EP X pins σ Q) X.xe { s4 with heap := s4.heap.push { cls := .type "slice", data := .fields #[vl, vu, vs] } }
  refine tail_any (ops := [.ref a, .ref s4.heap.objs.size]) ht.isList.typeIs (PySem.slot_list_getitem.lookup) ?_ (by with_unfolding_all rfl)
  refine wpAny_getItem_list_slice ht.isList (Heap.IsSliceOf.new _ vl vu vs) pl pu ps (by decide) ?_ (by rw [List.size_toArray]; omega)
  rw [rev2_pick]
  refine ⟨.ref _, _, I5.laid (t' := s4.toks) (o := .lst xs.dropLast.reverse) (fun b ob q => Heap.get?_push_of_some _ q) (Nat.le_refl _) ?_, rfl, q _ (I5.hok.fresh (Nat.le_refl _))⟩
  exact ⟨by rw [List.length_reverse, List.length_dropLast]; omega, _, 0, r.dropLast.reverse, Heap.get?_push_size _ rfl⟩
def rev2D : PyData → R PyData
  | .list ds => .ok (.list ds.dropLast.reverse)
  | _ => .stuck
theorem ev_rev2 {k k2 : Nat} {p1 p2 p3 p4 p5 : Pos} (h : EvP Z Γ e r ta) (ft : ta.item.thin = true := by rfl) : EvP Z Γ (.Subscript e (.Slice (some (.UnaryOp .USub (.Constant (.int 2) k2 p4) p5)) none (some (.UnaryOp .USub (.Constant (.int 1) k p1) p2)) p3) pos) (r.bind rev2D) (.own ta.item) :=
  PEimp (pe_rev2 h) fun σ H Q ⟨F, p, q⟩ => ⟨F, p, (Post.split q).imp fun v H1 ⟨x, F1, fv, _, g, h, _, _, q1⟩ => by
    cases x with
    | list ds =>
      obtain ⟨a, vs, e1, h1, h2, h3⟩ := RpT.lst g.fh h
      refine ⟨a, vs, e1, h1, fun p hp => post_lst q1 g.fh g.tup hp (OwnA.rev ft (by simp [h2]) fun i d e => ?_)⟩
      rw [List.getElem?_dropLast] at e
      split at e
      · rename_i hi
        obtain ⟨x, hx, hr⟩ := h3 i d e
        exact ⟨x, by rw [List.getElem?_dropLast, if_pos (by omega)]; exact hx, hr⟩
      · cases e
    | _ => exact q1.elim⟩
/-! ### list + list, list * n, tuple + tuple, list(..) -/
def catL (x y : PyData) : R PyData := match x, y with
  | .list ds, .list es => if ds.length + es.length ≤ sizeLine then .ok (.list (ds ++ es)) else .stuck
  | _, _ => .stuck
theorem RpT.lstM {t : Ty} {ds : List PyData} {v : V} {fp : List Addr} {K : PySem.W.Frag} (s : Same F H) (ft : (∃ u, t = .own u) ∨ ∃ u, t = .bor u) (h : RpT K F H t (.list ds) v fp) :
    ∃ p vs, v = .ref p ∧ H p = some (.lst vs) ∧ ds.length = vs.length ∧ ∀ (i : Nat) d, ds[i]? = some d → ∃ x, vs[i]? = some x ∧ RpT K F H t.item d x [] := by
  rcases ft with ⟨u, rfl⟩ | ⟨u, rfl⟩
  · obtain ⟨ds', p, vs, fs, e1, e2, h1, h2, h3, e3⟩ := h
    cases e1
    exact ⟨p, vs, e2, h1, h3.length, fun i d q => let ⟨x, f, a, b⟩ := h3.get q; ⟨x, a, b.read⟩⟩
  · obtain ⟨_, ds', p, vs, fs, e1, e2, h1, h2, h3⟩ := h
    cases e1
    exact ⟨p, vs, e2, h1, h3.length, fun i d q => let ⟨x, f, a, b⟩ := h3.get q; ⟨x, a, b.read⟩⟩
theorem ev_catL (ha : EvP Z Γ a ra ta) (hb : EvP Z Γ b rb tb) (fa : (∃ u, ta = .own u) ∨ ∃ u, ta = .bor u := by first | exact .inl ⟨_, rfl⟩ | exact .inr ⟨_, rfl⟩) (fb : (∃ u, tb = .own u) ∨ ∃ u, tb = .bor u := by first | exact .inl ⟨_, rfl⟩ | exact .inr ⟨_, rfl⟩)
    (ft : ta.item.thin = true := by rfl) (fe : tb.item = ta.item := by rfl) : EvP Z Γ (.BinOp a .Add b pos) (ra.bind fun x => rb.bind fun y => catL x y) (.own ta.item) := by
  refine ev_op (ta := ta) (tb := tb) op_cat (fun F H x y vx vy fx fy Q s tu hx hy q => ?_) ha hb
  cases x with
  | list ds =>
    cases y with
    | list es =>
      obtain ⟨p, vs, e1, h1, h2, h3⟩ := RpT.lstM s fa hx
      obtain ⟨p', us, e1', h1', h2', h3'⟩ := RpT.lstM s fb hy
      rw [fe] at h3'
      have q1 : Post Z F H (.own ta.item) Q (if ds.length + es.length ≤ sizeLine then .ok (.list (ds ++ es)) else .stuck) := q
      by_cases c : ds.length + es.length ≤ sizeLine
      · rw [if_pos c] at q1
        refine ⟨p, p', vs, us, e1, e1', h1, h1', by omega, fun p hp => post_lst q1 s tu hp ?_⟩
        exact OwnA.app (OwnA.sub ft h3 h2) (OwnA.sub ft h3' h2')
      · rw [if_neg c] at q1
        exact q1.elim
    | _ => exact q.elim
  | _ => exact q.elim
end

/-! ### dicts -/
def keq : PyData → PyData → Bool
  | .int i, .int j => decide (i = j)
  | .str a, .str b => decide (a = b)
  | _, _ => false
def isKey : PyData → Bool
  | .int _ => true
  | .str _ => true
  | _ => false
def kdict (kvs : List (PyData × PyData)) : Bool := kvs.all fun kv => isKey kv.1
def dget (kvs : List (PyData × PyData)) (k : PyData) : Option PyData := (kvs.find? fun kv => keq kv.1 k).map (·.2)
def dput (kvs : List (PyData × PyData)) (k v : PyData) : List (PyData × PyData) := if (kvs.any fun kv => keq kv.1 k) = true then kvs.map (fun kv => if keq kv.1 k = true then (kv.1, v) else kv) else kvs ++ [(k, v)]
theorem keq_keyD (a b : Key) : keq (keyD a) (keyD b) = decide (a = b) := by
  cases a <;> cases b <;> simp [keyD, keq]
theorem isKey_of {x : PyData} (h : isKey x = true) : ∃ k : Key, x = keyD k := by
  cases x with
  | int i => exact ⟨.inl i, rfl⟩
  | str i => exact ⟨.inr i, rfl⟩
  | _ => simp [isKey] at h
theorem keyV_of {K : PySem.W.Frag} {H : Hp} {k : Key} {v : V} (h : Rp K H (keyD k) v) : v = kV k := by
  cases k with
  | inl i => exact Rp.int_iff.mp h
  | inr i => exact Rp.str_iff.mp h
theorem dget_at : ∀ {kvs : List (PyData × PyData)} {xs : List (Key × V)}, kvs.map (·.1) = xs.map (fun q => keyD q.1) → ∀ k : Key, (dget kvs (keyD k) = none ∧ valV xs k = none) ∨
    ∃ (i : Nat) (d : PyData) (x : V), (kvs.map (·.2))[i]? = some d ∧ (xs.map (·.2))[i]? = some x ∧ dget kvs (keyD k) = some d ∧ valV xs k = some x
  | [], [], _, k => .inl ⟨rfl, rfl⟩
  | [], _ :: _, h, k => by simp at h
  | _ :: _, [], h, k => by simp at h
  | (a, d) :: r, (b, x) :: q, h, k => by
    simp only [List.map_cons, List.cons.injEq] at h
    obtain ⟨h1, h2⟩ := h
    subst h1
    by_cases e : b = k
    · subst e
      refine .inr ⟨0, d, x, rfl, rfl, ?_, valV_pos rfl⟩
      simp [dget, List.find?_cons, keq_keyD]
    · have e1 : dget ((keyD b, d) :: r) (keyD k) = dget r (keyD k) := by simp [dget, List.find?_cons, keq_keyD, e]
      have e2 : valV ((b, x) :: q) k = valV q k := valV_neg e
      rw [e1, e2]
      rcases dget_at h2 k with z | ⟨i, d', x', a1, a2, a3, a4⟩
      · exact .inl z
      · exact .inr ⟨i + 1, d', x', by simpa using a1, by simpa using a2, a3, a4⟩
theorem kd_keys {kvs : List (PyData × PyData)} {xs : List (List Key × V)} (h : kvs.map (·.1) = xs.map (fun q => tkeyD q.1)) (n : xs ≠ []) : kdict kvs = false := by
  cases xs with
  | nil => exact absurd rfl n
  | cons p r =>
    cases kvs with
    | nil => simp at h
    | cons q s =>
      simp only [List.map_cons, List.cons.injEq] at h
      simp [kdict, h.1, tkeyD, isKey]
section
variable {K : PySem.W.Frag} {F H F' H' : Hp}
theorem RpV.get : ∀ {kvs : List (PyData × PyData)} {vs : List V} {i : Nat} {d : PyData}, RpV K H kvs vs → (kvs.map (·.2))[i]? = some d → ∃ x, vs[i]? = some x ∧ Rp K H d x
  | kvs, vs, i, d, h, e => (rpA_of h).get e
/-- a dict with plain keys, whatever its type -/
theorem RpT.dk (s : Same F H) {t : Ty} {kvs : List (PyData × PyData)} {v : V} {fp : List Addr} (kd : kdict kvs = true) (h : RpT K F H t (.dict kvs) v fp) :
    ∃ p xs, v = .ref p ∧ H p = some (.dK xs) ∧ kvs.map (·.1) = xs.map (fun q => keyD q.1) ∧ ∀ (i : Nat) d, (kvs.map (·.2))[i]? = some d → ∃ x, (xs.map (·.2))[i]? = some x ∧ RpT K F H t.item d x [] := by
  cases t with
  | any =>
    obtain ⟨_, h⟩ := h
    obtain ⟨p, e, h⟩ := Rp.dict_iff.mp h
    rcases h with ⟨xs, h1, h2, h3⟩ | ⟨xs, h0, h1, h2, h3⟩
    · exact ⟨p, xs, e, h1, h2, fun i d q => let ⟨x, a, b⟩ := h3.get q; ⟨x, a, rfl, b⟩⟩
    · rw [kd_keys h2 h0] at kd; cases kd
  | shr =>
    obtain ⟨_, h⟩ := h
    obtain ⟨p, e, h⟩ := Rp.dict_iff.mp h
    rcases h with ⟨xs, h1, h2, h3⟩ | ⟨xs, h0, h1, h2, h3⟩
    · exact ⟨p, xs, e, s _ _ h1, h2, fun i d q => let ⟨x, a, b⟩ := h3.get q; ⟨x, a, rfl, b⟩⟩
    · rw [kd_keys h2 h0] at kd; cases kd
  | imm => obtain ⟨_, _, f⟩ := h; simp [flat] at f
  | own t => obtain ⟨ds', p, vs, fs, e1, _⟩ := h; cases e1
  | bor t => obtain ⟨_, ds', p, vs, fs, e1, _⟩ := h; cases e1
  | dct t =>
    obtain ⟨ds', p, vs, fs, e1, e2, ⟨h1, h1'⟩, h2, h3, e3⟩ := h
    cases e1
    exact ⟨p, vs, e2, h1, h1', fun i d q => let ⟨x, f, a, b⟩ := h3.get q; ⟨x, a, b.read⟩⟩
  | bdc t =>
    obtain ⟨_, ds', p, vs, fs, e1, e2, ⟨h1, h1'⟩, h2, h3⟩ := h
    cases e1
    exact ⟨p, vs, e2, h1, h1', fun i d q => let ⟨x, f, a, b⟩ := h3.get q; ⟨x, a, b.read⟩⟩
/-- what a look-up tells -/
theorem RpT.look (s : Same F H) {t tk : Ty} {kvs : List (PyData × PyData)} {k : PyData} {v kv : V} {fp fk : List Addr} (kd : kdict kvs = true) (hk : isKey k = true) (h : RpT K F H t (.dict kvs) v fp) (q : RpT K F H tk k kv fk) :
    ∃ p, v = .ref p ∧ ((dget kvs k = none ∧ DGet H p kv none) ∨ ∃ d x, dget kvs k = some d ∧ DGet H p kv (some x) ∧ RpT K F H t.item d x []) := by
  obtain ⟨p, xs, e, h1, h2, h3⟩ := RpT.dk s kd h
  obtain ⟨k, rfl⟩ := isKey_of hk
  have ek := keyV_of (q.rp s)
  subst ek
  refine ⟨p, e, ?_⟩
  rcases dget_at h2 k with ⟨a, b⟩ | ⟨i, d, x, a1, a2, a3, a4⟩
  · refine .inl ⟨a, ?_⟩
    rw [← b]
    exact DGet.k h1
  · obtain ⟨x', b1, b2⟩ := h3 i d a1
    rw [a2] at b1; cases b1
    refine .inr ⟨d, x, a3, ?_, b2⟩
    rw [← a4]
    exact DGet.k h1
end
def inK (k : PyData) (x : PyData) : R PyData := match x with
  | .dict kvs => if isKey k = true ∧ kdict kvs = true then .ok (.bool (dget kvs k).isSome) else .stuck
  | _ => .stuck
def notK (k : PyData) (x : PyData) : R PyData := match x with
  | .dict kvs => if isKey k = true ∧ kdict kvs = true then .ok (.bool (!(dget kvs k).isSome)) else .stuck
  | _ => .stuck
def rDin : R2 := fun x y H Q => ∃ a o, y = .ref a ∧ DGet H a x o ∧ Q (.bl o.isSome) H
def rDno : R2 := fun x y H Q => ∃ a o, y = .ref a ∧ DGet H a x o ∧ Q (.bl (!o.isSome)) H
theorem op_dinK {X : Cx} (hu : X.A.units + 1 < cLine) : OpR X (compareOp .In) rDin := by
  intro pins s σ H x y v u Q I rx ry h
  obtain ⟨a, o, rfl, g, q⟩ := h
  obtain rfl : u = Value.ref a := ry
  exact d_in hu I g rx fun s3 I3 => ⟨.bl o.isSome, H, I3, rfl, q⟩
theorem op_dnoK {X : Cx} (hu : X.A.units + 1 < cLine) : OpR X (compareOp .NotIn) rDno := by
  intro pins s σ H x y v u Q I rx ry h
  obtain ⟨a, o, rfl, g, q⟩ := h
  obtain rfl : u = Value.ref a := ry
  exact d_notIn hu I g rx fun s3 I3 => ⟨.bl (!o.isSome), H, I3, rfl, q⟩
section
variable {Z : PX} {Γ : Ctx} {F H F' H' : Hp} {t ta tb tc : Ty} {Q : VK} {r ra rb rc : R PyData} {rs : R (List PyData)} {e a b c : Expr} {pos p : Pos}
theorem rule_inK : Rule2 Z inK ta tb .imm rDin := fun F H x y vx vy fx fy Q s tu hx hy q => by
  cases y with
  | dict kvs =>
    have q1 : Post Z F H .imm Q (if isKey x = true ∧ kdict kvs = true then .ok (.bool (dget kvs x).isSome) else .stuck) := q
    by_cases c : isKey x = true ∧ kdict kvs = true
    · rw [if_pos c] at q1
      obtain ⟨p, e, h | ⟨d, x', h1, h2, h3⟩⟩ := RpT.look s c.2 c.1 hy hx
      · rw [h.1] at q1
        exact ⟨p, none, e, h.2, post_bool q1 s tu⟩
      · rw [h1] at q1
        exact ⟨p, some x', e, h2, post_bool q1 s tu⟩
    · rw [if_neg c] at q1
      exact q1.elim
  | _ => exact q.elim
theorem rule_notK : Rule2 Z notK ta tb .imm rDno := fun F H x y vx vy fx fy Q s tu hx hy q => by
  cases y with
  | dict kvs =>
    have q1 : Post Z F H .imm Q (if isKey x = true ∧ kdict kvs = true then .ok (.bool (!(dget kvs x).isSome)) else .stuck) := q
    by_cases c : isKey x = true ∧ kdict kvs = true
    · rw [if_pos c] at q1
      obtain ⟨p, e, h | ⟨d, x', h1, h2, h3⟩⟩ := RpT.look s c.2 c.1 hy hx
      · rw [h.1] at q1
        exact ⟨p, none, e, h.2, post_bool q1 s tu⟩
      · rw [h1] at q1
        exact ⟨p, some x', e, h2, post_bool q1 s tu⟩
    · rw [if_neg c] at q1
      exact q1.elim
  | _ => exact q.elim
/-- d[k], there -/
def dixD (x k : PyData) : R PyData := match x with
  | .dict kvs => if isKey k = true ∧ kdict kvs = true then (match dget kvs k with
    | some d => .ok d
    | none => .stuck) else .stuck
  | _ => .stuck
theorem ev_dix (hu : Z.X.A.units + 1 < cLine) (ha : EvP Z Γ a ra ta) (hb : EvP Z Γ b rb tb) (hs : NoSl b := by intro _ _; rfl) : EvP Z Γ (.Subscript a b pos) (ra.bind fun x => rb.bind fun y => dixD x y) ta.item :=
  PEimp (pe_dget hu ha hb hs) fun σ H Q ⟨F, p, q⟩ => ⟨F, p, (Post.split q).imp fun v H1 ⟨x, F1, fv, _, g, h, _, _, q1⟩ => ⟨F1, p.grow g, (Post.split q1).imp fun v2 H2 ⟨y, F2, fv2, _, g2, h2, _, _, q2⟩ => by
    cases x with
    | dict kvs =>
      have q3 : Post Z F2 H2 ta.item Q (if isKey y = true ∧ kdict kvs = true then (match dget kvs y with
        | some d => .ok d
        | none => .stuck) else .stuck) := q2
      by_cases c : isKey y = true ∧ kdict kvs = true
      · rw [if_pos c] at q3
        obtain ⟨p, e, z | ⟨d, x', h1, h2, h3⟩⟩ := RpT.look g2.fh c.2 c.1 (h.grow g2) h2
        · rw [z.1] at q3; exact q3.elim
        · rw [h1] at q3
          exact ⟨p, x', e, h2, post_item q3 g2.fh g2.tup h3⟩
      · rw [if_neg c] at q3
        exact q3.elim
    | _ => exact q2.elim⟩⟩
/-- d.get(k) -/
def dctOf (x : PyData) : R (List (PyData × PyData)) := match x with
  | .dict kvs => if kdict kvs = true then .ok kvs else .stuck
  | _ => .stuck
def getK (kvs : List (PyData × PyData)) (k : PyData) : R PyData := if isKey k = true then .ok ((dget kvs k).getD .none) else .stuck
theorem item_none {K : PySem.W.Frag} {t : Ty} (ft : t = .shr ∨ t = .imm ∨ t = .any) : RpT K F H t .none .non [] := by
  rcases ft with rfl | rfl | rfl
  · exact ⟨rfl, Rp.none_iff.mpr rfl⟩
  · exact ⟨rfl, Rp.none_iff.mpr rfl, rfl⟩
  · exact ⟨rfl, Rp.none_iff.mpr rfl⟩
theorem ev_dget1 {apos : Pos} (hu : Z.X.A.units + 1 < cLine) (ha : EvP Z Γ a ra ta) (hb : EvP Z Γ b rb tb) (m : M1 Z.X a "get" apos b pos := by exact ⟨by rfl, by rfl, by rfl, by rfl⟩) (ft : ta.item = .shr ∨ ta.item = .imm ∨ ta.item = .any := by first | exact .inl rfl | exact .inr (.inl rfl) | exact .inr (.inr rfl)) :
    EvP Z Γ (.Call (.Attribute a "get" apos) [b] [] pos) (ra.bind fun x => (dctOf x).bind fun kvs => rb.bind fun y => getK kvs y) ta.item :=
  PEimp (pe_dget1 hu ha hb m) fun σ H Q ⟨F, p, q⟩ => ⟨F, p, (Post.split q).imp fun v H1 ⟨x, F1, fv, _, g, h, _, _, q1⟩ => by
    cases x with
    | dict kvs =>
      have q2 : Post Z F1 H1 ta.item Q ((if kdict kvs = true then R.ok kvs else .stuck).bind fun kvs => rb.bind fun y => getK kvs y) := q1
      by_cases kd : kdict kvs = true
      · rw [if_pos kd] at q2
        have q2 : Post Z F1 H1 ta.item Q (rb.bind fun y => getK kvs y) := q2
        obtain ⟨p', xs, e, h1, h2, h3⟩ := RpT.dk g.fh kd h
        refine ⟨p', e, .inl ⟨xs, .inl h1⟩, F1, p.grow g, (Post.split q2).imp fun v2 H2 ⟨y, F2, fv2, _, g2, h2, _, _, q2⟩ => ?_⟩
        have q3 : Post Z F2 H2 ta.item Q (if isKey y = true then .ok ((dget kvs y).getD .none) else .stuck) := q2
        by_cases c : isKey y = true
        · rw [if_pos c] at q3
          subst e
          obtain ⟨p2, e2, z | ⟨d, x', h1, h2, h3⟩⟩ := RpT.look g2.fh kd c (h.grow g2) h2
          · cases e2
            rw [z.1] at q3
            exact ⟨none, z.2, post_item q3 g2.fh g2.tup (item_none ft)⟩
          · cases e2
            rw [h1] at q3
            exact ⟨some x', h2, post_item q3 g2.fh g2.tup h3⟩
        · rw [if_neg c] at q3
          exact q3.elim
      · rw [if_neg kd] at q2
        exact q2.elim
    | _ => exact q1.elim⟩
end
/-- d[k] = v -/
def putD (xd k v : PyData) : R PyData := match xd with
  | .dict kvs => if isKey k = true ∧ kdict kvs = true ∧ kvs.length < sizeLine then .ok (.dict (dput kvs k v)) else .stuck
  | _ => .stuck
section
variable {K : PySem.W.Frag} {F H F' H' : Hp}
theorem any_keq : ∀ {kvs : List (PyData × PyData)} {xs : List (Key × V)}, kvs.map (·.1) = xs.map (fun q => keyD q.1) → ∀ k : Key, (kvs.any fun kv => keq kv.1 (keyD k)) = xs.any fun kv => decide (kv.1 = k)
  | [], [], _, k => rfl
  | [], _ :: _, h, k => by simp at h
  | _ :: _, [], h, k => by simp at h
  | (a, d) :: r, (b, x) :: q, h, k => by
    simp only [List.map_cons, List.cons.injEq] at h
    rw [List.any_cons, List.any_cons, any_keq h.2 k, h.1, keq_keyD]
theorem dput_map {t : Ty} (ft : t.thin = true) {d : PyData} {u : V} (hd : RpT K F H t d u []) (k : Key) : ∀ {kvs : List (PyData × PyData)} {xs : List (Key × V)} {fs : List Addr}, kvs.map (·.1) = xs.map (fun q => keyD q.1) → OwnA (RpT K F H t) (kvs.map (·.2)) (xs.map (·.2)) fs →
    ((kvs.map fun kv => if keq kv.1 (keyD k) = true then (kv.1, d) else kv).map (·.1) = ((xs.map fun kv => if kv.1 = k then (kv.1, u) else kv).map fun q => keyD q.1)) ∧
      OwnA (RpT K F H t) ((kvs.map fun kv => if keq kv.1 (keyD k) = true then (kv.1, d) else kv).map (·.2)) ((xs.map fun kv => if kv.1 = k then (kv.1, u) else kv).map (·.2)) []
  | [], [], _, _, _ => ⟨rfl, .nil⟩
  | [], _ :: _, _, h, _ => by simp at h
  | _ :: _, [], _, h, _ => by simp at h
  | (a, e) :: r, (b, x) :: q, fs, h, ho => by
    have hh : a = keyD b ∧ r.map (·.1) = q.map (fun q => keyD q.1) := by simpa using h
    obtain ⟨h1, h2⟩ := hh
    subst h1
    cases ho with
    | cons p rest =>
      have ep := RpT.thin ft p
      subst ep
      obtain ⟨i1, i2⟩ := dput_map ft hd k h2 rest
      by_cases c : b = k
      · subst c
        refine ⟨?_, ?_⟩
        · simp only [List.map_cons, keq_keyD, decide_true, if_true, i1]
        · simp only [List.map_cons, keq_keyD, decide_true, if_true]
          exact OwnA.cons (f := []) hd i2
      · refine ⟨?_, ?_⟩
        · simp only [List.map_cons, keq_keyD, c, decide_false, if_false, i1, Bool.false_eq_true]
        · simp only [List.map_cons, keq_keyD, c, decide_false, if_false, Bool.false_eq_true]
          exact OwnA.cons (f := []) p i2
theorem dput_rel {t : Ty} (ft : t.thin = true) {d : PyData} {u : V} (hd : RpT K F H t d u []) (k : Key) {kvs : List (PyData × PyData)} {xs : List (Key × V)} {fs : List Addr} (hk : kvs.map (·.1) = xs.map (fun q => keyD q.1)) (ho : OwnA (RpT K F H t) (kvs.map (·.2)) (xs.map (·.2)) fs) :
    (dput kvs (keyD k) d).map (·.1) = (putK xs k u).map (fun q => keyD q.1) ∧ OwnA (RpT K F H t) ((dput kvs (keyD k) d).map (·.2)) ((putK xs k u).map (·.2)) [] := by
  unfold dput putK
  rw [any_keq hk k]
  by_cases c : (xs.any fun kv => decide (kv.1 = k)) = true
  · rw [if_pos c, if_pos c]
    exact dput_map ft hd k hk ho
  · rw [if_neg c, if_neg c]
    refine ⟨by simp [hk], ?_⟩
    have e := OwnA.thin ft ho
    subst e
    simp only [List.map_append, List.map_cons, List.map_nil]
    exact OwnA.app ho (OwnA.one hd)
end
section
variable {Y : BX} {F0 : Hp} {S L : Type} {Γ : Ctx} {Δ : S → Ctx} {Λ : L → Ctx} {F H F' H' H2 : Hp} {t ta tb : Ty} {r ra rb : R PyData} {e a b : Expr} {σ : St} {pos p : Pos} {rest : List Stmt} {D : Ends} {fps : Nat → List Addr}
/-- x[b] = e, x one's own dict -/
theorem bl_dput {i : Nat} {x : Str} {xd : PyData} {px pos' : Pos} {k : PyData → R (Fl S L)} (hu : Y.Z.X.A.units + 1 < cLine) (hΓ : Γ[i]? = some (some (xd, .dct t))) (he : EvP Y.Z Γ e r t) (hb : EvP Y.Z Γ b rb tb) (hk : ∀ d, BlP Y (Γ.set i (some (d, .dct t))) rest Δ Λ (k d)) (ft : t.thin = true := by rfl) (hf : firmC Γ = true := by rfl)
    (hN : Y.Z.X.N[i]? = some x := by rfl) (hv : Vis Y.Z.X.env.scope x := by first | exact Or.inl rfl | exact Or.inr (Or.inl rfl) | exact Or.inr (Or.inr rfl)) (hd : (x == ("__debug__" : Str)) = false := by decide) (hcd : (x == ("__classdict__" : Str)) = false := by decide)
    (hs : swapsWith e (some (.Subscript (.Name x px) b pos')) pos.line Y.Z.X.env = pure false := by rfl) :
    BlP Y Γ (.Assign [.Subscript (.Name x px) b pos'] e pos :: rest) Δ Λ (r.bind fun d => rb.bind fun kd => (putD xd kd d).bind k) := by
  have hrest : PSs Y.Z.X rest (fun D σ H => ∃ d, tBl Y (Γ.set i (some (d, .dct t))) Δ Λ (k d) D σ H) := ⟨fun pins s σ H D I ⟨d, h⟩ => (hk d).run pins s σ H D I h⟩
  refine PSsimp (pss_cons (ps_dput hu (pe_var hN hv hd hcd) hb he hs) hrest) fun D σ H ⟨F0, ⟨F, fps, s⟩, q⟩ => ?_
  obtain ⟨fps, s, hst⟩ := s.clean
  refine ⟨F, s.pre, (PostS.split q s).imp fun u H1 ⟨d, F1, fv, _, g, h, n, f, q1⟩ => ?_⟩
  have s1 := s.grow g
  obtain ⟨v, a1, kvs, p, xs, fs, e1, e2, ⟨h1, h1'⟩, h2, h3, e3⟩ := s1.sl.2 i xd _ hΓ
  subst e1; subst e2
  refine ⟨_, a1, F1, s1.pre, (PostS.split q1 s1).imp fun y H2 ⟨kd, F2, fv2, _, g2, h2', n2, f2, q2⟩ => ?_⟩
  have q3 : PostS Y F0 Δ Λ D ((if isKey kd = true ∧ kdict kvs = true ∧ kvs.length < sizeLine then R.ok (PyData.dict (dput kvs kd d)) else R.stuck).bind k) := q2
  by_cases c : isKey kd = true ∧ kdict kvs = true ∧ kvs.length < sizeLine
  · rw [if_pos c] at q3
    obtain ⟨kk, rfl⟩ := isKey_of c.1
    have ek := keyV_of (h2'.rp g2.fh)
    subst ek
    have ef := RpT.thin ft h
    subst ef
    have s2 := s1.grow g2
    have hp2 := g2.hh _ _ h1
    have fp2 : F2 p = none := (g2.old _ _ h1).trans h2
    have hl : xs.length = kvs.length := by
      have := congrArg List.length h1'
      simpa using this.symm
    obtain ⟨k1, k2⟩ := dput_rel ft h kk h1' h3
    have hD : p ∈ fps i := by rw [e3]; exact List.mem_cons_self
    have hq : ∀ a, a ≠ p → (upd H2 p (.dK (putK xs kk u))) a = H2 a := fun a ha => upd_ne ha
    refine ⟨p, _, rfl, DPut.k hp2 (by rw [hl]; exact c.2.2), _, F0, ?_, q3⟩
    refine s2.chg (fv := [p]) hf hΓ a1 hD hq (fun o ho => .inr ⟨_, by rw [upd_same] at ho; exact (Option.some.inj ho).symm⟩) (fun a ha => ?_) (by simp) ?_
    · simp at ha; subst ha; exact .inl hD
    · have g3 := grow_chg s2.g fp2 (s.fr i p hD) hq (fun o ho => .inr ⟨_, by rw [upd_same] at ho; exact (Option.some.inj ho).symm⟩)
      have k2' := k2.mono fun d v f z => RpT.grow g2 t d v f z
      exact ⟨_, p, _, [], rfl, rfl, ⟨upd_same, k1⟩, fp2, OwnA.chg g2.tup g3.fh hq (by cases t <;> first | rfl | simp [Ty.thin] at ft) k2' (fun a ha => absurd ha (by simp)), rfl⟩
  · rw [if_neg c] at q3
    exact q3.elim
end

/-! ### lists of ints -/
def intsOf : List PyData → Option (List Int)
  | [] => some []
  | .int i :: r => (intsOf r).map (i :: ·)
  | _ => none
@[simp] theorem intsOf_map : ∀ ns : List Int, intsOf (ns.map .int) = some ns
  | [] => rfl
  | n :: ns => by rw [List.map_cons]; unfold intsOf; rw [intsOf_map ns]; rfl
theorem intsOf_eq : ∀ {ds : List PyData} {ns : List Int}, intsOf ds = some ns → ds = ns.map .int
  | [], ns, h => by unfold intsOf at h; cases h; rfl
  | .int i :: r, ns, h => by
    unfold intsOf at h
    cases q : intsOf r with
    | none => rw [q] at h; cases h
    | some ms => rw [q] at h; cases h; rw [intsOf_eq q]; rfl
  | .none :: r, ns, h => by simp [intsOf] at h
  | .bool _ :: r, ns, h => by simp [intsOf] at h
  | .str _ :: r, ns, h => by simp [intsOf] at h
  | .list _ :: r, ns, h => by simp [intsOf] at h
  | .tuple _ :: r, ns, h => by simp [intsOf] at h
  | .dict _ :: r, ns, h => by simp [intsOf] at h
def srt (ns : List Int) : List Int := ns.mergeSort fun a b => decide (a ≤ b)
theorem srt_perm (ns : List Int) : (srt ns).Perm ns := List.mergeSort_perm _ _
theorem srt_sorted (ns : List Int) : (srt ns).Pairwise (· ≤ ·) := by
  have := List.pairwise_mergeSort (le := fun a b : Int => decide (a ≤ b)) (fun a b c h1 h2 => by simp at *; omega) (fun a b => by simp; omega) ns
  exact this.imp fun h => by simpa using h
theorem srt_uniq {ns ys : List Int} (p : ys.Perm ns) (s : ys.Pairwise (· ≤ ·)) : ys = srt ns :=
  List.Perm.eq_of_pairwise (fun a b _ _ h1 h2 => by omega) s (srt_sorted ns) (p.trans (srt_perm ns).symm)
def flatInts : ∀ ns : List Int, flatA (ns.map .int) = true
  | [] => rfl
  | _ :: ns => by simp [flatA, flat]; exact flatInts ns
theorem seq_ints {K : PySem.W.Frag} {H : Hp} {ds : List PyData} {vs : List V} {ns : List Int} (h : RpA K H ds vs) (e : intsOf ds = some ns) : vs = ns.map V.int := by
  rw [intsOf_eq e] at h
  exact h.ints
/-! ### sorted -/
theorem call_sortedDI2 {X : Cx} (hcalm : X.calm = true) : CallR X (.builtin "sorted") (fun xs H Q => ∃ (a : Addr) (kvs : List (Key × V)) (ks : List Int), xs = [.ref a] ∧ Rd H a (.dK kvs) ∧ kvs.map (·.1) = ks.map Sum.inl ∧
    ∀ (ys : List Int) (p : Addr), ys.Perm ks → ys.Pairwise (· ≤ ·) → H p = none → Q (.ref p) (upd H p (.lst (ys.map V.int)))) := by
  intro pins s σ H xs us Q I r q
  obtain ⟨a, kvs, ks, ex, hd, hks, q⟩ := q
  subst ex
  obtain ⟨u, eu, rx⟩ := vals1 r
  subst eu
  cases rx
  obtain ⟨z, lo, vs, rel, dd⟩ := dk_rd I.hok hd
  obtain ⟨ep, hat⟩ := dd.dictAt
  have hkeys : vs.map (·.1) = ks.map Sum.inl := rel.keys.symm.trans hks
  have hl : vs.length = ks.length := by
    have e := congrArg List.length hkeys
    rw [List.length_map, List.length_map] at e
    exact e
  have h16 : vs.length ≤ sizeLine := by
    have e := congrArg List.length rel.keys
    rw [List.length_map, List.length_map] at e
    omega
  refine Calls.call_function_entry PyProof.Rows.kind_sorted PyProof.Rows.plain_sorted PyProof.Rows.entry_sorted (PyProof.Rows.args_sorted1 _) ?_
  unfold Builtin.«sorted»
  refine wpAny_bind (m := checkCount "sorted" 1 1 _) (wpAny_pure ?_)
  refine wpAny_bind (PySem.W.kdu_collect (A := X.A.in1) (PySem.W.kdl_dict (knd := mixKind X.prog X.w) (kvs := vs) (ep := ep) lo) (I.ok.hd hcalm) hat h16 fun h' tk acc hk hacc => ?_)
  have hal : acc.toList.length = ks.length := by rw [Array.length_toList, hacc.1, hl]
  have hS : IntsAre acc.toList ks := ints_each hal fun j v e => by
    obtain ⟨k, x, e1, e2⟩ := hacc.2 j v (by rw [← Array.getElem?_toList]; exact e)
    have e3 : (vs.map (·.1))[j]? = some k := by rw [List.getElem?_map, e1]; rfl
    rw [hkeys, List.getElem?_map] at e3
    cases e4 : ks[j]? with
    | none => rw [e4] at e3; cases e3
    | some y =>
      rw [e4] at e3
      have e5 : Sum.inl y = k := Option.some.inj e3
      subst e5
      rcases keyIs_shape (show keyIs (Sum.inl y) v = true from e2) with ⟨i, t, ek, ev⟩ | ⟨z, t, ek, ev⟩
      · cases ek
        exact ⟨y, t, rfl, ev⟩
      · cases ek
  have I1 : Inv X pins σ H { s with heap := h', toks := tk } := I.kept hk
  have hz2 : acc.toList.length ≤ sizeLine := by rw [hal, ← hl]; exact h16
  refine wpAny_bind (wpAny_newList ?_ hz2)
  have hoL : (h'.push (seqObj "list" acc.toList.toArray 0)).get? h'.objs.size = some (seqObj "list" acc.toList.toArray 0) := Heap.get?_push_size _ rfl
  show wpAny _ _ _ _ _ { s with heap := h'.push (seqObj "list" acc.toList.toArray 0), toks := tk }
  refine wpAny_bind (wpAny_holding (wpAny_call_entry PyProof.Rows.slot_list_sort ⟨_, hoL, rfl⟩ PyProof.Rows.entry_list_sort
    (SrtO.list_sort_ord (s := { s with heap := h'.push (seqObj "list" acc.toList.toArray 0), toks := tk }) SrtO.swo_int hoL hz2 (fun h2 => SrtO.ints_sortable hS h2) fun out o1 o2 => ⟨.none, rfl, ?_⟩) (PyProof.Rows.args_list_sort _)))
  obtain ⟨g1, g2, g3⟩ := SrtO.ints_out hS o1 o2
  obtain ⟨e', he'⟩ := PyProof.Rows.sortedHeap_at (vs := acc.toList) (out := out.toArray) hoL
  have hlen : ((out.map SrtO.iv).map V.int).length ≤ sizeLine := by
    rw [List.length_map, g2.length_eq, ← hl]
    exact h16
  refine wpAny_pure ⟨_, rfl, .ref h'.objs.size, upd H h'.objs.size (.lst ((out.map SrtO.iv).map V.int)), I1.laid (t' := tk) (fun b u e => ?_) (Nat.le_refl _)
    (show ObjOk X.prog X.w _ _ _ (.lst ((out.map SrtO.iv).map V.int)) from ⟨hlen, out, e', vals_of_ints g1, he'⟩), rfl, q _ _ g2 g3 (I1.hok.fresh (Nat.le_refl _))⟩
  have hb : b < h'.objs.size := Heap.lt_size e
  rw [PyProof.Rows.sortedHeap_old (Nat.ne_of_lt hb) (by rw [size_push']; exact Nat.lt_succ_of_lt hb)]
  exact Heap.get?_push_of_some _ e
theorem callOr {X : Cx} {c : Value} {r1 r2 : List V → Hp → VK → Prop} (h1 : CallR X c r1) (h2 : CallR X c r2) : CallR X c fun xs H Q => r1 xs H Q ∨ r2 xs H Q := by
  intro pins s σ H xs us Q I r q
  rcases q with q | q
  · exact h1 pins s σ H xs us Q I r q
  · exact h2 pins s σ H xs us Q I r q
def srtD : PyData → R PyData
  | .list ds => match intsOf ds with
    | some ns => .ok (.list ((srt ns).map .int))
    | none => .stuck
  | .dict kvs => match intsOf (kvs.map (·.1)) with
    | some ns => .ok (.list ((srt ns).map .int))
    | none => .stuck
  | _ => .stuck
theorem keys_ints {ns : List Int} {xs : List (Key × V)} (h : ns.map PyData.int = xs.map (fun q => keyD q.1)) : xs.map (·.1) = ns.map Sum.inl := by
  induction ns generalizing xs with
  | nil => cases xs with | nil => rfl | cons _ _ => simp at h
  | cons n ns ih =>
    cases xs with
    | nil => simp at h
    | cons p r =>
      simp only [List.map_cons, List.cons.injEq] at h ⊢
      obtain ⟨k, v⟩ := p
      cases k with
      | inl j =>
        refine ⟨?_, ih h.2⟩
        have := h.1
        simp [keyD] at this
        simp [this]
      | inr j =>
        have := h.1
        simp [keyD] at this
theorem kdict_ints : ∀ {kvs : List (PyData × PyData)} {ns : List Int}, kvs.map (·.1) = ns.map PyData.int → kdict kvs = true
  | [], _, _ => rfl
  | (k, v) :: r, [], h => by simp at h
  | (k, v) :: r, n :: ns, h => by
    simp only [List.map_cons, List.cons.injEq] at h
    have := kdict_ints h.2
    unfold kdict at this ⊢
    rw [List.all_cons, this, h.1]
    rfl
section
variable {Z : PX} {Γ : Ctx} {F H F' H' : Hp} {t ta tb tc : Ty} {Q : VK} {r ra rb rc : R PyData} {rs : R (List PyData)} {e a b c : Expr} {pos p : Pos}
theorem ev_sorted {p : Pos} (hc : Z.X.calm = true) (hm : Z.X.mg "sorted" = none) (ha : EvP Z Γ e r ta) (hg : Gl Z.X "sorted" := by rfl) (he : starEach (e :: []) Z.X.env = (false, eval e Z.X.env) :: starEach [] Z.X.env := by rfl) : EvP Z Γ (.Call (.Name "sorted" p) [e] [] pos) (r.bind srtD) (.own .imm) :=
  ev_blt1 (callOr cr_sortedI (call_sortedDI2 hc)) (fun F H x vx fx Q s tu hx q => by
    have key : ∀ {ns : List Int}, Post Z F H (.own .imm) Q (.ok (.list ((srt ns).map .int))) → ∀ (ys : List Int) (p : Addr), ys.Perm ns → ys.Pairwise (· ≤ ·) → H p = none → Q (.ref p) (upd H p (.lst (ys.map V.int))) := fun {ns} q ys p hp hs hn => by
      rw [srt_uniq hp hs]
      exact post_lst q s tu hn (ownA_im (RpA.of_ints _) (flatInts _))
    cases x with
    | list ds =>
      have q1 : Post Z F H (.own .imm) Q (match intsOf ds with
        | some ns => .ok (.list ((srt ns).map .int))
        | none => .stuck) := q
      cases e : intsOf ds with
      | none => rw [e] at q1; exact q1.elim
      | some ns =>
        rw [e] at q1
        obtain ⟨a, vs, e1, h1, h2⟩ := Rp.list_iff.mp (hx.rp s)
        refine .inl ⟨a, ns, by rw [e1], ?_, key q1⟩
        rw [← seq_ints h2 e]
        exact h1
    | dict kvs =>
      have q1 : Post Z F H (.own .imm) Q (match intsOf (kvs.map (·.1)) with
        | some ns => .ok (.list ((srt ns).map .int))
        | none => .stuck) := q
      cases e : intsOf (kvs.map (·.1)) with
      | none => rw [e] at q1; exact q1.elim
      | some ns =>
        rw [e] at q1
        have e2 := intsOf_eq e
        obtain ⟨p, xs, e1, h1, h2, h3⟩ := RpT.dk s (kdict_ints e2) hx
        exact .inr ⟨p, xs, ns, by rw [e1], .inl h1, keys_ints (e2.symm.trans h2), key q1⟩
    | _ => exact q.elim) hm (by decide +kernel) ha hg (by decide) (by decide) he rfl
/-! ### min, max of one -/
def min1 : PyData → R PyData := fun x => (seqOf x).bind fun ds => match intsOf ds with
  | some (m :: r) => .ok (.int (r.foldl min m))
  | _ => .stuck
def max1 : PyData → R PyData := fun x => (seqOf x).bind fun ds => match intsOf ds with
  | some (m :: r) => .ok (.int (r.foldl max m))
  | _ => .stuck
theorem foldl_min_le : ∀ (r : List Int) (m : Int), r.foldl min m ≤ m ∧ ∀ x ∈ r, r.foldl min m ≤ x
  | [], m => ⟨Int.le_refl _, fun x h => by simp at h⟩
  | y :: r, m => by
    obtain ⟨h1, h2⟩ := foldl_min_le r (min m y)
    refine ⟨by simp only [List.foldl_cons]; omega, fun x hx => ?_⟩
    simp only [List.foldl_cons]
    rcases List.mem_cons.mp hx with rfl | hx
    · omega
    · exact h2 x hx
theorem foldl_min_mem : ∀ (r : List Int) (m : Int), r.foldl min m ∈ m :: r
  | [], m => by simp
  | y :: r, m => by
    simp only [List.foldl_cons]
    have h := foldl_min_mem r (min m y)
    rcases List.mem_cons.mp h with h | h
    · rw [h]
      by_cases c : m ≤ y
      · rw [Int.min_eq_left c]; simp
      · rw [Int.min_eq_right (by omega)]; simp
    · exact List.mem_cons_of_mem _ (List.mem_cons_of_mem _ h)
theorem foldl_max_ge : ∀ (r : List Int) (m : Int), m ≤ r.foldl max m ∧ ∀ x ∈ r, x ≤ r.foldl max m
  | [], m => ⟨Int.le_refl _, fun x h => by simp at h⟩
  | y :: r, m => by
    obtain ⟨h1, h2⟩ := foldl_max_ge r (max m y)
    refine ⟨by simp only [List.foldl_cons]; omega, fun x hx => ?_⟩
    simp only [List.foldl_cons]
    rcases List.mem_cons.mp hx with rfl | hx
    · omega
    · exact h2 x hx
theorem foldl_max_mem : ∀ (r : List Int) (m : Int), r.foldl max m ∈ m :: r
  | [], m => by simp
  | y :: r, m => by
    simp only [List.foldl_cons]
    have h := foldl_max_mem r (max m y)
    rcases List.mem_cons.mp h with h | h
    · rw [h]
      by_cases c : y ≤ m
      · rw [Int.max_eq_left c]; simp
      · rw [Int.max_eq_right (by omega)]; simp
    · exact List.mem_cons_of_mem _ (List.mem_cons_of_mem _ h)
theorem alike_ints (ns : List Int) : PySem.W.AlikeAll (ns.map PyData.int) := by
  refine ⟨fun x hx y hy => ?_, fun x hx => ?_⟩
  · obtain ⟨i, _, rfl⟩ := List.mem_map.mp hx
    obtain ⟨j, _, rfl⟩ := List.mem_map.mp hy
    rfl
  · obtain ⟨i, _, rfl⟩ := List.mem_map.mp hx
    exact fun z => nomatch z
theorem depth_ints : ∀ ns : List Int, PyData.depthAll (ns.map PyData.int) ≤ 1
  | [] => by simp [PyData.depthAll]
  | n :: ns => by
    have := depth_ints ns
    simp only [List.map_cons, PyData.depthAll, PyData.depth]
    omega
theorem dpAll_ints {K : PySem.W.Frag} {H : Hp} : ∀ ns : List Int, DpAll K H (ns.map V.int) (ns.map PyData.int)
  | [] => .nil
  | n :: ns => .cons (.int n) (dpAll_ints ns)
theorem reads_int {h : Heap} {v : Value} {i : Int} {bs : List Addr} (r : Reads h v (.int i) bs) : ∃ t, v = .int i t := by
  cases r
  exact ⟨_, rfl⟩
def rTup (K : PySem.W.Frag) (g : Int → List Int → Int) : List V → Hp → VK → Prop := fun vs H Q => ∃ (a : Addr) (m : Int) (ns : List Int), vs = [V.ref a] ∧ SqT K H a ((m :: ns).map V.int) ∧ Q (.int (g m ns)) H
theorem cr_minT {X : Cx} (hc : X.calm = true) (hu : X.A.units + 64 < cLine) : CallR X (.builtin "min") (rTup X.K fun m ns => ns.foldl min m) := by
  intro pins s σ H vs us Q I r h
  obtain ⟨a, m, ns, rfl, hs, q⟩ := h
  obtain ⟨its, rv, hl, _⟩ := I.tuple hs
  rw [Vals.ref1 r]
  obtain ⟨as, hr⟩ := Dp.readsAll I ((m :: ns).map PyData.int) _ its (dpAll_ints _) rv
  have dp := depth_ints (m :: ns)
  refine PySem.W.min_tuple_data (I.ok.hd hc) hl (by simpa using hr) (by simpa using alike_ints (m :: ns)) (by simp only [List.map_cons] at dp; omega) fun i v h' tk bs e1 e2 k => ?_
  rw [PySem.W.minD_ints] at e2
  obtain ⟨t, rfl⟩ := reads_int e2
  exact ⟨.int _, H, I.kept k, ⟨_, rfl⟩, q⟩
theorem cr_maxT {X : Cx} (hc : X.calm = true) (hu : X.A.units + 64 < cLine) : CallR X (.builtin "max") (rTup X.K fun m ns => ns.foldl max m) := by
  intro pins s σ H vs us Q I r h
  obtain ⟨a, m, ns, rfl, hs, q⟩ := h
  obtain ⟨its, rv, hl, _⟩ := I.tuple hs
  rw [Vals.ref1 r]
  obtain ⟨as, hr⟩ := Dp.readsAll I ((m :: ns).map PyData.int) _ its (dpAll_ints _) rv
  have dp := depth_ints (m :: ns)
  refine PySem.W.max_tuple_data (I.ok.hd hc) hl (by simpa using hr) (by simpa using alike_ints (m :: ns)) (by simp only [List.map_cons] at dp; omega) fun i v h' tk bs e1 e2 k => ?_
  rw [PySem.W.maxD_ints] at e2
  obtain ⟨t, rfl⟩ := reads_int e2
  exact ⟨.int _, H, I.kept k, ⟨_, rfl⟩, q⟩
theorem rule_mm {K : PySem.W.Frag} {g : Int → List Int → Int} {rl : List V → Hp → VK → Prop} (hK : K = Z.X.K) (hl : ∀ (a : Addr) (m : Int) (ns : List Int) H Q, SqL Z.X.K H a ((m :: ns).map V.int) → Q (.int (g m ns)) H → rl [V.ref a] H Q) :
    Rule1A Z (fun x => (seqOf x).bind fun ds => match intsOf ds with
      | some (m :: r) => .ok (.int (g m r))
      | _ => .stuck) ta .imm (fun xs H Q => rl xs H Q ∨ rTup Z.X.K g xs H Q) := fun F H x vx fx Q s tu hx q => by
  have fin : ∀ {ds : List PyData} {vs : List V}, RpA Z.X.K H ds vs → Post Z F H .imm Q (match intsOf ds with
      | some (m :: r) => .ok (.int (g m r))
      | _ => .stuck) → ∃ m ns, vs = (m :: ns).map V.int ∧ Q (.int (g m ns)) H := fun {ds vs} h q => by
    cases e : intsOf ds with
    | none => rw [e] at q; exact q.elim
    | some ns =>
      rw [e] at q
      cases ns with
      | nil => exact q.elim
      | cons m r => exact ⟨m, r, seq_ints h e, post_int q s tu⟩
  cases x with
  | list ds =>
    obtain ⟨a, vs, e1, h1, h2⟩ := Rp.list_iff.mp (hx.rp s)
    obtain ⟨m, ns, e2, q2⟩ := fin h2 q
    rw [e2] at h1
    rw [e1]
    exact .inl (hl a m ns H Q h1 q2)
  | tuple ds =>
    obtain ⟨a, vs, e1, h1, h2⟩ := Rp.tuple_iff.mp (hx.rp s)
    obtain ⟨m, ns, e2, q2⟩ := fin h2 q
    rw [e2] at h1
    rw [e1]
    exact .inr ⟨a, m, ns, rfl, h1, q2⟩
  | _ => exact q.elim
theorem ev_min1 {p : Pos} (hc : Z.X.calm = true) (hu : Z.X.A.units + 64 < cLine) (hm : Z.X.mg "min" = none) (ha : EvP Z Γ e r ta) (hg : Gl Z.X "min" := by rfl) (he : starEach (e :: []) Z.X.env = (false, eval e Z.X.env) :: starEach [] Z.X.env := by rfl) : EvP Z Γ (.Call (.Name "min" p) [e] [] pos) (r.bind min1) .imm :=
  ev_blt1 (callOr (cr_min hc) (cr_minT hc hu)) (rule_mm rfl fun a m ns H Q h q => ⟨a, m :: ns, rfl, h, by simp, fun m' h1 h2 => by
    have e : m' = ns.foldl min m := by
      have a1 := foldl_min_le ns m
      have a2 := h2 _ (foldl_min_mem ns m)
      rcases List.mem_cons.mp h1 with z | z
      · subst z; omega
      · have := a1.2 m' z; omega
    rw [e]; exact q⟩) hm (by decide +kernel) ha hg (by decide) (by decide) he rfl
theorem ev_max1 {p : Pos} (hc : Z.X.calm = true) (hu : Z.X.A.units + 64 < cLine) (hm : Z.X.mg "max" = none) (ha : EvP Z Γ e r ta) (hg : Gl Z.X "max" := by rfl) (he : starEach (e :: []) Z.X.env = (false, eval e Z.X.env) :: starEach [] Z.X.env := by rfl) : EvP Z Γ (.Call (.Name "max" p) [e] [] pos) (r.bind max1) .imm :=
  ev_blt1 (callOr (cr_max hc) (cr_maxT hc hu)) (rule_mm rfl fun a m ns H Q h q => ⟨a, m :: ns, rfl, h, by simp, fun m' h1 h2 => by
    have e : m' = ns.foldl max m := by
      have a1 := foldl_max_ge ns m
      have a2 := h2 _ (foldl_max_mem ns m)
      rcases List.mem_cons.mp h1 with z | z
      · subst z; omega
      · have := a1.2 m' z; omega
    rw [e]; exact q⟩) hm (by decide +kernel) ha hg (by decide) (by decide) he rfl
end

/-! ### repr -/
theorem call_reprD {X : Cx} (hg : X.A.guards = some []) (hu : X.A.units + 64 < cLine) : CallR X (.builtin "repr") (fun xs H Q => ∃ v d, xs = [v] ∧ Dp X.K H v d ∧ d.showable = true ∧ d.hasDict = false ∧ d.depth ≤ 40 ∧ d.shown.length ≤ sizeLine ∧ Q (.str d.shown) H) := by
  intro pins s σ H xs us Q I r h
  obtain ⟨v, d, rfl, hd, hs, hdi, hde, hsz, q⟩ := h
  obtain ⟨u, rfl, rx⟩ := vals1 r
  obtain ⟨as, rd⟩ := Dp.reads I d v u hd rx
  have big : ∀ (a : Addr), Reads s.heap (.ref a) d as → wpAny (model X.prog X.w) X.A (call (.builtin "repr") [.ref a]) (EP X pins σ Q) X.xe s := fun a rd =>
    repr_of_reads' rd hs (fun z => by rw [hdi] at z; cases z) hg (by omega) (fun b o e => e) (fun h' u tk k => ⟨.str d.shown, H, I.kept k, ⟨_, rfl⟩, q⟩) hsz
  cases hd with
  | non => cases (show u = Value.none from rx); exact PySem.P.repr_of_none ⟨.str _, H, I.tok _, ⟨_, rfl⟩, q⟩
  | bl b => cases (show u = Value.bool b from rx); exact PySem.P.repr_of_bool ⟨.str _, H, I.tok _, ⟨_, rfl⟩, q⟩
  | int i =>
    obtain ⟨t, rfl⟩ := (show ∃ t, u = Value.int i t from rx)
    exact PySem.P.repr_of_int (by simpa [PyData.showable] using hs) ⟨.str _, H, I.tok _, ⟨_, rfl⟩, q⟩
  | str x =>
    obtain ⟨t, rfl⟩ := (show ∃ t, u = Value.str x t from rx)
    exact PySem.P.repr_of_str ⟨.str _, H, I.tok _, ⟨_, rfl⟩, q⟩ hsz
  | lst h1 h2 =>
    cases (show u = Value.ref _ from rx)
    exact big _ rd
  | tup h1 h2 =>
    cases (show u = Value.ref _ from rx)
    exact big _ rd
def canRepr (d : PyData) : Prop := d.canLay0 = true ∧ d.showable = true ∧ d.hasDict = false ∧ d.depth ≤ 40 ∧ d.shown.length ≤ sizeLine
instance (d : PyData) : Decidable (canRepr d) := by unfold canRepr; infer_instance
def reprD (d : PyData) : R PyData := if canRepr d then .ok (.str d.shown) else .stuck
theorem call_max3 {X : Cx} (hc : X.calm = true) : CallR X (.builtin "max") (fun xs H Q => ∃ a b c, xs = [.int a, .int b, .int c] ∧ Q (.int (if b > a then (if c > b then c else b) else (if c > a then c else a))) H) := by
  intro pins s σ H xs us Q I r h
  obtain ⟨a, b, c, rfl, q⟩ := h
  cases r with
  | cons r1 r =>
    cases r with
    | cons r2 r =>
      cases r with
      | cons r3 r =>
        cases r
        obtain ⟨t1, rfl⟩ := r1
        obtain ⟨t2, rfl⟩ := r2
        obtain ⟨t3, rfl⟩ := r3
        refine PySem.max_three_ints (I.ok.hd hc) fun h' tk k => ⟨_, H, I.kept k, ?_, q⟩
        split <;> split <;> exact ⟨_, rfl⟩
theorem call_min3 {X : Cx} (hc : X.calm = true) : CallR X (.builtin "min") (fun xs H Q => ∃ a b c, xs = [.int a, .int b, .int c] ∧ Q (.int (if b < a then (if c < b then c else b) else (if c < a then c else a))) H) := by
  intro pins s σ H xs us Q I r h
  obtain ⟨a, b, c, rfl, q⟩ := h
  cases r with
  | cons r1 r =>
    cases r with
    | cons r2 r =>
      cases r with
      | cons r3 r =>
        cases r
        obtain ⟨t1, rfl⟩ := r1
        obtain ⟨t2, rfl⟩ := r2
        obtain ⟨t3, rfl⟩ := r3
        refine PySem.min_three_ints (I.ok.hd hc) fun h' tk k => ⟨_, H, I.kept k, ?_, q⟩
        split <;> split <;> exact ⟨_, rfl⟩
def max3I : PyData → PyData → PyData → R PyData
  | .int a, .int b, .int c => .ok (.int (if b > a then (if c > b then c else b) else (if c > a then c else a)))
  | _, _, _ => .stuck
def min3I : PyData → PyData → PyData → R PyData
  | .int a, .int b, .int c => .ok (.int (if b < a then (if c < b then c else b) else (if c < a then c else a)))
  | _, _, _ => .stuck
/-! ### isinstance -/
def tyD : PyData → String
  | .none => "NoneType"
  | .bool _ => "bool"
  | .int _ => "int"
  | .str _ => "str"
  | .list _ => "list"
  | .tuple _ => "tuple"
  | .dict _ => "dict"
def isiD (T : String) (x : PyData) : R PyData := match kitB (tyD x) T with
  | some b => .ok (.bool b)
  | none => .stuck
theorem Rp.tyx {K : PySem.W.Frag} {H : Hp} {d : PyData} {v : V} (h : Rp K H d v) : TyX K H v (.type (tyD d)) := by
  cases d with
  | none => rw [Rp.none_iff.mp h]; exact .base .non
  | bool b => rw [Rp.bool_iff.mp h]; exact .base (.bl b)
  | int b => rw [Rp.int_iff.mp h]; exact .base (.int b)
  | str b => rw [Rp.str_iff.mp h]; exact .base (.str b)
  | list ds =>
    obtain ⟨a, xs, e, h1, _⟩ := Rp.list_iff.mp h
    rw [e]
    rcases h1 with (h1 | ⟨o, h1⟩) | ⟨o, its, n, hk, hc, _⟩
    · exact .base (.lst h1)
    · exact .base (.frz h1)
    · exact .kList hk hc
  | tuple ds =>
    obtain ⟨a, xs, e, h1, _⟩ := Rp.tuple_iff.mp h
    rw [e]
    rcases h1 with (h1 | ⟨o, h1⟩) | ⟨o, its, n, hk, hc, _⟩
    · exact .base (.tup h1)
    · exact .fTuple h1
    · exact .kTuple hk hc
  | dict kvs =>
    obtain ⟨a, e, h⟩ := Rp.dict_iff.mp h
    rw [e]
    rcases h with ⟨xs, h1, _⟩ | ⟨xs, _, h1, _⟩
    · exact .base (.dK h1)
    · exact .base (.dT h1)
section
variable {Z : PX} {Γ : Ctx} {F H F' H' : Hp} {t ta tb tc : Ty} {Q : VK} {r ra rb rc : R PyData} {rs : R (List PyData)} {e a b c : Expr} {pos p : Pos} {m : Md}
theorem ev_repr {p : Pos} (gd : Z.X.A.guards = some []) (hu : Z.X.A.units + 64 < cLine) (hm : Z.X.mg "repr" = none) (ha : EvP Z Γ e r ta) (hg : Gl Z.X "repr" := by rfl) (he : starEach (e :: []) Z.X.env = (false, eval e Z.X.env) :: starEach [] Z.X.env := by rfl) : EvP Z Γ (.Call (.Name "repr" p) [e] [] pos) (r.bind reprD) .imm :=
  ev_blt1 (call_reprD gd hu) (fun F H x vx fx Q s tu hx q => by
    have q1 : Post Z F H .imm Q (if canRepr x then .ok (.str x.shown) else .stuck) := q
    by_cases c : canRepr x
    · rw [if_pos c] at q1
      exact ⟨vx, x, rfl, Rp.dp x vx c.1 (hx.rp s), c.2.1, c.2.2.1, c.2.2.2.1, c.2.2.2.2, q1.imm_ok s tu (Rp.str_iff.mpr rfl) rfl⟩
    · rw [if_neg c] at q1
      exact q1.elim) hm (by decide +kernel) ha hg (by decide) (by decide) he rfl
theorem ruleA_3I {f : PyData → PyData → PyData → R PyData} {g : Int → Int → Int → Int} (hf : ∀ x y z, f x y z = .stuck ∨ ∃ i j k, x = .int i ∧ y = .int j ∧ z = .int k) (hi : ∀ i j k, f (.int i) (.int j) (.int k) = .ok (.int (g i j k))) : RuleA Z (fn3 f) m .imm (fun xs H Q => ∃ i j k, xs = [.int i, .int j, .int k] ∧ Q (.int (g i j k)) H) := fun F H ds vs Q s tu hv q => by
  rcases fn3_n f ds with e | e
  · rw [e] at q; exact q.elim
  · match ds, e, hv, q with
    | [x, y, z], _, hv, q =>
      rw [fn3_ok] at q
      rcases hf x y z with e | ⟨i, j, k, rfl, rfl, rfl⟩
      · rw [e] at q; exact q.elim
      · rw [hi] at q
        obtain ⟨v, u, w, e, h1, h2, h3⟩ := (hv.rp s).three
        exact ⟨i, j, k, by rw [e, Rp.int_iff.mp h1, Rp.int_iff.mp h2, Rp.int_iff.mp h3], post_int q s tu⟩
theorem max3_or (x y z : PyData) : max3I x y z = .stuck ∨ ∃ i j k, x = .int i ∧ y = .int j ∧ z = .int k := by
  cases x <;> cases y <;> cases z <;> first | exact .inl rfl | exact .inr ⟨_, _, _, rfl, rfl, rfl⟩
theorem min3_or (x y z : PyData) : min3I x y z = .stuck ∨ ∃ i j k, x = .int i ∧ y = .int j ∧ z = .int k := by
  cases x <;> cases y <;> cases z <;> first | exact .inl rfl | exact .inr ⟨_, _, _, rfl, rfl, rfl⟩
theorem ev_max3 {p : Pos} (hcalm : Z.X.calm = true) (hm : Z.X.mg "max" = none) (ha : ArP Z Γ [a, b, c] rs m) (hg : Gl Z.X "max" := by rfl) (he : starEach (a :: [b, c]) Z.X.env = (false, eval a Z.X.env) :: starEach [b, c] Z.X.env := by rfl) (hpl : (backTo pos (starEach [b, c] Z.X.env)).any (·.1) = false := by rfl) :
    EvP Z Γ (.Call (.Name "max" p) [a, b, c] [] pos) (rs.bind (fn3 max3I)) .imm := ev_blt (call_max3 hcalm) (ruleA_3I max3_or fun _ _ _ => rfl) hm (by decide +kernel) ha hg (by decide) (by decide) he hpl
theorem ev_min3 {p : Pos} (hcalm : Z.X.calm = true) (hm : Z.X.mg "min" = none) (ha : ArP Z Γ [a, b, c] rs m) (hg : Gl Z.X "min" := by rfl) (he : starEach (a :: [b, c]) Z.X.env = (false, eval a Z.X.env) :: starEach [b, c] Z.X.env := by rfl) (hpl : (backTo pos (starEach [b, c] Z.X.env)).any (·.1) = false := by rfl) :
    EvP Z Γ (.Call (.Name "min" p) [a, b, c] [] pos) (rs.bind (fn3 min3I)) .imm := ev_blt (call_min3 hcalm) (ruleA_3I min3_or fun _ _ _ => rfl) hm (by decide +kernel) ha hg (by decide) (by decide) he hpl
/-- isinstance(e, T) -/
theorem ev_isi {x : Str} {T : String} {p p2 : Pos} (hm : Z.X.mg "isinstance" = none) (hmT : Z.X.mg x = none) (hv : bootBuiltins x = some (.type T)) (ha : EvP Z Γ e r ta) (hg : Gl Z.X "isinstance" := by rfl) (hgT : Gl Z.X x := by rfl) (hn : x ≠ "__name__" := by decide) (hdb : (x == ("__debug__" : Str)) = false := by decide)
    (he : starEach (e :: [.Name x p2]) Z.X.env = (false, eval e Z.X.env) :: starEach [.Name x p2] Z.X.env := by rfl) (he2 : starEach (.Name x p2 :: []) Z.X.env = (false, eval (.Name x p2) Z.X.env) :: starEach [] Z.X.env := by rfl) (hpl : (backTo pos (starEach [.Name x p2] Z.X.env)).any (·.1) = false := by rfl) :
    EvP Z Γ (.Call (.Name "isinstance" p) [e, .Name x p2] [] pos) (r.bind (isiD T)) .imm :=
  PEimp (pe_callB call_isi hg hm (by decide +kernel) (pa_cons ha (pa_cons (pe_bltn (v := .ty T) hgT hmT hv rfl hn hdb) pa_nil he2) he) (by decide) (by decide) he hpl) fun σ H Q ⟨F, p, q⟩ => ⟨F, p, (Post.split q).imp fun v H1 ⟨x, F1, fv, _, g, h, _, _, q1⟩ => by
    have q2 : Post Z F1 H1 .imm Q (match kitB (tyD x) T with
      | some b => .ok (.bool b)
      | none => .stuck) := q1
    cases e : kitB (tyD x) T with
    | none => rw [e] at q2; exact q2.elim
    | some b =>
      rw [e] at q2
      exact ⟨v, .ty T, .type (tyD x), .type T, b, rfl, .ty T, (h.rp g.fh).tyx, kit_ty e, post_bool q2 g.fh g.tup⟩⟩
/-! ### is True, is False -/
def isB : PyData → PyData → R PyData
  | .bool a, .bool b => .ok (.bool (decide (a = b)))
  | _, _ => .stuck
def isNotB : PyData → PyData → R PyData
  | .bool a, .bool b => .ok (.bool (!decide (a = b)))
  | _, _ => .stuck
theorem rule_isB : Rule2 Z isB ta tb .imm rIsB := fun F H x y vx vy fx fy Q s tu hx hy q => by
  cases x <;> cases y <;> first
    | exact q.elim
    | exact ⟨_, _, Rp.bool_iff.mp (hx.rp s), Rp.bool_iff.mp (hy.rp s), post_bool q s tu⟩
theorem rule_isNotB : Rule2 Z isNotB ta tb .imm rNotB := fun F H x y vx vy fx fy Q s tu hx hy q => by
  cases x <;> cases y <;> first
    | exact q.elim
    | exact ⟨_, _, Rp.bool_iff.mp (hx.rp s), Rp.bool_iff.mp (hy.rp s), post_bool q s tu⟩
/-! ### dict of a list of pairs -/
def pairD : PyData → R (PyData × PyData)
  | .tuple [k, v] => if isKey k = true ∧ flat v = true then .ok (k, v) else .stuck
  | _ => .stuck
def pairsD : List PyData → R (List (PyData × PyData))
  | [] => .ok []
  | d :: ds => (pairD d).bind fun p => (pairsD ds).bind fun r => .ok (p :: r)
def dputs (acc : List (PyData × PyData)) (ps : List (PyData × PyData)) : List (PyData × PyData) := ps.foldl (fun acc kv => dput acc kv.1 kv.2) acc
def dictP (x : PyData) : R PyData := match x with
  | .list ds => (pairsD ds).bind fun ps => .ok (.dict (dputs [] ps))
  | _ => .stuck
theorem pairD_ok {d : PyData} {p : PyData × PyData} (h : pairD d = .ok p) : d = .tuple [p.1, p.2] ∧ isKey p.1 = true ∧ flat p.2 = true := by
  unfold pairD at h
  split at h
  · split at h
    · rename_i c
      cases h
      exact ⟨rfl, c⟩
    · cases h
  · cases h
theorem pairs_rp {K : PySem.W.Frag} : ∀ {ds : List PyData} {vs : List V} {kvs : List (PyData × PyData)}, RpA K H ds vs → pairsD ds = .ok kvs → ∃ (ps : List Addr) (ks : List (Key × V)), vs = ps.map V.ref ∧ PySem.Paired (fun p (kv : Key × V) => SqT K H p [kV kv.1, kv.2]) ps ks ∧
    kvs.map (·.1) = ks.map (fun q => keyD q.1) ∧ RpA K H (kvs.map (·.2)) (ks.map (·.2)) ∧ flatA (kvs.map (·.2)) = true
  | [], vs, kvs, h, e => by
    unfold RpA at h
    subst h
    cases e
    exact ⟨[], [], rfl, .nil, rfl, RpA.nil, rfl⟩
  | d :: ds, vs, kvs, h, e => by
    unfold RpA at h
    obtain ⟨v, r, e1, h1, h2⟩ := h
    subst e1
    have e' : ((pairD d).bind fun p => (pairsD ds).bind fun r => R.ok (p :: r)) = .ok kvs := e
    cases ep : pairD d with
    | exc _ _ => rw [ep] at e'; cases e'
    | stuck => rw [ep] at e'; cases e'
    | ok p =>
      rw [ep] at e'
      cases er : pairsD ds with
      | exc _ _ => rw [R.ok_bind, er] at e'; cases e'
      | stuck => rw [R.ok_bind, er] at e'; cases e'
      | ok qs =>
        rw [R.ok_bind, er] at e'
        cases e'
        obtain ⟨ed, hk, hf⟩ := pairD_ok ep
        subst ed
        obtain ⟨k, ek⟩ := isKey_of hk
        obtain ⟨a, xs, e1, h3, h4⟩ := Rp.tuple_iff.mp h1
        obtain ⟨x, y, e2, h5, h6⟩ := h4.two
        subst e2
        rw [ek] at h5
        have := keyV_of h5
        subst this
        obtain ⟨ps, ks, i1, i2, i3, i4, i5⟩ := pairs_rp h2 er
        exact ⟨a :: ps, (k, y) :: ks, by rw [i1, e1]; rfl, .cons h3 i2, by simp only [List.map_cons, i3, ek], RpA.cons h6 i4, by simp only [List.map_cons, flatA, hf, i5, Bool.and_self]⟩
theorem merge_rel {K : PySem.W.Frag} : ∀ {kvs : List (PyData × PyData)} {ks : List (Key × V)} {acc : List (PyData × PyData)} {ak : List (Key × V)}, kvs.map (·.1) = ks.map (fun q => keyD q.1) → RpA K H (kvs.map (·.2)) (ks.map (·.2)) → flatA (kvs.map (·.2)) = true →
    acc.map (·.1) = ak.map (fun q => keyD q.1) → OwnA (RpT K F H .imm) (acc.map (·.2)) (ak.map (·.2)) [] → (dputs acc kvs).map (·.1) = (mergeK ak ks).map (fun q => keyD q.1) ∧ OwnA (RpT K F H .imm) ((dputs acc kvs).map (·.2)) ((mergeK ak ks).map (·.2)) []
  | [], [], acc, ak, _, _, _, h1, h2 => ⟨h1, h2⟩
  | [], _ :: _, acc, ak, h, _, _, _, _ => by simp at h
  | _ :: _, [], acc, ak, h, _, _, _, _ => by simp at h
  | (a, d) :: r, (b, x) :: q, acc, ak, h, hr, hf, h1, h2 => by
    have hh : a = keyD b ∧ r.map (·.1) = q.map (fun q => keyD q.1) := by simpa using h
    obtain ⟨e1, e2⟩ := hh
    subst e1
    simp only [List.map_cons, flatA, Bool.and_eq_true] at hf
    simp only [List.map_cons] at hr
    obtain ⟨r1, r2⟩ := RpA.cons_iff.mp hr
    obtain ⟨k1, k2⟩ := dput_rel (t := .imm) (F := F) rfl (d := d) (u := x) ⟨rfl, r1, hf.1⟩ b h1 h2
    exact merge_rel (kvs := r) (ks := q) e2 r2 hf.2 k1 k2
theorem ev_dictP {p : Pos} (hcalm : Z.X.calm = true) (hm : Z.X.mg "dict" = none) (ha : EvP Z Γ e r ta) (hg : Gl Z.X "dict" := by rfl) (he : starEach (e :: []) Z.X.env = (false, eval e Z.X.env) :: starEach [] Z.X.env := by rfl) : EvP Z Γ (.Call (.Name "dict" p) [e] [] pos) (r.bind dictP) (.dct .imm) :=
  ev_bty1 (call_dictP hcalm) (fun F H x vx fx Q s tu hx q => by
    cases x with
    | list ds =>
      have q1 : Post Z F H (.dct .imm) Q ((pairsD ds).bind fun ps => .ok (.dict (dputs [] ps))) := q
      cases ep : pairsD ds with
      | exc _ _ =>
        exfalso
        have nx : ∀ ds {c n}, pairsD ds = .exc c n → False := by
          intro ds
          induction ds with
          | nil => intro c n h; cases h
          | cons d ds ih =>
            intro c n h
            have h' : ((pairD d).bind fun p => (pairsD ds).bind fun r => R.ok (p :: r)) = .exc c n := h
            cases e1 : pairD d with
            | exc c2 n2 =>
              unfold pairD at e1
              split at e1
              · split at e1 <;> cases e1
              · cases e1
            | stuck => rw [e1] at h'; cases h'
            | ok p =>
              rw [e1, R.ok_bind] at h'
              cases e2 : pairsD ds with
              | exc _ _ => exact ih e2
              | stuck => rw [e2] at h'; cases h'
              | ok _ => rw [e2] at h'; cases h'
        exact nx ds ep
      | stuck => rw [ep] at q1; exact q1.elim
      | ok kvs =>
        rw [ep, R.ok_bind] at q1
        obtain ⟨a, vs, e1, h1, h2⟩ := Rp.list_iff.mp (hx.rp s)
        obtain ⟨ps, ks, i1, i2, i3, i4, i5⟩ := pairs_rp h2 ep
        subst i1
        obtain ⟨m1, m2⟩ := merge_rel (F := F) i3 i4 i5 (acc := []) (ak := []) rfl .nil
        refine ⟨a, ps, ks, by rw [e1], h1, i2, fun a ha => ?_⟩
        have g : Grow F H F (upd H a (.dK (mergeK [] ks))) := grow_dK s tu ha
        refine q1 (.ref a) F _ [a] g ⟨_, a, _, [], rfl, rfl, ⟨upd_same, m1⟩, none_of s ha, m2.mono fun d v f z => z.grow g, rfl⟩ (by simp) fun b hb => ?_
        simp at hb; subst hb; exact ha
    | _ => exact q.elim) hm (by decide +kernel) ha hg (by decide) (by decide) he rfl
end
/-! ### several names at once -/
section
variable {Y : BX} {F0 : Hp} {S L SX : Type} {Γ : Ctx} {Δ : S → Ctx} {Λ : L → Ctx} {F H F' H' H2 : Hp} {t ta tb : Ty} {r ra rb : R PyData} {e a b tg : Expr} {σ : St} {pos p : Pos} {rest : List Stmt} {D : Ends} {fps : Nat → List Addr}
theorem bl_asg {f : PyData → R SX} {sl : SX → Sl} {k : SX → R (Fl S L)} (he : EvP Y.Z Γ e r t) (htg : TgP Y.Z tg t f sl) (hx : ∀ d, (f d).noX) (hk : ∀ x, BlP Y (setC Γ (sl x)) rest Δ Λ (k x)) (ft : t.thin = true := by rfl)
    (hs : swapsWithSole [tg] e pos.line Y.Z.X.env = pure false := by rfl) (hw : swappedStores [tg] e Y.Z.X.env = pure none := by rfl)
    (h1 : (assignEach [tg] Y.Z.X.env).map (·.2) = [assign tg Y.Z.X.env] := by rfl) :
    BlP Y Γ (.Assign [tg] e pos :: rest) Δ Λ (r.bind fun d => (f d).bind k) := by
  have hrest : PSs Y.Z.X rest (fun D σ H => ∃ x, tBl Y (setC Γ (sl x)) Δ Λ (k x) D σ H) := ⟨fun pins s σ H D I ⟨d, h⟩ => (hk d).run pins s σ H D I h⟩
  refine PSsimp (pss_cons (ps_asg he htg hs hw h1) hrest) fun D σ H ⟨F0, ⟨F, fps, s⟩, q⟩ => ?_
  refine ⟨F, s.pre, (PostS.split q s).imp fun v H1 ⟨d, F1, fv, _, g, h, n, fr, q1⟩ => ?_⟩
  have ef := RpT.thin ft h
  subst ef
  refine ⟨d, F1, g.fh, h, ?_⟩
  cases hf : f d with
  | exc c n => have := hx d; rw [hf] at this; exact this.elim
  | stuck => rw [hf] at q1; exact q1
  | ok x =>
    rw [hf] at q1
    intro vs hv
    obtain ⟨fps', s'⟩ := StOk.setAll (sl := sl x) ⟨fps, s.grow g⟩ hv
    exact ⟨x, F0, ⟨F1, fps', s'⟩, q1⟩
end

/-! ### a def from its derivation -/
def parC (t : Ty) (m : Nat) : List PyData → Ctx
  | [] => List.replicate m none
  | d :: ds => some (d, t) :: parC t m ds
theorem parC_get (t : Ty) (m : Nat) : ∀ {ds : List PyData} {i : Nat} {d : PyData} {u : Ty}, (parC t m ds)[i]? = some (some (d, u)) → ds[i]? = some d ∧ u = t
  | [], i, d, u, h => by
    unfold parC at h
    rw [List.getElem?_replicate] at h
    split at h <;> cases h
  | x :: ds, 0, d, u, h => by simp [parC] at h; exact ⟨by simp [h.1], h.2.symm⟩
  | x :: ds, i + 1, d, u, h => by simpa using parC_get t m (ds := ds) (i := i) (by simpa [parC] using h)
theorem parC_len (t : Ty) (m : Nat) : ∀ ds : List PyData, (parC t m ds).length = ds.length + m
  | [] => by simp [parC]
  | _ :: ds => by simp [parC, parC_len t m ds]; omega
def outE : Fl Empty Empty → R PyData
  | .rt d => .ok d
  | .nx s => s.elim
  | .bk l => l.elim
  | .ct l => l.elim
def outU : Fl Unit Empty → R PyData
  | .rt d => .ok d
  | .nx _ => .ok .none
  | .bk l => l.elim
  | .ct l => l.elim
@[simp] theorem outE_rt (d : PyData) : outE (.rt d) = .ok d := rfl
@[simp] theorem outU_rt (d : PyData) : outU (.rt d) = .ok d := rfl
@[simp] theorem outU_nx : outU (.nx ()) = .ok .none := rfl
section
variable {P : Program} {w : World} {K : PySem.W.Frag} {mg : Str → Option Value} {base : Heap}
theorem st_start {F0 H : Hp} {N : List Str} {m : Nat} {ds : List PyData} {vs : List V} (hm : ds.length + m ≤ N.length) (s : Same F0 H) (tu : TupF F0 H) (h : RpA K F0 ds vs) : StOk K F0 H (parC .shr m ds) (start N vs) H := by
  refine ⟨F0, fun _ => [], Grow.refl s tu, ⟨?_, fun i d t e => ?_⟩, fun _ => List.nodup_nil, fun _ _ _ _ z => absurd z (by simp), fun _ _ z => absurd z (by simp)⟩
  · rw [parC_len]
    unfold L2.start
    have := h.length
    rw [List.length_append, List.length_map, List.length_replicate]
    omega
  · obtain ⟨e1, rfl⟩ := parC_get .shr m e
    obtain ⟨x, e2, hr⟩ := h.get e1
    refine ⟨x, ?_, rfl, hr⟩
    unfold L2.start
    have hl : i < (vs.map some).length := by
      rw [List.length_map]
      exact (List.getElem?_eq_some_iff.mp e2).1
    rw [List.getElem?_append_left hl, List.getElem?_map, e2]
    rfl
theorem out_post {cls : Nat → Value} {S : Type} {X : Cx} {E : XK} {F0 H : Hp} {t : Ty} {Q : VK} {out : Fl S Empty → R PyData} {Δ : S → Ctx} {body : R (Fl S Empty)} (hK : X.K = K) (ho : ∀ d, out (.rt d) = .ok d) (hn : ∀ s, out (.nx s) = .ok .none ∧ RpT K F0 H t .none .non [])
    (s : Same F0 H) (tu : TupF F0 H) (hnone : ∀ s : S, ∀ F' H', RpT K F' H' t .none .non [])
    (q : (body.bind out).wp (fun d => ∀ v F' H' fv, Grow F0 H F' H' → RpT K F' H' t d v fv → fv.Nodup → (∀ a ∈ fv, H a = none) → Q v H') (wishOf cls E H)) :
    PostS ⟨⟨X, cls, E⟩, H, t⟩ F0 Δ (fun z : Empty => z.elim) { nx := fun _ H' => Q .non H', rt := Q } body := by
  subst hK
  cases body with
  | exc c n => exact q
  | stuck => exact q
  | ok f =>
    cases f with
    | bk l => exact l.elim
    | ct l => exact l.elim
    | rt d =>
      have q' : (out (.rt d)).wp _ _ := q
      rw [ho] at q'
      exact q'
    | nx sx =>
      have q' : (out (.nx sx)).wp _ _ := q
      rw [(hn sx).1] at q'
      intro σ' H' ⟨F', fps, st⟩
      exact q' .non F' H' [] st.g (hnone sx F' H') List.nodup_nil (fun _ z => absurd z (by simp))
/-- a def of the text whose body is walked: its promise. S: Empty if every way returns -/
theorem fnG_mk {S : Type} {out : Fl S Empty → R PyData} {Δ : S → Ctx} {cls : Nat → Value} {x qual : Str} {st : Stmt} {f : Addr} {fd : FuncData} {N ps : List Str} {k n m : Nat} {t : Ty} {g : List PyData → R PyData} {body : List PyData → R (Fl S Empty)} (F : Fun K x qual st f fd) (S : FnScope N ps (defScope st)) (hl : ps.length = n) (hm : n + m ≤ N.length)
    (ho : ∀ d, out (.rt d) = .ok d) (hn : ∀ s, out (.nx s) = .ok .none ∧ ∀ F' H', RpT K F' H' t .none .non [])
    (hg : ∀ ds, ds.length = n → g ds = (body ds).bind out)
    (hb : ∀ (cdv : Value) (A : Around) (outer : List Env) (s : Shared) (H : Hp) (E : XK), Room k (A.deeper (envOfC qual (defScope st) s.heap.objs.size f cdv)) → (A.deeper (envOfC qual (defScope st) s.heap.objs.size f cdv)).guards = some [] → ∀ ds, ds.length = n →
      BlP ⟨⟨(cxOf CX0 P w K mg base N qual (defScope st) f cdv A outer s H E).nox, cls, E⟩, H, t⟩ (parC .shr m ds) (defBody st) Δ (fun z : Empty => z.elim) (body ds)) :
    FnG P w K mg base CX0 (k + 1) f fd ps (spP cls K n g t) := by
  obtain ⟨oc, od, kV, doc, pm, an, cdv, ct, osl, rfl, lk, hcd⟩ := F.ex
  refine fn_ofG lk hcd S (fun vs H Q E h => ?_) fun A outer s H vs Q E gd hr hsp => ?_
  · obtain ⟨ds, F0, e, _, _, h, _⟩ := h
    rw [← h.length, e, hl]
  · obtain ⟨ds, F0, e, sm, tu, h, q⟩ := hsp
    have b := hb cdv A outer s H E hr gd ds e
    refine ⟨_, b.nox, F0, st_start (by rw [e]; exact hm) sm tu h, ?_⟩
    rw [hg ds e] at q
    exact out_post rfl ho (fun s => ⟨(hn s).1, (hn s).2 _ _⟩) sm tu (fun s F' H' => (hn s).2 F' H') q
theorem fnG_E {cls : Nat → Value} {x qual : Str} {st : Stmt} {f : Addr} {fd : FuncData} {N ps : List Str} {k n m : Nat} {t : Ty} {g : List PyData → R PyData} {body : List PyData → R (Fl Empty Empty)} (F : Fun K x qual st f fd) (S : FnScope N ps (defScope st)) (hl : ps.length = n) (hm : n + m ≤ N.length)
    (hg : ∀ ds, ds.length = n → g ds = (body ds).bind outE)
    (hb : ∀ (cdv : Value) (A : Around) (outer : List Env) (s : Shared) (H : Hp) (E : XK), Room k (A.deeper (envOfC qual (defScope st) s.heap.objs.size f cdv)) → (A.deeper (envOfC qual (defScope st) s.heap.objs.size f cdv)).guards = some [] → ∀ ds, ds.length = n →
      BlP ⟨⟨(cxOf CX0 P w K mg base N qual (defScope st) f cdv A outer s H E).nox, cls, E⟩, H, t⟩ (parC .shr m ds) (defBody st) (fun z : Empty => z.elim) (fun z : Empty => z.elim) (body ds)) :
    FnG P w K mg base CX0 (k + 1) f fd ps (spP cls K n g t) := fnG_mk F S hl hm (fun _ => rfl) (fun z => z.elim) hg hb
theorem fnG_U {cls : Nat → Value} {x qual : Str} {st : Stmt} {f : Addr} {fd : FuncData} {N ps : List Str} {k n m : Nat} {g : List PyData → R PyData} {body : List PyData → R (Fl Unit Empty)} (F : Fun K x qual st f fd) (S : FnScope N ps (defScope st)) (hl : ps.length = n) (hm : n + m ≤ N.length)
    (hg : ∀ ds, ds.length = n → g ds = (body ds).bind outU)
    (hb : ∀ (cdv : Value) (A : Around) (outer : List Env) (s : Shared) (H : Hp) (E : XK), Room k (A.deeper (envOfC qual (defScope st) s.heap.objs.size f cdv)) → (A.deeper (envOfC qual (defScope st) s.heap.objs.size f cdv)).guards = some [] → ∀ ds, ds.length = n →
      BlP ⟨⟨(cxOf CX0 P w K mg base N qual (defScope st) f cdv A outer s H E).nox, cls, E⟩, H, .imm⟩ (parC .shr m ds) (defBody st) (fun _ : Unit => []) (fun z : Empty => z.elim) (body ds)) :
    FnG P w K mg base CX0 (k + 1) f fd ps (spP cls K n g .imm) := fnG_mk F S hl hm (fun _ => rfl) (fun _ => ⟨rfl, fun _ _ => item_none (.inr (.inl rfl))⟩) hg hb
theorem guards_in {A : Around} {env : Env} (h : A.guards = some []) : (A.deeper env).guards = some [] := h
theorem callee_mk {cls : Nat → Value} {x qual : Str} {st : Stmt} {a : Addr} {fd : FuncData} {ps : List Str} {k n : Nat} {t : Ty} {g : List PyData → R PyData} {CX : CXT} (F : Fun K x qual st a fd) (G : FnG P w K mg base CX k a fd ps (spP cls K n g t)) (hm : mg x = some (.ref a)) (hb : Binds K fd ps []) :
    Callee P w K mg base CX cls k x n g t := ⟨a, fd, ps, G, hm, F.kp, hb⟩
end
/-! ### the law's own call -/
theorem script_rp {K : PySem.W.Frag} {F : Hp} {a : Addr} {ns : List Int} (h : SqL K F a (ns.map V.int)) : Rp K F (.list (ns.map .int)) (.ref a) := Rp.list_iff.mpr ⟨a, _, rfl, h, RpA.of_ints ns⟩
def onlyA (a : Addr) (o : Obj) (ns : List Int) : Hp := fun b => if b = a then some (.frz o (.lst (ns.map V.int))) else none
theorem onlyA_at {a : Addr} {o : Obj} {ns : List Int} : onlyA a o ns a = some (.frz o (.lst (ns.map V.int))) := if_pos rfl
theorem onlyA_ne {a b : Addr} {o : Obj} {ns : List Int} (h : b ≠ a) : onlyA a o ns b = none := if_neg h
/-- from a heap in which nothing but the script may be tracked -/
theorem law_from {P : Program} {w : World} {K : PySem.W.Frag} {mg mb : Str → Option Value} {CX : CXT} {k : Nat} {fa a : Addr} {fd : FuncData} {x : Str} {s₁ : Shared} {vs : List Value} {cls : Nat → Value} {t : Ty} {g : List PyData → R PyData} {ns : List Int}
    (KX : K.In s₁.heap) (hns : s₁.heap.Ns mainGlobals mg) (hb : s₁.heap.Ns builtinsNs mb) (hbb : ∀ x : Str, x ≠ "__name__" → mb x = bootBuiltins x) (hlim : s₁.heap.NoLimit) (hg : s₁.gens = #[])
    (ha : s₁.heap.get? a = some { cls := .type "list", data := .seq vs.toArray }) (hr : Room k callerA)
    (F : ∀ base : Heap, K.In base → base.Ns mainGlobals mg → FnG P w K mg base CX k fa fd [x] (spP cls K 1 g t)) (hbind : BindsTo s₁ fd ⟨[.ref a], []⟩ [(x, .ref a)])
    (hlaw : g [.list (ns.map .int)] = .ok (.bool true)) (hCX : ∀ H e s', CX [] H s₁ (fun _ _ _ => False) e s' → False)
    (H : Hp) (hH : ∀ b o, H b = some o → b = a ∧ ∃ ob xs, o = .frz ob (.lst xs)) (hS : SqL K H a (ns.map V.int)) (hok : HOk P w H s₁.heap) (hK : H a ≠ none → K.lookup a = none) :
    codeAny (model P w) callerA (.call (.ref fa) ⟨[.ref a], []⟩) (fun r s' => r = .ok (.ret (.bool true)) ∧ OldK s₁.heap s'.heap ∧ s'.os = s₁.os ∧ AllBare s'.gens) s₁ := by
  have free : ∀ {b : Addr} {o : Obj}, s₁.heap.get? b = some o → (b = a → ∀ es ep, o.data ≠ .dict es ep → False) ∨ b ≠ a → H b = none → (hidT s₁.heap H).get? b = some o := fun e _ n => hidT_get e n
  have off : ∀ {b : Addr}, b ≠ a → H b = none := fun {b} n => by
    cases q : H b with
    | none => rfl
    | some u => exact absurd (hH b u q).1 n
  have nsK : ∀ {b : Addr} {m : Str → Option Value}, s₁.heap.Ns b m → (hidT s₁.heap H).Ns b m := fun {b m} ⟨o, es, ep, e, d, r⟩ => ⟨o, es, ep, hidT_get e (off fun z => by
    subst z
    rw [ha] at e; cases e
    exact nomatch (show Data.seq vs.toArray _ = Data.dict es ep from d)), d, r⟩
  have hKb : K.In (hidT s₁.heap H) := fun b o e => hidT_get (KX b o e) (by
    by_cases z : b = a
    · subst z
      cases q : H b with
      | none => rfl
      | some u => rw [hK (by rw [q]; simp)] at e; cases e
    · exact off z)
  obtain ⟨mc, l1, l2⟩ := hlim
  have e0 : Env0 P w K mg (hidT s₁.heap H) callerA [] s₁ H := { frames := rfl, mod := ⟨hKb, nsK hns, ⟨mb, nsK hb, hbb⟩, ⟨mc, nsK l1, l2⟩⟩, bs := fun b o e => of_hidT e, bsz := Nat.le_of_eq (hidT_size _ _), funs := trivial, frf := fun b z => absurd (show b ∈ ([] : List Addr) from z) (by simp), hok := hok, bare := .of_eq hg }
  have sp : spP cls K 1 g t [.ref a] H (fun v _ => v = .bl true) fun _ _ _ => False := by
    refine ⟨[.list (ns.map .int)], H, rfl, Same.refl H, fun _ _ e _ _ _ => e, RpA.cons (script_rp hS) RpA.nil, ?_⟩
    rw [hlaw]
    exact fun v F' H' fv g h _ _ => Rp.bool_iff.mp (h.rp g.fh)
  refine codeAny_mono ((F _ hKb (nsK hns)).run callerA [] s₁ H ⟨[.ref a], []⟩ [.ref a] [.ref a] _ _ rfl hr e0 hbind (.cons rfl .nil) sp) fun r s' h => ?_
  match r, h with
  | .error e, h => exact (hCX H e s' h).elim
  | .ok .next, h => exact False.elim h
  | .ok .brk, h => exact False.elim h
  | .ok .cont, h => exact False.elim h
  | .ok (.ret u), ⟨v, H', os, bare, un, hok', r', q⟩ =>
    have q' : v = .bl true := q
    subst q'
    obtain rfl : u = Value.bool true := r'
    refine ⟨rfl, OldK.of_keep fun b o e => ?_, os, bare⟩
    cases q : H b with
    | none => exact un.keep b o e q (fun z => absurd (show b ∈ ([] : List Addr) from z) (by simp)) (by simp)
    | some u =>
      obtain ⟨_, ob, xs, rfl⟩ := hH b u q
      have z1 := (hok b _ q).1
      rw [e] at z1; cases z1
      exact (hok' b _ (un.frzs b _ _ q)).1
/-- the goal that k_head leaves, from the law as a function of the script -/
theorem walk_ofG {l : PySem.W.OpenLaw} {n k : Nat} {q : Program} {loose : List Str} {XP : (Str → Option Value) → Heap → Prop} {YP : World → Heap → Prop} {d : DefRec} {K : Params → PySem.W.Frag} {CX : CXT} {x : Str} {cls : Nat → Value} {t : Ty} {g : List PyData → R PyData}
    (hn : l.most = some n) (hn2 : n ≤ sizeLine) (hdf : d.params.defaults = []) (hr : Room k callerA)
    (hY : ∀ (w : World) (h : Heap), YP w h → (K w.params).In h)
    (F : ∀ (w : World) (mg : Str → Option Value) (fa : Addr) (h : Heap), (K w.params).In h → h.Ns mainGlobals mg → mg d.name = some (.ref fa) →
      ∃ fd : FuncData, (∀ (s : Shared) (u : Value), BindsTo s fd ⟨[u], []⟩ [(x, u)]) ∧ ∀ base : Heap, (K w.params).In base → base.Ns mainGlobals mg → FnG l.prog w (K w.params) mg base CX k fa fd [x] (spP cls (K w.params) 1 g t))
    (hlaw : ∀ ns : List Int, ns.length ≤ n → g [.list (ns.map .int)] = .ok (.bool true))
    (hCX : ∀ (H : Hp) (s : Shared) (e : Value) (s' : Shared), CX [] H s (fun _ _ _ => False) e s' → False) :
    PySem.W.WalkO q loose XP YP l.row.toRowW d [] (fun f vs => PySem.call f vs) := by
  refine Att.attach_call hn hdf fun w s₀ s₁ mg mb fa o pm cd doc a vs ns G Y ho hd hcd hmg hobj hints hlen hg => ?_
  have KX := hY w _ Y
  obtain ⟨fd, hb, hF⟩ := F w mg fa _ KX G.T.g hmg
  have rv := vals_ints hints
  have hz : (ns.map V.int).length ≤ sizeLine := by rw [List.length_map]; exact Nat.le_trans hlen hn2
  have main := law_from (ns := ns) KX G.T.g G.T.b G.T.builtins G.T.nolimit hg hobj hr hF (hb _ _) (hlaw ns hlen) fun H e s' => hCX H s₁ e s'
  cases hk : (K w.params).lookup a with
  | some ob =>
    have e := KX a ob hk
    rw [hobj] at e
    cases e
    exact main (fun _ => none) (fun b o z => nomatch (show (none : Option HO) = some o from z)) (.inr ⟨_, vs.toArray, _, hk, rfl, rfl, rfl, by rw [List.size_toArray, ← rv.length]; exact hz, by simpa using rv⟩) (fun b u z => nomatch (show (none : Option HO) = some u from z)) fun z => absurd rfl z
  | none =>
    refine main (onlyA a { cls := .type "list", data := .seq vs.toArray } ns) (fun b o z => ?_) (.inl (.inr ⟨_, onlyA_at⟩)) (fun b u z => ?_) fun _ => hk
    · by_cases e : b = a
      · subst e
        rw [onlyA_at] at z
        exact ⟨rfl, _, _, (Option.some.inj z).symm⟩
      · rw [onlyA_ne e] at z; cases z
    · by_cases e : b = a
      · subst e
        rw [onlyA_at] at z
        cases z
        exact ⟨hobj, hz, vs, _, rv, hobj⟩
      · rw [onlyA_ne e] at z; cases z

/-! ### a < b < c < d -/
def tChain3 (r r' r'' : R2) (ta tb tc td : TE) : TE := fun σ H Q => ta σ H fun x H1 => tb σ H1 fun y H2 => r x y H2 fun z H3 => ∃ k, z = .bl k ∧
  (if k = true then tc σ H3 fun w H4 => r' y w H4 fun z2 H5 => ∃ k2, z2 = .bl k2 ∧ (if k2 = true then td σ H5 fun w2 H6 => r'' w w2 H6 Q else Q (.bl false) H5) else Q (.bl false) H3)
section
variable {X : Cx} {op op' op'' : CmpOp} {r r' r'' : R2} {a b c d : Expr} {ta tb tc td : TE} {pos : Pos}
theorem pe_chain3 (ho : OpR X (compareOp op) r) (ho' : OpR X (compareOp op') r') (ho'' : OpR X (compareOp op'') r'') (ha : PE X a ta) (hb : PE X b tb) (hc : PE X c tc) (hd : PE X d td)
    (hm : lastMarks [op, op', op''] [b, c, d] = false := by with_unfolding_all rfl) : PE X (.Compare a [op, op', op''] [b, c, d] pos) (tChain3 r r' r'' ta tb tc td) := by
  refine ⟨fun pins s σ H Q I h => ?_⟩
  refine Compare_chain (thn (ha.run pins s σ H _ I h) fun v s1 ⟨x, H1, I1, r1, q1⟩ => ?_) hm
  refine chain_link (thn (hb.run pins s1 σ H1 _ I1 q1) fun u s2 ⟨y, H2, I2, r2, q2⟩ => ?_)
  refine thn (ho pins s2 σ H2 x y v u _ I2 r1 r2 q2) fun e s3 ⟨z, H3, I3, r3, k, ek, q3⟩ => ?_
  subst ek
  cases r3
  refine wpAny_truthy_bool ?_
  cases k with
  | false => exact ite_ff ⟨.bl false, H3, I3, rfl, q3⟩
  | true =>
    refine ite_tt (chain_link (thn (hc.run pins s3 σ H3 _ I3 q3) fun u2 s4 ⟨y2, H4, I4, r4, q4⟩ => ?_))
    refine thn (ho' pins s4 σ H4 y y2 u u2 _ I4 r2 r4 q4) fun e2 s5 ⟨z2, H5, I5, r5, k2, ek2, q5⟩ => ?_
    subst ek2
    cases r5
    refine wpAny_truthy_bool ?_
    cases k2 with
    | false => exact ite_ff ⟨.bl false, H5, I5, rfl, q5⟩
    | true => exact ite_tt (chain_last (thn (hd.run pins s5 σ H5 _ I5 q5) fun w s6 ⟨y3, H6, I6, r6, q6⟩ => ho'' pins s6 σ H6 y2 y3 u2 w Q I6 r4 r6 q6))
theorem pt_chain3 (ho : OpR X (compareOp op) r) (ho' : OpR X (compareOp op') r') (ho'' : OpR X (compareOp op'') r'') (ha : PE X a ta) (hb : PE X b tb) (hc : PE X c tc) (hd : PE X d td)
    (hm : lastMarks [op, op', op''] [b, c, d] = false := by with_unfolding_all rfl) : PT X (.Compare a [op, op', op''] [b, c, d] pos) (tTest (tChain3 r r' r'' ta tb tc td)) := by
  refine ⟨fun pins s σ H Q I h => ?_⟩
  refine isTrue_chain (thn (ha.run pins s σ H _ I h) fun v s1 ⟨x, H1, I1, r1, q1⟩ => ?_) hm
  refine test_link (thn (hb.run pins s1 σ H1 _ I1 q1) fun u s2 ⟨y, H2, I2, r2, q2⟩ => ?_)
  refine thn (ho pins s2 σ H2 x y v u _ I2 r1 r2 q2) fun e s3 ⟨z, H3, I3, r3, k, ek, q3⟩ => ?_
  subst ek
  cases r3
  refine wpAny_truthy_bool ?_
  cases k with
  | false =>
    obtain ⟨k', e', q'⟩ := q3
    cases e'
    exact ite_ff ⟨H3, I3, q'⟩
  | true =>
    refine ite_tt (test_link (thn (hc.run pins s3 σ H3 _ I3 q3) fun u2 s4 ⟨y2, H4, I4, r4, q4⟩ => ?_))
    refine thn (ho' pins s4 σ H4 y y2 u u2 _ I4 r2 r4 q4) fun e2 s5 ⟨z2, H5, I5, r5, k2, ek2, q5⟩ => ?_
    subst ek2
    cases r5
    refine wpAny_truthy_bool ?_
    cases k2 with
    | false =>
      obtain ⟨k', e', q'⟩ := q5
      cases e'
      exact ite_ff ⟨H5, I5, q'⟩
    | true =>
      refine ite_tt (test_last (thn (hd.run pins s5 σ H5 _ I5 q5) fun w s6 ⟨y3, H6, I6, r6, q6⟩ => thn (ho'' pins s6 σ H6 y2 y3 u2 w _ I6 r4 r6 q6) fun e3 s7 ⟨z3, H7, I7, r7, k3, ek3, q7⟩ => ?_))
      subst ek3
      cases r7
      exact wpAny_truthy_bool ⟨H7, I7, q7⟩
end
section
variable {Z : PX} {Γ : Ctx} {F H F' H' : Hp} {t ta tb tc td : Ty} {Q : VK} {a b c d : Expr} {pos : Pos} {ra rb rc rd' : R PyData} {op op' op'' : CmpOp} {r r' r'' : R2} {f f' f'' : PyData → PyData → R PyData}
def andR (z : R PyData) (k : R PyData) : R PyData := z.bind fun z => (asB z).bind fun k' => if k' = true then k else .ok (.bool false)
/-- a reading as a value told for a test -/
theorem tst_imp {te : TE} {r : R PyData} (h : ∀ σ H Q, tEv Z Γ r .imm σ H Q → te σ H Q) {σ : St} {H : Hp} {Q : Bool → Hp → Prop} (q : tTs Z Γ (r.bind asB) σ H Q) : tTest te σ H Q := by
  obtain ⟨F, p, q⟩ := q
  exact h σ H _ ⟨F, p, (PostB.split (ta := .imm) q).imp fun v H1 ⟨d, F1, fv, _, g, h, _, _, q1⟩ => tst_of g.fh g.tup (h.rp g.fh) q1⟩
theorem ev3_imp (ho : Rule2 Z f ta tb .imm r) (rule' : Rule2 Z f' tb tc .imm r') (rule'' : Rule2 Z f'' tc td .imm r'') : ∀ σ H Q, tEv Z Γ (ra.bind fun x => rb.bind fun y => andR (f x y) (rc.bind fun w => andR (f' y w) (rd'.bind fun w2 => f'' w w2))) .imm σ H Q →
    tChain3 r r' r'' (tEv Z Γ ra ta) (tEv Z Γ rb tb) (tEv Z Γ rc tc) (tEv Z Γ rd' td) σ H Q := fun σ H Q ⟨F, p, q⟩ => by
    refine ⟨F, p, (Post.split q).imp fun v H1 ⟨x, F1, fv, _, g, h, _, _, q1⟩ => ⟨F1, p.grow g, (Post.split q1).imp fun v2 H2 ⟨y, F2, fv2, _, g2, h2, _, _, q2⟩ => ?_⟩⟩
    refine ho F2 H2 x y v v2 _ _ _ g2.fh g2.tup (h.grow g2) h2 ((Post.split (ta := .imm) q2).imp fun z H3 ⟨e, F3, fv3, _, g3, h3, _, _, q3⟩ => ?_)
    have hr := h3.rp g3.fh
    cases e with
    | bool k =>
      refine ⟨k, Rp.bool_iff.mp hr, ?_⟩
      cases k with
      | true =>
        refine ⟨F3, (p.grow (g.trans g2)).grow g3, (Post.split q3).imp fun v4 H4 ⟨w, F4, fv4, _, g4, h4, _, _, q4⟩ => ?_⟩
        refine rule' F4 H4 y w v2 v4 _ _ _ g4.fh g4.tup ((h2.grow g3).grow g4) h4 ((Post.split (ta := .imm) q4).imp fun z5 H5 ⟨e5, F5, fv5, _, g5, h5, _, _, q5⟩ => ?_)
        have hr5 := h5.rp g5.fh
        cases e5 with
        | bool k5 =>
          refine ⟨k5, Rp.bool_iff.mp hr5, ?_⟩
          cases k5 with
          | true => exact ⟨F5, (((p.grow (g.trans g2)).grow g3).grow g4).grow g5, (Post.split q5).imp fun v6 H6 ⟨w6, F6, fv6, _, g6, h6, _, _, q6⟩ => rule'' F6 H6 w w6 v4 v6 _ _ Q g6.fh g6.tup ((h4.grow g5).grow g6) h6 q6⟩
          | false => exact Post.imm_ok q5 g5.fh g5.tup (Rp.bool_iff.mpr rfl) rfl
        | _ => exact q5.elim
      | false => exact Post.imm_ok q3 g3.fh g3.tup (Rp.bool_iff.mpr rfl) rfl
    | _ => exact q3.elim
theorem ev_chain3 (ho : OpR Z.X (compareOp op) r) (ho' : OpR Z.X (compareOp op') r') (ho'' : OpR Z.X (compareOp op'') r'') (rule : Rule2 Z f ta tb .imm r) (rule' : Rule2 Z f' tb tc .imm r') (rule'' : Rule2 Z f'' tc td .imm r'')
    (ha : EvP Z Γ a ra ta) (hb : EvP Z Γ b rb tb) (hc : EvP Z Γ c rc tc) (hd : EvP Z Γ d rd' td) (hm : lastMarks [op, op', op''] [b, c, d] = false := by with_unfolding_all rfl) :
    EvP Z Γ (.Compare a [op, op', op''] [b, c, d] pos) (ra.bind fun x => rb.bind fun y => andR (f x y) (rc.bind fun w => andR (f' y w) (rd'.bind fun w2 => f'' w w2))) .imm :=
  PEimp (pe_chain3 ho ho' ho'' ha hb hc hd hm) fun σ H Q q => ev3_imp rule rule' rule'' σ H Q q
theorem ts_chain3 (ho : OpR Z.X (compareOp op) r) (ho' : OpR Z.X (compareOp op') r') (ho'' : OpR Z.X (compareOp op'') r'') (rule : Rule2 Z f ta tb .imm r) (rule' : Rule2 Z f' tb tc .imm r') (rule'' : Rule2 Z f'' tc td .imm r'')
    (ha : EvP Z Γ a ra ta) (hb : EvP Z Γ b rb tb) (hc : EvP Z Γ c rc tc) (hd : EvP Z Γ d rd' td) (hm : lastMarks [op, op', op''] [b, c, d] = false := by with_unfolding_all rfl) :
    TsP Z Γ (.Compare a [op, op', op''] [b, c, d] pos) ((ra.bind fun x => rb.bind fun y => andR (f x y) (rc.bind fun w => andR (f' y w) (rd'.bind fun w2 => f'' w w2))).bind asB) :=
  PTimp (pt_chain3 ho ho' ho'' ha hb hc hd hm) fun σ H Q q => tst_imp (ev3_imp rule rule' rule'') q
/-! ### the callers' exceptions: none -/
theorem passC {X : Cx} {E : XK} : Passes CX0 X E := fun _ _ _ _ _ _ _ h => h.elim
theorem hu65 {k : Nat} {A : Around} (hr : Room k A) : A.units + 65 < cLine := by have := hr.un; omega
theorem ar_consF {Z : PX} {Γ : Ctx} {r : R PyData} {rs : R (List PyData)} {e : Expr} {es : List Expr} (he : EvP Z Γ e r Ty.shr) (hr : ArP Z Γ es rs .fr) (hs : starEach (e :: es) Z.X.env = (false, eval e Z.X.env) :: starEach es Z.X.env := by rfl) : ArP Z Γ (e :: es) (aC r rs) .fr := ar_cons (m := .fr) he hr hs
theorem ar_consA {Z : PX} {Γ : Ctx} {r : R PyData} {rs : R (List PyData)} {e : Expr} {es : List Expr} (he : EvP Z Γ e r Ty.any) (hr : ArP Z Γ es rs .an) (hs : starEach (e :: es) Z.X.env = (false, eval e Z.X.env) :: starEach es Z.X.env := by rfl) : ArP Z Γ (e :: es) (aC r rs) .an := ar_cons (m := .an) he hr hs
theorem ar_consI {Z : PX} {Γ : Ctx} {r : R PyData} {rs : R (List PyData)} {e : Expr} {es : List Expr} (he : EvP Z Γ e r Ty.imm) (hr : ArP Z Γ es rs .im) (hs : starEach (e :: es) Z.X.env = (false, eval e Z.X.env) :: starEach es Z.X.env := by rfl) : ArP Z Γ (e :: es) (aC r rs) .im := ar_cons (m := .im) he hr hs
theorem bl_cx {Y : BX} {S L : Type} {Γ : Ctx} (Γ' : Ctx) {Δ : S → Ctx} {Λ : L → Ctx} {sts : List Stmt} {r : R (Fl S L)} (h : Γ = Γ') (hb : BlP Y Γ' sts Δ Λ r) : BlP Y Γ sts Δ Λ r := h ▸ hb
theorem ev_cx {Z : PX} {Γ : Ctx} (Γ' : Ctx) {e : Expr} {r : R PyData} {t : Ty} (h : Γ = Γ') (hb : EvP Z Γ' e r t) : EvP Z Γ e r t := h ▸ hb
theorem tss_cx {Z : PX} {Γ : Ctx} (Γ' : Ctx) {es : List Expr} {r : R Bool} (h : Γ = Γ') (hb : TssP Z Γ' es r) : TssP Z Γ es r := h ▸ hb
end

/-! ### plain facts: what the pure functions answer -/
section
variable (i j k : Int)
@[simp] theorem addI_ii : addI (.int i) (.int j) = .ok (.int (i + j)) := rfl
@[simp] theorem subI_ii : subI (.int i) (.int j) = .ok (.int (i - j)) := rfl
@[simp] theorem negI_i : negI (.int i) = .ok (.int (-i)) := rfl
@[simp] theorem intI_i : intI (.int i) = .ok (.int i) := rfl
@[simp] theorem absI_i : absI (.int i) = .ok (.int (if i < 0 then -i else i)) := rfl
@[simp] theorem ltI_ii : ltI (.int i) (.int j) = .ok (.bool (decide (i < j))) := rfl
@[simp] theorem leI_ii : leI (.int i) (.int j) = .ok (.bool (decide (i ≤ j))) := rfl
@[simp] theorem gtI_ii : gtI (.int i) (.int j) = .ok (.bool (decide (j < i))) := rfl
@[simp] theorem geI_ii : geI (.int i) (.int j) = .ok (.bool (decide (j ≤ i))) := rfl
@[simp] theorem asB_b (b : Bool) : asB (.bool b) = .ok b := rfl
theorem maxI_ii : maxI (.int i) (.int j) = .ok (.int (max i j)) := by
  show R.ok (PyData.int (if j > i then j else i)) = _
  split
  · rw [Int.max_eq_right (by omega)]
  · rw [Int.max_eq_left (by omega)]
theorem minI_ii : minI (.int i) (.int j) = .ok (.int (min i j)) := by
  show R.ok (PyData.int (if j < i then j else i)) = _
  split
  · rw [Int.min_eq_right (by omega)]
  · rw [Int.min_eq_left (by omega)]
theorem max3I_iii : max3I (.int i) (.int j) (.int k) = .ok (.int (max (max i j) k)) := by
  show R.ok (PyData.int (if j > i then (if k > j then k else j) else (if k > i then k else i))) = _
  congr 2
  split <;> split <;> omega
theorem min3I_iii : min3I (.int i) (.int j) (.int k) = .ok (.int (min (min i j) k)) := by
  show R.ok (PyData.int (if j < i then (if k < j then k else j) else (if k < i then k else i))) = _
  congr 2
  split <;> split <;> omega
theorem log2_lt {n b : Nat} (h : n < 2 ^ b) (hb : 0 < b) : n.log2 < b := by
  by_cases h0 : n = 0
  · subst h0; simpa using hb
  · exact (Nat.log2_lt h0).mpr h
theorem mulI_sm {i j : Int} (hi : i.natAbs < 2 ^ 200) (hj : j.natAbs < 2 ^ 200) : mulI (.int i) (.int j) = .ok (.int (i * j)) := by
  have a := log2_lt hi (by omega)
  have b := log2_lt hj (by omega)
  exact if_pos (by omega)
theorem divI_sm {i j : Int} (h0 : 0 < j) (hj : j.natAbs < 2 ^ 200) : divI (.int i) (.int j) = .ok (.int (i / j)) := by
  have b := log2_lt hj (by omega)
  exact if_pos ⟨h0, by omega⟩
theorem modI_ok {i j : Int} (h0 : 0 < j) : modI (.int i) (.int j) = .ok (.int (i % j)) := if_pos h0
theorem powI_ok {i j : Int} (h : 0 ≤ j ∧ j ≤ 1000000 ∧ i.natAbs < 2 ^ 64) : powI (.int i) (.int j) = .ok (.int (i ^ j.toNat)) := if_pos h
end
@[simp] theorem eqS_ii (i j : Int) : eqS (.int i) (.int j) = .ok (.bool (decide (i = j))) := rfl
@[simp] theorem eqS_bb (i j : Bool) : eqS (.bool i) (.bool j) = .ok (.bool (decide (i = j))) := rfl
@[simp] theorem eqS_ss (i j : Str) : eqS (.str i) (.str j) = .ok (.bool (decide (i = j))) := rfl
@[simp] theorem neS_ii (i j : Int) : neS (.int i) (.int j) = .ok (.bool (!decide (i = j))) := rfl
@[simp] theorem neS_bb (i j : Bool) : neS (.bool i) (.bool j) = .ok (.bool (!decide (i = j))) := rfl
@[simp] theorem neS_ss (i j : Str) : neS (.str i) (.str j) = .ok (.bool (!decide (i = j))) := rfl
@[simp] theorem isNone_n (x : PyData) : isNone x .none = .ok (.bool (isN x)) := rfl
@[simp] theorem notNone_n (x : PyData) : notNone x .none = .ok (.bool (!isN x)) := rfl
@[simp] theorem isN_none : isN .none = true := rfl
@[simp] theorem isN_int (i : Int) : isN (.int i) = false := rfl
@[simp] theorem isN_tup (i : List PyData) : isN (.tuple i) = false := rfl
@[simp] theorem isN_lst (i : List PyData) : isN (.list i) = false := rfl
@[simp] theorem isN_bool (i : Bool) : isN (.bool i) = false := rfl
@[simp] theorem isB_bb (i j : Bool) : isB (.bool i) (.bool j) = .ok (.bool (decide (i = j))) := rfl
@[simp] theorem lenD_l (ds : List PyData) : lenD (.list ds) = .ok (.int ds.length) := rfl
@[simp] theorem lenD_t (ds : List PyData) : lenD (.tuple ds) = .ok (.int ds.length) := rfl
@[simp] theorem sx_ok' {α : Type} (a : α) : (R.ok a).sx = .ok a := rfl
@[simp] theorem andR_ok (b : Bool) (k : R PyData) : andR (.ok (.bool b)) k = if b = true then k else .ok (.bool false) := rfl
@[simp] theorem tsC_c {S1 S2 : Type} (f : PyData → R S1) (g : List PyData → R S2) (d : PyData) (ds : List PyData) : tsC f g (d :: ds) = (f d).bind fun a => (g ds).bind fun b => .ok (a, b) := rfl
@[simp] theorem revD_l (ds : List PyData) : revD (.list ds) = .ok (.list ds.reverse) := rfl
@[simp] theorem rev2D_l (ds : List PyData) : rev2D (.list ds) = .ok (.list ds.dropLast.reverse) := rfl
theorem line16 : sizeLine = 16777216 := sizeLine_eq
theorem mkT_ok {ds : List PyData} (h : ds.length ≤ 1000) : mkT ds = .ok (.tuple ds) := if_pos (by rw [line16]; omega)
theorem mkL_ok {ds : List PyData} (h : ds.length ≤ 16000000) : mkL ds = .ok (.list ds) := if_pos (by rw [line16]; omega)
theorem appD_ok {ds : List PyData} {d : PyData} (h : ds.length < 16000000) : appD (.list ds) d = .ok (.list (ds ++ [d])) := if_pos (by rw [line16]; omega)
theorem catL_ok {ds es : List PyData} (h : ds.length + es.length ≤ 16000000) : catL (.list ds) (.list es) = .ok (.list (ds ++ es)) := if_pos (by rw [line16]; omega)
theorem ixN_nat {n : Nat} {i : Int} (h0 : 0 ≤ i) (h1 : i < n) : ixN n i = some i.toNat := by
  unfold ixN
  rw [if_pos h0, if_pos h1]
theorem ixN_neg {n : Nat} {i : Int} (h0 : i < 0) (h1 : 0 ≤ i + n) : ixN n i = some (i + n).toNat := by
  unfold ixN
  rw [if_neg (by omega), if_pos (by omega)]
theorem atI_nat {α : Type} {xs : List α} {n : Nat} {d : α} (h : xs[n]? = some d) : atI xs (n : Int) = some d := by
  have hl := (List.getElem?_eq_some_iff.mp h).1
  unfold atI
  rw [ixN_nat (by omega) (by omega)]
  simpa using h
theorem atI_neg {α : Type} {xs : List α} {n : Nat} {d : α} (h0 : 0 < n) (hl : n ≤ xs.length) (h : xs[xs.length - n]? = some d) : atI xs (-(n : Int)) = some d := by
  unfold atI
  rw [ixN_neg (by omega) (by omega)]
  have e : (-(n : Int) + xs.length).toNat = xs.length - n := by omega
  rw [Option.bind_some, e]
  exact h
theorem ixL {ds : List PyData} {i : Int} (n : Nat) {d : PyData} (e : i = n) (h : ds[n]? = some d) : ixD (.list ds) (.int i) = .ok d := by
  subst e
  show (match atI ds (n : Int) with | some d => R.ok d | none => R.stuck) = _
  rw [atI_nat h]
theorem ixT {ds : List PyData} {i : Int} (n : Nat) {d : PyData} (e : i = n) (h : ds[n]? = some d) : ixD (.tuple ds) (.int i) = .ok d := by
  subst e
  show (match atI ds (n : Int) with | some d => R.ok d | none => R.stuck) = _
  rw [atI_nat h]
theorem ixLn {ds : List PyData} {i : Int} (n : Nat) {d : PyData} (e : i = -(n : Int)) (h0 : 0 < n) (hl : n ≤ ds.length) (h : ds[ds.length - n]? = some d) : ixD (.list ds) (.int i) = .ok d := by
  subst e
  show (match atI ds (-(n : Int)) with | some d => R.ok d | none => R.stuck) = _
  rw [atI_neg h0 hl h]
theorem ixL_last {ds : List PyData} {d : PyData} : ixD (.list (ds ++ [d])) (.int (-1)) = .ok d := ixLn 1 rfl (by omega) (by simp) (by simp)
@[simp] theorem ixL_0 {d : PyData} {ds : List PyData} : ixD (.list (d :: ds)) (.int 0) = .ok d := ixL 0 rfl rfl
@[simp] theorem ixT_0 {d : PyData} {ds : List PyData} : ixD (.tuple (d :: ds)) (.int 0) = .ok d := ixT 0 rfl rfl
@[simp] theorem ixT_1 {a d : PyData} {ds : List PyData} : ixD (.tuple (a :: d :: ds)) (.int 1) = .ok d := ixT 1 rfl rfl
@[simp] theorem ixT_2 {a b d : PyData} {ds : List PyData} : ixD (.tuple (a :: b :: d :: ds)) (.int 2) = .ok d := ixT 2 rfl rfl
@[simp] theorem ixT_3 {a b c d : PyData} {ds : List PyData} : ixD (.tuple (a :: b :: c :: d :: ds)) (.int 3) = .ok d := ixT 3 rfl rfl
/-! ### ranges -/
theorem rng1_ok {j : Int} (h : -(2 ^ 62) ≤ j ∧ j < 2 ^ 62) : rng1 [.int j] = .ok (rangeL 0 j.toNat) := if_pos h
theorem rng2_ok {i j : Int} (h : -(2 ^ 62) ≤ i ∧ i < 2 ^ 62) (h' : -(2 ^ 62) ≤ j ∧ j < 2 ^ 62) : rng2 [.int i, .int j] = .ok (rangeL i (j - i).toNat) := if_pos ⟨h, h'⟩
theorem rng3_ok {i j : Int} (h : -(2 ^ 62) ≤ i ∧ i < 2 ^ 62) (h' : -(2 ^ 62) ≤ j ∧ j < 2 ^ 62) : rng3d [.int i, .int j, .int (-1)] = .ok (rngD i (i - j).toNat) := if_pos ⟨rfl, h, h'⟩
theorem rangeL_0 (lo : Int) : rangeL lo 0 = [] := rfl
theorem rangeL_succ (lo : Int) (n : Nat) : rangeL lo (n + 1) = .int lo :: rangeL (lo + 1) n := by
  unfold rangeL
  rw [List.range_succ_eq_map, List.map_cons, List.map_map]
  congr 1
  · simp
  · apply List.map_congr_left
    intro k _
    simp
    omega
theorem rangeL_last (lo : Int) (n : Nat) : rangeL lo (n + 1) = rangeL lo n ++ [.int (lo + n)] := by
  unfold rangeL
  rw [List.range_succ, List.map_append]
  rfl
theorem rangeL_split (lo : Int) (a b : Nat) : rangeL lo (a + b) = rangeL lo a ++ rangeL (lo + a) b := by
  induction b with
  | zero => simp [rangeL_0]
  | succ b ih =>
    have e : lo + ((a + b : Nat) : Int) = lo + a + b := by omega
    rw [← Nat.add_assoc, rangeL_last, ih, rangeL_last, List.append_assoc, e]
theorem rngD_0 (lo : Int) : rngD lo 0 = [] := rfl
theorem rngD_succ (lo : Int) (n : Nat) : rngD lo (n + 1) = .int lo :: rngD (lo - 1) n := by
  unfold rngD
  rw [List.range_succ_eq_map, List.map_cons, List.map_map]
  congr 1
  · simp
  · apply List.map_congr_left
    intro k _
    simp
    omega
/-! ### loops -/
theorem forR_inv {L : Type} {g : PyData → L → R (Fl L L)} (I : Nat → L → Prop) : ∀ (ds : List PyData) (n : Nat) (s0 : L), I n s0 → (∀ (i : Nat) d s, ds[i]? = some d → I (n + i) s → ∃ s', (g d s = .ok (.nx s') ∨ g d s = .ok (.ct s')) ∧ I (n + i + 1) s') →
    ∃ s, forR g ds s0 = .ok (.nx s) ∧ I (n + ds.length) s
  | [], n, s0, h, _ => ⟨s0, rfl, h⟩
  | d :: ds, n, s0, h, st => by
    obtain ⟨s', e, h'⟩ := st 0 d s0 rfl h
    obtain ⟨s2, e2, h2⟩ := forR_inv I ds (n + 1) s' h' fun i d' s q hq => by
      have := st (i + 1) d' s (by simpa using q) (by rw [show n + (i + 1) = n + 1 + i by omega]; exact hq)
      rw [show n + (i + 1) + 1 = n + 1 + i + 1 by omega] at this
      exact this
    refine ⟨s2, ?_, by rw [List.length_cons, show n + (ds.length + 1) = n + 1 + ds.length by omega]; exact h2⟩
    rw [forR_cons]
    rcases e with e | e <;> rw [e] <;> exact e2
theorem forR_app {L : Type} {g : PyData → L → R (Fl L L)} : ∀ (ds es : List PyData) (s s' : L), forR g ds s = .ok (.nx s') → forR g (ds ++ es) s = forR g es s'
  | [], es, s, s', h => by cases h; rfl
  | d :: ds, es, s, s', h => by
    rw [forR_cons] at h
    rw [List.cons_append, forR_cons]
    cases e : g d s with
    | exc c n => rw [e] at h; cases h
    | stuck => rw [e] at h; cases h
    | ok f =>
      rw [e] at h
      cases f with
      | nx s2 => exact forR_app ds es s2 s' h
      | ct s2 => exact forR_app ds es s2 s' h
      | bk s2 => cases h
      | rt d => cases h
theorem forR_skip {L : Type} {g : PyData → L → R (Fl L L)} {s : L} : ∀ (ds : List PyData), (∀ d ∈ ds, g d s = .ok (.nx s)) → forR g ds s = .ok (.nx s)
  | [], _ => rfl
  | d :: ds, h => by
    rw [forR_cons, h d List.mem_cons_self]
    exact forR_skip ds fun d' hd => h d' (List.mem_cons_of_mem _ hd)
theorem forR_one {L : Type} {g : PyData → L → R (Fl L L)} {s s' : L} {d : PyData} {ds : List PyData} (h : g d s = .ok (.nx s')) : forR g (d :: ds) s = forR g ds s' := by rw [forR_cons, h]; rfl
theorem forR_brk {L : Type} {g : PyData → L → R (Fl L L)} {s s' : L} {d : PyData} {ds : List PyData} (h : g d s = .ok (.bk s')) : forR g (d :: ds) s = .ok (.bk s') := by rw [forR_cons, h]; rfl
theorem forR_ret {L : Type} {g : PyData → L → R (Fl L L)} {s : L} {x d : PyData} {ds : List PyData} (h : g d s = .ok (.rt x)) : forR g (d :: ds) s = .ok (.rt x) := by rw [forR_cons, h]; rfl
/-! ### what a computation comes to -/
def R.to {α : Type} (r : R α) (P : α → Prop) : Prop := ∃ a, r = .ok a ∧ P a
theorem to_ok {α : Type} {a : α} {P : α → Prop} (h : P a) : (R.ok a).to P := ⟨a, rfl, h⟩
theorem to_bind {α β : Type} {r : R α} {f : α → R β} {P : β → Prop} (h : r.to fun a => (f a).to P) : (r.bind f).to P := by
  obtain ⟨a, e, b, e2, h⟩ := h
  exact ⟨b, by rw [e, R.ok_bind, e2], h⟩
theorem to_imp {α : Type} {r : R α} {P Q : α → Prop} (h : r.to P) (i : ∀ a, P a → Q a) : r.to Q := let ⟨a, e, p⟩ := h; ⟨a, e, i a p⟩
theorem to_seq {α β : Type} {r : R α} {f : α → R β} {P : α → Prop} {Q : β → Prop} (h : r.to P) (i : ∀ a, P a → (f a).to Q) : (r.bind f).to Q := to_bind (to_imp h i)
theorem to_eq {α β : Type} {r : R α} {a : α} {f : α → R β} {Q : β → Prop} (e : r = .ok a) (h : (f a).to Q) : (r.bind f).to Q := by rw [e]; exact h
theorem to_for {L : Type} {g : PyData → L → R (Fl L L)} {ds : List PyData} {s0 : L} {P : Fl L L → Prop} (I : Nat → L → Prop) (h0 : I 0 s0) (step : ∀ (i : Nat) d s, ds[i]? = some d → I i s → (g d s).to fun f => ∃ s', (f = .nx s' ∨ f = .ct s') ∧ I (i + 1) s')
    (fin : ∀ s, I ds.length s → P (.nx s)) : (forR g ds s0).to P := by
  obtain ⟨s, e, h⟩ := forR_inv I ds 0 s0 h0 fun i d s q hq => by
    obtain ⟨f, e, s', h1, h2⟩ := step i d s q (by simpa using hq)
    refine ⟨s', ?_, by simpa using h2⟩
    rcases h1 with rfl | rfl
    · exact .inl e
    · exact .inr e
  exact ⟨_, e, fin s (by simpa using h)⟩
theorem bind_eq {α β : Type} {r : R α} {f : α → R β} {a : α} {b : R β} (h : r = .ok a) (h2 : f a = b) : r.bind f = b := by rw [h]; exact h2
/-! ### comprehensions -/
theorem compR_eq {X : Type} {f : PyData → R X} {c : X → R Bool} {g : X → R PyData} (p : PyData → Bool) (h : PyData → PyData) : ∀ ds : List PyData, (∀ d ∈ ds, ∃ x, f d = .ok x ∧ c x = .ok (p d) ∧ (p d = true → g x = .ok (h d))) → compR f c g ds = .ok ((ds.filter p).map h)
  | [], _ => rfl
  | d :: ds, q => by
    obtain ⟨x, e1, e2, e3⟩ := q d List.mem_cons_self
    have ih := compR_eq p h ds fun d' hd => q d' (List.mem_cons_of_mem _ hd)
    rw [compR_cons, e1, R.ok_bind, e2, sx_ok', R.ok_bind]
    cases hp : p d with
    | false =>
      rw [if_neg (by simp), ih, List.filter_cons_of_neg (by simp [hp])]
    | true =>
      rw [if_pos rfl, e3 hp, sx_ok', R.ok_bind, ih, R.ok_bind, List.filter_cons_of_pos hp, List.map_cons]
/-! ### repr fits -/
mutual
def tiny : PyData → Bool
  | .none => true
  | .bool _ => true
  | .int i => decide (i.natAbs < 2 ^ 60)
  | .str _ => false
  | .list xs => tinyA xs
  | .tuple xs => tinyA xs
  | .dict _ => false
def tinyA : List PyData → Bool
  | [] => true
  | x :: xs => tiny x && tinyA xs
end
mutual
def cells : PyData → Nat
  | .list xs => cellsA xs + 1
  | .tuple xs => cellsA xs + 1
  | _ => 1
def cellsA : List PyData → Nat
  | [] => 0
  | x :: xs => cells x + cellsA xs
end
theorem textFrom_le : ∀ (ts : List Str) (k : Nat) (acc : Str), (textFrom k acc ts).length ≤ acc.length + piled ts
  | [], k, acc => by simp [textFrom, piled]
  | t :: r, k, acc => by
    have h := textFrom_le r (k + 1) (acc ++ (if k > 0 then ", " else "" : String) ++ t)
    have e : (acc ++ (if k > 0 then ", " else "" : String) ++ t).length ≤ acc.length + 2 + t.length := by
      rw [strLen_append, strLen_append]
      have : (((if k > 0 then ", " else "" : String)) : Str).length ≤ 2 := by split <;> decide
      omega
    rw [piled_cons]
    show (textFrom (k + 1) _ r).length ≤ _
    omega
theorem listText_le (ts : List Str) : (listText ts).length ≤ piled ts + 2 := by
  unfold listText
  rw [strLen_append]
  have h := textFrom_le ts 0 "["
  have e1 : (("[" : String) : Str).length = 1 := rfl
  have e2 : (("]" : String) : Str).length = 1 := rfl
  omega
theorem tupleText_le (ts : List Str) : (tupleText ts).length ≤ piled ts + 3 := by
  unfold tupleText
  rw [strLen_append, strLen_append]
  have e1 : (("(" : String) : Str).length = 1 := rfl
  have e3 : (((if ts.length == 1 then ",)" else ")" : String) : Str)).length ≤ 2 := by split <;> decide
  have e4 : (Str.join ", " ts).length ≤ piled ts := by
    by_cases h : ts = []
    · subst h; exact Nat.zero_le _
    · have := join_length_add ts h; omega
  omega
mutual
theorem shown_le : ∀ d : PyData, tiny d = true → d.shown.length + 2 ≤ 80 * cells d
  | .none, _ => by
    have : (PyData.shown .none).length ≤ 5 := by decide
    simp only [cells]; omega
  | .bool b, _ => by
    have : (PyData.shown (.bool b)).length ≤ 5 := by cases b <;> decide
    simp only [cells]; omega
  | .int i, h => by
    have hi : i.natAbs < 2 ^ 60 := by simpa [tiny] using h
    have e : (Str.ofString (toString i)).length ≤ 62 := by
      have := int_text_length_le (a := i) (k := 60) (by omega) (log2_lt hi (by omega))
      rw [PySem.ofString_length]; omega
    show (Str.ofString (toString i)).length + 2 ≤ _
    simp only [cells]; omega
  | .str _, h => by simp [tiny] at h
  | .list xs, h => by
    have ih := shownA_le xs (by simpa [tiny] using h)
    have e := listText_le (PyData.shownAll xs)
    show (listText (PyData.shownAll xs)).length + 2 ≤ _
    simp only [cells]; omega
  | .tuple xs, h => by
    have ih := shownA_le xs (by simpa [tiny] using h)
    have e := tupleText_le (PyData.shownAll xs)
    show (tupleText (PyData.shownAll xs)).length + 2 ≤ _
    simp only [cells]; omega
  | .dict _, h => by simp [tiny] at h
theorem shownA_le : ∀ ds : List PyData, tinyA ds = true → piled (PyData.shownAll ds) ≤ 80 * cellsA ds
  | [], _ => by simp [PyData.shownAll, piled]
  | d :: ds, h => by
    simp only [tinyA, Bool.and_eq_true] at h
    have a := shown_le d h.1
    have b := shownA_le ds h.2
    simp only [PyData.shownAll, piled_cons, cellsA]
    omega
end
mutual
theorem lay_tiny : ∀ d : PyData, tiny d = true → d.canLay0 = true ∧ d.showable = true ∧ d.hasDict = false
  | .none, _ => ⟨rfl, rfl, rfl⟩
  | .bool _, _ => ⟨rfl, rfl, rfl⟩
  | .int i, h => by
    have hi : i.natAbs < 2 ^ 60 := by simpa [tiny] using h
    have := log2_lt hi (by omega)
    exact ⟨rfl, by simp [PyData.showable]; omega, rfl⟩
  | .str _, h => by simp [tiny] at h
  | .list xs, h => by
    obtain ⟨a, b, c⟩ := layA_tiny xs (by simpa [tiny] using h)
    exact ⟨by simpa [PyData.canLay0] using a, by simpa [PyData.showable] using b, by simpa [PyData.hasDict] using c⟩
  | .tuple xs, h => by
    obtain ⟨a, b, c⟩ := layA_tiny xs (by simpa [tiny] using h)
    exact ⟨by simpa [PyData.canLay0] using a, by simpa [PyData.showable] using b, by simpa [PyData.hasDict] using c⟩
  | .dict _, h => by simp [tiny] at h
theorem layA_tiny : ∀ ds : List PyData, tinyA ds = true → PyData.canLayAll0 ds = true ∧ PyData.showableAll ds = true ∧ PyData.hasDictAll ds = false
  | [], _ => ⟨rfl, rfl, rfl⟩
  | d :: ds, h => by
    simp only [tinyA, Bool.and_eq_true] at h
    obtain ⟨a, b, c⟩ := lay_tiny d h.1
    obtain ⟨a', b', c'⟩ := layA_tiny ds h.2
    exact ⟨by simp [PyData.canLayAll0, a, a'], by simp [PyData.showableAll, b, b'], by simp [PyData.hasDictAll, c, c']⟩
end
theorem reprD_ok {d : PyData} (h : tiny d = true) (hd : d.depth ≤ 40) (hc : cells d ≤ 200000) : reprD d = .ok (.str d.shown) := by
  obtain ⟨a, b, c⟩ := lay_tiny d h
  have := shown_le d h
  exact if_pos ⟨a, b, c, hd, by rw [line16]; omega⟩
theorem eqD_ok {x y : PyData} (h : tiny x = true) (h' : tiny y = true) (hd : x.depth ≤ 64) (hd' : y.depth ≤ 64) : eqD x y = .ok (.bool (PyData.eqv x y)) := by
  refine if_pos ⟨?_, ?_⟩ <;> simp [SeqAt.shaped, (lay_tiny _ h).1, (lay_tiny _ h').1, hd, hd']
theorem neD_ok {x y : PyData} (h : tiny x = true) (h' : tiny y = true) (hd : x.depth ≤ 64) (hd' : y.depth ≤ 64) : neD x y = .ok (.bool (!PyData.eqv x y)) := by
  refine if_pos ⟨?_, ?_⟩ <;> simp [SeqAt.shaped, (lay_tiny _ h).1, (lay_tiny _ h').1, hd, hd']
def B__law_draws (p_script : PyData) : R (Fl Empty Empty) := ((R.ok (PyData.list [])).bind fun v_draws_1 => (((aC ((aC (R.ok (PyData.int 63)) (aC ((R.ok p_script).bind lenD) aN)).bind (fn2 minI)) aN).bind rng1).bind fun ds => (forR (L := PyData) (fun d s2 => ((fun d => R.ok d) d).bind fun x3 => ((((R.ok p_script).bind fun x => (R.ok x3).bind fun y => ixD x y).bind absI).bind fun v_rest_5 => ((((R.ok v_rest_5).bind fun x => ((R.ok (PyData.int 10)).bind fun x => (R.ok (PyData.int 18)).bind fun y => powI x y).bind fun y => geI x y).bind asB).bind fun b => (if b = true then ((((aC (R.ok (PyData.int 60)) aN).bind rng1).bind fun ds => (forR (L := PyData × PyData) (fun d s7 => ((fun d => R.ok d) d).bind fun x8 => ((((R.ok s7.2).bind fun x => (R.ok (PyData.int 0)).bind fun y => gtI x y).bind asB).bind fun b => (if b = true then (((((R.ok s7.2).bind intI).bind fun x => (R.ok (PyData.int 65536)).bind fun y => modI x y).bind fun d => (appD s7.1 d).bind fun v_draws_11 => (((R.ok s7.2).bind fun x => (R.ok (PyData.int 65536)).bind fun y => divI x y).bind fun v_rest_12 => (R.ok (Fl.nx (v_draws_11, v_rest_12))))) : R (Fl (PyData × PyData) (PyData × PyData))) else (R.ok (Fl.nx (s7.1, s7.2)))).bind fun f => f.seq fun j10 => (R.ok (Fl.nx (j10.1, j10.2))))) ds (s2, v_rest_5)).bind fun fl => fl.done fun s9 => (R.ok (Fl.nx (s9.1, s9.2)))) : R (Fl (PyData × PyData) (PyData))) else ((((((R.ok v_rest_5).bind fun x => (R.ok (PyData.int 48271)).bind fun y => mulI x y).bind fun x => (((R.ok x3).bind fun x => (R.ok (PyData.int 1)).bind fun y => addI x y).bind fun x => (R.ok (PyData.int 69621)).bind fun y => mulI x y).bind fun y => addI x y).bind intI).bind fun x => (R.ok (PyData.int 2147483647)).bind fun y => modI x y).bind fun v_mixed_13 => (((((((R.ok v_mixed_13).bind fun x => (R.ok (PyData.int 16807)).bind fun y => mulI x y).bind fun x => ((R.ok (PyData.int 11)).bind fun x => (R.ok x3).bind fun y => mulI x y).bind fun y => addI x y).bind fun x => (R.ok (PyData.int 5)).bind fun y => addI x y).bind intI).bind fun x => (R.ok (PyData.int 2147483629)).bind fun y => modI x y).bind fun v_mixed_14 => ((((R.ok v_mixed_14).bind intI).bind fun x => (R.ok (PyData.int 65536)).bind fun y => modI x y).bind fun d => (appD s2 d).bind fun v_draws_15 => (((((R.ok v_mixed_14).bind fun x => (R.ok (PyData.int 65536)).bind fun y => divI x y).bind intI).bind fun x => (R.ok (PyData.int 32768)).bind fun y => modI x y).bind fun d => (appD v_draws_15 d).bind fun v_draws_16 => (R.ok (Fl.nx (v_draws_16, v_rest_5)))))))).bind fun f => f.seq fun j6 => (R.ok (Fl.nx j6.1))))) ds v_draws_1).bind fun fl => fl.done fun s4 => (R.ok (Fl.rt s4))))
def F__law_draws (p_script : PyData) : R PyData := (B__law_draws p_script).bind outE
def B__law_mix (p_draws p_k p_many : PyData) : R (Fl Empty Empty) := ((R.ok (PyData.int 0)).bind fun v_value_1 => (((((R.ok p_draws).bind lenD).bind fun x => (R.ok (PyData.int 0)).bind fun y => gtI x y).bind asB).bind fun b => (if b = true then ((((R.ok p_draws).bind fun x => (((R.ok p_k).bind intI).bind fun x => ((R.ok p_draws).bind lenD).bind fun y => modI x y).bind fun y => ixD x y).bind fun v_value_3 => (R.ok (Fl.nx v_value_3))) : R (Fl (PyData) (Empty))) else (R.ok (Fl.nx v_value_1))).bind fun f => f.seq fun j2 => ((((R.ok p_k).bind fun x => ((R.ok p_draws).bind lenD).bind fun y => ltI x y).bind asB).bind fun b => if b = true then (((((R.ok j2).bind intI).bind fun x => (R.ok p_many).bind fun y => modI x y).bind fun d => R.ok (Fl.rt d)) : R (Fl Empty (Empty))).bind fun f => f.seq fun z => z.elim else ((((((((R.ok j2).bind fun x => (R.ok (PyData.int 7919)).bind fun y => mulI x y).bind fun x => ((R.ok p_k).bind fun x => (R.ok (PyData.int 104729)).bind fun y => mulI x y).bind fun y => addI x y).bind intI).bind fun x => (R.ok (PyData.int 3)).bind fun y => divI x y).bind intI).bind fun x => (R.ok p_many).bind fun y => modI x y).bind fun d => R.ok (Fl.rt d)))))
def F__law_mix (p_draws p_k p_many : PyData) : R PyData := (B__law_mix p_draws p_k p_many).bind outE
def B__law_course (p_draws p_k p_many p_span : PyData) : R (Fl Empty Empty) := ((R.ok (PyData.list [])).bind fun v_stops_1 => ((R.ok (PyData.list [])).bind fun v_legs_2 => (((aC (R.ok p_draws) (aC (R.ok p_k) (aC (R.ok p_span) aN))).bind (fn3 F__law_mix)).bind fun v_hour_3 => ((R.ok v_hour_3).bind fun v_late_4 => (((aC (R.ok p_many) aN).bind rng1).bind fun ds => (forR (L := PyData × PyData × PyData × PyData) (fun d s5 => ((fun d => R.ok d) d).bind fun x6 => ((((R.ok p_k).bind fun x => (R.ok (PyData.int 1)).bind fun y => addI x y).bind fun x => ((R.ok (PyData.int 8)).bind fun x => (R.ok x6).bind fun y => mulI x y).bind fun y => addI x y).bind fun v_at_8 => (((aC (R.ok p_draws) (aC (R.ok v_at_8) (aC (R.ok p_span) aN))).bind (fn3 F__law_mix)).bind fun v_before_9 => (((aC (R.ok p_draws) (aC ((R.ok v_at_8).bind fun x => (R.ok (PyData.int 1)).bind fun y => addI x y) (aC (R.ok p_span) aN))).bind (fn3 F__law_mix)).bind fun v_behind_10 => (((aC (R.ok (PyData.int 0)) (aC (((R.ok s5.2.2.1).bind fun x => ((aC (R.ok p_draws) (aC ((R.ok v_at_8).bind fun x => (R.ok (PyData.int 2)).bind fun y => addI x y) (aC (R.ok p_span) aN))).bind (fn3 F__law_mix)).bind fun y => addI x y).bind fun x => ((aC (R.ok p_draws) (aC ((R.ok v_at_8).bind fun x => (R.ok (PyData.int 3)).bind fun y => addI x y) (aC (R.ok p_span) aN))).bind (fn3 F__law_mix)).bind fun y => subI x y) aN)).bind (fn2 maxI)).bind fun v_goes_11 => (((aC (R.ok p_draws) (aC ((R.ok v_at_8).bind fun x => (R.ok (PyData.int 4)).bind fun y => addI x y) (aC (((aC (R.ok p_span) (aC ((R.ok (PyData.int 3)).bind fun x => (R.ok p_span).bind fun y => mulI x y) (aC (R.ok (PyData.int 2)) aN))).bind mkL).bind fun x => ((aC (R.ok p_draws) (aC ((R.ok v_at_8).bind fun x => (R.ok (PyData.int 5)).bind fun y => addI x y) (aC (R.ok (PyData.int 3)) aN))).bind (fn3 F__law_mix)).bind fun y => ixD x y) aN))).bind (fn3 F__law_mix)).bind fun v_stands_12 => (((aC ((aC (R.ok (PyData.int 0)) (aC ((R.ok s5.2.2.1).bind fun x => (R.ok v_before_9).bind fun y => subI x y) aN)).bind (fn2 maxI)) (aC ((R.ok s5.2.2.2).bind fun x => (R.ok v_behind_10).bind fun y => addI x y) (aC (R.ok v_goes_11) (aC (R.ok v_stands_12) aN)))).bind mkT).bind fun d => (appD s5.1 d).bind fun v_stops_13 => (((R.ok (PyData.int 1)).bind fun x => ((aC (R.ok p_draws) (aC ((R.ok v_at_8).bind fun x => (R.ok (PyData.int 6)).bind fun y => addI x y) (aC (R.ok p_span) aN))).bind (fn3 F__law_mix)).bind fun y => addI x y).bind fun v_least_14 => (((R.ok v_least_14).bind fun x => ((aC (R.ok p_draws) (aC ((R.ok v_at_8).bind fun x => (R.ok (PyData.int 7)).bind fun y => addI x y) (aC (((aC (R.ok (PyData.int 1)) (aC (R.ok (PyData.int 3)) (aC (R.ok p_span) aN))).bind mkL).bind fun x => ((aC (R.ok p_draws) (aC ((R.ok v_at_8).bind fun x => (R.ok (PyData.int 5)).bind fun y => addI x y) (aC (R.ok (PyData.int 3)) aN))).bind (fn3 F__law_mix)).bind fun y => ixD x y) aN))).bind (fn3 F__law_mix)).bind fun y => addI x y).bind fun v_greatest_15 => (((aC (R.ok v_least_14) (aC (R.ok v_greatest_15) aN)).bind mkT).bind fun d => (appD s5.2.1 d).bind fun v_legs_16 => ((((aC (R.ok s5.2.2.1) (aC ((aC (R.ok v_goes_11) (aC ((R.ok s5.2.2.1).bind fun x => (R.ok v_stands_12).bind fun y => addI x y) aN)).bind (fn2 minI)) aN)).bind (fn2 maxI)).bind fun x => (R.ok v_least_14).bind fun y => addI x y).bind fun v_hour_17 => ((((aC (R.ok s5.2.2.2) (aC (R.ok v_goes_11) aN)).bind (fn2 maxI)).bind fun x => (R.ok v_greatest_15).bind fun y => addI x y).bind fun v_late_18 => (R.ok (Fl.nx (v_stops_13, v_legs_16, v_hour_17, v_late_18))))))))))))))) ds (v_stops_1, v_legs_2, v_hour_3, v_late_4)).bind fun fl => fl.done fun s7 => (((aC (R.ok s7.1) (aC ((R.ok s7.2.1).bind fun x => (R.ok none).bind fun lo => (((R.ok (PyData.int 1)).bind negI).bind asI).bind fun hi => cutLD x lo hi) aN)).bind mkT).bind fun d => R.ok (Fl.rt d)))))))
def F__law_course (p_draws p_k p_many p_span : PyData) : R PyData := (B__law_course p_draws p_k p_many p_span).bind outE
def B__law_wins (p_course : PyData) : R (Fl Empty Empty) := ((R.ok p_course).bind fun d => ((unT 2 (tsC (fun d => R.ok d) (tsC (fun d => R.ok d) tsN))) d).bind fun x1 => (((aC ((((aC (((R.ok x1.1).bind fun x => ((R.ok (PyData.int 1)).bind negI).bind fun y => ixD x y).bind fun x => (R.ok (PyData.int 0)).bind fun y => ixD x y) (aC ((((R.ok x1.1).bind fun x => ((R.ok (PyData.int 1)).bind negI).bind fun y => ixD x y).bind fun x => (R.ok (PyData.int 1)).bind fun y => ixD x y).bind fun x => (R.ok (PyData.int 1)).bind fun y => addI x y) aN)).bind rng2).bind fun ds => (compR (fun d => R.ok d) (fun x4 => (R.ok true)) (fun x4 => ((aC (R.ok x4) (aC (R.ok PyData.none) aN)).bind mkT)) ds).bind mkL).bind dictP) aN).bind mkL).bind fun v_found_2 => (((aC (((R.ok x1.2.1).bind lenD).bind fun x => (R.ok (PyData.int 1)).bind fun y => subI x y) (aC ((R.ok (PyData.int 1)).bind negI) (aC ((R.ok (PyData.int 1)).bind negI) aN))).bind rng3d).bind fun ds => (forR (L := PyData) (fun d s5 => ((fun d => R.ok d) d).bind fun x6 => (((R.ok x1.1).bind fun x => (R.ok x6).bind fun y => ixD x y).bind fun d => ((unT 4 (tsC (fun d => R.ok d) (tsC (fun d => R.ok d) (tsC (fun d => R.ok d) (tsC (fun d => R.ok d) tsN))))) d).bind fun x8 => ((R.ok (PyData.dict [])).bind fun v_won_9 => (((aC (R.ok x8.1) (aC ((R.ok x8.2.1).bind fun x => (R.ok (PyData.int 1)).bind fun y => addI x y) aN)).bind rng2).bind fun ds => (forR (L := PyData) (fun d s10 => ((fun d => R.ok d) d).bind fun x11 => (((aC ((aC (R.ok x11) (aC (R.ok x8.2.2.1) aN)).bind (fn2 maxI)) (aC (((R.ok x11).bind fun x => (R.ok x8.2.2.2.1).bind fun y => addI x y).bind fun x => (R.ok (PyData.int 1)).bind fun y => addI x y) aN)).bind rng2).bind fun ds => (forR (L := PyData) (fun d s13 => ((fun d => R.ok d) d).bind fun x14 => ((((aC (((R.ok x1.2.1).bind fun x => (R.ok x6).bind fun y => ixD x y).bind fun x => (R.ok (PyData.int 0)).bind fun y => ixD x y) (aC ((((R.ok x1.2.1).bind fun x => (R.ok x6).bind fun y => ixD x y).bind fun x => (R.ok (PyData.int 1)).bind fun y => ixD x y).bind fun x => (R.ok (PyData.int 1)).bind fun y => addI x y) aN)).bind rng2).bind fun ds => (compR (fun d => R.ok d) (fun x17 => ((((R.ok x14).bind fun x => (R.ok x17).bind fun y => addI x y).bind fun x => ((R.ok s5).bind fun x => (R.ok (PyData.int 0)).bind fun y => ixD x y).bind fun y => notK x y).bind asB)) (fun x17 => (R.ok x17)) ds).bind mkL).bind fun v_lost_16 => ((((R.ok v_lost_16).bind fun x => (R.ok (PyData.list [])).bind fun y => eqD x y).bind asB).bind fun b => if b = true then (((R.ok x14).bind fun d => (R.ok x11).bind fun kd => (putD s13 kd d).bind fun v_won_18 => (R.ok (Fl.bk v_won_18))) : R (Fl Empty (PyData))).bind fun f => f.seq fun z => z.elim else (R.ok (Fl.nx s13))))) ds s10).bind fun fl => fl.done fun s15 => (R.ok (Fl.nx s15)))) ds v_won_9).bind fun fl => fl.done fun s12 => ((((aC (R.ok s12) aN).bind mkL).bind fun x => (R.ok s5).bind fun y => catL x y).bind fun v_found_20 => (R.ok (Fl.nx v_found_20))))))) ds v_found_2).bind fun fl => fl.done fun s7 => (R.ok (Fl.rt s7)))))
def F__law_wins (p_course : PyData) : R PyData := (B__law_wins p_course).bind outE
def B_check_course (p_course : PyData) : R (Fl Unit Empty) := ((R.ok p_course).bind fun d => ((unT 2 (tsC (fun d => R.ok d) (tsC (fun d => R.ok d) tsN))) d).bind fun x1 => ((((((R.ok (PyData.int 2)).bind fun x => ((R.ok x1.1).bind lenD).bind fun y => (leI x y).bind fun z => (asB z).bind fun k => if k = true then (R.ok (PyData.int 40)).bind fun w => leI y w else R.ok (PyData.bool false)).bind asB).bind fun b => R.ok (!b)).bind fun c => if c = true then R.ok true else ((((R.ok x1.2.1).bind lenD).bind fun x => (((R.ok x1.1).bind lenD).bind fun x => (R.ok (PyData.int 1)).bind fun y => subI x y).bind fun y => neS x y).bind asB)).bind fun b => if b = true then (R.stuck : R (Fl Empty (Empty))).bind fun f => f.seq fun z => z.elim else (((aC (R.ok x1.1) aN).bind enumR).bind fun ds => (forR (L := Unit) (fun d s2 => ((unT 2 (tsC (fun d => R.ok d) (tsC (fun d => R.ok d) tsN))) d).bind fun x3 => ((((((R.ok x3.2.1).bind min1).bind fun x => (R.ok (PyData.int 0)).bind fun y => ltI x y).bind asB).bind fun c => if c = true then R.ok true else (((((R.ok x3.2.1).bind max1).bind fun x => (R.ok (PyData.int 1000000000)).bind fun y => gtI x y).bind asB).bind fun c => if c = true then R.ok true else ((((R.ok x3.2.1).bind fun x => (R.ok (PyData.int 0)).bind fun y => ixD x y).bind fun x => ((R.ok x3.2.1).bind fun x => (R.ok (PyData.int 1)).bind fun y => ixD x y).bind fun y => gtI x y).bind asB))).bind fun b => if b = true then (R.stuck : R (Fl Empty (Unit))).bind fun f => f.seq fun z => z.elim else (R.ok (Fl.nx ())))) ds ()).bind fun fl => fl.done fun s4 => (((aC (R.ok x1.2.1) aN).bind enumR).bind fun ds => (forR (L := Unit) (fun d s5 => ((unT 2 (tsC (fun d => R.ok d) (tsC (unT 2 (tsC (fun d => R.ok d) (tsC (fun d => R.ok d) tsN))) tsN))) d).bind fun x6 => (((((R.ok (PyData.int 1)).bind fun x => (R.ok x6.2.1.1).bind fun y => andR (leI x y) ((R.ok x6.2.1.2.1).bind fun w => andR (leI y w) ((R.ok (PyData.int 1000000000)).bind fun w2 => leI w w2))).bind asB).bind fun b => R.ok (!b)).bind fun b => if b = true then (R.stuck : R (Fl Empty (Unit))).bind fun f => f.seq fun z => z.elim else (R.ok (Fl.nx ())))) ds ()).bind fun fl => fl.done fun s7 => (R.ok (Fl.nx ()))))))
def F_check_course (p_course : PyData) : R PyData := (B_check_course p_course).bind outU
def B_bounds_before (p_stop p_leg p_stretch : PyData) : R (Fl Empty Empty) := ((R.ok p_stop).bind fun d => ((unT 4 (tsC (fun d => R.ok d) (tsC (fun d => R.ok d) (tsC (fun d => R.ok d) (tsC (fun d => R.ok d) tsN))))) d).bind fun x1 => ((R.ok p_leg).bind fun d => ((unT 2 (tsC (fun d => R.ok d) (tsC (fun d => R.ok d) tsN))) d).bind fun x2 => ((R.ok p_stretch).bind fun d => ((unT 2 (tsC (fun d => R.ok d) (tsC (fun d => R.ok d) tsN))) d).bind fun x3 => (((aC (R.ok x1.1) (aC ((R.ok x1.2.2.1).bind fun x => (R.ok x1.2.2.2.1).bind fun y => subI x y) (aC (((R.ok x3.1).bind fun x => (R.ok x2.1).bind fun y => subI x y).bind fun x => (R.ok x1.2.2.2.1).bind fun y => subI x y) aN))).bind (fn3 max3I)).bind fun v_first_4 => (((aC (R.ok x1.2.1) (aC ((R.ok x3.2.1).bind fun x => (R.ok x2.2.1).bind fun y => subI x y) aN)).bind (fn2 minI)).bind fun v_last_5 => (((((R.ok x3.1).bind fun x => (R.ok x2.1).bind fun y => subI x y).bind fun x => ((R.ok x3.2.1).bind fun x => (R.ok x2.2.1).bind fun y => subI x y).bind fun y => leI x y).bind fun x => (asB x).bind fun c => if c = true then (((R.ok x1.2.2.1).bind fun x => ((R.ok x3.2.1).bind fun x => (R.ok x2.2.1).bind fun y => subI x y).bind fun y => leI x y).bind fun x => (asB x).bind fun c => if c = true then ((R.ok v_first_4).bind fun x => (R.ok v_last_5).bind fun y => leI x y) else R.ok (PyData.bool false)) else R.ok (PyData.bool false)).bind fun v_are_any_6 => (((aC (R.ok v_first_4) (aC (R.ok v_last_5) (aC (R.ok v_are_any_6) aN))).bind mkT).bind fun d => R.ok (Fl.rt d))))))))
def F_bounds_before (p_stop p_leg p_stretch : PyData) : R PyData := (B_bounds_before p_stop p_leg p_stretch).bind outE
def B_safe_comings (p_stops p_legs : PyData) : R (Fl Empty Empty) := (((aC (((R.ok p_stops).bind fun x => ((R.ok (PyData.int 1)).bind negI).bind fun y => ixD x y).bind fun x => (R.ok none).bind fun lo => ((R.ok (PyData.int 2)).bind asI).bind fun hi => cutTD x lo hi) aN).bind mkL).bind fun v_found_1 => (((aC ((R.ok p_stops).bind rev2D) (aC ((R.ok p_legs).bind revD) aN)).bind zipR).bind fun ds => (forR (L := PyData) (fun d s2 => ((unT 2 (tsC (fun d => R.ok d) (tsC (fun d => R.ok d) tsN))) d).bind fun x3 => ((R.ok PyData.none).bind fun v_stretch_5 => (((((R.ok s2).bind fun x => ((R.ok (PyData.int 1)).bind negI).bind fun y => ixD x y).bind fun x => (R.ok PyData.none).bind fun y => notNone x y).bind asB).bind fun b => (if b = true then ((((aC (R.ok x3.1) (aC (R.ok x3.2.1) (aC ((R.ok s2).bind fun x => ((R.ok (PyData.int 1)).bind negI).bind fun y => ixD x y) aN))).bind (fn3 F_bounds_before)).bind fun d => ((unT 3 (tsC (fun d => R.ok d) (tsC (fun d => R.ok d) (tsC (fun d => R.ok d) tsN)))) d).bind fun x7 => ((((R.ok x7.2.2.1).bind asB).bind fun c => if c = true then ((aC (R.ok x7.1) (aC (R.ok x7.2.1) aN)).bind mkT) else (R.ok PyData.none)).bind fun v_stretch_8 => (R.ok (Fl.nx v_stretch_8)))) : R (Fl (PyData) (PyData))) else (R.ok (Fl.nx v_stretch_5))).bind fun f => f.seq fun j6 => ((R.ok j6).bind fun d => (appD s2 d).bind fun v_found_9 => (R.ok (Fl.nx v_found_9)))))) ds v_found_1).bind fun fl => fl.done fun s4 => (((R.ok s4).bind revD).bind fun d => R.ok (Fl.rt d))))
def F_safe_comings (p_stops p_legs : PyData) : R PyData := (B_safe_comings p_stops p_legs).bind outE
def B_safe (p_course : PyData) : R (Fl Empty Empty) := (((aC (R.ok p_course) aN).bind (fn1 F_check_course)).bind fun _ => (((aC ((R.ok p_course).bind fun x => (R.ok (PyData.int 0)).bind fun y => ixD x y) (aC ((R.ok p_course).bind fun x => (R.ok (PyData.int 1)).bind fun y => ixD x y) aN)).bind (fn2 F_safe_comings)).bind fun d => R.ok (Fl.rt d)))
def F_safe (p_course : PyData) : R PyData := (B_safe p_course).bind outE
def B__law_stretch (p_won : PyData) : R (Fl Empty Empty) := (((R.ok p_won).bind srtD).bind fun v_hours_1 => ((((R.ok v_hours_1).bind fun x => (R.ok (PyData.list [])).bind fun y => eqD x y).bind asB).bind fun b => if b = true then (((R.ok PyData.none).bind fun d => R.ok (Fl.rt d)) : R (Fl Empty (Empty))).bind fun f => f.seq fun z => z.elim else (((((((R.ok v_hours_1).bind fun x => ((R.ok (PyData.int 1)).bind negI).bind fun y => ixD x y).bind fun x => ((R.ok v_hours_1).bind fun x => (R.ok (PyData.int 0)).bind fun y => ixD x y).bind fun y => subI x y).bind fun x => (R.ok (PyData.int 1)).bind fun y => addI x y).bind fun x => ((R.ok v_hours_1).bind lenD).bind fun y => neS x y).bind asB).bind fun b => if b = true then (((R.ok (PyData.bool false)).bind fun d => R.ok (Fl.rt d)) : R (Fl Empty (Empty))).bind fun f => f.seq fun z => z.elim else (((aC ((R.ok v_hours_1).bind fun x => (R.ok (PyData.int 0)).bind fun y => ixD x y) (aC ((R.ok v_hours_1).bind fun x => ((R.ok (PyData.int 1)).bind negI).bind fun y => ixD x y) aN)).bind mkT).bind fun d => R.ok (Fl.rt d)))))
def F__law_stretch (p_won : PyData) : R PyData := (B__law_stretch p_won).bind outE
def B_is_within (p_hour p_stretch : PyData) : R (Fl Empty Empty) := ((((R.ok p_stretch).bind fun x => (R.ok PyData.none).bind fun y => notNone x y).bind fun x => (asB x).bind fun c => if c = true then (((R.ok p_stretch).bind fun x => (R.ok (PyData.int 0)).bind fun y => ixD x y).bind fun x => (R.ok p_hour).bind fun y => (leI x y).bind fun z => (asB z).bind fun k => if k = true then ((R.ok p_stretch).bind fun x => (R.ok (PyData.int 1)).bind fun y => ixD x y).bind fun w => leI y w else R.ok (PyData.bool false)) else R.ok (PyData.bool false)).bind fun d => R.ok (Fl.rt d))
def F_is_within (p_hour p_stretch : PyData) : R PyData := (B_is_within p_hour p_stretch).bind outE
def B_has_rule (p_course p_start : PyData) : R (Fl Empty Empty) := (((aC (R.ok p_start) (aC (((aC (R.ok p_course) aN).bind (fn1 F_safe)).bind fun x => (R.ok (PyData.int 0)).bind fun y => ixD x y) aN)).bind (fn2 F_is_within)).bind fun d => R.ok (Fl.rt d))
def F_has_rule (p_course p_start : PyData) : R PyData := (B_has_rule p_course p_start).bind outE
def B_told_going (p_stop p_leg p_stretch p_coming : PyData) : R (Fl Empty Empty) := (((aC (R.ok p_coming) (aC ((R.ok p_stop).bind fun x => (R.ok (PyData.int 2)).bind fun y => ixD x y) (aC (((R.ok p_stretch).bind fun x => (R.ok (PyData.int 0)).bind fun y => ixD x y).bind fun x => ((R.ok p_leg).bind fun x => (R.ok (PyData.int 0)).bind fun y => ixD x y).bind fun y => subI x y) aN))).bind (fn3 max3I)).bind fun d => R.ok (Fl.rt d))
def F_told_going (p_stop p_leg p_stretch p_coming : PyData) : R PyData := (B_told_going p_stop p_leg p_stretch p_coming).bind outE
def B_going (p_course p_stop p_coming : PyData) : R (Fl Empty Empty) := (((aC (R.ok p_course) aN).bind (fn1 F_safe)).bind fun v_stretches_1 => (((((R.ok p_stop).bind fun x => (((R.ok v_stretches_1).bind lenD).bind fun x => (R.ok (PyData.int 1)).bind fun y => subI x y).bind fun y => eqS x y).bind asB).bind fun c => if c = true then R.ok true else ((((aC (R.ok p_coming) (aC ((R.ok v_stretches_1).bind fun x => (R.ok p_stop).bind fun y => ixD x y) aN)).bind (fn2 F_is_within)).bind asB).bind fun b => R.ok (!b))).bind fun b => if b = true then (((R.ok PyData.none).bind fun d => R.ok (Fl.rt d)) : R (Fl Empty (Empty))).bind fun f => f.seq fun z => z.elim else (((aC (((R.ok p_course).bind fun x => (R.ok (PyData.int 0)).bind fun y => ixD x y).bind fun x => (R.ok p_stop).bind fun y => ixD x y) (aC (((R.ok p_course).bind fun x => (R.ok (PyData.int 1)).bind fun y => ixD x y).bind fun x => (R.ok p_stop).bind fun y => ixD x y) (aC ((R.ok v_stretches_1).bind fun x => ((R.ok p_stop).bind fun x => (R.ok (PyData.int 1)).bind fun y => addI x y).bind fun y => ixD x y) (aC (R.ok p_coming) aN)))).bind (fn4 F_told_going)).bind fun d => R.ok (Fl.rt d))))
def F_going (p_course p_stop p_coming : PyData) : R PyData := (B_going p_course p_stop p_coming).bind outE
def B_spoilt (p_course p_stop p_hour : PyData) : R (Fl Empty Empty) := (((aC (R.ok p_course) aN).bind (fn1 F_safe)).bind fun v_stretches_1 => (((((R.ok p_course).bind fun x => (R.ok (PyData.int 1)).bind fun y => ixD x y).bind fun x => (R.ok p_stop).bind fun y => ixD x y).bind seqOf).bind fun ds => (forR (L := Unit) (fun d s2 => ((fun d => R.ok d) d).bind fun x3 => (((((aC ((R.ok p_hour).bind fun x => (R.ok x3).bind fun y => addI x y) (aC ((R.ok v_stretches_1).bind fun x => ((R.ok p_stop).bind fun x => (R.ok (PyData.int 1)).bind fun y => addI x y).bind fun y => ixD x y) aN)).bind (fn2 F_is_within)).bind asB).bind fun b => R.ok (!b)).bind fun b => if b = true then (((R.ok x3).bind fun d => R.ok (Fl.rt d)) : R (Fl Empty (Unit))).bind fun f => f.seq fun z => z.elim else (R.ok (Fl.nx ())))) ds ()).bind fun fl => fl.done fun s4 => ((R.ok PyData.none).bind fun d => R.ok (Fl.rt d))))
def F_spoilt (p_course p_stop p_hour : PyData) : R PyData := (B_spoilt p_course p_stop p_hour).bind outE
def B__law_course_right (p_draws p_k p_course : PyData) : R (Fl Empty Empty) := (((aC (R.ok p_course) aN).bind (fn1 F__law_wins)).bind fun v_wins_1 => ((((R.ok v_wins_1).bind seqOf).bind fun ds => (compR (fun d => R.ok d) (fun x3 => (R.ok true)) (fun x3 => ((aC (R.ok x3) aN).bind (fn1 F__law_stretch))) ds).bind mkL).bind fun v_due_2 => (((R.ok p_course).bind reprD).bind fun v_kept_4 => (((aC (R.ok p_course) aN).bind (fn1 F_safe)).bind fun v_told_5 => ((((((R.ok v_told_5).bind (isiD "list")).bind asB).bind fun b => R.ok (!b)).bind fun c => if c = true then R.ok true else (((((R.ok v_told_5).bind reprD).bind fun x => ((R.ok v_due_2).bind reprD).bind fun y => neS x y).bind asB).bind fun c => if c = true then R.ok true else ((((R.ok p_course).bind reprD).bind fun x => (R.ok v_kept_4).bind fun y => neS x y).bind asB))).bind fun b => if b = true then (((R.ok (PyData.bool false)).bind fun d => R.ok (Fl.rt d)) : R (Fl Empty (Empty))).bind fun f => f.seq fun z => z.elim else ((R.ok (PyData.int 1)).bind fun d => (appD v_told_5 d).bind fun v_told_6 => ((((((aC (R.ok p_course) aN).bind (fn1 F_safe)).bind reprD).bind fun x => ((R.ok v_due_2).bind reprD).bind fun y => neS x y).bind asB).bind fun b => if b = true then (((R.ok (PyData.bool false)).bind fun d => R.ok (Fl.rt d)) : R (Fl Empty (Empty))).bind fun f => f.seq fun z => z.elim else ((R.ok p_course).bind fun d => ((unT 2 (tsC (fun d => R.ok d) (tsC (fun d => R.ok d) tsN))) d).bind fun x7 => (((aC (R.ok (PyData.int 6)) aN).bind rng1).bind fun ds => (forR (L := Unit) (fun d s8 => ((fun d => R.ok d) d).bind fun x9 => ((((aC (R.ok (PyData.int 0)) (aC ((((R.ok x7.1).bind fun x => (R.ok (PyData.int 0)).bind fun y => ixD x y).bind fun x => (R.ok (PyData.int 0)).bind fun y => ixD x y).bind fun x => (R.ok (PyData.int 2)).bind fun y => subI x y) aN)).bind (fn2 maxI)).bind fun x => ((aC (R.ok p_draws) (aC ((R.ok p_k).bind fun x => (R.ok x9).bind fun y => addI x y) (aC (((((R.ok x7.1).bind fun x => (R.ok (PyData.int 0)).bind fun y => ixD x y).bind fun x => (R.ok (PyData.int 1)).bind fun y => ixD x y).bind fun x => (((R.ok x7.1).bind fun x => (R.ok (PyData.int 0)).bind fun y => ixD x y).bind fun x => (R.ok (PyData.int 0)).bind fun y => ixD x y).bind fun y => subI x y).bind fun x => (R.ok (PyData.int 5)).bind fun y => addI x y) aN))).bind (fn3 F__law_mix)).bind fun y => addI x y).bind fun v_start_11 => (((aC (R.ok p_course) (aC (R.ok v_start_11) aN)).bind (fn2 F_has_rule)).bind fun v_answer_12 => ((((((R.ok v_answer_12).bind (isiD "bool")).bind asB).bind fun b => R.ok (!b)).bind fun c => if c = true then R.ok true else (((R.ok v_answer_12).bind fun x => ((R.ok v_start_11).bind fun x => ((R.ok v_wins_1).bind fun x => (R.ok (PyData.int 0)).bind fun y => ixD x y).bind fun y => inK x y).bind fun y => neS x y).bind asB)).bind fun b => if b = true then (((R.ok (PyData.bool false)).bind fun d => R.ok (Fl.rt d)) : R (Fl Empty (Unit))).bind fun f => f.seq fun z => z.elim else (((aC (R.ok p_draws) (aC (((R.ok p_k).bind fun x => (R.ok (PyData.int 20)).bind fun y => addI x y).bind fun x => (R.ok x9).bind fun y => addI x y) (aC ((R.ok x7.1).bind lenD) aN))).bind (fn3 F__law_mix)).bind fun v_stop_13 => ((((aC (R.ok (PyData.int 0)) (aC ((((R.ok x7.1).bind fun x => (R.ok v_stop_13).bind fun y => ixD x y).bind fun x => (R.ok (PyData.int 0)).bind fun y => ixD x y).bind fun x => (R.ok (PyData.int 2)).bind fun y => subI x y) aN)).bind (fn2 maxI)).bind fun x => ((aC (R.ok p_draws) (aC (((R.ok p_k).bind fun x => (R.ok (PyData.int 30)).bind fun y => addI x y).bind fun x => (R.ok x9).bind fun y => addI x y) (aC (((((R.ok x7.1).bind fun x => (R.ok v_stop_13).bind fun y => ixD x y).bind fun x => (R.ok (PyData.int 1)).bind fun y => ixD x y).bind fun x => (((R.ok x7.1).bind fun x => (R.ok v_stop_13).bind fun y => ixD x y).bind fun x => (R.ok (PyData.int 0)).bind fun y => ixD x y).bind fun y => subI x y).bind fun x => (R.ok (PyData.int 5)).bind fun y => addI x y) aN))).bind (fn3 F__law_mix)).bind fun y => addI x y).bind fun v_coming_14 => ((((((aC (R.ok p_course) (aC (R.ok v_stop_13) (aC (R.ok v_coming_14) aN))).bind (fn3 F_going)).bind reprD).bind fun x => ((((R.ok v_wins_1).bind fun x => (R.ok v_stop_13).bind fun y => ixD x y).bind fun x => (dctOf x).bind fun kvs => (R.ok v_coming_14).bind fun y => getK kvs y).bind reprD).bind fun y => neS x y).bind asB).bind fun b => if b = true then (((R.ok (PyData.bool false)).bind fun d => R.ok (Fl.rt d)) : R (Fl Empty (Unit))).bind fun f => f.seq fun z => z.elim else ((((R.ok v_stop_13).bind fun x => ((R.ok x7.2.1).bind lenD).bind fun y => ltI x y).bind asB).bind fun b => (if b = true then ((((R.ok v_coming_14).bind fun x => ((aC (R.ok p_draws) (aC (((R.ok p_k).bind fun x => (R.ok (PyData.int 40)).bind fun y => addI x y).bind fun x => (R.ok x9).bind fun y => addI x y) (aC (R.ok (PyData.int 9)) aN))).bind (fn3 F__law_mix)).bind fun y => addI x y).bind fun v_hour_16 => (((((R.ok x7.2.1).bind fun x => (R.ok v_stop_13).bind fun y => ixD x y).bind seqOf).bind fun ds => (compR (fun d => R.ok d) (fun x18 => ((((R.ok v_hour_16).bind fun x => (R.ok x18).bind fun y => addI x y).bind fun x => ((R.ok v_wins_1).bind fun x => ((R.ok v_stop_13).bind fun x => (R.ok (PyData.int 1)).bind fun y => addI x y).bind fun y => ixD x y).bind fun y => notK x y).bind asB)) (fun x18 => (R.ok x18)) ds).bind mkL).bind fun v_out_17 => ((((((aC (R.ok p_course) (aC (R.ok v_stop_13) (aC (R.ok v_hour_16) aN))).bind (fn3 F_spoilt)).bind reprD).bind fun x => ((((R.ok v_out_17).bind fun x => ((aC (R.ok PyData.none) aN).bind mkL).bind fun y => catL x y).bind fun x => (R.ok (PyData.int 0)).bind fun y => ixD x y).bind reprD).bind fun y => neS x y).bind asB).bind fun b => if b = true then (((R.ok (PyData.bool false)).bind fun d => R.ok (Fl.rt d)) : R (Fl Empty (Unit))).bind fun f => f.seq fun z => z.elim else (((((R.ok v_out_17).bind fun x => (R.ok (PyData.list [])).bind fun y => eqD x y).bind asB).bind fun c => if c = true then (((((aC (((R.ok x7.2.1).bind fun x => (R.ok v_stop_13).bind fun y => ixD x y).bind fun x => (R.ok (PyData.int 0)).bind fun y => ixD x y) (aC (((R.ok x7.2.1).bind fun x => (R.ok v_stop_13).bind fun y => ixD x y).bind fun x => (R.ok (PyData.int 1)).bind fun y => ixD x y) aN)).bind rng2).bind fun ds => (compR (fun d => R.ok d) (fun x19 => ((((R.ok v_hour_16).bind fun x => (R.ok x19).bind fun y => addI x y).bind fun x => ((R.ok v_wins_1).bind fun x => ((R.ok v_stop_13).bind fun x => (R.ok (PyData.int 1)).bind fun y => addI x y).bind fun y => ixD x y).bind fun y => notK x y).bind asB)) (fun x19 => (R.ok x19)) ds).bind mkL).bind fun x => (R.ok (PyData.list [])).bind fun y => neD x y).bind asB) else R.ok false).bind fun b => if b = true then (((R.ok (PyData.bool false)).bind fun d => R.ok (Fl.rt d)) : R (Fl Empty (Unit))).bind fun f => f.seq fun z => z.elim else (R.ok (Fl.nx ())))))) : R (Fl (Unit) (Unit))) else (R.ok (Fl.nx ()))).bind fun f => f.seq fun j15 => (R.ok (Fl.nx ())))))))))) ds ()).bind fun fl => fl.done fun s10 => ((((R.ok p_course).bind reprD).bind fun x => (R.ok v_kept_4).bind fun y => eqS x y).bind fun d => R.ok (Fl.rt d)))))))))))
def F__law_course_right (p_draws p_k p_course : PyData) : R PyData := (B__law_course_right p_draws p_k p_course).bind outE
def B_law (p_script : PyData) : R (Fl Empty Empty) := (((aC (R.ok p_script) aN).bind (fn1 F__law_draws)).bind fun v_draws_1 => (((aC (R.ok (PyData.int 4)) aN).bind rng1).bind fun ds => (forR (L := Unit) (fun d s2 => ((fun d => R.ok d) d).bind fun x3 => (((aC (R.ok v_draws_1) (aC ((R.ok (PyData.int 10)).bind fun x => ((R.ok (PyData.int 60)).bind fun x => (R.ok x3).bind fun y => mulI x y).bind fun y => addI x y) (aC ((R.ok (PyData.int 2)).bind fun x => ((aC (R.ok v_draws_1) (aC (R.ok x3) (aC (R.ok (PyData.int 3)) aN))).bind (fn3 F__law_mix)).bind fun y => addI x y) (aC (((aC (R.ok (PyData.int 3)) (aC (R.ok (PyData.int 5)) (aC (R.ok (PyData.int 8)) aN))).bind mkL).bind fun x => ((aC (R.ok v_draws_1) (aC ((R.ok (PyData.int 4)).bind fun x => (R.ok x3).bind fun y => addI x y) (aC (R.ok (PyData.int 3)) aN))).bind (fn3 F__law_mix)).bind fun y => ixD x y) aN)))).bind (fn4 F__law_course)).bind fun v_course_5 => (((((aC (R.ok v_draws_1) (aC ((R.ok (PyData.int 300)).bind fun x => ((R.ok (PyData.int 60)).bind fun x => (R.ok x3).bind fun y => mulI x y).bind fun y => addI x y) (aC (R.ok v_course_5) aN))).bind (fn3 F__law_course_right)).bind asB).bind fun b => R.ok (!b)).bind fun b => if b = true then (((R.ok (PyData.bool false)).bind fun d => R.ok (Fl.rt d)) : R (Fl Empty (Unit))).bind fun f => f.seq fun z => z.elim else (R.ok (Fl.nx ()))))) ds ()).bind fun fl => fl.done fun s4 => (((aC ((aC ((aC (R.ok (PyData.int 0)) (aC (R.ok (PyData.int 0)) (aC (R.ok (PyData.int 0)) (aC (R.ok (PyData.int 9)) aN)))).bind mkT) (aC ((aC (R.ok (PyData.int 0)) (aC (R.ok (PyData.int 20)) (aC (R.ok (PyData.int 0)) (aC (R.ok (PyData.int 2)) aN)))).bind mkT) (aC ((aC (R.ok (PyData.int 0)) (aC (R.ok (PyData.int 99)) (aC (R.ok (PyData.int 0)) (aC (R.ok (PyData.int 0)) aN)))).bind mkT) aN))).bind mkL) (aC ((aC ((aC (R.ok (PyData.int 1)) (aC (R.ok (PyData.int 5)) aN)).bind mkT) (aC ((aC (R.ok (PyData.int 1)) (aC (R.ok (PyData.int 1)) aN)).bind mkT) aN)).bind mkL) aN)).bind mkT).bind fun v_plain_6 => (((aC ((aC ((aC (R.ok (PyData.int 0)) (aC (R.ok (PyData.int 0)) (aC (R.ok (PyData.int 0)) (aC (R.ok (PyData.int 20)) aN)))).bind mkT) (aC ((aC (R.ok (PyData.int 10)) (aC (R.ok (PyData.int 12)) (aC (R.ok (PyData.int 0)) (aC (R.ok (PyData.int 0)) aN)))).bind mkT) aN)).bind mkL) (aC ((aC ((aC (R.ok (PyData.int 1)) (aC (R.ok (PyData.int 5)) aN)).bind mkT) aN).bind mkL) aN)).bind mkT).bind fun v_never_7 => (((((aC (R.ok v_plain_6) (aC (R.ok (PyData.int 0)) aN)).bind (fn2 F_has_rule)).bind fun x => (R.ok (PyData.bool true)).bind fun y => isB x y).bind fun x => (asB x).bind fun c => if c = true then ((((aC (R.ok v_plain_6) (aC (R.ok (PyData.int 0)) (aC (R.ok (PyData.int 0)) aN))).bind (fn3 F_going)).bind fun x => (R.ok (PyData.int 0)).bind fun y => eqS x y).bind fun x => (asB x).bind fun c => if c = true then ((((aC (R.ok v_never_7) (aC (R.ok (PyData.int 0)) aN)).bind (fn2 F_has_rule)).bind fun x => (R.ok (PyData.bool false)).bind fun y => isB x y).bind fun x => (asB x).bind fun c => if c = true then (((aC (R.ok v_never_7) aN).bind (fn1 F_safe)).bind fun x => ((aC (R.ok PyData.none) (aC ((aC (R.ok (PyData.int 10)) (aC (R.ok (PyData.int 12)) aN)).bind mkT) aN)).bind mkL).bind fun y => eqD x y) else R.ok (PyData.bool false)) else R.ok (PyData.bool false)) else R.ok (PyData.bool false)).bind fun d => R.ok (Fl.rt d))))))
def F_law (p_script : PyData) : R PyData := (B_law p_script).bind outE

def bnd (x : Int) : Prop := 0 ≤ x ∧ x < 65536
def draw1 (rest : Int) : Nat → List Int → List Int × Int
  | 0, ds => (ds, rest)
  | n + 1, ds => if 0 < rest then draw1 (rest / 65536) n (ds ++ [rest % 65536]) else draw1 rest n ds
def isDraws (D : PyData) : Prop := ∃ ds : List Int, D = .list (ds.map .int) ∧ ∀ x ∈ ds, bnd x
theorem bnd_app {ds : List Int} {x : Int} (h : ∀ y ∈ ds, bnd y) (hx : bnd x) : ∀ y ∈ ds ++ [x], bnd y := fun y hy => by
  rcases List.mem_append.mp hy with z | z
  · exact h y z
  · simp at z; subst z; exact hx
theorem appI_ok {ds : List Int} {x : Int} (h : ds.length < 16000000) : appD (.list (ds.map .int)) (.int x) = .ok (.list ((ds ++ [x]).map .int)) := by
  rw [appD_ok (by rw [List.length_map]; exact h)]
  simp
theorem draws_ok (ns : List Int) (hl : ns.length ≤ 63) : (F__law_draws (.list (ns.map .int))).to isDraws := by
  unfold F__law_draws B__law_draws
  try simp only [R.ok_bind, lenD_l, aC_okr, aN_ok, minI_ii, fn2_ok, List.length_map]
  rw [Int.min_eq_right (by omega), rng1_ok (by omega)]
  try simp only [R.ok_bind]
  refine to_bind (to_bind (to_for (fun n s => ∃ ds : List Int, s = .list (ds.map .int) ∧ (∀ x ∈ ds, bnd x) ∧ ds.length ≤ 100 * n) ⟨[], rfl, by simp, by simp⟩ (fun i d s hd ⟨ds, es, hb, hz⟩ => ?_) fun s ⟨ds, es, hb, _⟩ => to_ok (to_ok ⟨ds, es, hb⟩)))
  obtain ⟨hi, rfl⟩ := rangeL_get hd
  subst es
  have hi' : i < ns.length := by omega
  have hx : (ns.map PyData.int)[i]? = some (.int ns[i]) := by simp [hi']
  rw [ixL (ds := ns.map .int) (i := 0 + (i : Int)) i (by omega) hx]
  try simp only [R.ok_bind, absI_i]
  rw [powI_ok (by decide)]
  try simp only [R.ok_bind, geI_ii, asB_b]
  generalize hr : (if ns[i] < 0 then -ns[i] else ns[i]) = rest
  have r0 : 0 ≤ rest := by rw [← hr]; split <;> omega
  by_cases c : ((10 : Int) ^ (18 : Int).toNat ≤ rest)
  · rw [if_pos (by simpa using c)]
    try simp only [aC_okr, R.ok_bind]
    rw [rng1_ok (by omega)]
    try simp only [R.ok_bind]
    refine to_bind (to_bind (to_for (fun n s => ∃ (ds' : List Int) (r : Int), s = (.list (ds'.map .int), .int r) ∧ (∀ x ∈ ds', bnd x) ∧ ds'.length ≤ ds.length + n) ⟨ds, rest, rfl, hb, by omega⟩ (fun j d s hd ⟨ds', r, es, hb', hz'⟩ => ?_) fun s ⟨ds2, r2, es, hb2, hz2⟩ => ?_))
    · obtain ⟨hj, rfl⟩ := rangeL_get hd
      subst es
      have h60 : j < 60 := hj
      try simp only [gtI_ii, R.ok_bind, asB_b]
      by_cases c2 : 0 < r
      · rw [if_pos (by simpa using c2)]
        try simp only [R.ok_bind, intI_i]
        rw [modI_ok (by omega), R.ok_bind, appD_ok (by rw [List.length_map]; omega), R.ok_bind, divI_sm (by omega) (by decide)]
        try simp only [R.ok_bind, Fl.seq_nx]
        exact to_ok ⟨_, .inl rfl, ds' ++ [r % 65536], r / 65536, by simp, bnd_app hb' ⟨by omega, by omega⟩, by simp; omega⟩
      · rw [if_neg (by simpa using c2)]
        try simp only [R.ok_bind, Fl.seq_nx]
        exact to_ok ⟨_, .inl rfl, ds', r, rfl, hb', by omega⟩
    · subst es
      rw [rangeL_len] at hz2
      have e60 : ((60 : Int)).toNat = 60 := rfl
      try simp only [Fl.done_nx, R.ok_bind, Fl.seq_nx]
      exact to_ok (to_ok ⟨_, .inl rfl, ds2, rfl, hb2, by omega⟩)
  · rw [if_neg (by simpa using c)]
    have hr2 : rest.natAbs < 2 ^ 200 := by
      have : rest < 10 ^ 18 := by simpa using c
      have h2 : (10 : Int) ^ 18 = 1000000000000000000 := rfl
      have h3 : (2 : Nat) ^ 200 > 1000000000000000000 := by decide
      omega
    have hi2 : (0 + (i : Int) + 1).natAbs < 2 ^ 200 := by
      have h3 : (2 : Nat) ^ 200 > 1000 := by decide
      omega
    have hi3 : (0 + (i : Int)).natAbs < 2 ^ 200 := by
      have h3 : (2 : Nat) ^ 200 > 1000 := by decide
      omega
    try simp only [R.ok_bind, addI_ii]
    rw [mulI_sm hr2 (by decide), R.ok_bind, mulI_sm hi2 (by decide)]
    try simp only [R.ok_bind, addI_ii, intI_i]
    rw [modI_ok (by omega)]
    try simp only [R.ok_bind]
    generalize hm : (rest * 48271 + (0 + (i : Int) + 1) * 69621) % 2147483647 = m
    have hm2 : m.natAbs < 2 ^ 200 := by
      have h3 : (2 : Nat) ^ 200 > 2147483647 := by decide
      omega
    rw [mulI_sm hm2 (by decide), R.ok_bind, mulI_sm (by decide) hi3]
    try simp only [R.ok_bind, addI_ii, intI_i]
    rw [modI_ok (by omega)]
    try simp only [R.ok_bind, intI_i]
    generalize (m * 16807 + 11 * (0 + (i : Int)) + 5) % 2147483629 = m2
    rw [modI_ok (by omega), R.ok_bind, appI_ok (by omega), R.ok_bind, divI_sm (by omega) (by decide)]
    try simp only [R.ok_bind, intI_i]
    rw [modI_ok (by omega), R.ok_bind, appI_ok (by simp; omega)]
    try simp only [R.ok_bind, Fl.seq_nx]
    exact to_ok ⟨_, .inl rfl, _, rfl, bnd_app (bnd_app hb ⟨by omega, by omega⟩) ⟨by omega, by omega⟩, by simp; omega⟩
/-- a whole number under many -/
theorem mix_ok {D : PyData} {k many : Int} (hD : isDraws D) (hk : 0 ≤ k ∧ k < 2 ^ 100) (hm : 0 < many) : ∃ v : Int, F__law_mix D (.int k) (.int many) = .ok (.int v) ∧ 0 ≤ v ∧ v < many := by
  obtain ⟨ds, rfl, hb⟩ := hD
  have fin : ∀ x : Int, ∃ v : Int, (R.ok (PyData.int (x % many))) = .ok (.int v) ∧ 0 ≤ v ∧ v < many := fun x => ⟨_, rfl, Int.emod_nonneg _ (by omega), Int.emod_lt_of_pos _ hm⟩
  unfold F__law_mix B__law_mix
  try simp only [R.ok_bind, lenD_l, gtI_ii, asB_b, List.length_map, intI_i]
  by_cases c : (0 : Int) < ds.length
  · rw [if_pos (by simpa using c), modI_ok c]
    have h1 := Int.emod_nonneg k (show (ds.length : Int) ≠ 0 by omega)
    have h2 := Int.emod_lt_of_pos k c
    obtain ⟨n, hn⟩ : ∃ n : Nat, k % ds.length = n := ⟨(k % ds.length).toNat, by omega⟩
    have hn' : n < ds.length := by omega
    rw [R.ok_bind, ixL (ds := ds.map .int) n hn (show (ds.map PyData.int)[n]? = some (.int ds[n]) by simp [hn'])]
    try simp only [R.ok_bind, Fl.seq_nx, ltI_ii, asB_b, intI_i]
    have hx := hb _ (List.getElem_mem hn')
    generalize ds[n] = x at hx
    by_cases c2 : k < (ds.length : Int)
    · rw [if_pos (by simpa using c2), modI_ok hm]
      exact fin x
    · rw [if_neg (by simpa using c2), mulI_sm (by have := hx.1; have := hx.2; have h3 : (2 : Nat) ^ 200 > 65536 := by decide
                                                  omega) (by decide), R.ok_bind, mulI_sm (by have h3 : (2 : Nat) ^ 200 > 2 ^ 100 := by decide
                                                                                             omega) (by decide)]
      try simp only [R.ok_bind, addI_ii, intI_i]
      rw [divI_sm (by omega) (by decide)]
      try simp only [R.ok_bind, intI_i]
      rw [modI_ok hm]
      exact fin _
  · rw [if_neg (by simpa using c)]
    try simp only [R.ok_bind, Fl.seq_nx, ltI_ii, asB_b, intI_i]
    rw [if_neg (by simp; omega), mulI_sm (by decide) (by decide), R.ok_bind, mulI_sm (by have h3 : (2 : Nat) ^ 200 > 2 ^ 100 := by decide
                                                                                         omega) (by decide)]
    try simp only [R.ok_bind, addI_ii, intI_i]
    rw [divI_sm (by omega) (by decide)]
    try simp only [R.ok_bind, intI_i]
    rw [modI_ok hm]
    exact fin _

structure Stop where
  o : Int
  c : Int
  g : Int
  s : Int
structure Leg where
  a : Int
  b : Int
def Stop.D (s : Stop) : PyData := .tuple [.int s.o, .int s.c, .int s.g, .int s.s]
def Leg.D (l : Leg) : PyData := .tuple [.int l.a, .int l.b]
abbrev Str2 := Option (Int × Int)
def S2D : Str2 → PyData
  | none => .none
  | some (a, b) => .tuple [.int a, .int b]
def lowB (s : Stop) (l : Leg) (e : Int) : Int := max (max s.o (s.g - s.s)) (e - l.a - s.s)
def topB (s : Stop) (l : Leg) (z : Int) : Int := min s.c (z - l.b)
def anyB (s : Stop) (l : Leg) (e z : Int) : Bool := decide (e - l.a ≤ z - l.b) && (decide (s.g ≤ z - l.b) && decide (lowB s l e ≤ topB s l z))
def stepB (s : Stop) (l : Leg) : Str2 → Str2
  | none => none
  | some (e, z) => if anyB s l e z = true then some (lowB s l e, topB s l z) else none

theorem bounds_ok (s : Stop) (l : Leg) (e z : Int) : F_bounds_before s.D l.D (S2D (some (e, z))) = .ok (.tuple [.int (lowB s l e), .int (topB s l z), .bool (anyB s l e z)]) := by
  unfold F_bounds_before B_bounds_before Stop.D Leg.D S2D
  simp [lowB, topB, anyB, unT_ok, mkT_ok, max3I_iii, minI_ii, maxI_ii]
  split <;> rename_i h
  · simp [h]
    split <;> rename_i h2
    · simp [h2]
    · simp [h2]
  · simp [h]
def OkS (s : Stop) : Prop := 0 ≤ s.o ∧ s.o ≤ s.c ∧ 0 ≤ s.g ∧ 0 ≤ s.s ∧ s.c ≤ 10000 ∧ s.g ≤ 10000 ∧ s.s ≤ 10000
def OkL (l : Leg) : Prop := 1 ≤ l.a ∧ l.a ≤ l.b ∧ l.b ≤ 10000
structure Good (stops : List Stop) (legs : List Leg) : Prop where
  n2 : 2 ≤ stops.length
  n4 : stops.length ≤ 40
  ln : legs.length + 1 = stops.length
  st : ∀ s ∈ stops, OkS s
  lg : ∀ l ∈ legs, OkL l
def courseD (stops : List Stop) (legs : List Leg) : PyData := .tuple [.list (stops.map Stop.D), .list (legs.map Leg.D)]
theorem enum_mem {ds : List PyData} {d : PyData} (h : d ∈ enumL ds) : ∃ (i : Nat) (x : PyData), x ∈ ds ∧ d = .tuple [.int i, x] := by
  obtain ⟨i, hi⟩ := List.mem_iff_getElem?.mp h
  obtain ⟨x, hx, e⟩ := enumL_get hi
  exact ⟨i, x, List.mem_of_getElem? hx, e⟩
theorem check_ok {stops : List Stop} {legs : List Leg} (h : Good stops legs) : F_check_course (courseD stops legs) = .ok .none := by
  have h1 := h.n2
  have h2 := h.n4
  have h3 := h.ln
  unfold F_check_course B_check_course courseD
  simp [unT_ok]
  rw [if_pos (by omega)]
  simp
  rw [if_neg (by simp; omega)]
  rw [forR_skip (s := ()) (enumL (stops.map Stop.D)) fun d hd => by
    obtain ⟨i, x, hx, rfl⟩ := enum_mem hd
    obtain ⟨s, hs, rfl⟩ := List.mem_map.mp hx
    obtain ⟨a1, a2, a3, a4, a5, a6, a7⟩ := h.st s hs
    simp [unT_ok, min1, max1, Stop.D, intsOf]
    rw [if_neg (by omega), if_neg (by omega)]
    simp
    omega]
  simp
  rw [forR_skip (s := ()) (enumL (legs.map Leg.D)) fun d hd => by
    obtain ⟨i, x, hx, rfl⟩ := enum_mem hd
    obtain ⟨l, hl, rfl⟩ := List.mem_map.mp hx
    obtain ⟨a1, a2, a3⟩ := h.lg l hl
    simp [unT_ok, Leg.D]
    rw [if_pos a1, if_pos a2]
    simp
    omega]
  simp
  rw [if_pos (by omega)]
  rfl
/-! the stretches, from the last stop on -/
def goB : List (Stop × Leg) → Str2 → List Str2
  | [], z => [z]
  | (s, l) :: r, z => stepB s l ((goB r z).headD none) :: goB r z
def safeB (stops : List Stop) (legs : List Leg) : List Str2 := match stops.getLast? with
  | some e => goB (stops.dropLast.zip legs) (some (e.o, e.c))
  | none => []
theorem goB_len (z : Str2) : ∀ r : List (Stop × Leg), (goB r z).length = r.length + 1
  | [] => rfl
  | (s, l) :: r => by simp [goB, goB_len z r]
theorem goB_cons (z : Str2) (r : List (Stop × Leg)) : ∃ x xs, goB r z = x :: xs ∧ (goB r z).headD none = x := by
  have := goB_len z r
  cases h : goB r z with
  | nil => rw [h] at this; simp at this
  | cons x xs => exact ⟨x, xs, rfl, rfl⟩
/-- the loop of safe_comings, from behind -/
theorem comings_loop {g : PyData → PyData → R (Fl PyData PyData)} (z : Str2) (hg : ∀ (s : Stop) (l : Leg) (f : List PyData) (x : Str2), f.length ≤ 100 → g (.tuple [s.D, l.D]) (.list (f ++ [S2D x])) = .ok (.nx (.list (f ++ [S2D x] ++ [S2D (stepB s l x)])))) : ∀ (r : List (Stop × Leg)), r.length ≤ 90 →
    forR g (r.reverse.map fun p => .tuple [p.1.D, p.2.D]) (.list [S2D z]) = .ok (.nx (.list ((goB r z).reverse.map S2D)))
  | [], _ => rfl
  | (s, l) :: r, h => by
    simp only [List.length_cons] at h
    rw [List.reverse_cons, List.map_append, forR_app _ _ _ _ (comings_loop z hg r (by omega))]
    obtain ⟨x, xs, e, e2⟩ := goB_cons z r
    have hl := goB_len z r
    rw [e] at hl
    simp only [List.length_cons] at hl
    have e3 : (goB r z).reverse.map S2D = xs.reverse.map S2D ++ [S2D x] := by rw [e, List.reverse_cons, List.map_append]; rfl
    simp only [List.map_cons, List.map_nil]
    rw [e3, forR_one (hg s l _ x (by simp; omega)), forR_nil]
    show R.ok (Fl.nx (PyData.list _)) = R.ok (Fl.nx (PyData.list _))
    congr 3
    show _ = (stepB s l ((goB r z).headD none) :: goB r z).reverse.map S2D
    rw [e2, List.reverse_cons, List.map_append, ← e3]
    simp [e]
theorem zip_rev : ∀ {pre : List Stop} {legs : List Leg}, pre.length = legs.length → zipL (pre.map Stop.D).reverse (legs.map Leg.D).reverse = (pre.zip legs).reverse.map fun p => .tuple [p.1.D, p.2.D] := by
  intro pre legs h
  unfold zipL
  rw [← List.reverse_zipWith (by simp [h]), List.map_reverse]
  congr 1
  induction pre generalizing legs with
  | nil => simp
  | cons s r ih =>
    cases legs with
    | nil => simp at h
    | cons l q => simp [ih (by simpa using h)]
theorem cut2 (e : Stop) : cutTD e.D none (some 2) = .ok (.tuple [.int e.o, .int e.c]) := rfl
theorem isN_S2 (x : Str2) : isN (S2D x) = x.isNone := by
  cases x with
  | none => rfl
  | some p => rfl
theorem comings_ok {stops : List Stop} {legs : List Leg} (h : Good stops legs) : F_safe_comings (.list (stops.map Stop.D)) (.list (legs.map Leg.D)) = .ok (.list ((safeB stops legs).map S2D)) := by
  have h1 := h.n2
  have h2 := h.n4
  have h3 := h.ln
  obtain ⟨pre, e, rfl⟩ : ∃ pre e, stops = pre ++ [e] := ⟨stops.dropLast, stops.getLast (by intro z; rw [z] at h1; simp at h1), (List.dropLast_concat_getLast _).symm⟩
  have hp : pre.length = legs.length := by simp at h3; omega
  unfold F_safe_comings B_safe_comings
  simp [unT_ok, mkT_ok, mkL_ok, ixL_last]
  rw [cut2]
  simp [mkL_ok]
  rw [zip_rev hp]
  have hsafe : safeB (pre ++ [e]) legs = goB (pre.zip legs) (some (e.o, e.c)) := by simp [safeB]
  refine bind_eq (bind_eq (comings_loop (some (e.o, e.c)) (fun s l f x hf => ?_) (pre.zip legs) (by simp at h2 ⊢; omega)) rfl) ?_
  · simp only [unT_ok, tsC_c, tsN_nil, R.ok_bind, List.length_cons, List.length_nil, ixL_last, isN_S2, asB_b]
    cases x with
    | none =>
      simp [stepB, S2D]
      rw [appD_ok (by simp; omega)]
      simp
    | some p =>
      obtain ⟨a, b⟩ := p
      simp [bounds_ok, unT_ok, stepB]
      cases c : anyB s l a b
      · simp
        rw [appD_ok (by simp; omega)]
        simp [S2D]
      · simp
        rw [appD_ok (by simp; omega)]
        simp [S2D]
  · simp [hsafe]

/-! dicts over consecutive hours -/
def ivl (a : Int) (n : Nat) (f : Int → PyData) : List (PyData × PyData) := (List.range n).map fun (j : Nat) => (PyData.int (a + j), f (a + j))
theorem ivl_len (a : Int) (n : Nat) (f : Int → PyData) : (ivl a n f).length = n := by simp [ivl]
theorem ivl_last (a : Int) (n : Nat) (f : Int → PyData) : ivl a (n + 1) f = ivl a n f ++ [(.int (a + n), f (a + n))] := by
  unfold ivl
  rw [List.range_succ, List.map_append]
  rfl
theorem kdict_ivl (a : Int) (n : Nat) (f : Int → PyData) : kdict (ivl a n f) = true := by
  unfold kdict ivl
  rw [List.all_map]
  simp [isKey]
theorem dget_app (k : PyData) : ∀ xs ys : List (PyData × PyData), dget (xs ++ ys) k = (dget xs k).or (dget ys k) := by
  intro xs ys
  unfold dget
  rw [List.find?_append]
  cases List.find? (fun kv => keq kv.1 k) xs <;> rfl
theorem dget_ivl (a : Int) (n : Nat) (f : Int → PyData) (h : Int) : dget (ivl a n f) (.int h) = if a ≤ h ∧ h < a + n then some (f h) else none := by
  induction n with
  | zero =>
    rw [if_neg (by omega)]
    rfl
  | succ n ih =>
    rw [ivl_last, dget_app, ih]
    by_cases c : a ≤ h ∧ h < a + n
    · rw [if_pos c, if_pos (by omega)]; rfl
    · rw [if_neg c]
      by_cases c2 : h = a + n
      · subst c2
        rw [if_pos (by omega)]
        simp [dget, keq]
      · rw [if_neg (by omega)]
        have : ¬ (a + (n : Int) = h) := fun z => c2 z.symm
        simp [dget, keq, this]
theorem any_ivl (a : Int) (n : Nat) (f : Int → PyData) : ((ivl a n f).any fun kv => keq kv.1 (.int (a + n))) = false := by
  unfold ivl
  rw [List.any_map, List.any_eq_false]
  intro j hj
  have := List.mem_range.mp hj
  simp [keq]
  omega
theorem dput_ivl (a : Int) (n : Nat) (f : Int → PyData) : dput (ivl a n f) (.int (a + n)) (f (a + n)) = ivl a (n + 1) f := by
  unfold dput
  rw [if_neg (by rw [any_ivl]; simp), ivl_last]
theorem putD_ivl {a : Int} {n : Nat} {f : Int → PyData} {h : Int} (e : h = a + n) (hn : n ≤ 1000000) : putD (.dict (ivl a n f)) (.int h) (f h) = .ok (.dict (ivl a (n + 1) f)) := by
  subst e
  show (if isKey (.int (a + n)) = true ∧ kdict (ivl a n f) = true ∧ (ivl a n f).length < sizeLine then R.ok (PyData.dict (dput (ivl a n f) (.int (a + n)) (f (a + n)))) else .stuck) = _
  rw [if_pos ⟨rfl, kdict_ivl _ _ _, by rw [ivl_len, line16]; omega⟩, dput_ivl]
theorem pairs_none (lo : Int) : ∀ n : Nat, pairsD ((rangeL lo n).map fun d => .tuple [d, .none]) = .ok ((ivl lo n fun _ => .none))
  | 0 => rfl
  | n + 1 => by
    have app : ∀ (xs ys : List PyData) ps qs, pairsD xs = .ok ps → pairsD ys = .ok qs → pairsD (xs ++ ys) = .ok (ps ++ qs) := by
      intro xs
      induction xs with
      | nil => intro ys ps qs h1 h2; cases h1; exact h2
      | cons x xs ih =>
        intro ys ps qs h1 h2
        have h1' : ((pairD x).bind fun p => (pairsD xs).bind fun r => R.ok (p :: r)) = .ok ps := h1
        show ((pairD x).bind fun p => (pairsD (xs ++ ys)).bind fun r => R.ok (p :: r)) = _
        cases e1 : pairD x with
        | exc _ _ => rw [e1] at h1'; cases h1'
        | stuck => rw [e1] at h1'; cases h1'
        | ok p =>
          rw [e1, R.ok_bind] at h1'
          cases e2 : pairsD xs with
          | exc _ _ => rw [e2] at h1'; cases h1'
          | stuck => rw [e2] at h1'; cases h1'
          | ok r =>
            rw [e2, R.ok_bind] at h1'
            cases h1'
            rw [R.ok_bind, ih ys r qs e2 h2]
            rfl
    rw [rangeL_last, List.map_append, ivl_last]
    exact app _ _ _ _ (pairs_none lo n) rfl
theorem dputs_ivl (lo : Int) (f : Int → PyData) : ∀ n : Nat, dputs [] (ivl lo n f) = ivl lo n f
  | 0 => rfl
  | n + 1 => by
    have := dputs_ivl lo f n
    unfold dputs at this ⊢
    rw [ivl_last, List.foldl_append, this, ← ivl_last]
    exact dput_ivl lo n f
theorem dictP_none (lo : Int) (n : Nat) : dictP (.list ((rangeL lo n).map fun d => .tuple [d, .none])) = .ok (.dict (ivl lo n fun _ => .none)) := by
  show ((pairsD ((rangeL lo n).map fun d => .tuple [d, .none])).bind fun ps => R.ok (PyData.dict (dputs [] ps))) = _
  rw [pairs_none, R.ok_bind, dputs_ivl]
/-! the first out that a player may take -/
theorem first_yes {g : PyData → PyData → R (Fl PyData PyData)} {w : PyData} {P : Int → Prop} {F : Int → PyData} (hno : ∀ out, ¬ P out → g (.int out) w = .ok (.nx w)) (hyes : ∀ out, P out → g (.int out) w = .ok (.bk (F out))) :
    ∀ (m : Nat) (lo q : Int), lo ≤ q → q < lo + m → P q → (∀ out, lo ≤ out → out < q → ¬ P out) → forR g (rangeL lo m) w = .ok (.bk (F q))
  | 0, lo, q, h1, h2, _, _ => by omega
  | m + 1, lo, q, h1, h2, hp, hn => by
    rw [rangeL_succ]
    by_cases c : lo = q
    · subst c; exact forR_brk (hyes _ hp)
    · rw [forR_one (hno lo (hn lo (by omega) (by omega)))]
      exact first_yes hno hyes m (lo + 1) q (by omega) (by omega) hp fun out a b => hn out (by omega) b
theorem first_no {g : PyData → PyData → R (Fl PyData PyData)} {w : PyData} {P : Int → Prop} (hno : ∀ out, ¬ P out → g (.int out) w = .ok (.nx w)) : ∀ (m : Nat) (lo : Int), (∀ out, lo ≤ out → out < lo + m → ¬ P out) → forR g (rangeL lo m) w = .ok (.nx w)
  | 0, lo, _ => rfl
  | m + 1, lo, h => by
    rw [rangeL_succ, forR_one (hno lo (h lo (by omega) (by omega)))]
    exact first_no hno m (lo + 1) fun out a b => h out (by omega) (by omega)
def inS : Str2 → Int → Bool
  | none, _ => false
  | some (a, b), h => decide (a ≤ h ∧ h ≤ b)
def kvB (s : Stop) (l : Leg) : Str2 → List (PyData × PyData)
  | none => []
  | some (e, z) => if anyB s l e z = true then ivl (lowB s l e) (topB s l z + 1 - lowB s l e).toNat (fun h => .int (max (max h s.g) (e - l.a))) else []
def goW : List (Stop × Leg) → Stop → List PyData
  | [], e => [.dict (ivl e.o (e.c + 1 - e.o).toNat fun _ => .none)]
  | (s, l) :: r, e => .dict (kvB s l ((goB r (some (e.o, e.c))).headD none)) :: goW r e
/-- the keys of a dict are the hours of a stretch -/
def Fits (kvs : List (PyData × PyData)) (x : Str2) : Prop := kdict kvs = true ∧ ∀ h : Int, (dget kvs (.int h)).isSome = inS x h
theorem fits_ivl {a b : Int} {f : Int → PyData} (h : a ≤ b) : Fits (ivl a (b + 1 - a).toNat f) (some (a, b)) := by
  refine ⟨kdict_ivl _ _ _, fun k => ?_⟩
  rw [dget_ivl]
  unfold inS
  by_cases c : a ≤ k ∧ k ≤ b
  · rw [if_pos (by omega)]; simp [c]
  · rw [if_neg (by omega)]; simp [c]
theorem fits_kvB (s : Stop) (l : Leg) (x : Str2) : Fits (kvB s l x) (stepB s l x) := by
  cases x with
  | none => exact ⟨rfl, fun _ => rfl⟩
  | some p =>
    obtain ⟨e, z⟩ := p
    unfold kvB stepB
    by_cases c : anyB s l e z = true
    · simp only [c, if_true]
      exact fits_ivl (by simp [anyB] at c; omega)
    · simp only [c]
      exact ⟨rfl, fun _ => rfl⟩
/-- who can take an out: all that stands between -/
theorem all_in {x : Str2} {l : Leg} (hl : l.a ≤ l.b) (out : Int) : (∀ t, l.a ≤ t → t ≤ l.b → inS x (out + t) = true) ↔ ∃ e z, x = some (e, z) ∧ e ≤ out + l.a ∧ out + l.b ≤ z := by
  cases x with
  | none =>
    constructor
    · intro h; have := h l.a (by omega) hl; simp [inS] at this
    · rintro ⟨e, z, h, _⟩; cases h
  | some p =>
    obtain ⟨e, z⟩ := p
    constructor
    · intro h
      have h1 := h l.a (by omega) hl
      have h2 := h l.b hl (by omega)
      simp [inS] at h1 h2
      exact ⟨e, z, rfl, by omega, by omega⟩
    · rintro ⟨e', z', h, h1, h2⟩ t h3 h4
      cases h
      simp [inS]
      omega

def fitP (x : Str2) (l : Leg) (out : Int) : Prop := ∀ t, l.a ≤ t → t ≤ l.b → inS x (out + t) = true
def cntB (s : Stop) (l : Leg) (e z : Int) (i : Nat) : Nat := (min (s.o + i) (topB s l z + 1) - lowB s l e).toNat
def kvP (s : Stop) (l : Leg) (x : Str2) (i : Nat) : List (PyData × PyData) := match x with
  | none => []
  | some (e, z) => if anyB s l e z = true then ivl (lowB s l e) (cntB s l e z i) (fun h => .int (max (max h s.g) (e - l.a))) else []
theorem kvP_end {s : Stop} {l : Leg} (hs : OkS s) (x : Str2) : kvP s l x (s.c + 1 - s.o).toNat = kvB s l x := by
  obtain ⟨a1, a2, a3, a4, a5, a6, a7⟩ := hs
  cases x with
  | none => rfl
  | some p =>
    obtain ⟨e, z⟩ := p
    unfold kvP kvB
    have : cntB s l e z (s.c + 1 - s.o).toNat = (topB s l z + 1 - lowB s l e).toNat := by
      unfold cntB topB
      omega
    simp only [this]
theorem kvP_0 (s : Stop) (l : Leg) (x : Str2) : kvP s l x 0 = [] := by
  cases x with
  | none => rfl
  | some p =>
    obtain ⟨e, z⟩ := p
    unfold kvP
    have : cntB s l e z 0 = 0 := by
      unfold cntB lowB
      omega
    simp only [this]
    split <;> rfl
theorem kvP_ok (s : Stop) (l : Leg) (x : Str2) (i : Nat) (hi : i ≤ 20000) (ho : OkS s) : kdict (kvP s l x i) = true ∧ (kvP s l x i).length ≤ 100000 := by
  obtain ⟨a1, a2, a3, a4, a5, a6, a7⟩ := ho
  cases x with
  | none => exact ⟨rfl, by simp [kvP]⟩
  | some p =>
    obtain ⟨e, z⟩ := p
    unfold kvP
    by_cases c : anyB s l e z = true
    · simp only [c, if_true]
      refine ⟨kdict_ivl _ _ _, ?_⟩
      rw [ivl_len]
      unfold cntB lowB topB
      omega
    · simp only [c]
      exact ⟨rfl, by simp⟩
/-- the hours of one stop -/
theorem hours_loop {g : PyData → PyData → R (Fl PyData PyData)} {G : Int → PyData → PyData → R (Fl PyData PyData)} {s : Stop} {l : Leg} {x : Str2} (hs : OkS s) (hl : OkL l)
    (hg : ∀ hour w, s.o ≤ hour → hour ≤ s.c → g (.int hour) w = (forR (G hour) (rangeL (max hour s.g) (hour + s.s + 1 - max hour s.g).toNat) w).bind fun fl => fl.done fun s15 => R.ok (Fl.nx s15))
    (hno : ∀ hour w out, 0 ≤ hour → hour ≤ 10000 → ¬ fitP x l out → G hour (.int out) w = .ok (.nx w))
    (hyes : ∀ hour w w' out, 0 ≤ hour → hour ≤ 10000 → fitP x l out → putD w (.int hour) (.int out) = .ok w' → G hour (.int out) w = .ok (.bk w')) :
    forR g (rangeL s.o (s.c + 1 - s.o).toNat) (.dict []) = .ok (.nx (.dict (kvB s l x))) := by
  have hs' := hs
  obtain ⟨a1, a2, a3, a4, a5, a6, a7⟩ := hs
  obtain ⟨b1, b2, b3⟩ := hl
  obtain ⟨w, e, h⟩ := forR_inv (fun i w => i ≤ (s.c + 1 - s.o).toNat ∧ w = .dict (kvP s l x i)) (rangeL s.o (s.c + 1 - s.o).toNat) 0 (.dict []) ⟨Nat.zero_le _, by rw [kvP_0]⟩ (g := g) fun i d w hd hI => by
    obtain ⟨hi, rfl⟩ := rangeL_get hd
    rw [Nat.zero_add] at hI ⊢
    obtain ⟨_, rfl⟩ := hI
    obtain ⟨k1, k2⟩ := kvP_ok s l x i (by omega) hs'
    have hh1 : s.o ≤ s.o + (i : Int) := by omega
    have hh2 : s.o + (i : Int) ≤ s.c := by omega
    generalize hh : s.o + (i : Int) = hour at hh1 hh2
    refine ⟨.dict (kvP s l x (i + 1)), .inl ?_, by omega, rfl⟩
    rw [hg hour _ hh1 hh2]
    have fitI : ∀ out, fitP x l out ↔ ∃ e z, x = some (e, z) ∧ e ≤ out + l.a ∧ out + l.b ≤ z := fun out => all_in b2 out
    have no : (∀ out, max hour s.g ≤ out → out < hour + s.s + 1 → ¬ fitP x l out) → kvP s l x (i + 1) = kvP s l x i → (forR (G hour) (rangeL (max hour s.g) (hour + s.s + 1 - max hour s.g).toNat) (.dict (kvP s l x i))).bind (fun fl => fl.done fun s15 => R.ok (Fl.nx s15)) = (R.ok (Fl.nx (.dict (kvP s l x (i + 1)))) : R (Fl PyData PyData)) := fun hn e => by
      rw [first_no (P := fitP x l) (fun out => hno hour _ out (by omega) (by omega)) _ _ fun out o1 o2 => hn out o1 (by omega), e]
      rfl
    cases hx : x with
    | none =>
      subst hx
      exact no (fun out _ _ z => by obtain ⟨e, z, h, _⟩ := (fitI out).mp z; cases h) rfl
    | some p =>
      obtain ⟨e, z⟩ := p
      rw [hx] at no fitI hno hyes k1 k2
      have fit' : ∀ out, fitP (some (e, z)) l out ↔ e ≤ out + l.a ∧ out + l.b ≤ z := fun out => by
        rw [fitI]
        constructor
        · rintro ⟨e', z', h, h1, h2⟩; cases h; exact ⟨h1, h2⟩
        · rintro ⟨h1, h2⟩; exact ⟨e, z, rfl, h1, h2⟩
      by_cases q : anyB s l e z = true ∧ lowB s l e ≤ hour ∧ hour ≤ topB s l z
      · obtain ⟨q1, q2, q3⟩ := q
        have q1' := q1
        simp [anyB] at q1'
        obtain ⟨r1, r2, r3⟩ := q1'
        have ec : cntB s l e z (i + 1) = cntB s l e z i + 1 := by unfold cntB; omega
        have ep : hour = lowB s l e + cntB s l e z i := by unfold cntB; omega
        have el : kvP s l (some (e, z)) i = ivl (lowB s l e) (cntB s l e z i) (fun h => .int (max (max h s.g) (e - l.a))) := by unfold kvP; simp only [q1, if_true]
        have el2 : kvP s l (some (e, z)) (i + 1) = ivl (lowB s l e) (cntB s l e z i + 1) (fun h => .int (max (max h s.g) (e - l.a))) := by unfold kvP; simp only [q1, if_true, ec]
        have put : ∀ out, putD (.dict (kvP s l (some (e, z)) i)) (.int hour) (.int out) = .ok (.dict (dput (kvP s l (some (e, z)) i) (.int hour) (.int out))) := fun out => if_pos ⟨rfl, k1, by rw [line16]; omega⟩
        have last := putD_ivl (f := fun h => .int (max (max h s.g) (e - l.a))) ep (by rw [← ivl_len (lowB s l e) (cntB s l e z i) (fun h => .int (max (max h s.g) (e - l.a))), ← el]; omega)
        rw [← el, put] at last
        unfold lowB at q2
        unfold topB at q3
        rw [first_yes (P := fitP (some (e, z)) l) (F := fun out => .dict (dput (kvP s l (some (e, z)) i) (.int hour) (.int out))) (fun out => hno hour _ out (by omega) (by omega)) (fun out h => hyes hour _ _ out (by omega) (by omega) h (put out)) _ _ (max (max hour s.g) (e - l.a)) (by omega) (by omega)
          ((fit' _).mpr ⟨by omega, by omega⟩) fun out o1 o2 h => by have := (fit' out).mp h; omega]
        rw [R.ok_bind, Fl.done_bk]
        injection last with last
        show R.ok (Fl.nx (PyData.dict (dput _ _ _))) = _
        rw [last, el2]
      · refine no (fun out o1 o2 h => q ?_) ?_
        · have := (fit' out).mp h
          unfold anyB lowB topB
          simp
          omega
        · unfold kvP
          by_cases c : anyB s l e z = true
          · simp only [c, if_true]
            have : cntB s l e z (i + 1) = cntB s l e z i := by
              have q' : ¬ (lowB s l e ≤ hour ∧ hour ≤ topB s l z) := fun z => q ⟨c, z⟩
              unfold cntB
              omega
            rw [this]
          · simp [c]
  rw [e, h.2, rangeL_len, Nat.zero_add, kvP_end hs']
theorem goW_cons (r : List (Stop × Leg)) (e : Stop) (he : e.o ≤ e.c) : ∃ kvs rest, goW r e = .dict kvs :: rest ∧ Fits kvs ((goB r (some (e.o, e.c))).headD none) := by
  cases r with
  | nil => exact ⟨_, _, rfl, fits_ivl he⟩
  | cons p r =>
    obtain ⟨s, l⟩ := p
    exact ⟨_, _, rfl, fits_kvB s l _⟩
theorem goW_len (e : Stop) : ∀ r : List (Stop × Leg), (goW r e).length = r.length + 1
  | [] => rfl
  | (s, l) :: r => by simp [goW, goW_len e r]
theorem wins_loop {g : PyData → PyData → R (Fl PyData PyData)} {ps : List (Stop × Leg)} {e : Stop} (hg : ∀ (k : Nat) s l, ps[k]? = some (s, l) → g (.int k) (.list (goW (ps.drop (k + 1)) e)) = .ok (.nx (.list (goW (ps.drop k) e)))) : ∀ j : Nat, j ≤ ps.length →
    forR g (rngD ((j : Int) - 1) j) (.list (goW (ps.drop j) e)) = .ok (.nx (.list (goW ps e)))
  | 0, _ => rfl
  | j + 1, h => by
    have hj : j < ps.length := by omega
    rw [show (((j + 1 : Nat) : Int) - 1) = (j : Int) by omega, rngD_succ, forR_one (hg j ps[j].1 ps[j].2 (List.getElem?_eq_getElem hj))]
    exact wins_loop hg j (by omega)
theorem ixS0 (s : Stop) : ixD s.D (.int 0) = .ok (.int s.o) := by simp [Stop.D]
theorem ixS1 (s : Stop) : ixD s.D (.int 1) = .ok (.int s.c) := by simp [Stop.D]
theorem ixS2 (s : Stop) : ixD s.D (.int 2) = .ok (.int s.g) := by simp [Stop.D]
theorem ixG0 (l : Leg) : ixD l.D (.int 0) = .ok (.int l.a) := by simp [Leg.D]
theorem ixG1 (l : Leg) : ixD l.D (.int 1) = .ok (.int l.b) := by simp [Leg.D]
theorem eqv_nil (ys : List PyData) : PyData.eqv (.list ys) (.list []) = ys.isEmpty := by cases ys <;> rfl
theorem tinyA_ints : ∀ ns : List Int, (∀ n ∈ ns, n.natAbs < 2 ^ 60) → tinyA (ns.map .int) = true
  | [], _ => rfl
  | n :: ns, h => by
    rw [List.map_cons]
    simp only [tinyA, tiny, Bool.and_eq_true, decide_eq_true_eq]
    exact ⟨h n List.mem_cons_self, tinyA_ints ns fun m hm => h m (List.mem_cons_of_mem _ hm)⟩
theorem depthA_ints : ∀ ns : List Int, PyData.depthAll (ns.map .int) = 0
  | [] => rfl
  | n :: ns => by rw [List.map_cons]; simp only [PyData.depthAll, PyData.depth, depthA_ints ns]; rfl
/-- lost = [t for t in range(a, b + 1) if out + t not in found]; lost == [] -/
theorem lost_ok {kvs : List (PyData × PyData)} {x : Str2} {l : Leg} (hf : Fits kvs x) (hl : OkL l) (out : Int) :
    ∃ ts : List Int, compR (fun d => R.ok d) (fun x17 => ((addI (.int out) x17).bind fun x => notK x (.dict kvs)).bind asB) (fun d => R.ok d) (rangeL l.a (l.b + 1 - l.a).toNat) = .ok (ts.map .int) ∧ (∀ t ∈ ts, l.a ≤ t ∧ t ≤ l.b) ∧ ts.length ≤ 20000 ∧ (ts = [] ↔ fitP x l out) := by
  obtain ⟨b1, b2, b3⟩ := hl
  have gen : ∀ (n : Nat) (lo : Int), ∃ ts : List Int, compR (fun d => R.ok d) (fun x17 => ((addI (.int out) x17).bind fun x => notK x (.dict kvs)).bind asB) (fun d => R.ok d) (rangeL lo n) = .ok (ts.map .int) ∧ (∀ t ∈ ts, lo ≤ t ∧ t < lo + n) ∧ ts.length ≤ n ∧ (ts = [] ↔ ∀ t, lo ≤ t → t < lo + n → inS x (out + t) = true) := by
    intro n
    induction n with
    | zero => exact fun lo => ⟨[], rfl, by simp, by simp, by simp; omega⟩
    | succ n ih =>
      intro lo
      obtain ⟨ts, e, h1, h2, h3⟩ := ih (lo + 1)
      have hk : notK (.int (out + lo)) (.dict kvs) = .ok (.bool (!inS x (out + lo))) := by
        show (if isKey (.int (out + lo)) = true ∧ kdict kvs = true then R.ok (PyData.bool (!(dget kvs (.int (out + lo))).isSome)) else .stuck) = _
        rw [if_pos ⟨rfl, hf.1⟩, hf.2]
      cases c : inS x (out + lo) with
      | true =>
        refine ⟨ts, ?_, fun t ht => by have := h1 t ht; omega, by omega, ?_⟩
        · rw [rangeL_succ, compR_cons, R.ok_bind, addI_ii, R.ok_bind, hk, c]
          exact e
        · rw [h3]
          constructor
          · intro h t t1 t2
            by_cases z : t = lo
            · subst z; exact c
            · exact h t (by omega) (by omega)
          · exact fun h t t1 t2 => h t (by omega) (by omega)
      | false =>
        refine ⟨lo :: ts, ?_, fun t ht => ?_, by simp; omega, ?_⟩
        · rw [rangeL_succ, compR_cons, R.ok_bind, addI_ii, R.ok_bind, hk, c]
          simp [e]
        · rcases List.mem_cons.mp ht with rfl | ht
          · omega
          · have := h1 t ht; omega
        · constructor
          · intro z; cases z
          · intro h
            have := h lo (by omega) (by omega)
            rw [c] at this; cases this
  obtain ⟨ts, e, h1, h2, h3⟩ := gen (l.b + 1 - l.a).toNat l.a
  refine ⟨ts, e, fun t ht => by have := h1 t ht; omega, by omega, h3.trans ?_⟩
  unfold fitP
  constructor
  · exact fun h t t1 t2 => h t t1 (by omega)
  · exact fun h t t1 t2 => h t t1 (by omega)
theorem filt (l : List PyData) : l.filter (fun _ => true) = l := List.filter_eq_self.mpr fun _ _ => rfl
theorem wins_ok {stops : List Stop} {legs : List Leg} {pre : List Stop} {e : Stop} (es : stops = pre ++ [e]) (h : Good stops legs) : F__law_wins (courseD stops legs) = .ok (.list (goW (pre.zip legs) e)) := by
  have h1 := h.n2
  have h2 := h.n4
  have h3 := h.ln
  subst es
  have hp : pre.length = legs.length := by simp at h3; omega
  have he : OkS e := h.st e (by simp)
  obtain ⟨a1, a2, a3, a4, a5, a6, a7⟩ := he
  have hzl : (pre.zip legs).length = legs.length := by simp; omega
  unfold F__law_wins B__law_wins courseD
  simp [unT_ok, mkT_ok, mkL_ok, ixL_last, ixS0, ixS1]
  rw [rng2_ok (by omega) (by omega)]
  simp
  rw [compR_eq (fun _ => true) (fun d => .tuple [d, .none]) _ fun d _ => ⟨d, rfl, rfl, fun _ => rfl⟩, filt]
  simp
  rw [mkL_ok (by simp [rangeL_len]; omega)]
  simp
  rw [dictP_none]
  simp [mkL_ok]
  rw [rng3_ok (by omega) (by omega)]
  have e0 : ((legs.length : Int) - 1 - -1).toNat = legs.length := by omega
  have e1 : (PyData.list [PyData.dict (ivl e.o (e.c + 1 - e.o).toNat fun x => PyData.none)]) = .list (goW ((pre.zip legs).drop legs.length) e) := by
    rw [List.drop_of_length_le (by omega)]; rfl
  rw [e0, e1]
  refine bind_eq (bind_eq rfl (bind_eq (wins_loop (ps := pre.zip legs) (e := e) (fun k s l hk => ?_) legs.length (by omega)) rfl)) rfl
  have hk1 : k < legs.length := by have := (List.getElem?_eq_some_iff.mp hk).1; omega
  have hk2 : k < pre.length := by omega
  have es : pre[k]? = some s ∧ legs[k]? = some l := by
    rw [List.getElem?_zip_eq_some] at hk
    exact hk
  have hs : OkS s := h.st s (by simp; exact .inl (List.mem_of_getElem? es.1))
  have hl : OkL l := h.lg l (List.mem_of_getElem? es.2)
  have i1 : ixD (PyData.list (List.map Stop.D pre ++ [e.D])) (.int k) = .ok s.D := ixL k rfl (by rw [List.getElem?_append_left (by simpa using hk2)]; simp [es.1])
  have i2 : ixD (PyData.list (List.map Leg.D legs)) (.int k) = .ok l.D := ixL k rfl (by simp [es.2])
  obtain ⟨kvs, rest, ew, hf⟩ := goW_cons ((pre.zip legs).drop (k + 1)) e a2
  have ed : goW ((pre.zip legs).drop k) e = .dict (kvB s l ((goB ((pre.zip legs).drop (k + 1)) (some (e.o, e.c))).headD none)) :: goW ((pre.zip legs).drop (k + 1)) e := by
    have := List.drop_eq_getElem_cons (l := pre.zip legs) (i := k) (by omega)
    rw [this]
    have e2 : (pre.zip legs)[k]'(by omega) = (s, l) := by
      have := (List.getElem?_eq_some_iff.mp hk).2
      exact this
    rw [e2]
    rfl
  generalize (goB ((pre.zip legs).drop (k + 1)) (some (e.o, e.c))).headD none = x at hf ed
  rw [i1, i2, ed, ew]
  have hs' := hs
  have hl' := hl
  obtain ⟨c1, c2, c3, c4, c5, c6, c7⟩ := hs
  obtain ⟨d1, d2, d3⟩ := hl
  have hrl : rest.length ≤ 100 := by
    have := goW_len e ((pre.zip legs).drop (k + 1))
    rw [ew, List.length_drop] at this
    simp only [List.length_cons] at this
    simp at h2
    omega
  simp [ixG0, ixG1, Stop.D, unT_ok]
  rw [rng2_ok (by omega) (by omega)]
  simp
  rw [rng2_ok (i := l.a) (by omega) (by omega)]
  refine bind_eq (hours_loop (s := s) (l := l) (x := x) (G := fun hour d_1 s13 => (((R.ok (rangeL l.a (l.b + 1 - l.a).toNat)).bind fun ds => (compR (fun d => R.ok d) (fun x17 => ((addI d_1 x17).bind fun x => notK x (PyData.dict kvs)).bind asB) (fun d => R.ok d) ds).bind mkL).bind fun v_lost_16 =>
    ((eqD v_lost_16 (PyData.list [])).bind asB).bind fun b => if b = true then ((putD s13 (.int hour) d_1).bind fun v_won_18 => R.ok (Fl.bk v_won_18)).bind fun f => f.seq fun (z : Empty) => z.elim else R.ok (Fl.nx s13))) hs' hl' (fun hour w q1 q2 => ?_) (fun hour w out _ _ hP => ?_) (fun hour w w' out _ _ hP hput => ?_)) ?_
  · simp [maxI_ii]
    rw [rng2_ok (by omega) (by omega)]
    rfl
  · obtain ⟨ts, e4, t1, t2, t3⟩ := lost_ok hf hl' out
    have tt : tiny (.list (ts.map .int)) = true := tinyA_ints ts fun n hn => by have := t1 n hn; omega
    have td : (PyData.list (ts.map .int)).depth ≤ 64 := by simp only [PyData.depth, depthA_ints]; omega
    rw [R.ok_bind, e4, R.ok_bind, mkL_ok (by simp; omega), R.ok_bind, eqD_ok tt rfl td (by decide), eqv_nil]
    have : ts ≠ [] := fun z => hP (t3.mp z)
    simp [this]
  · obtain ⟨ts, e4, t1, t2, t3⟩ := lost_ok hf hl' out
    have tt : tiny (.list (ts.map .int)) = true := tinyA_ints ts fun n hn => by have := t1 n hn; omega
    have td : (PyData.list (ts.map .int)).depth ≤ 64 := by simp only [PyData.depth, depthA_ints]; omega
    rw [R.ok_bind, e4, R.ok_bind, mkL_ok (by simp; omega), R.ok_bind, eqD_ok tt rfl td (by decide), eqv_nil]
    have : ts = [] := t3.mpr hP
    simp [this, hput]
  · rw [Fl.done_nx, catL_ok (by simp; omega)]
    rfl

theorem courseIx0 (stops : List Stop) (legs : List Leg) : ixD (courseD stops legs) (.int 0) = .ok (.list (stops.map Stop.D)) := by simp [courseD]
theorem courseIx1 (stops : List Stop) (legs : List Leg) : ixD (courseD stops legs) (.int 1) = .ok (.list (legs.map Leg.D)) := by simp [courseD]
theorem safe_ok {stops : List Stop} {legs : List Leg} (h : Good stops legs) : F_safe (courseD stops legs) = .ok (.list ((safeB stops legs).map S2D)) := by
  unfold F_safe B_safe
  simp [check_ok h, courseIx0, courseIx1, comings_ok h]
def runI (a : Int) (n : Nat) : List Int := (List.range n).map fun (j : Nat) => a + j
theorem runI_sorted (a : Int) (n : Nat) : (runI a n).Pairwise (· ≤ ·) := by
  unfold runI
  rw [List.pairwise_map]
  exact List.pairwise_lt_range.imp fun h => by omega
theorem runI_srt (a : Int) (n : Nat) : srt (runI a n) = runI a n := (srt_uniq (List.Perm.refl _) (runI_sorted a n)).symm
theorem ivl_keys (a : Int) (n : Nat) (f : Int → PyData) : (ivl a n f).map (·.1) = (runI a n).map .int := by
  unfold ivl runI
  rw [List.map_map, List.map_map]
  rfl
theorem runI_get {a : Int} {n i : Nat} (h : i < n) : ((runI a n).map PyData.int)[i]? = some (.int (a + i)) := by
  simp [runI, h]
theorem runI_len (a : Int) (n : Nat) : (runI a n).length = n := by simp [runI]
def Shape (kvs : List (PyData × PyData)) (x : Str2) : Prop := (x = none ∧ kvs = []) ∨ ∃ a b f, x = some (a, b) ∧ a ≤ b ∧ -1000000 ≤ a ∧ b ≤ 1000000 ∧ kvs = ivl a (b + 1 - a).toNat f
theorem stretch_ok {kvs : List (PyData × PyData)} {x : Str2} (h : Shape kvs x) : F__law_stretch (.dict kvs) = .ok (S2D x) := by
  rcases h with ⟨rfl, rfl⟩ | ⟨a, b, f, rfl, hab, ha, hb, rfl⟩
  · unfold F__law_stretch B__law_stretch
    have : srtD (.dict []) = .ok (.list []) := by
      show (match intsOf [] with | some ns => R.ok (PyData.list ((srt ns).map .int)) | none => .stuck) = _
      simp [intsOf, srt]
    simp [this]
    rw [eqD_ok rfl rfl (by decide) (by decide)]
    simp [eqv_nil, S2D]
  · obtain ⟨n, hn⟩ : ∃ n : Nat, (b + 1 - a).toNat = n + 1 := ⟨(b - a).toNat, by omega⟩
    have eb : b = a + n := by omega
    rw [hn]
    have e1 : srtD (.dict (ivl a (n + 1) f)) = .ok (.list ((runI a (n + 1)).map .int)) := by
      show (match intsOf ((ivl a (n + 1) f).map (·.1)) with | some ns => R.ok (PyData.list ((srt ns).map .int)) | none => .stuck) = _
      rw [ivl_keys, intsOf_map]
      simp only [runI_srt]
    have tt : tiny (.list ((runI a (n + 1)).map .int)) = true := tinyA_ints _ fun m hm => by
      obtain ⟨j, hj, rfl⟩ := List.mem_map.mp hm
      have := List.mem_range.mp hj
      omega
    have td : (PyData.list ((runI a (n + 1)).map .int)).depth ≤ 64 := by simp only [PyData.depth, depthA_ints]; omega
    have g0 : ixD (.list ((runI a (n + 1)).map .int)) (.int 0) = .ok (.int a) := ixL 0 rfl (by rw [runI_get (by omega)]; simp)
    have g1 : ixD (.list ((runI a (n + 1)).map .int)) (.int (-1)) = .ok (.int b) := ixLn 1 rfl (by omega) (by rw [List.length_map, runI_len]; omega) (by rw [List.length_map, runI_len, runI_get (by omega), eb]; simp)
    unfold F__law_stretch B__law_stretch
    simp only [R.ok_bind, e1]
    have ne : ((runI a (n + 1)).map PyData.int).isEmpty = false := by
      have := runI_len a (n + 1)
      cases h : runI a (n + 1) with
      | nil => rw [h] at this; simp at this
      | cons _ _ => rfl
    rw [eqD_ok tt rfl td (by decide), eqv_nil, ne]
    simp [g0, g1, runI_len, mkT_ok]
    rw [if_pos (by omega)]
    simp [S2D]
theorem within_ok (h : Int) (x : Str2) : F_is_within (.int h) (S2D x) = .ok (.bool (inS x h)) := by
  unfold F_is_within B_is_within
  cases x with
  | none => rfl
  | some p =>
    obtain ⟨a, b⟩ := p
    simp [S2D, immC, flat, flatA, inS]
    by_cases c : a ≤ h
    · simp [c]
    · simp [c]

theorem shape_kvB {s : Stop} {l : Leg} (hs : OkS s) (hl : OkL l) {x : Str2} : Shape (kvB s l x) (stepB s l x) := by
  obtain ⟨a1, a2, a3, a4, a5, a6, a7⟩ := hs
  obtain ⟨b1, b2, b3⟩ := hl
  cases x with
  | none => exact .inl ⟨rfl, rfl⟩
  | some p =>
    obtain ⟨e, z⟩ := p
    unfold kvB stepB
    by_cases c : anyB s l e z = true
    · simp only [c, if_true]
      have c' := c
      simp [anyB] at c'
      refine .inr ⟨_, _, _, rfl, c'.2.2, ?_, ?_, rfl⟩
      · unfold lowB; omega
      · unfold topB; omega
    · simp only [c]
      exact .inl ⟨rfl, rfl⟩
theorem due_ok {e : Stop} (he : OkS e) : ∀ ps : List (Stop × Leg), (∀ p ∈ ps, OkS p.1 ∧ OkL p.2) → compR (fun d => R.ok d) (fun x => R.ok true) (fun x => F__law_stretch x) (goW ps e) = .ok ((goB ps (some (e.o, e.c))).map S2D)
  | [], _ => by
    obtain ⟨a1, a2, a3, a4, a5, a6, a7⟩ := he
    have : F__law_stretch (.dict (ivl e.o (e.c + 1 - e.o).toNat fun _ => .none)) = .ok (S2D (some (e.o, e.c))) := stretch_ok (.inr ⟨e.o, e.c, _, rfl, a2, by omega, by omega, rfl⟩)
    simp [goW, goB, compR_cons, this]
  | (s, l) :: r, h => by
    have ih := due_ok he r fun p hp => h p (List.mem_cons_of_mem _ hp)
    obtain ⟨hs, hl⟩ := h (s, l) List.mem_cons_self
    simp only [goW, goB]
    rw [compR_cons, R.ok_bind, sx_ok', R.ok_bind, if_pos rfl, stretch_ok (shape_kvB hs hl), sx_ok', R.ok_bind, ih]
    rfl
/-- what stands at one place of the game's and the program's lists -/
structure At (stops : List Stop) (legs : List Leg) (wins : List PyData) (xs : List Str2) : Prop where
  len : xs.length = stops.length
  wlen : wins.length = stops.length
  fit : ∀ (k : Nat) x, xs[k]? = some x → ∃ kvs, wins[k]? = some (.dict kvs) ∧ Fits kvs x
  get : ∀ (k : Nat) s l x y, stops[k]? = some s → legs[k]? = some l → xs[k]? = some x → xs[k + 1]? = some y → ∃ kvs, wins[k]? = some (.dict kvs) ∧ ∀ h, dget kvs (.int h) = if inS x h = true then (match y with
    | some (e, z) => some (.int (max (max h s.g) (e - l.a)))
    | none => none) else none
  stp : ∀ (k : Nat) s l x y, stops[k]? = some s → legs[k]? = some l → xs[k]? = some x → xs[k + 1]? = some y → x = stepB s l y
  last : ∀ kvs x, wins[legs.length]? = some (.dict kvs) → xs[legs.length]? = some x → ∀ h, dget kvs (.int h) = if inS x h = true then some .none else none
theorem dget_kvB (s : Stop) (l : Leg) (x : Str2) (h : Int) : dget (kvB s l x) (.int h) = if inS (stepB s l x) h = true then (match x with
    | some (e, z) => some (.int (max (max h s.g) (e - l.a)))
    | none => none) else none := by
  cases x with
  | none => rfl
  | some p =>
    obtain ⟨e, z⟩ := p
    unfold kvB stepB
    by_cases c : anyB s l e z = true
    · simp only [c, if_true]
      rw [dget_ivl]
      simp [anyB] at c
      by_cases c2 : lowB s l e ≤ h ∧ h ≤ topB s l z
      · rw [if_pos (by omega), if_pos (by simpa [inS] using c2)]
      · rw [if_neg (by omega), if_neg (by simpa [inS] using c2)]
    · simp [c, inS, dget]
theorem at_ok {pre : List Stop} {e : Stop} {legs : List Leg} (hp : pre.length = legs.length) (he : e.o ≤ e.c) : At (pre ++ [e]) legs (goW (pre.zip legs) e) (goB (pre.zip legs) (some (e.o, e.c))) := by
  induction pre generalizing legs with
  | nil =>
    cases legs with
    | cons _ _ => simp at hp
    | nil =>
      refine ⟨rfl, rfl, fun k x hx => ?_, fun k s l x y _ hl => by simp at hl, fun k s l x y _ hl => by simp at hl, fun kvs x hk hx h => ?_⟩
      · cases k with
        | zero =>
          have : some (e.o, e.c) = x := by simpa [goB] using hx
          subst this
          exact ⟨_, rfl, fits_ivl he⟩
        | succ k => simp [goB] at hx
      · have e1 : some (e.o, e.c) = x := by simpa [goB] using hx
        have e2 : ivl e.o (e.c + 1 - e.o).toNat (fun _ => .none) = kvs := by simpa [goW] using hk
        subst e1; subst e2
        rw [dget_ivl]
        unfold inS
        by_cases c : e.o ≤ h ∧ h ≤ e.c
        · rw [if_pos (by omega), if_pos (by simpa using c)]
        · rw [if_neg (by omega), if_neg (by simpa using c)]
  | cons s pre ih =>
    cases legs with
    | nil => simp at hp
    | cons l legs =>
      have A := ih (legs := legs) (by simpa using hp)
      obtain ⟨x0, xs, ex, ex2⟩ := goB_cons (some (e.o, e.c)) (pre.zip legs)
      simp only [List.zip_cons_cons, goW, goB, List.cons_append]
      refine ⟨by simp [A.len], by simp [A.wlen], fun k x hx => ?_, fun k s' l' x y h1 h2 h3 h4 => ?_, fun k s' l' x y h1 h2 h3 h4 => ?_, fun kvs x hk hx h => ?_⟩
      · cases k with
        | zero =>
          have : stepB s l ((goB (pre.zip legs) (some (e.o, e.c))).headD none) = x := by simpa using hx
          subst this
          exact ⟨_, rfl, fits_kvB s l _⟩
        | succ k => simpa using A.fit k x (by simpa using hx)
      · cases k with
        | zero =>
          have e1 : s = s' := by simpa using h1
          have e2 : l = l' := by simpa using h2
          subst e1; subst e2
          have e3 : stepB s l ((goB (pre.zip legs) (some (e.o, e.c))).headD none) = x := Option.some.inj h3
          have e4 : x0 = y := by rw [ex] at h4; exact Option.some.inj h4
          subst e4
          refine ⟨_, rfl, fun h => ?_⟩
          rw [dget_kvB, e3, ex2]
        | succ k => simpa using A.get k s' l' x y (by simpa using h1) (by simpa using h2) (by simpa using h3) (by simpa using h4)
      · cases k with
        | zero =>
          have e1 : s = s' := by simpa using h1
          have e2 : l = l' := by simpa using h2
          subst e1; subst e2
          have e3 : stepB s l ((goB (pre.zip legs) (some (e.o, e.c))).headD none) = x := Option.some.inj h3
          have e4 : x0 = y := by rw [ex] at h4; exact Option.some.inj h4
          subst e4
          rw [← e3, ex2]
        | succ k => exact A.stp k s' l' x y (by simpa using h1) (by simpa using h2) (by simpa using h3) (by simpa using h4)
      · exact A.last kvs x (by simpa using hk) (by simpa using hx) h
theorem goB_bnd' {e : Stop} (he : OkS e) : ∀ ps : List (Stop × Leg), (∀ p ∈ ps, OkS p.1) → ∀ (k : Nat) a b, (goB ps (some (e.o, e.c)))[k]? = some (some (a, b)) → 0 ≤ a ∧ a ≤ b ∧ b ≤ 10000
  | [], _, k, a, b, h => by
    obtain ⟨a1, a2, a3, a4, a5, a6, a7⟩ := he
    cases k with
    | zero => simp [goB] at h; omega
    | succ k => simp [goB] at h
  | (s, l) :: r, hp, k, a, b, h => by
    cases k with
    | succ k => exact goB_bnd' he r (fun p q => hp p (List.mem_cons_of_mem _ q)) k a b (by simpa [goB] using h)
    | zero =>
      obtain ⟨a1, a2, a3, a4, a5, a6, a7⟩ := hp (s, l) List.mem_cons_self
      have h' : stepB s l ((goB r (some (e.o, e.c))).headD none) = some (a, b) := by simpa [goB] using h
      cases hx : (goB r (some (e.o, e.c))).headD none with
      | none => rw [hx] at h'; cases h'
      | some p =>
        obtain ⟨u, v⟩ := p
        rw [hx] at h'
        unfold stepB at h'
        simp only at h'
        split at h'
        · rename_i c
          simp [anyB] at c
          cases h'
          have a1' : 0 ≤ s.o := a1
          have a5' : s.c ≤ 10000 := a5
          have q1 : s.o ≤ lowB s l u := by unfold lowB; omega
          have q2 : topB s l v ≤ s.c := by unfold topB; omega
          omega
        · cases h'
theorem zip_ok {pre : List Stop} {e : Stop} {legs : List Leg} (h : Good (pre ++ [e]) legs) : ∀ p ∈ pre.zip legs, OkS p.1 ∧ OkL p.2 := fun p hp => by
  obtain ⟨s, l⟩ := p
  exact ⟨h.st s (by have := (List.of_mem_zip hp).1; simp; exact .inl this), h.lg l (List.of_mem_zip hp).2⟩
theorem goB_bnd {pre : List Stop} {e : Stop} {legs : List Leg} (h : Good (pre ++ [e]) legs) (k : Nat) (a b : Int) (hk : (goB (pre.zip legs) (some (e.o, e.c)))[k]? = some (some (a, b))) : 0 ≤ a ∧ a ≤ b ∧ b ≤ 10000 := goB_bnd' (h.st e (by simp)) _ (fun p hp => (zip_ok h p hp).1) k a b hk
theorem told_ok (s : Stop) (l : Leg) (e z h : Int) : F_told_going s.D l.D (S2D (some (e, z))) (.int h) = .ok (.int (max (max h s.g) (e - l.a))) := by
  unfold F_told_going B_told_going
  simp [S2D, ixS2, ixG0, max3I_iii]
section
variable {pre : List Stop} {e : Stop} {legs : List Leg}
theorem xs_len (hp : pre.length = legs.length) : (goB (pre.zip legs) (some (e.o, e.c))).length = legs.length + 1 := by rw [goB_len]; simp; omega
theorem safe_ok2 (h : Good (pre ++ [e]) legs) : F_safe (courseD (pre ++ [e]) legs) = .ok (.list ((goB (pre.zip legs) (some (e.o, e.c))).map S2D)) := by
  rw [safe_ok h]
  simp [safeB]
theorem has_rule_ok (h : Good (pre ++ [e]) legs) {x : Str2} (hx : (goB (pre.zip legs) (some (e.o, e.c)))[0]? = some x) (t : Int) : F_has_rule (courseD (pre ++ [e]) legs) (.int t) = .ok (.bool (inS x t)) := by
  unfold F_has_rule B_has_rule
  simp only [R.ok_bind, aC_okr, aN_ok, fn1_ok, fn2_ok, safe_ok2 h]
  rw [ixL (i := 0) 0 rfl (show ((goB (pre.zip legs) (some (e.o, e.c))).map S2D)[0]? = some (S2D x) by simp [hx])]
  simp [within_ok]
theorem going_ok (h : Good (pre ++ [e]) legs) (hp : pre.length = legs.length) {k : Nat} (hk : k < (pre ++ [e]).length) (t : Int) (ht : t.natAbs < 2 ^ 50) :
    ∃ kvs, (goW (pre.zip legs) e)[k]? = some (.dict kvs) ∧ kdict kvs = true ∧ F_going (courseD (pre ++ [e]) legs) (.int k) (.int t) = .ok ((dget kvs (.int t)).getD .none) ∧ tiny ((dget kvs (.int t)).getD .none) = true ∧ ((dget kvs (.int t)).getD .none).depth = 0 ∧ cells ((dget kvs (.int t)).getD .none) = 1 := by
  have he : OkS e := h.st e (by simp)
  have A := at_ok (e := e) hp he.2.1
  have hl := xs_len (e := e) hp
  simp only [List.length_append, List.length_cons, List.length_nil] at hk
  obtain ⟨x, hx⟩ : ∃ x, (goB (pre.zip legs) (some (e.o, e.c)))[k]? = some x := ⟨_, List.getElem?_eq_getElem (by omega)⟩
  obtain ⟨kvs, hw, hf⟩ := A.fit k x hx
  refine ⟨kvs, hw, hf.1, ?_⟩
  have ix : ixD (.list ((goB (pre.zip legs) (some (e.o, e.c))).map S2D)) (.int k) = .ok (S2D x) := ixL k rfl (by simp [hx])
  unfold F_going B_going
  simp only [R.ok_bind, aC_okr, aN_ok, fn1_ok, fn2_ok, fn4_ok, safe_ok2 h, lenD_l, List.length_map, hl, subI_ii, eqS_ii, asB_b, ix, within_ok, courseIx0, courseIx1]
  by_cases c : k = legs.length
  · rw [if_pos (by simp; omega)]
    have d := A.last kvs x (by rw [← c]; exact hw) (by rw [← c]; exact hx) t
    have d2 : (dget kvs (.int t)).getD .none = .none := by rw [d]; split <;> rfl
    simp [d2, tiny, PyData.depth, cells]
  · rw [if_neg (by simp; omega)]
    obtain ⟨y, hy⟩ : ∃ y, (goB (pre.zip legs) (some (e.o, e.c)))[k + 1]? = some y := ⟨_, List.getElem?_eq_getElem (by omega)⟩
    have hs : (pre ++ [e])[k]? = some pre[k] := by rw [List.getElem?_append_left (by omega)]; exact List.getElem?_eq_getElem _
    have hlg : legs[k]? = some legs[k] := List.getElem?_eq_getElem (by omega)
    obtain ⟨kvs', hw', hd⟩ := A.get k _ _ x y hs hlg hx hy
    rw [hw] at hw'; cases hw'
    have st := A.stp k _ _ x y hs hlg hx hy
    cases c2 : inS x t with
    | false =>
      have := hd t
      rw [c2] at this
      simp [this, tiny, PyData.depth, cells]
    | true =>
      have := hd t
      rw [c2, if_pos rfl] at this
      cases y with
      | none =>
        have : x = none := st
        subst this
        simp [inS] at c2
      | some p =>
        obtain ⟨a, b⟩ := p
        have i1 : ixD (.list (pre.map Stop.D ++ [e.D])) (.int k) = .ok pre[k].D := ixL k rfl (by rw [List.getElem?_append_left (by simp; omega), List.getElem?_map, List.getElem?_eq_getElem (by omega)]; rfl)
        have i2 : ixD (.list (legs.map Leg.D)) (.int k) = .ok legs[k].D := ixL k rfl (by rw [List.getElem?_map, hlg]; rfl)
        have i3 : ixD (.list ((goB (pre.zip legs) (some (e.o, e.c))).map S2D)) (.int ((k : Int) + 1)) = .ok (S2D (some (a, b))) := ixL (k + 1) (by omega) (by simp [hy])
        have bb := goB_bnd (legs := legs) h (k + 1) a b hy
        have b2 := (h.lg legs[k] (List.getElem_mem _)).2.2
        have b3 := (h.lg legs[k] (List.getElem_mem _)).1
        have b4 := (h.st pre[k] (by simp)).2.2
        simp [i1, i2, i3, told_ok, this, tiny, PyData.depth, cells]
        omega
theorem spoilt_ok (h : Good (pre ++ [e]) legs) (hp : pre.length = legs.length) {k : Nat} {l : Leg} {y : Str2} (hl : legs[k]? = some l) (hy : (goB (pre.zip legs) (some (e.o, e.c)))[k + 1]? = some y) (t : Int) :
    F_spoilt (courseD (pre ++ [e]) legs) (.int k) (.int t) = .ok (if inS y (t + l.a) = false then .int l.a else if inS y (t + l.b) = false then .int l.b else .none) := by
  have i2 : ixD (.list (legs.map Leg.D)) (.int k) = .ok l.D := ixL k rfl (by simp [hl])
  have i3 : ixD (.list ((goB (pre.zip legs) (some (e.o, e.c))).map S2D)) (.int ((k : Int) + 1)) = .ok (S2D y) := ixL (k + 1) (by omega) (by simp [hy])
  unfold F_spoilt B_spoilt
  simp [safe_ok2 h, courseIx1, i2, i3]
  simp [Leg.D, forR_cons, within_ok]
  cases c1 : inS y (t + l.a) <;> cases c2 : inS y (t + l.b) <;> simp
end

theorem isi_list (ds : List PyData) : isiD "list" (.list ds) = .ok (.bool true) := by
  unfold isiD
  simp only [tyD]
  rw [show kitB "list" "list" = some true from by decide +kernel]
theorem isi_bool (b : Bool) : isiD "bool" (.bool b) = .ok (.bool true) := by
  unfold isiD
  simp only [tyD]
  rw [show kitB "bool" "bool" = some true from by decide +kernel]
theorem tinyA_map {α : Type} {f : α → PyData} : ∀ {xs : List α}, (∀ x ∈ xs, tiny (f x) = true) → tinyA (xs.map f) = true
  | [], _ => rfl
  | x :: xs, h => by
    rw [List.map_cons]
    simp only [tinyA, Bool.and_eq_true]
    exact ⟨h x List.mem_cons_self, tinyA_map fun y hy => h y (List.mem_cons_of_mem _ hy)⟩
theorem depthA_map {α : Type} {f : α → PyData} {n : Nat} : ∀ {xs : List α}, (∀ x ∈ xs, (f x).depth ≤ n) → PyData.depthAll (xs.map f) ≤ n
  | [], _ => Nat.zero_le _
  | x :: xs, h => by
    rw [List.map_cons]
    simp only [PyData.depthAll]
    have a := h x List.mem_cons_self
    have b := depthA_map (f := f) (n := n) (xs := xs) fun y hy => h y (List.mem_cons_of_mem _ hy)
    omega
theorem cellsA_map {α : Type} {f : α → PyData} {n : Nat} : ∀ {xs : List α}, (∀ x ∈ xs, cells (f x) ≤ n) → cellsA (xs.map f) ≤ n * xs.length
  | [], _ => by simp [cellsA]
  | x :: xs, h => by
    rw [List.map_cons]
    simp only [cellsA, List.length_cons]
    have a := h x List.mem_cons_self
    have b := cellsA_map (f := f) (n := n) (xs := xs) fun y hy => h y (List.mem_cons_of_mem _ hy)
    rw [Nat.mul_add]
    omega
theorem repr_course {stops : List Stop} {legs : List Leg} (h : Good stops legs) : reprD (courseD stops legs) = .ok (.str (courseD stops legs).shown) := by
  have h2 := h.n4
  have h3 := h.ln
  refine reprD_ok ?_ ?_ ?_
  · unfold courseD
    simp only [tiny, tinyA, Bool.and_true, Bool.and_eq_true]
    refine ⟨tinyA_map fun s hs => ?_, tinyA_map fun l hl => ?_⟩
    · obtain ⟨a1, a2, a3, a4, a5, a6, a7⟩ := h.st s hs
      simp [Stop.D, tiny, tinyA]; omega
    · obtain ⟨b1, b2, b3⟩ := h.lg l hl
      simp [Leg.D, tiny, tinyA]; omega
  · unfold courseD
    simp only [PyData.depth, PyData.depthAll]
    have a := depthA_map (f := Stop.D) (n := 1) (xs := stops) fun s _ => by simp [Stop.D, PyData.depth, PyData.depthAll]
    have b := depthA_map (f := Leg.D) (n := 1) (xs := legs) fun s _ => by simp [Leg.D, PyData.depth, PyData.depthAll]
    omega
  · unfold courseD
    simp only [cells, cellsA]
    have a := cellsA_map (f := Stop.D) (n := 5) (xs := stops) fun s _ => by simp [Stop.D, cells, cellsA]
    have b := cellsA_map (f := Leg.D) (n := 5) (xs := legs) fun s _ => by simp [Leg.D, cells, cellsA]
    omega
theorem repr_S2 {pre : List Stop} {e : Stop} {legs : List Leg} (h : Good (pre ++ [e]) legs) (hp : pre.length = legs.length) : reprD (.list ((goB (pre.zip legs) (some (e.o, e.c))).map S2D)) = .ok (.str (PyData.list ((goB (pre.zip legs) (some (e.o, e.c))).map S2D)).shown) := by
  have h2 := h.n4
  have hl := xs_len (e := e) hp
  simp only [List.length_append, List.length_cons, List.length_nil] at h2
  refine reprD_ok ?_ ?_ ?_
  · simp only [tiny]
    refine tinyA_map fun x hx => ?_
    obtain ⟨k, hk⟩ := List.mem_iff_getElem?.mp hx
    cases x with
    | none => rfl
    | some p =>
      obtain ⟨a, b⟩ := p
      have := goB_bnd h k a b hk
      simp [S2D, tiny, tinyA]; omega
  · simp only [PyData.depth]
    have a := depthA_map (f := S2D) (n := 1) (xs := goB (pre.zip legs) (some (e.o, e.c))) fun x _ => by
      cases x with
      | none => simp [S2D, PyData.depth]
      | some p => simp [S2D, PyData.depth, PyData.depthAll]
    omega
  · simp only [cells]
    have a := cellsA_map (f := S2D) (n := 3) (xs := goB (pre.zip legs) (some (e.o, e.c))) fun x _ => by
      cases x with
      | none => simp [S2D, cells]
      | some p => simp [S2D, cells, cellsA]
    omega
theorem inK_fits {kvs : List (PyData × PyData)} {x : Str2} (h : Fits kvs x) (t : Int) : inK (.int t) (.dict kvs) = .ok (.bool (inS x t)) := by
  show (if isKey (.int t) = true ∧ kdict kvs = true then R.ok (PyData.bool (dget kvs (.int t)).isSome) else .stuck) = _
  rw [if_pos ⟨rfl, h.1⟩, h.2]
theorem notK_fits {kvs : List (PyData × PyData)} {x : Str2} (h : Fits kvs x) (t : Int) : notK (.int t) (.dict kvs) = .ok (.bool (!inS x t)) := by
  show (if isKey (.int t) = true ∧ kdict kvs = true then R.ok (PyData.bool (!(dget kvs (.int t)).isSome)) else .stuck) = _
  rw [if_pos ⟨rfl, h.1⟩, h.2]
theorem unT_course (stops : List Stop) (legs : List Leg) : unT 2 (tsC (fun d => R.ok d) (tsC (fun d => R.ok d) tsN)) (courseD stops legs) = .ok (.list (stops.map Stop.D), .list (legs.map Leg.D), ()) := by
  simp [courseD, unT_ok]
theorem rangeL_mem {lo : Int} {n : Nat} {d : PyData} (h : d ∈ rangeL lo n) : ∃ i : Nat, i < n ∧ d = .int (lo + i) := by
  obtain ⟨i, hi⟩ := List.mem_iff_getElem?.mp h
  obtain ⟨h1, h2⟩ := rangeL_get hi
  exact ⟨i, h1, h2⟩
theorem two_ok {kvs : List (PyData × PyData)} {y : Str2} (h : Fits kvs y) (t a b : Int) : compR (fun d => R.ok d) (fun x18 => ((addI (.int t) x18).bind fun x => notK x (.dict kvs)).bind asB) (fun d => R.ok d) [.int a, .int b] =
    .ok ((if inS y (t + a) = false then [PyData.int a] else []) ++ (if inS y (t + b) = false then [PyData.int b] else [])) := by
  simp only [compR_cons, compR_nil, R.ok_bind, addI_ii, notK_fits h, asB_b, sx_ok']
  cases inS y (t + a) <;> cases inS y (t + b) <;> rfl
theorem none_ok {kvs : List (PyData × PyData)} {y : Str2} (h : Fits kvs y) {t a b : Int} (h1 : inS y (t + a) = true) (h2 : inS y (t + b) = true) (hab : a ≤ b) : compR (fun d => R.ok d) (fun x18 => ((addI (.int t) x18).bind fun x => notK x (.dict kvs)).bind asB) (fun d => R.ok d) (rangeL a (b - a).toNat) = .ok [] := by
  rw [compR_eq (fun _ => false) id _ fun d hd => by
    obtain ⟨i, hi, rfl⟩ := rangeL_mem hd
    refine ⟨_, rfl, ?_, fun z => by cases z⟩
    rw [addI_ii, R.ok_bind, notK_fits h, R.ok_bind]
    have : inS y (t + (a + (i : Int))) = true := by
      cases y with
      | none => simp [inS] at h1
      | some p =>
        obtain ⟨u, v⟩ := p
        simp [inS] at h1 h2 ⊢
        omega
    rw [this]
    rfl]
  simp
theorem getK_ok {kvs : List (PyData × PyData)} (t : Int) : getK kvs (.int t) = .ok ((dget kvs (.int t)).getD .none) := if_pos rfl
theorem dctOf_ok {kvs : List (PyData × PyData)} (h : kdict kvs = true) : dctOf (.dict kvs) = .ok kvs := if_pos h
theorem right_ok {pre : List Stop} {e : Stop} {legs : List Leg} {D : PyData} (hD : isDraws D) (k : Int) (hk : 0 ≤ k ∧ k ≤ 10000) (h : Good (pre ++ [e]) legs) (hp : pre.length = legs.length) :
    F__law_course_right D (.int k) (courseD (pre ++ [e]) legs) = .ok (.bool true) := by
  have he : OkS e := h.st e (by simp)
  have A := at_ok (e := e) hp he.2.1
  have hl := xs_len (e := e) hp
  have hn4 := h.n4
  have hn2 := h.n2
  simp only [List.length_append, List.length_cons, List.length_nil] at hn4 hn2
  unfold F__law_course_right B__law_course_right
  simp only [R.ok_bind, aC_okr, aN_ok, fn1_ok, wins_ok rfl h, seqOf_list, due_ok he _ (zip_ok h), safe_ok2 h]
  rw [mkL_ok (by simp; omega)]
  simp only [R.ok_bind, repr_course h, repr_S2 h hp, isi_list, asB_b, neS_ss, decide_true, Bool.not_true, eqS_ss]
  rw [appD_ok (by simp; omega)]
  simp only [R.ok_bind, if_neg Bool.false_ne_true, unT_course]
  rw [rng1_ok (by omega)]
  simp only [R.ok_bind]
  rw [forR_skip (s := ()) _ fun d hd => by
    obtain ⟨i, hi, rfl⟩ := rangeL_mem hd
    have hi6 : i < 6 := hi
    have hi6' : 0 ≤ 0 + (i : Int) ∧ 0 + (i : Int) < 6 := by omega
    generalize 0 + (i : Int) = j at hi6'
    have ixS : ∀ (n : Nat) s, (pre ++ [e])[n]? = some s → ixD (.list ((pre ++ [e]).map Stop.D)) (.int n) = .ok s.D := fun n s hs => ixL n rfl (by rw [List.getElem?_map, hs]; rfl)
    obtain ⟨s0, hs0⟩ : ∃ s, (pre ++ [e])[0]? = some s := ⟨_, List.getElem?_eq_getElem (by simp)⟩
    obtain ⟨x0, hx0⟩ : ∃ x, (goB (pre.zip legs) (some (e.o, e.c)))[0]? = some x := ⟨_, List.getElem?_eq_getElem (by omega)⟩
    obtain ⟨kvs0, hw0, hf0⟩ := A.fit 0 x0 hx0
    have ok0 := h.st s0 (List.mem_of_getElem? hs0)
    obtain ⟨v1, ev1, b1, b1'⟩ := mix_ok hD (k := k + j) (many := s0.c - s0.o + 5) (by omega) (by have := ok0.2.1; omega)
    have ixs0 := ixS 0 s0 hs0
    have ixw0 : ixD (.list (goW (pre.zip legs) e)) (.int 0) = .ok (.dict kvs0) := ixL (i := 0) 0 rfl hw0
    simp only [Int.natCast_zero] at ixs0
    simp only [ixs0, R.ok_bind, ixS0, ixS1, subI_ii, addI_ii, aC_okr, maxI_ii, fn2_ok, fn3_ok, ev1, has_rule_ok h hx0, isi_bool, asB_b, Bool.not_true, if_neg Bool.false_ne_true, ixw0, inK_fits hf0, neS_bb, decide_true, lenD_l, List.length_map]
    obtain ⟨v2, ev2, b2, b2'⟩ := mix_ok hD (k := k + 20 + j) (many := ((pre ++ [e]).length : Int)) (by omega) (by rw [List.length_append]; simp only [List.length_cons, List.length_nil]; omega)
    obtain ⟨n, rfl⟩ : ∃ n : Nat, v2 = n := ⟨v2.toNat, by omega⟩
    have hn : n < (pre ++ [e]).length := by omega
    have hsn := List.getElem?_eq_getElem hn
    generalize (pre ++ [e])[n] = sn at hsn
    have okn := h.st sn (List.mem_of_getElem? hsn)
    obtain ⟨o1, o2, o3, o4, o5, o6, o7⟩ := okn
    obtain ⟨v3, ev3, b3, b3'⟩ := mix_ok hD (k := k + 30 + j) (many := sn.c - sn.o + 5) (by omega) (by omega)
    have hcm : (max 0 (sn.o - 2) + v3).natAbs < 2 ^ 50 := by omega
    obtain ⟨kvs, hw, kd, hgo, t1, t2, t3⟩ := going_ok h hp hn (max 0 (sn.o - 2) + v3) hcm
    have ixw : ixD (.list (goW (pre.zip legs) e)) (.int n) = .ok (.dict kvs) := ixL n rfl hw
    simp only [ev2, R.ok_bind, ixS n sn hsn, ixS0, ixS1, subI_ii, addI_ii, aC_okr, maxI_ii, fn2_ok, fn3_ok, ev3, hgo, ixw, dctOf_ok kd, getK_ok, reprD_ok t1 (by omega) (by omega), neS_ss, decide_true, Bool.not_true, asB_b, if_neg Bool.false_ne_true, ltI_ii]
    generalize max 0 (sn.o - 2) + v3 = cm at hcm
    by_cases c : n < legs.length
    · rw [if_pos (by simp; omega)]
      obtain ⟨v4, ev4, b4, b4'⟩ := mix_ok hD (k := k + 40 + j) (many := 9) (by omega) (by omega)
      have hln := List.getElem?_eq_getElem c
      generalize legs[n] = l at hln
      obtain ⟨l1, l2, l3⟩ := h.lg l (List.mem_of_getElem? hln)
      obtain ⟨y, hy⟩ : ∃ x, (goB (pre.zip legs) (some (e.o, e.c)))[n + 1]? = some x := ⟨_, List.getElem?_eq_getElem (by omega)⟩
      obtain ⟨kvs1, hw1, hf1⟩ := A.fit (n + 1) y hy
      have ixw1 : ixD (.list (goW (pre.zip legs) e)) (.int ((n : Int) + 1)) = .ok (.dict kvs1) := ixL (n + 1) (by omega) hw1
      have ixl : ixD (.list (legs.map Leg.D)) (.int n) = .ok l.D := ixL n rfl (by rw [List.getElem?_map, hln]; rfl)
      have sq : seqOf l.D = .ok [.int l.a, .int l.b] := rfl
      simp only [ev4, R.ok_bind, addI_ii, ixl, sq, ixw1, two_ok hf1, spoilt_ok h hp hln hy, fn3_ok, aC_okr, ixG0, ixG1]
      generalize cm + v4 = t
      rw [rng2_ok (by omega) (by omega)]
      simp only [R.ok_bind]
      have r1 : reprD (.int l.a) = .ok (.str (PyData.shown (.int l.a))) := reprD_ok (by simp [tiny]; omega) (by simp [PyData.depth]) (by simp [cells])
      have r2 : reprD (.int l.b) = .ok (.str (PyData.shown (.int l.b))) := reprD_ok (by simp [tiny]; omega) (by simp [PyData.depth]) (by simp [cells])
      have r3 : reprD .none = .ok (.str (PyData.shown .none)) := reprD_ok rfl (by simp [PyData.depth]) (by simp [cells])
      have q1 : tiny (.list [.int l.a]) = true := by simp [tiny, tinyA]; omega
      have q2 : tiny (.list [.int l.b]) = true := by simp [tiny, tinyA]; omega
      have q3 : tiny (.list [.int l.a, .int l.b]) = true := by simp [tiny, tinyA]; omega
      cases c1 : inS y (t + l.a) <;> cases c2 : inS y (t + l.b)
      · simp [mkL_ok, catL_ok, r1]
        rw [eqD_ok q3 rfl (by simp [PyData.depth, PyData.depthAll]) (by decide), eqv_nil]
        simp
      · simp [mkL_ok, catL_ok, r1]
        rw [eqD_ok q1 rfl (by simp [PyData.depth, PyData.depthAll]) (by decide), eqv_nil]
        simp
      · simp [mkL_ok, catL_ok, r2]
        rw [eqD_ok q2 rfl (by simp [PyData.depth, PyData.depthAll]) (by decide), eqv_nil]
        simp
      · rw [none_ok hf1 c1 c2 l2]
        simp [mkL_ok, catL_ok, r3]
        rw [eqD_ok rfl rfl (by decide) (by decide), neD_ok rfl rfl (by decide) (by decide), eqv_nil]
        simp
    · rw [if_neg (by simp; omega)]
      rfl]
  rfl

/-- one of three, by a draw -/
theorem pick3 {a b c : Int} {v : Int} (h : 0 ≤ v ∧ v < 3) : ∃ x : Int, ixD (.list [.int a, .int b, .int c]) (.int v) = .ok (.int x) ∧ (x = a ∨ x = b ∨ x = c) := by
  have : v = 0 ∨ v = 1 ∨ v = 2 := by omega
  rcases this with rfl | rfl | rfl
  · exact ⟨a, ixL 0 rfl rfl, .inl rfl⟩
  · exact ⟨b, ixL 1 rfl rfl, .inr (.inl rfl)⟩
  · exact ⟨c, ixL 2 rfl rfl, .inr (.inr rfl)⟩
theorem course_ok {D : PyData} (hD : isDraws D) {k many span : Int} (hk : 0 ≤ k ∧ k ≤ 10000) (hm : 2 ≤ many ∧ many ≤ 4) (hs : 1 ≤ span ∧ span ≤ 8) :
    (F__law_course D (.int k) (.int many) (.int span)).to fun c => ∃ pre e legs, c = courseD (pre ++ [e]) legs ∧ pre.length = legs.length ∧ Good (pre ++ [e]) legs := by
  unfold F__law_course B__law_course
  obtain ⟨h0, eh0, p1, p2⟩ := mix_ok hD (k := k) (many := span) (by omega) (by omega)
  simp only [R.ok_bind, aC_okr, aN_ok, fn3_ok, eh0]
  rw [rng1_ok (by omega)]
  simp only [R.ok_bind]
  refine to_bind (to_bind (to_for (fun n s => ∃ (ss : List Stop) (ls : List Leg) (hour late : Int), s = (.list (ss.map Stop.D), .list (ls.map Leg.D), .int hour, .int late) ∧ ss.length = n ∧ ls.length = n ∧ 0 ≤ hour ∧ hour ≤ late ∧ late ≤ 100 + 100 * n ∧ (∀ s ∈ ss, OkS s) ∧ ∀ l ∈ ls, OkL l)
    ⟨[], [], h0, h0, rfl, rfl, rfl, p1, Int.le_refl _, by omega, by simp, by simp⟩ (fun i d s hd ⟨ss, ls, hour, late, es, n1, n2, q1, q2, q3, oS, oL⟩ => ?_) fun s ⟨ss, ls, hour, late, es, n1, n2, q1, q2, q3, oS, oL⟩ => ?_))
  · obtain ⟨hi, rfl⟩ := rangeL_get hd
    have hi4 : i < 4 := by omega
    subst es
    have hi' : 0 ≤ 0 + (i : Int) ∧ 0 + (i : Int) < 4 := by omega
    generalize hj : 0 + (i : Int) = j at hi'
    simp only [R.ok_bind, addI_ii]
    rw [mulI_sm (by decide) (by have h3 : (2 : Nat) ^ 200 > 1000 := by decide
                                omega)]
    simp only [R.ok_bind, addI_ii]
    have hat : 0 ≤ k + 1 + 8 * j ∧ k + 1 + 8 * j ≤ 20000 := by omega
    generalize k + 1 + 8 * j = at' at hat
    obtain ⟨bf, e1, b1, b1'⟩ := mix_ok hD (k := at') (many := span) (by omega) (by omega)
    obtain ⟨bh, e2, b2, b2'⟩ := mix_ok hD (k := at' + 1) (many := span) (by omega) (by omega)
    obtain ⟨g1, e3, b3, b3'⟩ := mix_ok hD (k := at' + 2) (many := span) (by omega) (by omega)
    obtain ⟨g2, e4, b4, b4'⟩ := mix_ok hD (k := at' + 3) (many := span) (by omega) (by omega)
    obtain ⟨w, e5, b5, b5'⟩ := mix_ok hD (k := at' + 5) (many := 3) (by omega) (by omega)
    obtain ⟨m1, e6, b6⟩ := pick3 (a := span) (b := 3 * span) (c := 2) ⟨b5, b5'⟩
    obtain ⟨m2, e7, b7⟩ := pick3 (a := 1) (b := 3) (c := span) ⟨b5, b5'⟩
    obtain ⟨sd, e8, b8, b8'⟩ := mix_ok hD (k := at' + 4) (many := m1) (by omega) (by omega)
    obtain ⟨la, e9, b9, b9'⟩ := mix_ok hD (k := at' + 6) (many := span) (by omega) (by omega)
    obtain ⟨lb, e10, b10, b10'⟩ := mix_ok hD (k := at' + 7) (many := m2) (by omega) (by omega)
    simp only [e1, e2, e3, e4, e5, R.ok_bind, addI_ii, subI_ii, maxI_ii, minI_ii, aC_okr, fn2_ok, fn3_ok]
    rw [mulI_sm (by decide) (by have h3 : (2 : Nat) ^ 200 > 1000 := by decide
                                omega)]
    simp only [R.ok_bind, aC_okr, fn3_ok]
    rw [mkL_ok (by simp), mkL_ok (by simp)]
    simp only [R.ok_bind, e6, e7, e8, e9, e10, addI_ii, aC_okr, fn3_ok]
    rw [mkT_ok (by simp), R.ok_bind, appD_ok (by simp; omega)]
    simp only [R.ok_bind]
    rw [mkT_ok (by simp), R.ok_bind, appD_ok (by simp; omega)]
    simp only [R.ok_bind]
    refine to_ok ⟨_, .inl rfl, ss ++ [⟨max 0 (hour - bf), late + bh, max 0 (hour + g1 - g2), sd⟩], ls ++ [⟨1 + la, 1 + la + lb⟩], max hour (min (max 0 (hour + g1 - g2)) (hour + sd)) + (1 + la), max late (max 0 (hour + g1 - g2)) + (1 + la + lb), ?_, by simp [n1], by simp [n2], ?_, ?_, ?_, ?_, ?_⟩
    · simp [Stop.D, Leg.D]
      split <;> split at * <;> omega
    · omega
    · omega
    · omega
    · intro s hs
      rcases List.mem_append.mp hs with z | z
      · exact oS s z
      · simp at z; subst z
        refine ⟨?_, ?_, ?_, ?_, ?_, ?_, ?_⟩ <;> dsimp only <;> omega
    · intro l hl
      rcases List.mem_append.mp hl with z | z
      · exact oL l z
      · simp at z; subst z
        refine ⟨?_, ?_, ?_⟩ <;> dsimp only <;> omega
  · subst es
    rw [rangeL_len] at n1 n2 q3
    have hn : 2 ≤ ss.length ∧ ss.length ≤ 4 := by omega
    obtain ⟨pre, e, rfl⟩ : ∃ pre e, ss = pre ++ [e] := ⟨ss.dropLast, ss.getLast (by intro z; rw [z] at hn; simp at hn), (List.dropLast_concat_getLast _).symm⟩
    have hcut : ∀ ds : List PyData, cutLD (.list ds) none (some (-1)) = .ok (.list ds.dropLast) := fun ds => by
      show R.ok (PyData.list (cutL ds none (some (-1)))) = _
      congr 2
      unfold cutL
      rw [HT.sIx_none]
      have : HT.sIx ds.length ds.length (some (-1)) = ds.length - 1 := by
        show (if (-1 : Int) < 0 then ((-1 : Int) + (ds.length : Int)).toNat else min (-1 : Int).toNat ds.length) = _
        rw [if_pos (by decide)]
        omega
      rw [this, List.drop_zero, Nat.sub_zero, List.dropLast_eq_take]
    simp only [Fl.done_nx, R.ok_bind, negI_i, asI_int, hcut, aC_okr]
    rw [mkT_ok (by simp)]
    refine to_ok (to_ok ⟨pre, e, ls.dropLast, ?_, ?_, ?_⟩)
    · simp [courseD, List.map_dropLast]
    · simp at n1 ⊢; omega
    · refine ⟨by simpa using hn.1, by omega, by simp at n1 ⊢; omega, oS, fun l hl => oL l (List.dropLast_subset _ hl)⟩

def plain : PyData := courseD [⟨0, 0, 0, 9⟩, ⟨0, 20, 0, 2⟩, ⟨0, 99, 0, 0⟩] [⟨1, 5⟩, ⟨1, 1⟩]
def never : PyData := courseD [⟨0, 0, 0, 20⟩, ⟨10, 12, 0, 0⟩] [⟨1, 5⟩]
theorem plain_good : Good ([⟨0, 0, 0, 9⟩, ⟨0, 20, 0, 2⟩] ++ [⟨0, 99, 0, 0⟩]) [⟨1, 5⟩, ⟨1, 1⟩] := by
  refine ⟨by decide, by decide, rfl, ?_, ?_⟩
  · intro s hs
    simp at hs
    rcases hs with rfl | rfl | rfl <;> (refine ⟨?_, ?_, ?_, ?_, ?_, ?_, ?_⟩ <;> decide)
  · intro l hl
    simp at hl
    rcases hl with rfl | rfl <;> (refine ⟨?_, ?_, ?_⟩ <;> decide)
theorem never_good : Good ([⟨0, 0, 0, 20⟩] ++ [⟨10, 12, 0, 0⟩]) [⟨1, 5⟩] := by
  refine ⟨by decide, by decide, rfl, ?_, ?_⟩
  · intro s hs
    simp at hs
    rcases hs with rfl | rfl <;> (refine ⟨?_, ?_, ?_, ?_, ?_, ?_, ?_⟩ <;> decide)
  · intro l hl
    simp at hl
    subst hl
    refine ⟨?_, ?_, ?_⟩ <;> decide
theorem rule_plain : F_has_rule plain (.int 0) = .ok (.bool true) := has_rule_ok plain_good (x := some (0, 0)) (by decide) 0
theorem rule_never : F_has_rule never (.int 0) = .ok (.bool false) := has_rule_ok never_good (x := none) (by decide) 0
theorem safe_never : F_safe never = .ok (.list [.none, .tuple [.int 10, .int 12]]) := safe_ok2 never_good
theorem going_plain : F_going plain (.int 0) (.int 0) = .ok (.int 0) := by
  obtain ⟨kvs, hw, kd, e, _⟩ := going_ok plain_good rfl (k := 0) (by decide) 0 (by decide)
  have e2 : F_going plain (.int 0) (.int 0) = .ok ((dget kvs (.int 0)).getD .none) := e
  rw [e2]
  have : (PyData.dict kvs) = .dict (ivl 0 1 fun h => .int (max (max h 0) (0 - 1))) := (Option.some.inj hw).symm
  cases this
  rw [dget_ivl]
  rfl
theorem law_true (ns : List Int) (hl : ns.length ≤ 63) : fn1 F_law [.list (ns.map .int)] = .ok (.bool true) := by
  obtain ⟨D, eD, hD⟩ := draws_ok ns hl
  rw [fn1_ok]
  unfold F_law B_law
  simp only [R.ok_bind, aC_okr, aN_ok, fn1_ok, eD]
  rw [rng1_ok (by omega)]
  simp only [R.ok_bind]
  rw [forR_skip (s := ()) _ fun d hd => by
    obtain ⟨i, hi, rfl⟩ := rangeL_mem hd
    have hi4 : i < 4 := hi
    have hj : 0 ≤ 0 + (i : Int) ∧ 0 + (i : Int) < 4 := by omega
    generalize 0 + (i : Int) = j at hj
    obtain ⟨v1, e1, b1, b1'⟩ := mix_ok hD (k := j) (many := 3) (by omega) (by omega)
    obtain ⟨v2, e2, b2, b2'⟩ := mix_ok hD (k := 4 + j) (many := 3) (by omega) (by omega)
    obtain ⟨sp, e3, b3⟩ := pick3 (a := 3) (b := 5) (c := 8) ⟨b2, b2'⟩
    obtain ⟨c, e4, pre, e, legs, rfl, hp, hG⟩ := course_ok hD (k := 10 + 60 * j) (many := 2 + v1) (span := sp) (by omega) (by omega) (by omega)
    have e5 := right_ok hD (300 + 60 * j) (by omega) hG hp
    have hj2 : j.natAbs < 2 ^ 200 := by
      have h3 : (2 : Nat) ^ 200 > 1000 := by decide
      omega
    have m60 : mulI (.int 60) (.int j) = .ok (.int (60 * j)) := mulI_sm (by decide) hj2
    simp only [R.ok_bind, aC_okr, fn3_ok, fn4_ok, e1, e2, addI_ii, m60]
    rw [mkL_ok (by simp)]
    simp only [R.ok_bind, e3, e4, aC_okr, fn3_ok, fn4_ok, e5, asB_b]
    rfl]
  simp [mkT_ok, mkL_ok]
  have ep : PyData.tuple [.list [.tuple [.int 0, .int 0, .int 0, .int 9], .tuple [.int 0, .int 20, .int 0, .int 2], .tuple [.int 0, .int 99, .int 0, .int 0]], .list [.tuple [.int 1, .int 5], .tuple [.int 1, .int 1]]] = plain := rfl
  have en : PyData.tuple [.list [.tuple [.int 0, .int 0, .int 0, .int 20], .tuple [.int 10, .int 12, .int 0, .int 0]], .list [.tuple [.int 1, .int 5]]] = never := rfl
  rw [ep, en, rule_plain, rule_never, going_plain, safe_never]
  simp
  rw [eqD_ok rfl rfl (by decide) (by decide)]
  rfl
def topS (i : Nat) : Stmt := PySem.Challenge.pw_kerbcall_k46_safe_comings_by_games.main.body.getD i (.Pass ⟨0, 0, 0, 0⟩)
abbrev clsF : Nat → Value := fun _ => Value.none
abbrev s__law_draws : Stmt := topS 18
abbrev N__law_draws : List Str := ["script", "draws", "k", "rest", "turn", "mixed"]
theorem sc__law_draws : FnScope N__law_draws ["script"] (defScope s__law_draws) := ⟨rfl, rfl, rfl, by decide +kernel, rfl, by decide +kernel, by decide +kernel⟩
abbrev s__law_mix : Stmt := topS 19
abbrev N__law_mix : List Str := ["draws", "k", "many", "value"]
theorem sc__law_mix : FnScope N__law_mix ["draws", "k", "many"] (defScope s__law_mix) := ⟨rfl, rfl, rfl, by decide +kernel, rfl, by decide +kernel, by decide +kernel⟩
abbrev s__law_course : Stmt := topS 20
abbrev N__law_course : List Str := ["draws", "k", "many", "span", "stops", "legs", "hour", "late", "t", "at", "before", "behind", "goes", "stands", "least", "greatest"]
theorem sc__law_course : FnScope N__law_course ["draws", "k", "many", "span"] (defScope s__law_course) := ⟨rfl, rfl, rfl, by decide +kernel, rfl, by decide +kernel, by decide +kernel⟩
abbrev s__law_wins : Stmt := topS 21
abbrev N__law_wins : List Str := ["course", "stops", "legs", "found", "k", "opens", "closes", "goes", "stands", "won", "hour", "out", "lost", "t"]
theorem sc__law_wins : FnScope N__law_wins ["course"] (defScope s__law_wins) := ⟨rfl, rfl, rfl, by decide +kernel, rfl, by decide +kernel, by decide +kernel⟩
abbrev s_check_course : Stmt := topS 8
abbrev N_check_course : List Str := ["course", "stops", "legs", "k", "stop", "least", "greatest"]
theorem sc_check_course : FnScope N_check_course ["course"] (defScope s_check_course) := ⟨rfl, rfl, rfl, by decide +kernel, rfl, by decide +kernel, by decide +kernel⟩
abbrev s_bounds_before : Stmt := topS 9
abbrev N_bounds_before : List Str := ["stop", "leg", "stretch", "opens", "closes", "goes", "stands", "least", "greatest", "early", "late", "first", "last", "are_any"]
theorem sc_bounds_before : FnScope N_bounds_before ["stop", "leg", "stretch"] (defScope s_bounds_before) := ⟨rfl, rfl, rfl, by decide +kernel, rfl, by decide +kernel, by decide +kernel⟩
abbrev s_safe_comings : Stmt := topS 10
abbrev N_safe_comings : List Str := ["stops", "legs", "found", "stop", "leg", "stretch", "first", "last", "are_any"]
theorem sc_safe_comings : FnScope N_safe_comings ["stops", "legs"] (defScope s_safe_comings) := ⟨rfl, rfl, rfl, by decide +kernel, rfl, by decide +kernel, by decide +kernel⟩
abbrev s_safe : Stmt := topS 11
abbrev N_safe : List Str := ["course"]
theorem sc_safe : FnScope N_safe ["course"] (defScope s_safe) := ⟨rfl, rfl, rfl, by decide +kernel, rfl, by decide +kernel, by decide +kernel⟩
abbrev s__law_stretch : Stmt := topS 22
abbrev N__law_stretch : List Str := ["won", "hours"]
theorem sc__law_stretch : FnScope N__law_stretch ["won"] (defScope s__law_stretch) := ⟨rfl, rfl, rfl, by decide +kernel, rfl, by decide +kernel, by decide +kernel⟩
abbrev s_is_within : Stmt := topS 12
abbrev N_is_within : List Str := ["hour", "stretch"]
theorem sc_is_within : FnScope N_is_within ["hour", "stretch"] (defScope s_is_within) := ⟨rfl, rfl, rfl, by decide +kernel, rfl, by decide +kernel, by decide +kernel⟩
abbrev s_has_rule : Stmt := topS 13
abbrev N_has_rule : List Str := ["course", "start"]
theorem sc_has_rule : FnScope N_has_rule ["course", "start"] (defScope s_has_rule) := ⟨rfl, rfl, rfl, by decide +kernel, rfl, by decide +kernel, by decide +kernel⟩
abbrev s_told_going : Stmt := topS 14
abbrev N_told_going : List Str := ["stop", "leg", "stretch", "coming"]
theorem sc_told_going : FnScope N_told_going ["stop", "leg", "stretch", "coming"] (defScope s_told_going) := ⟨rfl, rfl, rfl, by decide +kernel, rfl, by decide +kernel, by decide +kernel⟩
abbrev s_going : Stmt := topS 15
abbrev N_going : List Str := ["course", "stop", "coming", "stretches"]
theorem sc_going : FnScope N_going ["course", "stop", "coming"] (defScope s_going) := ⟨rfl, rfl, rfl, by decide +kernel, rfl, by decide +kernel, by decide +kernel⟩
abbrev s_spoilt : Stmt := topS 16
abbrev N_spoilt : List Str := ["course", "stop", "hour", "stretches", "duration"]
theorem sc_spoilt : FnScope N_spoilt ["course", "stop", "hour"] (defScope s_spoilt) := ⟨rfl, rfl, rfl, by decide +kernel, rfl, by decide +kernel, by decide +kernel⟩
abbrev s__law_course_right : Stmt := topS 23
abbrev N__law_course_right : List Str := ["draws", "k", "course", "wins", "due", "kept", "told", "stops", "legs", "t", "start", "answer", "stop", "coming", "hour", "out", "won", "one"]
theorem sc__law_course_right : FnScope N__law_course_right ["draws", "k", "course"] (defScope s__law_course_right) := ⟨rfl, rfl, rfl, by decide +kernel, rfl, by decide +kernel, by decide +kernel⟩
abbrev s_law : Stmt := topS 24
abbrev N_law : List Str := ["script", "draws", "turn", "course", "plain", "never"]
theorem sc_law : FnScope N_law ["script"] (defScope s_law) := ⟨rfl, rfl, rfl, by decide +kernel, rfl, by decide +kernel, by decide +kernel⟩
section
variable {P : Program} {w : World} {K : PySem.W.Frag} {mg : Str → Option Value} {base : Heap}
set_option maxHeartbeats 0 in
theorem g__law_draws {f : Addr} {fd : FuncData} (F : Fun K "_law_draws" "_law_draws" s__law_draws f fd) (z_abs : mg "abs" = none) (z_int : mg "int" = none) (z_len : mg "len" = none) (z_min : mg "min" = none) (z_range : mg "range" = none) : FnG P w K mg base CX0 1 f fd ["script"] (spP clsF K 1 (fn1 F__law_draws) (Ty.own Ty.imm)) := by
  have S := sc__law_draws
  exact fnG_E (m := 5) (body := fun ds => match ds with
    | [p_script] => B__law_draws p_script
    | _ => R.stuck) F S rfl (by decide) (fun ds hl => match ds, hl with | [p_script], _ => rfl) (fun cdv A outer s H E hr gd ds hl => match ds, hl with | [p_script], _ => (bl_cx [some (p_script, Ty.shr), none, none, none, none, none] rfl (bl_set (i := 1) S.nd rfl (ev_nil (t := Ty.imm)) (fun v_draws_1 => (bl_cx [some (p_script, Ty.shr), some (v_draws_1, (Ty.own Ty.imm)), none, none, none, none] rfl (bl_for (Λ := fun (s2 : PyData) => [some (p_script, Ty.shr), some (s2, (Ty.own Ty.imm)), none, none, none, none]) (s0 := v_draws_1) (f := (fun d => R.ok d)) (sl := (fun d => [(2, d, Ty.imm)])) PassesOwn.never rfl (it_rng1 (m := .an) z_range (ar_consA (ev_any (ev_min2 (m := .an) rfl z_min (ar_consA (ev_any ev_int) (ar_consA (ev_any (ev_len z_len (nv 0 (d := p_script) (t := Ty.shr)))) ar_nil)))) ar_nil)) (tg_nm 2 S.nd rfl) noX_ok (.keep (.keep (.drop (.drop (.drop (.drop .nil)))))) (fun x3 s2 => (bl_cx [some (p_script, Ty.shr), some (s2, (Ty.own Ty.imm)), some (x3, Ty.imm), none, none, none] rfl (bl_set (i := 3) S.nd rfl (ev_abs z_abs (ev_ix (ta := Ty.shr) (nv 0 (d := p_script) (t := Ty.shr)) (nv 2 (d := x3) (t := Ty.imm)))) (fun v_rest_5 => (bl_cx [some (p_script, Ty.shr), some (s2, (Ty.own Ty.imm)), some (x3, Ty.imm), some (v_rest_5, Ty.imm), none, none] rfl (bl_if (Δ1 := fun (j6 : PyData × PyData) => [some (p_script, Ty.shr), some (j6.1, (Ty.own Ty.imm)), some (x3, Ty.imm), some (j6.2, Ty.imm), none, none]) (ts_cmp op_ge rule_ge (nv 3 (d := v_rest_5) (t := Ty.imm)) (ev_pow ev_int ev_int)) (bl_for (Λ := fun (s7 : PyData × PyData) => [some (p_script, Ty.shr), some (s7.1, (Ty.own Ty.imm)), some (x3, Ty.imm), some (s7.2, Ty.imm), none, none]) (s0 := (s2, v_rest_5)) (f := (fun d => R.ok d)) (sl := (fun d => [(4, d, Ty.imm)])) PassesOwn.never rfl (it_rng1 (m := .an) z_range (ar_consA (ev_any ev_int) ar_nil)) (tg_nm 4 S.nd rfl) noX_ok (.keep (.keep (.keep (.keep (.drop (.drop .nil)))))) (fun x8 s7 => (bl_cx [some (p_script, Ty.shr), some (s7.1, (Ty.own Ty.imm)), some (x3, Ty.imm), some (s7.2, Ty.imm), some (x8, Ty.imm), none] rfl (bl_if (Δ1 := fun (j10 : PyData × PyData) => [some (p_script, Ty.shr), some (j10.1, (Ty.own Ty.imm)), some (x3, Ty.imm), some (j10.2, Ty.imm), some (x8, Ty.imm), none]) (ts_cmp op_gt rule_gt (nv 3 (d := s7.2) (t := Ty.imm)) ev_int) (bl_append (i := 1) (xd := s7.1) (t := Ty.imm) rfl (ev_mod (ev_toInt z_int (nv 3 (d := s7.2) (t := Ty.imm))) ev_int) (fun v_draws_11 => (bl_cx [some (p_script, Ty.shr), some (v_draws_11, (Ty.own Ty.imm)), some (x3, Ty.imm), some (s7.2, Ty.imm), some (x8, Ty.imm), none] rfl (bl_set (i := 3) S.nd rfl (ev_div (nv 3 (d := s7.2) (t := Ty.imm)) ev_int) (fun v_rest_12 => (bl_cx [some (p_script, Ty.shr), some (v_draws_11, (Ty.own Ty.imm)), some (x3, Ty.imm), some (v_rest_12, Ty.imm), some (x8, Ty.imm), none] rfl (bl_end (s := (v_draws_11, v_rest_12)) (.keep (.keep (.keep (.keep (.keep (.drop .nil))))))))))))) (bl_end (s := (s7.1, s7.2)) (.keep (.keep (.keep (.keep (.keep (.drop .nil))))))) (fun j10 => (bl_end (s := (j10.1, j10.2)) (.keep (.keep (.keep (.keep (.drop (.drop .nil))))))))))) (fun s9 => (bl_end (s := (s9.1, s9.2)) (.keep (.keep (.keep (.keep (.drop (.drop .nil))))))))) (bl_set (i := 5) S.nd rfl (ev_mod (ev_toInt z_int (ev_add (ev_mul (nv 3 (d := v_rest_5) (t := Ty.imm)) ev_int) (ev_mul (ev_add (nv 2 (d := x3) (t := Ty.imm)) ev_int) ev_int))) ev_int) (fun v_mixed_13 => (bl_cx [some (p_script, Ty.shr), some (s2, (Ty.own Ty.imm)), some (x3, Ty.imm), some (v_rest_5, Ty.imm), none, some (v_mixed_13, Ty.imm)] rfl (bl_set (i := 5) S.nd rfl (ev_mod (ev_toInt z_int (ev_add (ev_add (ev_mul (nv 5 (d := v_mixed_13) (t := Ty.imm)) ev_int) (ev_mul ev_int (nv 2 (d := x3) (t := Ty.imm)))) ev_int)) ev_int) (fun v_mixed_14 => (bl_cx [some (p_script, Ty.shr), some (s2, (Ty.own Ty.imm)), some (x3, Ty.imm), some (v_rest_5, Ty.imm), none, some (v_mixed_14, Ty.imm)] rfl (bl_append (i := 1) (xd := s2) (t := Ty.imm) rfl (ev_mod (ev_toInt z_int (nv 5 (d := v_mixed_14) (t := Ty.imm))) ev_int) (fun v_draws_15 => (bl_cx [some (p_script, Ty.shr), some (v_draws_15, (Ty.own Ty.imm)), some (x3, Ty.imm), some (v_rest_5, Ty.imm), none, some (v_mixed_14, Ty.imm)] rfl (bl_append (i := 1) (xd := v_draws_15) (t := Ty.imm) rfl (ev_mod (ev_toInt z_int (ev_div (nv 5 (d := v_mixed_14) (t := Ty.imm)) ev_int)) ev_int) (fun v_draws_16 => (bl_cx [some (p_script, Ty.shr), some (v_draws_16, (Ty.own Ty.imm)), some (x3, Ty.imm), some (v_rest_5, Ty.imm), none, some (v_mixed_14, Ty.imm)] rfl (bl_end (s := (v_draws_16, v_rest_5)) (.keep (.keep (.keep (.keep (.drop (.drop .nil))))))))))))))))))) (fun j6 => (bl_end (s := j6.1) (.keep (.keep (.drop (.drop (.drop (.drop .nil)))))))))))))) (fun s4 => (bl_retM (i := 1) (d := s4) rfl))))))))
set_option maxHeartbeats 0 in
theorem g__law_mix {f : Addr} {fd : FuncData} (F : Fun K "_law_mix" "_law_mix" s__law_mix f fd) (z_int : mg "int" = none) (z_len : mg "len" = none) : FnG P w K mg base CX0 1 f fd ["draws", "k", "many"] (spP clsF K 3 (fn3 F__law_mix) Ty.imm) := by
  have S := sc__law_mix
  exact fnG_E (m := 1) (body := fun ds => match ds with
    | [p_draws, p_k, p_many] => B__law_mix p_draws p_k p_many
    | _ => R.stuck) F S rfl (by decide) (fun ds hl => match ds, hl with | [p_draws, p_k, p_many], _ => rfl) (fun cdv A outer s H E hr gd ds hl => match ds, hl with | [p_draws, p_k, p_many], _ => (bl_cx [some (p_draws, Ty.shr), some (p_k, Ty.shr), some (p_many, Ty.shr), none] rfl (bl_set (i := 3) S.nd rfl ev_int (fun v_value_1 => (bl_cx [some (p_draws, Ty.shr), some (p_k, Ty.shr), some (p_many, Ty.shr), some (v_value_1, Ty.imm)] rfl (bl_if (Δ1 := fun (j2 : PyData) => [some (p_draws, Ty.shr), some (p_k, Ty.shr), some (p_many, Ty.shr), some (j2, Ty.shr)]) (ts_cmp op_gt rule_gt (ev_len z_len (nv 0 (d := p_draws) (t := Ty.shr))) ev_int) (bl_set (i := 3) S.nd rfl (ev_ix (ta := Ty.shr) (nv 0 (d := p_draws) (t := Ty.shr)) (ev_mod (ev_toInt z_int (nv 1 (d := p_k) (t := Ty.shr))) (ev_len z_len (nv 0 (d := p_draws) (t := Ty.shr))))) (fun v_value_3 => (bl_cx [some (p_draws, Ty.shr), some (p_k, Ty.shr), some (p_many, Ty.shr), some (v_value_3, Ty.shr)] rfl (bl_end (s := v_value_3) (.keep (.keep (.keep (.keep .nil)))))))) (bl_end (s := v_value_1) (.keep (.keep (.keep (.shr .nil))))) (fun j2 => (bl_ifx (ts_cmp op_lt rule_lt (nv 1 (d := p_k) (t := Ty.shr)) (ev_len z_len (nv 0 (d := p_draws) (t := Ty.shr)))) (bl_ret (ev_mod (ev_toInt z_int (nv 3 (d := j2) (t := Ty.shr))) (nv 2 (d := p_many) (t := Ty.shr)))) (bl_ret (ev_mod (ev_toInt z_int (ev_div (ev_toInt z_int (ev_add (ev_mul (nv 3 (d := j2) (t := Ty.shr)) ev_int) (ev_mul (nv 1 (d := p_k) (t := Ty.shr)) ev_int))) ev_int)) (nv 2 (d := p_many) (t := Ty.shr))))))))))))
set_option maxHeartbeats 0 in
theorem g__law_course {f : Addr} {fd : FuncData} (F : Fun K "_law_course" "_law_course" s__law_course f fd) (z_max : mg "max" = none) (z_min : mg "min" = none) (z_range : mg "range" = none) (c__law_mix : Callee P w K mg base CX0 clsF 1 "_law_mix" 3 (fn3 F__law_mix) Ty.imm) : FnG P w K mg base CX0 2 f fd ["draws", "k", "many", "span"] (spP clsF K 4 (fn4 F__law_course) Ty.shr) := by
  have S := sc__law_course
  exact fnG_E (m := 12) (body := fun ds => match ds with
    | [p_draws, p_k, p_many, p_span] => B__law_course p_draws p_k p_many p_span
    | _ => R.stuck) F S rfl (by decide) (fun ds hl => match ds, hl with | [p_draws, p_k, p_many, p_span], _ => rfl) (fun cdv A outer s H E hr gd ds hl => match ds, hl with | [p_draws, p_k, p_many, p_span], _ => (bl_cx [some (p_draws, Ty.shr), some (p_k, Ty.shr), some (p_many, Ty.shr), some (p_span, Ty.shr), none, none, none, none, none, none, none, none, none, none, none, none] rfl (bl_set (i := 4) S.nd rfl (ev_nil (t := Ty.imm)) (fun v_stops_1 => (bl_cx [some (p_draws, Ty.shr), some (p_k, Ty.shr), some (p_many, Ty.shr), some (p_span, Ty.shr), some (v_stops_1, (Ty.own Ty.imm)), none, none, none, none, none, none, none, none, none, none, none] rfl (bl_set (i := 5) S.nd rfl (ev_nil (t := Ty.imm)) (fun v_legs_2 => (bl_cx [some (p_draws, Ty.shr), some (p_k, Ty.shr), some (p_many, Ty.shr), some (p_span, Ty.shr), some (v_stops_1, (Ty.own Ty.imm)), some (v_legs_2, (Ty.own Ty.imm)), none, none, none, none, none, none, none, none, none, none] rfl (bl_set (i := 6) S.nd rfl (ev_callF c__law_mix hr gd passC (fn3_n _) (ar_consF (nv 0 (d := p_draws) (t := Ty.shr)) (ar_consF (nv 1 (d := p_k) (t := Ty.shr)) (ar_consF (nv 3 (d := p_span) (t := Ty.shr)) ar_nil)))) (fun v_hour_3 => (bl_cx [some (p_draws, Ty.shr), some (p_k, Ty.shr), some (p_many, Ty.shr), some (p_span, Ty.shr), some (v_stops_1, (Ty.own Ty.imm)), some (v_legs_2, (Ty.own Ty.imm)), some (v_hour_3, Ty.imm), none, none, none, none, none, none, none, none, none] rfl (bl_set (i := 7) S.nd rfl (nv 6 (d := v_hour_3) (t := Ty.imm)) (fun v_late_4 => (bl_cx [some (p_draws, Ty.shr), some (p_k, Ty.shr), some (p_many, Ty.shr), some (p_span, Ty.shr), some (v_stops_1, (Ty.own Ty.imm)), some (v_legs_2, (Ty.own Ty.imm)), some (v_hour_3, Ty.imm), some (v_late_4, Ty.imm), none, none, none, none, none, none, none, none] rfl (bl_for (Λ := fun (s5 : PyData × PyData × PyData × PyData) => [some (p_draws, Ty.shr), some (p_k, Ty.shr), some (p_many, Ty.shr), some (p_span, Ty.shr), some (s5.1, (Ty.own Ty.imm)), some (s5.2.1, (Ty.own Ty.imm)), some (s5.2.2.1, Ty.imm), some (s5.2.2.2, Ty.imm), none, none, none, none, none, none, none, none]) (s0 := (v_stops_1, v_legs_2, v_hour_3, v_late_4)) (f := (fun d => R.ok d)) (sl := (fun d => [(8, d, Ty.imm)])) PassesOwn.never rfl (it_rng1 (m := .an) z_range (ar_consA (ev_any (nv 2 (d := p_many) (t := Ty.shr))) ar_nil)) (tg_nm 8 S.nd rfl) noX_ok (.keep (.keep (.keep (.keep (.keep (.keep (.keep (.keep (.drop (.drop (.drop (.drop (.drop (.drop (.drop (.drop .nil)))))))))))))))) (fun x6 s5 => (bl_cx [some (p_draws, Ty.shr), some (p_k, Ty.shr), some (p_many, Ty.shr), some (p_span, Ty.shr), some (s5.1, (Ty.own Ty.imm)), some (s5.2.1, (Ty.own Ty.imm)), some (s5.2.2.1, Ty.imm), some (s5.2.2.2, Ty.imm), some (x6, Ty.imm), none, none, none, none, none, none, none] rfl (bl_set (i := 9) S.nd rfl (ev_add (ev_add (nv 1 (d := p_k) (t := Ty.shr)) ev_int) (ev_mul ev_int (nv 8 (d := x6) (t := Ty.imm)))) (fun v_at_8 => (bl_cx [some (p_draws, Ty.shr), some (p_k, Ty.shr), some (p_many, Ty.shr), some (p_span, Ty.shr), some (s5.1, (Ty.own Ty.imm)), some (s5.2.1, (Ty.own Ty.imm)), some (s5.2.2.1, Ty.imm), some (s5.2.2.2, Ty.imm), some (x6, Ty.imm), some (v_at_8, Ty.imm), none, none, none, none, none, none] rfl (bl_set (i := 10) S.nd rfl (ev_callF c__law_mix hr gd passC (fn3_n _) (ar_consF (nv 0 (d := p_draws) (t := Ty.shr)) (ar_consF (ev_shr (nv 9 (d := v_at_8) (t := Ty.imm))) (ar_consF (nv 3 (d := p_span) (t := Ty.shr)) ar_nil)))) (fun v_before_9 => (bl_cx [some (p_draws, Ty.shr), some (p_k, Ty.shr), some (p_many, Ty.shr), some (p_span, Ty.shr), some (s5.1, (Ty.own Ty.imm)), some (s5.2.1, (Ty.own Ty.imm)), some (s5.2.2.1, Ty.imm), some (s5.2.2.2, Ty.imm), some (x6, Ty.imm), some (v_at_8, Ty.imm), some (v_before_9, Ty.imm), none, none, none, none, none] rfl (bl_set (i := 11) S.nd rfl (ev_callF c__law_mix hr gd passC (fn3_n _) (ar_consF (nv 0 (d := p_draws) (t := Ty.shr)) (ar_consF (ev_shr (ev_add (nv 9 (d := v_at_8) (t := Ty.imm)) ev_int)) (ar_consF (nv 3 (d := p_span) (t := Ty.shr)) ar_nil)))) (fun v_behind_10 => (bl_cx [some (p_draws, Ty.shr), some (p_k, Ty.shr), some (p_many, Ty.shr), some (p_span, Ty.shr), some (s5.1, (Ty.own Ty.imm)), some (s5.2.1, (Ty.own Ty.imm)), some (s5.2.2.1, Ty.imm), some (s5.2.2.2, Ty.imm), some (x6, Ty.imm), some (v_at_8, Ty.imm), some (v_before_9, Ty.imm), some (v_behind_10, Ty.imm), none, none, none, none] rfl (bl_set (i := 12) S.nd rfl (ev_max2 (m := .an) rfl z_max (ar_consA (ev_any ev_int) (ar_consA (ev_any (ev_sub (ev_add (nv 6 (d := s5.2.2.1) (t := Ty.imm)) (ev_callF c__law_mix hr gd passC (fn3_n _) (ar_consF (nv 0 (d := p_draws) (t := Ty.shr)) (ar_consF (ev_shr (ev_add (nv 9 (d := v_at_8) (t := Ty.imm)) ev_int)) (ar_consF (nv 3 (d := p_span) (t := Ty.shr)) ar_nil))))) (ev_callF c__law_mix hr gd passC (fn3_n _) (ar_consF (nv 0 (d := p_draws) (t := Ty.shr)) (ar_consF (ev_shr (ev_add (nv 9 (d := v_at_8) (t := Ty.imm)) ev_int)) (ar_consF (nv 3 (d := p_span) (t := Ty.shr)) ar_nil)))))) ar_nil))) (fun v_goes_11 => (bl_cx [some (p_draws, Ty.shr), some (p_k, Ty.shr), some (p_many, Ty.shr), some (p_span, Ty.shr), some (s5.1, (Ty.own Ty.imm)), some (s5.2.1, (Ty.own Ty.imm)), some (s5.2.2.1, Ty.imm), some (s5.2.2.2, Ty.imm), some (x6, Ty.imm), some (v_at_8, Ty.imm), some (v_before_9, Ty.imm), some (v_behind_10, Ty.imm), some (v_goes_11, Ty.imm), none, none, none] rfl (bl_set (i := 13) S.nd rfl (ev_callF c__law_mix hr gd passC (fn3_n _) (ar_consF (nv 0 (d := p_draws) (t := Ty.shr)) (ar_consF (ev_shr (ev_add (nv 9 (d := v_at_8) (t := Ty.imm)) ev_int)) (ar_consF (ev_ix (ta := (Ty.own Ty.shr)) (ev_lstF (ar_consF (nv 3 (d := p_span) (t := Ty.shr)) (ar_consF (ev_shr (ev_mul ev_int (nv 3 (d := p_span) (t := Ty.shr)))) (ar_consF (ev_shr ev_int) ar_nil)))) (ev_callF c__law_mix hr gd passC (fn3_n _) (ar_consF (nv 0 (d := p_draws) (t := Ty.shr)) (ar_consF (ev_shr (ev_add (nv 9 (d := v_at_8) (t := Ty.imm)) ev_int)) (ar_consF (ev_shr ev_int) ar_nil))))) ar_nil)))) (fun v_stands_12 => (bl_cx [some (p_draws, Ty.shr), some (p_k, Ty.shr), some (p_many, Ty.shr), some (p_span, Ty.shr), some (s5.1, (Ty.own Ty.imm)), some (s5.2.1, (Ty.own Ty.imm)), some (s5.2.2.1, Ty.imm), some (s5.2.2.2, Ty.imm), some (x6, Ty.imm), some (v_at_8, Ty.imm), some (v_before_9, Ty.imm), some (v_behind_10, Ty.imm), some (v_goes_11, Ty.imm), some (v_stands_12, Ty.imm), none, none] rfl (bl_append (i := 4) (xd := s5.1) (t := Ty.imm) rfl (ev_tup (m := .im) (ar_consI (ev_max2 (m := .an) rfl z_max (ar_consA (ev_any ev_int) (ar_consA (ev_any (ev_sub (nv 6 (d := s5.2.2.1) (t := Ty.imm)) (nv 10 (d := v_before_9) (t := Ty.imm)))) ar_nil))) (ar_consI (ev_add (nv 7 (d := s5.2.2.2) (t := Ty.imm)) (nv 11 (d := v_behind_10) (t := Ty.imm))) (ar_consI (nv 12 (d := v_goes_11) (t := Ty.imm)) (ar_consI (nv 13 (d := v_stands_12) (t := Ty.imm)) ar_nil))))) (fun v_stops_13 => (bl_cx [some (p_draws, Ty.shr), some (p_k, Ty.shr), some (p_many, Ty.shr), some (p_span, Ty.shr), some (v_stops_13, (Ty.own Ty.imm)), some (s5.2.1, (Ty.own Ty.imm)), some (s5.2.2.1, Ty.imm), some (s5.2.2.2, Ty.imm), some (x6, Ty.imm), some (v_at_8, Ty.imm), some (v_before_9, Ty.imm), some (v_behind_10, Ty.imm), some (v_goes_11, Ty.imm), some (v_stands_12, Ty.imm), none, none] rfl (bl_set (i := 14) S.nd rfl (ev_add ev_int (ev_callF c__law_mix hr gd passC (fn3_n _) (ar_consF (nv 0 (d := p_draws) (t := Ty.shr)) (ar_consF (ev_shr (ev_add (nv 9 (d := v_at_8) (t := Ty.imm)) ev_int)) (ar_consF (nv 3 (d := p_span) (t := Ty.shr)) ar_nil))))) (fun v_least_14 => (bl_cx [some (p_draws, Ty.shr), some (p_k, Ty.shr), some (p_many, Ty.shr), some (p_span, Ty.shr), some (v_stops_13, (Ty.own Ty.imm)), some (s5.2.1, (Ty.own Ty.imm)), some (s5.2.2.1, Ty.imm), some (s5.2.2.2, Ty.imm), some (x6, Ty.imm), some (v_at_8, Ty.imm), some (v_before_9, Ty.imm), some (v_behind_10, Ty.imm), some (v_goes_11, Ty.imm), some (v_stands_12, Ty.imm), some (v_least_14, Ty.imm), none] rfl (bl_set (i := 15) S.nd rfl (ev_add (nv 14 (d := v_least_14) (t := Ty.imm)) (ev_callF c__law_mix hr gd passC (fn3_n _) (ar_consF (nv 0 (d := p_draws) (t := Ty.shr)) (ar_consF (ev_shr (ev_add (nv 9 (d := v_at_8) (t := Ty.imm)) ev_int)) (ar_consF (ev_ix (ta := (Ty.own Ty.shr)) (ev_lstF (ar_consF (ev_shr ev_int) (ar_consF (ev_shr ev_int) (ar_consF (nv 3 (d := p_span) (t := Ty.shr)) ar_nil)))) (ev_callF c__law_mix hr gd passC (fn3_n _) (ar_consF (nv 0 (d := p_draws) (t := Ty.shr)) (ar_consF (ev_shr (ev_add (nv 9 (d := v_at_8) (t := Ty.imm)) ev_int)) (ar_consF (ev_shr ev_int) ar_nil))))) ar_nil))))) (fun v_greatest_15 => (bl_cx [some (p_draws, Ty.shr), some (p_k, Ty.shr), some (p_many, Ty.shr), some (p_span, Ty.shr), some (v_stops_13, (Ty.own Ty.imm)), some (s5.2.1, (Ty.own Ty.imm)), some (s5.2.2.1, Ty.imm), some (s5.2.2.2, Ty.imm), some (x6, Ty.imm), some (v_at_8, Ty.imm), some (v_before_9, Ty.imm), some (v_behind_10, Ty.imm), some (v_goes_11, Ty.imm), some (v_stands_12, Ty.imm), some (v_least_14, Ty.imm), some (v_greatest_15, Ty.imm)] rfl (bl_append (i := 5) (xd := s5.2.1) (t := Ty.imm) rfl (ev_tup (m := .im) (ar_consI (nv 14 (d := v_least_14) (t := Ty.imm)) (ar_consI (nv 15 (d := v_greatest_15) (t := Ty.imm)) ar_nil))) (fun v_legs_16 => (bl_cx [some (p_draws, Ty.shr), some (p_k, Ty.shr), some (p_many, Ty.shr), some (p_span, Ty.shr), some (v_stops_13, (Ty.own Ty.imm)), some (v_legs_16, (Ty.own Ty.imm)), some (s5.2.2.1, Ty.imm), some (s5.2.2.2, Ty.imm), some (x6, Ty.imm), some (v_at_8, Ty.imm), some (v_before_9, Ty.imm), some (v_behind_10, Ty.imm), some (v_goes_11, Ty.imm), some (v_stands_12, Ty.imm), some (v_least_14, Ty.imm), some (v_greatest_15, Ty.imm)] rfl (bl_set (i := 6) S.nd rfl (ev_add (ev_max2 (m := .an) rfl z_max (ar_consA (ev_any (nv 6 (d := s5.2.2.1) (t := Ty.imm))) (ar_consA (ev_any (ev_min2 (m := .an) rfl z_min (ar_consA (ev_any (nv 12 (d := v_goes_11) (t := Ty.imm))) (ar_consA (ev_any (ev_add (nv 6 (d := s5.2.2.1) (t := Ty.imm)) (nv 13 (d := v_stands_12) (t := Ty.imm)))) ar_nil)))) ar_nil))) (nv 14 (d := v_least_14) (t := Ty.imm))) (fun v_hour_17 => (bl_cx [some (p_draws, Ty.shr), some (p_k, Ty.shr), some (p_many, Ty.shr), some (p_span, Ty.shr), some (v_stops_13, (Ty.own Ty.imm)), some (v_legs_16, (Ty.own Ty.imm)), some (v_hour_17, Ty.imm), some (s5.2.2.2, Ty.imm), some (x6, Ty.imm), some (v_at_8, Ty.imm), some (v_before_9, Ty.imm), some (v_behind_10, Ty.imm), some (v_goes_11, Ty.imm), some (v_stands_12, Ty.imm), some (v_least_14, Ty.imm), some (v_greatest_15, Ty.imm)] rfl (bl_set (i := 7) S.nd rfl (ev_add (ev_max2 (m := .an) rfl z_max (ar_consA (ev_any (nv 7 (d := s5.2.2.2) (t := Ty.imm))) (ar_consA (ev_any (nv 12 (d := v_goes_11) (t := Ty.imm))) ar_nil))) (nv 15 (d := v_greatest_15) (t := Ty.imm))) (fun v_late_18 => (bl_cx [some (p_draws, Ty.shr), some (p_k, Ty.shr), some (p_many, Ty.shr), some (p_span, Ty.shr), some (v_stops_13, (Ty.own Ty.imm)), some (v_legs_16, (Ty.own Ty.imm)), some (v_hour_17, Ty.imm), some (v_late_18, Ty.imm), some (x6, Ty.imm), some (v_at_8, Ty.imm), some (v_before_9, Ty.imm), some (v_behind_10, Ty.imm), some (v_goes_11, Ty.imm), some (v_stands_12, Ty.imm), some (v_least_14, Ty.imm), some (v_greatest_15, Ty.imm)] rfl (bl_end (s := (v_stops_13, v_legs_16, v_hour_17, v_late_18)) (.keep (.keep (.keep (.keep (.keep (.keep (.keep (.keep (.drop (.drop (.drop (.drop (.drop (.drop (.drop (.drop .nil)))))))))))))))))))))))))))))))))))))))))))))))))))) (fun s7 => (bl_frz (i := 4) (d := s7.1) (t := (Ty.own Ty.imm)) rfl (bl_cx [some (p_draws, Ty.shr), some (p_k, Ty.shr), some (p_many, Ty.shr), some (p_span, Ty.shr), some (s7.1, Ty.shr), some (s7.2.1, (Ty.own Ty.imm)), some (s7.2.2.1, Ty.imm), some (s7.2.2.2, Ty.imm), none, none, none, none, none, none, none, none] rfl (bl_ret (ev_tup (m := .fr) (ar_consF (nv 4 (d := s7.1) (t := Ty.shr)) (ar_consF (ev_shr (ev_cutL (ta := (Ty.bor Ty.imm)) (nv 5 (d := s7.2.1) (t := (Ty.own Ty.imm))) po_n (po_s (ev_neg ev_int)))) ar_nil))))))))))))))))))))))
set_option maxHeartbeats 0 in
theorem g__law_wins {f : Addr} {fd : FuncData} (F : Fun K "_law_wins" "_law_wins" s__law_wins f fd) (z_dict : mg "dict" = none) (z_len : mg "len" = none) (z_max : mg "max" = none) (z_range : mg "range" = none) : FnG P w K mg base CX0 1 f fd ["course"] (spP clsF K 1 (fn1 F__law_wins) (Ty.own Ty.shr)) := by
  have S := sc__law_wins
  exact fnG_E (m := 13) (body := fun ds => match ds with
    | [p_course] => B__law_wins p_course
    | _ => R.stuck) F S rfl (by decide) (fun ds hl => match ds, hl with | [p_course], _ => rfl) (fun cdv A outer s H E hr gd ds hl => match ds, hl with | [p_course], _ => (bl_cx [some (p_course, Ty.shr), none, none, none, none, none, none, none, none, none, none, none, none, none] rfl (bl_asg (f := (unT 2 (tsC (fun d => R.ok d) (tsC (fun d => R.ok d) tsN)))) (sl := (fun s => (fun d => [(1, d, Ty.shr)]) s.1 ++ (fun s => (fun d => [(2, d, Ty.shr)]) s.1 ++ (fun _ => []) s.2) s.2)) (nv 0 (d := p_course) (t := Ty.shr)) (tg_tup rfl (tgs_cons (tg_nm 1 S.nd rfl) (tgs_cons (tg_nm 2 S.nd rfl) tgs_nil))) (noX_unT (noX_tsC noX_ok (noX_tsC noX_ok noX_tsN))) (fun x1 => (bl_cx [some (p_course, Ty.shr), some (x1.1, Ty.shr), some (x1.2.1, Ty.shr), none, none, none, none, none, none, none, none, none, none, none] rfl (bl_set (i := 3) S.nd rfl (ev_lstF (ar_consF (ev_shr (ev_dictP rfl z_dict (ev_lc (own := [("hour", 10)]) (f := (fun d => R.ok d)) (sl := (fun d => [(10, d, Ty.imm)])) (c := fun x4 => (R.ok true)) (g := fun x4 => ((aC (R.ok x4) (aC (R.ok PyData.none) aN)).bind mkT)) (t := Ty.imm) rfl S.nd (itG (it_rng2 (m := .an) z_range (ar_consA (ev_any (ev_ix (ta := Ty.shr) (ev_ix (ta := Ty.shr) (nv 1 (d := x1.1) (t := Ty.shr)) (ev_neg ev_int)) ev_int)) (ar_consA (ev_any (ev_add (ev_ix (ta := Ty.shr) (ev_ix (ta := Ty.shr) (nv 1 (d := x1.1) (t := Ty.shr)) (ev_neg ev_int)) ev_int) ev_int)) ar_nil)))) (blkOk_by (own := [("hour", 10)]) (N := N__law_wins) (sc := defScope s__law_wins) (by decide +kernel)) (fun _ _ _ _ _ => (tg_nm 10 S.nd rfl)) noX_ok (by simp) (fun _ _ _ _ _ x4 => (tss_cx [some (p_course, Ty.shr), some (x1.1, Ty.shr), some (x1.2.1, Ty.shr), none, none, none, none, none, none, none, some (x4, Ty.imm), none, none, none] rfl tss_nil)) (fun _ _ _ _ _ x4 => (ev_cx [some (p_course, Ty.shr), some (x1.1, Ty.shr), some (x1.2.1, Ty.shr), none, none, none, none, none, none, none, some (x4, Ty.imm), none, none, none] rfl (ev_tup (m := .im) (ar_consI (nv 10 (d := x4) (t := Ty.imm)) (ar_consI ev_none ar_nil)))))))) ar_nil)) (fun v_found_2 => (bl_cx [some (p_course, Ty.shr), some (x1.1, Ty.shr), some (x1.2.1, Ty.shr), some (v_found_2, (Ty.own Ty.shr)), none, none, none, none, none, none, none, none, none, none] rfl (bl_for (Λ := fun (s5 : PyData) => [some (p_course, Ty.shr), some (x1.1, Ty.shr), some (x1.2.1, Ty.shr), some (s5, (Ty.own Ty.shr)), none, none, none, none, none, none, none, none, none, none]) (s0 := v_found_2) (f := (fun d => R.ok d)) (sl := (fun d => [(4, d, Ty.imm)])) PassesOwn.never rfl (it_rng3d (m := .an) z_range (ar_consA (ev_any (ev_sub (ev_len z_len (nv 2 (d := x1.2.1) (t := Ty.shr))) ev_int)) (ar_consA (ev_any (ev_neg ev_int)) (ar_consA (ev_any (ev_neg ev_int)) ar_nil)))) (tg_nm 4 S.nd rfl) noX_ok (.keep (.keep (.keep (.keep (.drop (.drop (.drop (.drop (.drop (.drop (.drop (.drop (.drop (.drop .nil)))))))))))))) (fun x6 s5 => (bl_cx [some (p_course, Ty.shr), some (x1.1, Ty.shr), some (x1.2.1, Ty.shr), some (s5, (Ty.own Ty.shr)), some (x6, Ty.imm), none, none, none, none, none, none, none, none, none] rfl (bl_asg (f := (unT 4 (tsC (fun d => R.ok d) (tsC (fun d => R.ok d) (tsC (fun d => R.ok d) (tsC (fun d => R.ok d) tsN)))))) (sl := (fun s => (fun d => [(5, d, Ty.shr)]) s.1 ++ (fun s => (fun d => [(6, d, Ty.shr)]) s.1 ++ (fun s => (fun d => [(7, d, Ty.shr)]) s.1 ++ (fun s => (fun d => [(8, d, Ty.shr)]) s.1 ++ (fun _ => []) s.2) s.2) s.2) s.2)) (ev_ix (ta := Ty.shr) (nv 1 (d := x1.1) (t := Ty.shr)) (nv 4 (d := x6) (t := Ty.imm))) (tg_tup rfl (tgs_cons (tg_nm 5 S.nd rfl) (tgs_cons (tg_nm 6 S.nd rfl) (tgs_cons (tg_nm 7 S.nd rfl) (tgs_cons (tg_nm 8 S.nd rfl) tgs_nil))))) (noX_unT (noX_tsC noX_ok (noX_tsC noX_ok (noX_tsC noX_ok (noX_tsC noX_ok noX_tsN))))) (fun x8 => (bl_cx [some (p_course, Ty.shr), some (x1.1, Ty.shr), some (x1.2.1, Ty.shr), some (s5, (Ty.own Ty.shr)), some (x6, Ty.imm), some (x8.1, Ty.shr), some (x8.2.1, Ty.shr), some (x8.2.2.1, Ty.shr), some (x8.2.2.2.1, Ty.shr), none, none, none, none, none] rfl (bl_set (i := 9) S.nd rfl (ev_nilD (t := Ty.imm)) (fun v_won_9 => (bl_cx [some (p_course, Ty.shr), some (x1.1, Ty.shr), some (x1.2.1, Ty.shr), some (s5, (Ty.own Ty.shr)), some (x6, Ty.imm), some (x8.1, Ty.shr), some (x8.2.1, Ty.shr), some (x8.2.2.1, Ty.shr), some (x8.2.2.2.1, Ty.shr), some (v_won_9, (Ty.dct Ty.imm)), none, none, none, none] rfl (bl_for (Λ := fun (s10 : PyData) => [some (p_course, Ty.shr), some (x1.1, Ty.shr), some (x1.2.1, Ty.shr), some (s5, (Ty.own Ty.shr)), some (x6, Ty.imm), some (x8.1, Ty.shr), some (x8.2.1, Ty.shr), some (x8.2.2.1, Ty.shr), some (x8.2.2.2.1, Ty.shr), some (s10, (Ty.dct Ty.imm)), none, none, none, none]) (s0 := v_won_9) (f := (fun d => R.ok d)) (sl := (fun d => [(10, d, Ty.imm)])) PassesOwn.never rfl (it_rng2 (m := .an) z_range (ar_consA (ev_any (nv 5 (d := x8.1) (t := Ty.shr))) (ar_consA (ev_any (ev_add (nv 6 (d := x8.2.1) (t := Ty.shr)) ev_int)) ar_nil))) (tg_nm 10 S.nd rfl) noX_ok (.keep (.keep (.keep (.keep (.keep (.keep (.keep (.keep (.keep (.keep (.drop (.drop (.drop (.drop .nil)))))))))))))) (fun x11 s10 => (bl_cx [some (p_course, Ty.shr), some (x1.1, Ty.shr), some (x1.2.1, Ty.shr), some (s5, (Ty.own Ty.shr)), some (x6, Ty.imm), some (x8.1, Ty.shr), some (x8.2.1, Ty.shr), some (x8.2.2.1, Ty.shr), some (x8.2.2.2.1, Ty.shr), some (s10, (Ty.dct Ty.imm)), some (x11, Ty.imm), none, none, none] rfl (bl_for (Λ := fun (s13 : PyData) => [some (p_course, Ty.shr), some (x1.1, Ty.shr), some (x1.2.1, Ty.shr), some (s5, (Ty.own Ty.shr)), some (x6, Ty.imm), some (x8.1, Ty.shr), some (x8.2.1, Ty.shr), some (x8.2.2.1, Ty.shr), some (x8.2.2.2.1, Ty.shr), some (s13, (Ty.dct Ty.imm)), some (x11, Ty.imm), none, none, none]) (s0 := s10) (f := (fun d => R.ok d)) (sl := (fun d => [(11, d, Ty.imm)])) PassesOwn.never rfl (it_rng2 (m := .an) z_range (ar_consA (ev_any (ev_max2 (m := .an) rfl z_max (ar_consA (ev_any (nv 10 (d := x11) (t := Ty.imm))) (ar_consA (ev_any (nv 7 (d := x8.2.2.1) (t := Ty.shr))) ar_nil)))) (ar_consA (ev_any (ev_add (ev_add (nv 10 (d := x11) (t := Ty.imm)) (nv 8 (d := x8.2.2.2.1) (t := Ty.shr))) ev_int)) ar_nil))) (tg_nm 11 S.nd rfl) noX_ok (.keep (.keep (.keep (.keep (.keep (.keep (.keep (.keep (.keep (.keep (.keep (.drop (.drop (.drop .nil)))))))))))))) (fun x14 s13 => (bl_cx [some (p_course, Ty.shr), some (x1.1, Ty.shr), some (x1.2.1, Ty.shr), some (s5, (Ty.own Ty.shr)), some (x6, Ty.imm), some (x8.1, Ty.shr), some (x8.2.1, Ty.shr), some (x8.2.2.1, Ty.shr), some (x8.2.2.2.1, Ty.shr), some (s13, (Ty.dct Ty.imm)), some (x11, Ty.imm), some (x14, Ty.imm), none, none] rfl (bl_setLc (i := 12) (own := [("t", 13)]) (f := (fun d => R.ok d)) (sl := (fun d => [(13, d, Ty.imm)])) (c := fun x17 => ((((R.ok x14).bind fun x => (R.ok x17).bind fun y => addI x y).bind fun x => ((R.ok s5).bind fun x => (R.ok (PyData.int 0)).bind fun y => ixD x y).bind fun y => notK x y).bind asB)) (g := fun x17 => (R.ok x17)) (t := Ty.imm) rfl S.nd rfl (itG (it_rng2 (m := .an) z_range (ar_consA (ev_any (ev_ix (ta := Ty.shr) (ev_ix (ta := Ty.shr) (nv 2 (d := x1.2.1) (t := Ty.shr)) (nv 4 (d := x6) (t := Ty.imm))) ev_int)) (ar_consA (ev_any (ev_add (ev_ix (ta := Ty.shr) (ev_ix (ta := Ty.shr) (nv 2 (d := x1.2.1) (t := Ty.shr)) (nv 4 (d := x6) (t := Ty.imm))) ev_int) ev_int)) ar_nil)))) (blkOk_by (own := [("t", 13)]) (N := N__law_wins) (sc := defScope s__law_wins) (by decide +kernel)) (fun _ _ _ _ _ => (tg_nm 13 S.nd rfl)) noX_ok (by simp) (fun _ _ _ _ _ x17 => (tss_cx [some (p_course, Ty.shr), some (x1.1, Ty.shr), some (x1.2.1, Ty.shr), some (s5, (Ty.own Ty.shr)), some (x6, Ty.imm), some (x8.1, Ty.shr), some (x8.2.1, Ty.shr), some (x8.2.2.1, Ty.shr), some (x8.2.2.2.1, Ty.shr), some (s13, (Ty.dct Ty.imm)), some (x11, Ty.imm), some (x14, Ty.imm), none, some (x17, Ty.imm)] rfl (tss_one (ts_cmp (op_dnoK (hu_of hr)) rule_notK (ev_add (nv 11 (d := x14) (t := Ty.imm)) (nv 13 (d := x17) (t := Ty.imm))) (ev_ix (ta := (Ty.bor Ty.shr)) (nv 3 (d := s5) (t := (Ty.own Ty.shr))) ev_int) (by with_unfolding_all rfl))))) (fun _ _ _ _ _ x17 => (ev_cx [some (p_course, Ty.shr), some (x1.1, Ty.shr), some (x1.2.1, Ty.shr), some (s5, (Ty.own Ty.shr)), some (x6, Ty.imm), some (x8.1, Ty.shr), some (x8.2.1, Ty.shr), some (x8.2.2.1, Ty.shr), some (x8.2.2.2.1, Ty.shr), some (s13, (Ty.dct Ty.imm)), some (x11, Ty.imm), some (x14, Ty.imm), none, some (x17, Ty.imm)] rfl (nv 13 (d := x17) (t := Ty.imm)))) (fun v_lost_16 => (bl_cx [some (p_course, Ty.shr), some (x1.1, Ty.shr), some (x1.2.1, Ty.shr), some (s5, (Ty.own Ty.shr)), some (x6, Ty.imm), some (x8.1, Ty.shr), some (x8.2.1, Ty.shr), some (x8.2.2.1, Ty.shr), some (x8.2.2.2.1, Ty.shr), some (s13, (Ty.dct Ty.imm)), some (x11, Ty.imm), some (x14, Ty.imm), some (v_lost_16, (Ty.own Ty.imm)), none] rfl (bl_ifx (ts_cmp (op_eqD hr.units) rule_eqD (nv 12 (d := v_lost_16) (t := (Ty.own Ty.imm))) (ev_nil (t := Ty.imm))) (bl_dput (i := 9) (xd := s13) (t := Ty.imm) (hu_of hr) rfl (nv 11 (d := x14) (t := Ty.imm)) (nv 10 (d := x11) (t := Ty.imm)) (fun v_won_18 => (bl_cx [some (p_course, Ty.shr), some (x1.1, Ty.shr), some (x1.2.1, Ty.shr), some (s5, (Ty.own Ty.shr)), some (x6, Ty.imm), some (x8.1, Ty.shr), some (x8.2.1, Ty.shr), some (x8.2.2.1, Ty.shr), some (x8.2.2.2.1, Ty.shr), some (v_won_18, (Ty.dct Ty.imm)), some (x11, Ty.imm), some (x14, Ty.imm), some (v_lost_16, (Ty.own Ty.imm)), none] rfl (bl_break (l := v_won_18) (.keep (.keep (.keep (.keep (.keep (.keep (.keep (.keep (.keep (.keep (.keep (.drop (.drop (.drop .nil)))))))))))))))))) (bl_end (s := s13) (.keep (.keep (.keep (.keep (.keep (.keep (.keep (.keep (.keep (.keep (.keep (.drop (.drop (.drop .nil)))))))))))))))))) (sw_true rfl rfl rfl (by decide +kernel))))) (fun s15 => (bl_end (s := s15) (.keep (.keep (.keep (.keep (.keep (.keep (.keep (.keep (.keep (.keep (.drop (.drop (.drop (.drop .nil))))))))))))))))))) (fun s12 => (bl_frz (i := 9) (d := s12) (t := (Ty.dct Ty.imm)) rfl (bl_cx [some (p_course, Ty.shr), some (x1.1, Ty.shr), some (x1.2.1, Ty.shr), some (s5, (Ty.own Ty.shr)), some (x6, Ty.imm), some (x8.1, Ty.shr), some (x8.2.1, Ty.shr), some (x8.2.2.1, Ty.shr), some (x8.2.2.2.1, Ty.shr), some (s12, Ty.shr), none, none, none, none] rfl (bl_set (i := 3) S.nd rfl (ev_catL (ta := (Ty.own Ty.shr)) (tb := (Ty.bor Ty.shr)) (ev_lstF (ar_consF (nv 9 (d := s12) (t := Ty.shr)) ar_nil)) (nv 3 (d := s5) (t := (Ty.own Ty.shr)))) (fun v_found_20 => (bl_cx [some (p_course, Ty.shr), some (x1.1, Ty.shr), some (x1.2.1, Ty.shr), some (v_found_20, (Ty.own Ty.shr)), some (x6, Ty.imm), some (x8.1, Ty.shr), some (x8.2.1, Ty.shr), some (x8.2.2.1, Ty.shr), some (x8.2.2.2.1, Ty.shr), some (s12, Ty.shr), none, none, none, none] rfl (bl_end (s := v_found_20) (.keep (.keep (.keep (.keep (.drop (.drop (.drop (.drop (.drop (.drop (.drop (.drop (.drop (.drop .nil)))))))))))))))))))))))))))))) (fun s7 => (bl_retM (i := 3) (d := s7) rfl)))))))))))
set_option maxHeartbeats 0 in
theorem g_check_course {f : Addr} {fd : FuncData} (F : Fun K "check_course" "check_course" s_check_course f fd) (z_enumerate : mg "enumerate" = none) (z_len : mg "len" = none) (z_max : mg "max" = none) (z_min : mg "min" = none) {u_LATEST : Value} (m_LATEST : mg "LATEST" = some u_LATEST) (r_LATEST : ∃ tk, u_LATEST = .int 1000000000 tk) {u_MOST_STOPS : Value} (m_MOST_STOPS : mg "MOST_STOPS" = some u_MOST_STOPS) (r_MOST_STOPS : ∃ tk, u_MOST_STOPS = .int 40 tk) : FnG P w K mg base CX0 1 f fd ["course"] (spP clsF K 1 (fn1 F_check_course) Ty.imm) := by
  have S := sc_check_course
  exact fnG_U (m := 6) (body := fun ds => match ds with
    | [p_course] => B_check_course p_course
    | _ => R.stuck) F S rfl (by decide) (fun ds hl => match ds, hl with | [p_course], _ => rfl) (fun cdv A outer s H E hr gd ds hl => match ds, hl with | [p_course], _ => (bl_cx [some (p_course, Ty.shr), none, none, none, none, none, none] rfl (bl_asg (f := (unT 2 (tsC (fun d => R.ok d) (tsC (fun d => R.ok d) tsN)))) (sl := (fun s => (fun d => [(1, d, Ty.shr)]) s.1 ++ (fun s => (fun d => [(2, d, Ty.shr)]) s.1 ++ (fun _ => []) s.2) s.2)) (nv 0 (d := p_course) (t := Ty.shr)) (tg_tup rfl (tgs_cons (tg_nm 1 S.nd rfl) (tgs_cons (tg_nm 2 S.nd rfl) tgs_nil))) (noX_unT (noX_tsC noX_ok (noX_tsC noX_ok noX_tsN))) (fun x1 => (bl_cx [some (p_course, Ty.shr), some (x1.1, Ty.shr), some (x1.2.1, Ty.shr), none, none, none, none] rfl (bl_ifx (ts_tw (tw_or (ts_not (ts_chain op_le op_le rule_le rule_le ev_int (ev_len z_len (nv 1 (d := x1.1) (t := Ty.shr))) (ev_globI m_MOST_STOPS r_MOST_STOPS))) (tw_or1 (ts_cmp op_ne rule_neS (ev_len z_len (nv 2 (d := x1.2.1) (t := Ty.shr))) (ev_sub (ev_len z_len (nv 1 (d := x1.1) (t := Ty.shr))) ev_int))))) bl_never (bl_for (Λ := fun (s2 : Unit) => [some (p_course, Ty.shr), some (x1.1, Ty.shr), some (x1.2.1, Ty.shr), none, none, none, none]) (s0 := ()) (f := (unT 2 (tsC (fun d => R.ok d) (tsC (fun d => R.ok d) tsN)))) (sl := (fun s => (fun d => [(3, d, Ty.shr)]) s.1 ++ (fun s => (fun d => [(4, d, Ty.shr)]) s.1 ++ (fun _ => []) s.2) s.2)) PassesOwn.never rfl (it_enum z_enumerate (ar_consF (nv 1 (d := x1.1) (t := Ty.shr)) ar_nil)) (tg_tup rfl (tgs_cons (tg_nm 3 S.nd rfl) (tgs_cons (tg_nm 4 S.nd rfl) tgs_nil))) (noX_unT (noX_tsC noX_ok (noX_tsC noX_ok noX_tsN))) (.keep (.keep (.keep (.drop (.drop (.drop (.drop .nil))))))) (fun x3 s2 => (bl_cx [some (p_course, Ty.shr), some (x1.1, Ty.shr), some (x1.2.1, Ty.shr), some (x3.1, Ty.shr), some (x3.2.1, Ty.shr), none, none] rfl (bl_ifx (ts_tw (tw_or (ts_cmp op_lt rule_lt (ev_min1 rfl hr.units z_min (nv 4 (d := x3.2.1) (t := Ty.shr))) ev_int) (tw_or (ts_cmp op_gt rule_gt (ev_max1 rfl hr.units z_max (nv 4 (d := x3.2.1) (t := Ty.shr))) (ev_globI m_LATEST r_LATEST)) (tw_or1 (ts_cmp op_gt rule_gt (ev_ix (ta := Ty.shr) (nv 4 (d := x3.2.1) (t := Ty.shr)) ev_int) (ev_ix (ta := Ty.shr) (nv 4 (d := x3.2.1) (t := Ty.shr)) ev_int)))))) bl_never (bl_end (s := ()) (.keep (.keep (.keep (.drop (.drop (.drop (.drop .nil))))))))))) (fun s4 => (bl_for (Λ := fun (s5 : Unit) => [some (p_course, Ty.shr), some (x1.1, Ty.shr), some (x1.2.1, Ty.shr), none, none, none, none]) (s0 := ()) (f := (unT 2 (tsC (fun d => R.ok d) (tsC (unT 2 (tsC (fun d => R.ok d) (tsC (fun d => R.ok d) tsN))) tsN)))) (sl := (fun s => (fun d => [(3, d, Ty.shr)]) s.1 ++ (fun s => (fun s => (fun d => [(5, d, Ty.shr)]) s.1 ++ (fun s => (fun d => [(6, d, Ty.shr)]) s.1 ++ (fun _ => []) s.2) s.2) s.1 ++ (fun _ => []) s.2) s.2)) PassesOwn.never rfl (it_enum z_enumerate (ar_consF (nv 2 (d := x1.2.1) (t := Ty.shr)) ar_nil)) (tg_tup rfl (tgs_cons (tg_nm 3 S.nd rfl) (tgs_cons (tg_tup rfl (tgs_cons (tg_nm 5 S.nd rfl) (tgs_cons (tg_nm 6 S.nd rfl) tgs_nil))) tgs_nil))) (noX_unT (noX_tsC noX_ok (noX_tsC (noX_unT (noX_tsC noX_ok (noX_tsC noX_ok noX_tsN))) noX_tsN))) (.keep (.keep (.keep (.drop (.drop (.drop (.drop .nil))))))) (fun x6 s5 => (bl_cx [some (p_course, Ty.shr), some (x1.1, Ty.shr), some (x1.2.1, Ty.shr), some (x6.1, Ty.shr), none, some (x6.2.1.1, Ty.shr), some (x6.2.1.2.1, Ty.shr)] rfl (bl_ifx (ts_not (ts_chain3 op_le op_le op_le rule_le rule_le rule_le ev_int (nv 5 (d := x6.2.1.1) (t := Ty.shr)) (nv 6 (d := x6.2.1.2.1) (t := Ty.shr)) (ev_globI m_LATEST r_LATEST))) bl_never (bl_end (s := ()) (.keep (.keep (.keep (.drop (.drop (.drop (.drop .nil))))))))))) (fun s7 => (bl_end (s := ()) .nil)))))))))))
set_option maxHeartbeats 0 in
theorem g_bounds_before {f : Addr} {fd : FuncData} (F : Fun K "bounds_before" "bounds_before" s_bounds_before f fd) (z_max : mg "max" = none) (z_min : mg "min" = none) : FnG P w K mg base CX0 1 f fd ["stop", "leg", "stretch"] (spP clsF K 3 (fn3 F_bounds_before) Ty.imm) := by
  have S := sc_bounds_before
  exact fnG_E (m := 11) (body := fun ds => match ds with
    | [p_stop, p_leg, p_stretch] => B_bounds_before p_stop p_leg p_stretch
    | _ => R.stuck) F S rfl (by decide) (fun ds hl => match ds, hl with | [p_stop, p_leg, p_stretch], _ => rfl) (fun cdv A outer s H E hr gd ds hl => match ds, hl with | [p_stop, p_leg, p_stretch], _ => (bl_cx [some (p_stop, Ty.shr), some (p_leg, Ty.shr), some (p_stretch, Ty.shr), none, none, none, none, none, none, none, none, none, none, none] rfl (bl_asg (f := (unT 4 (tsC (fun d => R.ok d) (tsC (fun d => R.ok d) (tsC (fun d => R.ok d) (tsC (fun d => R.ok d) tsN)))))) (sl := (fun s => (fun d => [(3, d, Ty.shr)]) s.1 ++ (fun s => (fun d => [(4, d, Ty.shr)]) s.1 ++ (fun s => (fun d => [(5, d, Ty.shr)]) s.1 ++ (fun s => (fun d => [(6, d, Ty.shr)]) s.1 ++ (fun _ => []) s.2) s.2) s.2) s.2)) (nv 0 (d := p_stop) (t := Ty.shr)) (tg_tup rfl (tgs_cons (tg_nm 3 S.nd rfl) (tgs_cons (tg_nm 4 S.nd rfl) (tgs_cons (tg_nm 5 S.nd rfl) (tgs_cons (tg_nm 6 S.nd rfl) tgs_nil))))) (noX_unT (noX_tsC noX_ok (noX_tsC noX_ok (noX_tsC noX_ok (noX_tsC noX_ok noX_tsN))))) (fun x1 => (bl_cx [some (p_stop, Ty.shr), some (p_leg, Ty.shr), some (p_stretch, Ty.shr), some (x1.1, Ty.shr), some (x1.2.1, Ty.shr), some (x1.2.2.1, Ty.shr), some (x1.2.2.2.1, Ty.shr), none, none, none, none, none, none, none] rfl (bl_asg (f := (unT 2 (tsC (fun d => R.ok d) (tsC (fun d => R.ok d) tsN)))) (sl := (fun s => (fun d => [(7, d, Ty.shr)]) s.1 ++ (fun s => (fun d => [(8, d, Ty.shr)]) s.1 ++ (fun _ => []) s.2) s.2)) (nv 1 (d := p_leg) (t := Ty.shr)) (tg_tup rfl (tgs_cons (tg_nm 7 S.nd rfl) (tgs_cons (tg_nm 8 S.nd rfl) tgs_nil))) (noX_unT (noX_tsC noX_ok (noX_tsC noX_ok noX_tsN))) (fun x2 => (bl_cx [some (p_stop, Ty.shr), some (p_leg, Ty.shr), some (p_stretch, Ty.shr), some (x1.1, Ty.shr), some (x1.2.1, Ty.shr), some (x1.2.2.1, Ty.shr), some (x1.2.2.2.1, Ty.shr), some (x2.1, Ty.shr), some (x2.2.1, Ty.shr), none, none, none, none, none] rfl (bl_asg (f := (unT 2 (tsC (fun d => R.ok d) (tsC (fun d => R.ok d) tsN)))) (sl := (fun s => (fun d => [(9, d, Ty.shr)]) s.1 ++ (fun s => (fun d => [(10, d, Ty.shr)]) s.1 ++ (fun _ => []) s.2) s.2)) (nv 2 (d := p_stretch) (t := Ty.shr)) (tg_tup rfl (tgs_cons (tg_nm 9 S.nd rfl) (tgs_cons (tg_nm 10 S.nd rfl) tgs_nil))) (noX_unT (noX_tsC noX_ok (noX_tsC noX_ok noX_tsN))) (fun x3 => (bl_cx [some (p_stop, Ty.shr), some (p_leg, Ty.shr), some (p_stretch, Ty.shr), some (x1.1, Ty.shr), some (x1.2.1, Ty.shr), some (x1.2.2.1, Ty.shr), some (x1.2.2.2.1, Ty.shr), some (x2.1, Ty.shr), some (x2.2.1, Ty.shr), some (x3.1, Ty.shr), some (x3.2.1, Ty.shr), none, none, none] rfl (bl_set (i := 11) S.nd rfl (ev_max3 (m := .an) rfl z_max (ar_consA (ev_any (nv 3 (d := x1.1) (t := Ty.shr))) (ar_consA (ev_any (ev_sub (nv 5 (d := x1.2.2.1) (t := Ty.shr)) (nv 6 (d := x1.2.2.2.1) (t := Ty.shr)))) (ar_consA (ev_any (ev_sub (ev_sub (nv 9 (d := x3.1) (t := Ty.shr)) (nv 7 (d := x2.1) (t := Ty.shr))) (nv 6 (d := x1.2.2.2.1) (t := Ty.shr)))) ar_nil)))) (fun v_first_4 => (bl_cx [some (p_stop, Ty.shr), some (p_leg, Ty.shr), some (p_stretch, Ty.shr), some (x1.1, Ty.shr), some (x1.2.1, Ty.shr), some (x1.2.2.1, Ty.shr), some (x1.2.2.2.1, Ty.shr), some (x2.1, Ty.shr), some (x2.2.1, Ty.shr), some (x3.1, Ty.shr), some (x3.2.1, Ty.shr), some (v_first_4, Ty.imm), none, none] rfl (bl_set (i := 12) S.nd rfl (ev_min2 (m := .an) rfl z_min (ar_consA (ev_any (nv 4 (d := x1.2.1) (t := Ty.shr))) (ar_consA (ev_any (ev_sub (nv 10 (d := x3.2.1) (t := Ty.shr)) (nv 8 (d := x2.2.1) (t := Ty.shr)))) ar_nil))) (fun v_last_5 => (bl_cx [some (p_stop, Ty.shr), some (p_leg, Ty.shr), some (p_stretch, Ty.shr), some (x1.1, Ty.shr), some (x1.2.1, Ty.shr), some (x1.2.2.1, Ty.shr), some (x1.2.2.2.1, Ty.shr), some (x2.1, Ty.shr), some (x2.2.1, Ty.shr), some (x3.1, Ty.shr), some (x3.2.1, Ty.shr), some (v_first_4, Ty.imm), some (v_last_5, Ty.imm), none] rfl (bl_set (i := 13) S.nd rfl (ev_and (ev_cmp op_le rule_le (ev_sub (nv 9 (d := x3.1) (t := Ty.shr)) (nv 7 (d := x2.1) (t := Ty.shr))) (ev_sub (nv 10 (d := x3.2.1) (t := Ty.shr)) (nv 8 (d := x2.2.1) (t := Ty.shr)))) (ev_and (ev_cmp op_le rule_le (nv 5 (d := x1.2.2.1) (t := Ty.shr)) (ev_sub (nv 10 (d := x3.2.1) (t := Ty.shr)) (nv 8 (d := x2.2.1) (t := Ty.shr)))) (ev_one (ev_cmp op_le rule_le (nv 11 (d := v_first_4) (t := Ty.imm)) (nv 12 (d := v_last_5) (t := Ty.imm)))))) (fun v_are_any_6 => (bl_cx [some (p_stop, Ty.shr), some (p_leg, Ty.shr), some (p_stretch, Ty.shr), some (x1.1, Ty.shr), some (x1.2.1, Ty.shr), some (x1.2.2.1, Ty.shr), some (x1.2.2.2.1, Ty.shr), some (x2.1, Ty.shr), some (x2.2.1, Ty.shr), some (x3.1, Ty.shr), some (x3.2.1, Ty.shr), some (v_first_4, Ty.imm), some (v_last_5, Ty.imm), some (v_are_any_6, Ty.imm)] rfl (bl_ret (ev_tup (m := .im) (ar_consI (nv 11 (d := v_first_4) (t := Ty.imm)) (ar_consI (nv 12 (d := v_last_5) (t := Ty.imm)) (ar_consI (nv 13 (d := v_are_any_6) (t := Ty.imm)) ar_nil)))))))))))))))))))))))))
set_option maxHeartbeats 0 in
theorem g_safe_comings {f : Addr} {fd : FuncData} (F : Fun K "safe_comings" "safe_comings" s_safe_comings f fd) (z_zip : mg "zip" = none) (c_bounds_before : Callee P w K mg base CX0 clsF 1 "bounds_before" 3 (fn3 F_bounds_before) Ty.imm) : FnG P w K mg base CX0 2 f fd ["stops", "legs"] (spP clsF K 2 (fn2 F_safe_comings) (Ty.own Ty.shr)) := by
  have S := sc_safe_comings
  exact fnG_E (m := 7) (body := fun ds => match ds with
    | [p_stops, p_legs] => B_safe_comings p_stops p_legs
    | _ => R.stuck) F S rfl (by decide) (fun ds hl => match ds, hl with | [p_stops, p_legs], _ => rfl) (fun cdv A outer s H E hr gd ds hl => match ds, hl with | [p_stops, p_legs], _ => (bl_cx [some (p_stops, Ty.shr), some (p_legs, Ty.shr), none, none, none, none, none, none, none] rfl (bl_set (i := 2) S.nd rfl (ev_lstF (ar_consF (ev_cutT (ta := Ty.shr) (ev_ix (ta := Ty.shr) (nv 0 (d := p_stops) (t := Ty.shr)) (ev_neg ev_int)) po_n (po_s ev_int)) ar_nil)) (fun v_found_1 => (bl_cx [some (p_stops, Ty.shr), some (p_legs, Ty.shr), some (v_found_1, (Ty.own Ty.shr)), none, none, none, none, none, none] rfl (bl_for (Λ := fun (s2 : PyData) => [some (p_stops, Ty.shr), some (p_legs, Ty.shr), some (s2, (Ty.own Ty.shr)), none, none, none, none, none, none]) (s0 := v_found_1) (f := (unT 2 (tsC (fun d => R.ok d) (tsC (fun d => R.ok d) tsN)))) (sl := (fun s => (fun d => [(3, d, Ty.shr)]) s.1 ++ (fun s => (fun d => [(4, d, Ty.shr)]) s.1 ++ (fun _ => []) s.2) s.2)) PassesOwn.never rfl (it_zip z_zip (ar_consF (ev_shr (ev_rev2 (ta := Ty.shr) (nv 0 (d := p_stops) (t := Ty.shr)))) (ar_consF (ev_shr (ev_rev (ta := Ty.shr) (nv 1 (d := p_legs) (t := Ty.shr)))) ar_nil))) (tg_tup rfl (tgs_cons (tg_nm 3 S.nd rfl) (tgs_cons (tg_nm 4 S.nd rfl) tgs_nil))) (noX_unT (noX_tsC noX_ok (noX_tsC noX_ok noX_tsN))) (.keep (.keep (.keep (.drop (.drop (.drop (.drop (.drop (.drop .nil))))))))) (fun x3 s2 => (bl_cx [some (p_stops, Ty.shr), some (p_legs, Ty.shr), some (s2, (Ty.own Ty.shr)), some (x3.1, Ty.shr), some (x3.2.1, Ty.shr), none, none, none, none] rfl (bl_set (i := 5) S.nd rfl ev_none (fun v_stretch_5 => (bl_cx [some (p_stops, Ty.shr), some (p_legs, Ty.shr), some (s2, (Ty.own Ty.shr)), some (x3.1, Ty.shr), some (x3.2.1, Ty.shr), some (v_stretch_5, Ty.imm), none, none, none] rfl (bl_if (Δ1 := fun (j6 : PyData) => [some (p_stops, Ty.shr), some (p_legs, Ty.shr), some (s2, (Ty.own Ty.shr)), some (x3.1, Ty.shr), some (x3.2.1, Ty.shr), some (j6, Ty.imm), none, none, none]) (ts_cmp op_notN rule_notN (ev_ix (ta := (Ty.bor Ty.shr)) (nv 2 (d := s2) (t := (Ty.own Ty.shr))) (ev_neg ev_int)) ev_none) (bl_asg (f := (unT 3 (tsC (fun d => R.ok d) (tsC (fun d => R.ok d) (tsC (fun d => R.ok d) tsN))))) (sl := (fun s => (fun d => [(6, d, Ty.imm)]) s.1 ++ (fun s => (fun d => [(7, d, Ty.imm)]) s.1 ++ (fun s => (fun d => [(8, d, Ty.imm)]) s.1 ++ (fun _ => []) s.2) s.2) s.2)) (ev_callF c_bounds_before hr gd passC (fn3_n _) (ar_consF (nv 3 (d := x3.1) (t := Ty.shr)) (ar_consF (nv 4 (d := x3.2.1) (t := Ty.shr)) (ar_consF (ev_ix (ta := (Ty.bor Ty.shr)) (nv 2 (d := s2) (t := (Ty.own Ty.shr))) (ev_neg ev_int)) ar_nil)))) (tg_tup rfl (tgs_cons (tg_nm 6 S.nd rfl) (tgs_cons (tg_nm 7 S.nd rfl) (tgs_cons (tg_nm 8 S.nd rfl) tgs_nil)))) (noX_unT (noX_tsC noX_ok (noX_tsC noX_ok (noX_tsC noX_ok noX_tsN)))) (fun x7 => (bl_cx [some (p_stops, Ty.shr), some (p_legs, Ty.shr), some (s2, (Ty.own Ty.shr)), some (x3.1, Ty.shr), some (x3.2.1, Ty.shr), some (v_stretch_5, Ty.imm), some (x7.1, Ty.imm), some (x7.2.1, Ty.imm), some (x7.2.2.1, Ty.imm)] rfl (bl_set (i := 5) S.nd rfl (ev_if (ts_val (nv 8 (d := x7.2.2.1) (t := Ty.imm))) (ev_tup (m := .im) (ar_consI (nv 6 (d := x7.1) (t := Ty.imm)) (ar_consI (nv 7 (d := x7.2.1) (t := Ty.imm)) ar_nil))) ev_none) (fun v_stretch_8 => (bl_cx [some (p_stops, Ty.shr), some (p_legs, Ty.shr), some (s2, (Ty.own Ty.shr)), some (x3.1, Ty.shr), some (x3.2.1, Ty.shr), some (v_stretch_8, Ty.imm), some (x7.1, Ty.imm), some (x7.2.1, Ty.imm), some (x7.2.2.1, Ty.imm)] rfl (bl_end (s := v_stretch_8) (.keep (.keep (.keep (.keep (.keep (.keep (.drop (.drop (.drop .nil)))))))))))))))) (bl_end (s := v_stretch_5) (.keep (.keep (.keep (.keep (.keep (.keep (.drop (.drop (.drop .nil)))))))))) (fun j6 => (bl_append (i := 2) (xd := s2) (t := Ty.shr) rfl (ev_shr (nv 5 (d := j6) (t := Ty.imm))) (fun v_found_9 => (bl_cx [some (p_stops, Ty.shr), some (p_legs, Ty.shr), some (v_found_9, (Ty.own Ty.shr)), some (x3.1, Ty.shr), some (x3.2.1, Ty.shr), some (j6, Ty.imm), none, none, none] rfl (bl_end (s := v_found_9) (.keep (.keep (.keep (.drop (.drop (.drop (.drop (.drop (.drop .nil)))))))))))))))))))) (fun s4 => (bl_ret (ev_rev (ta := (Ty.bor Ty.shr)) (nv 2 (d := s4) (t := (Ty.own Ty.shr))))))))))))
set_option maxHeartbeats 0 in
theorem g_safe {f : Addr} {fd : FuncData} (F : Fun K "safe" "safe" s_safe f fd) (c_check_course : Callee P w K mg base CX0 clsF 1 "check_course" 1 (fn1 F_check_course) Ty.imm) (c_safe_comings : Callee P w K mg base CX0 clsF 2 "safe_comings" 2 (fn2 F_safe_comings) (Ty.own Ty.shr)) : FnG P w K mg base CX0 3 f fd ["course"] (spP clsF K 1 (fn1 F_safe) (Ty.own Ty.shr)) := by
  have S := sc_safe
  exact fnG_E (m := 0) (body := fun ds => match ds with
    | [p_course] => B_safe p_course
    | _ => R.stuck) F S rfl (by decide) (fun ds hl => match ds, hl with | [p_course], _ => rfl) (fun cdv A outer s H E hr gd ds hl => match ds, hl with | [p_course], _ => (bl_cx [some (p_course, Ty.shr)] rfl (bl_expr (ev_callF c_check_course hr gd passC (fn1_n _) (ar_consF (nv 0 (d := p_course) (t := Ty.shr)) ar_nil)) (fun _ => (bl_ret (ev_callF c_safe_comings hr gd passC (fn2_n _) (ar_consF (ev_ix (ta := Ty.shr) (nv 0 (d := p_course) (t := Ty.shr)) ev_int) (ar_consF (ev_ix (ta := Ty.shr) (nv 0 (d := p_course) (t := Ty.shr)) ev_int) ar_nil))))))))
set_option maxHeartbeats 0 in
theorem g__law_stretch {f : Addr} {fd : FuncData} (F : Fun K "_law_stretch" "_law_stretch" s__law_stretch f fd) (z_len : mg "len" = none) (z_sorted : mg "sorted" = none) : FnG P w K mg base CX0 1 f fd ["won"] (spP clsF K 1 (fn1 F__law_stretch) Ty.imm) := by
  have S := sc__law_stretch
  exact fnG_E (m := 1) (body := fun ds => match ds with
    | [p_won] => B__law_stretch p_won
    | _ => R.stuck) F S rfl (by decide) (fun ds hl => match ds, hl with | [p_won], _ => rfl) (fun cdv A outer s H E hr gd ds hl => match ds, hl with | [p_won], _ => (bl_cx [some (p_won, Ty.shr), none] rfl (bl_set (i := 1) S.nd rfl (ev_sorted rfl z_sorted (nv 0 (d := p_won) (t := Ty.shr))) (fun v_hours_1 => (bl_cx [some (p_won, Ty.shr), some (v_hours_1, (Ty.own Ty.imm))] rfl (bl_ifx (ts_cmp (op_eqD hr.units) rule_eqD (nv 1 (d := v_hours_1) (t := (Ty.own Ty.imm))) (ev_nil (t := Ty.imm))) (bl_ret ev_none) (bl_ifx (ts_cmp op_ne rule_neS (ev_add (ev_sub (ev_ix (ta := (Ty.bor Ty.imm)) (nv 1 (d := v_hours_1) (t := (Ty.own Ty.imm))) (ev_neg ev_int)) (ev_ix (ta := (Ty.bor Ty.imm)) (nv 1 (d := v_hours_1) (t := (Ty.own Ty.imm))) ev_int)) ev_int) (ev_len z_len (nv 1 (d := v_hours_1) (t := (Ty.own Ty.imm))))) (bl_ret ev_bool) (bl_ret (ev_tup (m := .im) (ar_consI (ev_ix (ta := (Ty.bor Ty.imm)) (nv 1 (d := v_hours_1) (t := (Ty.own Ty.imm))) ev_int) (ar_consI (ev_ix (ta := (Ty.bor Ty.imm)) (nv 1 (d := v_hours_1) (t := (Ty.own Ty.imm))) (ev_neg ev_int)) ar_nil)))))))))))
set_option maxHeartbeats 0 in
theorem g_is_within {f : Addr} {fd : FuncData} (F : Fun K "is_within" "is_within" s_is_within f fd) : FnG P w K mg base CX0 1 f fd ["hour", "stretch"] (spP clsF K 2 (fn2 F_is_within) Ty.imm) := by
  have S := sc_is_within
  exact fnG_E (m := 0) (body := fun ds => match ds with
    | [p_hour, p_stretch] => B_is_within p_hour p_stretch
    | _ => R.stuck) F S rfl (by decide) (fun ds hl => match ds, hl with | [p_hour, p_stretch], _ => rfl) (fun cdv A outer s H E hr gd ds hl => match ds, hl with | [p_hour, p_stretch], _ => (bl_cx [some (p_hour, Ty.shr), some (p_stretch, Ty.shr)] rfl (bl_ret (ev_and (ev_cmp op_notN rule_notN (nv 1 (d := p_stretch) (t := Ty.shr)) ev_none) (ev_one (ev_chain op_le op_le rule_le rule_le (ev_ix (ta := Ty.shr) (nv 1 (d := p_stretch) (t := Ty.shr)) ev_int) (nv 0 (d := p_hour) (t := Ty.shr)) (ev_ix (ta := Ty.shr) (nv 1 (d := p_stretch) (t := Ty.shr)) ev_int)))))))
set_option maxHeartbeats 0 in
theorem g_has_rule {f : Addr} {fd : FuncData} (F : Fun K "has_rule" "has_rule" s_has_rule f fd) (c_is_within : Callee P w K mg base CX0 clsF 1 "is_within" 2 (fn2 F_is_within) Ty.imm) (c_safe : Callee P w K mg base CX0 clsF 3 "safe" 1 (fn1 F_safe) (Ty.own Ty.shr)) : FnG P w K mg base CX0 4 f fd ["course", "start"] (spP clsF K 2 (fn2 F_has_rule) Ty.imm) := by
  have S := sc_has_rule
  exact fnG_E (m := 0) (body := fun ds => match ds with
    | [p_course, p_start] => B_has_rule p_course p_start
    | _ => R.stuck) F S rfl (by decide) (fun ds hl => match ds, hl with | [p_course, p_start], _ => rfl) (fun cdv A outer s H E hr gd ds hl => match ds, hl with | [p_course, p_start], _ => (bl_cx [some (p_course, Ty.shr), some (p_start, Ty.shr)] rfl (bl_ret (ev_callF c_is_within hr gd passC (fn2_n _) (ar_consF (nv 1 (d := p_start) (t := Ty.shr)) (ar_consF (ev_ix (ta := (Ty.own Ty.shr)) (ev_callF c_safe hr gd passC (fn1_n _) (ar_consF (nv 0 (d := p_course) (t := Ty.shr)) ar_nil)) ev_int) ar_nil))))))
set_option maxHeartbeats 0 in
theorem g_told_going {f : Addr} {fd : FuncData} (F : Fun K "told_going" "told_going" s_told_going f fd) (z_max : mg "max" = none) : FnG P w K mg base CX0 1 f fd ["stop", "leg", "stretch", "coming"] (spP clsF K 4 (fn4 F_told_going) Ty.imm) := by
  have S := sc_told_going
  exact fnG_E (m := 0) (body := fun ds => match ds with
    | [p_stop, p_leg, p_stretch, p_coming] => B_told_going p_stop p_leg p_stretch p_coming
    | _ => R.stuck) F S rfl (by decide) (fun ds hl => match ds, hl with | [p_stop, p_leg, p_stretch, p_coming], _ => rfl) (fun cdv A outer s H E hr gd ds hl => match ds, hl with | [p_stop, p_leg, p_stretch, p_coming], _ => (bl_cx [some (p_stop, Ty.shr), some (p_leg, Ty.shr), some (p_stretch, Ty.shr), some (p_coming, Ty.shr)] rfl (bl_ret (ev_max3 (m := .an) rfl z_max (ar_consA (ev_any (nv 3 (d := p_coming) (t := Ty.shr))) (ar_consA (ev_any (ev_ix (ta := Ty.shr) (nv 0 (d := p_stop) (t := Ty.shr)) ev_int)) (ar_consA (ev_any (ev_sub (ev_ix (ta := Ty.shr) (nv 2 (d := p_stretch) (t := Ty.shr)) ev_int) (ev_ix (ta := Ty.shr) (nv 1 (d := p_leg) (t := Ty.shr)) ev_int))) ar_nil)))))))
set_option maxHeartbeats 0 in
theorem g_going {f : Addr} {fd : FuncData} (F : Fun K "going" "going" s_going f fd) (z_len : mg "len" = none) (c_safe : Callee P w K mg base CX0 clsF 3 "safe" 1 (fn1 F_safe) (Ty.own Ty.shr)) (c_is_within : Callee P w K mg base CX0 clsF 1 "is_within" 2 (fn2 F_is_within) Ty.imm) (c_told_going : Callee P w K mg base CX0 clsF 1 "told_going" 4 (fn4 F_told_going) Ty.imm) : FnG P w K mg base CX0 4 f fd ["course", "stop", "coming"] (spP clsF K 3 (fn3 F_going) Ty.imm) := by
  have S := sc_going
  exact fnG_E (m := 1) (body := fun ds => match ds with
    | [p_course, p_stop, p_coming] => B_going p_course p_stop p_coming
    | _ => R.stuck) F S rfl (by decide) (fun ds hl => match ds, hl with | [p_course, p_stop, p_coming], _ => rfl) (fun cdv A outer s H E hr gd ds hl => match ds, hl with | [p_course, p_stop, p_coming], _ => (bl_cx [some (p_course, Ty.shr), some (p_stop, Ty.shr), some (p_coming, Ty.shr), none] rfl (bl_set (i := 3) S.nd rfl (ev_callF c_safe hr gd passC (fn1_n _) (ar_consF (nv 0 (d := p_course) (t := Ty.shr)) ar_nil)) (fun v_stretches_1 => (bl_cx [some (p_course, Ty.shr), some (p_stop, Ty.shr), some (p_coming, Ty.shr), some (v_stretches_1, (Ty.own Ty.shr))] rfl (bl_ifx (ts_tw (tw_or (ts_cmp op_eq rule_eqS (nv 1 (d := p_stop) (t := Ty.shr)) (ev_sub (ev_len z_len (nv 3 (d := v_stretches_1) (t := (Ty.own Ty.shr)))) ev_int)) (tw_or1 (ts_not (ts_val (ev_callF c_is_within hr gd passC (fn2_n _) (ar_consF (nv 2 (d := p_coming) (t := Ty.shr)) (ar_consF (ev_ix (ta := (Ty.bor Ty.shr)) (nv 3 (d := v_stretches_1) (t := (Ty.own Ty.shr))) (nv 1 (d := p_stop) (t := Ty.shr))) ar_nil)))))))) (bl_ret ev_none) (bl_ret (ev_callF c_told_going hr gd passC (fn4_n _) (ar_consF (ev_ix (ta := Ty.shr) (ev_ix (ta := Ty.shr) (nv 0 (d := p_course) (t := Ty.shr)) ev_int) (nv 1 (d := p_stop) (t := Ty.shr))) (ar_consF (ev_ix (ta := Ty.shr) (ev_ix (ta := Ty.shr) (nv 0 (d := p_course) (t := Ty.shr)) ev_int) (nv 1 (d := p_stop) (t := Ty.shr))) (ar_consF (ev_ix (ta := (Ty.bor Ty.shr)) (nv 3 (d := v_stretches_1) (t := (Ty.own Ty.shr))) (ev_add (nv 1 (d := p_stop) (t := Ty.shr)) ev_int)) (ar_consF (nv 2 (d := p_coming) (t := Ty.shr)) ar_nil))))))))))))
set_option maxHeartbeats 0 in
theorem g_spoilt {f : Addr} {fd : FuncData} (F : Fun K "spoilt" "spoilt" s_spoilt f fd) (c_safe : Callee P w K mg base CX0 clsF 3 "safe" 1 (fn1 F_safe) (Ty.own Ty.shr)) (c_is_within : Callee P w K mg base CX0 clsF 1 "is_within" 2 (fn2 F_is_within) Ty.imm) : FnG P w K mg base CX0 4 f fd ["course", "stop", "hour"] (spP clsF K 3 (fn3 F_spoilt) Ty.shr) := by
  have S := sc_spoilt
  exact fnG_E (m := 2) (body := fun ds => match ds with
    | [p_course, p_stop, p_hour] => B_spoilt p_course p_stop p_hour
    | _ => R.stuck) F S rfl (by decide) (fun ds hl => match ds, hl with | [p_course, p_stop, p_hour], _ => rfl) (fun cdv A outer s H E hr gd ds hl => match ds, hl with | [p_course, p_stop, p_hour], _ => (bl_cx [some (p_course, Ty.shr), some (p_stop, Ty.shr), some (p_hour, Ty.shr), none, none] rfl (bl_set (i := 3) S.nd rfl (ev_callF c_safe hr gd passC (fn1_n _) (ar_consF (nv 0 (d := p_course) (t := Ty.shr)) ar_nil)) (fun v_stretches_1 => (bl_cx [some (p_course, Ty.shr), some (p_stop, Ty.shr), some (p_hour, Ty.shr), some (v_stretches_1, (Ty.own Ty.shr)), none] rfl (bl_for (Λ := fun (s2 : Unit) => [some (p_course, Ty.shr), some (p_stop, Ty.shr), some (p_hour, Ty.shr), some (v_stretches_1, (Ty.own Ty.shr)), none]) (s0 := ()) (f := (fun d => R.ok d)) (sl := (fun d => [(4, d, Ty.shr)])) PassesOwn.never rfl (it_seq (ev_ix (ta := Ty.shr) (ev_ix (ta := Ty.shr) (nv 0 (d := p_course) (t := Ty.shr)) ev_int) (nv 1 (d := p_stop) (t := Ty.shr)))) (tg_nm 4 S.nd rfl) noX_ok (.keep (.keep (.keep (.keep (.drop .nil))))) (fun x3 s2 => (bl_cx [some (p_course, Ty.shr), some (p_stop, Ty.shr), some (p_hour, Ty.shr), some (v_stretches_1, (Ty.own Ty.shr)), some (x3, Ty.shr)] rfl (bl_ifx (ts_not (ts_val (ev_callF c_is_within hr gd passC (fn2_n _) (ar_consF (ev_shr (ev_add (nv 2 (d := p_hour) (t := Ty.shr)) (nv 4 (d := x3) (t := Ty.shr)))) (ar_consF (ev_ix (ta := (Ty.bor Ty.shr)) (nv 3 (d := v_stretches_1) (t := (Ty.own Ty.shr))) (ev_add (nv 1 (d := p_stop) (t := Ty.shr)) ev_int)) ar_nil))))) (bl_ret (nv 4 (d := x3) (t := Ty.shr))) (bl_end (s := ()) (.keep (.keep (.keep (.keep (.drop .nil))))))))) (fun s4 => (bl_ret (ev_shr ev_none)))))))))
set_option maxHeartbeats 0 in
theorem g__law_course_right {f : Addr} {fd : FuncData} (F : Fun K "_law_course_right" "_law_course_right" s__law_course_right f fd) (z_bool : mg "bool" = none) (z_isinstance : mg "isinstance" = none) (z_len : mg "len" = none) (z_list : mg "list" = none) (z_max : mg "max" = none) (z_range : mg "range" = none) (z_repr : mg "repr" = none) (c__law_wins : Callee P w K mg base CX0 clsF 1 "_law_wins" 1 (fn1 F__law_wins) (Ty.own Ty.shr)) (c__law_stretch : Callee P w K mg base CX0 clsF 1 "_law_stretch" 1 (fn1 F__law_stretch) Ty.imm) (c_safe : Callee P w K mg base CX0 clsF 3 "safe" 1 (fn1 F_safe) (Ty.own Ty.shr)) (c__law_mix : Callee P w K mg base CX0 clsF 1 "_law_mix" 3 (fn3 F__law_mix) Ty.imm) (c_has_rule : Callee P w K mg base CX0 clsF 4 "has_rule" 2 (fn2 F_has_rule) Ty.imm) (c_going : Callee P w K mg base CX0 clsF 4 "going" 3 (fn3 F_going) Ty.imm) (c_spoilt : Callee P w K mg base CX0 clsF 4 "spoilt" 3 (fn3 F_spoilt) Ty.shr) : FnG P w K mg base CX0 5 f fd ["draws", "k", "course"] (spP clsF K 3 (fn3 F__law_course_right) Ty.imm) := by
  have S := sc__law_course_right
  exact fnG_E (m := 15) (body := fun ds => match ds with
    | [p_draws, p_k, p_course] => B__law_course_right p_draws p_k p_course
    | _ => R.stuck) F S rfl (by decide) (fun ds hl => match ds, hl with | [p_draws, p_k, p_course], _ => rfl) (fun cdv A outer s H E hr gd ds hl => match ds, hl with | [p_draws, p_k, p_course], _ => (bl_cx [some (p_draws, Ty.shr), some (p_k, Ty.shr), some (p_course, Ty.shr), none, none, none, none, none, none, none, none, none, none, none, none, none, none, none] rfl (bl_set (i := 3) S.nd rfl (ev_callF c__law_wins hr gd passC (fn1_n _) (ar_consF (nv 2 (d := p_course) (t := Ty.shr)) ar_nil)) (fun v_wins_1 => (bl_cx [some (p_draws, Ty.shr), some (p_k, Ty.shr), some (p_course, Ty.shr), some (v_wins_1, (Ty.own Ty.shr)), none, none, none, none, none, none, none, none, none, none, none, none, none, none] rfl (bl_setLc (i := 4) (own := [("won", 16)]) (f := (fun d => R.ok d)) (sl := (fun d => [(16, d, Ty.shr)])) (c := fun x3 => (R.ok true)) (g := fun x3 => ((aC (R.ok x3) aN).bind (fn1 F__law_stretch))) (t := Ty.imm) rfl S.nd rfl (ig_seq (ta := (Ty.bor Ty.shr)) (nv 3 (d := v_wins_1) (t := (Ty.own Ty.shr)))) (blkOk_by (own := [("won", 16)]) (N := N__law_course_right) (sc := defScope s__law_course_right) (by decide +kernel)) (fun _ _ _ _ _ => (tg_nm 16 S.nd rfl)) noX_ok (by simp) (fun _ _ _ _ _ x3 => (tss_cx [some (p_draws, Ty.shr), some (p_k, Ty.shr), some (p_course, Ty.shr), some (v_wins_1, (Ty.own Ty.shr)), none, none, none, none, none, none, none, none, none, none, none, none, some (x3, Ty.shr), none] rfl tss_nil)) (fun _ _ _ _ _ x3 => (ev_cx [some (p_draws, Ty.shr), some (p_k, Ty.shr), some (p_course, Ty.shr), some (v_wins_1, (Ty.own Ty.shr)), none, none, none, none, none, none, none, none, none, none, none, none, some (x3, Ty.shr), none] rfl (ev_callF c__law_stretch hr gd passC (fn1_n _) (ar_consF (nv 16 (d := x3) (t := Ty.shr)) ar_nil)))) (fun v_due_2 => (bl_cx [some (p_draws, Ty.shr), some (p_k, Ty.shr), some (p_course, Ty.shr), some (v_wins_1, (Ty.own Ty.shr)), some (v_due_2, (Ty.own Ty.imm)), none, none, none, none, none, none, none, none, none, none, none, none, none] rfl (bl_set (i := 5) S.nd rfl (ev_repr gd hr.units z_repr (nv 2 (d := p_course) (t := Ty.shr))) (fun v_kept_4 => (bl_cx [some (p_draws, Ty.shr), some (p_k, Ty.shr), some (p_course, Ty.shr), some (v_wins_1, (Ty.own Ty.shr)), some (v_due_2, (Ty.own Ty.imm)), some (v_kept_4, Ty.imm), none, none, none, none, none, none, none, none, none, none, none, none] rfl (bl_set (i := 6) S.nd rfl (ev_callF c_safe hr gd passC (fn1_n _) (ar_consF (nv 2 (d := p_course) (t := Ty.shr)) ar_nil)) (fun v_told_5 => (bl_cx [some (p_draws, Ty.shr), some (p_k, Ty.shr), some (p_course, Ty.shr), some (v_wins_1, (Ty.own Ty.shr)), some (v_due_2, (Ty.own Ty.imm)), some (v_kept_4, Ty.imm), some (v_told_5, (Ty.own Ty.shr)), none, none, none, none, none, none, none, none, none, none, none] rfl (bl_ifx (ts_tw (tw_or (ts_not (ts_val (ev_isi (T := "list") z_isinstance z_list (by decide +kernel) (nv 6 (d := v_told_5) (t := (Ty.own Ty.shr)))))) (tw_or (ts_cmp op_ne rule_neS (ev_repr gd hr.units z_repr (nv 6 (d := v_told_5) (t := (Ty.own Ty.shr)))) (ev_repr gd hr.units z_repr (nv 4 (d := v_due_2) (t := (Ty.own Ty.imm))))) (tw_or1 (ts_cmp op_ne rule_neS (ev_repr gd hr.units z_repr (nv 2 (d := p_course) (t := Ty.shr))) (nv 5 (d := v_kept_4) (t := Ty.imm))))))) (bl_ret ev_bool) (bl_append (i := 6) (xd := v_told_5) (t := Ty.shr) rfl (ev_shr ev_int) (fun v_told_6 => (bl_cx [some (p_draws, Ty.shr), some (p_k, Ty.shr), some (p_course, Ty.shr), some (v_wins_1, (Ty.own Ty.shr)), some (v_due_2, (Ty.own Ty.imm)), some (v_kept_4, Ty.imm), some (v_told_6, (Ty.own Ty.shr)), none, none, none, none, none, none, none, none, none, none, none] rfl (bl_ifx (ts_cmp op_ne rule_neS (ev_repr gd hr.units z_repr (ev_callF c_safe hr gd passC (fn1_n _) (ar_consF (nv 2 (d := p_course) (t := Ty.shr)) ar_nil))) (ev_repr gd hr.units z_repr (nv 4 (d := v_due_2) (t := (Ty.own Ty.imm))))) (bl_ret ev_bool) (bl_asg (f := (unT 2 (tsC (fun d => R.ok d) (tsC (fun d => R.ok d) tsN)))) (sl := (fun s => (fun d => [(7, d, Ty.shr)]) s.1 ++ (fun s => (fun d => [(8, d, Ty.shr)]) s.1 ++ (fun _ => []) s.2) s.2)) (nv 2 (d := p_course) (t := Ty.shr)) (tg_tup rfl (tgs_cons (tg_nm 7 S.nd rfl) (tgs_cons (tg_nm 8 S.nd rfl) tgs_nil))) (noX_unT (noX_tsC noX_ok (noX_tsC noX_ok noX_tsN))) (fun x7 => (bl_cx [some (p_draws, Ty.shr), some (p_k, Ty.shr), some (p_course, Ty.shr), some (v_wins_1, (Ty.own Ty.shr)), some (v_due_2, (Ty.own Ty.imm)), some (v_kept_4, Ty.imm), some (v_told_6, (Ty.own Ty.shr)), some (x7.1, Ty.shr), some (x7.2.1, Ty.shr), none, none, none, none, none, none, none, none, none] rfl (bl_for (Λ := fun (s8 : Unit) => [some (p_draws, Ty.shr), some (p_k, Ty.shr), some (p_course, Ty.shr), some (v_wins_1, (Ty.own Ty.shr)), some (v_due_2, (Ty.own Ty.imm)), some (v_kept_4, Ty.imm), some (v_told_6, (Ty.own Ty.shr)), some (x7.1, Ty.shr), some (x7.2.1, Ty.shr), none, none, none, none, none, none, none, none, none]) (s0 := ()) (f := (fun d => R.ok d)) (sl := (fun d => [(9, d, Ty.imm)])) PassesOwn.never rfl (it_rng1 (m := .an) z_range (ar_consA (ev_any ev_int) ar_nil)) (tg_nm 9 S.nd rfl) noX_ok (.keep (.keep (.keep (.keep (.keep (.keep (.keep (.keep (.keep (.drop (.drop (.drop (.drop (.drop (.drop (.drop (.drop (.drop .nil)))))))))))))))))) (fun x9 s8 => (bl_cx [some (p_draws, Ty.shr), some (p_k, Ty.shr), some (p_course, Ty.shr), some (v_wins_1, (Ty.own Ty.shr)), some (v_due_2, (Ty.own Ty.imm)), some (v_kept_4, Ty.imm), some (v_told_6, (Ty.own Ty.shr)), some (x7.1, Ty.shr), some (x7.2.1, Ty.shr), some (x9, Ty.imm), none, none, none, none, none, none, none, none] rfl (bl_set (i := 10) S.nd rfl (ev_add (ev_max2 (m := .an) rfl z_max (ar_consA (ev_any ev_int) (ar_consA (ev_any (ev_sub (ev_ix (ta := Ty.shr) (ev_ix (ta := Ty.shr) (nv 7 (d := x7.1) (t := Ty.shr)) ev_int) ev_int) ev_int)) ar_nil))) (ev_callF c__law_mix hr gd passC (fn3_n _) (ar_consF (nv 0 (d := p_draws) (t := Ty.shr)) (ar_consF (ev_shr (ev_add (nv 1 (d := p_k) (t := Ty.shr)) (nv 9 (d := x9) (t := Ty.imm)))) (ar_consF (ev_shr (ev_add (ev_sub (ev_ix (ta := Ty.shr) (ev_ix (ta := Ty.shr) (nv 7 (d := x7.1) (t := Ty.shr)) ev_int) ev_int) (ev_ix (ta := Ty.shr) (ev_ix (ta := Ty.shr) (nv 7 (d := x7.1) (t := Ty.shr)) ev_int) ev_int)) ev_int)) ar_nil))))) (fun v_start_11 => (bl_cx [some (p_draws, Ty.shr), some (p_k, Ty.shr), some (p_course, Ty.shr), some (v_wins_1, (Ty.own Ty.shr)), some (v_due_2, (Ty.own Ty.imm)), some (v_kept_4, Ty.imm), some (v_told_6, (Ty.own Ty.shr)), some (x7.1, Ty.shr), some (x7.2.1, Ty.shr), some (x9, Ty.imm), some (v_start_11, Ty.imm), none, none, none, none, none, none, none] rfl (bl_set (i := 11) S.nd rfl (ev_callF c_has_rule hr gd passC (fn2_n _) (ar_consF (nv 2 (d := p_course) (t := Ty.shr)) (ar_consF (ev_shr (nv 10 (d := v_start_11) (t := Ty.imm))) ar_nil))) (fun v_answer_12 => (bl_cx [some (p_draws, Ty.shr), some (p_k, Ty.shr), some (p_course, Ty.shr), some (v_wins_1, (Ty.own Ty.shr)), some (v_due_2, (Ty.own Ty.imm)), some (v_kept_4, Ty.imm), some (v_told_6, (Ty.own Ty.shr)), some (x7.1, Ty.shr), some (x7.2.1, Ty.shr), some (x9, Ty.imm), some (v_start_11, Ty.imm), some (v_answer_12, Ty.imm), none, none, none, none, none, none] rfl (bl_ifx (ts_tw (tw_or (ts_not (ts_val (ev_isi (T := "bool") z_isinstance z_bool (by decide +kernel) (nv 11 (d := v_answer_12) (t := Ty.imm))))) (tw_or1 (ts_cmp op_ne rule_neS (nv 11 (d := v_answer_12) (t := Ty.imm)) (ev_cmp (op_dinK (hu_of hr)) rule_inK (nv 10 (d := v_start_11) (t := Ty.imm)) (ev_ix (ta := (Ty.bor Ty.shr)) (nv 3 (d := v_wins_1) (t := (Ty.own Ty.shr))) ev_int) (by with_unfolding_all rfl)))))) (bl_ret ev_bool) (bl_set (i := 12) S.nd rfl (ev_callF c__law_mix hr gd passC (fn3_n _) (ar_consF (nv 0 (d := p_draws) (t := Ty.shr)) (ar_consF (ev_shr (ev_add (ev_add (nv 1 (d := p_k) (t := Ty.shr)) ev_int) (nv 9 (d := x9) (t := Ty.imm)))) (ar_consF (ev_shr (ev_len z_len (nv 7 (d := x7.1) (t := Ty.shr)))) ar_nil)))) (fun v_stop_13 => (bl_cx [some (p_draws, Ty.shr), some (p_k, Ty.shr), some (p_course, Ty.shr), some (v_wins_1, (Ty.own Ty.shr)), some (v_due_2, (Ty.own Ty.imm)), some (v_kept_4, Ty.imm), some (v_told_6, (Ty.own Ty.shr)), some (x7.1, Ty.shr), some (x7.2.1, Ty.shr), some (x9, Ty.imm), some (v_start_11, Ty.imm), some (v_answer_12, Ty.imm), some (v_stop_13, Ty.imm), none, none, none, none, none] rfl (bl_set (i := 13) S.nd rfl (ev_add (ev_max2 (m := .an) rfl z_max (ar_consA (ev_any ev_int) (ar_consA (ev_any (ev_sub (ev_ix (ta := Ty.shr) (ev_ix (ta := Ty.shr) (nv 7 (d := x7.1) (t := Ty.shr)) (nv 12 (d := v_stop_13) (t := Ty.imm))) ev_int) ev_int)) ar_nil))) (ev_callF c__law_mix hr gd passC (fn3_n _) (ar_consF (nv 0 (d := p_draws) (t := Ty.shr)) (ar_consF (ev_shr (ev_add (ev_add (nv 1 (d := p_k) (t := Ty.shr)) ev_int) (nv 9 (d := x9) (t := Ty.imm)))) (ar_consF (ev_shr (ev_add (ev_sub (ev_ix (ta := Ty.shr) (ev_ix (ta := Ty.shr) (nv 7 (d := x7.1) (t := Ty.shr)) (nv 12 (d := v_stop_13) (t := Ty.imm))) ev_int) (ev_ix (ta := Ty.shr) (ev_ix (ta := Ty.shr) (nv 7 (d := x7.1) (t := Ty.shr)) (nv 12 (d := v_stop_13) (t := Ty.imm))) ev_int)) ev_int)) ar_nil))))) (fun v_coming_14 => (bl_cx [some (p_draws, Ty.shr), some (p_k, Ty.shr), some (p_course, Ty.shr), some (v_wins_1, (Ty.own Ty.shr)), some (v_due_2, (Ty.own Ty.imm)), some (v_kept_4, Ty.imm), some (v_told_6, (Ty.own Ty.shr)), some (x7.1, Ty.shr), some (x7.2.1, Ty.shr), some (x9, Ty.imm), some (v_start_11, Ty.imm), some (v_answer_12, Ty.imm), some (v_stop_13, Ty.imm), some (v_coming_14, Ty.imm), none, none, none, none] rfl (bl_ifx (ts_cmp op_ne rule_neS (ev_repr gd hr.units z_repr (ev_callF c_going hr gd passC (fn3_n _) (ar_consF (nv 2 (d := p_course) (t := Ty.shr)) (ar_consF (ev_shr (nv 12 (d := v_stop_13) (t := Ty.imm))) (ar_consF (ev_shr (nv 13 (d := v_coming_14) (t := Ty.imm))) ar_nil))))) (ev_repr gd hr.units z_repr (ev_dget1 (ta := Ty.shr) (hu_of hr) (ev_ix (ta := (Ty.bor Ty.shr)) (nv 3 (d := v_wins_1) (t := (Ty.own Ty.shr))) (nv 12 (d := v_stop_13) (t := Ty.imm))) (nv 13 (d := v_coming_14) (t := Ty.imm))))) (bl_ret ev_bool) (bl_if (Δ1 := fun (j15 : Unit) => [some (p_draws, Ty.shr), some (p_k, Ty.shr), some (p_course, Ty.shr), some (v_wins_1, (Ty.own Ty.shr)), some (v_due_2, (Ty.own Ty.imm)), some (v_kept_4, Ty.imm), some (v_told_6, (Ty.own Ty.shr)), some (x7.1, Ty.shr), some (x7.2.1, Ty.shr), some (x9, Ty.imm), some (v_start_11, Ty.imm), some (v_answer_12, Ty.imm), some (v_stop_13, Ty.imm), some (v_coming_14, Ty.imm), none, none, none, none]) (ts_cmp op_lt rule_lt (nv 12 (d := v_stop_13) (t := Ty.imm)) (ev_len z_len (nv 8 (d := x7.2.1) (t := Ty.shr)))) (bl_set (i := 14) S.nd rfl (ev_add (nv 13 (d := v_coming_14) (t := Ty.imm)) (ev_callF c__law_mix hr gd passC (fn3_n _) (ar_consF (nv 0 (d := p_draws) (t := Ty.shr)) (ar_consF (ev_shr (ev_add (ev_add (nv 1 (d := p_k) (t := Ty.shr)) ev_int) (nv 9 (d := x9) (t := Ty.imm)))) (ar_consF (ev_shr ev_int) ar_nil))))) (fun v_hour_16 => (bl_cx [some (p_draws, Ty.shr), some (p_k, Ty.shr), some (p_course, Ty.shr), some (v_wins_1, (Ty.own Ty.shr)), some (v_due_2, (Ty.own Ty.imm)), some (v_kept_4, Ty.imm), some (v_told_6, (Ty.own Ty.shr)), some (x7.1, Ty.shr), some (x7.2.1, Ty.shr), some (x9, Ty.imm), some (v_start_11, Ty.imm), some (v_answer_12, Ty.imm), some (v_stop_13, Ty.imm), some (v_coming_14, Ty.imm), some (v_hour_16, Ty.imm), none, none, none] rfl (bl_setLc (i := 15) (own := [("one", 17)]) (f := (fun d => R.ok d)) (sl := (fun d => [(17, d, Ty.shr)])) (c := fun x18 => ((((R.ok v_hour_16).bind fun x => (R.ok x18).bind fun y => addI x y).bind fun x => ((R.ok v_wins_1).bind fun x => ((R.ok v_stop_13).bind fun x => (R.ok (PyData.int 1)).bind fun y => addI x y).bind fun y => ixD x y).bind fun y => notK x y).bind asB)) (g := fun x18 => (R.ok x18)) (t := Ty.shr) rfl S.nd rfl (ig_seq (ta := Ty.shr) (ev_ix (ta := Ty.shr) (nv 8 (d := x7.2.1) (t := Ty.shr)) (nv 12 (d := v_stop_13) (t := Ty.imm)))) (blkOk_by (own := [("one", 17)]) (N := N__law_course_right) (sc := defScope s__law_course_right) (by decide +kernel)) (fun _ _ _ _ _ => (tg_nm 17 S.nd rfl)) noX_ok (by simp) (fun _ _ _ _ _ x18 => (tss_cx [some (p_draws, Ty.shr), some (p_k, Ty.shr), some (p_course, Ty.shr), some (v_wins_1, (Ty.own Ty.shr)), some (v_due_2, (Ty.own Ty.imm)), some (v_kept_4, Ty.imm), some (v_told_6, (Ty.own Ty.shr)), some (x7.1, Ty.shr), some (x7.2.1, Ty.shr), some (x9, Ty.imm), some (v_start_11, Ty.imm), some (v_answer_12, Ty.imm), some (v_stop_13, Ty.imm), some (v_coming_14, Ty.imm), some (v_hour_16, Ty.imm), none, none, some (x18, Ty.shr)] rfl (tss_one (ts_cmp (op_dnoK (hu_of hr)) rule_notK (ev_add (nv 14 (d := v_hour_16) (t := Ty.imm)) (nv 17 (d := x18) (t := Ty.shr))) (ev_ix (ta := (Ty.bor Ty.shr)) (nv 3 (d := v_wins_1) (t := (Ty.own Ty.shr))) (ev_add (nv 12 (d := v_stop_13) (t := Ty.imm)) ev_int)) (by with_unfolding_all rfl))))) (fun _ _ _ _ _ x18 => (ev_cx [some (p_draws, Ty.shr), some (p_k, Ty.shr), some (p_course, Ty.shr), some (v_wins_1, (Ty.own Ty.shr)), some (v_due_2, (Ty.own Ty.imm)), some (v_kept_4, Ty.imm), some (v_told_6, (Ty.own Ty.shr)), some (x7.1, Ty.shr), some (x7.2.1, Ty.shr), some (x9, Ty.imm), some (v_start_11, Ty.imm), some (v_answer_12, Ty.imm), some (v_stop_13, Ty.imm), some (v_coming_14, Ty.imm), some (v_hour_16, Ty.imm), none, none, some (x18, Ty.shr)] rfl (nv 17 (d := x18) (t := Ty.shr)))) (fun v_out_17 => (bl_cx [some (p_draws, Ty.shr), some (p_k, Ty.shr), some (p_course, Ty.shr), some (v_wins_1, (Ty.own Ty.shr)), some (v_due_2, (Ty.own Ty.imm)), some (v_kept_4, Ty.imm), some (v_told_6, (Ty.own Ty.shr)), some (x7.1, Ty.shr), some (x7.2.1, Ty.shr), some (x9, Ty.imm), some (v_start_11, Ty.imm), some (v_answer_12, Ty.imm), some (v_stop_13, Ty.imm), some (v_coming_14, Ty.imm), some (v_hour_16, Ty.imm), some (v_out_17, (Ty.own Ty.shr)), none, none] rfl (bl_ifx (ts_cmp op_ne rule_neS (ev_repr gd hr.units z_repr (ev_callF c_spoilt hr gd passC (fn3_n _) (ar_consF (nv 2 (d := p_course) (t := Ty.shr)) (ar_consF (ev_shr (nv 12 (d := v_stop_13) (t := Ty.imm))) (ar_consF (ev_shr (nv 14 (d := v_hour_16) (t := Ty.imm))) ar_nil))))) (ev_repr gd hr.units z_repr (ev_ix (ta := (Ty.own Ty.shr)) (ev_catL (ta := (Ty.bor Ty.shr)) (tb := (Ty.own Ty.shr)) (nv 15 (d := v_out_17) (t := (Ty.own Ty.shr))) (ev_lstF (ar_consF (ev_shr ev_none) ar_nil))) ev_int))) (bl_ret ev_bool) (bl_ifx (ts_tw (tw_and (ts_cmp (op_eqD hr.units) rule_eqD (nv 15 (d := v_out_17) (t := (Ty.own Ty.shr))) (ev_nil (t := Ty.imm))) (tw_and1 (ts_cmp (op_neD hr.units) rule_neD (ev_lc (own := [("one", 17)]) (f := (fun d => R.ok d)) (sl := (fun d => [(17, d, Ty.imm)])) (c := fun x19 => ((((R.ok v_hour_16).bind fun x => (R.ok x19).bind fun y => addI x y).bind fun x => ((R.ok v_wins_1).bind fun x => ((R.ok v_stop_13).bind fun x => (R.ok (PyData.int 1)).bind fun y => addI x y).bind fun y => ixD x y).bind fun y => notK x y).bind asB)) (g := fun x19 => (R.ok x19)) (t := Ty.imm) rfl S.nd (itG (it_rng2 (m := .an) z_range (ar_consA (ev_any (ev_ix (ta := Ty.shr) (ev_ix (ta := Ty.shr) (nv 8 (d := x7.2.1) (t := Ty.shr)) (nv 12 (d := v_stop_13) (t := Ty.imm))) ev_int)) (ar_consA (ev_any (ev_ix (ta := Ty.shr) (ev_ix (ta := Ty.shr) (nv 8 (d := x7.2.1) (t := Ty.shr)) (nv 12 (d := v_stop_13) (t := Ty.imm))) ev_int)) ar_nil)))) (blkOk_by (own := [("one", 17)]) (N := N__law_course_right) (sc := defScope s__law_course_right) (by decide +kernel)) (fun _ _ _ _ _ => (tg_nm 17 S.nd rfl)) noX_ok (by simp) (fun _ _ _ _ _ x19 => (tss_cx [some (p_draws, Ty.shr), some (p_k, Ty.shr), some (p_course, Ty.shr), some (v_wins_1, (Ty.own Ty.shr)), some (v_due_2, (Ty.own Ty.imm)), some (v_kept_4, Ty.imm), some (v_told_6, (Ty.own Ty.shr)), some (x7.1, Ty.shr), some (x7.2.1, Ty.shr), some (x9, Ty.imm), some (v_start_11, Ty.imm), some (v_answer_12, Ty.imm), some (v_stop_13, Ty.imm), some (v_coming_14, Ty.imm), some (v_hour_16, Ty.imm), some (v_out_17, (Ty.own Ty.shr)), none, some (x19, Ty.imm)] rfl (tss_one (ts_cmp (op_dnoK (hu_of hr)) rule_notK (ev_add (nv 14 (d := v_hour_16) (t := Ty.imm)) (nv 17 (d := x19) (t := Ty.imm))) (ev_ix (ta := (Ty.bor Ty.shr)) (nv 3 (d := v_wins_1) (t := (Ty.own Ty.shr))) (ev_add (nv 12 (d := v_stop_13) (t := Ty.imm)) ev_int)) (by with_unfolding_all rfl))))) (fun _ _ _ _ _ x19 => (ev_cx [some (p_draws, Ty.shr), some (p_k, Ty.shr), some (p_course, Ty.shr), some (v_wins_1, (Ty.own Ty.shr)), some (v_due_2, (Ty.own Ty.imm)), some (v_kept_4, Ty.imm), some (v_told_6, (Ty.own Ty.shr)), some (x7.1, Ty.shr), some (x7.2.1, Ty.shr), some (x9, Ty.imm), some (v_start_11, Ty.imm), some (v_answer_12, Ty.imm), some (v_stop_13, Ty.imm), some (v_coming_14, Ty.imm), some (v_hour_16, Ty.imm), some (v_out_17, (Ty.own Ty.shr)), none, some (x19, Ty.imm)] rfl (nv 17 (d := x19) (t := Ty.imm))))) (ev_nil (t := Ty.imm)))))) (bl_ret ev_bool) (bl_end (s := ()) (.keep (.keep (.keep (.keep (.keep (.keep (.keep (.keep (.keep (.keep (.keep (.keep (.keep (.keep (.drop (.drop (.drop (.drop .nil))))))))))))))))))))))) (sw_true rfl rfl rfl (by decide +kernel)))))) (bl_end (s := ()) (.keep (.keep (.keep (.keep (.keep (.keep (.keep (.keep (.keep (.keep (.keep (.keep (.keep (.keep (.drop (.drop (.drop (.drop .nil))))))))))))))))))) (fun j15 => (bl_end (s := ()) (.keep (.keep (.keep (.keep (.keep (.keep (.keep (.keep (.keep (.drop (.drop (.drop (.drop (.drop (.drop (.drop (.drop (.drop .nil))))))))))))))))))))))))))))))))))))) (fun s10 => (bl_ret (ev_cmp op_eq rule_eqS (ev_repr gd hr.units z_repr (nv 2 (d := p_course) (t := Ty.shr))) (nv 5 (d := v_kept_4) (t := Ty.imm)))))))))))))))))))))) (sw_true rfl rfl rfl (by decide +kernel))))))))
set_option maxHeartbeats 0 in
theorem g_law {f : Addr} {fd : FuncData} (F : Fun K "law" "law" s_law f fd) (z_range : mg "range" = none) (c__law_draws : Callee P w K mg base CX0 clsF 1 "_law_draws" 1 (fn1 F__law_draws) (Ty.own Ty.imm)) (c__law_course : Callee P w K mg base CX0 clsF 2 "_law_course" 4 (fn4 F__law_course) Ty.shr) (c__law_mix : Callee P w K mg base CX0 clsF 1 "_law_mix" 3 (fn3 F__law_mix) Ty.imm) (c__law_course_right : Callee P w K mg base CX0 clsF 5 "_law_course_right" 3 (fn3 F__law_course_right) Ty.imm) (c_has_rule : Callee P w K mg base CX0 clsF 4 "has_rule" 2 (fn2 F_has_rule) Ty.imm) (c_going : Callee P w K mg base CX0 clsF 4 "going" 3 (fn3 F_going) Ty.imm) (c_safe : Callee P w K mg base CX0 clsF 3 "safe" 1 (fn1 F_safe) (Ty.own Ty.shr)) : FnG P w K mg base CX0 6 f fd ["script"] (spP clsF K 1 (fn1 F_law) Ty.imm) := by
  have S := sc_law
  exact fnG_E (m := 5) (body := fun ds => match ds with
    | [p_script] => B_law p_script
    | _ => R.stuck) F S rfl (by decide) (fun ds hl => match ds, hl with | [p_script], _ => rfl) (fun cdv A outer s H E hr gd ds hl => match ds, hl with | [p_script], _ => (bl_cx [some (p_script, Ty.shr), none, none, none, none, none] rfl (bl_set (i := 1) S.nd rfl (ev_callF c__law_draws hr gd passC (fn1_n _) (ar_consF (nv 0 (d := p_script) (t := Ty.shr)) ar_nil)) (fun v_draws_1 => (bl_cx [some (p_script, Ty.shr), some (v_draws_1, (Ty.own Ty.imm)), none, none, none, none] rfl (bl_frz (i := 1) (d := v_draws_1) (t := (Ty.own Ty.imm)) rfl (bl_cx [some (p_script, Ty.shr), some (v_draws_1, Ty.shr), none, none, none, none] rfl (bl_for (Λ := fun (s2 : Unit) => [some (p_script, Ty.shr), some (v_draws_1, Ty.shr), none, none, none, none]) (s0 := ()) (f := (fun d => R.ok d)) (sl := (fun d => [(2, d, Ty.imm)])) PassesOwn.never rfl (it_rng1 (m := .an) z_range (ar_consA (ev_any ev_int) ar_nil)) (tg_nm 2 S.nd rfl) noX_ok (.keep (.keep (.drop (.drop (.drop (.drop .nil)))))) (fun x3 s2 => (bl_cx [some (p_script, Ty.shr), some (v_draws_1, Ty.shr), some (x3, Ty.imm), none, none, none] rfl (bl_set (i := 3) S.nd rfl (ev_callF c__law_course hr gd passC (fn4_n _) (ar_consF (nv 1 (d := v_draws_1) (t := Ty.shr)) (ar_consF (ev_shr (ev_add ev_int (ev_mul ev_int (nv 2 (d := x3) (t := Ty.imm))))) (ar_consF (ev_shr (ev_add ev_int (ev_callF c__law_mix hr gd passC (fn3_n _) (ar_consF (nv 1 (d := v_draws_1) (t := Ty.shr)) (ar_consF (ev_shr (nv 2 (d := x3) (t := Ty.imm))) (ar_consF (ev_shr ev_int) ar_nil)))))) (ar_consF (ev_shr (ev_ix (ta := (Ty.own Ty.imm)) (ev_lstI (ar_consI ev_int (ar_consI ev_int (ar_consI ev_int ar_nil)))) (ev_callF c__law_mix hr gd passC (fn3_n _) (ar_consF (nv 1 (d := v_draws_1) (t := Ty.shr)) (ar_consF (ev_shr (ev_add ev_int (nv 2 (d := x3) (t := Ty.imm)))) (ar_consF (ev_shr ev_int) ar_nil)))))) ar_nil))))) (fun v_course_5 => (bl_cx [some (p_script, Ty.shr), some (v_draws_1, Ty.shr), some (x3, Ty.imm), some (v_course_5, Ty.shr), none, none] rfl (bl_ifx (ts_not (ts_val (ev_callF c__law_course_right hr gd passC (fn3_n _) (ar_consF (nv 1 (d := v_draws_1) (t := Ty.shr)) (ar_consF (ev_shr (ev_add ev_int (ev_mul ev_int (nv 2 (d := x3) (t := Ty.imm))))) (ar_consF (nv 3 (d := v_course_5) (t := Ty.shr)) ar_nil)))))) (bl_ret ev_bool) (bl_end (s := ()) (.keep (.keep (.drop (.drop (.drop (.drop .nil))))))))))))) (fun s4 => (bl_set (i := 4) S.nd rfl (ev_tup (m := .fr) (ar_consF (ev_shr (ev_lstI (ar_consI (ev_tup (m := .im) (ar_consI ev_int (ar_consI ev_int (ar_consI ev_int (ar_consI ev_int ar_nil))))) (ar_consI (ev_tup (m := .im) (ar_consI ev_int (ar_consI ev_int (ar_consI ev_int (ar_consI ev_int ar_nil))))) (ar_consI (ev_tup (m := .im) (ar_consI ev_int (ar_consI ev_int (ar_consI ev_int (ar_consI ev_int ar_nil))))) ar_nil))))) (ar_consF (ev_shr (ev_lstI (ar_consI (ev_tup (m := .im) (ar_consI ev_int (ar_consI ev_int ar_nil))) (ar_consI (ev_tup (m := .im) (ar_consI ev_int (ar_consI ev_int ar_nil))) ar_nil)))) ar_nil))) (fun v_plain_6 => (bl_cx [some (p_script, Ty.shr), some (v_draws_1, Ty.shr), none, none, some (v_plain_6, Ty.shr), none] rfl (bl_set (i := 5) S.nd rfl (ev_tup (m := .fr) (ar_consF (ev_shr (ev_lstI (ar_consI (ev_tup (m := .im) (ar_consI ev_int (ar_consI ev_int (ar_consI ev_int (ar_consI ev_int ar_nil))))) (ar_consI (ev_tup (m := .im) (ar_consI ev_int (ar_consI ev_int (ar_consI ev_int (ar_consI ev_int ar_nil))))) ar_nil)))) (ar_consF (ev_shr (ev_lstI (ar_consI (ev_tup (m := .im) (ar_consI ev_int (ar_consI ev_int ar_nil))) ar_nil))) ar_nil))) (fun v_never_7 => (bl_cx [some (p_script, Ty.shr), some (v_draws_1, Ty.shr), none, none, some (v_plain_6, Ty.shr), some (v_never_7, Ty.shr)] rfl (bl_ret (ev_and (ev_cmp op_isBl rule_isB (ev_callF c_has_rule hr gd passC (fn2_n _) (ar_consF (nv 4 (d := v_plain_6) (t := Ty.shr)) (ar_consF (ev_shr ev_int) ar_nil))) ev_bool) (ev_and (ev_cmp op_eq rule_eqS (ev_callF c_going hr gd passC (fn3_n _) (ar_consF (nv 4 (d := v_plain_6) (t := Ty.shr)) (ar_consF (ev_shr ev_int) (ar_consF (ev_shr ev_int) ar_nil)))) ev_int) (ev_and (ev_cmp op_isBl rule_isB (ev_callF c_has_rule hr gd passC (fn2_n _) (ar_consF (nv 5 (d := v_never_7) (t := Ty.shr)) (ar_consF (ev_shr ev_int) ar_nil))) ev_bool) (ev_one (ev_cmp (op_eqD hr.units) rule_eqD (ev_callF c_safe hr gd passC (fn1_n _) (ar_consF (nv 5 (d := v_never_7) (t := Ty.shr)) ar_nil)) (ev_lstI (ar_consI ev_none (ar_consI (ev_tup (m := .im) (ar_consI ev_int (ar_consI ev_int ar_nil))) ar_nil))))))))))))))))))))))))
end
theorem all_mk {l : PySem.W.OpenLaw} {w : World} {K : PySem.W.Frag} {mg : Str → Option Value} {fa : Addr} {h : Heap} (X : K.In h) (G : h.Ns mainGlobals mg) (hfa : mg "law" = some (.ref fa))
    {f0 : Addr} {oc0 : Value} {od0 an0 : Option Addr} {sl0 : Array (Option Value)} {kV0 dc0 pm0 cd0 ct0 : Value}
    (a0 : PySem.W.nsIn K mainGlobals "_law_draws" = some (some (.ref f0))) (l0 : K.lookup f0 = some ⟨oc0, od0, .func (PySem.W.fnOf "_law_draws" "_law_draws" (defArgs s__law_draws) (defBody s__law_draws) (defScope s__law_draws) .none kV0 dc0 pm0 an0 cd0 ct0), sl0⟩) (e0 : PySem.W.codeIn K cd0 "_law_draws" = true) (k0 : PySem.W.keepIn K (.ref f0) = true)
    {f1 : Addr} {oc1 : Value} {od1 an1 : Option Addr} {sl1 : Array (Option Value)} {kV1 dc1 pm1 cd1 ct1 : Value}
    (a1 : PySem.W.nsIn K mainGlobals "_law_mix" = some (some (.ref f1))) (l1 : K.lookup f1 = some ⟨oc1, od1, .func (PySem.W.fnOf "_law_mix" "_law_mix" (defArgs s__law_mix) (defBody s__law_mix) (defScope s__law_mix) .none kV1 dc1 pm1 an1 cd1 ct1), sl1⟩) (e1 : PySem.W.codeIn K cd1 "_law_mix" = true) (k1 : PySem.W.keepIn K (.ref f1) = true)
    {f2 : Addr} {oc2 : Value} {od2 an2 : Option Addr} {sl2 : Array (Option Value)} {kV2 dc2 pm2 cd2 ct2 : Value}
    (a2 : PySem.W.nsIn K mainGlobals "_law_course" = some (some (.ref f2))) (l2 : K.lookup f2 = some ⟨oc2, od2, .func (PySem.W.fnOf "_law_course" "_law_course" (defArgs s__law_course) (defBody s__law_course) (defScope s__law_course) .none kV2 dc2 pm2 an2 cd2 ct2), sl2⟩) (e2 : PySem.W.codeIn K cd2 "_law_course" = true) (k2 : PySem.W.keepIn K (.ref f2) = true)
    {f3 : Addr} {oc3 : Value} {od3 an3 : Option Addr} {sl3 : Array (Option Value)} {kV3 dc3 pm3 cd3 ct3 : Value}
    (a3 : PySem.W.nsIn K mainGlobals "_law_wins" = some (some (.ref f3))) (l3 : K.lookup f3 = some ⟨oc3, od3, .func (PySem.W.fnOf "_law_wins" "_law_wins" (defArgs s__law_wins) (defBody s__law_wins) (defScope s__law_wins) .none kV3 dc3 pm3 an3 cd3 ct3), sl3⟩) (e3 : PySem.W.codeIn K cd3 "_law_wins" = true) (k3 : PySem.W.keepIn K (.ref f3) = true)
    {f4 : Addr} {oc4 : Value} {od4 an4 : Option Addr} {sl4 : Array (Option Value)} {kV4 dc4 pm4 cd4 ct4 : Value}
    (a4 : PySem.W.nsIn K mainGlobals "check_course" = some (some (.ref f4))) (l4 : K.lookup f4 = some ⟨oc4, od4, .func (PySem.W.fnOf "check_course" "check_course" (defArgs s_check_course) (defBody s_check_course) (defScope s_check_course) .none kV4 dc4 pm4 an4 cd4 ct4), sl4⟩) (e4 : PySem.W.codeIn K cd4 "check_course" = true) (k4 : PySem.W.keepIn K (.ref f4) = true)
    {f5 : Addr} {oc5 : Value} {od5 an5 : Option Addr} {sl5 : Array (Option Value)} {kV5 dc5 pm5 cd5 ct5 : Value}
    (a5 : PySem.W.nsIn K mainGlobals "bounds_before" = some (some (.ref f5))) (l5 : K.lookup f5 = some ⟨oc5, od5, .func (PySem.W.fnOf "bounds_before" "bounds_before" (defArgs s_bounds_before) (defBody s_bounds_before) (defScope s_bounds_before) .none kV5 dc5 pm5 an5 cd5 ct5), sl5⟩) (e5 : PySem.W.codeIn K cd5 "bounds_before" = true) (k5 : PySem.W.keepIn K (.ref f5) = true)
    {f6 : Addr} {oc6 : Value} {od6 an6 : Option Addr} {sl6 : Array (Option Value)} {kV6 dc6 pm6 cd6 ct6 : Value}
    (a6 : PySem.W.nsIn K mainGlobals "safe_comings" = some (some (.ref f6))) (l6 : K.lookup f6 = some ⟨oc6, od6, .func (PySem.W.fnOf "safe_comings" "safe_comings" (defArgs s_safe_comings) (defBody s_safe_comings) (defScope s_safe_comings) .none kV6 dc6 pm6 an6 cd6 ct6), sl6⟩) (e6 : PySem.W.codeIn K cd6 "safe_comings" = true) (k6 : PySem.W.keepIn K (.ref f6) = true)
    {f7 : Addr} {oc7 : Value} {od7 an7 : Option Addr} {sl7 : Array (Option Value)} {kV7 dc7 pm7 cd7 ct7 : Value}
    (a7 : PySem.W.nsIn K mainGlobals "safe" = some (some (.ref f7))) (l7 : K.lookup f7 = some ⟨oc7, od7, .func (PySem.W.fnOf "safe" "safe" (defArgs s_safe) (defBody s_safe) (defScope s_safe) .none kV7 dc7 pm7 an7 cd7 ct7), sl7⟩) (e7 : PySem.W.codeIn K cd7 "safe" = true) (k7 : PySem.W.keepIn K (.ref f7) = true)
    {f8 : Addr} {oc8 : Value} {od8 an8 : Option Addr} {sl8 : Array (Option Value)} {kV8 dc8 pm8 cd8 ct8 : Value}
    (a8 : PySem.W.nsIn K mainGlobals "_law_stretch" = some (some (.ref f8))) (l8 : K.lookup f8 = some ⟨oc8, od8, .func (PySem.W.fnOf "_law_stretch" "_law_stretch" (defArgs s__law_stretch) (defBody s__law_stretch) (defScope s__law_stretch) .none kV8 dc8 pm8 an8 cd8 ct8), sl8⟩) (e8 : PySem.W.codeIn K cd8 "_law_stretch" = true) (k8 : PySem.W.keepIn K (.ref f8) = true)
    {f9 : Addr} {oc9 : Value} {od9 an9 : Option Addr} {sl9 : Array (Option Value)} {kV9 dc9 pm9 cd9 ct9 : Value}
    (a9 : PySem.W.nsIn K mainGlobals "is_within" = some (some (.ref f9))) (l9 : K.lookup f9 = some ⟨oc9, od9, .func (PySem.W.fnOf "is_within" "is_within" (defArgs s_is_within) (defBody s_is_within) (defScope s_is_within) .none kV9 dc9 pm9 an9 cd9 ct9), sl9⟩) (e9 : PySem.W.codeIn K cd9 "is_within" = true) (k9 : PySem.W.keepIn K (.ref f9) = true)
    {f10 : Addr} {oc10 : Value} {od10 an10 : Option Addr} {sl10 : Array (Option Value)} {kV10 dc10 pm10 cd10 ct10 : Value}
    (a10 : PySem.W.nsIn K mainGlobals "has_rule" = some (some (.ref f10))) (l10 : K.lookup f10 = some ⟨oc10, od10, .func (PySem.W.fnOf "has_rule" "has_rule" (defArgs s_has_rule) (defBody s_has_rule) (defScope s_has_rule) .none kV10 dc10 pm10 an10 cd10 ct10), sl10⟩) (e10 : PySem.W.codeIn K cd10 "has_rule" = true) (k10 : PySem.W.keepIn K (.ref f10) = true)
    {f11 : Addr} {oc11 : Value} {od11 an11 : Option Addr} {sl11 : Array (Option Value)} {kV11 dc11 pm11 cd11 ct11 : Value}
    (a11 : PySem.W.nsIn K mainGlobals "told_going" = some (some (.ref f11))) (l11 : K.lookup f11 = some ⟨oc11, od11, .func (PySem.W.fnOf "told_going" "told_going" (defArgs s_told_going) (defBody s_told_going) (defScope s_told_going) .none kV11 dc11 pm11 an11 cd11 ct11), sl11⟩) (e11 : PySem.W.codeIn K cd11 "told_going" = true) (k11 : PySem.W.keepIn K (.ref f11) = true)
    {f12 : Addr} {oc12 : Value} {od12 an12 : Option Addr} {sl12 : Array (Option Value)} {kV12 dc12 pm12 cd12 ct12 : Value}
    (a12 : PySem.W.nsIn K mainGlobals "going" = some (some (.ref f12))) (l12 : K.lookup f12 = some ⟨oc12, od12, .func (PySem.W.fnOf "going" "going" (defArgs s_going) (defBody s_going) (defScope s_going) .none kV12 dc12 pm12 an12 cd12 ct12), sl12⟩) (e12 : PySem.W.codeIn K cd12 "going" = true) (k12 : PySem.W.keepIn K (.ref f12) = true)
    {f13 : Addr} {oc13 : Value} {od13 an13 : Option Addr} {sl13 : Array (Option Value)} {kV13 dc13 pm13 cd13 ct13 : Value}
    (a13 : PySem.W.nsIn K mainGlobals "spoilt" = some (some (.ref f13))) (l13 : K.lookup f13 = some ⟨oc13, od13, .func (PySem.W.fnOf "spoilt" "spoilt" (defArgs s_spoilt) (defBody s_spoilt) (defScope s_spoilt) .none kV13 dc13 pm13 an13 cd13 ct13), sl13⟩) (e13 : PySem.W.codeIn K cd13 "spoilt" = true) (k13 : PySem.W.keepIn K (.ref f13) = true)
    {f14 : Addr} {oc14 : Value} {od14 an14 : Option Addr} {sl14 : Array (Option Value)} {kV14 dc14 pm14 cd14 ct14 : Value}
    (a14 : PySem.W.nsIn K mainGlobals "_law_course_right" = some (some (.ref f14))) (l14 : K.lookup f14 = some ⟨oc14, od14, .func (PySem.W.fnOf "_law_course_right" "_law_course_right" (defArgs s__law_course_right) (defBody s__law_course_right) (defScope s__law_course_right) .none kV14 dc14 pm14 an14 cd14 ct14), sl14⟩) (e14 : PySem.W.codeIn K cd14 "_law_course_right" = true) (k14 : PySem.W.keepIn K (.ref f14) = true)
    {f15 : Addr} {oc15 : Value} {od15 an15 : Option Addr} {sl15 : Array (Option Value)} {kV15 dc15 pm15 cd15 ct15 : Value}
    (a15 : PySem.W.nsIn K mainGlobals "law" = some (some (.ref f15))) (l15 : K.lookup f15 = some ⟨oc15, od15, .func (PySem.W.fnOf "law" "law" (defArgs s_law) (defBody s_law) (defScope s_law) .none kV15 dc15 pm15 an15 cd15 ct15), sl15⟩) (e15 : PySem.W.codeIn K cd15 "law" = true) (k15 : PySem.W.keepIn K (.ref f15) = true)
    (z_abs : PySem.W.nsIn K mainGlobals "abs" = some none)
    (z_bool : PySem.W.nsIn K mainGlobals "bool" = some none)
    (z_dict : PySem.W.nsIn K mainGlobals "dict" = some none)
    (z_enumerate : PySem.W.nsIn K mainGlobals "enumerate" = some none)
    (z_int : PySem.W.nsIn K mainGlobals "int" = some none)
    (z_isinstance : PySem.W.nsIn K mainGlobals "isinstance" = some none)
    (z_len : PySem.W.nsIn K mainGlobals "len" = some none)
    (z_list : PySem.W.nsIn K mainGlobals "list" = some none)
    (z_max : PySem.W.nsIn K mainGlobals "max" = some none)
    (z_min : PySem.W.nsIn K mainGlobals "min" = some none)
    (z_range : PySem.W.nsIn K mainGlobals "range" = some none)
    (z_repr : PySem.W.nsIn K mainGlobals "repr" = some none)
    (z_sorted : PySem.W.nsIn K mainGlobals "sorted" = some none)
    (z_zip : PySem.W.nsIn K mainGlobals "zip" = some none)
    {u_LATEST : Value} (m_LATEST : PySem.W.nsIn K mainGlobals "LATEST" = some (some u_LATEST)) (r_LATEST : ∃ tk, u_LATEST = .int 1000000000 tk)
    {u_MOST_STOPS : Value} (m_MOST_STOPS : PySem.W.nsIn K mainGlobals "MOST_STOPS" = some (some u_MOST_STOPS)) (r_MOST_STOPS : ∃ tk, u_MOST_STOPS = .int 40 tk) :
    ∃ fd : FuncData, (∀ (s : Shared) (v : Value), BindsTo s fd ⟨[v], []⟩ [("script", v)]) ∧ ∀ base : Heap, K.In base → base.Ns mainGlobals mg → FnG l.prog w K mg base CX0 6 fa fd ["script"] (spP clsF K 1 (fn1 F_law) Ty.imm) := by
  have e := hfa.symm.trans (PySem.W.mg_of X G a15)
  cases e
  have F0 := fun_mk (st := s__law_draws) l0 e0 k0
  have b0 := F0.binds (ps := ["script"]) fun _ _ _ _ _ _ us hl => match us, hl with | [_], _ => rfl
  have F1 := fun_mk (st := s__law_mix) l1 e1 k1
  have b1 := F1.binds (ps := ["draws", "k", "many"]) fun _ _ _ _ _ _ us hl => match us, hl with | [_, _, _], _ => rfl
  have F2 := fun_mk (st := s__law_course) l2 e2 k2
  have b2 := F2.binds (ps := ["draws", "k", "many", "span"]) fun _ _ _ _ _ _ us hl => match us, hl with | [_, _, _, _], _ => rfl
  have F3 := fun_mk (st := s__law_wins) l3 e3 k3
  have b3 := F3.binds (ps := ["course"]) fun _ _ _ _ _ _ us hl => match us, hl with | [_], _ => rfl
  have F4 := fun_mk (st := s_check_course) l4 e4 k4
  have b4 := F4.binds (ps := ["course"]) fun _ _ _ _ _ _ us hl => match us, hl with | [_], _ => rfl
  have F5 := fun_mk (st := s_bounds_before) l5 e5 k5
  have b5 := F5.binds (ps := ["stop", "leg", "stretch"]) fun _ _ _ _ _ _ us hl => match us, hl with | [_, _, _], _ => rfl
  have F6 := fun_mk (st := s_safe_comings) l6 e6 k6
  have b6 := F6.binds (ps := ["stops", "legs"]) fun _ _ _ _ _ _ us hl => match us, hl with | [_, _], _ => rfl
  have F7 := fun_mk (st := s_safe) l7 e7 k7
  have b7 := F7.binds (ps := ["course"]) fun _ _ _ _ _ _ us hl => match us, hl with | [_], _ => rfl
  have F8 := fun_mk (st := s__law_stretch) l8 e8 k8
  have b8 := F8.binds (ps := ["won"]) fun _ _ _ _ _ _ us hl => match us, hl with | [_], _ => rfl
  have F9 := fun_mk (st := s_is_within) l9 e9 k9
  have b9 := F9.binds (ps := ["hour", "stretch"]) fun _ _ _ _ _ _ us hl => match us, hl with | [_, _], _ => rfl
  have F10 := fun_mk (st := s_has_rule) l10 e10 k10
  have b10 := F10.binds (ps := ["course", "start"]) fun _ _ _ _ _ _ us hl => match us, hl with | [_, _], _ => rfl
  have F11 := fun_mk (st := s_told_going) l11 e11 k11
  have b11 := F11.binds (ps := ["stop", "leg", "stretch", "coming"]) fun _ _ _ _ _ _ us hl => match us, hl with | [_, _, _, _], _ => rfl
  have F12 := fun_mk (st := s_going) l12 e12 k12
  have b12 := F12.binds (ps := ["course", "stop", "coming"]) fun _ _ _ _ _ _ us hl => match us, hl with | [_, _, _], _ => rfl
  have F13 := fun_mk (st := s_spoilt) l13 e13 k13
  have b13 := F13.binds (ps := ["course", "stop", "hour"]) fun _ _ _ _ _ _ us hl => match us, hl with | [_, _, _], _ => rfl
  have F14 := fun_mk (st := s__law_course_right) l14 e14 k14
  have b14 := F14.binds (ps := ["draws", "k", "course"]) fun _ _ _ _ _ _ us hl => match us, hl with | [_, _, _], _ => rfl
  have F15 := fun_mk (st := s_law) l15 e15 k15
  refine ⟨PySem.W.fnOf "law" "law" (defArgs s_law) (defBody s_law) (defScope s_law) .none kV15 dc15 pm15 an15 cd15 ct15, fun s v => .of_eq rfl, fun base _ _ => ?_⟩
  have z_abs := PySem.W.mg_none_of X G z_abs
  have z_bool := PySem.W.mg_none_of X G z_bool
  have z_dict := PySem.W.mg_none_of X G z_dict
  have z_enumerate := PySem.W.mg_none_of X G z_enumerate
  have z_int := PySem.W.mg_none_of X G z_int
  have z_isinstance := PySem.W.mg_none_of X G z_isinstance
  have z_len := PySem.W.mg_none_of X G z_len
  have z_list := PySem.W.mg_none_of X G z_list
  have z_max := PySem.W.mg_none_of X G z_max
  have z_min := PySem.W.mg_none_of X G z_min
  have z_range := PySem.W.mg_none_of X G z_range
  have z_repr := PySem.W.mg_none_of X G z_repr
  have z_sorted := PySem.W.mg_none_of X G z_sorted
  have z_zip := PySem.W.mg_none_of X G z_zip
  have m_LATEST := PySem.W.mg_of X G m_LATEST
  have m_MOST_STOPS := PySem.W.mg_of X G m_MOST_STOPS
  have c__law_draws := callee_mk (cls := clsF) F0 (g__law_draws (P := l.prog) (w := w) (base := base) F0 z_abs z_int z_len z_min z_range) (PySem.W.mg_of X G a0) b0
  have c__law_mix := callee_mk (cls := clsF) F1 (g__law_mix (P := l.prog) (w := w) (base := base) F1 z_int z_len) (PySem.W.mg_of X G a1) b1
  have c__law_course := callee_mk (cls := clsF) F2 (g__law_course (P := l.prog) (w := w) (base := base) F2 z_max z_min z_range c__law_mix) (PySem.W.mg_of X G a2) b2
  have c__law_wins := callee_mk (cls := clsF) F3 (g__law_wins (P := l.prog) (w := w) (base := base) F3 z_dict z_len z_max z_range) (PySem.W.mg_of X G a3) b3
  have c_check_course := callee_mk (cls := clsF) F4 (g_check_course (P := l.prog) (w := w) (base := base) F4 z_enumerate z_len z_max z_min m_LATEST r_LATEST m_MOST_STOPS r_MOST_STOPS) (PySem.W.mg_of X G a4) b4
  have c_bounds_before := callee_mk (cls := clsF) F5 (g_bounds_before (P := l.prog) (w := w) (base := base) F5 z_max z_min) (PySem.W.mg_of X G a5) b5
  have c_safe_comings := callee_mk (cls := clsF) F6 (g_safe_comings (P := l.prog) (w := w) (base := base) F6 z_zip c_bounds_before) (PySem.W.mg_of X G a6) b6
  have c_safe := callee_mk (cls := clsF) F7 (g_safe (P := l.prog) (w := w) (base := base) F7 c_check_course c_safe_comings) (PySem.W.mg_of X G a7) b7
  have c__law_stretch := callee_mk (cls := clsF) F8 (g__law_stretch (P := l.prog) (w := w) (base := base) F8 z_len z_sorted) (PySem.W.mg_of X G a8) b8
  have c_is_within := callee_mk (cls := clsF) F9 (g_is_within (P := l.prog) (w := w) (base := base) F9) (PySem.W.mg_of X G a9) b9
  have c_has_rule := callee_mk (cls := clsF) F10 (g_has_rule (P := l.prog) (w := w) (base := base) F10 c_is_within c_safe) (PySem.W.mg_of X G a10) b10
  have c_told_going := callee_mk (cls := clsF) F11 (g_told_going (P := l.prog) (w := w) (base := base) F11 z_max) (PySem.W.mg_of X G a11) b11
  have c_going := callee_mk (cls := clsF) F12 (g_going (P := l.prog) (w := w) (base := base) F12 z_len c_safe c_is_within c_told_going) (PySem.W.mg_of X G a12) b12
  have c_spoilt := callee_mk (cls := clsF) F13 (g_spoilt (P := l.prog) (w := w) (base := base) F13 c_safe c_is_within) (PySem.W.mg_of X G a13) b13
  have c__law_course_right := callee_mk (cls := clsF) F14 (g__law_course_right (P := l.prog) (w := w) (base := base) F14 z_bool z_isinstance z_len z_list z_max z_range z_repr c__law_wins c__law_stretch c_safe c__law_mix c_has_rule c_going c_spoilt) (PySem.W.mg_of X G a14) b14
  exact g_law F15 z_range c__law_draws c__law_course c__law_mix c__law_course_right c_has_rule c_going c_safe
end PL
open PySem PySem.W PyProof.Rows
set_option maxHeartbeats 0 in
theorem PySem.Challenge.cw_kerbcall_k46_safe_comings_by_games_holds : PySem.Challenge.rw_kerbcall_k46_safe_comings_by_games.Holds := by
  w_on; o_law; k_head; (case hw => w_witness2)
  k_fill
  refine PL.walk_ofG (l := PySem.Challenge.rw_kerbcall_k46_safe_comings_by_games) (n := 63) (k := 6) (x := "script") (CX := L2.CX0) (cls := PL.clsF) (t := PL.Ty.imm) (g := PL.fn1 PL.F_law) rfl (by decide) rfl ⟨rfl, by decide, by decide⟩ (fun w h Y => PySem.W.kIn_of Y) ?F (fun ns hl => PL.law_true ns hl) (fun _ _ _ _ h => h)
  case F =>
    intro w mg fa h KX G hmg
    refine' PL.all_mk KX G hmg ?a0 ?l0 ?e0 ?k0 ?a1 ?l1 ?e1 ?k1 ?a2 ?l2 ?e2 ?k2 ?a3 ?l3 ?e3 ?k3 ?a4 ?l4 ?e4 ?k4 ?a5 ?l5 ?e5 ?k5 ?a6 ?l6 ?e6 ?k6 ?a7 ?l7 ?e7 ?k7 ?a8 ?l8 ?e8 ?k8 ?a9 ?l9 ?e9 ?k9 ?a10 ?l10 ?e10 ?k10 ?a11 ?l11 ?e11 ?k11 ?a12 ?l12 ?e12 ?k12 ?a13 ?l13 ?e13 ?k13 ?a14 ?l14 ?e14 ?k14 ?a15 ?l15 ?e15 ?k15 ?z_abs ?z_bool ?z_dict ?z_enumerate ?z_int ?z_isinstance ?z_len ?z_list ?z_max ?z_min ?z_range ?z_repr ?z_sorted ?z_zip ?m_LATEST ?r_LATEST ?m_MOST_STOPS ?r_MOST_STOPS
    (case a0 => k_is); (case l0 => k_is); (case e0 => k_is); (case k0 => k_is); (case a1 => k_is); (case l1 => k_is); (case e1 => k_is); (case k1 => k_is); (case a2 => k_is); (case l2 => k_is); (case e2 => k_is); (case k2 => k_is); (case a3 => k_is); (case l3 => k_is); (case e3 => k_is); (case k3 => k_is); (case a4 => k_is); (case l4 => k_is); (case e4 => k_is); (case k4 => k_is); (case a5 => k_is); (case l5 => k_is); (case e5 => k_is); (case k5 => k_is); (case a6 => k_is); (case l6 => k_is); (case e6 => k_is); (case k6 => k_is); (case a7 => k_is); (case l7 => k_is); (case e7 => k_is); (case k7 => k_is); (case a8 => k_is); (case l8 => k_is); (case e8 => k_is); (case k8 => k_is); (case a9 => k_is); (case l9 => k_is); (case e9 => k_is); (case k9 => k_is); (case a10 => k_is); (case l10 => k_is); (case e10 => k_is); (case k10 => k_is); (case a11 => k_is); (case l11 => k_is); (case e11 => k_is); (case k11 => k_is); (case a12 => k_is); (case l12 => k_is); (case e12 => k_is); (case k12 => k_is); (case a13 => k_is); (case l13 => k_is); (case e13 => k_is); (case k13 => k_is); (case a14 => k_is); (case l14 => k_is); (case e14 => k_is); (case k14 => k_is); (case a15 => k_is); (case l15 => k_is); (case e15 => k_is); (case k15 => k_is); (case z_abs => k_is); (case z_bool => k_is); (case z_dict => k_is); (case z_enumerate => k_is); (case z_int => k_is); (case z_isinstance => k_is); (case z_len => k_is); (case z_list => k_is); (case z_max => k_is); (case z_min => k_is); (case z_range => k_is); (case z_repr => k_is); (case z_sorted => k_is); (case z_zip => k_is); (case m_LATEST => k_is); (case m_MOST_STOPS => k_is)
    (case r_LATEST => exact ⟨_, rfl⟩)
    (case r_MOST_STOPS => exact ⟨_, rfl⟩)
