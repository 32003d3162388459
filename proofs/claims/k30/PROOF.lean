import PyProof.Rows.All
import Wide.All
import OpenK.AllK
import Wide.FinOn
import HandS.ForMost
import HandS.ForExc
import HandS.Wide
import HandS.Defaults
import HandS.IsInst
import HandS.TupLe
import HandS.Style
import HandS.Head0
import HandS.Head1
import HandS.Head2
import HandS.HeadEnd
import HandS.HeadHook1
import HandS.HeadHook2
import HandS.TupMul
import HandS.TupAny
import HandS.Zip
import HandS.Star
import HandS.ExcInit
import HandS.Nested
import KE.KExcSuper
import HandS.ExcIs
import HandS.ExcField
import HandS.ExcOwn
import KE.KExcIs
import HandS.HeadNt
import HandS.Text
import HandS.Codes
import HandS.Iter
import HandS.FStr
import KE.GoesMore
import KE.GoesEnum
import HandS.Property
import HandS.ClsMeth
import KE.KOpsOwn
import KE.KCallOwn
import PyProof.InstNe
import PyProof.ExcBaseAll.ValueError
import HandS.DictComp
import KE.KDictDisplayH
import KE.KDictCopyH
import KE.KDictOf
import HandS.Deep
import HandS.MakeKwOnly
import PySem.Challenge.RW_lookstop_k30_chances_at_a_share
set_option Elab.async false
set_option linter.all false
set_option maxRecDepth 100000
/-! Values without a heap: data, where they stand, and the program's steps read over data alone. -/
namespace VS
open PySem PySem.Spec L2

/-- data -/
inductive Dt where
  | non | bl (b : Bool) | int (i : Int) | str (x : Str) | ty (n : String) | adr (a : Addr)
  | tup (xs : List Dt) | lst (xs : List Dt) | frl (xs : List Dt)
  | dT (ks : List (List Key)) (xs : List Dt)
  | dK (ks : List Key) (xs : List Dt)
  | obj (C : Addr) (ns : List Str) (xs : List Dt)
  | exv (a : Addr) (ns : List Str) (xs : List Dt) (d : Option Addr)
  | at_ (a : Addr) (d : Dt)
  | key (ks : List Key)

mutual
/-- v is d in the heap F -/
def Rp (K : PySem.W.Frag) (F : Hp) : Dt → V → Prop
  | .non, v => v = .non
  | .bl b, v => v = .bl b
  | .int i, v => v = .int i
  | .str x, v => v = .str x
  | .ty n, v => v = .ty n
  | .adr a, v => v = .ref a
  | .tup xs, v => ∃ a vs, v = .ref a ∧ SqT K F a vs ∧ RpL K F xs vs
  | .lst xs, v => ∃ a vs, v = .ref a ∧ F a = some (.lst vs) ∧ RpL K F xs vs
  | .frl xs, v => ∃ a vs, v = .ref a ∧ SqL K F a vs ∧ RpL K F xs vs
  | .dT ks xs, v => ∃ a vs, v = .ref a ∧ Rd F a (.dT (ks.zip vs)) ∧ ks.length = vs.length ∧ RpL K F xs vs
  | .dK ks xs, v => ∃ a vs, v = .ref a ∧ Rd F a (.dK (ks.zip vs)) ∧ ks.length = vs.length ∧ RpL K F xs vs
  | .obj C ns xs, v => ∃ a dx vs, v = .ref a ∧ F a = some (.ins C dx (ns.zip vs)) ∧ ns.length = vs.length ∧ RpL K F xs vs
  | .exv a ns xs d, v => v = .ref a ∧ ∀ dx, d = some dx → ∃ vs, F dx = some (.xd (ns.zip vs)) ∧ ns.length = vs.length ∧ RpL K F xs vs
  | .at_ a d, v => v = .ref a ∧ Rp K F d v
  | .key ks, v => ∃ a, v = .ref a ∧ F a = some (.tup (ks.map kV))
def RpL (K : PySem.W.Frag) (F : Hp) : List Dt → List V → Prop
  | [], vs => vs = []
  | d :: ds, vs => ∃ v r, vs = v :: r ∧ Rp K F d v ∧ RpL K F ds r
end

theorem sq_t {K : PySem.W.Frag} {F F' : Hp} {a : Addr} {xs : List V} (e : Same F F') (h : SqT K F a xs) : SqT K F' a xs := by
  rcases h with (h | ⟨o, h⟩) | h
  · exact .inl (.inl (e _ _ h))
  · exact .inl (.inr ⟨o, e _ _ h⟩)
  · exact .inr h

theorem rd_mono {F F' : Hp} {a : Addr} {u : HO} (e : Same F F') (h : Rd F a u) : Rd F' a u := by
  rcases h with h | ⟨o, h⟩
  · exact .inl (e _ _ h)
  · exact .inr ⟨o, e _ _ h⟩

mutual
theorem Rp.mono {K : PySem.W.Frag} {F F' : Hp} (e : Same F F') : ∀ {d : Dt} {v : V}, Rp K F d v → Rp K F' d v
  | .non, _, h => by simp only [Rp] at h ⊢; exact h
  | .bl _, _, h => by simp only [Rp] at h ⊢; exact h
  | .int _, _, h => by simp only [Rp] at h ⊢; exact h
  | .str _, _, h => by simp only [Rp] at h ⊢; exact h
  | .ty _, _, h => by simp only [Rp] at h ⊢; exact h
  | .adr _, _, h => by simp only [Rp] at h ⊢; exact h
  | .tup xs, _, h => by
    simp only [Rp] at h ⊢
    obtain ⟨a, vs, h1, h2, h3⟩ := h
    exact ⟨a, vs, h1, sq_t e h2, RpL.mono e h3⟩
  | .lst xs, _, h => by
    simp only [Rp] at h ⊢
    obtain ⟨a, vs, h1, h2, h3⟩ := h
    exact ⟨a, vs, h1, e _ _ h2, RpL.mono e h3⟩
  | .frl xs, _, h => by
    simp only [Rp] at h ⊢
    obtain ⟨a, vs, h1, h2, h3⟩ := h
    exact ⟨a, vs, h1, e.seq h2, RpL.mono e h3⟩
  | .dT ks xs, _, h => by
    simp only [Rp] at h ⊢
    obtain ⟨a, vs, h1, h2, h4, h3⟩ := h
    exact ⟨a, vs, h1, rd_mono e h2, h4, RpL.mono e h3⟩
  | .dK ks xs, _, h => by
    simp only [Rp] at h ⊢
    obtain ⟨a, vs, h1, h2, h4, h3⟩ := h
    exact ⟨a, vs, h1, rd_mono e h2, h4, RpL.mono e h3⟩
  | .key ks, _, h => by
    simp only [Rp] at h ⊢
    obtain ⟨a, h1, h2⟩ := h
    exact ⟨a, h1, e _ _ h2⟩
  | .obj C ns xs, _, h => by
    simp only [Rp] at h ⊢
    obtain ⟨a, dx, vs, h1, h2, h4, h3⟩ := h
    exact ⟨a, dx, vs, h1, e _ _ h2, h4, RpL.mono e h3⟩
  | .exv a ns xs d, _, h => by
    simp only [Rp] at h ⊢
    refine ⟨h.1, fun dx hd => ?_⟩
    obtain ⟨vs, h1, h2, h3⟩ := h.2 dx hd
    exact ⟨vs, e _ _ h1, h2, RpL.mono e h3⟩
  | .at_ a d, _, h => by
    simp only [Rp] at h ⊢
    exact ⟨h.1, Rp.mono e h.2⟩
theorem RpL.mono {K : PySem.W.Frag} {F F' : Hp} (e : Same F F') : ∀ {ds : List Dt} {vs : List V}, RpL K F ds vs → RpL K F' ds vs
  | [], _, h => by simp only [RpL] at h ⊢; exact h
  | d :: ds, _, h => by
    simp only [RpL] at h ⊢
    obtain ⟨v, r, h1, h2, h3⟩ := h
    exact ⟨v, r, h1, Rp.mono e h2, RpL.mono e h3⟩
end

section
variable {K : PySem.W.Frag} {F : Hp}
theorem RpL.nil : RpL K F [] [] := by simp only [RpL]
theorem RpL.cons {d : Dt} {v : V} {ds : List Dt} {vs : List V} (h : Rp K F d v) (t : RpL K F ds vs) : RpL K F (d :: ds) (v :: vs) := by
  simp only [RpL]
  exact ⟨v, vs, rfl, h, t⟩
theorem RpL.of_cons {d : Dt} {ds : List Dt} {vs : List V} (h : RpL K F (d :: ds) vs) : ∃ v r, vs = v :: r ∧ Rp K F d v ∧ RpL K F ds r := by
  simp only [RpL] at h
  exact h
theorem RpL.of_nil {vs : List V} (h : RpL K F [] vs) : vs = [] := by
  simp only [RpL] at h
  exact h
theorem RpL.length : ∀ {ds : List Dt} {vs : List V}, RpL K F ds vs → ds.length = vs.length
  | [], _, h => by rw [h.of_nil]; rfl
  | d :: ds, _, h => by
    obtain ⟨v, r, rfl, _, t⟩ := h.of_cons
    simp only [List.length_cons]
    rw [RpL.length t]
theorem RpL.get : ∀ {ds : List Dt} {vs : List V} {i : Nat} {d : Dt}, RpL K F ds vs → ds[i]? = some d → ∃ v, vs[i]? = some v ∧ Rp K F d v
  | [], _, i, d, _, e => by simp at e
  | d0 :: ds, _, 0, d, h, e => by
    obtain ⟨v, r, rfl, h1, t⟩ := h.of_cons
    have e' : d0 = d := by simpa using e
    exact ⟨v, rfl, e' ▸ h1⟩
  | d0 :: ds, _, i + 1, d, h, e => by
    obtain ⟨v, r, rfl, h1, t⟩ := h.of_cons
    obtain ⟨v', e1, e2⟩ := RpL.get (i := i) (d := d) t (by simpa using e)
    exact ⟨v', by simpa using e1, e2⟩
theorem RpL.getV : ∀ {ds : List Dt} {vs : List V} {i : Nat} {v : V}, RpL K F ds vs → vs[i]? = some v → ∃ d, ds[i]? = some d ∧ Rp K F d v := fun {ds vs i v} h e => by
  have hl := h.length
  have hi : i < ds.length := by rw [hl]; exact (List.getElem?_eq_some_iff.mp e).1
  obtain ⟨v', e1, e2⟩ := h.get (List.getElem?_eq_getElem hi)
  rw [e] at e1
  cases e1
  exact ⟨_, List.getElem?_eq_getElem hi, e2⟩
theorem RpL.append : ∀ {ds es : List Dt} {vs ws : List V}, RpL K F ds vs → RpL K F es ws → RpL K F (ds ++ es) (vs ++ ws)
  | [], _, _, _, h, t => by rw [h.of_nil]; exact t
  | d :: ds, _, _, _, h, t => by
    obtain ⟨v, r, rfl, h1, h2⟩ := h.of_cons
    exact .cons h1 (RpL.append h2 t)
theorem RpL.take : ∀ {ds : List Dt} {vs : List V} (n : Nat), RpL K F ds vs → RpL K F (ds.take n) (vs.take n)
  | _, _, 0, h => by simp only [List.take_zero]; exact .nil
  | [], _, n + 1, h => by rw [h.of_nil]; exact .nil
  | d :: ds, _, n + 1, h => by
    obtain ⟨v, r, rfl, h1, h2⟩ := h.of_cons
    exact .cons h1 (RpL.take n h2)
theorem RpL.drop : ∀ {ds : List Dt} {vs : List V} (n : Nat), RpL K F ds vs → RpL K F (ds.drop n) (vs.drop n)
  | _, _, 0, h => h
  | [], _, n + 1, h => by rw [h.of_nil]; exact .nil
  | d :: ds, _, n + 1, h => by
    obtain ⟨v, r, rfl, h1, h2⟩ := h.of_cons
    exact RpL.drop n h2
theorem RpL.set : ∀ {ds : List Dt} {vs : List V} {d : Dt} {v : V} (n : Nat), RpL K F ds vs → Rp K F d v → RpL K F (ds.set n d) (vs.set n v)
  | [], _, _, _, n, h, q => by rw [h.of_nil]; exact .nil
  | d :: ds, _, _, _, 0, h, q => by
    obtain ⟨v, r, rfl, h1, h2⟩ := h.of_cons
    exact .cons q h2
  | d :: ds, _, _, _, n + 1, h, q => by
    obtain ⟨v, r, rfl, h1, h2⟩ := h.of_cons
    exact .cons h1 (RpL.set n h2 q)
theorem rp_int {i : Int} {v : V} : Rp K F (.int i) v ↔ v = .int i := by simp only [Rp]
theorem rp_bl {i : Bool} {v : V} : Rp K F (.bl i) v ↔ v = .bl i := by simp only [Rp]
theorem rp_str {i : Str} {v : V} : Rp K F (.str i) v ↔ v = .str i := by simp only [Rp]
theorem rp_non {v : V} : Rp K F .non v ↔ v = .non := by simp only [Rp]
theorem rp_adr {a : Addr} {v : V} : Rp K F (.adr a) v ↔ v = .ref a := by simp only [Rp]
theorem rp_ty {n : String} {v : V} : Rp K F (.ty n) v ↔ v = .ty n := by simp only [Rp]
theorem rp_tup {xs : List Dt} {v : V} : Rp K F (.tup xs) v ↔ ∃ a vs, v = .ref a ∧ SqT K F a vs ∧ RpL K F xs vs := by simp only [Rp]
theorem rp_lst {xs : List Dt} {v : V} : Rp K F (.lst xs) v ↔ ∃ a vs, v = .ref a ∧ F a = some (.lst vs) ∧ RpL K F xs vs := by simp only [Rp]
theorem rp_frl {xs : List Dt} {v : V} : Rp K F (.frl xs) v ↔ ∃ a vs, v = .ref a ∧ SqL K F a vs ∧ RpL K F xs vs := by simp only [Rp]
theorem rp_key {ks : List Key} {v : V} : Rp K F (.key ks) v ↔ ∃ a, v = .ref a ∧ F a = some (.tup (ks.map kV)) := by simp only [Rp]
theorem rp_dT {ks : List (List Key)} {xs : List Dt} {v : V} : Rp K F (.dT ks xs) v ↔ ∃ a vs, v = .ref a ∧ Rd F a (.dT (ks.zip vs)) ∧ ks.length = vs.length ∧ RpL K F xs vs := by simp only [Rp]
theorem rp_exv {a : Addr} {ns : List Str} {xs : List Dt} {d : Option Addr} {v : V} : Rp K F (.exv a ns xs d) v ↔ v = .ref a ∧ ∀ dx, d = some dx → ∃ vs, F dx = some (.xd (ns.zip vs)) ∧ ns.length = vs.length ∧ RpL K F xs vs := by simp only [Rp]
theorem rp_obj {C : Addr} {ns : List Str} {xs : List Dt} {v : V} : Rp K F (.obj C ns xs) v ↔ ∃ a dx vs, v = .ref a ∧ F a = some (.ins C dx (ns.zip vs)) ∧ ns.length = vs.length ∧ RpL K F xs vs := by simp only [Rp]
theorem RpL.ints : ∀ {ns : List Int} {vs : List V}, RpL K F (ns.map Dt.int) vs → vs = ns.map V.int
  | [], _, h => h.of_nil
  | n :: ns, _, h => by
    obtain ⟨v, r, rfl, h1, h2⟩ := h.of_cons
    rw [rp_int.mp h1, RpL.ints h2]
    rfl
theorem RpL.of_ints : ∀ {ns : List Int}, RpL K F (ns.map Dt.int) (ns.map V.int)
  | [] => .nil
  | n :: ns => .cons (rp_int.mpr rfl) RpL.of_ints
end

/-! ### what may change besides: a region and its word -/
structure Reg where
  M : Addr → Prop
  B : Hp → Prop
  st : ∀ H H', (∀ a o, M a → H a = some o → H' a = some o) → B H → B H'
  Z : Hp → Hp → Prop
  zs : ∀ F H F', Same F F' → (∀ a, H a ≠ none → F a = none → F' a = none) → Z F H → Z F' H
def Reg.nil : Reg := ⟨fun _ => False, fun _ => True, fun _ _ _ _ => trivial, fun _ _ => True, fun _ _ _ _ _ _ => trivial⟩

structure Wf (R : Reg) (F H : Hp) : Prop where
  fh : Same F H
  off : ∀ a, R.M a → F a = none
  oc : ∀ a, R.M a → H a ≠ none
  b : R.B H
/-- from F, H on: F' is F and what is new, H' is H but for the region -/
structure Ext (R : Reg) (F H F' H' : Hp) : Prop where
  wf : Wf R F' H'
  ff : Same F F'
  hh : ∀ a o, ¬ R.M a → H a = some o → H' a = some o
  fr : ∀ a, H a ≠ none → F a = none → F' a = none
theorem Ext.refl {R : Reg} {F H : Hp} (w : Wf R F H) : Ext R F H F H := ⟨w, .refl _, fun _ _ _ h => h, fun _ _ h => h⟩
theorem Wf.nm {R : Reg} {F H : Hp} (w : Wf R F H) {a : Addr} {o : HO} (h : F a = some o) : ¬ R.M a := fun z => by
  rw [w.off a z] at h
  cases h
theorem Ext.keep {R : Reg} {F H F' H' : Hp} (e : Ext R F H F' H') {a : Addr} (h : H a ≠ none) : H' a ≠ none := by
  by_cases q : R.M a
  · exact e.wf.oc a q
  · cases z : H a with
    | none => exact absurd z h
    | some o => rw [e.hh a o q z]; exact fun z => nomatch z
theorem Ext.trans {R : Reg} {F H F1 H1 F2 H2 : Hp} (a : Ext R F H F1 H1) (b : Ext R F1 H1 F2 H2) : Ext R F H F2 H2 :=
  ⟨b.wf, a.ff.trans b.ff, fun x o n h => b.hh x o n (a.hh x o n h), fun x h n => b.fr x (a.keep h) (a.fr x h n)⟩
theorem Wf.new {R : Reg} {F H : Hp} {p : Addr} (w : Wf R F H) (h : H p = none) : ¬ R.M p := fun z => w.oc p z h
theorem Wf.grow {R : Reg} {F F' H H' : Hp} (w : Wf R F H) (g : Same H H') (ff : Same F F') (fh : Same F' H') (fr : ∀ a, H a ≠ none → F a = none → F' a = none) : Ext R F H F' H' := by
  refine ⟨⟨fh, fun a m => ?_, fun a m z => ?_, R.st H H' (fun a o _ h => g a o h) w.b⟩, ff, fun a o _ h => g a o h, fr⟩
  · exact fr a (w.oc a m) (w.off a m)
  · cases q : H a with
    | none => exact w.oc a m q
    | some o => rw [g a o q] at z; cases z
theorem same_upd {H : Hp} {p : Addr} {o : HO} (h : H p = none) : Same H (upd H p o) := fun b x e => by
  rw [upd_ne (ne_of_none e h)]
  exact e
theorem same_upd2 {F H : Hp} {p : Addr} {o : HO} (s : Same F H) (h : H p = none) : Same (upd F p o) (upd H p o) := fun b x e => by
  by_cases q : b = p
  · subst q; rw [upd_same] at e ⊢; exact e
  · rw [upd_ne q] at e ⊢; exact s b x e
/-- a new thing, known | a new thing, one's own -/
theorem Wf.made {R : Reg} {F H : Hp} {p : Addr} {o : HO} (w : Wf R F H) (h : H p = none) : Ext R F H (upd F p o) (upd H p o) :=
  w.grow (same_upd h) (same_upd (w.fh.free h)) (same_upd2 w.fh h) fun a ha hf => by rw [upd_ne (fun z => ha (by rw [z]; exact h))]; exact hf
theorem Wf.own {R : Reg} {F H : Hp} {p : Addr} {o : HO} (w : Wf R F H) (h : H p = none) : Ext R F H F (upd H p o) :=
  w.grow (same_upd h) (.refl _) (w.fh.trans (same_upd h)) fun a ha hf => hf

/-! ### slots -/
inductive Sl where
  | no | sh (d : Dt) | ow (d : Dt)
/-- the thing at o, one's own, is d -/
def OwO (K : PySem.W.Frag) (F H : Hp) (o : Addr) : Dt → Prop
  | .lst xs => ∃ vs, H o = some (.lst vs) ∧ RpL K F xs vs
  | .dT ks xs => ∃ vs, H o = some (.dT (ks.zip vs)) ∧ ks.length = vs.length ∧ RpL K F xs vs
  | .dK ks xs => ∃ vs, H o = some (.dK (ks.zip vs)) ∧ ks.length = vs.length ∧ RpL K F xs vs
  | .obj C ns xs => ∃ dx vs, H o = some (.ins C dx (ns.zip vs)) ∧ ns.length = vs.length ∧ RpL K F xs vs
  | .at_ a (.obj C ns xs) => o = a ∧ ∃ dx vs, H o = some (.ins C dx (ns.zip vs)) ∧ ns.length = vs.length ∧ RpL K F xs vs
  | _ => False
/-- the kinds of one's own things -/
theorem OwO.kinds {K : PySem.W.Frag} {F H : Hp} {o : Addr} : ∀ {d : Dt}, OwO K F H o d → (∃ xs, d = .lst xs) ∨ (∃ ks xs, d = .dT ks xs) ∨ (∃ ks xs, d = .dK ks xs) ∨ (∃ C ns xs, d = .obj C ns xs) ∨ (∃ a C ns xs, d = .at_ a (.obj C ns xs))
  | .lst xs, _ => .inl ⟨xs, rfl⟩
  | .dT ks xs, _ => .inr (.inl ⟨ks, xs, rfl⟩)
  | .dK ks xs, _ => .inr (.inr (.inl ⟨ks, xs, rfl⟩))
  | .obj C ns xs, _ => .inr (.inr (.inr (.inl ⟨C, ns, xs, rfl⟩)))
  | .at_ a (.obj C ns xs), _ => .inr (.inr (.inr (.inr ⟨a, C, ns, xs, rfl⟩)))
  | .at_ _ .non, h | .at_ _ (.bl _), h | .at_ _ (.int _), h | .at_ _ (.str _), h | .at_ _ (.ty _), h | .at_ _ (.adr _), h | .at_ _ (.tup _), h | .at_ _ (.lst _), h | .at_ _ (.frl _), h | .at_ _ (.dT _ _), h | .at_ _ (.dK _ _), h | .at_ _ (.exv ..), h | .at_ _ (.at_ _ _), h | .at_ _ (.key _), h => (show False from h).elim
  | .non, h | .bl _, h | .int _, h | .str _, h | .ty _, h | .adr _, h | .tup _, h | .frl _, h | .exv .., h | .key _, h => (show False from h).elim
theorem OwO.some {K : PySem.W.Frag} {F H : Hp} {o : Addr} {d : Dt} (h : OwO K F H o d) : H o ≠ none := by
  rcases h.kinds with ⟨xs, rfl⟩ | ⟨ks, xs, rfl⟩ | ⟨ks, xs, rfl⟩ | ⟨C, ns, xs, rfl⟩ | ⟨a, C, ns, xs, rfl⟩
  · obtain ⟨vs, h, _⟩ := h; rw [h]; exact fun z => nomatch z
  · obtain ⟨vs, h, _⟩ := h; rw [h]; exact fun z => nomatch z
  · obtain ⟨vs, h, _⟩ := h; rw [h]; exact fun z => nomatch z
  · obtain ⟨dx, vs, h, _⟩ := h; rw [h]; exact fun z => nomatch z
  · obtain ⟨_, dx, vs, h, _⟩ := h; rw [h]; exact fun z => nomatch z
theorem OwO.mono {K : PySem.W.Frag} {F H F' H' : Hp} {o : Addr} {d : Dt} (ff : Same F F') (ho : ∀ u, H o = Option.some u → H' o = Option.some u) (h : OwO K F H o d) : OwO K F' H' o d := by
  rcases h.kinds with ⟨xs, rfl⟩ | ⟨ks, xs, rfl⟩ | ⟨ks, xs, rfl⟩ | ⟨C, ns, xs, rfl⟩ | ⟨a, C, ns, xs, rfl⟩
  · obtain ⟨vs, h, r⟩ := h; exact ⟨vs, ho _ h, r.mono ff⟩
  · obtain ⟨vs, h, l, r⟩ := h; exact ⟨vs, ho _ h, l, r.mono ff⟩
  · obtain ⟨vs, h, l, r⟩ := h; exact ⟨vs, ho _ h, l, r.mono ff⟩
  · obtain ⟨dx, vs, h, l, r⟩ := h; exact ⟨dx, vs, ho _ h, l, r.mono ff⟩
  · obtain ⟨e, dx, vs, h, l, r⟩ := h; exact ⟨e, dx, vs, ho _ h, l, r.mono ff⟩
def SlOk (K : PySem.W.Frag) (R : Reg) (F H : Hp) : Sl → Option V → Prop
  | .no, _ => True
  | .sh d, v => ∃ x, v = some x ∧ Rp K F d x
  | .ow d, v => ∃ o, v = some (.ref o) ∧ F o = none ∧ ¬ R.M o ∧ OwO K F H o d
inductive SlsOk (K : PySem.W.Frag) (R : Reg) (F H : Hp) : List Sl → List (Option V) → Prop where
  | nil : SlsOk K R F H [] []
  | cons {g : Sl} {v : Option V} {Gs : List Sl} {vs : List (Option V)} (h : SlOk K R F H g v) (t : SlsOk K R F H Gs vs) : SlsOk K R F H (g :: Gs) (v :: vs)
/-- one's own things -/
def owns : List Sl → List (Option V) → List Addr
  | .ow _ :: G, some (.ref o) :: vs => o :: owns G vs
  | _ :: G, _ :: vs => owns G vs
  | _, _ => []
structure Ty (K : PySem.W.Frag) (R : Reg) (G : List Sl) (σ : St) (F H : Hp) : Prop where
  wf : Wf R F H
  sl : SlsOk K R F H G σ
  nd : (owns G σ).Nodup
section
variable {K : PySem.W.Frag} {R : Reg} {F H F' H' : Hp}
theorem SlOk.ext {g : Sl} {v : Option V} (h : SlOk K R F H g v) (e : Ext R F H F' H') : SlOk K R F' H' g v := by
  cases g with
  | no => trivial
  | sh d =>
    obtain ⟨x, h1, h2⟩ := h
    exact ⟨x, h1, h2.mono e.ff⟩
  | ow d =>
    obtain ⟨o, h1, h2, h3, h4⟩ := h
    exact ⟨o, h1, e.fr o h4.some h2, h3, h4.mono e.ff fun u q => e.hh o u h3 q⟩
theorem SlsOk.ext {G : List Sl} {σ : St} (h : SlsOk K R F H G σ) (e : Ext R F H F' H') : SlsOk K R F' H' G σ := by
  induction h with
  | nil => exact .nil
  | cons h _ ih => exact .cons (h.ext e) ih
theorem Ty.ext {G : List Sl} {σ : St} (h : Ty K R G σ F H) (e : Ext R F H F' H') : Ty K R G σ F' H' := ⟨e.wf, h.sl.ext e, h.nd⟩
theorem SlsOk.get {G : List Sl} {σ : St} (h : SlsOk K R F H G σ) {i : Nat} {g : Sl} (e : G[i]? = some g) : ∃ v, σ[i]? = some v ∧ SlOk K R F H g v := by
  induction h generalizing i with
  | nil => simp at e
  | cons h t ih =>
    cases i with
    | zero =>
      have e' := Option.some.inj e
      subst e'
      exact ⟨_, rfl, h⟩
    | succ j => exact ih (i := j) (by simpa using e)
theorem SlsOk.len {G : List Sl} {σ : St} (h : SlsOk K R F H G σ) : G.length = σ.length := by
  induction h with
  | nil => rfl
  | cons _ _ ih => simp [ih]
theorem SlsOk.set {G : List Sl} {σ : St} (h : SlsOk K R F H G σ) (i : Nat) {g : Sl} {v : Option V} (q : SlOk K R F H g v) : SlsOk K R F H (G.set i g) (σ.set i v) := by
  induction h generalizing i with
  | nil => exact .nil
  | cons h t ih =>
    cases i with
    | zero => exact .cons q t
    | succ j => exact .cons h (ih j)
theorem owns_mem {G : List Sl} {σ : St} {o : Addr} (h : o ∈ owns G σ) : ∃ (i : Nat) (d : Dt), G[i]? = some (.ow d) ∧ σ[i]? = some (some (.ref o)) := by
  induction G generalizing σ with
  | nil => simp [owns] at h
  | cons g G ih =>
    cases σ with
    | nil => cases g <;> simp [owns] at h
    | cons v vs =>
      have step : o ∈ owns G vs → ∃ (i : Nat) (d : Dt), (g :: G)[i]? = some (.ow d) ∧ (v :: vs)[i]? = some (some (.ref o)) := fun z => by
        obtain ⟨i, d, h1, h2⟩ := ih z
        exact ⟨i + 1, d, by simpa using h1, by simpa using h2⟩
      cases g with
      | no => exact step (by simpa [owns] using h)
      | sh d => exact step (by simpa [owns] using h)
      | ow d =>
        cases v with
        | none => exact step (by simpa [owns] using h)
        | some x =>
          cases x with
          | ref p =>
            simp only [owns, List.mem_cons] at h
            rcases h with h | h
            · subst h; exact ⟨0, d, rfl, rfl⟩
            · exact step h
          | _ => exact step (by simpa [owns] using h)
theorem mem_owns {G : List Sl} {σ : St} {o : Addr} {i : Nat} {d : Dt} (h1 : G[i]? = some (.ow d)) (h2 : σ[i]? = some (some (.ref o))) : o ∈ owns G σ := by
  induction G generalizing σ i with
  | nil => simp at h1
  | cons g G ih =>
    cases σ with
    | nil => simp at h2
    | cons v vs =>
      cases i with
      | zero =>
        have e1 := Option.some.inj h1
        have e2 := Option.some.inj h2
        subst e1 e2
        simp [owns]
      | succ j =>
        have q : o ∈ owns G vs := ih (i := j) (by simpa using h1) (by simpa using h2)
        cases g with
        | no => simpa [owns] using q
        | sh d => simpa [owns] using q
        | ow d =>
          cases v with
          | none => simpa [owns] using q
          | some x => cases x <;> simp [owns, q]
/-- a slot set to what is not one's own -/
theorem owns_set_sub {G : List Sl} {σ : St} (i : Nat) {g : Sl} {v : Option V} (hg : ∀ d, g ≠ .ow d) : List.Sublist (owns (G.set i g) (σ.set i v)) (owns G σ) := by
  induction G generalizing σ i with
  | nil => simp [owns]
  | cons g0 G ih =>
    cases σ with
    | nil =>
      cases i with
      | zero => simp [owns]
      | succ j => simp [owns]
    | cons v0 vs =>
      cases i with
      | zero =>
        have e : owns (g :: G) (v :: vs) = owns G vs := by
          cases g with
          | no => simp [owns]
          | sh d => simp [owns]
          | ow d => exact absurd rfl (hg d)
        show List.Sublist (owns (g :: G) (v :: vs)) _
        rw [e]
        cases g0 with
        | no => simp [owns]
        | sh d => simp [owns]
        | ow d =>
          cases v0 with
          | none => simp [owns]
          | some x => cases x <;> simp [owns]
      | succ j =>
        have q := ih (σ := vs) (i := j)
        show List.Sublist (owns (g0 :: G.set j g) (v0 :: vs.set j v)) _
        cases g0 with
        | no => simpa [owns] using q
        | sh d => simpa [owns] using q
        | ow d =>
          cases v0 with
          | none => simpa [owns] using q
          | some x => cases x <;> simp [owns, q]
theorem Ty.set {G : List Sl} {σ : St} (h : Ty K R G σ F H) (i : Nat) {d : Dt} {x : V} (q : Rp K F d x) : Ty K R (G.set i (.sh d)) (σ.set i (some x)) F H :=
  ⟨h.wf, h.sl.set i ⟨x, rfl, q⟩, h.nd.sublist (owns_set_sub i fun _ z => nomatch z)⟩
theorem owns_set_own {G : List Sl} {σ : St} (i : Nat) {d : Dt} {o : Addr} : ∀ x ∈ owns (G.set i (.ow d)) (σ.set i (some (.ref o))), x = o ∨ x ∈ owns G σ := fun x hx => by
  obtain ⟨j, d', h1, h2⟩ := owns_mem hx
  by_cases e : j = i
  · subst e
    have hj : j < σ.length := by
      have := (List.getElem?_eq_some_iff.mp h2).1
      simpa using this
    rw [List.getElem?_set_self hj] at h2
    cases h2
    exact .inl rfl
  · rw [List.getElem?_set_ne (Ne.symm e)] at h1 h2
    exact .inr (mem_owns h1 h2)
theorem owns_nodup_set {G : List Sl} {σ : St} (i : Nat) {d : Dt} {o : Addr} (h : (owns G σ).Nodup) (n : o ∉ owns (G.set i .no) (σ.set i none)) : (owns (G.set i (.ow d)) (σ.set i (some (.ref o)))).Nodup := by
  induction G generalizing σ i with
  | nil => simp [owns]
  | cons g0 G ih =>
    cases σ with
    | nil =>
      cases i with
      | zero => simp [owns]
      | succ j => simp [owns]
    | cons v0 vs =>
      have hG : (owns G vs).Nodup := by
        cases g0 with
        | no => simpa [owns] using h
        | sh d => simpa [owns] using h
        | ow d =>
          cases v0 with
          | none => simpa [owns] using h
          | some x =>
            cases x with
            | ref p => simp only [owns, List.nodup_cons] at h; exact h.2
            | _ => simpa [owns] using h
      cases i with
      | zero =>
        show (owns (.ow d :: G) (some (.ref o) :: vs)).Nodup
        simp only [owns, List.nodup_cons]
        exact ⟨by simpa [owns] using n, hG⟩
      | succ j =>
        show (owns (g0 :: G.set j (.ow d)) (v0 :: vs.set j (some (.ref o)))).Nodup
        have n' : o ∉ owns (g0 :: G.set j .no) (v0 :: vs.set j none) := n
        have plain : o ∉ owns (G.set j .no) (vs.set j none) → (owns (G.set j (.ow d)) (vs.set j (some (.ref o)))).Nodup := fun z => ih j hG z
        cases g0 with
        | no => simpa [owns] using plain (by simpa [owns] using n')
        | sh d => simpa [owns] using plain (by simpa [owns] using n')
        | ow d1 =>
          cases v0 with
          | none => simpa [owns] using plain (by simpa [owns] using n')
          | some x =>
            cases x with
            | ref p =>
              simp only [owns, List.mem_cons, not_or] at n'
              simp only [owns, List.nodup_cons] at h ⊢
              refine ⟨fun z => ?_, plain n'.2⟩
              rcases owns_set_own j p z with e | e
              · exact n'.1 e.symm
              · exact h.1 e
            | _ => simpa [owns] using plain (by simpa [owns] using n')
end
end VS
set_option Elab.async false
set_option linter.all false
set_option maxRecDepth 100000
namespace VS
open PySem PySem.Spec L2

/-! ### readings as weak as they can be -/
@[irreducible] def tOf (X : Cx) (e : Expr) : TE := fun σ H Q => ∀ pins s, Inv X pins σ H s → wpAny (model X.prog X.w) X.A (eval e X.env) (EP X pins σ Q) X.xe s
@[irreducible] def ttOf (X : Cx) (e : Expr) : TT := fun σ H Q => ∀ pins s, Inv X pins σ H s → wpAny (model X.prog X.w) X.A (isTrue e X.env (eval e X.env)) (TP X pins σ Q) X.xe s
@[irreducible] def twOf (X : Cx) (e : Expr) : TT := fun σ H Q => ∀ (whole : Sem Value) pins s, Inv X pins σ H s → wpAny (model X.prog X.w) X.A (isTrue e X.env whole) (TP X pins σ Q) X.xe s
@[irreducible] def taOf (X : Cx) (es : List Expr) : TA := fun σ H Q => ∀ (pos : Pos) pins s, Inv X pins σ H s → wpAny (model X.prog X.w) X.A (spliced (backTo pos (starEach es X.env))) (AP X pins σ Q) X.xe s
@[irreducible] def s1Of (X : Cx) (st : Stmt) : TS := fun D σ H => ∀ pins s, Inv X pins σ H s → wpAny (model X.prog X.w) X.A (exec st X.env) (SP X pins D) X.xe s
@[irreducible] def sOf (X : Cx) (ss : List Stmt) : TS := fun D σ H => ∀ pins s, Inv X pins σ H s → wpAny (model X.prog X.w) X.A (execs ss X.env) (SP X pins D) X.xe s
@[irreducible] def opOf (X : Cx) (f : Value → Value → Sem Value) : R2 := fun x y H Q => ∀ pins s σ v u, Inv X pins σ H s → RelV x v → RelV y u → wpAny (model X.prog X.w) X.A (f v u) (EP X pins σ Q) X.xe s
@[irreducible] def unOf (X : Cx) (f : Value → Sem Value) : V → Hp → VK → Prop := fun x H Q => ∀ pins s σ v, Inv X pins σ H s → RelV x v → wpAny (model X.prog X.w) X.A (f v) (EP X pins σ Q) X.xe s
@[irreducible] def crOf (X : Cx) (f : Value) : List V → Hp → VK → Prop := fun xs H Q => ∀ pins s σ us, Inv X pins σ H s → Vals xs us → wpAny (model X.prog X.w) X.A (call f us) (EP X pins σ Q) X.xe s
section
variable {X : Cx}
theorem pe_w {e : Expr} : PE X e (tOf X e) := ⟨fun pins s σ H Q I h => by unfold tOf at h; exact h pins s I⟩
theorem pt_w {e : Expr} : PT X e (ttOf X e) := ⟨fun pins s σ H Q I h => by unfold ttOf at h; exact h pins s I⟩
theorem pw_w {e : Expr} : PW X e (twOf X e) := ⟨fun wh pins s σ H Q I h => by unfold twOf at h; exact h wh pins s I⟩
theorem pa_w {es : List Expr} : PA X es (taOf X es) := ⟨fun pos pins s σ H Q I h => by unfold taOf at h; exact h pos pins s I⟩
theorem ps_w {st : Stmt} : PS X st (s1Of X st) := ⟨fun pins s σ H D I h => by unfold s1Of at h; exact h pins s I⟩
theorem pss_w {ss : List Stmt} : PSs X ss (sOf X ss) := ⟨fun pins s σ H D I h => by unfold sOf at h; exact h pins s I⟩
theorem op_w {f : Value → Value → Sem Value} : OpR X f (opOf X f) := fun pins s σ H x y v u Q I rx ry h => by unfold opOf at h; exact h pins s σ v u I rx ry
theorem un_w {f : Value → Sem Value} : UnR X f (unOf X f) := fun pins s σ H x v Q I rx h => by unfold unOf at h; exact h pins s σ v I rx
theorem cr_w {f : Value} : CallR X f (crOf X f) := fun pins s σ H xs us Q I r h => by unfold crOf at h; exact h pins s σ us I r
theorem tOf.of {e : Expr} {t : TE} {σ : St} {H : Hp} {Q : VK} (h : PE X e t) (q : t σ H Q) : tOf X e σ H Q := by unfold tOf; exact fun pins s I => h.run pins s σ H Q I q
theorem ttOf.of {e : Expr} {t : TT} {σ : St} {H : Hp} {Q : Bool → Hp → Prop} (h : PT X e t) (q : t σ H Q) : ttOf X e σ H Q := by unfold ttOf; exact fun pins s I => h.run pins s σ H Q I q
theorem twOf.of {e : Expr} {t : TT} {σ : St} {H : Hp} {Q : Bool → Hp → Prop} (h : PW X e t) (q : t σ H Q) : twOf X e σ H Q := by unfold twOf; exact fun wh pins s I => h.run wh pins s σ H Q I q
theorem taOf.of {es : List Expr} {t : TA} {σ : St} {H : Hp} {Q : List V → Hp → Prop} (h : PA X es t) (q : t σ H Q) : taOf X es σ H Q := by unfold taOf; exact fun pos pins s I => h.run pos pins s σ H Q I q
theorem s1Of.of {st : Stmt} {t : TS} {σ : St} {H : Hp} {D : Ends} (h : PS X st t) (q : t D σ H) : s1Of X st D σ H := by unfold s1Of; exact fun pins s I => h.run pins s σ H D I q
theorem sOf.of {ss : List Stmt} {t : TS} {σ : St} {H : Hp} {D : Ends} (h : PSs X ss t) (q : t D σ H) : sOf X ss D σ H := by unfold sOf; exact fun pins s I => h.run pins s σ H D I q
theorem opOf.of {f : Value → Value → Sem Value} {r : R2} {x y : V} {H : Hp} {Q : VK} (h : OpR X f r) (q : r x y H Q) : opOf X f x y H Q := by unfold opOf; exact fun pins s σ v u I rx ry => h pins s σ H x y v u Q I rx ry q
theorem unOf.of {f : Value → Sem Value} {r : V → Hp → VK → Prop} {x : V} {H : Hp} {Q : VK} (h : UnR X f r) (q : r x H Q) : unOf X f x H Q := by unfold unOf; exact fun pins s σ v I rx => h pins s σ H x v Q I rx q
theorem crOf.of {f : Value} {r : List V → Hp → VK → Prop} {xs : List V} {H : Hp} {Q : VK} (h : CallR X f r) (q : r xs H Q) : crOf X f xs H Q := by unfold crOf; exact fun pins s σ us I rx => h pins s σ H xs us Q I rx q
end

/-! ### over data -/
/-- what follows, given the value's data -/
def Ct (K : PySem.W.Frag) (R : Reg) (F H : Hp) (P : Dt → Prop) (Q : VK) : Prop := ∀ v F' H' d, Ext R F H F' H' → Rp K F' d v → P d → Q v H'
def CtB (R : Reg) (F H : Hp) (P : Bool → Prop) (Q : Bool → Hp → Prop) : Prop := ∀ b F' H', Ext R F H F' H' → P b → Q b H'
def CtA (K : PySem.W.Frag) (R : Reg) (F H : Hp) (P : List Dt → Prop) (Q : List V → Hp → Prop) : Prop := ∀ vs F' H' ds, Ext R F H F' H' → RpL K F' ds vs → P ds → Q vs H'
def E (X : Cx) (R : Reg) (G : List Sl) (e : Expr) (P : Dt → Prop) : Prop := ∀ σ F H Q, Ty X.K R G σ F H → Ct X.K R F H P Q → tOf X e σ H Q
def T (X : Cx) (R : Reg) (G : List Sl) (e : Expr) (P : Bool → Prop) : Prop := ∀ σ F H Q, Ty X.K R G σ F H → CtB R F H P Q → ttOf X e σ H Q
def TW (X : Cx) (R : Reg) (G : List Sl) (e : Expr) (P : Bool → Prop) : Prop := ∀ σ F H Q, Ty X.K R G σ F H → CtB R F H P Q → twOf X e σ H Q
def EA (X : Cx) (R : Reg) (G : List Sl) (es : List Expr) (P : List Dt → Prop) : Prop := ∀ σ F H Q, Ty X.K R G σ F H → CtA X.K R F H P Q → taOf X es σ H Q
/-- operations on data -/
def W2 (X : Cx) (R : Reg) (f : Value → Value → Sem Value) (a b : Dt) (P : Dt → Prop) : Prop := ∀ F H x y Q, Wf R F H → Rp X.K F a x → Rp X.K F b y → Ct X.K R F H P Q → opOf X f x y H Q
def W1 (X : Cx) (R : Reg) (f : Value → Sem Value) (a : Dt) (P : Dt → Prop) : Prop := ∀ F H x Q, Wf R F H → Rp X.K F a x → Ct X.K R F H P Q → unOf X f x H Q
def WC (X : Cx) (R : Reg) (f : Value) (ds : List Dt) (P : Dt → Prop) : Prop := ∀ F H xs Q, Wf R F H → RpL X.K F ds xs → Ct X.K R F H P Q → crOf X f xs H Q
section
variable {X : Cx} {R : Reg} {G : List Sl} {pos : Pos}
theorem Ct.step {K : PySem.W.Frag} {F H F1 H1 : Hp} {P : Dt → Prop} {Q : VK} (c : Ct K R F H P Q) (e : Ext R F H F1 H1) : Ct K R F1 H1 P Q := fun v F' H' d ex r p => c v F' H' d (e.trans ex) r p
theorem CtB.step {F H F1 H1 : Hp} {P : Bool → Prop} {Q : Bool → Hp → Prop} (c : CtB R F H P Q) (e : Ext R F H F1 H1) : CtB R F1 H1 P Q := fun b F' H' ex p => c b F' H' (e.trans ex) p
theorem Ct.here {K : PySem.W.Frag} {F H : Hp} {P : Dt → Prop} {Q : VK} {v : V} {d : Dt} (c : Ct K R F H P Q) (w : Wf R F H) (r : Rp K F d v) (p : P d) : Q v H := c v F H d (.refl w) r p
theorem CtB.here {F H : Hp} {P : Bool → Prop} {Q : Bool → Hp → Prop} {b : Bool} (c : CtB R F H P Q) (w : Wf R F H) (p : P b) : Q b H := c b F H (.refl w) p
theorem E.imp {e : Expr} {P P' : Dt → Prop} (h : E X R G e P) (i : ∀ d, P d → P' d) : E X R G e P' := fun σ F H Q ty c => h σ F H Q ty fun v F' H' d ex r p => c v F' H' d ex r (i d p)
theorem T.imp {e : Expr} {P P' : Bool → Prop} (h : T X R G e P) (i : ∀ b, P b → P' b) : T X R G e P' := fun σ F H Q ty c => h σ F H Q ty fun b F' H' ex p => c b F' H' ex (i b p)

/-! ### names, constants -/
theorem e_var (i : Nat) {x : Str} {d : Dt} {P : Dt → Prop} (hg : G[i]? = some (.sh d)) (hN : X.N[i]? = some x) (hv : Vis X.env.scope x) (p : P d) (hd : (x == ("__debug__" : Str)) = false := by decide) (hcd : (x == ("__classdict__" : Str)) = false := by decide) :
    E X R G (.Name x pos) P := fun σ F H Q ty c => by
  obtain ⟨v, e1, y, e2, r⟩ := ty.sl.get hg
  exact tOf.of (pe_var hN hv hd hcd) ⟨y, by rw [e1, e2], c.here ty.wf r p⟩
theorem e_int {i : Int} {j} {P : Dt → Prop} (p : P (.int i)) : E X R G (.Constant (.int i) j pos) P := fun σ F H Q ty c => tOf.of pe_int (c.here ty.wf (rp_int.mpr rfl) p)
theorem e_bool {i : Bool} {j} {P : Dt → Prop} (p : P (.bl i)) : E X R G (.Constant (.bool i) j pos) P := fun σ F H Q ty c => tOf.of pe_bl (c.here ty.wf (rp_bl.mpr rfl) p)
theorem e_none {j} {P : Dt → Prop} (p : P .non) : E X R G (.Constant .none j pos) P := fun σ F H Q ty c => tOf.of pe_non (c.here ty.wf (rp_non.mpr rfl) p)
theorem e_str {i : Str} {j} {P : Dt → Prop} (p : P (.str i)) : E X R G (.Constant (.str i) j pos) P := fun σ F H Q ty c => tOf.of pe_str (c.here ty.wf (rp_str.mpr rfl) p)
/-- a module's constant that is no object -/
theorem e_glob {x : Str} {d : Dt} {v : V} {u : Value} {P : Dt → Prop} (hg : Gl X x) (hm : X.mg x = some u) (r : RelV v u) (rd : ∀ F, Rp X.K F d v) (p : P d) (hd : (x == ("__debug__" : Str)) = false := by decide) : E X R G (.Name x pos) P :=
  fun σ F H Q ty c => tOf.of (pe_glob hg hm r hd) (c.here ty.wf (rd F) p)

/-! ### operators -/
theorem e_bin {a b : Expr} {op : Operator} {P : Dt → Prop} (h : E X R G a fun d1 => E X R G b fun d2 => W2 X R (binaryOp op) d1 d2 P) : E X R G (.BinOp a op b pos) P := fun σ F H Q ty c =>
  tOf.of (pe_op op_w pe_w pe_w) (h σ F H _ ty fun v F1 H1 d1 ex1 r1 h2 => h2 σ F1 H1 _ (ty.ext ex1) fun w F2 H2 d2 ex2 r2 h3 => h3 F2 H2 v w Q ex2.wf (r1.mono ex2.ff) r2 (c.step (ex1.trans ex2)))
theorem e_un {a : Expr} {op : UnaryOp} {P : Dt → Prop} (h : E X R G a fun d1 => W1 X R (unaryOp op) d1 P) : E X R G (.UnaryOp op a pos) P := fun σ F H Q ty c =>
  tOf.of (pe_un un_w pe_w) (h σ F H _ ty fun v F1 H1 d1 ex1 r1 h2 => h2 F1 H1 v Q ex1.wf r1 (c.step ex1))
theorem e_cmp {a b : Expr} {op : CmpOp} {P : Dt → Prop} (h : E X R G a fun d1 => E X R G b fun d2 => W2 X R (compareOp op) d1 d2 P) (hm : behindInMarks op b = false := by first | exact nomark _ | rfl) : E X R G (.Compare a [op] [b] pos) P := fun σ F H Q ty c =>
  tOf.of (pe_cmpR op_w pe_w pe_w hm) (h σ F H _ ty fun v F1 H1 d1 ex1 r1 h2 => h2 σ F1 H1 _ (ty.ext ex1) fun w F2 H2 d2 ex2 r2 h3 => h3 F2 H2 v w Q ex2.wf (r1.mono ex2.ff) r2 (c.step (ex1.trans ex2)))
theorem t_cmp {a b : Expr} {op : CmpOp} {P : Bool → Prop} (h : E X R G a fun d1 => E X R G b fun d2 => W2 X R (compareOp op) d1 d2 fun d => ∃ k, d = .bl k ∧ P k) (hm : behindInMarks op b = false := by first | exact nomark _ | rfl) : T X R G (.Compare a [op] [b] pos) P := fun σ F H Q ty c =>
  ttOf.of (pt_cmpR op_w pe_w pe_w hm) (h σ F H _ ty fun v F1 H1 d1 ex1 r1 h2 => h2 σ F1 H1 _ (ty.ext ex1) fun w F2 H2 d2 ex2 r2 h3 => h3 F2 H2 v w _ ex2.wf (r1.mono ex2.ff) r2 fun z F3 H3 d3 ex3 r3 ⟨k, e, p⟩ => by
    subst e
    exact ⟨k, rp_bl.mp r3, c k F3 H3 ((ex1.trans ex2).trans ex3) p⟩)
/-- a op1 b op2 c -/
theorem e_chain {a b c : Expr} {op op' : CmpOp} {P : Dt → Prop} (h : E X R G a fun d1 => E X R G b fun d2 => W2 X R (compareOp op) d1 d2 fun d => ∃ k, d = .bl k ∧ if k = true then E X R G c fun d3 => W2 X R (compareOp op') d2 d3 P else P (.bl false))
    (hm : lastMarks [op, op'] [b, c] = false := by with_unfolding_all rfl) : E X R G (.Compare a [op, op'] [b, c] pos) P := fun σ F H Q ty cc =>
  tOf.of (pe_chain op_w op_w pe_w pe_w pe_w hm) (h σ F H _ ty fun v F1 H1 d1 ex1 r1 h2 => h2 σ F1 H1 _ (ty.ext ex1) fun w F2 H2 d2 ex2 r2 h3 => h3 F2 H2 v w _ ex2.wf (r1.mono ex2.ff) r2 fun z F3 H3 d3 ex3 r3 ⟨k, e, p⟩ => by
    subst e
    have e12 := ex1.trans ex2
    have e123 := e12.trans ex3
    refine ⟨k, rp_bl.mp r3, ?_⟩
    cases k with
    | false =>
      rw [if_neg (by decide)] at p ⊢
      exact cc _ F3 H3 _ e123 (rp_bl.mpr rfl) p
    | true =>
      rw [if_pos rfl] at p ⊢
      exact p σ F3 H3 _ (ty.ext e123) fun u F4 H4 d4 ex4 r4 p4 => p4 F4 H4 w u Q ex4.wf ((r2.mono ex3.ff).mono ex4.ff) r4 (cc.step (e123.trans ex4)))
theorem t_chain {a b c : Expr} {op op' : CmpOp} {P : Bool → Prop} (h : E X R G a fun d1 => E X R G b fun d2 => W2 X R (compareOp op) d1 d2 fun d => ∃ k, d = .bl k ∧ if k = true then E X R G c fun d3 => W2 X R (compareOp op') d2 d3 fun d => ∃ k, d = .bl k ∧ P k else P false)
    (hm : lastMarks [op, op'] [b, c] = false := by with_unfolding_all rfl) : T X R G (.Compare a [op, op'] [b, c] pos) P := fun σ F H Q ty cc =>
  ttOf.of (pt_chain op_w op_w pe_w pe_w pe_w hm) (h σ F H _ ty fun v F1 H1 d1 ex1 r1 h2 => h2 σ F1 H1 _ (ty.ext ex1) fun w F2 H2 d2 ex2 r2 h3 => h3 F2 H2 v w _ ex2.wf (r1.mono ex2.ff) r2 fun z F3 H3 d3 ex3 r3 ⟨k, e, p⟩ => by
    subst e
    have e12 := ex1.trans ex2
    have e123 := e12.trans ex3
    refine ⟨k, rp_bl.mp r3, ?_⟩
    cases k with
    | false =>
      rw [if_neg (by decide)] at p ⊢
      exact ⟨false, rfl, cc false F3 H3 e123 p⟩
    | true =>
      rw [if_pos rfl] at p ⊢
      exact p σ F3 H3 _ (ty.ext e123) fun u F4 H4 d4 ex4 r4 p4 => p4 F4 H4 w u _ ex4.wf ((r2.mono ex3.ff).mono ex4.ff) r4 fun z F5 H5 d5 ex5 r5 ⟨k, e, p⟩ => by
        subst e
        exact ⟨k, rp_bl.mp r5, cc k F5 H5 ((e123.trans ex4).trans ex5) p⟩)

/-! ### tests -/
theorem t_val {e : Expr} {P : Bool → Prop} (h : E X R G e fun d => ∃ k, d = .bl k ∧ P k) (he : ∀ whole, isTrue e X.env whole = (do let v ← whole; standAt e.pos; holding [v] (truthy v)) := by intro _; rfl) : T X R G e P := fun σ F H Q ty c =>
  ttOf.of (pt_val pe_w he) (h σ F H _ ty fun v F1 H1 d1 ex1 r1 ⟨k, e, p⟩ => by
    subst e
    exact ⟨k, rp_bl.mp r1, c k F1 H1 ex1 p⟩)
theorem TW.t {e : Expr} {P : Bool → Prop} (h : TW X R G e P) : T X R G e P := fun σ F H Q ty c => by
  have z := h σ F H Q ty c
  unfold twOf at z
  unfold ttOf
  exact fun pins s I => z _ pins s I
theorem tw_and1 {a : Expr} {P : Bool → Prop} (h : T X R G a P) : TW X R G (.BoolOp .And [a] pos) P := fun σ F H Q ty c => twOf.of (pw_and1 pt_w) (h σ F H Q ty c)
theorem tw_or1 {a : Expr} {P : Bool → Prop} (h : T X R G a P) : TW X R G (.BoolOp .Or [a] pos) P := fun σ F H Q ty c => twOf.of (pw_or1 pt_w) (h σ F H Q ty c)
theorem tw_and {a b : Expr} {es : List Expr} {P : Bool → Prop} (h : T X R G a fun k => if k = true then TW X R G (.BoolOp .And (b :: es) pos) P else P false) : TW X R G (.BoolOp .And (a :: b :: es) pos) P := fun σ F H Q ty c =>
  twOf.of (pw_and pt_w pw_w) (h σ F H _ ty fun k F1 H1 ex1 p => by
    cases k with
    | false => rw [if_neg (by decide)] at p ⊢; exact c false F1 H1 ex1 p
    | true => rw [if_pos rfl] at p ⊢; exact p σ F1 H1 Q (ty.ext ex1) (c.step ex1))
theorem tw_or {a b : Expr} {es : List Expr} {P : Bool → Prop} (h : T X R G a fun k => if k = true then P true else TW X R G (.BoolOp .Or (b :: es) pos) P) : TW X R G (.BoolOp .Or (a :: b :: es) pos) P := fun σ F H Q ty c =>
  twOf.of (pw_or pt_w pw_w) (h σ F H _ ty fun k F1 H1 ex1 p => by
    cases k with
    | true => rw [if_pos rfl] at p ⊢; exact c true F1 H1 ex1 p
    | false => rw [if_neg (by decide)] at p ⊢; exact p σ F1 H1 Q (ty.ext ex1) (c.step ex1))
theorem t_not {a : Expr} {P : Bool → Prop} (h : T X R G a fun k => P (!k)) : T X R G (.UnaryOp .Not a pos) P := fun σ F H Q ty c =>
  ttOf.of (pt_not pt_w) (h σ F H _ ty fun k F1 H1 ex1 p => c _ F1 H1 ex1 p)
/-- and, or, not as values -/
theorem e_and {a b : Expr} {es : List Expr} {P : Dt → Prop} (h : E X R G a fun d => ∃ k, d = .bl k ∧ if k = true then E X R G (.BoolOp .And (b :: es) pos) P else P (.bl false)) : E X R G (.BoolOp .And (a :: b :: es) pos) P := fun σ F H Q ty c =>
  tOf.of (pe_and pe_w pe_w) (h σ F H _ ty fun v F1 H1 d1 ex1 r1 ⟨k, e, p⟩ => by
    subst e
    refine ⟨k, rp_bl.mp r1, ?_⟩
    cases k with
    | false => rw [if_neg (by decide)] at p ⊢; exact c _ F1 H1 _ ex1 (rp_bl.mpr rfl) p
    | true => rw [if_pos rfl] at p ⊢; exact p σ F1 H1 Q (ty.ext ex1) (c.step ex1))
theorem e_or {a b : Expr} {es : List Expr} {P : Dt → Prop} (h : E X R G a fun d => ∃ k, d = .bl k ∧ if k = true then P (.bl true) else E X R G (.BoolOp .Or (b :: es) pos) P) : E X R G (.BoolOp .Or (a :: b :: es) pos) P := fun σ F H Q ty c =>
  tOf.of (pe_or pe_w pe_w) (h σ F H _ ty fun v F1 H1 d1 ex1 r1 ⟨k, e, p⟩ => by
    subst e
    refine ⟨k, rp_bl.mp r1, ?_⟩
    cases k with
    | true => rw [if_pos rfl] at p ⊢; exact c _ F1 H1 _ ex1 (rp_bl.mpr rfl) p
    | false => rw [if_neg (by decide)] at p ⊢; exact p σ F1 H1 Q (ty.ext ex1) (c.step ex1))
theorem e_one {op} {a : Expr} {P : Dt → Prop} (h : E X R G a P) : E X R G (.BoolOp op [a] pos) P := fun σ F H Q ty c => tOf.of (pe_one pe_w) (h σ F H Q ty c)
theorem e_not {a : Expr} {P : Dt → Prop} (h : E X R G a fun d => ∃ k, d = .bl k ∧ P (.bl (!k))) : E X R G (.UnaryOp .Not a pos) P := fun σ F H Q ty c =>
  tOf.of (pe_not pe_w) (h σ F H _ ty fun v F1 H1 d1 ex1 r1 ⟨k, e, p⟩ => by
    subst e
    exact ⟨k, rp_bl.mp r1, c _ F1 H1 _ ex1 (rp_bl.mpr rfl) p⟩)
theorem e_if {t a b : Expr} {P : Dt → Prop} (h : T X R G t fun k => if k = true then E X R G a P else E X R G b P) : E X R G (.IfExp t a b pos) P := fun σ F H Q ty c =>
  tOf.of (pe_ifExp pt_w pe_w pe_w) (h σ F H _ ty fun k F1 H1 ex1 p => by
    cases k with
    | true => rw [if_pos rfl] at p ⊢; exact p σ F1 H1 Q (ty.ext ex1) (c.step ex1)
    | false => rw [if_neg (by decide)] at p ⊢; exact p σ F1 H1 Q (ty.ext ex1) (c.step ex1))

/-! ### arguments, displays -/
theorem ea_nil {P : List Dt → Prop} (p : P []) : EA X R G [] P := fun σ F H Q ty c => taOf.of pa_nil (c [] F H [] (.refl ty.wf) .nil p)
theorem ea_cons {e : Expr} {es : List Expr} {P : List Dt → Prop} (h : E X R G e fun d => EA X R G es fun ds => P (d :: ds)) (hs : starEach (e :: es) X.env = (false, eval e X.env) :: starEach es X.env := by rfl) : EA X R G (e :: es) P := fun σ F H Q ty c =>
  taOf.of (pa_cons pe_w pa_w hs) (h σ F H _ ty fun v F1 H1 d1 ex1 r1 h2 => h2 σ F1 H1 _ (ty.ext ex1) fun vs F2 H2 ds ex2 r2 p => c _ F2 H2 _ (ex1.trans ex2) (.cons (r1.mono ex2.ff) r2) p)
theorem rp_tup_new {K : PySem.W.Frag} {F : Hp} {p : Addr} {ds : List Dt} {vs : List V} (hn : F p = none) (r : RpL K F ds vs) : Rp K (upd F p (.tup vs)) (.tup ds) (.ref p) :=
  rp_tup.mpr ⟨p, vs, rfl, SqT.of upd_same, r.mono (same_upd hn)⟩
theorem rp_lst_new {K : PySem.W.Frag} {F : Hp} {p : Addr} {ds : List Dt} {vs : List V} (hn : F p = none) (r : RpL K F ds vs) : Rp K (upd F p (.lst vs)) (.lst ds) (.ref p) :=
  rp_lst.mpr ⟨p, vs, rfl, upd_same, r.mono (same_upd hn)⟩
theorem e_tup {es : List Expr} {x1} {P : Dt → Prop} (h : EA X R G es fun ds => ds.length ≤ 100000 ∧ P (.tup ds)) : E X R G (.Tuple es x1 pos) P := fun σ F H Q ty c =>
  tOf.of (pe_tup pa_w) (h σ F H _ ty fun vs F1 H1 ds ex1 r1 ⟨hl, p⟩ => ⟨by rw [← r1.length]; exact Nat.le_trans hl (by decide), fun q hq => c _ _ _ _ (ex1.trans (ex1.wf.made hq)) (rp_tup_new (ex1.wf.fh.free hq) r1) p⟩)
theorem e_lst {es : List Expr} {P : Dt → Prop} (h : EA X R G es fun ds => ds.length ≤ 100000 ∧ P (.lst ds)) : E X R G (.List es pos) P := fun σ F H Q ty c =>
  tOf.of (pe_lst pa_w) (h σ F H _ ty fun vs F1 H1 ds ex1 r1 ⟨hl, p⟩ => ⟨by rw [← r1.length]; exact Nat.le_trans hl (by decide), fun q hq => c _ _ _ _ (ex1.trans (ex1.wf.made hq)) (rp_lst_new (ex1.wf.fh.free hq) r1) p⟩)

/-! ### the operations -/
theorem w2_int {f : Value → Value → Sem Value} {C : Int → Int → Prop} {g : Int → Int → Int} {i j : Int} {P : Dt → Prop} (ho : OpR X f (rI C fun i j => .int (g i j))) (hc : C i j) (p : P (.int (g i j))) : W2 X R f (.int i) (.int j) P := fun F H x y Q w rx ry c =>
  opOf.of ho ⟨i, j, rp_int.mp rx, rp_int.mp ry, hc, c.here w (rp_int.mpr rfl) p⟩
theorem w2_int0 {f : Value → Value → Sem Value} {g : Int → Int → Int} {i j : Int} {P : Dt → Prop} (ho : OpR X f (rI0 fun i j => .int (g i j))) (p : P (.int (g i j))) : W2 X R f (.int i) (.int j) P := fun F H x y Q w rx ry c =>
  opOf.of ho ⟨i, j, rp_int.mp rx, rp_int.mp ry, c.here w (rp_int.mpr rfl) p⟩
theorem w2_bl0 {f : Value → Value → Sem Value} {g : Int → Int → Bool} {i j : Int} {P : Dt → Prop} (ho : OpR X f (rI0 fun i j => .bl (g i j))) (p : P (.bl (g i j))) : W2 X R f (.int i) (.int j) P := fun F H x y Q w rx ry c =>
  opOf.of ho ⟨i, j, rp_int.mp rx, rp_int.mp ry, c.here w (rp_bl.mpr rfl) p⟩
theorem w_add {i j : Int} {P : Dt → Prop} (p : P (.int (i + j))) : W2 X R (binaryOp .Add) (.int i) (.int j) P := w2_int0 op_add p
theorem w_sub {i j : Int} {P : Dt → Prop} (p : P (.int (i - j))) : W2 X R (binaryOp .Sub) (.int i) (.int j) P := w2_int0 op_sub p
/-- the sizes of ints: below 2 ^ 400000 -/
def Sm (n : Nat) (i : Int) : Prop := i.natAbs < 2 ^ n
theorem Sm.mul_ok {a b : Nat} {i j : Int} (ha : Sm a i) (hb : Sm b j) (h : a + b ≤ 900000) : CMulW i j := by
  refine wide_mul (a := a + 1) (b := b + 1) ?_ ?_ (by omega) (by omega) (by omega)
  · exact Nat.lt_of_lt_of_le ha (Nat.pow_le_pow_right (by decide) (by omega))
  · exact Nat.lt_of_lt_of_le hb (Nat.pow_le_pow_right (by decide) (by omega))
theorem w_mul {i j : Int} {P : Dt → Prop} (hc : CMulW i j) (p : P (.int (i * j))) : W2 X R (binaryOp .Mult) (.int i) (.int j) P := w2_int op_mulW hc p
theorem w_mulS {i j : Int} {P : Dt → Prop} (hc : CMul i j) (p : P (.int (i * j))) : W2 X R (binaryOp .Mult) (.int i) (.int j) P := w2_int op_mul hc p
theorem w_mod {i j : Int} {P : Dt → Prop} (hc : 0 < j) (p : P (.int (i % j))) : W2 X R (binaryOp .Mod) (.int i) (.int j) P := w2_int op_mod hc p
theorem w_modN {i j : Int} {P : Dt → Prop} (hc : j ≠ 0) (p : P (.int (i.fmod j))) : W2 X R (binaryOp .Mod) (.int i) (.int j) P := w2_int op_modN hc p
theorem w_div {i j : Int} {P : Dt → Prop} (hc : CDivW i j) (p : P (.int (i / j))) : W2 X R (binaryOp .FloorDiv) (.int i) (.int j) P := w2_int op_fdivW hc p
/-- // by any divisor but 0 below 2 ^ 9000 -/
def CDivA (_ j : Int) : Prop := j ≠ 0 ∧ j.natAbs.log2 < 9000
theorem op_fdivA : OpR X (binaryOp .FloorDiv) (rI CDivA fun i j => .int (i.fdiv j)) := opI fun i j _ _ _ _ _ hc q => PyProof.Rows.floordiv_int hc.1 q (.inl (PyProof.noPylong_of_log2 hc.2))
theorem w_divA {i j : Int} {P : Dt → Prop} (hc : CDivA i j) (p : P (.int (i.fdiv j))) : W2 X R (binaryOp .FloorDiv) (.int i) (.int j) P := w2_int op_fdivA hc p
theorem w_pow {i j : Int} {P : Dt → Prop} (hc : CPow i j) (p : P (.int (i ^ j.toNat))) : W2 X R (binaryOp .Pow) (.int i) (.int j) P := w2_int op_pow hc p
theorem w_neg {i : Int} {P : Dt → Prop} (p : P (.int (-i))) : W1 X R (unaryOp .USub) (.int i) P := fun F H x Q w rx c => unOf.of un_neg ⟨i, rp_int.mp rx, c.here w (rp_int.mpr rfl) p⟩
theorem w_lt {i j : Int} {P : Dt → Prop} (p : P (.bl (decide (i < j)))) : W2 X R (compareOp .Lt) (.int i) (.int j) P := w2_bl0 op_lt p
theorem w_le {i j : Int} {P : Dt → Prop} (p : P (.bl (decide (i ≤ j)))) : W2 X R (compareOp .LtE) (.int i) (.int j) P := w2_bl0 op_le p
theorem w_gt {i j : Int} {P : Dt → Prop} (p : P (.bl (decide (j < i)))) : W2 X R (compareOp .Gt) (.int i) (.int j) P := w2_bl0 op_gt p
theorem w_ge {i j : Int} {P : Dt → Prop} (p : P (.bl (decide (j ≤ i)))) : W2 X R (compareOp .GtE) (.int i) (.int j) P := w2_bl0 op_ge p
/-- the scalars -/
def scV : Dt → Option V
  | .non => some .non | .bl b => some (.bl b) | .int i => some (.int i) | .str x => some (.str x) | _ => none
theorem rp_sc {K : PySem.W.Frag} {F : Hp} {d : Dt} {v x : V} (h : scV d = some v) (r : Rp K F d x) : x = v := by
  cases d with
  | non => cases h; exact rp_non.mp r
  | bl b => cases h; exact rp_bl.mp r
  | int i => cases h; exact rp_int.mp r
  | str s => cases h; exact rp_str.mp r
  | _ => cases h
theorem w_eqS {a b : Dt} {u v : V} {P : Dt → Prop} (ha : scV a = some u) (hb : scV b = some v) (hs : scal u v = true) (p : P (.bl (decide (u = v)))) : W2 X R (compareOp .Eq) a b P := fun F H x y Q w rx ry c => by
  rw [rp_sc ha rx, rp_sc hb ry]
  exact opOf.of op_eq ⟨hs, c.here w (rp_bl.mpr rfl) p⟩
theorem w_neS {a b : Dt} {u v : V} {P : Dt → Prop} (ha : scV a = some u) (hb : scV b = some v) (hs : scal u v = true) (p : P (.bl (!decide (u = v)))) : W2 X R (compareOp .NotEq) a b P := fun F H x y Q w rx ry c => by
  rw [rp_sc ha rx, rp_sc hb ry]
  exact opOf.of op_ne ⟨hs, c.here w (rp_bl.mpr rfl) p⟩
theorem vint_eq {i j : Int} : decide (V.int i = V.int j) = decide (i = j) := by
  rw [Bool.eq_iff_iff]
  simp
theorem vstr_eq {i j : Str} : decide (V.str i = V.str j) = decide (i = j) := by
  rw [Bool.eq_iff_iff]
  simp
theorem vbl_eq {i j : Bool} : decide (V.bl i = V.bl j) = (i == j) := by
  rw [Bool.eq_iff_iff]
  simp
theorem w_eqI {i j : Int} {P : Dt → Prop} (p : P (.bl (decide (i = j)))) : W2 X R (compareOp .Eq) (.int i) (.int j) P := w_eqS (u := .int i) (v := .int j) rfl rfl rfl (by rw [vint_eq]; exact p)
theorem w_neI {i j : Int} {P : Dt → Prop} (p : P (.bl (!decide (i = j)))) : W2 X R (compareOp .NotEq) (.int i) (.int j) P := w_neS (u := .int i) (v := .int j) rfl rfl rfl (by rw [vint_eq]; exact p)
theorem w_eqT {i j : Str} {P : Dt → Prop} (p : P (.bl (decide (i = j)))) : W2 X R (compareOp .Eq) (.str i) (.str j) P := w_eqS (u := .str i) (v := .str j) rfl rfl rfl (by rw [vstr_eq]; exact p)
theorem w_neT {i j : Str} {P : Dt → Prop} (p : P (.bl (!decide (i = j)))) : W2 X R (compareOp .NotEq) (.str i) (.str j) P := w_neS (u := .str i) (v := .str j) rfl rfl rfl (by rw [vstr_eq]; exact p)
theorem w_eqB {i j : Bool} {P : Dt → Prop} (p : P (.bl (i == j))) : W2 X R (compareOp .Eq) (.bl i) (.bl j) P := w_eqS (u := .bl i) (v := .bl j) rfl rfl rfl (by rw [vbl_eq]; exact p)
theorem w_neB {i j : Bool} {P : Dt → Prop} (p : P (.bl (!(i == j)))) : W2 X R (compareOp .NotEq) (.bl i) (.bl j) P := w_neS (u := .bl i) (v := .bl j) rfl rfl rfl (by rw [vbl_eq]; exact p)

/-! ### subscripts -/
@[irreducible] def ixOf (X : Cx) : R2 := fun x y H Q => ∀ (value slice : Expr) pins s σ v u, Inv X pins σ H s → RelV x v → RelV y u → subscripted slice false v u = operate [v, u] (getItem v u) → wpAny (model X.prog X.w) X.A (PyProof.Rows.subscriptTail value slice v u) (EP X pins σ Q) X.xe s
theorem ix_w : IxR X (ixOf X) := fun value slice pins s σ H x y v u Q I rx ry h hs => by unfold ixOf at h; exact h value slice pins s σ v u I rx ry hs
theorem ixOf.of {r : R2} {x y : V} {H : Hp} {Q : VK} (h : IxR X r) (q : r x y H Q) : ixOf X x y H Q := by unfold ixOf; exact fun value slice pins s σ v u I rx ry hs => h value slice pins s σ H x y v u Q I rx ry q hs
def WI (X : Cx) (R : Reg) (a b : Dt) (P : Dt → Prop) : Prop := ∀ F H x y Q, Wf R F H → Rp X.K F a x → Rp X.K F b y → Ct X.K R F H P Q → ixOf X x y H Q
theorem e_ix {a b : Expr} {P : Dt → Prop} (h : E X R G a fun d1 => E X R G b fun d2 => WI X R d1 d2 P) (hs : PlainIx b := by intro _ _; rfl) : E X R G (.Subscript a b pos) P := fun σ F H Q ty c =>
  tOf.of (pe_ix ix_w pe_w pe_w hs) (h σ F H _ ty fun v F1 H1 d1 ex1 r1 h2 => h2 σ F1 H1 _ (ty.ext ex1) fun w F2 H2 d2 ex2 r2 h3 => h3 F2 H2 v w Q ex2.wf (r1.mono ex2.ff) r2 (c.step (ex1.trans ex2)))
theorem atI_map {α β : Type} {f : α → β} {xs : List α} {i : Int} {v : α} (h : atI xs i = some v) : atI (xs.map f) i = some (f v) := by
  unfold atI at h ⊢
  rw [List.length_map]
  cases q : ixN xs.length i with
  | none => rw [q] at h; simp at h
  | some j =>
    rw [q] at h
    simp only [Option.bind_some] at h ⊢
    rw [List.getElem?_map, h]
    rfl
theorem RpL.at {K : PySem.W.Frag} {F : Hp} {ds : List Dt} {vs : List V} {i : Int} {d : Dt} (r : RpL K F ds vs) (h : atI ds i = some d) : ∃ v, atI vs i = some v ∧ Rp K F d v := by
  unfold atI at h ⊢
  rw [← r.length]
  cases q : ixN ds.length i with
  | none => rw [q] at h; simp at h
  | some j =>
    rw [q] at h
    simp only [Option.bind_some] at h ⊢
    exact r.get h
theorem wi_tup {ds : List Dt} {i : Int} {d : Dt} {P : Dt → Prop} (h : atI ds i = some d) (p : P d) : WI X R (.tup ds) (.int i) P := fun F H x y Q w rx ry c => by
  obtain ⟨a, vs, rfl, sq, rl⟩ := rp_tup.mp rx
  obtain ⟨v, e, r⟩ := rl.at h
  exact ixOf.of ix_tup ⟨a, vs, i, v, rfl, rp_int.mp ry, sq_t w.fh sq, e, c.here w r p⟩
theorem wi_lst {ds : List Dt} {i : Int} {d : Dt} {P : Dt → Prop} (h : atI ds i = some d) (p : P d) : WI X R (.lst ds) (.int i) P := fun F H x y Q w rx ry c => by
  obtain ⟨a, vs, rfl, sq, rl⟩ := rp_lst.mp rx
  obtain ⟨v, e, r⟩ := rl.at h
  exact ixOf.of ix_list ⟨a, vs, i, v, rfl, rp_int.mp ry, SqL.of (w.fh _ _ sq), e, c.here w r p⟩
theorem wi_str {z : Str} {i : Int} {k : Nat} {P : Dt → Prop} (hz : z.length ≤ sizeLine) (h : atI z.cps.toList i = some k) (p : P (.str ⟨#[k]⟩)) : WI X R (.str z) (.int i) P := fun F H x y Q w rx ry c =>
  ixOf.of ix_str ⟨z, i, k, rp_str.mp rx, rp_int.mp ry, hz, h, c.here w (rp_str.mpr rfl) p⟩
theorem wi_tup0 {d : Dt} {ds : List Dt} {P : Dt → Prop} (p : P d) : WI X R (.tup (d :: ds)) (.int 0) P := wi_tup (atI_nat (j := 0) rfl) p
theorem wi_tup1 {d e : Dt} {ds : List Dt} {P : Dt → Prop} (p : P e) : WI X R (.tup (d :: e :: ds)) (.int 1) P := wi_tup (atI_nat (j := 1) rfl) p
theorem wi_tup2 {d e f : Dt} {ds : List Dt} {P : Dt → Prop} (p : P f) : WI X R (.tup (d :: e :: f :: ds)) (.int 2) P := wi_tup (atI_nat (j := 2) rfl) p

/-! ### calls of what the machine brings -/
theorem e_callB {x : Str} {id : String} {e : Expr} {es : List Expr} {p : Pos} {P : Dt → Prop} (hg : Gl X x) (hm : X.mg x = none) (hv : bootBuiltins x = some (.builtin id)) (h : EA X R G (e :: es) fun ds => WC X R (.builtin id) ds P)
    (hn : x ≠ "__name__" := by decide) (hdb : (x == ("__debug__" : Str)) = false := by decide) (he : starEach (e :: es) X.env = (false, eval e X.env) :: starEach es X.env := by rfl) (hpl : (backTo pos (starEach es X.env)).any (·.1) = false := by rfl) : E X R G (.Call (.Name x p) (e :: es) [] pos) P := fun σ F H Q ty c =>
  tOf.of (pe_callB cr_w hg hm hv pa_w hn hdb he hpl) (h σ F H _ ty fun vs F1 H1 ds ex1 r1 h2 => h2 F1 H1 vs Q ex1.wf r1 (c.step ex1))
theorem e_callTy {x : Str} {id : String} {e : Expr} {es : List Expr} {p : Pos} {P : Dt → Prop} (hg : Gl X x) (hm : X.mg x = none) (hv : bootBuiltins x = some (.type id)) (h : EA X R G (e :: es) fun ds => WC X R (.type id) ds P)
    (hn : x ≠ "__name__" := by decide) (hdb : (x == ("__debug__" : Str)) = false := by decide) (he : starEach (e :: es) X.env = (false, eval e X.env) :: starEach es X.env := by rfl) (hpl : (backTo pos (starEach es X.env)).any (·.1) = false := by rfl) : E X R G (.Call (.Name x p) (e :: es) [] pos) P := fun σ F H Q ty c =>
  tOf.of (pe_callTy cr_w hg hm hv pa_w hn hdb he hpl) (h σ F H _ ty fun vs F1 H1 ds ex1 r1 h2 => h2 F1 H1 vs Q ex1.wf r1 (c.step ex1))
theorem RpL.one {K : PySem.W.Frag} {F : Hp} {d : Dt} {vs : List V} (h : RpL K F [d] vs) : ∃ v, vs = [v] ∧ Rp K F d v := by
  obtain ⟨v, r, rfl, h1, h2⟩ := h.of_cons
  rw [h2.of_nil]
  exact ⟨v, rfl, h1⟩
theorem RpL.two {K : PySem.W.Frag} {F : Hp} {d e : Dt} {vs : List V} (h : RpL K F [d, e] vs) : ∃ v w, vs = [v, w] ∧ Rp K F d v ∧ Rp K F e w := by
  obtain ⟨v, r, rfl, h1, h2⟩ := h.of_cons
  obtain ⟨w, rfl, h3⟩ := h2.one
  exact ⟨v, w, rfl, h1, h3⟩
def iabs (i : Int) : Int := if i < 0 then -i else i
theorem iabs_eq (i : Int) : iabs i = (i.natAbs : Int) := by
  unfold iabs
  split <;> omega
theorem wc_abs {i : Int} {P : Dt → Prop} (p : P (.int (i.natAbs : Int))) : WC X R (.builtin "abs") [.int i] P := fun F H xs Q w r c => by
  obtain ⟨v, rfl, h1⟩ := r.one
  rw [rp_int.mp h1]
  refine crOf.of call_abs ⟨i, rfl, ?_⟩
  have q := c.here w (rp_int.mpr rfl) (v := .int (iabs i)) (d := .int (iabs i)) (by rw [iabs_eq]; exact p)
  exact q
theorem wc_int {i : Int} {P : Dt → Prop} (p : P (.int i)) : WC X R (.type "int") [.int i] P := fun F H xs Q w r c => by
  obtain ⟨v, rfl, h1⟩ := r.one
  rw [rp_int.mp h1]
  exact crOf.of call_int1 (.inl ⟨i, rfl, c.here w (rp_int.mpr rfl) p⟩)
theorem wc_len_lst {ds : List Dt} {P : Dt → Prop} (p : P (.int (ds.length : Int))) : WC X R (.builtin "len") [.lst ds] P := fun F H xs Q w r c => by
  obtain ⟨v, rfl, h1⟩ := r.one
  obtain ⟨a, vs, rfl, sq, rl⟩ := rp_lst.mp h1
  refine crOf.of call_len_seq ⟨a, vs, rfl, .inl (SqL.of (w.fh _ _ sq)), ?_⟩
  exact c.here w (d := .int (ds.length : Int)) (rp_int.mpr (by rw [rl.length])) p
theorem wc_len_tup {ds : List Dt} {P : Dt → Prop} (p : P (.int (ds.length : Int))) : WC X R (.builtin "len") [.tup ds] P := fun F H xs Q w r c => by
  obtain ⟨v, rfl, h1⟩ := r.one
  obtain ⟨a, vs, rfl, sq, rl⟩ := rp_tup.mp h1
  refine crOf.of call_len_seq ⟨a, vs, rfl, .inr (sq_t w.fh sq), ?_⟩
  exact c.here w (d := .int (ds.length : Int)) (rp_int.mpr (by rw [rl.length])) p
end
end VS
set_option Elab.async false
set_option linter.all false
set_option maxRecDepth 100000
namespace VS
open PySem PySem.Spec L2

/-! ### statements over data -/
structure Kt where
  nx : List Sl → Prop
  rt : Dt → Prop
  rn : Dt → Prop := fun _ => False
  bk : List Sl → Prop := fun _ => False
  ct : List Sl → Prop := fun _ => False
/-- from the entry F0, H0 on -/
structure Bs (R : Reg) (F0 H0 : Hp) (G : List Sl) (σ : St) (F H : Hp) : Prop where
  ext : Ext R F0 H0 F H
  fresh : ∀ o ∈ owns G σ, H0 o = none
  z : R.Z F0 H0
structure KOk (K : PySem.W.Frag) (R : Reg) (F0 H0 : Hp) (k : Kt) (D : Ends) : Prop where
  nx : ∀ G σ F H, k.nx G → Ty K R G σ F H → Bs R F0 H0 G σ F H → D.nx σ H
  rt : ∀ d v F H, k.rt d → Ext R F0 H0 F H → Rp K F d v → D.rt v H
  rn : ∀ d p F H, k.rn d → Ext R F0 H0 F H → H0 p = none → F p = none → OwO K F H p d → D.rt (.ref p) H
  bk : ∀ G σ F H, k.bk G → Ty K R G σ F H → Bs R F0 H0 G σ F H → D.bk σ H
  ct : ∀ G σ F H, k.ct G → Ty K R G σ F H → Bs R F0 H0 G σ F H → D.ct σ H
def S (X : Cx) (R : Reg) (ss : List Stmt) (G : List Sl) (k : Kt) : Prop := ∀ F0 H0 σ F H D, Ty X.K R G σ F H → Bs R F0 H0 G σ F H → KOk X.K R F0 H0 k D → sOf X ss D σ H
def S1 (X : Cx) (R : Reg) (st : Stmt) (G : List Sl) (k : Kt) : Prop := ∀ F0 H0 σ F H D, Ty X.K R G σ F H → Bs R F0 H0 G σ F H → KOk X.K R F0 H0 k D → s1Of X st D σ H
section
variable {X : Cx} {R : Reg} {G : List Sl} {pos : Pos} {k : Kt} {F0 H0 F H F1 H1 : Hp} {σ : St}
theorem Bs.step (b : Bs R F0 H0 G σ F H) (e : Ext R F H F1 H1) : Bs R F0 H0 G σ F1 H1 := ⟨b.ext.trans e, b.fresh, b.z⟩
/-- the entry moved on to where F stands -/
theorem Bs.here (b : Bs R F0 H0 G σ F H) : Bs R F H0 G σ F H := ⟨⟨b.ext.wf, .refl _, b.ext.hh, fun _ _ h => h⟩, b.fresh, R.zs _ _ _ b.ext.ff b.ext.fr b.z⟩
theorem Ext.back (a : Ext R F0 H0 F H) (b : Ext R F H0 F1 H1) : Ext R F0 H0 F1 H1 := ⟨b.wf, a.ff.trans b.ff, b.hh, fun x h n => b.fr x h (a.fr x h n)⟩
theorem Bs.back {G1 : List Sl} {σ1 : St} (a : Ext R F0 H0 F H) (b : Bs R F H0 G1 σ1 F1 H1) (hz : R.Z F0 H0) : Bs R F0 H0 G1 σ1 F1 H1 := ⟨a.back b.ext, b.fresh, hz⟩
theorem KOk.here {D : Ends} (c : KOk X.K R F0 H0 k D) (a : Ext R F0 H0 F H) (hz : R.Z F0 H0) : KOk X.K R F H0 k D :=
  ⟨fun G σ F1 H1 h ty b => c.nx G σ F1 H1 h ty (b.back a hz), fun d v F1 H1 h e r => c.rt d v F1 H1 h (a.back e) r, fun d p F1 H1 h e => c.rn d p F1 H1 h (a.back e), fun G σ F1 H1 h ty b => c.bk G σ F1 H1 h ty (b.back a hz), fun G σ F1 H1 h ty b => c.ct G σ F1 H1 h ty (b.back a hz)⟩

theorem s_nil (h : k.nx G) : S X R [] G k := fun F0 H0 σ F H D ty b c => sOf.of pss_nil (c.nx G σ F H h ty b)
theorem s_cons {st : Stmt} {ss : List Stmt} (h : S1 X R st G { k with nx := fun G' => S X R ss G' k }) : S X R (st :: ss) G k := fun F0 H0 σ F H D ty b c =>
  sOf.of (pss_cons ps_w pss_w) (h F0 H0 σ F H _ ty b ⟨fun G' σ' F' H' h' ty' b' => h' F0 H0 σ' F' H' D ty' b' c, c.rt, c.rn, c.bk, c.ct⟩)
theorem s_one {st : Stmt} (h : S1 X R st G k) : S X R [st] G k := fun F0 H0 σ F H D ty b c => sOf.of (pss_one ps_w) (h F0 H0 σ F H D ty b c)
/-- a word between a statement and the rest -/
theorem s_cut {st : Stmt} {ss : List Stmt} (M : List Sl → Prop) (h : S1 X R st G { k with nx := M }) (h2 : ∀ G', M G' → S X R ss G' k) : S X R (st :: ss) G k := fun F0 H0 σ F H D ty b c =>
  sOf.of (pss_cons ps_w pss_w) (h F0 H0 σ F H _ ty b ⟨fun G' σ' F' H' h' ty' b' => h2 G' h' F0 H0 σ' F' H' D ty' b' c, c.rt, c.rn, c.bk, c.ct⟩)
theorem S.imp {ss : List Stmt} {k' : Kt} (h : S X R ss G k) (h1 : ∀ G, k.nx G → k'.nx G) (h2 : ∀ d, k.rt d → k'.rt d) (h2n : ∀ d, k.rn d → k'.rn d) (h3 : ∀ G, k.bk G → k'.bk G) (h4 : ∀ G, k.ct G → k'.ct G) : S X R ss G k' := fun F0 H0 σ F H D ty b c =>
  h F0 H0 σ F H D ty b ⟨fun G σ F H z => c.nx G σ F H (h1 G z), fun d v F H z => c.rt d v F H (h2 d z), fun d p F H z => c.rn d p F H (h2n d z), fun G σ F H z => c.bk G σ F H (h3 G z), fun G σ F H z => c.ct G σ F H (h4 G z)⟩
theorem Bs.set (b : Bs R F0 H0 G σ F H) (i : Nat) {d : Dt} {x : V} : Bs R F0 H0 (G.set i (.sh d)) (σ.set i (some x)) F H := ⟨b.ext, fun o ho => b.fresh o ((owns_set_sub (g := .sh d) (v := some x) i (fun _ z => nomatch z)).subset ho), b.z⟩

/-- name = e -/
theorem s_asg (i : Nat) {x : Str} {e : Expr} {pos' : Pos} (hN : X.N.Nodup) (hi : X.N[i]? = some x) (hx : Loc X.env.scope x) (h : E X R G e fun d => k.nx (G.set i (.sh d)))
    (hs : swapsWith e (some (.Name x pos')) pos.line X.env = pure false := by rfl) (hf : X.fn x = true ∨ X.env.scope.names.lookup x = some .local := by first | exact .inl rfl | exact .inr rfl | assumption) : S1 X R (.Assign [.Name x pos'] e pos) G k := fun F0 H0 σ F H D ty b c =>
  s1Of.of (ps_set hN hi hx pe_w hs hf) (h σ F H _ ty fun v F1 H1 d ex r p => c.nx _ _ F1 H1 p ((ty.ext ex).set i r) ((b.step ex).set i))
theorem s_expr {e : Expr} (h : E X R G e fun _ => k.nx G) (hs : swapsWith e none pos.line X.env = pure false := by rfl) : S1 X R (.Expr e pos) G k := fun F0 H0 σ F H D ty b c =>
  s1Of.of (ps_expr pe_w hs) (h σ F H _ ty fun v F1 H1 d ex r p => c.nx _ _ F1 H1 p (ty.ext ex) (b.step ex))
theorem s_pass (h : k.nx G) : S1 X R (.Pass pos) G k := fun F0 H0 σ F H D ty b c => s1Of.of ps_pass (c.nx G σ F H h ty b)
theorem s_brk (h : k.bk G) : S1 X R (.Break pos) G k := fun F0 H0 σ F H D ty b c => s1Of.of ps_break (c.bk G σ F H h ty b)
theorem s_cont (h : k.ct G) : S1 X R (.Continue pos) G k := fun F0 H0 σ F H D ty b c => s1Of.of ps_continue (c.ct G σ F H h ty b)
theorem s_if {t : Expr} {a b : List Stmt} (h : T X R G t fun c => if c = true then S X R a G k else S X R b G k) : S1 X R (.If t a b pos) G k := fun F0 H0 σ F H D ty bs c =>
  s1Of.of (ps_if pt_w pss_w pss_w) (h σ F H _ ty fun q F1 H1 ex p => by
    cases q with
    | true => rw [if_pos rfl] at p ⊢; exact p F0 H0 σ F1 H1 D (ty.ext ex) (bs.step ex) c
    | false => rw [if_neg (by decide)] at p ⊢; exact p F0 H0 σ F1 H1 D (ty.ext ex) (bs.step ex) c)

/-! ### one's own things given away -/
def vis : Sl → Sl
  | .ow d => .sh d
  | g => g
theorem owo_rp {K : PySem.W.Frag} {F H F1 : Hp} {o : Addr} {d : Dt} (h : OwO K F H o d) (ff : Same F F1) (ho : F1 o = H o) : Rp K F1 d (.ref o) := by
  rcases h.kinds with ⟨xs, rfl⟩ | ⟨ks, xs, rfl⟩ | ⟨ks, xs, rfl⟩ | ⟨C, ns, xs, rfl⟩ | ⟨a, C, ns, xs, rfl⟩
  · obtain ⟨vs, h1, r⟩ := h
    exact rp_lst.mpr ⟨o, vs, rfl, by rw [ho]; exact h1, r.mono ff⟩
  · obtain ⟨vs, h1, l, r⟩ := h
    exact rp_dT.mpr ⟨o, vs, rfl, .inl (by rw [ho]; exact h1), l, r.mono ff⟩
  · obtain ⟨vs, h1, l, r⟩ := h
    simp only [Rp]
    exact ⟨o, vs, rfl, .inl (by rw [ho]; exact h1), l, r.mono ff⟩
  · obtain ⟨dx, vs, h1, l, r⟩ := h
    exact rp_obj.mpr ⟨o, dx, vs, rfl, by rw [ho]; exact h1, l, r.mono ff⟩
  · obtain ⟨e, dx, vs, h1, l, r⟩ := h
    simp only [Rp]
    exact ⟨by rw [e], o, dx, vs, rfl, by rw [ho]; exact h1, l, r.mono ff⟩
theorem slsOk_vis {K : PySem.W.Frag} {F H F1 : Hp} {G : List Sl} {σ : St} (h : SlsOk K R F H G σ) (ff : Same F F1) (ho : ∀ o ∈ owns G σ, F1 o = H o) : SlsOk K R F1 H (G.map vis) σ := by
  induction h with
  | nil => exact .nil
  | @cons g v Gs vs h t ih =>
    refine .cons ?_ (ih fun o q => ho o ?_)
    · cases g with
      | no => trivial
      | sh d => obtain ⟨x, e, r⟩ := h; exact ⟨x, e, r.mono ff⟩
      | ow d =>
        obtain ⟨o, e, h1, h2, h3⟩ := h
        subst e
        exact ⟨.ref o, rfl, owo_rp h3 ff (ho o (by simp [owns]))⟩
    · cases g with
      | no => simpa [owns] using q
      | sh d => simpa [owns] using q
      | ow d =>
        cases v with
        | none => simpa [owns] using q
        | some x => cases x <;> simp [owns, q]
theorem owns_vis (G : List Sl) (σ : St) : owns (G.map vis) σ = [] := by
  induction G generalizing σ with
  | nil => simp [owns]
  | cons g G ih =>
    cases σ with
    | nil => cases g <;> simp [owns, vis]
    | cons v vs => cases g <;> simp [owns, vis, ih]
theorem Ty.frz {K : PySem.W.Frag} (ty : Ty K R G σ F H) (b : Bs R F0 H0 G σ F H) : ∃ F1, Ty K R (G.map vis) σ F1 H ∧ Bs R F0 H0 (G.map vis) σ F1 H ∧ Same F F1 := by
  have hno : ∀ o ∈ owns G σ, F o = none ∧ ¬ R.M o ∧ H o ≠ none := fun o ho => by
    obtain ⟨i, d, e1, e2⟩ := owns_mem ho
    obtain ⟨v, e3, p, e4, h1, h2, h3⟩ := ty.sl.get e1
    rw [e2] at e3
    cases e3
    cases e4
    exact ⟨h1, h2, h3.some⟩
  have ff : Same F (fun a => if a ∈ owns G σ then H a else F a) := fun a o h => by
    show (if a ∈ owns G σ then H a else F a) = some o
    by_cases q : a ∈ owns G σ
    · rw [(hno a q).1] at h; cases h
    · rw [if_neg q]; exact h
  have wf : Wf R (fun a => if a ∈ owns G σ then H a else F a) H := by
    refine ⟨fun a o h => ?_, fun a m => ?_, ty.wf.oc, ty.wf.b⟩
    · by_cases q : a ∈ owns G σ
      · have h' : (if a ∈ owns G σ then H a else F a) = some o := h
        rw [if_pos q] at h'; exact h'
      · have h' : (if a ∈ owns G σ then H a else F a) = some o := h
        rw [if_neg q] at h'; exact ty.wf.fh a o h'
    · show (if a ∈ owns G σ then H a else F a) = none
      by_cases q : a ∈ owns G σ
      · exact absurd m (hno a q).2.1
      · rw [if_neg q]; exact ty.wf.off a m
  refine ⟨_, ⟨wf, slsOk_vis ty.sl ff fun o ho => if_pos ho, by rw [owns_vis]; exact .nil⟩, ⟨⟨wf, b.ext.ff.trans ff, b.ext.hh, fun a h n => ?_⟩, (by rw [owns_vis]; intro o ho; cases ho), b.z⟩, ff⟩
  show (if a ∈ owns G σ then H a else F a) = none
  by_cases q : a ∈ owns G σ
  · exact absurd (b.fresh a q) h
  · rw [if_neg q]; exact b.ext.fr a h n
/-- from here on nothing is one's own -/
theorem s_frz {ss : List Stmt} (h : S X R ss (G.map vis) k) : S X R ss G k := fun F0 H0 σ F H D ty b c => by
  obtain ⟨F1, ty1, b1, ff⟩ := ty.frz b
  exact h F0 H0 σ F1 H D ty1 b1 c
theorem s1_frz {st : Stmt} (h : S1 X R st (G.map vis) k) : S1 X R st G k := fun F0 H0 σ F H D ty b c => by
  obtain ⟨F1, ty1, b1, ff⟩ := ty.frz b
  exact h F0 H0 σ F1 H D ty1 b1 c
theorem s_ret {e : Expr} (h : E X R (G.map vis) e k.rt) : S1 X R (.Return (some e) pos) G k := s1_frz fun F0 H0 σ F H D ty b c =>
  s1Of.of (ps_ret pe_w) (h σ F H _ ty fun v F1 H1 d ex r p => c.rt d v F1 H1 p (b.ext.trans ex) r)
theorem s_retN (h : k.rt .non) : S1 X R (.Return none pos) G k := fun F0 H0 σ F H D ty b c => s1Of.of ps_retN (c.rt .non .non F H h b.ext (rp_non.mpr rfl))

/-! ### while -/
theorem s_while {t : Expr} {body : List Stmt} (I : Nat → List Sl → Prop) (m0 : Nat) (h0 : I m0 G) (hp : PassesOwn (model X.prog X.w) X.A X.env X.xe)
    (hs : ∀ m G, I m G → T X R G t fun c => if c = true then S X R body G { k with nx := fun G' => ∃ m', m' < m ∧ I m' G', ct := fun G' => ∃ m', m' < m ∧ I m' G', bk := k.nx } else k.nx G) : S1 X R (.While t body [] pos) G k := fun F0 H0 σ F H D ty b c =>
  s1Of.of (ps_while hp pt_w pss_w) ⟨fun m σ H => ∃ G F, I m G ∧ Ty X.K R G σ F H ∧ Bs R F0 H0 G σ F H, ⟨m0, G, F, h0, ty, b⟩, fun m σ H ⟨G, F, hI, ty, b⟩ => by
    refine hs m G hI σ F H _ ty fun q F1 H1 ex p => ?_
    cases q with
    | false => rw [if_neg (by decide)] at p ⊢; exact c.nx G σ F1 H1 p (ty.ext ex) (b.step ex)
    | true =>
      rw [if_pos rfl] at p ⊢
      refine ⟨_, fun σ' H' z => z, p F0 H0 σ F1 H1 _ (ty.ext ex) (b.step ex) ⟨fun G' σ' F' H' ⟨m', hm, z⟩ ty' b' => ⟨m', hm, G', F', z, ty', b'⟩, c.rt, c.rn, c.nx, fun G' σ' F' H' ⟨m', hm, z⟩ ty' b' => ⟨m', hm, G', F', z, ty', b'⟩⟩⟩⟩
/-- a, b = x, y -/
theorem s_par (i j : Nat) {x y : Str} {a b : Expr} {px py pt : Pos} {kt k2 pt2} (hc : X.calm = true) (hN : X.N.Nodup) (hi : X.N[i]? = some x) (hj : X.N[j]? = some y) (hij : i ≠ j)
    (hx : X.env.scope.names.lookup x = some .local) (hy : X.env.scope.names.lookup y = some .local) (h : EA X R G [a, b] fun ds => ∃ d e, ds = [d, e] ∧ k.nx ((G.set i (.sh d)).set j (.sh e)))
    (hw : swappedStores [.Tuple [.Name x px, .Name y py] kt pt] (.Tuple [a, b] k2 pt2) X.env = pure (some [x, y]))
    (hs : swapsWithSole [.Tuple [.Name x px, .Name y py] kt pt] (.Tuple [a, b] k2 pt2) pos.line X.env = pure false := by rfl) :
    S1 X R (.Assign [.Tuple [.Name x px, .Name y py] kt pt] (.Tuple [a, b] k2 pt2) pos) G k := fun F0 H0 σ F H D ty bs c =>
  s1Of.of (ps_par hc hN hi hj hij hx hy pa_w hw hs) (h σ F H _ ty fun vs F1 H1 ds ex r ⟨d, e, q, p⟩ => by
    subst q
    obtain ⟨v, w, rfl, r1, r2⟩ := r.two
    exact ⟨v, w, rfl, c.nx _ _ F1 H1 p (((ty.ext ex).set i r1).set j r2) (((bs.step ex).set i).set j)⟩)
end

/-! ### defs -/
/-- an error that leaves: its class, its own attributes -/
abbrev XD := Addr → List Str → List Dt → Prop
/-- a def's promise over data: the arguments, what is wanted of the value, of an error -/
abbrev Ph := List Dt → (Dt → Prop) → XD → Prop
def XOk (K : PySem.W.Frag) (R : Reg) (F H : Hp) (x : XD) (E : XK) : Prop := (∀ C ns ds dx vs F' H', x C ns ds → Ext R F H F' H' → H' dx = some (.xd (ns.zip vs)) → ns.length = vs.length → RpL K F' ds vs → H dx = none → E (.ref C) (some dx) H') ∧ (∀ C F' H', x C [] [] → Ext R F H F' H' → E (.ref C) none H')
def spD (K : PySem.W.Frag) (n : Nat) (φ : Ph) : Sp := fun vs H Q E => vs.length = n ∧ ∃ F ds q x, Same F H ∧ RpL K F ds vs ∧ φ ds q x ∧ (∀ v F' H' d, Ext .nil F H F' H' → Rp K F' d v → q d → Q v H') ∧ XOk K .nil F H x E
structure Fn (P : Program) (w : World) (K : PySem.W.Frag) (mg : Str → Option Value) (base : Heap) (k : Nat) (x : Str) (ps : List Str) (dvs : List V) (sp : Sp) : Prop where
  ex : ∃ (f : Addr) (fd : FuncData) (ds : List Value), mg x = some (.ref f) ∧ PySem.W.keepIn K (.ref f) = true ∧ Binds K fd ps ds ∧ Vals dvs ds ∧ FnOk P w K mg base (L2.CX P w) k f fd ps sp
theorem Fn.mono {P : Program} {w : World} {K : PySem.W.Frag} {mg : Str → Option Value} {base : Heap} {j k : Nat} {x : Str} {ps : List Str} {dvs : List V} {sp : Sp} (F : Fn P w K mg base j x ps dvs sp) (h : j ≤ k) : Fn P w K mg base k x ps dvs sp := by
  obtain ⟨f, fd, ds, a, b, c, d, e⟩ := F.ex
  exact ⟨f, fd, ds, a, b, c, d, e.mono h⟩
theorem wf_nil {F H : Hp} (s : Same F H) : Wf .nil F H := ⟨s, fun _ z => z.elim, fun _ z => z.elim, trivial⟩
theorem Ext.of_nil {R : Reg} {F H F' H' : Hp} (w : Wf R F H) (e : Ext .nil F H F' H') : Ext R F H F' H' := w.grow (fun a o h => e.hh a o (fun z => z) h) e.ff e.wf.fh e.fr
section
variable {X : Cx} {R : Reg} {G : List Sl} {pos : Pos}
/-- f(e, ..): nothing is raised -/
theorem e_call {x : Str} {ps : List Str} {dvs : List V} {dds : List Dt} {φ : Ph} {n j : Nat} {e : Expr} {es : List Expr} {p : Pos} {P : Dt → Prop} (F : Fn X.prog X.w X.K X.mg X.base j x ps dvs (spD X.K n φ)) (hr : Room j X.A) (hg : Gl X x) (hd : ∀ F, RpL X.K F dds dvs)
    (h : EA X R G (e :: es) fun ds => (ds ++ dds).length = n ∧ φ (ds ++ dds) P fun _ _ _ => False)
    (hdb : (x == ("__debug__" : Str)) = false := by decide) (he : starEach (e :: es) X.env = (false, eval e X.env) :: starEach es X.env := by rfl) (hpl : (backTo pos (starEach es X.env)).any (·.1) = false := by rfl) : E X R G (.Call (.Name x p) (e :: es) [] pos) P := fun σ F' H Q ty c => by
  obtain ⟨f, fd, ds, a1, a2, a3, a4, a5⟩ := F.ex
  refine tOf.of (pe_call a5 hr hg a1 a2 a3 a4 passL pa_w hdb he hpl) (h σ F' H _ ty fun vs F1 H1 ds ex r ⟨hl, hφ⟩ => ?_)
  have rr : RpL X.K F1 (ds ++ dds) (vs ++ dvs) := r.append (hd F1)
  exact ⟨by rw [← hl]; exact rr.length.symm, F1, _, P, fun _ _ _ => False, ex.wf.fh, rr, hφ, fun v F2 H2 d ex2 r2 p => c v F2 H2 d (ex.trans (Ext.of_nil ex.wf ex2)) r2 p, ⟨fun _ _ _ _ _ _ _ z => z.elim, fun _ _ _ z => z.elim⟩⟩
theorem e_call0 {x : Str} {ps : List Str} {φ : Ph} {n j : Nat} {p : Pos} {P : Dt → Prop} (F : Fn X.prog X.w X.K X.mg X.base j x ps [] (spD X.K n φ)) (hr : Room j X.A) (hg : Gl X x) (hl : n = 0) (h : φ [] P fun _ _ _ => False)
    (hdb : (x == ("__debug__" : Str)) = false := by decide) : E X R G (.Call (.Name x p) [] [] pos) P := fun σ F' H Q ty c => by
  obtain ⟨f, fd, ds, a1, a2, a3, a4, a5⟩ := F.ex
  refine tOf.of (pe_call0 a5 hr hg a1 a2 a3 a4 passL hdb) ?_
  exact ⟨by rw [hl]; rfl, F', _, P, fun _ _ _ => False, ty.wf.fh, .nil, h, fun v F2 H2 d ex2 r2 p => c v F2 H2 d (Ext.of_nil ty.wf ex2) r2 p, ⟨fun _ _ _ _ _ _ _ z => z.elim, fun _ _ _ z => z.elim⟩⟩
end

/-! ### a def keeps its promise -/
def st0 (N : List Str) (ds : List Dt) : List Sl := ds.map .sh ++ List.replicate (N.length - ds.length) .no
theorem sls0 {K : PySem.W.Frag} {R : Reg} {F H : Hp} : ∀ {ds : List Dt} {vs : List V} (n : Nat), RpL K F ds vs → SlsOk K R F H (ds.map .sh ++ List.replicate n .no) (vs.map some ++ List.replicate n none)
  | [], _, n, r => by
    rw [r.of_nil]
    simp only [List.map_nil, List.nil_append]
    induction n with
    | zero => exact .nil
    | succ n ih => exact .cons trivial ih
  | d :: ds, _, n, r => by
    obtain ⟨v, t, rfl, h1, h2⟩ := r.of_cons
    exact .cons ⟨v, rfl, h1⟩ (sls0 n h2)
theorem owns0 : ∀ (ds : List Dt) (σ : St) (n : Nat), owns (ds.map Sl.sh ++ List.replicate n .no) σ = []
  | [], σ, n => by
    simp only [List.map_nil, List.nil_append]
    induction n generalizing σ with
    | zero => simp [owns]
    | succ n ih =>
      cases σ with
      | nil => simp [owns, List.replicate_succ]
      | cons v vs => simp [owns, List.replicate_succ, ih]
  | d :: ds, [], n => by simp [owns]
  | d :: ds, v :: vs, n => by simp [owns, owns0 ds vs n]
section
variable {P : Program} {w : World} {K : PySem.W.Frag} {mg : Str → Option Value} {base : Heap}
/-- a def of the text as it stands behind the top -/
abbrev FD (K : PySem.W.Frag) (x qual : Str) (st : Stmt) (dvs : List V) (kws : List (Str × V)) (f : Addr) (fd : FuncData) : Prop := FunD K x qual (defArgs st) (defBody st) (defScope st) dvs kws f fd
theorem fn_ok {x qual : Str} {st : Stmt} {f : Addr} {fd : FuncData} {dvs : List V} {kws : List (Str × V)} {N ps : List Str} {k n : Nat} {φ : Ph} (F : FD K x qual st dvs kws f fd) (Sc : FnScope N ps (defScope st)) (hn : n = ps.length)
    (h : ∀ (X : Cx) (cdv : Value) (A : Around) (outer : List Env) (s : Shared) (H : Hp) (E : XK) (ds : List Dt) (q : Dt → Prop) (xd : XD), X = cxOf (L2.CX P w) P w K mg base N qual (defScope st) f cdv A outer s H E → Room k X.A → φ ds q xd → ds.length = n →
      (∀ F, Wf .nil F H → XOk K .nil F H xd E → S X .nil (defBody st) (st0 N ds) { nx := fun _ => q .non, rt := q })) : FnOk P w K mg base (L2.CX P w) (k + 1) f fd ps (spD K n φ) := by
  refine FunD.ok F Sc (fun vs H Q E hh => by rw [hh.1, hn]) fun cdv A outer s H vs Q E hr hh => ?_
  obtain ⟨hl, F0, ds, q, xd, sf, r, hφ, hq, hx⟩ := hh
  have hS := h _ cdv A outer s H E ds q xd rfl hr hφ (by rw [r.length, hl]) F0 (wf_nil sf) hx
  refine ⟨_, pss_w, hS F0 H _ F0 H _ ⟨wf_nil sf, ?_, by unfold st0; rw [owns0]; exact .nil⟩ ⟨.refl (wf_nil sf), (by unfold st0; rw [owns0]; intro o ho; cases ho), trivial⟩ ⟨fun G σ F1 H1 z _ b => hq .non F1 H1 .non b.ext (rp_non.mpr rfl) z, fun d v F1 H1 z e rd => hq v F1 H1 d e rd z, fun _ _ _ _ z => z.elim, fun _ _ _ _ z => z.elim, fun _ _ _ _ z => z.elim⟩⟩
  unfold st0 L2.start
  rw [r.length]
  exact sls0 _ r
end
end VS
set_option Elab.async false
set_option linter.all false
set_option maxRecDepth 100000
namespace VS
open PySem PySem.Spec L2

/-! ### what is walked, over data -/
@[irreducible] def tiOf (X : Cx) (tg iter : Expr) : TI := fun σ H R => ∀ pins s, Inv X pins σ H s → wpAny (model X.prog X.w) X.A (eval iter X.env) (fun v s1 => wpAny (model X.prog X.w) X.A (pyIter v) (PIE X pins σ tg R) X.xe s1) X.xe s
@[irreducible] def tgOf (X : Cx) (tg : Expr) : TG := fun v σ H Q => ∀ pins s u, Inv X pins σ H s → RelV v u → wpAny (model X.prog X.w) X.A (assign tg X.env u) (fun _ s' => ∃ σ' H', Inv X pins σ' H' s' ∧ Q σ' H') X.xe s
theorem pi_w {X : Cx} {tg iter : Expr} : PI X tg iter (tiOf X tg iter) := ⟨fun pins s σ H R I h => by unfold tiOf at h; exact h pins s I⟩
theorem pg_w {X : Cx} {tg : Expr} : PG X tg (tgOf X tg) := ⟨fun pins s σ H v u Q I r h => by unfold tgOf at h; exact h pins s u I r⟩
theorem tiOf.of {X : Cx} {tg iter : Expr} {t : TI} {σ : St} {H : Hp} {R : It → Hp → Prop} (h : PI X tg iter t) (q : t σ H R) : tiOf X tg iter σ H R := by unfold tiOf; exact fun pins s I => h.run pins s σ H R I q
theorem tgOf.of {X : Cx} {tg : Expr} {t : TG} {v : V} {σ : St} {H : Hp} {Q : St → Hp → Prop} (h : PG X tg t) (q : t v σ H Q) : tgOf X tg v σ H Q := by unfold tgOf; exact fun pins s u I r => h.run pins s σ H v u Q I r q
/-- the iterator J gives out the data ds, where F1 is known -/
def Itd (K : PySem.W.Frag) (R : Reg) (F1 : Hp) (J : It) (ds : List Dt) : Prop := ∀ F H, Same F1 F → Wf R F H → (∀ i, ds.length ≤ i → J.stop i H) ∧
  ∀ i d, ds[i]? = some d → J.go i H ∧ ∀ x H', J.yld i H x H' → ∃ F', Ext R F H F' H' ∧ Rp K F' d x
def I (X : Cx) (R : Reg) (G : List Sl) (tg iter : Expr) (P : List Dt → Prop) : Prop := ∀ σ F H Q, Ty X.K R G σ F H → (∀ J F' H' ds, Ext R F H F' H' → Itd X.K R F' J ds → P ds → Q J H') → tiOf X tg iter σ H Q
/-- slots set, one after another -/
def setsV (σ : St) (l : List (Nat × V)) : St := l.foldl (fun σ p => σ.set p.1 (some p.2)) σ
def setsD (G : List Sl) (l : List (Nat × Dt)) : List Sl := l.foldl (fun G p => G.set p.1 (.sh p.2)) G
/-- a target takes d: the slots js hold what ds tells -/
def A (X : Cx) (tg : Expr) (d : Dt) (js : List (Nat × Dt)) : Prop := ∀ σ F H v (Q : St → Hp → Prop), Same F H → Rp X.K F d v → (∀ vs, js.length = vs.length → RpL X.K F (js.map (·.2)) vs → Q (setsV σ ((js.map (·.1)).zip vs)) H) → tgOf X tg v σ H Q
section
variable {X : Cx} {R : Reg} {G : List Sl} {pos : Pos} {k : Kt}
theorem Ty.sets {K : PySem.W.Frag} {F H : Hp} : ∀ {js : List (Nat × Dt)} {vs : List V} {G : List Sl} {σ : St}, Ty K R G σ F H → RpL K F (js.map (·.2)) vs → Ty K R (setsD G js) (setsV σ ((js.map (·.1)).zip vs)) F H
  | [], vs, G, σ, ty, r => ty
  | (j, d) :: js, _, G, σ, ty, r => by
    obtain ⟨v, t, rfl, h1, h2⟩ := r.of_cons
    exact Ty.sets (js := js) (ty.set j h1) h2
theorem owns_sets : ∀ {js : List (Nat × Dt)} {vs : List V} {G : List Sl} {σ : St} {o : Addr}, js.length = vs.length → o ∈ owns (setsD G js) (setsV σ ((js.map (·.1)).zip vs)) → o ∈ owns G σ
  | [], vs, G, σ, o, _, h => h
  | (j, d) :: js, [], G, σ, o, hl, h => by simp at hl
  | (j, d) :: js, v :: vs, G, σ, o, hl, h => (owns_set_sub (g := .sh d) (v := some v) j (fun _ z => nomatch z)).subset (owns_sets (js := js) (vs := vs) (by simpa using hl) h)
theorem a_name (j : Nat) {x : Str} {d : Dt} (hN : X.N.Nodup) (hi : X.N[j]? = some x) (hx : Loc X.env.scope x) (hf : X.fn x = true ∨ X.env.scope.names.lookup x = some .local := by first | exact .inl rfl | exact .inr rfl | assumption) : A X (.Name x pos) d [(j, d)] := fun σ F H v Q _ r c =>
  tgOf.of (pg_name hN hi hx hf) (c [v] rfl (.cons r .nil))
/-- several targets take several data -/
def As (X : Cx) (ts : List Expr) (ds : List Dt) (js : List (Nat × Dt)) : Prop := ∃ t, PGs X ts t ∧ ∀ σ F H vs (Q : St → Hp → Prop), Same F H → RpL X.K F ds vs → (∀ ws, js.length = ws.length → RpL X.K F (js.map (·.2)) ws → Q (setsV σ ((js.map (·.1)).zip ws)) H) → t vs σ H Q
theorem as_nil : As X [] [] [] := ⟨_, pgs_nil, fun σ F H vs Q _ r c => ⟨r.of_nil, c [] rfl .nil⟩⟩
theorem zip_app {α β : Type} : ∀ {l1 : List α} {m1 : List β} {l2 : List α} {m2 : List β}, l1.length = m1.length → (l1 ++ l2).zip (m1 ++ m2) = l1.zip m1 ++ l2.zip m2
  | [], [], _, _, _ => rfl
  | [], _ :: _, _, _, h => by simp at h
  | _ :: _, [], _, _, h => by simp at h
  | a :: l1, b :: m1, l2, m2, h => by
    simp only [List.cons_append, List.zip_cons_cons]
    rw [zip_app (by simpa using h)]
theorem as_cons {t : Expr} {ts : List Expr} {d : Dt} {ds : List Dt} {js ls : List (Nat × Dt)} (h : A X t d js) (hr : As X ts ds ls) (hs : (assignEach (t :: ts) X.env).map (·.2) = assign t X.env :: (assignEach ts X.env).map (·.2) := by rfl) : As X (t :: ts) (d :: ds) (js ++ ls) := by
  obtain ⟨u, hu, hq⟩ := hr
  refine ⟨_, pgs_cons pg_w hu hs, fun σ F H vs Q sf r c => ?_⟩
  obtain ⟨v, w, rfl, r1, r2⟩ := r.of_cons
  refine ⟨v, w, rfl, h σ F H v _ sf r1 fun ws hw rw1 => hq _ F H w _ sf r2 fun zs hz rz => ?_⟩
  have e := c (ws ++ zs) (by simp [hw, hz]) (by rw [List.map_append]; exact rw1.append rz)
  rw [List.map_append, zip_app (by simpa using hw)] at e
  unfold setsV at e ⊢
  rw [List.foldl_append] at e
  exact e
theorem a_tup {es : List Expr} {kk : Nat} {ds : List Dt} {js : List (Nat × Dt)} (hc : X.calm = true) (h : As X es ds js) (hn : (assignEach es X.env).length = ds.length := by rfl) (hst : (assignEach es X.env).findIdx? (·.1) = none := by rfl) : A X (.Tuple es kk pos) (.tup ds) js := fun σ F H v Q sf r c => by
  obtain ⟨t, ht, hq⟩ := h
  obtain ⟨a, vs, rfl, sq, rl⟩ := rp_tup.mp r
  exact tgOf.of (pg_tup hc ht hn hst) ⟨a, vs, rfl, sq_t sf sq, rl.length.symm, hq σ F H vs Q sf rl c⟩
/-- a, b = e -/
theorem s_unpack {tg e : Expr} (h : E X R G e fun d => ∃ js, A X tg d js ∧ k.nx (setsD G js)) (hs : swapsWithSole [tg] e pos.line X.env = pure false := by rfl) (hw : swappedStores [tg] e X.env = pure none := by rfl)
    (h1 : (assignEach [tg] X.env).map (·.2) = [assign tg X.env] := by rfl) : S1 X R (.Assign [tg] e pos) G k := fun F0 H0 σ F H D ty b c =>
  s1Of.of (ps_asg pe_w pg_w hs hw h1) (h σ F H _ ty fun v F1 H1 d ex r ⟨js, ha, p⟩ => ha σ F1 H1 v _ ex.wf.fh r fun vs hl rv => c.nx _ _ F1 H1 p ((ty.ext ex).sets rv) ⟨(b.step ex).ext, fun o ho => b.fresh o (owns_sets hl ho), b.z⟩)

/-! ### for -/
theorem s_for {tg iter : Expr} {body : List Stmt} (hp : PassesOwn (model X.prog X.w) X.A X.env X.xe) (hc : X.calm = true)
    (h : I X R G tg iter fun ds => ∃ J : Nat → List Sl → Prop, J 0 G ∧ (∀ i d G, ds[i]? = some d → J i G → ∃ js, A X tg d js ∧ S X R body (setsD G js) { k with nx := J (i + 1), ct := J (i + 1), bk := k.nx }) ∧ ∀ G, J ds.length G → k.nx G)
    (hs : ∀ x, foldedSetIterable iter X.env x = pure x := by intro _; rfl) : S1 X R (.For tg iter body [] pos) G k := fun F0 H0 σ F H D ty b c => by
  refine s1Of.of (ps_for hp hc pi_w pg_w pss_w hs) (h σ F H _ ty fun Jt F1 H1 ds ex it ⟨J, j0, jt, jd⟩ => ?_)
  refine ⟨fun i m σ H => m = ds.length - i ∧ i ≤ ds.length ∧ ∃ G F, J i G ∧ Ty X.K R G σ F H ∧ Bs R F0 H0 G σ F H ∧ Same F1 F, ⟨_, rfl, Nat.zero_le _, G, F1, j0, ty.ext ex, b.step ex, .refl _⟩, ?_⟩
  rintro i m σ2 H2 ⟨rfl, hi, G2, F2, jg, ty2, b2, s2⟩
  obtain ⟨hstop, hgo⟩ := it F2 H2 s2 ty2.wf
  by_cases hlt : i < ds.length
  · obtain ⟨g1, g2⟩ := hgo i ds[i] (List.getElem?_eq_getElem hlt)
    refine .inr ⟨g1, _, fun σ' H' z => z, fun x H' y => ?_⟩
    obtain ⟨F3, ex3, r3⟩ := g2 x H' y
    obtain ⟨js, ha, hS⟩ := jt i ds[i] G2 (List.getElem?_eq_getElem hlt) jg
    refine ha σ2 F3 H' x _ ex3.wf.fh r3 fun vs hl rv => ?_
    have b3 := b2.step ex3
    have b4 : Bs R F0 H0 (setsD G2 js) (setsV σ2 ((js.map (·.1)).zip vs)) F3 H' := ⟨b3.ext, fun o ho => b3.fresh o (owns_sets hl ho), b3.z⟩
    have nxt : ∀ G' σ' F' H'', J (i + 1) G' → Ty X.K R G' σ' F' H'' → Bs R F3 H0 G' σ' F' H'' → ∃ m', m' < ds.length - i ∧ m' = ds.length - (i + 1) ∧ i + 1 ≤ ds.length ∧ ∃ G F, J (i + 1) G ∧ Ty X.K R G σ' F H'' ∧ Bs R F0 H0 G σ' F H'' ∧ Same F1 F :=
      fun G' σ' F' H'' z tz bz => ⟨_, by omega, rfl, hlt, G', F', z, tz, Bs.back b3.ext bz b3.z, (s2.trans ex3.ff).trans bz.ext.ff⟩
    have c2 := c.here b3.ext b3.z
    exact hS F3 H0 _ F3 H' _ ((ty2.ext ex3).sets rv) b4.here ⟨nxt, c2.rt, c2.rn, c2.nx, nxt⟩
  · have e : i = ds.length := by omega
    subst e
    exact .inl ⟨hstop _ (Nat.le_refl _), c.nx G2 σ2 F2 H2 (jd G2 jg) ty2 b2⟩
theorem i_lst {tg e : Expr} {P : List Dt → Prop} (h : E X R G e fun d => ∃ ds, d = .lst ds ∧ P ds) : I X R G tg e P := fun σ F H Q ty c =>
  tiOf.of (pi_list pe_w) (h σ F H _ ty fun v F1 H1 d ex r ⟨ds, e, p⟩ => by
    subst e
    obtain ⟨a, vs, rfl, sq, rl⟩ := rp_lst.mp r
    refine ⟨a, rfl, ⟨vs, SqL.of (ex.wf.fh _ _ sq)⟩, c _ F1 H1 ds ex (fun F2 H2 sf wf => ?_) p⟩
    have sq2 : SqL X.K H2 a vs := SqL.of (wf.fh _ _ (sf _ _ sq))
    refine ⟨fun i hi => ⟨vs, sq2, by rw [← rl.length]; exact hi⟩, fun i d hd => ?_⟩
    obtain ⟨v, hv, rv⟩ := rl.get hd
    refine ⟨⟨vs, v, sq2, hv⟩, fun x H' y => ?_⟩
    obtain ⟨rfl, y⟩ := y
    have e := y vs sq2
    rw [hv] at e
    cases e
    exact ⟨F2, .refl wf, rv.mono sf⟩)
theorem i_tup {tg e : Expr} {P : List Dt → Prop} (h : E X R G e fun d => ∃ ds, d = .tup ds ∧ P ds) : I X R G tg e P := fun σ F H Q ty c =>
  tiOf.of (pi_tup pe_w) (h σ F H _ ty fun v F1 H1 d ex r ⟨ds, e, p⟩ => by
    subst e
    obtain ⟨a, vs, rfl, sq, rl⟩ := rp_tup.mp r
    refine ⟨a, rfl, ⟨vs, sq_t ex.wf.fh sq⟩, c _ F1 H1 ds ex (fun F2 H2 sf wf => ?_) p⟩
    have sq2 : SqT X.K H2 a vs := sq_t wf.fh (sq_t sf sq)
    refine ⟨fun i hi => ⟨vs, sq2, by rw [← rl.length]; exact hi⟩, fun i d hd => ?_⟩
    obtain ⟨v, hv, rv⟩ := rl.get hd
    refine ⟨⟨vs, v, sq2, hv⟩, fun x H' y => ?_⟩
    obtain ⟨rfl, y⟩ := y
    have e := y vs sq2
    rw [hv] at e
    cases e
    exact ⟨F2, .refl wf, rv.mono sf⟩)
/-- lo, lo + 1, .. n of them -/
def rangeD (lo : Int) (n : Nat) : List Dt := (List.range n).map fun i => .int (lo + (i : Nat))
theorem rangeD_length (lo : Int) (n : Nat) : (rangeD lo n).length = n := by simp [rangeD]
theorem rangeD_get {lo : Int} {n i : Nat} {d : Dt} (h : (rangeD lo n)[i]? = some d) : i < n ∧ d = .int (lo + (i : Nat)) := by
  unfold rangeD at h
  rw [List.getElem?_map] at h
  by_cases hi : i < n
  · rw [List.getElem?_range hi] at h
    exact ⟨hi, (Option.some.inj h).symm⟩
  · rw [List.getElem?_eq_none (by simpa using hi)] at h
    cases h
theorem itd_range {F1 : Hp} {lo : Int} {n : Nat} : Itd X.K R F1 (Itr lo n) (rangeD lo n) := fun F H sf wf => ⟨fun i hi => by rw [rangeD_length] at hi; exact hi, fun i d hd => by
  obtain ⟨h1, h2⟩ := rangeD_get hd
  refine ⟨h1, fun x H' y => ?_⟩
  obtain ⟨rfl, rfl⟩ := y
  exact ⟨F, .refl wf, by rw [h2]; exact rp_int.mpr rfl⟩⟩
theorem i_range1 {tg a : Expr} {p : Pos} {P : List Dt → Prop} (hg : Gl X "range") (hm : X.mg "range" = none) (h : EA X R G [a] fun ds => ∃ n : Int, ds = [.int n] ∧ -(2 ^ 62) ≤ n ∧ n < 2 ^ 62 ∧ P (rangeD 0 n.toNat)) (hs : starEach [a] X.env = [(false, eval a X.env)] := by rfl) : I X R G tg (.Call (.Name "range" p) [a] [] pos) P := fun σ F H Q ty c =>
  tiOf.of (pi_range1 hg hm pa_w hs) (h σ F H _ ty fun v F1 H1 d ex r ⟨n, e, h1, h2, p⟩ => by
    subst e
    obtain ⟨v, rfl, r1⟩ := r.one
    exact ⟨n, by rw [rp_int.mp r1], h1, h2, c _ F1 H1 _ ex itd_range p⟩)
theorem i_range2 {tg a b : Expr} {p : Pos} {P : List Dt → Prop} (hg : Gl X "range") (hm : X.mg "range" = none) (h : EA X R G [a, b] fun ds => ∃ lo n : Int, ds = [.int lo, .int n] ∧ (-(2 ^ 62) ≤ lo ∧ lo < 2 ^ 62 ∧ -(2 ^ 62) ≤ n ∧ n < 2 ^ 62) ∧ P (rangeD lo (n - lo).toNat))
    (hs : starEach [a, b] X.env = [(false, eval a X.env), (false, eval b X.env)] := by rfl) (hs2 : starEach [b] X.env = [(false, eval b X.env)] := by rfl) : I X R G tg (.Call (.Name "range" p) [a, b] [] pos) P := fun σ F H Q ty c =>
  tiOf.of (pi_range2 hg hm pa_w hs hs2) (h σ F H _ ty fun v F1 H1 d ex r ⟨lo, n, e, h3, p⟩ => by
    subst e
    obtain ⟨v, w, rfl, r1, r2⟩ := r.two
    exact ⟨lo, n, by rw [rp_int.mp r1, rp_int.mp r2], h3, c _ F1 H1 _ ex itd_range p⟩)

/-! ### comprehensions -/
theorem wipe_set (σ : St) (j : Nat) (v : Option V) : ∀ {vs : List Nat}, j ∈ vs → wipe (σ.set j v) vs = wipe σ vs
  | [], h => by simp at h
  | u :: vs, h => by
    show (wipe (σ.set j v) vs).set u none = (wipe σ vs).set u none
    by_cases q : j ∈ vs
    · rw [wipe_set σ j v q]
    · have e : j = u := by
        rcases List.mem_cons.mp h with z | z
        · exact z
        · exact absurd z q
      subst e
      have w : ∀ (us : List Nat) (τ : St), j ∉ us → wipe (τ.set j v) us = (wipe τ us).set j v := fun us => by
        induction us with
        | nil => intro τ _; rfl
        | cons a us ih =>
          intro τ hn
          simp only [List.mem_cons, not_or] at hn
          show (wipe (τ.set j v) us).set a none = ((wipe τ us).set a none).set j v
          rw [ih τ hn.2, List.set_comm _ _ hn.1]
      rw [w vs σ q, List.set_set]
theorem wipe_sets {vs : List Nat} : ∀ {js : List (Nat × V)} {σ : St}, (∀ p ∈ js, p.1 ∈ vs) → wipe (setsV σ js) vs = wipe σ vs
  | [], σ, _ => rfl
  | (j, v) :: js, σ, h => by
    show wipe (setsV (σ.set j (some v)) js) vs = wipe σ vs
    rw [wipe_sets (js := js) fun p hp => h p (List.mem_cons_of_mem _ hp), wipe_set σ j (some v) (h (j, v) (List.mem_cons_self ..))]
theorem wipe_wipe (σ : St) (vs : List Nat) : wipe (wipe σ vs) vs = wipe σ vs := by
  have w : ∀ (us : List Nat) (τ : St), (∀ u ∈ us, u ∈ vs) → wipe (wipe τ us) vs = wipe τ vs := fun us => by
    induction us with
    | nil => intro τ _; rfl
    | cons a us ih =>
      intro τ hn
      show wipe ((wipe τ us).set a none) vs = wipe τ vs
      rw [wipe_set _ a none (hn a (List.mem_cons_self ..)), ih τ fun u hu => hn u (List.mem_cons_of_mem _ hu)]
  exact w vs σ fun u hu => hu
def wipeD (G : List Sl) : List Nat → List Sl
  | [] => G
  | v :: vs => (wipeD G vs).set v .no
theorem Ty.no {K : PySem.W.Frag} {F H : Hp} {σ : St} (h : Ty K R G σ F H) (i : Nat) {v : Option V} : Ty K R (G.set i .no) (σ.set i v) F H := ⟨h.wf, h.sl.set i trivial, h.nd.sublist (owns_set_sub i fun _ z => nomatch z)⟩
theorem Ty.wipe {K : PySem.W.Frag} {F H : Hp} {σ : St} (h : Ty K R G σ F H) : ∀ vs : List Nat, Ty K R (wipeD G vs) (L2.wipe σ vs) F H
  | [] => h
  | v :: vs => (Ty.wipe h vs).no v
/-- a block's context -/
def Blk (X : Cx) (scope : Scope) (Y : Cx) : Prop := ∃ s H C cl fp, Y = X.blk s H scope (compEnvC scope cl C X.env) fp
theorem Blk.K {scope : Scope} {Y : Cx} (b : Blk X scope Y) : Y.K = X.K := by
  obtain ⟨s, H, C, cl, fp, rfl⟩ := b
  rfl
@[irreducible] def tsOf (X : Cx) (ifs : List Expr) : TT := fun σ H Q => ∀ pins s, Inv X pins σ H s → wpAny (model X.prog X.w) X.A (forIn ifs true fun c r => if r = true then do let ok ← isTrue c X.env (eval c X.env); pure (ForInStep.yield ok) else pure (ForInStep.yield r)) (TP X pins σ Q) X.xe s
theorem tsOf.of {ifs : List Expr} {t : TT} {σ : St} {H : Hp} {Q : Bool → Hp → Prop} (h : PTs X ifs t) (q : t σ H Q) : tsOf X ifs σ H Q := by unfold tsOf; exact fun pins s I => h.run pins s σ H Q I q
def Ts (X : Cx) (R : Reg) (G : List Sl) (ifs : List Expr) (P : Bool → Prop) : Prop := ∀ σ F H Q, Ty X.K R G σ F H → CtB R F H P Q → tsOf X ifs σ H Q
theorem ts_nil {P : Bool → Prop} (p : P true) : Ts X R G [] P := fun σ F H Q ty c => tsOf.of pts_nil (c.here ty.wf p)
theorem ts_one {t : Expr} {P : Bool → Prop} (h : T X R G t P) : Ts X R G [t] P := fun σ F H Q ty c => tsOf.of (pts_one pt_w) (h σ F H Q ty c)
def tgB (X : Cx) (scope : Scope) (tg : Expr) : TG := fun v σ H Q => ∀ Y, Blk X scope Y → tgOf Y tg v σ H Q
def ttB (X : Cx) (scope : Scope) (ifs : List Expr) : TT := fun σ H Q => ∀ Y, Blk X scope Y → tsOf Y ifs σ H Q
def teB (X : Cx) (scope : Scope) (e : Expr) : TE := fun σ H Q => ∀ Y, Blk X scope Y → tOf Y e σ H Q
/-- what a comprehension's turns give: J turn (what is gathered) -/
structure Lc (X : Cx) (R : Reg) (G : List Sl) (tg elt : Expr) (ifs : List Expr) (scope : Scope) (vs : List Nat) (ds : List Dt) (J : Nat → List Dt → Prop) : Prop where
  start : J 0 []
  step : ∀ i d acc, ds[i]? = some d → J i acc → acc.length ≤ i → ∃ js, (∀ Y, Blk X scope Y → A Y tg d js) ∧ (∀ p ∈ js, p.1 ∈ vs) ∧
    ∀ Y, Blk X scope Y → Ts Y R (setsD (wipeD G vs) js) ifs fun b => if b = true then ∀ Z, Blk X scope Z → E Z R (setsD (wipeD G vs) js) elt fun y => J (i + 1) (acc ++ [y]) else J (i + 1) acc
theorem lc_run {tg iter elt : Expr} {ifs : List Expr} {scope : Scope} {vs : List Nat} {σ : St} {F H : Hp} {Q : VK} (ty : Ty X.K R G σ F H) (h : I X R G tg iter fun ds => ds.length ≤ 100000 ∧ ∃ J, Lc X R G tg elt ifs scope vs ds J ∧
      ∀ acc, J ds.length acc → ∀ D F' H' vacc, Ext R F H F' H' → H D = none → ¬ R.M D → H' D = some (.lst vacc) → F' D = none → RpL X.K F' acc vacc → Q (.ref D) H') : tLc (tiOf X tg iter) (tgB X scope tg) (ttB X scope ifs) (teB X scope elt) vs σ H Q := by
  refine h σ F H _ ty fun Jt F1 H1 ds ex it ⟨hl, J, lc, fin⟩ => fun D hD => ?_
  have hD0 : H D = none := by
    cases q : H D with
    | none => rfl
    | some o => exact absurd hD (ex.keep (by rw [q]; exact fun z => nomatch z))
  have nM : ¬ R.M D := ex.wf.new hD
  refine ⟨fun i m H2 => m = ds.length - i ∧ i ≤ ds.length ∧ ∃ F2 acc vacc, J i acc ∧ acc.length ≤ i ∧ H2 D = some (.lst vacc) ∧ F2 D = none ∧ RpL X.K F2 acc vacc ∧ Ext R F1 H1 F2 H2, ⟨_, rfl, Nat.zero_le _, F1, [], [], lc.start, Nat.le_refl _, upd_same, ex.wf.fh.free hD, .nil, ex.wf.own hD⟩, ?_⟩
  rintro i m H2 ⟨rfl, hi, F2, acc, vacc, j, hla, hD2, fD2, ra, ex2⟩
  obtain ⟨hstop, hgo⟩ := it F2 H2 ex2.ff ex2.wf
  by_cases hlt : i < ds.length
  · obtain ⟨g1, g2⟩ := hgo i ds[i] (List.getElem?_eq_getElem hlt)
    refine .inr ⟨g1, _, fun H' z => z, fun x H' y => ?_⟩
    obtain ⟨F3, ex3, r3⟩ := g2 x H' y
    obtain ⟨js, ha, hjs, hS⟩ := lc.step i ds[i] acc (List.getElem?_eq_getElem hlt) j hla
    intro Y bY
    refine ha Y bY (wipe σ vs) F3 H' x _ ex3.wf.fh (by rw [bY.K]; exact r3) fun ws hw rw1 => ⟨?_, ?_⟩
    · rw [wipe_sets fun p hp => ?_, wipe_wipe]
      have q := (List.of_mem_zip hp).1
      obtain ⟨z, hz, e⟩ := List.mem_map.mp q
      rw [← e]
      exact hjs z hz
    · intro Y2 bY2
      have tyW : Ty X.K R (setsD (wipeD G vs) js) (setsV (wipe σ vs) ((js.map (·.1)).zip ws)) F3 H' := Ty.sets (((ty.ext ((ex.trans ex2).trans ex3))).wipe vs) (by rw [← bY.K]; exact rw1)
      have hD3 : H' D = some (.lst vacc) := ex3.hh D _ nM hD2
      have fD3 : F3 D = none := ex3.fr D (by rw [hD2]; exact fun z => nomatch z) fD2
      refine hS Y2 bY2 _ F3 H' _ (by rw [bY2.K]; exact tyW) fun b F4 H4 ex4 p => ?_
      have hD4 : H4 D = some (.lst vacc) := ex4.hh D _ nM hD3
      have fD4 : F4 D = none := ex4.fr D (by rw [hD3]; exact fun z => nomatch z) fD3
      cases b with
      | false =>
        rw [if_neg (by decide)] at p ⊢
        exact ⟨_, by omega, rfl, hlt, F4, acc, vacc, p, Nat.le_succ_of_le hla, hD4, fD4, ra.mono (ex3.ff.trans ex4.ff), (ex2.trans ex3).trans ex4⟩
      | true =>
        rw [if_pos rfl] at p ⊢
        intro Y3 bY3
        refine p Y3 bY3 _ F4 H4 _ (by rw [bY3.K]; exact tyW.ext ex4) fun y F5 H5 d ex5 r5 pj => ?_
        have hD5 : H5 D = some (.lst vacc) := ex5.hh D _ nM hD4
        have fD5 : F5 D = none := ex5.fr D (by rw [hD4]; exact fun z => nomatch z) fD4
        have ra5 := ra.mono ((ex3.ff.trans ex4.ff).trans ex5.ff)
        have e5 := ((ex2.trans ex3).trans ex4).trans ex5
        have mk : Ext R F1 H1 F5 (upd H5 D (.lst (vacc ++ [y]))) := by
          refine ⟨⟨fun a o h => ?_, e5.wf.off, fun a m z => ?_, ?_⟩, e5.ff, fun a o n h => ?_, e5.fr⟩
          · rw [upd_ne (fun z => by rw [z, fD5] at h; cases h)]
            exact e5.wf.fh a o h
          · have nz : a ≠ D := fun z => nM (z ▸ m)
            rw [upd_ne nz] at z
            exact e5.wf.oc a m z
          · exact R.st H5 _ (fun a o m h => by
              have nz : a ≠ D := fun z => nM (z ▸ m)
              rw [upd_ne nz]
              exact h) e5.wf.b
          · rw [upd_ne (ne_of_none h hD)]
            exact e5.hh a o n h
        refine ⟨vacc, hD5, ?_, ⟨_, by omega, rfl, hlt, F5, acc ++ [d], vacc ++ [y], pj, by simp; omega, upd_same, fD5, ra5.append (.cons (by rw [← bY3.K]; exact r5) .nil), mk⟩⟩
        rw [← ra5.length]
        exact Nat.lt_of_le_of_lt hla (Nat.lt_of_lt_of_le hlt (Nat.le_trans hl (by decide)))
  · have e : i = ds.length := by omega
    subst e
    exact .inl ⟨hstop _ (Nat.le_refl _), fin acc j D F2 H2 vacc (ex.trans ex2) hD0 nM hD2 fD2 ra⟩
/-- [elt for tg in iter if ..] -/
theorem e_lc {tg iter elt : Expr} {ifs : List Expr} {scope : Scope} {own : List (Str × Nat)} {P : Dt → Prop} (hc : X.calm = true) (hN : X.N.Nodup) (ok : BlkOk X.N X.env.scope scope own)
    (h : I X R G tg iter fun ds => ds.length ≤ 100000 ∧ ∃ J, Lc X R G tg elt ifs scope (own.map (·.2)) ds J ∧ ∀ acc, J ds.length acc → P (.lst acc)) (hs : ∀ x, foldedSetIterable iter X.env x = pure x := by intro _; rfl) : E X R G (.ListComp elt [⟨tg, iter, ifs, 0⟩] scope pos) P := fun σ F H Q ty c => by
  refine tOf.of (pe_lc (g := tgB X scope tg) (tt := ttB X scope ifs) (te := teB X scope elt) hc hN pi_w ok (fun s H C cl fp => ⟨fun pins s' σ H' v u Q I r h => by have z := h _ ⟨s, H, C, cl, fp, rfl⟩; unfold tgOf at z; exact z pins s' u I r⟩) (fun s H C cl fp => ⟨fun pins s' σ H' Q I h => by have z := h _ ⟨s, H, C, cl, fp, rfl⟩; unfold tsOf at z; exact z pins s' I⟩) (fun s H C cl fp => ⟨fun pins s' σ H' Q I h => by have z := h _ ⟨s, H, C, cl, fp, rfl⟩; unfold tOf at z; exact z pins s' I⟩) hs) (lc_run ty ?_)
  intro σ1 F1 H1 Q1 ty1 c1
  refine h σ1 F1 H1 Q1 ty1 fun J F2 H2 ds ex it ⟨hl, Jd, lc, fin⟩ => c1 J F2 H2 ds ex it ⟨hl, Jd, lc, fun acc ja D F' H' vacc ex' hD nM hD' fD' ra => ?_⟩
  refine c (.ref D) (upd F' D (.lst vacc)) H' (.lst acc) ⟨⟨fun a o h => ?_, fun a m => ?_, ex'.wf.oc, ex'.wf.b⟩, ex'.ff.trans (same_upd fD'), ex'.hh, fun a h n => ?_⟩ (rp_lst_new fD' ra) (fin acc ja)
  · by_cases q : a = D
    · subst q; rw [upd_same] at h; rw [hD']; exact h
    · rw [upd_ne q] at h; exact ex'.wf.fh a o h
  · rw [upd_ne (fun z => nM (by rw [← z]; exact m))]
    exact ex'.wf.off a m
  · rw [upd_ne (fun z => h (by rw [z]; exact hD))]
    exact ex'.fr a h n
end
end VS
set_option Elab.async false
set_option linter.all false
set_option maxRecDepth 100000
namespace VS
open PySem PySem.Spec L2
section
variable {X : Cx} {R : Reg} {G : List Sl} {pos : Pos} {k : Kt}

/-! ### is, isinstance -/
theorem w_isB {i j : Bool} {P : Dt → Prop} (p : P (.bl (i == j))) : W2 X R (compareOp .Is) (.bl i) (.bl j) P := fun F H x y Q w rx ry c => by
  rw [rp_bl.mp rx, rp_bl.mp ry]
  refine opOf.of op_is_bl ⟨i, j, rfl, rfl, ?_⟩
  have e : decide (i = j) = (i == j) := by rw [Bool.eq_iff_iff]; simp
  rw [e]
  exact c.here w (rp_bl.mpr rfl) p
theorem w_isNB {i j : Bool} {P : Dt → Prop} (p : P (.bl (!(i == j)))) : W2 X R (compareOp .IsNot) (.bl i) (.bl j) P := fun F H x y Q w rx ry c => by
  rw [rp_bl.mp rx, rp_bl.mp ry]
  refine opOf.of op_isnot_bl ⟨i, j, rfl, rfl, ?_⟩
  have e : decide (i = j) = (i == j) := by rw [Bool.eq_iff_iff]; simp
  rw [e]
  exact c.here w (rp_bl.mpr rfl) p
def isNon : Dt → Bool
  | .non => true
  | _ => false
theorem rp_isNon {K : PySem.W.Frag} {F : Hp} {d : Dt} {v : V} (r : Rp K F d v) : decide (v = .non) = isNon d := by
  cases d with
  | non => rw [rp_non.mp r]; rfl
  | bl b => rw [rp_bl.mp r]; rfl
  | int b => rw [rp_int.mp r]; rfl
  | str b => rw [rp_str.mp r]; rfl
  | ty b => rw [rp_ty.mp r]; rfl
  | adr b => rw [rp_adr.mp r]; rfl
  | tup xs => obtain ⟨a, vs, rfl, _⟩ := rp_tup.mp r; rfl
  | lst xs => obtain ⟨a, vs, rfl, _⟩ := rp_lst.mp r; rfl
  | frl xs => obtain ⟨a, vs, rfl, _⟩ := rp_frl.mp r; rfl
  | dT ks xs => obtain ⟨a, vs, rfl, _⟩ := rp_dT.mp r; rfl
  | dK ks xs => simp only [Rp] at r; obtain ⟨a, vs, rfl, _⟩ := r; rfl
  | at_ a d => simp only [Rp] at r; obtain ⟨rfl, _⟩ := r; rfl
  | obj C ns xs => obtain ⟨a, dx, vs, rfl, _⟩ := rp_obj.mp r; rfl
  | exv a ns xs d => rw [(rp_exv.mp r).1]; rfl
  | key ks => obtain ⟨a, rfl, _⟩ := rp_key.mp r; rfl
theorem w_isN {d : Dt} {P : Dt → Prop} (p : P (.bl (isNon d))) : W2 X R (compareOp .Is) d .non P := fun F H x y Q w rx ry c => by
  refine opOf.of op_isN ⟨rp_non.mp ry, ?_⟩
  rw [rp_isNon rx]
  exact c.here w (rp_bl.mpr rfl) p
theorem w_isNN {d : Dt} {P : Dt → Prop} (p : P (.bl (!isNon d))) : W2 X R (compareOp .IsNot) d .non P := fun F H x y Q w rx ry c => by
  refine opOf.of op_notN ⟨rp_non.mp ry, ?_⟩
  rw [rp_isNon rx]
  exact c.here w (rp_bl.mpr rfl) p
/-- a datum's type -/
def TyD (K : PySem.W.Frag) (d : Dt) (t : Value) : Prop := ∀ F H x, Same F H → Rp K F d x → TyX K H x t
theorem tyd_int {K : PySem.W.Frag} {i : Int} : TyD K (.int i) (.type "int") := fun F H x s r => by rw [rp_int.mp r]; exact .base (.int i)
theorem tyd_bl {K : PySem.W.Frag} {i : Bool} : TyD K (.bl i) (.type "bool") := fun F H x s r => by rw [rp_bl.mp r]; exact .base (.bl i)
theorem tyd_str {K : PySem.W.Frag} {i : Str} : TyD K (.str i) (.type "str") := fun F H x s r => by rw [rp_str.mp r]; exact .base (.str i)
theorem tyd_non {K : PySem.W.Frag} : TyD K .non (.type "NoneType") := fun F H x s r => by rw [rp_non.mp r]; exact .base .non
theorem tyd_tup {K : PySem.W.Frag} {xs : List Dt} : TyD K (.tup xs) (.type "tuple") := fun F H x s r => by
  obtain ⟨a, vs, rfl, h, _⟩ := rp_tup.mp r
  rcases h with (h | ⟨o, h⟩) | ⟨o, its, n, h1, h2, _⟩
  · exact .base (.tup (s _ _ h))
  · exact .fTuple (s _ _ h)
  · exact .kTuple h1 h2
theorem tyd_lst {K : PySem.W.Frag} {xs : List Dt} : TyD K (.lst xs) (.type "list") := fun F H x s r => by
  obtain ⟨a, vs, rfl, h, _⟩ := rp_lst.mp r
  exact .base (.lst (s _ _ h))
/-- isinstance(x, T), T a built-in type | an own class -/
theorem wc_isi {d : Dt} {t : Value} {n : String} {b : Bool} {P : Dt → Prop} (ty : TyD X.K d t) (hk : PySem.W.kitOne X.K t (.type n) = some b) (p : P (.bl b)) : WC X R (.builtin "isinstance") [d, .ty n] P := fun F H xs Q w r c => by
  obtain ⟨v, u, rfl, h1, h2⟩ := r.two
  rw [rp_ty.mp h2]
  exact crOf.of call_isi ⟨v, _, t, _, b, rfl, .ty n, ty F H v w.fh h1, hk, c.here w (rp_bl.mpr rfl) p⟩
theorem wc_isiC {d : Dt} {t : Value} {C : Addr} {b : Bool} {P : Dt → Prop} (ty : TyD X.K d t) (hk : PySem.W.kitOne X.K t (.ref C) = some b) (p : P (.bl b)) : WC X R (.builtin "isinstance") [d, .adr C] P := fun F H xs Q w r c => by
  obtain ⟨v, u, rfl, h1, h2⟩ := r.two
  rw [rp_adr.mp h2]
  exact crOf.of call_isi ⟨v, _, t, _, b, rfl, .own C, ty F H v w.fh h1, hk, c.here w (rp_bl.mpr rfl) p⟩
/-- a built-in's name as a value -/
theorem e_ty {x : Str} {n : String} {P : Dt → Prop} (hg : Gl X x) (hm : X.mg x = none) (hv : bootBuiltins x = some (.type n)) (p : P (.ty n)) (hn : x ≠ "__name__" := by decide) (hd : (x == ("__debug__" : Str)) = false := by decide) : E X R G (.Name x pos) P := fun σ F H Q ty c =>
  tOf.of (pe_bltn (v := .ty n) hg hm hv rfl hn hd) (c.here ty.wf (rp_ty.mpr rfl) p)
/-- an own class's name -/
theorem e_cls {x : Str} {C : Addr} {P : Dt → Prop} (hg : Gl X x) (hm : X.mg x = some (.ref C)) (p : P (.adr C)) (hd : (x == ("__debug__" : Str)) = false := by decide) : E X R G (.Name x pos) P := fun σ F H Q ty c =>
  tOf.of (pe_glob (v := .ref C) hg hm rfl hd) (c.here ty.wf (rp_adr.mpr rfl) p)

/-! ### slices -/
def cutD (xs : List Dt) (lo hi : Option Int) : List Dt := (xs.drop (HT.sIx xs.length 0 lo)).take (HT.sIx xs.length xs.length hi - HT.sIx xs.length 0 lo)
theorem RpL.cut {K : PySem.W.Frag} {F : Hp} {ds : List Dt} {vs : List V} (r : RpL K F ds vs) (lo hi : Option Int) : RpL K F (cutD ds lo hi) (cutV vs lo hi) := by
  unfold cutD cutV
  rw [r.length]
  exact (r.drop _).take _
@[irreducible] def slOf (X : Cx) : V → Option Int → Option Int → Hp → VK → Prop := fun x lo hi H Q => ∀ pins s σ v vl vu sl, Inv X pins σ H s → RelV x v → s.heap.IsSliceOf sl vl vu .none → IsPart vl lo → IsPart vu hi → ∃ T id, typeLookup (.type T) "__getitem__" = pure (some (.builtin id)) ∧ s.TypeIs v T ∧ wpAny (model X.prog X.w) X.A (getItem v (.ref sl)) (EP X pins σ Q) X.xe s
theorem sl_w : SlR X (slOf X) := fun pins s σ H x v vl vu lo hi sl Q I rx h1 h2 h3 h => by unfold slOf at h; exact h pins s σ v vl vu sl I rx h1 h2 h3
theorem slOf.of {r : V → Option Int → Option Int → Hp → VK → Prop} {x : V} {lo hi : Option Int} {H : Hp} {Q : VK} (h : SlR X r) (q : r x lo hi H Q) : slOf X x lo hi H Q := by unfold slOf; exact fun pins s σ v vl vu sl I rx h1 h2 h3 => h pins s σ H x v vl vu lo hi sl Q I rx h1 h2 h3 q
def WSl (X : Cx) (R : Reg) (d : Dt) (lo hi : Option Int) (P : Dt → Prop) : Prop := ∀ F H x Q, Wf R F H → Rp X.K F d x → Ct X.K R F H P Q → slOf X x lo hi H Q
def EO (X : Cx) (R : Reg) (G : List Sl) (e : Option Expr) (P : Option Int → Prop) : Prop := match e with
  | none => P none
  | some e => E X R G e fun d => ∃ i, d = .int i ∧ P (some i)
def toOf (X : Cx) : Option Expr → TO
  | none => tNoPart
  | some e => tPart (tOf X e)
theorem po_w {e : Option Expr} : PO X e (toOf X e) := by
  cases e with
  | none => exact po_none
  | some e => exact po_some pe_w
theorem EO.run {e : Option Expr} {P : Option Int → Prop} {σ : St} {F H : Hp} {Q : Option Int → Hp → Prop} (h : EO X R G e P) (ty : Ty X.K R G σ F H) (c : ∀ o F' H', Ext R F H F' H' → P o → Q o H') : toOf X e σ H Q := by
  cases e with
  | none => exact c none F H (.refl ty.wf) h
  | some e =>
    refine (show E X R G e _ from h) σ F H _ ty fun v F1 H1 d ex r hh => ?_
    obtain ⟨i, e, p⟩ := hh
    subst e
    exact ⟨i, rp_int.mp r, c _ F1 H1 ex p⟩
theorem e_slice {e : Expr} {lo hi : Option Expr} {p2 : Pos} {P : Dt → Prop} (h : E X R G e fun d => EO X R G lo fun l => EO X R G hi fun u => WSl X R d l u P) : E X R G (.Subscript e (.Slice lo hi none p2) pos) P := fun σ F H Q ty c =>
  tOf.of (pe_slice sl_w pe_w po_w po_w) (h σ F H _ ty fun v F1 H1 d ex r h2 => h2.run (ty.ext ex) fun l F2 H2 ex2 h3 => h3.run ((ty.ext ex).ext ex2) fun u F3 H3 ex3 h4 => h4 F3 H3 v Q ex3.wf ((r.mono ex2.ff).mono ex3.ff) (c.step ((ex.trans ex2).trans ex3)))
theorem wsl_lst {ds : List Dt} {lo hi : Option Int} {P : Dt → Prop} (p : P (.lst (cutD ds lo hi))) : WSl X R (.lst ds) lo hi P := fun F H x Q w r c => by
  obtain ⟨a, vs, rfl, sq, rl⟩ := rp_lst.mp r
  exact slOf.of sl_list ⟨a, vs, rfl, SqL.of (w.fh _ _ sq), fun q hq => c _ _ _ _ (w.made hq) (rp_lst_new (w.fh.free hq) (rl.cut lo hi)) p⟩
theorem wsl_frl {ds : List Dt} {lo hi : Option Int} {P : Dt → Prop} (p : P (.lst (cutD ds lo hi))) : WSl X R (.frl ds) lo hi P := fun F H x Q w r c => by
  obtain ⟨a, vs, rfl, sq, rl⟩ := rp_frl.mp r
  exact slOf.of sl_list ⟨a, vs, rfl, w.fh.seq sq, fun q hq => c _ _ _ _ (w.made hq) (rp_lst_new (w.fh.free hq) (rl.cut lo hi)) p⟩

/-! ### one's own lists -/
theorem Ty.own {K : PySem.W.Frag} {σ : St} {F H : Hp} (ty : Ty K R G σ F H) {i : Nat} {d : Dt} (hg : G[i]? = some (.ow d)) : ∃ o, σ[i]? = some (some (.ref o)) ∧ F o = none ∧ ¬ R.M o ∧ OwO K F H o d := by
  obtain ⟨v, e, o, e2, h1, h2, h3⟩ := ty.sl.get hg
  exact ⟨o, by rw [e, e2], h1, h2, h3⟩
theorem slsOk_mut {K : PySem.W.Frag} {F H : Hp} {o : Addr} {u : HO} {d' : Dt} (fo : F o = none) (nM : ¬ R.M o) (hd : OwO K F (upd H o u) o d') : ∀ {G : List Sl} {σ : St} {i : Nat}, SlsOk K R F H G σ → (owns G σ).Nodup → (∃ d, G[i]? = some (.ow d)) → σ[i]? = some (some (.ref o)) → SlsOk K R F (upd H o u) (G.set i (.ow d')) σ := by
  have keep : ∀ {g : Sl} {v : Option V}, SlOk K R F H g v → (∀ d, g = .ow d → v ≠ some (.ref o)) → SlOk K R F (upd H o u) g v := fun {g v} h hn => by
    cases g with
    | no => trivial
    | sh d => exact h
    | ow d =>
      obtain ⟨p, e, h1, h2, h3⟩ := h
      have ne : p ≠ o := fun z => hn d rfl (by rw [e, z])
      exact ⟨p, e, h1, h2, h3.mono (.refl _) fun u' q => by rw [upd_ne ne]; exact q⟩
  intro G σ i h
  induction h generalizing i with
  | nil => intro _ hg _; obtain ⟨d, hg⟩ := hg; simp at hg
  | @cons g v Gs vs h t ih =>
    intro nd hg hs
    obtain ⟨d, hg⟩ := hg
    cases i with
    | zero =>
      have e1 := Option.some.inj hg
      have e2 := Option.some.inj hs
      subst e1 e2
      simp only [owns, List.nodup_cons] at nd
      refine .cons ⟨o, rfl, fo, nM, hd⟩ ?_
      have all : ∀ {Gs : List Sl} {vs : List (Option V)}, SlsOk K R F H Gs vs → o ∉ owns Gs vs → SlsOk K R F (upd H o u) Gs vs := fun {Gs vs} t => by
        induction t with
        | nil => intro _; exact .nil
        | @cons g v Gs vs h t ih2 =>
          intro hn
          have hn2 : o ∉ owns Gs vs ∧ ∀ d, g = .ow d → v ≠ some (.ref o) := by
            cases g with
            | no => exact ⟨by simpa [owns] using hn, fun d z => nomatch z⟩
            | sh d => exact ⟨by simpa [owns] using hn, fun d z => nomatch z⟩
            | ow d =>
              cases v with
              | none => exact ⟨by simpa [owns] using hn, fun d _ z => nomatch z⟩
              | some x =>
                cases x with
                | ref p =>
                  simp only [owns, List.mem_cons, not_or] at hn
                  exact ⟨hn.2, fun d _ z => hn.1 (by injection z with z; injection z with z; exact z.symm)⟩
                | _ => exact ⟨by simpa [owns] using hn, fun d _ z => nomatch z⟩
          exact .cons (keep h hn2.2) (ih2 hn2.1)
      exact all t nd.1
    | succ j =>
      have hg' : Gs[j]? = some (.ow d) := by simpa using hg
      have hs' : vs[j]? = some (some (.ref o)) := by simpa using hs
      have mo := mem_owns hg' hs'
      have nd2 : (owns Gs vs).Nodup ∧ ∀ d, g = .ow d → v ≠ some (.ref o) := by
        cases g with
        | no => exact ⟨by simpa [owns] using nd, fun d z => nomatch z⟩
        | sh d => exact ⟨by simpa [owns] using nd, fun d z => nomatch z⟩
        | ow d =>
          cases v with
          | none => exact ⟨by simpa [owns] using nd, fun d _ z => nomatch z⟩
          | some x =>
            cases x with
            | ref p =>
              simp only [owns, List.nodup_cons] at nd
              exact ⟨nd.2, fun d _ z => nd.1 (by injection z with z; injection z with z; rw [z]; exact mo)⟩
            | _ => exact ⟨by simpa [owns] using nd, fun d _ z => nomatch z⟩
      exact .cons (keep h nd2.2) (ih nd2.1 ⟨d, hg'⟩ hs')
theorem owns_same {G : List Sl} {σ : St} {i : Nat} {d d' : Dt} (hg : G[i]? = some (.ow d)) : owns (G.set i (.ow d')) σ = owns G σ := by
  induction G generalizing σ i with
  | nil => simp
  | cons g G ih =>
    cases σ with
    | nil =>
      cases i with
      | zero => simp [owns]
      | succ j => simp [owns]
    | cons v vs =>
      cases i with
      | zero =>
        have e1 := Option.some.inj hg
        subst e1
        show owns (.ow d' :: G) (v :: vs) = owns (.ow d :: G) (v :: vs)
        cases v with
        | none => simp [owns]
        | some x => cases x <;> simp [owns]
      | succ j =>
        have q := ih (σ := vs) (i := j) (by simpa using hg)
        show owns (g :: G.set j (.ow d')) (v :: vs) = owns (g :: G) (v :: vs)
        cases g with
        | no => simpa [owns] using q
        | sh d => simpa [owns] using q
        | ow d =>
          cases v with
          | none => simpa [owns] using q
          | some x => cases x <;> simp [owns, q]
theorem Ty.mut {K : PySem.W.Frag} {σ : St} {F H : Hp} (ty : Ty K R G σ F H) {i : Nat} {d d' : Dt} {o : Addr} {u : HO} (hg : G[i]? = some (.ow d)) (hs : σ[i]? = some (some (.ref o))) (hd : OwO K F (upd H o u) o d') : Ty K R (G.set i (.ow d')) σ F (upd H o u) := by
  obtain ⟨o2, e, fo, nM, ho⟩ := ty.own hg
  rw [hs] at e
  cases e
  refine ⟨⟨fun a z h => ?_, ty.wf.off, fun a m z => ?_, R.st H _ (fun a z m h => ?_) ty.wf.b⟩, slsOk_mut fo nM hd ty.sl ty.nd ⟨d, hg⟩ hs, by rw [owns_same hg]; exact ty.nd⟩
  · rw [upd_ne (fun z => by rw [z, fo] at h; cases h)]
    exact ty.wf.fh a z h
  · have nz : a ≠ o := fun z => nM (z ▸ m)
    rw [upd_ne nz] at z
    exact ty.wf.oc a m z
  · have nz : a ≠ o := fun z => nM (z ▸ m)
    rw [upd_ne nz]
    exact h
theorem Bs.mut {F0 H0 F H : Hp} {σ : St} (b : Bs R F0 H0 G σ F H) {K : PySem.W.Frag} {i : Nat} {d d' : Dt} {o : Addr} {u : HO} (ty : Ty K R (G.set i (.ow d')) σ F (upd H o u)) (hg : G[i]? = some (.ow d)) (hs : σ[i]? = some (some (.ref o))) : Bs R F0 H0 (G.set i (.ow d')) σ F (upd H o u) := by
  have fo := b.fresh o (mem_owns hg hs)
  exact ⟨⟨ty.wf, b.ext.ff, fun a z n h => by rw [upd_ne (ne_of_none h fo)]; exact b.ext.hh a z n h, b.ext.fr⟩, (by rw [owns_same hg]; exact b.fresh), b.z⟩
/-- xs.append(e), xs one's own -/
theorem s_app (i : Nat) {x : Str} {e : Expr} {ds : List Dt} {apos cpos p : Pos} (hg : G[i]? = some (.ow (.lst ds))) (hN : X.N[i]? = some x) (hv : Vis X.env.scope x) (hl : ds.length < 100000) (h : E X R G e fun d => k.nx (G.set i (.ow (.lst (ds ++ [d])))))
    (hd : (x == ("__debug__" : Str)) = false := by decide) (hcd : (x == ("__classdict__" : Str)) = false := by decide)
    (hbase : attributeBase (.Name x p) "append" X.env (eval (.Name x p) X.env) = eval (.Name x p) X.env := by rfl)
    (hfew : ((backTo cpos (starEach [e] X.env)).all (fun x => !x.1) && (backToKw cpos (keywordEach [] X.env)).all (fun x => x.1.isSome) && decide ([e].length + ([] : List Keyword).length + (if ([] : List Keyword).isEmpty then 0 else 1) < 30)) = true := by rfl)
    (hline : (apos.endLine == cpos.line) = true := by rfl) (hs : starEach [e] X.env = (false, eval e X.env) :: starEach [] X.env := by rfl) (hplain : (backTo cpos (starEach [] X.env)).any (·.1) = false := by rfl)
    (hsw : swapsWith (.Call (.Attribute (.Name x p) "append" apos) [e] [] cpos) none pos.line X.env = pure false := by rfl) :
    S1 X R (.Expr (.Call (.Attribute (.Name x p) "append" apos) [e] [] cpos) pos) G k := fun F0 H0 σ F H D ty b c => by
  obtain ⟨o, so, fo, nM, vs, ho, rl⟩ := ty.own hg
  refine s1Of.of (ps_expr (pe_bm PySem.F.plainAttrs_list PySem.F.slot_list_append PySem.F.type_list_append mt_append (pe_var hN hv hd hcd) (pa_cons pe_w pa_nil hs) hbase hfew hline hs hplain) hsw) ?_
  refine ⟨.ref o, so, .inl ⟨rfl, vs, SqL.of ho⟩, h σ F H _ ty fun v F1 H1 d ex r p => ?_⟩
  have ho1 := ex.hh o _ nM ho
  refine ⟨o, vs, v, rfl, rfl, ho1, ?_, ?_⟩
  · rw [← rl.length]
    exact Nat.lt_of_lt_of_le hl (by decide)
  · have ty1 := (ty.ext ex).mut (d' := .lst (ds ++ [d])) (u := .lst (vs ++ [v])) hg so ⟨_, upd_same, (rl.mono ex.ff).append (.cons r .nil)⟩
    exact c.nx _ _ _ _ p ty1 ((b.step ex).mut ty1 hg so)
/-- xs[i] = e, xs one's own -/
theorem s_setL (i : Nat) {x : Str} {e ix : Expr} {ds : List Dt} {p spos : Pos} (hg : G[i]? = some (.ow (.lst ds))) (hN : X.N[i]? = some x) (hv : Vis X.env.scope x)
    (h : E X R G e fun d => E X R G ix fun di => ∃ (z : Int) (j : Nat), di = .int z ∧ ixN ds.length z = some j ∧ k.nx (G.set i (.ow (.lst (ds.set j d)))))
    (hd : (x == ("__debug__" : Str)) = false := by decide) (hcd : (x == ("__classdict__" : Str)) = false := by decide)
    (ha : ∀ v, assign (.Subscript (.Name x p) ix spos) X.env v = (do
      let ov ← holding [v] (eval (.Name x p) X.env)
      let iv ← holding [v, ov] (eval ix X.env)
      standAt spos
      holding [v, ov, iv] (setItem ov iv v)
      release [v, ov, iv] []) := by intro _; rfl)
    (hs : swapsWithSole [.Subscript (.Name x p) ix spos] e pos.line X.env = pure false := by rfl) (hw : swappedStores [.Subscript (.Name x p) ix spos] e X.env = pure none := by rfl)
    (h1 : (assignEach [.Subscript (.Name x p) ix spos] X.env).map (·.2) = [assign (.Subscript (.Name x p) ix spos) X.env] := by rfl) : S1 X R (.Assign [.Subscript (.Name x p) ix spos] e pos) G k := fun F0 H0 σ F H D ty b c => by
  obtain ⟨o, so, fo, nM, vs, ho, rl⟩ := ty.own hg
  refine s1Of.of (ps_asg pe_w (pg_sub (pe_var hN hv hd hcd) pe_w set_list ha) hs hw h1) (h σ F H _ ty fun v F1 H1 d ex r h2 => ⟨.ref o, so, h2 σ F1 H1 _ (ty.ext ex) fun w F2 H2 di ex2 r2 ⟨z, j, e1, hj, p⟩ => ?_⟩)
  subst e1
  have ho2 := ex2.hh o _ nM (ex.hh o _ nM ho)
  refine ⟨o, vs, z, j, rfl, rp_int.mp r2, ho2, by rw [← rl.length]; exact hj, ?_⟩
  have e12 := ex.trans ex2
  have ty1 := (ty.ext e12).mut (d' := .lst (ds.set j d)) (u := .lst (vs.set j v)) hg so ⟨_, upd_same, (rl.mono e12.ff).set j (r.mono ex2.ff)⟩
  exact c.nx _ _ _ _ p ty1 ((b.step e12).mut ty1 hg so)
/-- xs[i], xs one's own -/
theorem e_ixO (i : Nat) {x : Str} {ix : Expr} {ds : List Dt} {p : Pos} {P : Dt → Prop} (hg : G[i]? = some (.ow (.lst ds))) (hN : X.N[i]? = some x) (hv : Vis X.env.scope x) (h : E X R G ix fun di => ∃ z d, di = .int z ∧ atI ds z = some d ∧ P d)
    (hs : PlainIx ix := by intro _ _; rfl) (hd : (x == ("__debug__" : Str)) = false := by decide) (hcd : (x == ("__classdict__" : Str)) = false := by decide) : E X R G (.Subscript (.Name x p) ix pos) P := fun σ F H Q ty c => by
  obtain ⟨o, so, fo, nM, vs, ho, rl⟩ := ty.own hg
  refine tOf.of (pe_ix ix_list (pe_var hN hv hd hcd) pe_w hs) ⟨.ref o, so, h σ F H _ ty fun w F1 H1 di ex r ⟨z, d, e1, hz, p⟩ => ?_⟩
  subst e1
  obtain ⟨v, hv1, rv⟩ := rl.at hz
  exact ⟨o, vs, z, v, rfl, rp_int.mp r, SqL.of (ex.hh o _ nM ho), hv1, c v F1 H1 d ex (rv.mono ex.ff) p⟩
/-- len(xs), xs one's own -/
theorem e_lenO (i : Nat) {x : Str} {ds : List Dt} {p p2 : Pos} {P : Dt → Prop} (hg : G[i]? = some (.ow (.lst ds))) (hN : X.N[i]? = some x) (hv : Vis X.env.scope x) (hgl : Gl X "len") (hm : X.mg "len" = none) (q : P (.int (ds.length : Int)))
    (hd : (x == ("__debug__" : Str)) = false := by decide) (hcd : (x == ("__classdict__" : Str)) = false := by decide) (hs : starEach [.Name x p2] X.env = (false, eval (.Name x p2) X.env) :: starEach [] X.env := by rfl) (hpl : (backTo pos (starEach [] X.env)).any (·.1) = false := by rfl) : E X R G (.Call (.Name "len" p) [.Name x p2] [] pos) P := fun σ F H Q ty c => by
  obtain ⟨o, so, fo, nM, vs, ho, rl⟩ := ty.own hg
  refine tOf.of (pe_callB call_len_seq hgl hm PySem.boot_len (pa_cons (pe_var hN hv hd hcd) pa_nil hs) (by decide) (by decide) hs hpl) ⟨.ref o, so, o, vs, rfl, .inl (SqL.of ho), ?_⟩
  exact c.here ty.wf (d := .int (ds.length : Int)) (rp_int.mpr (by rw [rl.length])) q
end
end VS
set_option Elab.async false
set_option linter.all false
set_option maxRecDepth 100000
namespace VS
open PySem PySem.Spec L2
section
variable {X : Cx} {R : Reg} {G : List Sl} {pos : Pos} {k : Kt}

/-! ### a new list, one's own -/
def CtN (K : PySem.W.Frag) (R : Reg) (F H : Hp) (P : List Dt → Prop) (Q : VK) : Prop := ∀ p F' H' ds vs, Ext R F H F' H' → H p = none → ¬ R.M p → H' p = some (.lst vs) → F' p = none → RpL K F' ds vs → P ds → Q (.ref p) H'
def EN (X : Cx) (R : Reg) (G : List Sl) (e : Expr) (P : List Dt → Prop) : Prop := ∀ σ F H Q, Ty X.K R G σ F H → CtN X.K R F H P Q → tOf X e σ H Q
theorem Ext.free {F H F1 H1 : Hp} (e : Ext R F H F1 H1) {p : Addr} (h : H1 p = none) : H p = none := by
  cases q : H p with
  | none => rfl
  | some o => exact absurd h (e.keep (by rw [q]; exact fun z => nomatch z))
theorem en_lst {es : List Expr} {P : List Dt → Prop} (h : EA X R G es fun ds => ds.length ≤ 100000 ∧ P ds) : EN X R G (.List es pos) P := fun σ F H Q ty c =>
  tOf.of (pe_lst pa_w) (h σ F H _ ty fun vs F1 H1 ds ex1 r1 ⟨hl, p⟩ => ⟨by rw [← r1.length]; exact Nat.le_trans hl (by decide), fun q hq => c q F1 _ ds vs (ex1.trans (ex1.wf.own hq)) (ex1.free hq) (ex1.wf.new hq) upd_same (ex1.wf.fh.free hq) r1 p⟩)
theorem Ty.setOwn {K : PySem.W.Frag} {σ : St} {F H F' H' : Hp} (ty : Ty K R G σ F H) (ex : Ext R F H F' H') (i : Nat) {p : Addr} {d : Dt} (hp : H p = none) (nM : ¬ R.M p) (fp : F' p = none) (ho : OwO K F' H' p d) : Ty K R (G.set i (.ow d)) (σ.set i (some (.ref p))) F' H' := by
  refine ⟨ex.wf, (ty.sl.ext ex).set i ⟨p, rfl, fp, nM, ho⟩, owns_nodup_set i ty.nd fun z => ?_⟩
  have z2 := (owns_set_sub (g := .no) (v := none) i (fun _ z => nomatch z)).subset z
  obtain ⟨j, d', h1, h2⟩ := owns_mem z2
  obtain ⟨o, so, _, _, oo⟩ := ty.own h1
  rw [h2] at so
  cases so
  exact oo.some hp
theorem Bs.setOwn {F0 H0 F H F' H' : Hp} {σ : St} (b : Bs R F0 H0 G σ F H) (ex : Ext R F H F' H') (i : Nat) {p : Addr} {d : Dt} (hp : H p = none) : Bs R F0 H0 (G.set i (.ow d)) (σ.set i (some (.ref p))) F' H' := by
  refine ⟨(b.step ex).ext, fun o ho => ?_, b.z⟩
  rcases owns_set_own i o ho with e | e
  · rw [e]; exact b.ext.free hp
  · exact b.fresh o e
theorem s_asgN (i : Nat) {x : Str} {e : Expr} {pos' : Pos} (hN : X.N.Nodup) (hi : X.N[i]? = some x) (hx : Loc X.env.scope x) (h : EN X R G e fun ds => k.nx (G.set i (.ow (.lst ds))))
    (hs : swapsWith e (some (.Name x pos')) pos.line X.env = pure false := by rfl) (hf : X.fn x = true ∨ X.env.scope.names.lookup x = some .local := by first | exact .inl rfl | exact .inr rfl | assumption) : S1 X R (.Assign [.Name x pos'] e pos) G k := fun F0 H0 σ F H D ty b c =>
  s1Of.of (ps_set hN hi hx pe_w hs hf) (h σ F H _ ty fun p F1 H1 ds vs ex hp nM ho fp rl q => c.nx _ _ F1 H1 q (ty.setOwn ex i hp nM fp ⟨vs, ho, rl⟩) (b.setOwn ex i hp))
theorem blk_pe {scope : Scope} {e : Expr} (s : Shared) (H : Hp) (C : Addr) (cl : List (Str × Addr)) (fp : List Addr) : PE (X.blk s H scope (compEnvC scope cl C X.env) fp) e (teB X scope e) := ⟨fun pins s' σ H' Q I h => by have z := h _ ⟨s, H, C, cl, fp, rfl⟩; unfold tOf at z; exact z pins s' I⟩
theorem blk_pts {scope : Scope} {ifs : List Expr} (s : Shared) (H : Hp) (C : Addr) (cl : List (Str × Addr)) (fp : List Addr) : PTs (X.blk s H scope (compEnvC scope cl C X.env) fp) ifs (ttB X scope ifs) := ⟨fun pins s' σ H' Q I h => by have z := h _ ⟨s, H, C, cl, fp, rfl⟩; unfold tsOf at z; exact z pins s' I⟩
theorem blk_pg {scope : Scope} {tg : Expr} (s : Shared) (H : Hp) (C : Addr) (cl : List (Str × Addr)) (fp : List Addr) : PG (X.blk s H scope (compEnvC scope cl C X.env) fp) tg (tgB X scope tg) := ⟨fun pins s' σ H' v u Q I r h => by have z := h _ ⟨s, H, C, cl, fp, rfl⟩; unfold tgOf at z; exact z pins s' u I r⟩
theorem en_lc {tg iter elt : Expr} {ifs : List Expr} {scope : Scope} {own : List (Str × Nat)} {P : List Dt → Prop} (hc : X.calm = true) (hN : X.N.Nodup) (ok : BlkOk X.N X.env.scope scope own)
    (h : I X R G tg iter fun ds => ds.length ≤ 100000 ∧ ∃ J, Lc X R G tg elt ifs scope (own.map (·.2)) ds J ∧ ∀ acc, J ds.length acc → P acc) (hs : ∀ x, foldedSetIterable iter X.env x = pure x := by intro _; rfl) : EN X R G (.ListComp elt [⟨tg, iter, ifs, 0⟩] scope pos) P := fun σ F H Q ty c => by
  refine tOf.of (pe_lc hc hN pi_w ok blk_pg blk_pts blk_pe hs) (lc_run ty ?_)
  intro σ1 F1 H1 Q1 ty1 c1
  exact h σ1 F1 H1 Q1 ty1 fun J F2 H2 ds ex it ⟨hl, Jd, lc, fin⟩ => c1 J F2 H2 ds ex it ⟨hl, Jd, lc, fun acc ja D F' H' vacc ex' hD nM hD' fD' ra => c D F' H' acc vacc ex' hD nM hD' fD' ra (fin acc ja)⟩
/-- y = [.. for ..]: y one's own -/
theorem s_lcN (i : Nat) {y : Str} {py cpos : Pos} {tg iter elt : Expr} {ifs : List Expr} {scope : Scope} {own : List (Str × Nat)} (hc : X.calm = true) (hN : X.N.Nodup) (hy : X.N[i]? = some y) (hyl : X.env.scope.names.lookup y = some .local)
    (hsw : swapsWith (.ListComp elt [⟨tg, iter, ifs, 0⟩] scope cpos) (some (.Name y py)) pos.line X.env = pure true) (ok : BlkOk X.N X.env.scope scope own)
    (h : I X R G tg iter fun ds => ds.length ≤ 100000 ∧ ∃ J, Lc X R G tg elt ifs scope (own.map (·.2)) ds J ∧ ∀ acc, J ds.length acc → k.nx (G.set i (.ow (.lst acc)))) (hs : ∀ x, foldedSetIterable iter X.env x = pure x := by intro _; rfl) :
    S1 X R (.Assign [.Name y py] (.ListComp elt [⟨tg, iter, ifs, 0⟩] scope cpos) pos) G k := fun F0 H0 σ F H D ty b c => by
  refine s1Of.of (ps_setLc hc hN hy hyl hsw pi_w ok blk_pg blk_pts blk_pe hs) (lc_run ty ?_)
  intro σ1 F1 H1 Q1 ty1 c1
  exact h σ1 F1 H1 Q1 ty1 fun J F2 H2 ds ex it ⟨hl, Jd, lc, fin⟩ => c1 J F2 H2 ds ex it ⟨hl, Jd, lc, fun acc ja D' F' H' vacc ex' hD nM hD' fD' ra => c.nx _ _ F' H' (fin acc ja) (ty.setOwn ex' i hD nM fD' ⟨vacc, hD', ra⟩) (b.setOwn ex' i hD)⟩
/-- .. y shared -/
theorem s_lc (i : Nat) {y : Str} {py cpos : Pos} {tg iter elt : Expr} {ifs : List Expr} {scope : Scope} {own : List (Str × Nat)} (hc : X.calm = true) (hN : X.N.Nodup) (hy : X.N[i]? = some y) (hyl : X.env.scope.names.lookup y = some .local)
    (hsw : swapsWith (.ListComp elt [⟨tg, iter, ifs, 0⟩] scope cpos) (some (.Name y py)) pos.line X.env = pure true) (ok : BlkOk X.N X.env.scope scope own)
    (h : I X R G tg iter fun ds => ds.length ≤ 100000 ∧ ∃ J, Lc X R G tg elt ifs scope (own.map (·.2)) ds J ∧ ∀ acc, J ds.length acc → k.nx (G.set i (.sh (.lst acc)))) (hs : ∀ x, foldedSetIterable iter X.env x = pure x := by intro _; rfl) :
    S1 X R (.Assign [.Name y py] (.ListComp elt [⟨tg, iter, ifs, 0⟩] scope cpos) pos) G k := fun F0 H0 σ F H D ty b c => by
  refine s1Of.of (ps_setLc hc hN hy hyl hsw pi_w ok blk_pg blk_pts blk_pe hs) (lc_run ty ?_)
  intro σ1 F1 H1 Q1 ty1 c1
  refine h σ1 F1 H1 Q1 ty1 fun J F2 H2 ds ex it ⟨hl, Jd, lc, fin⟩ => c1 J F2 H2 ds ex it ⟨hl, Jd, lc, fun acc ja D' F' H' vacc ex' hD nM hD' fD' ra => ?_⟩
  have ex2 : Ext R F H (upd F' D' (.lst vacc)) H' := by
    refine ⟨⟨fun a o h => ?_, fun a m => ?_, ex'.wf.oc, ex'.wf.b⟩, ex'.ff.trans (same_upd fD'), ex'.hh, fun a h n => ?_⟩
    · by_cases q : a = D'
      · subst q; rw [upd_same] at h; rw [hD']; exact h
      · rw [upd_ne q] at h; exact ex'.wf.fh a o h
    · rw [upd_ne (fun z => nM (by rw [← z]; exact m))]
      exact ex'.wf.off a m
    · rw [upd_ne (fun z => h (by rw [z]; exact hD))]
      exact ex'.fr a h n
  exact c.nx _ _ _ H' (fin acc ja) ((ty.ext ex2).set i (rp_lst_new fD' ra)) ((b.step ex2).set i)
end

/-! ### the box of a law: [[cells], place, seed] -/
def boxB (b c : Addr) (n : Nat) (H : Hp) : Prop := ∃ (cells : List Int) (p s : Int), H b = some (.lst [.ref c, .int p, .int s]) ∧ H c = some (.lst (cells.map .int)) ∧ cells.length = n ∧ (∀ x ∈ cells, 0 ≤ x) ∧ 0 ≤ s ∧ s < 2147483647
def boxR (b c : Addr) (n : Nat) : Reg := ⟨fun a => a = b ∨ a = c, fun H => b ≠ c ∧ n ≤ 63 ∧ boxB b c n H, fun H H' h ⟨nb, hn, cells, p, s, h1, h2, h3⟩ => ⟨nb, hn, cells, p, s, h b _ (.inl rfl) h1, h c _ (.inr rfl) h2, h3⟩, fun _ _ => True, fun _ _ _ _ _ _ => trivial⟩
/-- stores by values -/
@[irreducible] def seOf (X : Cx) : TSet := fun o i v H Q => ∀ pins s σ ov iv u, Inv X pins σ H s → RelV o ov → RelV i iv → RelV v u → wpAny (model X.prog X.w) X.A (setItem ov iv u) (fun _ s' => ∃ H', Inv X pins σ H' s' ∧ Q H') X.xe s
theorem se_w {X : Cx} : PSet X (seOf X) := fun pins s σ H o i v ov iv u Q I ro ri rv h => by unfold seOf at h; exact h pins s σ ov iv u I ro ri rv
theorem seOf.of {X : Cx} {t : TSet} {o i v : V} {H : Hp} {Q : Hp → Prop} (h : PSet X t) (q : t o i v H Q) : seOf X o i v H Q := by unfold seOf; exact fun pins s σ ov iv u I ro ri rv => h pins s σ H o i v ov iv u Q I ro ri rv q
def WS (X : Cx) (R : Reg) (o i v : Dt) (P : Prop) : Prop := ∀ F H x y z Q, Wf R F H → Rp X.K F o x → Rp X.K F i y → Rp X.K F v z → (∀ H', Ext R F H F H' → P → Q H') → seOf X x y z H Q
section
variable {X : Cx} {R : Reg} {G : List Sl} {pos : Pos} {k : Kt} {b c : Addr} {n : Nat}
theorem s_set {o ix e : Expr} {spos : Pos} (h : E X R G e fun dv => E X R G o fun d => E X R G ix fun di => WS X R d di dv (k.nx G))
    (ha : ∀ v, assign (.Subscript o ix spos) X.env v = (do
      let ov ← holding [v] (eval o X.env)
      let iv ← holding [v, ov] (eval ix X.env)
      standAt spos
      holding [v, ov, iv] (setItem ov iv v)
      release [v, ov, iv] []) := by intro _; rfl)
    (hs : swapsWithSole [.Subscript o ix spos] e pos.line X.env = pure false := by rfl) (hw : swappedStores [.Subscript o ix spos] e X.env = pure none := by rfl)
    (h1 : (assignEach [.Subscript o ix spos] X.env).map (·.2) = [assign (.Subscript o ix spos) X.env] := by rfl) : S1 X R (.Assign [.Subscript o ix spos] e pos) G k := fun F0 H0 σ F H D ty b c =>
  s1Of.of (ps_asg pe_w (pg_sub pe_w pe_w se_w ha) hs hw h1) (h σ F H _ ty fun v F1 H1 d ex r h2 => h2 σ F1 H1 _ (ty.ext ex) fun w F2 H2 d2 ex2 r2 h3 => h3 σ F2 H2 _ ((ty.ext ex).ext ex2) fun u F3 H3 d3 ex3 r3 h4 =>
    h4 F3 H3 w u v _ ex3.wf (r2.mono ex3.ff) r3 ((r.mono ex2.ff).mono ex3.ff) fun H' exn p => c.nx _ _ F3 H' p ((((ty.ext ex).ext ex2).ext ex3).ext exn) ((((b.step ex).step ex2).step ex3).step exn))
theorem wi_box0 {P : Dt → Prop} (p : P (.adr c)) : WI X (boxR b c n) (.adr b) (.int 0) P := fun F H x y Q w rx ry ct => by
  obtain ⟨nb, hn, cells, pl, s, h1, h2, h3⟩ := w.b
  rw [rp_adr.mp rx, rp_int.mp ry]
  exact ixOf.of ix_list ⟨b, _, 0, .ref c, rfl, rfl, SqL.of h1, atI_nat (j := 0) rfl, ct.here w (rp_adr.mpr rfl) p⟩
theorem wi_box1 {P : Dt → Prop} (p : ∀ i, P (.int i)) : WI X (boxR b c n) (.adr b) (.int 1) P := fun F H x y Q w rx ry ct => by
  obtain ⟨nb, hn, cells, pl, s, h1, h2, h3⟩ := w.b
  rw [rp_adr.mp rx, rp_int.mp ry]
  exact ixOf.of ix_list ⟨b, _, 1, .int pl, rfl, rfl, SqL.of h1, atI_nat (j := 1) rfl, ct.here w (rp_int.mpr rfl) (p pl)⟩
theorem wi_box2 {P : Dt → Prop} (p : ∀ i : Int, 0 ≤ i → i < 2147483647 → P (.int i)) : WI X (boxR b c n) (.adr b) (.int 2) P := fun F H x y Q w rx ry ct => by
  obtain ⟨nb, hn, cells, pl, s, h1, h2, h3, h4, h5, h6⟩ := w.b
  rw [rp_adr.mp rx, rp_int.mp ry]
  exact ixOf.of ix_list ⟨b, _, 2, .int s, rfl, rfl, SqL.of h1, atI_nat (j := 2) rfl, ct.here w (rp_int.mpr rfl) (p s h5 h6)⟩
theorem wi_cell {i : Int} {P : Dt → Prop} (h0 : 0 ≤ i) (hi : i < n) (p : ∀ x : Int, 0 ≤ x → P (.int x)) : WI X (boxR b c n) (.adr c) (.int i) P := fun F H x y Q w rx ry ct => by
  obtain ⟨nb, hn, cells, pl, s, h1, h2, h3, h4, h5, h6⟩ := w.b
  rw [rp_adr.mp rx, rp_int.mp ry]
  obtain ⟨j, rfl⟩ : ∃ j : Nat, i = (j : Int) := ⟨i.toNat, by omega⟩
  have hj : j < cells.length := by omega
  refine ixOf.of ix_list ⟨c, _, j, .int cells[j], rfl, rfl, SqL.of h2, atI_nat (j := j) (by rw [List.getElem?_map, List.getElem?_eq_getElem hj]; rfl), ct.here w (rp_int.mpr rfl) (p _ (h4 _ (List.getElem_mem hj)))⟩
theorem wc_lenc {P : Dt → Prop} (p : n ≤ 63 → P (.int (n : Int))) : WC X (boxR b c n) (.builtin "len") [.adr c] P := fun F H xs Q w r ct => by
  obtain ⟨nb, hn, cells, pl, s, h1, h2, h3, h4, h5, h6⟩ := w.b
  obtain ⟨v, rfl, r1⟩ := r.one
  rw [rp_adr.mp r1]
  refine crOf.of call_len_seq ⟨c, _, rfl, .inl (SqL.of h2), ?_⟩
  exact ct.here w (d := .int (n : Int)) (rp_int.mpr (by simp [h3])) (p hn)
theorem box_ext {F H : Hp} {a : Addr} {o : HO} (w : Wf (boxR b c n) F H) (ha : a = b ∨ a = c) (hb : boxB b c n (upd H a o)) : Ext (boxR b c n) F H F (upd H a o) := by
  have fa : F a = none := w.off a ha
  refine ⟨⟨fun x u h => ?_, w.off, fun x m z => ?_, w.b.1, w.b.2.1, hb⟩, .refl _, fun x u nm h => ?_, fun _ _ h => h⟩
  · rw [upd_ne (fun z => by rw [z, fa] at h; cases h)]
    exact w.fh x u h
  · by_cases q : x = a
    · rw [q, upd_same] at z; cases z
    · rw [upd_ne q] at z; exact w.oc x m z
  · rw [upd_ne (fun z => nm (by rw [z]; exact ha))]
    exact h
theorem ws_cell {i v : Int} {P : Prop} (h0 : 0 ≤ i) (hi : i < n) (hv : 0 ≤ v) (p : P) : WS X (boxR b c n) (.adr c) (.int i) (.int v) P := fun F H x y z Q w rx ry rz ct => by
  obtain ⟨nb, hn, cells, pl, s, h1, h2, h3, h4, h5, h6⟩ := id w.b
  rw [rp_adr.mp rx, rp_int.mp ry, rp_int.mp rz]
  obtain ⟨j, rfl⟩ : ∃ j : Nat, i = (j : Int) := ⟨i.toNat, by omega⟩
  have hj : j < cells.length := by omega
  refine seOf.of set_list ⟨c, _, j, j, rfl, rfl, h2, ?_, ct _ (box_ext w (.inr rfl) ⟨cells.set j v, pl, s, ?_, ?_, ?_, ?_, h5, h6⟩) p⟩
  · unfold ixN
    rw [List.length_map, if_pos (by omega), if_pos (by omega)]
    simp
  · rw [upd_ne nb]; exact h1
  · rw [upd_same, List.map_set]
  · simp [h3]
  · intro u hu
    rcases List.mem_or_eq_of_mem_set hu with z | z
    · exact h4 u z
    · rw [z]; exact hv
theorem ws_box1 {v : Int} {P : Prop} (p : P) : WS X (boxR b c n) (.adr b) (.int 1) (.int v) P := fun F H x y z Q w rx ry rz ct => by
  obtain ⟨nb, hn, cells, pl, s, h1, h2, h3, h4, h5, h6⟩ := id w.b
  rw [rp_adr.mp rx, rp_int.mp ry, rp_int.mp rz]
  exact seOf.of set_list ⟨b, _, 1, 1, rfl, rfl, h1, rfl, ct _ (box_ext w (.inl rfl) ⟨cells, v, s, upd_same, by rw [upd_ne (Ne.symm nb)]; exact h2, h3, h4, h5, h6⟩) p⟩
theorem ws_box2 {v : Int} {P : Prop} (hv : 0 ≤ v) (hv2 : v < 2147483647) (p : P) : WS X (boxR b c n) (.adr b) (.int 2) (.int v) P := fun F H x y z Q w rx ry rz ct => by
  obtain ⟨nb, hn, cells, pl, s, h1, h2, h3, h4, h5, h6⟩ := id w.b
  rw [rp_adr.mp rx, rp_int.mp ry, rp_int.mp rz]
  exact seOf.of set_list ⟨b, _, 2, 2, rfl, rfl, h1, rfl, ct _ (box_ext w (.inl rfl) ⟨cells, pl, v, upd_same, by rw [upd_ne (Ne.symm nb)]; exact h2, h3, h4, hv, hv2⟩) p⟩
end
/-- a def's promise whose first argument is the box -/
def spB (K : PySem.W.Frag) (m : Nat) (φ : Ph) : Sp := fun vs H Q E => vs.length = m ∧ ∃ b c n F ds q x, Wf (boxR b c n) F H ∧ RpL K F (.adr b :: ds) vs ∧ φ ds q x ∧ (∀ v F' H' d, Ext (boxR b c n) F H F' H' → Rp K F' d v → q d → Q v H') ∧ XOk K (boxR b c n) F H x E
section
variable {X : Cx} {G : List Sl} {pos : Pos} {b c : Addr} {n : Nat}
theorem e_callX {x : Str} {ps : List Str} {φ : Ph} {m j : Nat} {e : Expr} {es : List Expr} {p : Pos} {P : Dt → Prop} (F : Fn X.prog X.w X.K X.mg X.base j x ps [] (spB X.K m φ)) (hr : Room j X.A) (hg : Gl X x)
    (h : EA X (boxR b c n) G (e :: es) fun ds => ∃ ds', ds = .adr b :: ds' ∧ ds.length = m ∧ φ ds' P fun _ _ _ => False)
    (hdb : (x == ("__debug__" : Str)) = false := by decide) (he : starEach (e :: es) X.env = (false, eval e X.env) :: starEach es X.env := by rfl) (hpl : (backTo pos (starEach es X.env)).any (·.1) = false := by rfl) : E X (boxR b c n) G (.Call (.Name x p) (e :: es) [] pos) P := fun σ F' H Q ty ct => by
  obtain ⟨f, fd, ds, a1, a2, a3, a4, a5⟩ := F.ex
  cases a4
  refine tOf.of (pe_call a5 hr hg a1 a2 a3 .nil passL pa_w hdb he hpl) (h σ F' H _ ty fun vs F1 H1 ds ex r ⟨ds', e1, hl, hφ⟩ => ?_)
  subst e1
  rw [List.append_nil]
  exact ⟨by rw [← hl]; exact r.length.symm, b, c, n, F1, ds', P, fun _ _ _ => False, ex.wf, r, hφ, fun v F2 H2 d ex2 r2 p => ct v F2 H2 d (ex.trans ex2) r2 p, ⟨fun _ _ _ _ _ _ _ z => z.elim, fun _ _ _ z => z.elim⟩⟩
end
section
variable {P : Program} {w : World} {K : PySem.W.Frag} {mg : Str → Option Value} {base : Heap}
theorem fn_okX {x qual : Str} {st : Stmt} {f : Addr} {fd : FuncData} {dvs : List V} {kws : List (Str × V)} {N ps : List Str} {k m : Nat} {φ : Ph} (F : FD K x qual st dvs kws f fd) (Sc : FnScope N ps (defScope st)) (hn : m = ps.length)
    (h : ∀ (X : Cx) (cdv : Value) (A : Around) (outer : List Env) (s : Shared) (H : Hp) (E : XK) (b c : Addr) (n : Nat) (ds : List Dt) (q : Dt → Prop) (xd : XD), X = cxOf (L2.CX P w) P w K mg base N qual (defScope st) f cdv A outer s H E → Room k X.A → φ ds q xd → ds.length + 1 = m →
      (∀ F, Wf (boxR b c n) F H → XOk K (boxR b c n) F H xd E → S X (boxR b c n) (defBody st) (st0 N (.adr b :: ds)) { nx := fun _ => q .non, rt := q })) : FnOk P w K mg base (L2.CX P w) (k + 1) f fd ps (spB K m φ) := by
  refine FunD.ok F Sc (fun vs H Q E hh => by rw [hh.1, hn]) fun cdv A outer s H vs Q E hr hh => ?_
  obtain ⟨hl, b, c, n, F0, ds, q, xd, wf, r, hφ, hq, hx⟩ := hh
  have hS := h _ cdv A outer s H E b c n ds q xd rfl hr hφ (by rw [← hl, ← r.length]; rfl) F0 wf hx
  refine ⟨_, pss_w, hS F0 H _ F0 H _ ⟨wf, ?_, by unfold st0; rw [owns0]; exact .nil⟩ ⟨.refl wf, (by unfold st0; rw [owns0]; intro o ho; cases ho), trivial⟩ ⟨fun G σ F1 H1 z _ b => hq .non F1 H1 .non b.ext (rp_non.mpr rfl) z, fun d v F1 H1 z e rd => hq v F1 H1 d e rd z, fun _ _ _ _ z => z.elim, fun _ _ _ _ z => z.elim, fun _ _ _ _ z => z.elim⟩⟩
  unfold st0 L2.start
  rw [r.length]
  exact sls0 _ r
end
end VS
set_option Elab.async false
set_option linter.all false
set_option maxRecDepth 100000
namespace VS
open PySem PySem.Spec L2
section
variable {X : Cx} {R : Reg} {G : List Sl} {pos : Pos} {k : Kt}
/-- the name in slot i -/
theorem e_v (i : Nat) {x : Str} {d : Dt} {P : Dt → Prop} (p : P d) (hg : G[i]? = some (.sh d) := by rfl) (hN : X.N[i]? = some x := by rfl) (hv : Vis X.env.scope x := by first | exact Or.inl rfl | exact Or.inr (Or.inl rfl) | exact Or.inr (Or.inr rfl))
    (hd : (x == ("__debug__" : Str)) = false := by decide) (hcd : (x == ("__classdict__" : Str)) = false := by decide) : E X R G (.Name x pos) P := e_var i hg hN hv p hd hcd
theorem s_a (i : Nat) {x : Str} {e : Expr} {pos' : Pos} (hN : X.N.Nodup) (h : E X R G e fun d => k.nx (G.set i (.sh d))) (hi : X.N[i]? = some x := by rfl) (hx : Loc X.env.scope x := by first | exact Or.inl rfl | exact Or.inr rfl)
    (hs : swapsWith e (some (.Name x pos')) pos.line X.env = pure false := by rfl) (hf : X.fn x = true ∨ X.env.scope.names.lookup x = some .local := by first | exact .inl rfl | exact .inr rfl | assumption) : S1 X R (.Assign [.Name x pos'] e pos) G k := s_asg i hN hi hx h hs hf
theorem s_aN (i : Nat) {x : Str} {e : Expr} {pos' : Pos} (hN : X.N.Nodup) (h : EN X R G e fun ds => k.nx (G.set i (.ow (.lst ds)))) (hi : X.N[i]? = some x := by rfl) (hx : Loc X.env.scope x := by first | exact Or.inl rfl | exact Or.inr rfl)
    (hs : swapsWith e (some (.Name x pos')) pos.line X.env = pure false := by rfl) (hf : X.fn x = true ∨ X.env.scope.names.lookup x = some .local := by first | exact .inl rfl | exact .inr rfl | assumption) : S1 X R (.Assign [.Name x pos'] e pos) G k := s_asgN i hN hi hx h hs hf
theorem a_n (j : Nat) {x : Str} {d : Dt} (hN : X.N.Nodup) (hi : X.N[j]? = some x := by rfl) (hx : Loc X.env.scope x := by first | exact Or.inl rfl | exact Or.inr rfl) (hf : X.fn x = true ∨ X.env.scope.names.lookup x = some .local := by first | exact .inl rfl | exact .inr rfl | assumption) : A X (.Name x pos) d [(j, d)] := a_name j hN hi hx hf

/-! ### tests with an answer that is known -/
theorem ite_b {b : Bool} {A B : Prop} (h1 : b = true → A) (h2 : b = false → B) : if b = true then A else B := by
  cases b with
  | true => rw [if_pos rfl]; exact h1 rfl
  | false => rw [if_neg (by decide)]; exact h2 rfl
theorem ite_t {b : Bool} {A B : Prop} (h : b = true) (h1 : A) : if b = true then A else B := by rw [if_pos h]; exact h1
theorem ite_f {b : Bool} {A B : Prop} (h : b = false) (h1 : B) : if b = true then A else B := by rw [if_neg (by rw [h]; decide)]; exact h1
theorem tw_andD {a b : Expr} {es : List Expr} {u v : Bool} {P : Bool → Prop} (h1 : T X R G a fun k => k = u) (h2 : u = true → TW X R G (.BoolOp .And (b :: es) pos) fun k => k = v) (p : P (u && v)) : TW X R G (.BoolOp .And (a :: b :: es) pos) P := tw_and (h1.imp fun k e => by
  subst e
  cases k with
  | true => rw [if_pos rfl]; exact fun σ F H Q ty c => h2 rfl σ F H Q ty fun b F' H' ex e => c b F' H' ex (by rw [e]; exact p)
  | false => rw [if_neg (by decide)]; exact p)
theorem tw_orD {a b : Expr} {es : List Expr} {u v : Bool} {P : Bool → Prop} (h1 : T X R G a fun k => k = u) (h2 : u = false → TW X R G (.BoolOp .Or (b :: es) pos) fun k => k = v) (p : P (u || v)) : TW X R G (.BoolOp .Or (a :: b :: es) pos) P := tw_or (h1.imp fun k e => by
  subst e
  cases k with
  | false => rw [if_neg (by decide)]; exact fun σ F H Q ty c => h2 rfl σ F H Q ty fun b F' H' ex e => c b F' H' ex (by rw [e]; exact p)
  | true => rw [if_pos rfl]; exact p)
theorem e_andD {a b : Expr} {es : List Expr} {u v : Bool} {P : Dt → Prop} (h1 : E X R G a fun d => d = .bl u) (h2 : u = true → E X R G (.BoolOp .And (b :: es) pos) fun d => d = .bl v) (p : P (.bl (u && v))) : E X R G (.BoolOp .And (a :: b :: es) pos) P := e_and (h1.imp fun d e => ⟨u, e, by
  cases u with
  | true => rw [if_pos rfl]; exact (h2 rfl).imp fun d e => by rw [e]; exact p
  | false => rw [if_neg (by decide)]; exact p⟩)
theorem e_orD {a b : Expr} {es : List Expr} {u v : Bool} {P : Dt → Prop} (h1 : E X R G a fun d => d = .bl u) (h2 : u = false → E X R G (.BoolOp .Or (b :: es) pos) fun d => d = .bl v) (p : P (.bl (u || v))) : E X R G (.BoolOp .Or (a :: b :: es) pos) P := e_or (h1.imp fun d e => ⟨u, e, by
  cases u with
  | false => rw [if_neg (by decide)]; exact (h2 rfl).imp fun d e => by rw [e]; exact p
  | true => rw [if_pos rfl]; exact p⟩)
/-- a op1 b op2 c, with answers that are known -/
theorem e_chainD {a b c : Expr} {op op' : CmpOp} {u v : Bool} {P : Dt → Prop} (h : E X R G a fun d1 => E X R G b fun d2 => W2 X R (compareOp op) d1 d2 fun d => d = .bl u ∧ (u = true → E X R G c fun d3 => W2 X R (compareOp op') d2 d3 fun d => d = .bl v)) (p : P (.bl (u && v)))
    (hm : lastMarks [op, op'] [b, c] = false := by with_unfolding_all rfl) : E X R G (.Compare a [op, op'] [b, c] pos) P := by
  refine e_chain ?_ hm
  refine h.imp fun d1 h1 => h1.imp fun d2 h2 => fun F H x y Q w rx ry ct => h2 F H x y Q w rx ry fun z F' H' d ex r hh => ct z F' H' d ex r ⟨u, hh.1, ?_⟩
  cases u with
  | true => rw [if_pos rfl]; exact (hh.2 rfl).imp fun d3 h3 => fun F H x y Q w rx ry ct => h3 F H x y Q w rx ry fun z F' H' d ex r e => ct z F' H' d ex r (by rw [e]; exact p)
  | false => rw [if_neg (by decide)]; exact p
theorem t_chainD {a b c : Expr} {op op' : CmpOp} {u v : Bool} {P : Bool → Prop} (h : E X R G a fun d1 => E X R G b fun d2 => W2 X R (compareOp op) d1 d2 fun d => d = .bl u ∧ (u = true → E X R G c fun d3 => W2 X R (compareOp op') d2 d3 fun d => d = .bl v)) (p : P (u && v))
    (hm : lastMarks [op, op'] [b, c] = false := by with_unfolding_all rfl) : T X R G (.Compare a [op, op'] [b, c] pos) P := by
  refine t_chain ?_ hm
  refine h.imp fun d1 h1 => h1.imp fun d2 h2 => fun F H x y Q w rx ry ct => h2 F H x y Q w rx ry fun z F' H' d ex r hh => ct z F' H' d ex r ⟨u, hh.1, ?_⟩
  cases u with
  | true => rw [if_pos rfl]; exact (hh.2 rfl).imp fun d3 h3 => fun F H x y Q w rx ry ct => h3 F H x y Q w rx ry fun z F' H' d ex r e => ct z F' H' d ex r ⟨v, e, p⟩
  | false => rw [if_neg (by decide)]; exact p

/-! ### a comprehension that maps, that filters and maps -/
theorem lc_map {tg elt : Expr} {scope : Scope} {vs : List Nat} {ds : List Dt} (g : Nat → Dt → Dt) (js : Dt → List (Nat × Dt)) (ha : ∀ (i : Nat) d, ds[i]? = some d → ∀ Y, Blk X scope Y → A Y tg d (js d)) (hj : ∀ d, ∀ p ∈ js d, p.1 ∈ vs)
    (he : ∀ (i : Nat) d, ds[i]? = some d → ∀ Y, Blk X scope Y → E Y R (setsD (wipeD G vs) (js d)) elt fun y => y = g i d) : Lc X R G tg elt [] scope vs ds fun i acc => acc = (ds.take i).mapIdx g := by
  refine ⟨rfl, fun i d acc hd hacc hl => ⟨js d, ha i d hd, hj d, fun Y bY => ts_nil ?_⟩⟩
  rw [if_pos rfl]
  intro Z bZ
  refine (he i d hd Z bZ).imp fun y hy => ?_
  have hi : i < ds.length := (List.getElem?_eq_some_iff.mp hd).1
  have e2 : ds.take (i + 1) = ds.take i ++ [d] := by rw [List.take_add_one, hd]; rfl
  show acc ++ [y] = (ds.take (i + 1)).mapIdx g
  rw [e2, List.mapIdx_append, hacc, hy]
  simp [List.length_take, Nat.min_eq_left (Nat.le_of_lt hi)]
/-- an item of a written list at a drawn place -/
theorem wi_any {ds : List Dt} {i : Int} {P : Dt → Prop} (h0 : 0 ≤ i) (h1 : i < (ds.length : Nat)) (p : ∀ d ∈ ds, P d) : WI X R (.lst ds) (.int i) P := by
  obtain ⟨j, rfl⟩ : ∃ j : Nat, i = (j : Int) := ⟨i.toNat, by omega⟩
  have hj : j < ds.length := by omega
  exact wi_lst (atI_nat (j := j) (List.getElem?_eq_getElem hj)) (p _ (List.getElem_mem hj))
theorem wi_anyT {ds : List Dt} {i : Int} {P : Dt → Prop} (h0 : 0 ≤ i) (h1 : i < (ds.length : Nat)) (p : ∀ d ∈ ds, P d) : WI X R (.tup ds) (.int i) P := by
  obtain ⟨j, rfl⟩ : ∃ j : Nat, i = (j : Int) := ⟨i.toNat, by omega⟩
  have hj : j < ds.length := by omega
  exact wi_tup (atI_nat (j := j) (List.getElem?_eq_getElem hj)) (p _ (List.getElem_mem hj))
theorem kt_int_int {K : PySem.W.Frag} : PySem.W.kitOne K (.type "int") (.type "int") = some true := kit_ty (by decide +kernel)
theorem kt_int_bool {K : PySem.W.Frag} : PySem.W.kitOne K (.type "int") (.type "bool") = some false := kit_ty (by decide +kernel)
theorem kt_int_str {K : PySem.W.Frag} : PySem.W.kitOne K (.type "int") (.type "str") = some false := kit_ty (by decide +kernel)
theorem kt_int_tuple {K : PySem.W.Frag} : PySem.W.kitOne K (.type "int") (.type "tuple") = some false := kit_ty (by decide +kernel)
theorem kt_int_list {K : PySem.W.Frag} : PySem.W.kitOne K (.type "int") (.type "list") = some false := kit_ty (by decide +kernel)
theorem kt_int_dict {K : PySem.W.Frag} : PySem.W.kitOne K (.type "int") (.type "dict") = some false := kit_ty (by decide +kernel)
theorem kt_bool_int {K : PySem.W.Frag} : PySem.W.kitOne K (.type "bool") (.type "int") = some true := kit_ty (by decide +kernel)
theorem kt_bool_bool {K : PySem.W.Frag} : PySem.W.kitOne K (.type "bool") (.type "bool") = some true := kit_ty (by decide +kernel)
theorem kt_bool_str {K : PySem.W.Frag} : PySem.W.kitOne K (.type "bool") (.type "str") = some false := kit_ty (by decide +kernel)
theorem kt_bool_tuple {K : PySem.W.Frag} : PySem.W.kitOne K (.type "bool") (.type "tuple") = some false := kit_ty (by decide +kernel)
theorem kt_bool_list {K : PySem.W.Frag} : PySem.W.kitOne K (.type "bool") (.type "list") = some false := kit_ty (by decide +kernel)
theorem kt_bool_dict {K : PySem.W.Frag} : PySem.W.kitOne K (.type "bool") (.type "dict") = some false := kit_ty (by decide +kernel)
theorem kt_str_int {K : PySem.W.Frag} : PySem.W.kitOne K (.type "str") (.type "int") = some false := kit_ty (by decide +kernel)
theorem kt_str_bool {K : PySem.W.Frag} : PySem.W.kitOne K (.type "str") (.type "bool") = some false := kit_ty (by decide +kernel)
theorem kt_str_str {K : PySem.W.Frag} : PySem.W.kitOne K (.type "str") (.type "str") = some true := kit_ty (by decide +kernel)
theorem kt_str_tuple {K : PySem.W.Frag} : PySem.W.kitOne K (.type "str") (.type "tuple") = some false := kit_ty (by decide +kernel)
theorem kt_str_list {K : PySem.W.Frag} : PySem.W.kitOne K (.type "str") (.type "list") = some false := kit_ty (by decide +kernel)
theorem kt_str_dict {K : PySem.W.Frag} : PySem.W.kitOne K (.type "str") (.type "dict") = some false := kit_ty (by decide +kernel)
theorem kt_tuple_int {K : PySem.W.Frag} : PySem.W.kitOne K (.type "tuple") (.type "int") = some false := kit_ty (by decide +kernel)
theorem kt_tuple_bool {K : PySem.W.Frag} : PySem.W.kitOne K (.type "tuple") (.type "bool") = some false := kit_ty (by decide +kernel)
theorem kt_tuple_str {K : PySem.W.Frag} : PySem.W.kitOne K (.type "tuple") (.type "str") = some false := kit_ty (by decide +kernel)
theorem kt_tuple_tuple {K : PySem.W.Frag} : PySem.W.kitOne K (.type "tuple") (.type "tuple") = some true := kit_ty (by decide +kernel)
theorem kt_tuple_list {K : PySem.W.Frag} : PySem.W.kitOne K (.type "tuple") (.type "list") = some false := kit_ty (by decide +kernel)
theorem kt_tuple_dict {K : PySem.W.Frag} : PySem.W.kitOne K (.type "tuple") (.type "dict") = some false := kit_ty (by decide +kernel)
theorem kt_list_int {K : PySem.W.Frag} : PySem.W.kitOne K (.type "list") (.type "int") = some false := kit_ty (by decide +kernel)
theorem kt_list_bool {K : PySem.W.Frag} : PySem.W.kitOne K (.type "list") (.type "bool") = some false := kit_ty (by decide +kernel)
theorem kt_list_str {K : PySem.W.Frag} : PySem.W.kitOne K (.type "list") (.type "str") = some false := kit_ty (by decide +kernel)
theorem kt_list_tuple {K : PySem.W.Frag} : PySem.W.kitOne K (.type "list") (.type "tuple") = some false := kit_ty (by decide +kernel)
theorem kt_list_list {K : PySem.W.Frag} : PySem.W.kitOne K (.type "list") (.type "list") = some true := kit_ty (by decide +kernel)
theorem kt_list_dict {K : PySem.W.Frag} : PySem.W.kitOne K (.type "list") (.type "dict") = some false := kit_ty (by decide +kernel)
theorem kt_dict_int {K : PySem.W.Frag} : PySem.W.kitOne K (.type "dict") (.type "int") = some false := kit_ty (by decide +kernel)
theorem kt_dict_bool {K : PySem.W.Frag} : PySem.W.kitOne K (.type "dict") (.type "bool") = some false := kit_ty (by decide +kernel)
theorem kt_dict_str {K : PySem.W.Frag} : PySem.W.kitOne K (.type "dict") (.type "str") = some false := kit_ty (by decide +kernel)
theorem kt_dict_tuple {K : PySem.W.Frag} : PySem.W.kitOne K (.type "dict") (.type "tuple") = some false := kit_ty (by decide +kernel)
theorem kt_dict_list {K : PySem.W.Frag} : PySem.W.kitOne K (.type "dict") (.type "list") = some false := kit_ty (by decide +kernel)
theorem kt_dict_dict {K : PySem.W.Frag} : PySem.W.kitOne K (.type "dict") (.type "dict") = some true := kit_ty (by decide +kernel)
theorem kt_NoneType_int {K : PySem.W.Frag} : PySem.W.kitOne K (.type "NoneType") (.type "int") = some false := kit_ty (by decide +kernel)
theorem kt_NoneType_bool {K : PySem.W.Frag} : PySem.W.kitOne K (.type "NoneType") (.type "bool") = some false := kit_ty (by decide +kernel)
theorem kt_NoneType_str {K : PySem.W.Frag} : PySem.W.kitOne K (.type "NoneType") (.type "str") = some false := kit_ty (by decide +kernel)
theorem kt_NoneType_tuple {K : PySem.W.Frag} : PySem.W.kitOne K (.type "NoneType") (.type "tuple") = some false := kit_ty (by decide +kernel)
theorem kt_NoneType_list {K : PySem.W.Frag} : PySem.W.kitOne K (.type "NoneType") (.type "list") = some false := kit_ty (by decide +kernel)
theorem kt_NoneType_dict {K : PySem.W.Frag} : PySem.W.kitOne K (.type "NoneType") (.type "dict") = some false := kit_ty (by decide +kernel)
theorem eo_none {P : Option Int → Prop} (p : P none) : EO X R G none P := p
theorem eo_some {e : Expr} {P : Option Int → Prop} (h : E X R G e fun d => ∃ i, d = .int i ∧ P (some i)) : EO X R G (some e) P := h
theorem b_abs : bootBuiltins "abs" = some (.builtin "abs") := by decide +kernel
theorem b_len : bootBuiltins "len" = some (.builtin "len") := by decide +kernel
theorem b_int : bootBuiltins "int" = some (.type "int") := by decide +kernel
theorem b_bool : bootBuiltins "bool" = some (.type "bool") := by decide +kernel
theorem b_str : bootBuiltins "str" = some (.type "str") := by decide +kernel
theorem b_list : bootBuiltins "list" = some (.type "list") := by decide +kernel
theorem b_tuple : bootBuiltins "tuple" = some (.type "tuple") := by decide +kernel
theorem b_dict : bootBuiltins "dict" = some (.type "dict") := by decide +kernel
theorem b_isinstance : bootBuiltins "isinstance" = some (.builtin "isinstance") := by decide +kernel
theorem b_max : bootBuiltins "max" = some (.builtin "max") := by decide +kernel
theorem b_min : bootBuiltins "min" = some (.builtin "min") := by decide +kernel
theorem b_sum : bootBuiltins "sum" = some (.builtin "sum") := by decide +kernel
theorem b_any : bootBuiltins "any" = some (.builtin "any") := by decide +kernel
theorem b_all : bootBuiltins "all" = some (.builtin "all") := by decide +kernel
theorem b_ValueError : bootBuiltins "ValueError" = some (.type "ValueError") := by decide +kernel
end
end VS
set_option Elab.async false
set_option linter.all false
set_option maxRecDepth 100000
namespace VS
open PySem PySem.Spec L2

/-! ### the box made -/
def spBox (K : PySem.W.Frag) : Sp := fun vs H Q _ => vs.length = 1 ∧ ∃ (F : Hp) (ns : List Int) (v : V), Same F H ∧ vs = [v] ∧ Rp K F (.frl (ns.map .int)) v ∧ ns.length ≤ 63 ∧
  ∀ (b c : Addr) (H' : Hp) (cells : List Int), b ≠ c → H b = none → H c = none → Same H H' → H' b = some (.lst [.ref c, .int 0, .int 1]) → H' c = some (.lst (cells.map .int)) → cells.length ≤ 63 → (∀ x ∈ cells, 0 ≤ x) → Q (.ref b) H'
section
variable {X : Cx} {G : List Sl} {pos : Pos}
theorem s_retBox {e : Expr} {j1 j2 p1 p2 lp} {D : Ends} {σ : St} {F H : Hp} {i0 i1 : Int} (ty : Ty X.K .nil G σ F H) (h : EN X .nil G e fun ds => ∃ cells : List Int, ds = cells.map .int ∧ cells.length ≤ 63 ∧ ∀ x ∈ cells, 0 ≤ x)
    (q : ∀ (b c : Addr) (H' : Hp) (cells : List Int), b ≠ c → H b = none → H c = none → Same H H' → H' b = some (.lst [.ref c, .int i0, .int i1]) → H' c = some (.lst (cells.map .int)) → cells.length ≤ 63 → (∀ x ∈ cells, 0 ≤ x) → D.rt (.ref b) H')
    (hs : starEach [e, .Constant (.int i0) j1 p1, .Constant (.int i1) j2 p2] X.env = (false, eval e X.env) :: starEach [.Constant (.int i0) j1 p1, .Constant (.int i1) j2 p2] X.env := by rfl)
    (hs2 : starEach [.Constant (.int i0) j1 p1, .Constant (.int i1) j2 p2] X.env = (false, eval (.Constant (.int i0) j1 p1) X.env) :: starEach [.Constant (.int i1) j2 p2] X.env := by rfl)
    (hs3 : starEach [.Constant (.int i1) j2 p2] X.env = (false, eval (.Constant (.int i1) j2 p2) X.env) :: starEach [] X.env := by rfl) :
    s1Of X (.Return (some (.List [e, .Constant (.int i0) j1 p1, .Constant (.int i1) j2 p2] lp)) pos) D σ H := by
  refine s1Of.of (ps_ret (pe_lst (pa_cons pe_w (pa_cons pe_int (pa_cons pe_int pa_nil hs3) hs2) hs))) (h σ F H _ ty fun c F1 H1 ds vs ex hc nM hc1 fc rl hh => ?_)
  obtain ⟨cells, rfl, hl, hp⟩ := hh
  refine ⟨by show 3 ≤ sizeLine; decide, fun b hb => ?_⟩
  have ne : b ≠ c := fun z => by rw [z, hc1] at hb; cases hb
  have sm : Same H H1 := fun a o h => ex.hh a o (fun z => z) h
  refine q b c _ cells ne (sm.free hb) hc (sm.trans (same_upd hb)) upd_same ?_ hl hp
  rw [upd_ne (Ne.symm ne), hc1, rl.ints]
end
/-- the law's promise -/
def spLaw (K : PySem.W.Frag) : Sp := fun vs H Q _ => ∃ (a : Addr) (ns : List Int), vs = [.ref a] ∧ SqL K H a (ns.map V.int) ∧ ns.length ≤ 63 ∧ ∀ H', Q (.bl true) H'
section
variable {P : Program} {w : World} {K : PySem.W.Frag} {mg : Str → Option Value} {base : Heap}
theorem box_ok {x qual : Str} {st : Stmt} {f : Addr} {fd : FuncData} {N : List Str} {p : Str} {k : Nat} (F : FD K x qual st [] [] f fd) (Sc : FnScope N [p] (defScope st))
    (h : ∀ (X : Cx) (cdv : Value) (A : Around) (outer : List Env) (s : Shared) (H : Hp) (E : XK) (ns : List Int) (F : Hp) (σ : St) (D : Ends), X = cxOf (L2.CX P w) P w K mg base N qual (defScope st) f cdv A outer s H E → ns.length ≤ 63 → Ty K .nil (st0 N [.frl (ns.map .int)]) σ F H →
      (∀ (b c : Addr) (H' : Hp) (cells : List Int), b ≠ c → H b = none → H c = none → Same H H' → H' b = some (.lst [.ref c, .int 0, .int 1]) → H' c = some (.lst (cells.map .int)) → cells.length ≤ 63 → (∀ x ∈ cells, 0 ≤ x) → D.rt (.ref b) H') → sOf X (defBody st) D σ H) :
    FnOk P w K mg base (L2.CX P w) (k + 1) f fd [p] (spBox K) := by
  refine FunD.ok F Sc (fun vs H Q E hh => by rw [hh.1]; rfl) fun cdv A outer s H vs Q E hr hh => ?_
  obtain ⟨hl, F0, ns, v, sf, rfl, r, hn, q⟩ := hh
  refine ⟨_, pss_w, h _ cdv A outer s H E ns F0 _ _ rfl hn ⟨wf_nil sf, ?_, by unfold st0; rw [owns0]; exact .nil⟩ q⟩
  have r1 : RpL K F0 [.frl (ns.map .int)] [v] := .cons r .nil
  unfold st0 L2.start
  exact sls0 _ r1
/-- the law's own body: the box is made, then the rest is shown for any box -/
theorem law_ok {st : Stmt} {f : Addr} {fd : FuncData} {N : List Str} {p bx : Str} {k : Nat} {p1 p2 p3 p4 pos : Pos} {rest : List Stmt} (F : FD K "law" "law" st [] [] f fd) (Sc : FnScope N [p] (defScope st)) (B : Fn P w K mg base k "_law_box" ["_law_script"] [] (spBox K))
    (hbody : defBody st = .Assign [.Name bx p1] (.Call (.Name "_law_box" p2) [.Name p p3] [] p4) pos :: rest)
    (hN0 : N[0]? = some p) (hN1 : N[1]? = some bx) (hn2 : 2 ≤ N.length) (hl : Loc (defScope st) bx) (hv : Vis (defScope st) p) (hgl : (defScope st).names.lookup ("_law_box" : Str) = some .globalImplicit) (hpd : (p == ("__debug__" : Str)) = false) (hpd2 : (p == ("__classdict__" : Str)) = false)
    (hsw : ∀ env : Env, env.scope = defScope st → swapsWith (.Call (.Name "_law_box" p2) [.Name p p3] [] p4) (some (.Name bx p1)) pos.line env = pure false)
    (hse : ∀ env : Env, starEach [.Name p p3] env = (false, eval (.Name p p3) env) :: starEach [] env)
    (h : ∀ (X : Cx) (cdv : Value) (A : Around) (outer : List Env) (s : Shared) (H : Hp) (E : XK) (b c : Addr) (n : Nat) (ns : List Int), X = cxOf (L2.CX P w) P w K mg base N "law" (defScope st) f cdv A outer s H E → Room k X.A →
      S X (boxR b c n) rest (.sh (.frl (ns.map .int)) :: .sh (.adr b) :: List.replicate (N.length - 2) .no) { nx := fun _ => False, rt := fun d => d = .bl true }) :
    FnOk P w K mg base (L2.CX P w) (k + 1) f fd [p] (spLaw K) := by
  refine FunD.ok F Sc (fun vs H Q E hh => by obtain ⟨a, ns, rfl, _⟩ := hh; rfl) fun cdv A outer s H vs Q E hr hh => ?_
  obtain ⟨a, ns, rfl, hS, hn, q⟩ := hh
  obtain ⟨f2, fd2, ds2, a1, a2, a3, a4, a5⟩ := B.ex
  cases a4
  generalize hX : cxOf (L2.CX P w) P w K mg base N "law" (defScope st) f cdv A outer s H E = X
  have hXN : X.N = N := by rw [← hX]; rfl
  have hXs : X.env.scope = defScope st := by rw [← hX]; rfl
  have hXK : X.K = K := by rw [← hX]; rfl
  have hXm : X.mg = mg := by rw [← hX]; rfl
  have a5' : FnOk X.prog X.w X.K X.mg X.base (L2.CX X.prog X.w) k f2 fd2 ["_law_script"] (spBox X.K) := by rw [← hX]; exact a5
  have hr' : Room k X.A := by rw [← hX]; exact hr
  have nd : X.N.Nodup := by rw [hXN]; exact Sc.nd
  refine ⟨_, pss_w, ?_⟩
  rw [hbody]
  refine sOf.of (pss_cons (ps_set (i := 1) nd (by rw [hXN]; exact hN1) (by rw [hXs]; exact hl) (pe_call a5' hr' (show X.env.kindOf _ = _ by show X.env.scope.names.lookup _ = _; rw [hXs]; exact hgl) (by rw [hXm]; exact a1) (by rw [hXK]; exact a2) (by rw [hXK]; exact a3) .nil passL (pa_cons (pe_var (i := 0) (by rw [hXN]; exact hN0) (by rw [hXs]; exact hv) hpd hpd2) pa_nil (hse _)) (by decide) (hse _) rfl) (hsw _ hXs) (by rw [← hX]; exact .inl rfl)) pss_w) ?_
  have hs0 : ∃ r, L2.start N [V.ref a] = some (V.ref a) :: r ∧ r.length = N.length - 1 := ⟨List.replicate (N.length - 1) none, rfl, List.length_replicate⟩
  obtain ⟨r, e0, hr0⟩ := hs0
  refine ⟨.ref a, by rw [e0]; rfl, rfl, H, ns, .ref a, .refl _, rfl, rp_frl.mpr ⟨a, ns.map V.int, rfl, by rw [hXK]; exact hS, RpL.of_ints⟩, hn, fun b c H' cells ne hb hc sm hb' hc' hl' hp' => ?_⟩
  obtain ⟨g, r2, e2⟩ : ∃ g r2, r = g :: r2 := by
    cases r with
    | nil => simp at hr0; omega
    | cons g r2 => exact ⟨g, r2, rfl⟩
  subst e2
  have wf : Wf (boxR b c cells.length) H H' := by
    refine ⟨sm, fun x m => ?_, fun x m z => ?_, ne, hl', cells, 0, 1, hb', hc', rfl, hp', by decide, by decide⟩
    · rcases m with m | m
      · rw [m]; exact hb
      · rw [m]; exact hc
    · rcases m with m | m
      · rw [m, hb'] at z; cases z
      · rw [m, hc'] at z; cases z
  have hst : (L2.start N [V.ref a]).set 1 (some (V.ref b)) = some (V.ref a) :: some (V.ref b) :: r2 := by rw [e0]; rfl
  show sOf X rest _ ((L2.start N [V.ref a]).set 1 (some (V.ref b))) H'
  rw [hst]
  have sl : SlsOk X.K (boxR b c cells.length) H H' (.sh (.frl (ns.map .int)) :: .sh (.adr b) :: List.replicate (N.length - 2) .no) (some (V.ref a) :: some (V.ref b) :: r2) := by
    refine .cons ⟨.ref a, rfl, rp_frl.mpr ⟨a, ns.map V.int, rfl, by rw [hXK]; exact hS, RpL.of_ints⟩⟩ (.cons ⟨.ref b, rfl, rp_adr.mpr rfl⟩ ?_)
    have hlen : N.length - 2 = r2.length := by
      have := hr0
      simp only [List.length_cons] at this
      omega
    rw [hlen]
    clear hst hr0 e0 hlen
    induction r2 with
    | nil => exact .nil
    | cons g r ih => exact .cons trivial ih
  have ow : owns (.sh (.frl (ns.map .int)) :: .sh (.adr b) :: List.replicate (N.length - 2) Sl.no) (some (V.ref a) :: some (V.ref b) :: r2) = [] := owns0 [.frl (ns.map .int), .adr b] _ _
  refine h X cdv A outer s H E b c cells.length ns hX.symm hr' H H' _ H H' _ ⟨wf, sl, by rw [ow]; exact .nil⟩ ⟨.refl wf, (by rw [ow]; intro o ho; cases ho), trivial⟩ ⟨fun _ _ _ _ z => z.elim, fun d v F1 H1 z _ rd => ?_, fun _ _ _ _ z => z.elim, fun _ _ _ _ z => z.elim, fun _ _ _ _ z => z.elim⟩
  subst z
  rw [rp_bl.mp rd]
  exact q H1
end
/-- a law's end over a head by facts, where errors may fly -/
theorem walk_ofW {l : PySem.W.OpenLaw} {n k : Nat} {q : Program} {loose : List Str} {XP : (Str → Option Value) → Heap → Prop} {YP : World → Heap → Prop} {d : DefRec} {x : Str}
    (hn : l.most = some n) (hn2 : n ≤ sizeLine) (hdf : d.params.defaults = []) (hr : Room k callerA)
    (F : ∀ (w : World) (mg : Str → Option Value) (fa : Addr) (h : Heap), YP w h → h.Ns mainGlobals mg → mg d.name = some (.ref fa) →
      ∃ (K : PySem.W.Frag) (fd : FuncData) (sp : Sp), K.In h ∧ (∀ (s : Shared) (u : Value), BindsTo s fd ⟨[u], []⟩ [(x, u)]) ∧
        (∀ (H : Hp) (a : Addr) (ns : List Int), ns.length ≤ n → Only H → SqL K H a (ns.map V.int) → sp [.ref a] H (fun v _ => v = .bl true) fun _ _ _ => False) ∧
        ∀ base : Heap, K.In base → base.Ns mainGlobals mg → FnOk l.prog w K mg base (L2.CX l.prog w) k fa fd [x] sp) :
    PySem.W.WalkO q loose XP YP l.row.toRowW d [] (fun f vs => PySem.call f vs) := by
  refine Att.attach_call hn hdf fun w s₀ s₁ mg mb fa o pm cd doc a vs ns G Y ho hd hcd hmg hobj hints hlen hg => ?_
  obtain ⟨K, fd, sp, KX, hb, hsp, hF⟩ := F w mg fa _ Y G.T.g hmg
  refine law_call KX G.T.g G.T.b G.T.builtins G.T.nolimit hg hobj hints (Nat.le_trans hlen hn2) hr hF hb (fun H hO hS => hsp H a ns hlen hO hS) fun H e s' hx => ?_
  obtain ⟨_, _, _, _, _, _, _, _, _, _, _, _, z⟩ := hx
  exact z
end VS
set_option Elab.async false
set_option linter.all false
set_option maxRecDepth 100000
namespace VS
open PySem PySem.Spec L2

/-! ### equality of data -/
mutual
def toP : Dt → PyData
  | .non => .none
  | .bl b => .bool b
  | .int i => .int i
  | .str x => .str x
  | .tup xs => .tuple (toPs xs)
  | .lst xs => .list (toPs xs)
  | .ty _ | .adr _ | .frl _ | .dT _ _ | .dK _ _ | .obj _ _ _ | .exv _ _ _ _ | .at_ _ _ | .key _ => .none
def toPs : List Dt → List PyData
  | [] => []
  | x :: xs => toP x :: toPs xs
end
/-- plain data of depth n -/
def okN : Nat → Dt → Bool
  | _, .non => true
  | _, .bl _ => true
  | _, .int _ => true
  | _, .str x => PyData.strOk x
  | n + 1, .tup xs => xs.all (okN n)
  | n + 1, .lst xs => xs.all (okN n)
  | _, _ => false
abbrev okD (d : Dt) : Bool := okN 12 d
def eqD (a b : Dt) : Bool := PyData.eqv (toP a) (toP b)
theorem okN_list {K : PySem.W.Frag} {F H : Hp} {n : Nat} (sf : Same F H) (ih : ∀ d v, okN n d = true → Rp K F d v → Dp K H v (toP d) ∧ (toP d).canLay0 = true ∧ (toP d).depth ≤ n) : ∀ {xs : List Dt} {vs : List V}, xs.all (okN n) = true → RpL K F xs vs → DpAll K H vs (toPs xs) ∧ PyData.canLayAll0 (toPs xs) = true ∧ PyData.depthAll (toPs xs) ≤ n
  | [], vs, _, r => by
    rw [r.of_nil]
    exact ⟨.nil, by simp [toPs, PyData.canLayAll0], by simp [toPs, PyData.depthAll]⟩
  | x :: xs, vs, h, r => by
    obtain ⟨v, t, rfl, r1, r2⟩ := r.of_cons
    rw [List.all_cons, Bool.and_eq_true] at h
    obtain ⟨a1, a2, a3⟩ := ih x v h.1 r1
    obtain ⟨b1, b2, b3⟩ := okN_list sf ih h.2 r2
    refine ⟨.cons a1 b1, ?_, ?_⟩
    · simp only [toPs, PyData.canLayAll0, a2, b2, Bool.and_self]
    · simp only [toPs, PyData.depthAll]
      omega
theorem okN_dp {K : PySem.W.Frag} {F H : Hp} (sf : Same F H) : ∀ (n : Nat) (d : Dt) (v : V), okN n d = true → Rp K F d v → Dp K H v (toP d) ∧ (toP d).canLay0 = true ∧ (toP d).depth ≤ n
  | n, .non, v, h, r => by rw [rp_non.mp r]; exact ⟨.non, by simp [toP, PyData.canLay0], by simp [toP, PyData.depth]⟩
  | n, .bl b, v, h, r => by rw [rp_bl.mp r]; exact ⟨.bl b, by simp [toP, PyData.canLay0], by simp [toP, PyData.depth]⟩
  | n, .int b, v, h, r => by rw [rp_int.mp r]; exact ⟨.int b, by simp [toP, PyData.canLay0], by simp [toP, PyData.depth]⟩
  | n, .str b, v, h, r => by
    rw [rp_str.mp r]
    have h' : PyData.strOk b = true := by
      cases n with
      | zero => simpa [okN] using h
      | succ n => simpa [okN] using h
    exact ⟨.str b, by simp only [toP, PyData.canLay0]; exact h', by simp [toP, PyData.depth]⟩
  | n + 1, .tup xs, v, h, r => by
    obtain ⟨a, vs, rfl, sq, rl⟩ := rp_tup.mp r
    have h' : xs.all (okN n) = true := by simpa [okN] using h
    obtain ⟨b1, b2, b3⟩ := okN_list sf (fun d v => okN_dp sf n d v) h' rl
    exact ⟨by simp only [toP]; exact .tup (sq_t sf sq) b1, by simp only [toP, PyData.canLay0]; exact b2, by simp only [toP, PyData.depth]; omega⟩
  | n + 1, .lst xs, v, h, r => by
    obtain ⟨a, vs, rfl, sq, rl⟩ := rp_lst.mp r
    have h' : xs.all (okN n) = true := by simpa [okN] using h
    obtain ⟨b1, b2, b3⟩ := okN_list sf (fun d v => okN_dp sf n d v) h' rl
    exact ⟨by simp only [toP]; exact .lst (SqL.of (sf _ _ sq)) b1, by simp only [toP, PyData.canLay0]; exact b2, by simp only [toP, PyData.depth]; omega⟩
  | 0, .tup _, v, h, _ => by simp [okN] at h
  | 0, .lst _, v, h, _ => by simp [okN] at h
  | 0, .ty _, v, h, _ => by simp [okN] at h
  | 0, .adr _, v, h, _ => by simp [okN] at h
  | 0, .frl _, v, h, _ => by simp [okN] at h
  | 0, .dT _ _, v, h, _ => by simp [okN] at h
  | 0, .key _, v, h, _ => by simp [okN] at h
  | 0, .dK _ _, v, h, _ => by simp [okN] at h
  | 0, .obj _ _ _, v, h, _ => by simp [okN] at h
  | 0, .exv _ _ _ _, v, h, _ => by simp [okN] at h
  | 0, .at_ _ _, v, h, _ => by simp [okN] at h
  | n + 1, .ty _, v, h, _ => by simp [okN] at h
  | n + 1, .adr _, v, h, _ => by simp [okN] at h
  | n + 1, .frl _, v, h, _ => by simp [okN] at h
  | n + 1, .dT _ _, v, h, _ => by simp [okN] at h
  | n + 1, .key _, v, h, _ => by simp [okN] at h
  | n + 1, .dK _ _, v, h, _ => by simp [okN] at h
  | n + 1, .obj _ _ _, v, h, _ => by simp [okN] at h
  | n + 1, .exv _ _ _ _, v, h, _ => by simp [okN] at h
  | n + 1, .at_ _ _, v, h, _ => by simp [okN] at h
theorem ok_shaped {K : PySem.W.Frag} {F H : Hp} {d : Dt} {v : V} (sf : Same F H) (h : okD d = true) (r : Rp K F d v) : Dp K H v (toP d) ∧ SeqAt.shaped (toP d) = true := by
  obtain ⟨a, b, c⟩ := okN_dp sf 12 d v h r
  refine ⟨a, ?_⟩
  unfold SeqAt.shaped
  rw [b, decide_eq_true (Nat.le_trans c (by decide))]
  rfl
section
variable {X : Cx} {R : Reg} {G : List Sl} {pos : Pos} {k : Kt}
theorem w_eqD {a b : Dt} {P : Dt → Prop} (hu : X.A.units + 64 < cLine) (ha : okD a = true) (hb : okD b = true) (p : P (.bl (eqD a b))) : W2 X R (compareOp .Eq) a b P := fun F H x y Q w rx ry c => by
  obtain ⟨a1, a2⟩ := ok_shaped w.fh ha rx
  obtain ⟨b1, b2⟩ := ok_shaped w.fh hb ry
  exact opOf.of (op_eqD hu) ⟨_, _, a1, b1, a2, b2, c.here w (rp_bl.mpr rfl) p⟩
theorem w_neD {a b : Dt} {P : Dt → Prop} (hu : X.A.units + 64 < cLine) (ha : okD a = true) (hb : okD b = true) (p : P (.bl (!eqD a b))) : W2 X R (compareOp .NotEq) a b P := fun F H x y Q w rx ry c => by
  obtain ⟨a1, a2⟩ := ok_shaped w.fh ha rx
  obtain ⟨b1, b2⟩ := ok_shaped w.fh hb ry
  exact opOf.of (op_neD hu) ⟨_, _, a1, b1, a2, b2, c.here w (rp_bl.mpr rfl) p⟩
end
theorem canLay_of_ok {n : Nat} {d : Dt} (h : okN n d = true) : (toP d).canLay0 = true := by
  have go : ∀ (n : Nat) (d : Dt), okN n d = true → (toP d).canLay0 = true := fun n => by
    induction n with
    | zero =>
      intro d h
      cases d <;> simp_all [okN, toP, PyData.canLay0]
    | succ n ih =>
      have all : ∀ xs : List Dt, xs.all (okN n) = true → PyData.canLayAll0 (toPs xs) = true := fun xs => by
        induction xs with
        | nil => intro _; simp [toPs, PyData.canLayAll0]
        | cons x xs ih2 =>
          intro h
          rw [List.all_cons, Bool.and_eq_true] at h
          simp only [toPs, PyData.canLayAll0, ih x h.1, ih2 h.2, Bool.and_self]
      intro d h
      cases d with
      | tup xs => simp only [toP, PyData.canLay0]; exact all xs (by simpa [okN] using h)
      | lst xs => simp only [toP, PyData.canLay0]; exact all xs (by simpa [okN] using h)
      | _ => simp_all [okN, toP, PyData.canLay0]
  exact go n d h
theorem eqD_refl {d : Dt} (h : okD d = true) : eqD d d = true := SeqAt.eqv_refl _ (canLay_of_ok h)
theorem eqD_of {a b : Dt} (e : a = b) (h : okD a = true) : eqD a b = true := by rw [← e]; exact eqD_refl h
theorem eqvAll_ints : ∀ xs ys : List Int, PyData.eqvAll (toPs (xs.map .int)) (toPs (ys.map .int)) = decide (xs = ys)
  | [], [] => by simp [toPs, PyData.eqvAll]
  | [], y :: ys => by simp [toPs, PyData.eqvAll]
  | x :: xs, [] => by simp [toPs, PyData.eqvAll]
  | x :: xs, y :: ys => by
    simp only [List.map_cons, toPs, toP, PyData.eqvAll, PyData.eqv]
    rw [eqvAll_ints xs ys]
    by_cases h : x = y <;> by_cases h2 : xs = ys <;> simp [h, h2]
theorem eqD_ints (xs ys : List Int) : eqD (.lst (xs.map .int)) (.lst (ys.map .int)) = decide (xs = ys) := by
  unfold eqD
  simp only [toP, PyData.eqv]
  exact eqvAll_ints xs ys
theorem eqD_intsT (xs ys : List Int) : eqD (.tup (xs.map .int)) (.tup (ys.map .int)) = decide (xs = ys) := by
  unfold eqD
  simp only [toP, PyData.eqv]
  exact eqvAll_ints xs ys
theorem ok_ints (xs : List Int) : okD (.lst (xs.map .int)) = true := by
  simp [okN, List.all_map, List.all_eq_true]
theorem ok_intsT (xs : List Int) : okD (.tup (xs.map .int)) = true := by
  simp [okN, List.all_map, List.all_eq_true]
theorem ok_pair (a b : Int) : okD (.tup [.int a, .int b]) = true := rfl
section
variable {X : Cx} {R : Reg} {G : List Sl} {pos : Pos} {k : Kt}
/-! ### more operations -/
theorem w_catL {xs ys : List Dt} {P : Dt → Prop} (hl : xs.length + ys.length ≤ 100000) (p : P (.lst (xs ++ ys))) : W2 X R (binaryOp .Add) (.lst xs) (.lst ys) P := fun F H x y Q w rx ry c => by
  obtain ⟨a, vs, rfl, h1, r1⟩ := rp_lst.mp rx
  obtain ⟨b, ws, rfl, h2, r2⟩ := rp_lst.mp ry
  exact opOf.of op_cat ⟨a, b, vs, ws, rfl, rfl, w.fh _ _ h1, w.fh _ _ h2, by rw [← r1.length, ← r2.length]; exact Nat.le_trans hl (by decide), fun q hq => c _ _ _ _ (w.made hq) (rp_lst_new (w.fh.free hq) (r1.append r2)) p⟩
theorem e_rev {e : Expr} {j : Nat} {p1 p2 p3 : Pos} {P : Dt → Prop} (h : E X R G e fun d => ∃ xs, d = .lst xs ∧ P (.lst xs.reverse)) : E X R G (.Subscript e (.Slice none none (some (.UnaryOp .USub (.Constant (.int 1) j p1) p2)) p3) pos) P := fun σ F H Q ty c =>
  tOf.of (pe_revL pe_w) (h σ F H _ ty fun v F1 H1 d ex r ⟨xs, e, p⟩ => by
    subst e
    obtain ⟨a, vs, rfl, h1, r1⟩ := rp_lst.mp r
    refine ⟨a, vs, rfl, SqL.of (ex.wf.fh _ _ h1), fun q hq => c _ _ _ _ (ex.trans (ex.wf.made hq)) (rp_lst_new (ex.wf.fh.free hq) ?_) p⟩
    have rev : ∀ {ds : List Dt} {ws : List V}, RpL X.K F1 ds ws → RpL X.K F1 ds.reverse ws.reverse := fun {ds ws} => by
      induction ds generalizing ws with
      | nil => intro r; rw [r.of_nil]; exact .nil
      | cons d ds ih =>
        intro r
        obtain ⟨v, t, rfl, q1, q2⟩ := r.of_cons
        rw [List.reverse_cons, List.reverse_cons]
        exact (ih q2).append (.cons q1 .nil)
    exact rev r1)
theorem wc_list_lst {xs : List Dt} {P : Dt → Prop} (p : P (.lst xs)) : WC X R (.type "list") [.lst xs] P := fun F H vs Q w r c => by
  obtain ⟨v, rfl, r1⟩ := r.one
  obtain ⟨a, ws, rfl, h1, rl⟩ := rp_lst.mp r1
  exact crOf.of call_list_of ⟨a, ws, rfl, .inl (SqL.of (w.fh _ _ h1)), fun q hq => c _ _ _ _ (w.made hq) (rp_lst_new (w.fh.free hq) rl) p⟩
theorem wc_list_tup {xs : List Dt} {P : Dt → Prop} (p : P (.lst xs)) : WC X R (.type "list") [.tup xs] P := fun F H vs Q w r c => by
  obtain ⟨v, rfl, r1⟩ := r.one
  obtain ⟨a, ws, rfl, h1, rl⟩ := rp_tup.mp r1
  exact crOf.of call_list_of ⟨a, ws, rfl, .inr (sq_t w.fh h1), fun q hq => c _ _ _ _ (w.made hq) (rp_lst_new (w.fh.free hq) rl) p⟩
theorem wc_tuple_lst {xs : List Dt} {P : Dt → Prop} (p : P (.tup xs)) : WC X R (.type "tuple") [.lst xs] P := fun F H vs Q w r c => by
  obtain ⟨v, rfl, r1⟩ := r.one
  obtain ⟨a, ws, rfl, h1, rl⟩ := rp_lst.mp r1
  exact crOf.of call_tuple_of ⟨a, ws, rfl, .inl ⟨SqL.of (w.fh _ _ h1), fun q hq => c _ _ _ _ (w.made hq) (rp_tup_new (w.fh.free hq) rl) p⟩⟩
theorem wc_tuple_tup {xs : List Dt} {P : Dt → Prop} (p : P (.tup xs)) : WC X R (.type "tuple") [.tup xs] P := fun F H vs Q w r c => by
  obtain ⟨v, rfl, r1⟩ := r.one
  obtain ⟨a, ws, rfl, h1, rl⟩ := rp_tup.mp r1
  exact crOf.of call_tuple_of ⟨a, ws, rfl, .inr ⟨sq_t w.fh h1, c.here w r1 p⟩⟩
theorem wc_intB {b : Bool} {P : Dt → Prop} (p : P (.int (if b then 1 else 0))) : WC X R (.type "int") [.bl b] P := fun F H xs Q w r c => by
  obtain ⟨v, rfl, h1⟩ := r.one
  rw [rp_bl.mp h1]
  exact crOf.of call_int1 (.inr ⟨b, rfl, c.here w (rp_int.mpr rfl) p⟩)
theorem wc_max {i j : Int} {P : Dt → Prop} (hc : X.calm = true) (p : P (.int (max i j))) : WC X R (.builtin "max") [.int i, .int j] P := fun F H xs Q w r c => by
  obtain ⟨v, u, rfl, h1, h2⟩ := r.two
  rw [rp_int.mp h1, rp_int.mp h2]
  refine crOf.of (call_max2 hc) ⟨i, j, rfl, ?_⟩
  have e : (if j > i then j else i) = max i j := by split <;> omega
  rw [e]
  exact c.here w (rp_int.mpr rfl) p
theorem wc_min {i j : Int} {P : Dt → Prop} (hc : X.calm = true) (p : P (.int (min i j))) : WC X R (.builtin "min") [.int i, .int j] P := fun F H xs Q w r c => by
  obtain ⟨v, u, rfl, h1, h2⟩ := r.two
  rw [rp_int.mp h1, rp_int.mp h2]
  refine crOf.of (call_min2 hc) ⟨i, j, rfl, ?_⟩
  have e : (if j < i then j else i) = min i j := by split <;> omega
  rw [e]
  exact c.here w (rp_int.mpr rfl) p
theorem wc_sum {ns : List Int} {P : Dt → Prop} (hc : X.calm = true) (p : P (.int ns.sum)) : WC X R (.builtin "sum") [.lst (ns.map .int)] P := fun F H xs Q w r c => by
  obtain ⟨v, rfl, r1⟩ := r.one
  obtain ⟨a, ws, rfl, h1, rl⟩ := rp_lst.mp r1
  have e := rl.ints
  subst e
  exact crOf.of (cr_sum hc) ⟨a, ns, rfl, SqL.of (w.fh _ _ h1), c.here w (rp_int.mpr rfl) p⟩
theorem RpL.bools {K : PySem.W.Frag} {F : Hp} : ∀ {ns : List Bool} {vs : List V}, RpL K F (ns.map Dt.bl) vs → vs = ns.map V.bl
  | [], _, h => h.of_nil
  | n :: ns, _, h => by
    obtain ⟨v, r, rfl, h1, h2⟩ := h.of_cons
    rw [rp_bl.mp h1, RpL.bools h2]
    rfl
theorem wc_any {bs : List Bool} {P : Dt → Prop} (hc : X.calm = true) (p : P (.bl (bs.any id))) : WC X R (.builtin "any") [.lst (bs.map .bl)] P := fun F H xs Q w r c => by
  obtain ⟨v, rfl, r1⟩ := r.one
  obtain ⟨a, ws, rfl, h1, rl⟩ := rp_lst.mp r1
  have e := rl.bools
  subst e
  exact crOf.of (cr_any hc) ⟨a, bs, rfl, SqL.of (w.fh _ _ h1), c.here w (rp_bl.mpr rfl) p⟩
theorem wc_all {bs : List Bool} {P : Dt → Prop} (hc : X.calm = true) (p : P (.bl (bs.all id))) : WC X R (.builtin "all") [.lst (bs.map .bl)] P := fun F H xs Q w r c => by
  obtain ⟨v, rfl, r1⟩ := r.one
  obtain ⟨a, ws, rfl, h1, rl⟩ := rp_lst.mp r1
  have e := rl.bools
  subst e
  exact crOf.of (cr_all hc) ⟨a, bs, rfl, SqL.of (w.fh _ _ h1), c.here w (rp_bl.mpr rfl) p⟩
theorem log9 {n : Int} {k : Nat} (h : 0 < n) (hb : n.natAbs < 2 ^ k) (h0 : 0 < k) (hk : k ≤ 9000) : 0 < n ∧ n.natAbs.log2 < 9000 := ⟨h, Nat.lt_of_lt_of_le (PySem.Flt.log2_lt_of h0 hb) hk⟩
theorem wc_len_str {z : Str} {P : Dt → Prop} (hz : z.length ≤ sizeLine) (p : P (.int (z.length : Int))) : WC X R (.builtin "len") [.str z] P := fun F H xs Q w r c => by
  obtain ⟨v, rfl, h1⟩ := r.one
  rw [rp_str.mp h1]
  exact crOf.of call_len_str ⟨z, rfl, hz, c.here w (rp_int.mpr rfl) p⟩
theorem w_addS {y z : Str} {P : Dt → Prop} (h : y.length + z.length ≤ sizeLine) (p : P (.str (y ++ z))) : W2 X R (binaryOp .Add) (.str y) (.str z) P := fun F H a b Q w rx ry c => by
  rw [rp_str.mp rx, rp_str.mp ry]
  exact opOf.of op_add_str ⟨y, z, rfl, rfl, h, c.here w (rp_str.mpr rfl) p⟩
theorem w_repL {xs : List Dt} {j : Int} {P : Dt → Prop} (h : -100000 ≤ j ∧ j ≤ 100000 ∧ xs.length * j.toNat ≤ 100000) (p : P (.lst (List.replicate j.toNat xs).flatten)) : W2 X R (binaryOp .Mult) (.lst xs) (.int j) P := fun F H a b Q w rx ry c => by
  obtain ⟨o, vs, rfl, h1, rl⟩ := rp_lst.mp rx
  rw [rp_int.mp ry]
  refine opOf.of op_rep ⟨o, j, vs, rfl, rfl, w.fh _ _ h1, by omega, by omega, ?_, fun q hq => c _ _ _ _ (w.made hq) (rp_lst_new (w.fh.free hq) ?_) p⟩
  · rw [← rl.length]; exact Nat.le_trans h.2.2 (by decide)
  · generalize j.toNat = m
    induction m with
    | zero => exact .nil
    | succ m ih =>
      rw [List.replicate_succ, List.replicate_succ, List.flatten_cons, List.flatten_cons]
      exact rl.append ih
/-- a comprehension that filters and maps -/
theorem lc_fm {tg elt t : Expr} {scope : Scope} {vs : List Nat} {ds : List Dt} (f : Dt → Bool) (g : Dt → Dt) (js : Dt → List (Nat × Dt)) (ha : ∀ (i : Nat) d, ds[i]? = some d → ∀ Y, Blk X scope Y → A Y tg d (js d)) (hj : ∀ d, ∀ p ∈ js d, p.1 ∈ vs)
    (ht : ∀ (i : Nat) d, ds[i]? = some d → ∀ Y, Blk X scope Y → T Y R (setsD (wipeD G vs) (js d)) t fun b => b = f d)
    (he : ∀ (i : Nat) d, ds[i]? = some d → f d = true → ∀ Y, Blk X scope Y → E Y R (setsD (wipeD G vs) (js d)) elt fun y => y = g d) : Lc X R G tg elt [t] scope vs ds fun i acc => acc = ((ds.take i).filter f).map g := by
  refine ⟨rfl, fun i d acc hd hacc hl => ⟨js d, ha i d hd, hj d, fun Y bY => ts_one ((ht i d hd Y bY).imp fun b hb => ?_)⟩⟩
  have hi : i < ds.length := (List.getElem?_eq_some_iff.mp hd).1
  have e2 : ds.take (i + 1) = ds.take i ++ [d] := by rw [List.take_add_one, hd]; rfl
  subst hb
  rw [e2, List.filter_append, List.map_append]
  cases hf : f d with
  | true =>
    rw [if_pos rfl]
    intro Z bZ
    refine (he i d hd hf Z bZ).imp fun y hy => ?_
    rw [hy, hacc]
    simp [hf]
  | false =>
    rw [if_neg (by decide), hacc]
    simp [hf]
end
end VS
set_option Elab.async false
set_option linter.all false
set_option maxRecDepth 100000
set_option maxHeartbeats 2000000
/-! tuples: cut, joined, repeated; zip -/
namespace VS
open PySem PySem.Spec L2 PyProof.Rows
theorem tup_once (l : Addr) (items : Array Value) (n : Nat) (dd : Option Addr) (sl : Array (Option Value)) (u : Tok) (x : Int) (hx : x = 1) :
    Meets (Builtin.«tuple.__mul__» ⟨[.ref l, .int x u], []⟩) (fun _ R s => s.heap.get? l = some { cls := .type "tuple", dict := dd, data := .seq items n, slots := sl } ∧ R (.ok (.ret (Value.ref l))) s) :=
  .of_wp fun prog w A R s h => by
    obtain ⟨hp, g, d, tk, os⟩ := s
    obtain ⟨hl, h⟩ := h
    subst hx
    have i1 := AutoSeq1.idx_int
    have c0 : (decide ((1 : Int) < -(2 ^ 63)) || decide ((1 : Int) ≥ 2 ^ 63)) = false := by decide
    have c1 : (items.isEmpty || (1 : Int) == 1) = true := by simp
    wp_walk using wpAny_loadPart' hl
    exact ⟨_, rfl, h⟩
theorem tup_never (l : Addr) (items : Array Value) (n : Nat) (dd : Option Addr) (sl : Array (Option Value)) (u : Tok) (x : Int) (hx : x ≤ 0) (hx2 : -(2 ^ 62) ≤ x) (hi : items.isEmpty = false) :
    Meets (Builtin.«tuple.__mul__» ⟨[.ref l, .int x u], []⟩) (fun _ R s => s.heap.get? l = some { cls := .type "tuple", dict := dd, data := .seq items n, slots := sl } ∧
      R (.ok (.ret (Value.ref s.heap.objs.size))) { s with heap := s.heap.push { cls := Value.type "tuple", data := Data.seq #[] }, toks := s.toks }) :=
  .of_wp fun prog w A R s h => by
    obtain ⟨hp, g, d, tk, os⟩ := s
    obtain ⟨hl, h⟩ := h
    have i1 := AutoSeq1.idx_int
    have c0 : (decide (x < -(2 ^ 63)) || decide (x ≥ 2 ^ 63)) = false := by
      rw [decide_eq_false (by omega), decide_eq_false (by omega)]
      rfl
    have c1 : (items.isEmpty || x == 1) = false := by
      rw [hi, Bool.false_or]
      exact beq_eq_false_iff_ne.mpr (by omega)
    have c2 : (decide (x ≤ 0) || items.isEmpty) = true := by rw [decide_eq_true hx]; rfl
    wp_walk using wpAny_loadPart' hl
    repeat (first
      | (refine wpAny_ite_false (decide_eq_false (by rw [c0]; exact Bool.false_ne_true)) ?_; wp_walk using wpAny_loadPart' hl)
      | (refine wpAny_ite_false (decide_eq_false (by rw [c1]; exact Bool.false_ne_true)) ?_; wp_walk using wpAny_loadPart' hl)
      | (refine wpAny_ite_true (decide_eq_true c2) ?_; wp_walk using wpAny_loadPart' hl))
    exact ⟨_, rfl, h⟩
section
variable {X : Cx} {R : Reg}
/-- t * k, k at most 1 -/
theorem op_repT0 {pins : List (Addr × Obj)} {σ : L2.St} {H : Hp} {s : Shared} {l : Addr} {xs : List V} {k : Int} {t : Tok} {Q : VK} (I : Inv X pins σ H s) (hT : SqT X.K H l xs) (hne : xs ≠ []) (h1 : k ≤ 1) (h2 : -(2 ^ 62) ≤ k)
    (q1 : k = 1 → Q (.ref l) H) (q0 : k ≤ 0 → ∀ p, H p = none → Q (.ref p) (upd H p (.tup []))) : wpAny (model X.prog X.w) X.A (binaryOp .Mult (.ref l) (.int k t)) (EP X pins σ Q) X.xe s := by
  obtain ⟨its, r, ⟨⟨cls, dd, data, sl⟩, ho, hc, n, hd⟩, hs⟩ := I.tuple hT
  simp only at hc hd
  subst hc hd
  have hle : its.length = xs.length := r.length.symm
  have hi : its.toArray.isEmpty = false := by
    cases its with
    | nil => exact absurd (List.eq_nil_of_length_eq_zero hle.symm) hne
    | cons a b => rfl
  refine wpAny_binaryOp_repeat_ref (T := "tuple") (U := "int") (by decide) ⟨_, ho, rfl⟩ (fun s' => typeIs_int s' k t) noFill_tuple_mul F.fills_int_mul F.slot_int_rmul repeat_tuple F.slot_int_index.lookup
    (call_meets F.slot_int_rmul (typeIs_int s k t) F.entry_int_rmul (F.args_int_rmul_2 _ _) (int_rmul_tuple k t l its.toArray n dd sl) ⟨ho, rfl, ⟨_, ho, rfl⟩, ?_⟩)
  by_cases e : k = 1
  · exact call_meets F.slot_tuple_mul ⟨_, ho, rfl⟩ F.entry_tuple_mul (F.args_tuple_mul_2 _ _) (tup_once l its.toArray n dd sl t k e) ⟨ho, ⟨.ref l, H, I, rfl, q1 e⟩⟩
  · refine call_meets F.slot_tuple_mul ⟨_, ho, rfl⟩ F.entry_tuple_mul (F.args_tuple_mul_2 _ _) (tup_never l its.toArray n dd sl t k (by omega) h2 hi) ⟨ho, ?_⟩
    refine ⟨.ref s.heap.objs.size, _, I.laid (t' := s.toks) (o := .tup []) (fun b ob q => Heap.get?_push_of_some _ q) (Nat.le_refl _) ?_, rfl, q0 (by omega) _ (I.hok.fresh (Nat.le_refl _))⟩
    exact ⟨Nat.zero_le _, [], .nil, IsTup.new _ _⟩
theorem RpL.rep {K : PySem.W.Frag} {F : Hp} {ds : List Dt} {vs : List V} (r : RpL K F ds vs) : ∀ m, RpL K F (List.replicate m ds).flatten (List.replicate m vs).flatten
  | 0 => .nil
  | m + 1 => by
    rw [List.replicate_succ, List.replicate_succ, List.flatten_cons, List.flatten_cons]
    exact r.append (RpL.rep r m)
theorem w_repT {xs : List Dt} {j : Int} {P : Dt → Prop} (h : xs ≠ [] ∧ xs.length ≤ 1000 ∧ -(2 ^ 62) ≤ j ∧ j ≤ 1000) (p : P (.tup (List.replicate j.toNat xs).flatten)) : W2 X R (binaryOp .Mult) (.tup xs) (.int j) P := fun F H a b Q w rx ry c => by
  obtain ⟨o, vs, rfl, h1, rl⟩ := rp_tup.mp rx
  rw [rp_int.mp ry]
  have hv : vs ≠ [] := fun z => h.1 (List.eq_nil_of_length_eq_zero (by rw [rl.length, z]; rfl))
  have sq := sq_t w.fh h1
  by_cases hj : 2 ≤ j
  · refine opOf.of op_repT ⟨o, j, vs, rfl, rfl, sq, hv, hj, h.2.2.2, by rw [← rl.length]; exact h.2.1, fun q hq => c _ _ _ _ (w.made hq) (rp_tup_new (w.fh.free hq) (rl.rep _)) p⟩
  · unfold opOf
    intro pins s σ v u I rv ru
    cases rv
    obtain ⟨t, rfl⟩ := ru
    refine op_repT0 I sq hv (by omega) h.2.2.1 (fun e => ?_) fun e q hq => ?_
    · refine c.here w rx ?_
      have : (List.replicate j.toNat xs).flatten = xs := by rw [e]; simp
      rw [this] at p
      exact p
    · refine c _ _ _ _ (w.made hq) (rp_tup_new (w.fh.free hq) .nil) ?_
      have : (List.replicate j.toNat xs).flatten = [] := by rw [show j.toNat = 0 by omega]; simp
      rw [this] at p
      exact p
theorem w_catT {xs ys : List Dt} {P : Dt → Prop} (hl : xs.length + ys.length ≤ 100000) (p : P (.tup (xs ++ ys))) : W2 X R (binaryOp .Add) (.tup xs) (.tup ys) P := fun F H x y Q w rx ry c => by
  have rx0 := rx
  have ry0 := ry
  obtain ⟨a, vs, rfl, h1, r1⟩ := rp_tup.mp rx
  obtain ⟨b, ws, rfl, h2, r2⟩ := rp_tup.mp ry
  refine opOf.of op_catA ⟨a, b, vs, ws, rfl, rfl, sq_t w.fh h1, sq_t w.fh h2, by rw [← r1.length, ← r2.length]; exact Nat.le_trans hl (by decide), fun e => ?_, fun _ e => ?_, fun _ _ q hq => ?_⟩
  · have : xs = [] := List.eq_nil_of_length_eq_zero (by rw [r1.length, e]; rfl)
    rw [this] at p
    exact c.here w ry0 p
  · have : ys = [] := List.eq_nil_of_length_eq_zero (by rw [r2.length, e]; rfl)
    rw [this, List.append_nil] at p
    exact c.here w rx0 p
  · exact c _ _ _ _ (w.made hq) (rp_tup_new (w.fh.free hq) (r1.append r2)) p
theorem wsl_tup {ds : List Dt} {lo hi : Option Int} {P : Dt → Prop} (p : P (.tup (cutD ds lo hi))) : WSl X R (.tup ds) lo hi P := fun F H x Q w r c => by
  have r0 := r
  obtain ⟨a, vs, rfl, sq, rl⟩ := rp_tup.mp r
  refine slOf.of sl_tupA ⟨a, vs, rfl, sq_t w.fh sq, fun e => ?_, fun _ q hq => c _ _ _ _ (w.made hq) (rp_tup_new (w.fh.free hq) (rl.cut lo hi)) p⟩
  have : cutD ds lo hi = ds := by
    unfold cutD
    rw [rl.length, e.1, e.2, List.drop_zero, Nat.sub_zero, ← rl.length, List.take_length]
  rw [this] at p
  exact c.here w r0 p
def zipD (xs ys : List Dt) : List Dt := (xs.zip ys).map fun p => .tup [p.1, p.2]
theorem zipD_get {xs ys : List Dt} {i : Nat} {d : Dt} (h : (zipD xs ys)[i]? = some d) : ∃ x y, xs[i]? = some x ∧ ys[i]? = some y ∧ d = .tup [x, y] := by
  unfold zipD at h
  rw [List.getElem?_map] at h
  cases e : (xs.zip ys)[i]? with
  | none => rw [e] at h; cases h
  | some p =>
    rw [e] at h
    obtain ⟨h1, h2⟩ := List.getElem?_zip_eq_some.mp e
    exact ⟨p.1, p.2, h1, h2, (Option.some.inj h).symm⟩
theorem i_zip {G : List Sl} {pos : Pos} {e e2 : Expr} {p tpos : Pos} {elts : List Expr} {kk : Nat} {P : List Dt → Prop} (hg : Gl X "zip") (hm : X.mg "zip" = none) (h : EA X R G [e, e2] fun ds => ∃ xs ys, (ds = [.lst xs, .lst ys] ∨ ds = [.tup xs, .tup ys]) ∧ P (zipD xs ys))
    (hs : starEach [e, e2] X.env = (false, eval e X.env) :: starEach [e2] X.env := by rfl) (hpl : (backTo pos (starEach [e2] X.env)).any (·.1) = false := by rfl) : I X R G (.Tuple elts kk tpos) (.Call (.Name "zip" p) [e, e2] [] pos) P := fun σ F H Q ty c => by
  refine tiOf.of (RZ.pi_zipA hg hm pa_w hs hpl) (h σ F H _ ty fun vs F1 H1 ds ex r ⟨xs, ys, hd, pp⟩ => ?_)
  rcases hd with rfl | rfl
  · obtain ⟨v1, t1, rfl, q1, q2⟩ := r.of_cons
    obtain ⟨v2, t2, rfl, q3, q4⟩ := q2.of_cons
    obtain rfl := q4.of_nil
    obtain ⟨a, us, rfl, h1, r1⟩ := rp_lst.mp q1
    obtain ⟨b, ws, rfl, h2, r2⟩ := rp_lst.mp q3
    refine ⟨a, b, us, ws, rfl, .inl ⟨SqL.of (ex.wf.fh _ _ h1), SqL.of (ex.wf.fh _ _ h2), c _ F1 H1 (zipD xs ys) ex (fun F2 H2 sf wf => ?_) pp⟩⟩
    have a2 : SqL X.K H2 a us := SqL.of (wf.fh _ _ (sf _ _ h1))
    have b2 : SqL X.K H2 b ws := SqL.of (wf.fh _ _ (sf _ _ h2))
    refine ⟨fun i hi => ⟨us, ws, a2, b2, ?_⟩, fun i d hd => ?_⟩
    · have hl : (zipD xs ys).length = min xs.length ys.length := by simp [zipD]
      rw [hl, r1.length, r2.length] at hi
      omega
    · obtain ⟨dx, dy, hx, hy, rfl⟩ := zipD_get hd
      obtain ⟨vx, ex1, rx⟩ := r1.get hx
      obtain ⟨vy, ey1, ry⟩ := r2.get hy
      refine ⟨⟨us, ws, vx, vy, a2, b2, ex1, ey1⟩, fun x H' y => ?_⟩
      obtain ⟨T, x', y', rfl, hT, rfl, g1, g2⟩ := y
      have e1 := g1 us a2
      have e2 := g2 ws b2
      rw [ex1] at e1
      rw [ey1] at e2
      cases e1
      cases e2
      exact ⟨_, wf.made hT, rp_tup_new (wf.fh.free hT) (.cons (rx.mono sf) (.cons (ry.mono sf) .nil))⟩
  · obtain ⟨v1, t1, rfl, q1, q2⟩ := r.of_cons
    obtain ⟨v2, t2, rfl, q3, q4⟩ := q2.of_cons
    obtain rfl := q4.of_nil
    obtain ⟨a, us, rfl, h1, r1⟩ := rp_tup.mp q1
    obtain ⟨b, ws, rfl, h2, r2⟩ := rp_tup.mp q3
    refine ⟨a, b, us, ws, rfl, .inr ⟨sq_t ex.wf.fh h1, sq_t ex.wf.fh h2, c _ F1 H1 (zipD xs ys) ex (fun F2 H2 sf wf => ?_) pp⟩⟩
    have a2 : SqT X.K H2 a us := sq_t wf.fh (sq_t sf h1)
    have b2 : SqT X.K H2 b ws := sq_t wf.fh (sq_t sf h2)
    refine ⟨fun i hi => ⟨us, ws, a2, b2, ?_⟩, fun i d hd => ?_⟩
    · have hl : (zipD xs ys).length = min xs.length ys.length := by simp [zipD]
      rw [hl, r1.length, r2.length] at hi
      omega
    · obtain ⟨dx, dy, hx, hy, rfl⟩ := zipD_get hd
      obtain ⟨vx, ex1, rx⟩ := r1.get hx
      obtain ⟨vy, ey1, ry⟩ := r2.get hy
      refine ⟨⟨us, ws, vx, vy, a2, b2, ex1, ey1⟩, fun x H' y => ?_⟩
      obtain ⟨T, x', y', rfl, hT, rfl, g1, g2⟩ := y
      have e1 := g1 us a2
      have e2 := g2 ws b2
      rw [ex1] at e1
      rw [ey1] at e2
      cases e1
      cases e2
      exact ⟨_, wf.made hT, rp_tup_new (wf.fh.free hT) (.cons (rx.mono sf) (.cons (ry.mono sf) .nil))⟩
theorem take_map_all {τ υ : Type} (ts : List τ) (f : τ → υ) : ts.take (ts.map f).length = ts := by rw [List.length_map, List.take_length]
/-- a comprehension over what is known item by item -/
theorem lc_of {G : List Sl} {τ : Type} (ts : List τ) (inj out : τ → Dt) (js : τ → List (Nat × Dt)) {tg elt : Expr} {scope : Scope} {vs : List Nat} (ha : ∀ t ∈ ts, ∀ Y, Blk X scope Y → A Y tg (inj t) (js t)) (hj : ∀ t, ∀ p ∈ js t, p.1 ∈ vs)
    (he : ∀ t ∈ ts, ∀ Y, Blk X scope Y → E Y R (setsD (wipeD G vs) (js t)) elt fun y => y = out t) : Lc X R G tg elt [] scope vs (ts.map inj) fun i acc => acc = (ts.take i).map out := by
  refine ⟨rfl, fun i d acc hd hacc hl => ?_⟩
  rw [List.getElem?_map] at hd
  cases e : ts[i]? with
  | none => rw [e] at hd; cases hd
  | some t =>
    rw [e] at hd
    have ed : d = inj t := (Option.some.inj hd).symm
    subst ed
    have ht := List.mem_of_getElem? e
    refine ⟨js t, ha t ht, hj t, fun Y bY => ts_nil ?_⟩
    rw [if_pos rfl]
    intro Z bZ
    refine (he t ht Z bZ).imp fun y hy => ?_
    have e2 : ts.take (i + 1) = ts.take i ++ [t] := by rw [List.take_add_one, e]; rfl
    show acc ++ [y] = (ts.take (i + 1)).map out
    rw [e2, List.map_append, hacc, hy]
    rfl
/-- .. with a test -/
theorem lc_if {G : List Sl} {τ : Type} (ts : List τ) (inj out : τ → Dt) (f : τ → Bool) (js : τ → List (Nat × Dt)) {tg elt tst : Expr} {scope : Scope} {vs : List Nat} (ha : ∀ t ∈ ts, ∀ Y, Blk X scope Y → A Y tg (inj t) (js t)) (hj : ∀ t, ∀ p ∈ js t, p.1 ∈ vs)
    (ht : ∀ t ∈ ts, ∀ Y, Blk X scope Y → T Y R (setsD (wipeD G vs) (js t)) tst fun b => b = f t) (he : ∀ t ∈ ts, f t = true → ∀ Y, Blk X scope Y → E Y R (setsD (wipeD G vs) (js t)) elt fun y => y = out t) : Lc X R G tg elt [tst] scope vs (ts.map inj) fun i acc => acc = ((ts.take i).filter f).map out := by
  refine ⟨rfl, fun i d acc hd hacc hl => ?_⟩
  rw [List.getElem?_map] at hd
  cases e : ts[i]? with
  | none => rw [e] at hd; cases hd
  | some t =>
    rw [e] at hd
    have ed : d = inj t := (Option.some.inj hd).symm
    subst ed
    have hm := List.mem_of_getElem? e
    have e2 : ts.take (i + 1) = ts.take i ++ [t] := by rw [List.take_add_one, e]; rfl
    refine ⟨js t, ha t hm, hj t, fun Y bY => ts_one ((ht t hm Y bY).imp fun b hb => ?_)⟩
    subst hb
    by_cases hf : f t = true
    · rw [if_pos hf]
      intro Z bZ
      refine (he t hm hf Z bZ).imp fun y hy => ?_
      show acc ++ [y] = ((ts.take (i + 1)).filter f).map out
      rw [e2, List.filter_append, List.filter_cons_of_pos hf, List.map_append, hacc, hy]
      rfl
    · rw [if_neg hf]
      show acc = ((ts.take (i + 1)).filter f).map out
      rw [e2, List.filter_append, List.filter_cons_of_neg hf, List.filter_nil, List.append_nil, hacc]
/-- .. of which only a word is known of each item -/
theorem lc_all {G : List Sl} {ds : List Dt} (Pd : Dt → Prop) (js : Dt → List (Nat × Dt)) {tg elt : Expr} {scope : Scope} {vs : List Nat} (ha : ∀ d ∈ ds, ∀ Y, Blk X scope Y → A Y tg d (js d)) (hj : ∀ t, ∀ p ∈ js t, p.1 ∈ vs)
    (he : ∀ d ∈ ds, ∀ Y, Blk X scope Y → E Y R (setsD (wipeD G vs) (js d)) elt Pd) : Lc X R G tg elt [] scope vs ds fun i acc => acc.length = i ∧ ∀ y ∈ acc, Pd y := by
  refine ⟨⟨rfl, fun y hy => nomatch hy⟩, fun i d acc hd hacc hl => ?_⟩
  have hm := List.mem_of_getElem? hd
  refine ⟨js d, ha d hm, hj d, fun Y bY => ts_nil ?_⟩
  rw [if_pos rfl]
  intro Z bZ
  refine (he d hm Z bZ).imp fun y hy => ?_
  refine ⟨by rw [List.length_append, hacc.1]; rfl, fun z hz => ?_⟩
  rcases List.mem_append.mp hz with h | h
  · exact hacc.2 z h
  · rw [List.mem_singleton.mp h]; exact hy
end
end VS
set_option Elab.async false
set_option linter.all false
set_option maxRecDepth 100000
set_option maxHeartbeats 2000000
/-! t[::-1] of a tuple -/
namespace VS
open PySem PySem.Spec L2 PyProof.Rows
section
variable {prog : Program} {w : World} {A : Around} {E : Value → Shared → Prop} {s : Shared}
theorem places_back (n : Nat) : Builtin.Slice.slicePlaces ((n : Int) - 1) (-1) (-1) = n := by
  unfold Builtin.Slice.slicePlaces
  simp
  omega
theorem applied_back {sl : Addr} {vl vu vk : Value} {n : Nat} {Q : Int × Int × Nat → Shared → Prop} (hs : s.heap.IsSliceOf sl vl vu vk) (pl : IsPart vl none) (pu : IsPart vu none) (pk : IsPart vk (some (-1)))
    (h : Q ((n : Int) - 1, -1, n) s) : wpAny (model prog w) A (Builtin.Slice.sliceApplied (.ref sl) (pure (n : Int))) Q E s := by
  obtain ⟨ob, o1, o2, o3⟩ := id hs
  unfold Builtin.Slice.sliceApplied Builtin.Slice.sliceFields
  refine wpAny_bind (wpAny_bind (wpAny_field o1 o3 (x := vl) rfl (wpAny_bind (wpAny_field o1 o3 (x := vu) rfl (wpAny_bind (wpAny_field o1 o3 (x := vk) rfl (wpAny_pure ?_)))))))
  refine wpAny_bind (HT.slicePart_ pk ?_)
  show wpAny _ _ (if ((-1 : Int) == 0) = true then _ else _) _ _ s
  rw [if_neg (by decide)]
  refine wpAny_bind (HT.slicePart_ pl (wpAny_bind (HT.slicePart_ pu (wpAny_bind (wpAny_pure ?_)))))
  show wpAny _ _ (pure ((n : Int) - 1, (-1 : Int), Builtin.Slice.slicePlaces ((n : Int) - 1) (-1) (-1))) _ _ s
  rw [places_back]
  exact wpAny_pure h
theorem pick_back (xs : Array Value) : ((List.range xs.size).filterMap fun (m : Nat) => xs[(((xs.size : Int) - 1) + (m : Int) * (-1)).toNat]?).toArray = xs.toList.reverse.toArray := by
  have e : (fun (m : Nat) => xs[(((xs.size : Int) - 1) + (m : Int) * (-1)).toNat]?) = (fun m => xs[m]?) ∘ fun m => xs.size - 1 - m := by
    funext m
    have : (((xs.size : Int) - 1) + (m : Int) * (-1)).toNat = xs.size - 1 - m := by omega
    rw [this]
    rfl
  rw [e, ← List.filterMap_map, PySem.W.krv_range, List.filterMap_reverse, PySem.W.krv_all]
theorem tuple_back {t sl : Addr} {items : Array Value} {vl vu vk : Value} {Q : Value → Shared → Prop} (ht : IsTup s.heap t items) (hs : s.heap.IsSliceOf sl vl vu vk) (pl : IsPart vl none) (pu : IsPart vu none) (pk : IsPart vk (some (-1)))
    (h : Q (.ref s.heap.objs.size) { s with heap := s.heap.push { cls := .type "tuple", data := .seq items.toList.reverse.toArray } }) (hz : items.size ≤ sizeLine) : wpAny (model prog w) A (getItem (.ref t) (.ref sl)) Q E s := by
  have ok : sizeOk (.seq items.toList.reverse.toArray) := by
    show items.toList.reverse.toArray.size ≤ sizeLine
    simpa using hz
  obtain ⟨ob, o1, o2, o3⟩ := id hs
  have hTy : s.TypeIs (.ref sl) "slice" := ⟨ob, o1, o2⟩
  unfold getItem
  try with_reducible refine wpAny_holding ?_
  first | refine wpAny_bind (wpAny_pure ?_) | skip
  refine wpAny_bind (wpAny_sequenceKey ht.typeIs (by decide) ?_)
  refine wpAny_bind (wpAny_callSpecial?_slot (name := Str.ofString "__getitem__") ht.typeIs PyProof.Rows.slot_tuple_getitem (wpAny_call_entry PyProof.Rows.slot_tuple_getitem ht.typeIs entry_tuple_getitem ?_ (args_tuple_getitem _ _)))
  show wpAny _ _ (Builtin.Tuple.tupleItemsOf (.ref t) >>= _) _ _ s
  refine wpAny_bind (tupleItemsOf_ ht ?_)
  refine wpAny_bind (wpAny_typeOf hTy ?_)
  rw [if_pos (by decide)]
  refine wpAny_bind (applied_back hs pl pu pk ?_)
  show wpAny _ _ (if (((items.size : Int) - 1) == 0 && (-1 : Int) == 1 && items.size == items.size) = true then _ else _) _ _ s
  rw [if_neg (by simp), pick_back]
  exact wpAny_bind (m := Builtin.Tuple.tupleExact _) (wpAny_newObj_type (by first | exact wpAny_pure ⟨_, rfl, wpAny_pure h⟩ | exact wpAny_bind (wpAny_pure (wpAny_pure ⟨_, rfl, wpAny_pure h⟩))) ok)
end
section
variable {X : Cx} {R : Reg} {G : List Sl} {pos : Pos}
theorem RpL.rev {K : PySem.W.Frag} {F : Hp} : ∀ {ds : List Dt} {ws : List V}, RpL K F ds ws → RpL K F ds.reverse ws.reverse
  | [], _, r => by rw [r.of_nil]; exact .nil
  | d :: ds, _, r => by
    obtain ⟨v, t, rfl, q1, q2⟩ := r.of_cons
    rw [List.reverse_cons, List.reverse_cons]
    exact (RpL.rev q2).append (.cons q1 .nil)
theorem e_revT {e : Expr} {j : Nat} {p1 p2 p3 : Pos} {P : Dt → Prop} (h : E X R G e fun d => ∃ xs, d = .tup xs ∧ P (.tup xs.reverse)) : E X R G (.Subscript e (.Slice none none (some (.UnaryOp .USub (.Constant (.int 1) j p1) p2)) p3) pos) P := fun σ F H Q ty c => by
  have ht := h σ F H (fun v H1 => ∃ a xs, v = .ref a ∧ SqT X.K H1 a xs ∧ ∀ p, H1 p = none → Q (.ref p) (upd H1 p (.tup xs.reverse))) ty fun v F1 H1 d ex r ⟨xs, ed, pp⟩ => by
    subst ed
    obtain ⟨a, vs, rfl, h1, r1⟩ := rp_tup.mp r
    exact ⟨a, vs, rfl, sq_t ex.wf.fh h1, fun q hq => c _ _ _ _ (ex.trans (ex.wf.made hq)) (rp_tup_new (ex.wf.fh.free hq) r1.rev) pp⟩
  unfold tOf
  intro pins s I
  refine Subscript_ (thn (pe_w.run pins s σ H _ I ht) fun v s1 ⟨x, H1, I1, r1, q1⟩ => ?_)
  obtain ⟨a, xs, rfl, hx, q⟩ := q1
  cases r1
  have hst : PO X (some (.UnaryOp .USub (.Constant (.int 1) j p1) p2)) (tPart (tUn (rU fun i => .int (-i)) (tC (.int 1)))) := po_some (pe_un un_neg pe_int)
  refine wpAny_Slice (thn (po_none.run pins s1 σ H1 (fun o H2 => o = none ∧ H2 = H1) I1 ⟨rfl, rfl⟩) fun vl s2 ⟨l, H2, I2, pl, el, e2⟩ => ?_)
  subst el e2
  refine thn (po_none.run pins s2 σ H2 (fun o H3 => o = none ∧ H3 = H2) I2 ⟨rfl, rfl⟩) fun vu s3 ⟨u, H3, I3, pu, eu, e3⟩ => ?_
  subst eu e3
  refine thn (hst.run pins s3 σ H3 (fun o H4 => o = some (-1) ∧ H4 = H3) I3 ⟨1, rfl, -1, rfl, rfl, rfl⟩) fun vk s4 ⟨o, H4, I4, pk, eo, e4⟩ => ?_
  subst eo e4
  have I5 : Inv X pins σ H4 { s4 with heap := s4.heap.push { cls := .type "slice", data := .fields #[vl, vu, vk] } } := I4.kept (t' := s4.toks) fun b ob q => Heap.get?_push_of_some _ q
  obtain ⟨its, rv, tp, hz⟩ := I5.tuple hx
  have hlen := rv.length
  show wpAny (model X.prog X.w) X.A (subscriptTail e (.Slice none none (some (.UnaryOp .USub (.Constant (.int 1) j p1) p2)) p3) (.ref a) (.ref s4.heap.objs.size)) (EP X pins σ Q) X.xe _
  refine tail_any (ops := [.ref a, .ref s4.heap.objs.size]) tp.typeIs (PyProof.Rows.slot_tuple_getitem.lookup) ?_ (by with_unfolding_all rfl)
  refine tuple_back tp (Heap.IsSliceOf.new _ vl vu vk) pl pu pk ?_ (by rw [List.size_toArray]; omega)
  refine ⟨.ref _, _, I5.laid (t' := s4.toks) (o := .tup xs.reverse) (fun b ob q => Heap.get?_push_of_some _ q) (Nat.le_refl _) ?_, rfl, q _ (I5.hok.fresh (Nat.le_refl _))⟩
  exact ⟨by rw [List.length_reverse]; exact hz, _, rv.reverse, IsTup.new _ _⟩
end
end VS
set_option Elab.async false
set_option linter.all false
set_option maxRecDepth 100000
namespace VS
open PySem PySem.Spec L2

/-! ### defs with a star parameter -/
/-- def f(*v) -/
def spSt (K : PySem.W.Frag) (φ : Ph) : Sp := fun vs H Q E => vs.length ≤ sizeLine ∧ ∀ p, H p = none → spD K 1 φ [.ref p] (upd H p (.tup vs)) Q E
structure FnS (P : Program) (w : World) (K : PySem.W.Frag) (mg : Str → Option Value) (base : Heap) (k : Nat) (x : Str) (φ : Ph) : Prop where
  ex : ∃ f : Addr, mg x = some (.ref f) ∧ PySem.W.keepIn K (.ref f) = true ∧ FnR P w K mg base (L2.CX P w) k f (spSt K φ)
theorem FnS.mono {P : Program} {w : World} {K : PySem.W.Frag} {mg : Str → Option Value} {base : Heap} {j k : Nat} {x : Str} {φ : Ph} (F : FnS P w K mg base j x φ) (h : j ≤ k) : FnS P w K mg base k x φ := by
  obtain ⟨f, a, b, c⟩ := F.ex
  exact ⟨f, a, b, c.mono h⟩
section
variable {X : Cx} {R : Reg} {G : List Sl} {pos : Pos} {k : Kt}
theorem pe_callR {CX : CXT} {j : Nat} {f : Addr} {sp : Sp} {E : XK} {x : Str} {e : Expr} {es : List Expr} {t : TA} {p : Pos} (F : FnR X.prog X.w X.K X.mg X.base CX j f sp) (hr : Room j X.A) (hg : Gl X x) (hm : X.mg x = some (.ref f)) (hk : PySem.W.keepIn X.K (.ref f) = true) (hx : Passes CX X E)
    (ha : PA X (e :: es) t) (hdb : (x == ("__debug__" : Str)) = false := by decide) (he : starEach (e :: es) X.env = (false, eval e X.env) :: starEach es X.env := by rfl) (hpl : (backTo pos (starEach es X.env)).any (·.1) = false := by rfl) :
    PE X (.Call (.Name x p) (e :: es) [] pos) (fun σ H Q => t σ H fun vs H1 => sp vs H1 Q E) := by
  refine ⟨fun pins s σ H Q I h => ?_⟩
  refine wpAny_Call_Name_kw (ld_glob I hg hm ?_ hdb)
  refine PySem.W.callWith_K (h₀ := X.base) I.ok.mod.kin hk (thn (ha.run pos pins s σ H _ I h) fun us s1 ⟨vs, H1, I1, r, q⟩ => ⟨I1.kIn, ?_⟩) he hpl
  exact wpAny_call (run_fnR F hr hx I1 r q)
theorem pe_callR0 {CX : CXT} {j : Nat} {f : Addr} {sp : Sp} {E : XK} {x : Str} {p : Pos} (F : FnR X.prog X.w X.K X.mg X.base CX j f sp) (hr : Room j X.A) (hg : Gl X x) (hm : X.mg x = some (.ref f)) (hk : PySem.W.keepIn X.K (.ref f) = true) (hx : Passes CX X E)
    (hdb : (x == ("__debug__" : Str)) = false := by decide) : PE X (.Call (.Name x p) [] [] pos) (fun σ H Q => sp [] H Q E) := by
  refine ⟨fun pins s σ H Q I h => ?_⟩
  refine wpAny_Call_Name_kw (ld_glob I hg hm ?_ hdb)
  exact PySem.W.callWith_K0 I.kIn hk (wpAny_call (run_fnR F hr hx I .nil h))
theorem spSt_of {K : PySem.W.Frag} {φ : Ph} {F H : Hp} {ds : List Dt} {vs : List V} {P : Dt → Prop} {Q : VK} {E : XK} (wf : Wf R F H) (r : RpL K F ds vs) (hl : ds.length ≤ 100000) (hφ : φ [.tup ds] P fun _ _ _ => False) (c : Ct K R F H P Q) : spSt K φ vs H Q E := by
  refine ⟨by rw [← r.length]; exact Nat.le_trans hl (by decide), fun p hp => ?_⟩
  have ex := wf.made (o := .tup vs) hp
  exact ⟨rfl, upd F p (.tup vs), [.tup ds], P, fun _ _ _ => False, ex.wf.fh, .cons (rp_tup_new (wf.fh.free hp) r) .nil, hφ, fun v F2 H2 d ex2 r2 q => c v F2 H2 d (ex.trans (Ext.of_nil ex.wf ex2)) r2 q, ⟨fun _ _ _ _ _ _ _ z => z.elim, fun _ _ _ z => z.elim⟩⟩
theorem e_callSt {x : Str} {φ : Ph} {j : Nat} {e : Expr} {es : List Expr} {p : Pos} {P : Dt → Prop} (F : FnS X.prog X.w X.K X.mg X.base j x φ) (hr : Room j X.A) (hg : Gl X x) (h : EA X R G (e :: es) fun ds => ds.length ≤ 100000 ∧ φ [.tup ds] P fun _ _ _ => False)
    (hdb : (x == ("__debug__" : Str)) = false := by decide) (he : starEach (e :: es) X.env = (false, eval e X.env) :: starEach es X.env := by rfl) (hpl : (backTo pos (starEach es X.env)).any (·.1) = false := by rfl) : E X R G (.Call (.Name x p) (e :: es) [] pos) P := fun σ F' H Q ty c => by
  obtain ⟨f, a1, a2, a3⟩ := F.ex
  exact tOf.of (pe_callR a3 hr hg a1 a2 passL pa_w hdb he hpl) (h σ F' H _ ty fun vs F1 H1 ds ex r ⟨hl, hφ⟩ => spSt_of ex.wf r hl hφ (c.step ex))
theorem e_callSt0 {x : Str} {φ : Ph} {j : Nat} {p : Pos} {P : Dt → Prop} (F : FnS X.prog X.w X.K X.mg X.base j x φ) (hr : Room j X.A) (hg : Gl X x) (h : φ [.tup []] P fun _ _ _ => False) (hdb : (x == ("__debug__" : Str)) = false := by decide) : E X R G (.Call (.Name x p) [] [] pos) P := fun σ F' H Q ty c => by
  obtain ⟨f, a1, a2, a3⟩ := F.ex
  exact tOf.of (pe_callR0 a3 hr hg a1 a2 passL hdb) (spSt_of ty.wf .nil (by decide) h c)
/-- f(*e): a list or a tuple -/
theorem e_callSt1 {x : Str} {φ : Ph} {j : Nat} {e : Expr} {p p2 : Pos} {P : Dt → Prop} (F : FnS X.prog X.w X.K X.mg X.base j x φ) (hr : Room j X.A) (hg : Gl X x) (h : E X R G e fun d => ∃ ds, (d = .lst ds ∨ d = .tup ds) ∧ ds.length ≤ 100000 ∧ φ [.tup ds] P fun _ _ _ => False)
    (hdb : (x == ("__debug__" : Str)) = false := by decide) (hst : starEach [.Starred e p2] X.env = [(true, eval e X.env)] := by rfl) : E X R G (.Call (.Name x p) [.Starred e p2] [] pos) P := fun σ F' H Q ty c => by
  obtain ⟨f, a1, a2, a3⟩ := F.ex
  refine tOf.of (StX.pe_callS1 a3 hr a2 hg a1 passL pe_w hdb hst) (h σ F' H _ ty fun v F1 H1 d ex r ⟨ds, hd, hl, hφ⟩ => ?_)
  rcases hd with rfl | rfl
  · obtain ⟨a, vs, rfl, h1, rl⟩ := rp_lst.mp r
    exact ⟨a, vs, rfl, .inr (SqL.of (ex.wf.fh _ _ h1)), spSt_of ex.wf rl hl hφ (c.step ex)⟩
  · obtain ⟨a, vs, rfl, h1, rl⟩ := rp_tup.mp r
    exact ⟨a, vs, rfl, .inl (sq_t ex.wf.fh h1), spSt_of ex.wf rl hl hφ (c.step ex)⟩
end
section
variable {P : Program} {w : World} {K : PySem.W.Frag} {mg : Str → Option Value} {base : Heap}
theorem fnS_ok {x qual : Str} {st : Stmt} {f : Addr} {fd : FuncData} {kws : List (Str × V)} {N : List Str} {pv : Str} {k : Nat} {φ : Ph} (F : FD K x qual st [] kws f fd) (Sc : FnScope N [pv] (defScope st))
    (hb : ∀ (kV doc pm : Value) (an : Option Addr) (cdv ct : Value) (rest : List Value), bindArgs (PySem.W.fnOf x qual (defArgs st) (defBody st) (defScope st) .none kV doc pm an cdv ct) ⟨rest, []⟩ = (newTuple rest >>= fun t => pure [(pv, t)]))
    (h : ∀ (X : Cx) (cdv : Value) (A : Around) (outer : List Env) (s : Shared) (H : Hp) (E : XK) (ds : List Dt) (q : Dt → Prop) (xd : XD), X = cxOf (L2.CX P w) P w K mg base N qual (defScope st) f cdv A outer s H E → Room k X.A → φ ds q xd → ds.length = 1 →
      (∀ F, Wf .nil F H → XOk K .nil F H xd E → S X .nil (defBody st) (st0 N ds) { nx := fun _ => q .non, rt := q })) : FnR P w K mg base (L2.CX P w) (k + 1) f (spSt K φ) := by
  obtain ⟨oc, od, dV, kV, doc, pm, an, cdv, ct, osl, rfl, lk, hcd, hD, _⟩ := F.ex
  have hdn : dV = .none := by
    rcases hD with ⟨_, h0⟩ | ⟨h0, _⟩
    · exact h0
    · exact (h0 rfl).elim
  subst hdn
  have z := StX.fn_star (k := k) (P := P) (w := w) (mg := mg) (base := base) (CX := L2.CX P w) (ps := []) (pv := pv) (sp := spD K 1 φ) lk hcd Sc StX.cxUp (fun us rest hl => by
    have e : us = [] := List.length_eq_zero_iff.mp hl
    subst e
    exact hb kV doc pm an cdv ct rest) (fun A outer s H vs Q E hr hh => ?_)
  · refine z.imp fun vs H Q E hs => ⟨[], vs, rfl, rfl, hs.1, fun p hp => hs.2 p hp⟩
  · obtain ⟨hl, F0, ds, q, xd, sf, r, hφ, hq, hx⟩ := hh
    have hS := h _ cdv A outer s H E ds q xd rfl hr hφ (by rw [r.length, hl]) F0 (wf_nil sf) hx
    refine ⟨_, pss_w, hS F0 H _ F0 H _ ⟨wf_nil sf, ?_, by unfold st0; rw [owns0]; exact .nil⟩ ⟨.refl (wf_nil sf), (by unfold st0; rw [owns0]; intro o ho; cases ho), trivial⟩ ⟨fun G σ F1 H1 z _ b => hq .non F1 H1 .non b.ext (rp_non.mpr rfl) z, fun d v F1 H1 z e rd => hq v F1 H1 d e rd z, fun _ _ _ _ z => z.elim, fun _ _ _ _ z => z.elim, fun _ _ _ _ z => z.elim⟩⟩
    unfold st0 L2.start
    rw [r.length]
    exact sls0 _ r
end
end VS
set_option Elab.async false
set_option linter.all false
set_option maxRecDepth 100000
/-! Fractions in lowest terms, in plain Lean. -/
namespace VS
open PySem PySem.Spec L2

def gcdS (n d : Int) : Int := if d < 0 then -(Int.gcd n d : Int) else (Int.gcd n d : Int)
def mkR (n d : Int) : Int × Int := (n.fdiv (gcdS n d), d.fdiv (gcdS n d))
def IsR (r : Int × Int) : Prop := 1 ≤ r.2 ∧ Int.gcd r.1 r.2 = 1
def ratD (r : Int × Int) : Dt := .tup [.int r.1, .int r.2]
theorem gcdS_ne {n d : Int} (hd : d ≠ 0) : gcdS n d ≠ 0 := by
  have h : 0 < Int.gcd n d := Int.gcd_pos_of_ne_zero_right n hd
  unfold gcdS
  split <;> omega
theorem gcdS_abs (n d : Int) : (gcdS n d).natAbs = Int.gcd n d := by
  unfold gcdS
  split <;> omega
theorem mkR_ex {n d : Int} (hd : d ≠ 0) : ∃ k l : Int, n = gcdS n d * k ∧ d = gcdS n d * l ∧ mkR n d = (k, l) := by
  have h1 : gcdS n d ∣ n := by
    have : (Int.gcd n d : Int) ∣ n := Int.gcd_dvd_left n d
    unfold gcdS
    split
    · exact (Int.neg_dvd).mpr this
    · exact this
  have h2 : gcdS n d ∣ d := by
    have : (Int.gcd n d : Int) ∣ d := Int.gcd_dvd_right n d
    unfold gcdS
    split
    · exact (Int.neg_dvd).mpr this
    · exact this
  obtain ⟨k, hk⟩ := h1
  obtain ⟨l, hl⟩ := h2
  refine ⟨k, l, hk, hl, ?_⟩
  have hg := gcdS_ne (n := n) hd
  unfold mkR
  generalize gcdS n d = g at *
  rw [hk, hl, Int.mul_fdiv_cancel_left k hg, Int.mul_fdiv_cancel_left l hg]
theorem mkR_spec {n d : Int} (hd : d ≠ 0) : IsR (mkR n d) ∧ (mkR n d).1 * d = n * (mkR n d).2 := by
  obtain ⟨k, l, hk, hl, e⟩ := mkR_ex (n := n) hd
  rw [e]
  have hg := gcdS_ne (n := n) hd
  have ha := gcdS_abs n d
  have hs : (gcdS n d < 0 ∧ d < 0) ∨ (0 < gcdS n d ∧ 0 < d) := by
    have h : 0 < Int.gcd n d := Int.gcd_pos_of_ne_zero_right n hd
    by_cases q : d < 0
    · left; unfold gcdS; rw [if_pos q]; omega
    · right; unfold gcdS; rw [if_neg q]; omega
  generalize hG : gcdS n d = g at *
  refine ⟨⟨?_, ?_⟩, ?_⟩
  · show 1 ≤ l
    rcases hs with ⟨h1, h2⟩ | ⟨h1, h2⟩
    · have : 0 < l := by
        rcases Int.lt_trichotomy l 0 with h | h | h
        · have := Int.mul_pos_of_neg_of_neg h1 h
          omega
        · rw [h, Int.mul_zero] at hl; omega
        · exact h
      omega
    · have : 0 < l := by
        rcases Int.lt_trichotomy l 0 with h | h | h
        · have := Int.mul_neg_of_pos_of_neg h1 h
          omega
        · rw [h, Int.mul_zero] at hl; omega
        · exact h
      omega
  · show Int.gcd k l = 1
    have e1 : Int.gcd n d = Int.gcd (g * k) (g * l) := by rw [← hk, ← hl]
    rw [Int.gcd_mul_left] at e1
    rw [ha] at e1
    have h : 0 < Int.gcd n d := Int.gcd_pos_of_ne_zero_right n hd
    have e2 : Int.gcd n d * 1 = Int.gcd n d * Int.gcd k l := by rw [Nat.mul_one]; exact e1
    exact (Nat.eq_of_mul_eq_mul_left h e2).symm
  · show k * d = n * l
    have : k * (g * l) = g * k * l := by rw [← Int.mul_assoc, Int.mul_comm k g]
    rw [← hl, ← hk] at this
    exact this
theorem mkR_le1 {n d : Int} (hd : d ≠ 0) : (mkR n d).1.natAbs ≤ n.natAbs := by
  obtain ⟨k, l, hk, hl, e⟩ := mkR_ex (n := n) hd
  rw [e]
  have hg := gcdS_ne (n := n) hd
  have : n.natAbs = (gcdS n d).natAbs * k.natAbs := by rw [← Int.natAbs_mul, ← hk]
  rw [this]
  exact Nat.le_mul_of_pos_left _ (by omega)
theorem mkR_le2 {n d : Int} (hd : d ≠ 0) : (mkR n d).2.natAbs ≤ d.natAbs := by
  obtain ⟨k, l, hk, hl, e⟩ := mkR_ex (n := n) hd
  rw [e]
  have hg := gcdS_ne (n := n) hd
  have : d.natAbs = (gcdS n d).natAbs * l.natAbs := by rw [← Int.natAbs_mul, ← hl]
  rw [this]
  exact Nat.le_mul_of_pos_left _ (by omega)
theorem IsR.ne {r : Int × Int} (h : IsR r) : r.2 ≠ 0 := by have := h.1; omega
theorem dvd_cop {x y z : Int} (h : x ∣ y * z) (g : Int.gcd y x = 1) : x ∣ z := by
  rw [← Int.natAbs_dvd_natAbs] at h ⊢
  rw [Int.natAbs_mul] at h
  have g' : Nat.Coprime x.natAbs y.natAbs := by
    have : Nat.gcd y.natAbs x.natAbs = 1 := g
    rw [Nat.gcd_comm] at this
    exact this
  exact g'.dvd_of_dvd_mul_left h
theorem IsR.uniq {a b : Int × Int} (ha : IsR a) (hb : IsR b) (h : a.1 * b.2 = b.1 * a.2) : a = b := by
  obtain ⟨a1, a2⟩ := a
  obtain ⟨b1, b2⟩ := b
  obtain ⟨p1, p2⟩ := ha
  obtain ⟨q1, q2⟩ := hb
  dsimp only at *
  have d1 : a2 ∣ b2 := by
    have : a2 ∣ a1 * b2 := ⟨b1, by rw [h, Int.mul_comm]⟩
    exact dvd_cop this p2
  have d2 : b2 ∣ a2 := by
    have : b2 ∣ b1 * a2 := ⟨a1, by rw [← h, Int.mul_comm]⟩
    exact dvd_cop this q2
  have e2 : a2 = b2 := Int.dvd_antisymm (by omega) (by omega) d1 d2
  subst e2
  have e1 : a1 = b1 := Int.eq_of_mul_eq_mul_right (by omega) h
  rw [e1]
theorem mkR_self {r : Int × Int} (h : IsR r) : mkR r.1 r.2 = r := by
  obtain ⟨s1, s2⟩ := mkR_spec (n := r.1) h.ne
  exact s1.uniq h s2
theorem mkR_eq {n d : Int} {r : Int × Int} (hd : d ≠ 0) (hr : IsR r) (h : r.1 * d = n * r.2) : mkR n d = r := by
  obtain ⟨s1, s2⟩ := mkR_spec (n := n) hd
  refine s1.uniq hr ?_
  have e : ((mkR n d).1 * r.2) * d = (r.1 * (mkR n d).2) * d := by
    calc ((mkR n d).1 * r.2) * d = ((mkR n d).1 * d) * r.2 := by rw [Int.mul_assoc, Int.mul_comm r.2 d, ← Int.mul_assoc]
      _ = n * (mkR n d).2 * r.2 := by rw [s2]
      _ = (n * r.2) * (mkR n d).2 := by rw [Int.mul_assoc, Int.mul_comm (mkR n d).2 r.2, ← Int.mul_assoc]
      _ = (r.1 * d) * (mkR n d).2 := by rw [h]
      _ = (r.1 * (mkR n d).2) * d := by rw [Int.mul_assoc, Int.mul_comm d, ← Int.mul_assoc]
  exact Int.eq_of_mul_eq_mul_right hd e
theorem gcd_log {n d : Int} {k : Nat} (hd : d ≠ 0) (h : d.natAbs < 2 ^ k) (h0 : 0 < k) (hk : k ≤ 9000) : CDivA n (gcdS n d) ∧ CDivA d (gcdS n d) := by
  have hg := gcdS_ne (n := n) hd
  have ha := gcdS_abs n d
  have hle : Int.gcd n d ≤ d.natAbs := Int.gcd_le_natAbs_right n hd
  have l : (gcdS n d).natAbs.log2 < 9000 := Nat.lt_of_lt_of_le (PySem.Flt.log2_lt_of h0 (by rw [ha]; exact Nat.lt_of_le_of_lt hle h)) hk
  exact ⟨⟨hg, l⟩, ⟨hg, l⟩⟩
/-- sizes -/
theorem sz_mul {a b : Nat} {i j : Int} (ha : i.natAbs < 2 ^ a) (hb : j.natAbs < 2 ^ b) : (i * j).natAbs < 2 ^ (a + b) := wide_lt ha hb
theorem sz_add {a : Nat} {i j : Int} (ha : i.natAbs < 2 ^ a) (hb : j.natAbs < 2 ^ a) : (i + j).natAbs < 2 ^ (a + 1) := by
  rw [Nat.pow_succ]
  omega
theorem sz_sub {a : Nat} {i j : Int} (ha : i.natAbs < 2 ^ a) (hb : j.natAbs < 2 ^ a) : (i - j).natAbs < 2 ^ (a + 1) := by
  rw [Nat.pow_succ]
  omega
theorem sz_neg {a : Nat} {i : Int} (ha : i.natAbs < 2 ^ a) : (-i).natAbs < 2 ^ a := by rw [Int.natAbs_neg]; exact ha
theorem sz_up {a b : Nat} {i : Int} (ha : i.natAbs < 2 ^ a) (h : a ≤ b) : i.natAbs < 2 ^ b := Nat.lt_of_lt_of_le ha (Nat.pow_le_pow_right (by decide) h)
theorem mulOk {a b : Nat} {i j : Int} (ha : i.natAbs < 2 ^ a) (hb : j.natAbs < 2 ^ b) (h : a + b ≤ 900000) : CMulW i j := Sm.mul_ok ha hb h
def addR (t u : Int × Int) : Int × Int := mkR (t.1 * u.2 + u.1 * t.2) (t.2 * u.2)
def sumR (ts : List (Int × Int)) : Int × Int := ts.foldl addR (0, 1)
/-- a fraction below 2 ^ B -/
def SzR (B : Nat) (r : Int × Int) : Prop := r.1.natAbs < 2 ^ B ∧ r.2.natAbs < 2 ^ B
theorem SzR.up {B C : Nat} {r : Int × Int} (h : SzR B r) (hl : B ≤ C) : SzR C r := ⟨sz_up h.1 hl, sz_up h.2 hl⟩
theorem addR_num {A B : Nat} {t u : Int × Int} (ht : SzR A t) (hu : SzR B u) : (t.1 * u.2 + u.1 * t.2).natAbs < 2 ^ (A + B + 1) := by
  have h2 := sz_mul hu.1 ht.2
  rw [Nat.add_comm B A] at h2
  exact sz_add (sz_mul ht.1 hu.2) h2
theorem addR_den {A B : Nat} {t u : Int × Int} (ht : SzR A t) (hu : SzR B u) : (t.2 * u.2).natAbs < 2 ^ (A + B + 1) := sz_up (sz_mul ht.2 hu.2) (by omega)
theorem addR_sz {A B : Nat} {t u : Int × Int} (ht : SzR A t) (hu : SzR B u) (h1 : 1 ≤ t.2) (h2 : 1 ≤ u.2) : SzR (A + B + 1) (addR t u) := by
  have hd : t.2 * u.2 ≠ 0 := Int.mul_ne_zero (by omega) (by omega)
  exact ⟨Nat.lt_of_le_of_lt (mkR_le1 hd) (addR_num ht hu), Nat.lt_of_le_of_lt (mkR_le2 hd) (addR_den ht hu)⟩
theorem addR_is {t u : Int × Int} (h1 : 1 ≤ t.2) (h2 : 1 ≤ u.2) : IsR (addR t u) := (mkR_spec (Int.mul_ne_zero (by omega) (by omega))).1
theorem get_map {α : Type} {f : α → Dt} {ts : List α} {i : Nat} {d : Dt} (h : (ts.map f)[i]? = some d) : ∃ z, ts[i]? = some z ∧ d = f z := by
  rw [List.getElem?_map] at h
  cases e : ts[i]? with
  | none => rw [e] at h; cases h
  | some z => rw [e] at h; exact ⟨z, rfl, (Option.some.inj h).symm⟩
theorem take_succ' {α : Type} {ts : List α} {i : Nat} {z : α} (h : ts[i]? = some z) : ts.take (i + 1) = ts.take i ++ [z] := by rw [List.take_add_one, h]; rfl
def mulR (t u : Int × Int) : Int × Int := mkR (t.1 * u.1) (t.2 * u.2)
def prodR (ts : List (Int × Int)) : Int × Int := ts.foldl mulR (1, 1)
theorem mulR_num {A B : Nat} {t u : Int × Int} (ht : SzR A t) (hu : SzR B u) : (t.1 * u.1).natAbs < 2 ^ (A + B + 1) := sz_up (sz_mul ht.1 hu.1) (by omega)
theorem mulR_den {A B : Nat} {t u : Int × Int} (ht : SzR A t) (hu : SzR B u) : (t.2 * u.2).natAbs < 2 ^ (A + B + 1) := sz_up (sz_mul ht.2 hu.2) (by omega)
theorem mulR_sz {A B : Nat} {t u : Int × Int} (ht : SzR A t) (hu : SzR B u) (h1 : 1 ≤ t.2) (h2 : 1 ≤ u.2) : SzR (A + B + 1) (mulR t u) := by
  have hd : t.2 * u.2 ≠ 0 := Int.mul_ne_zero (by omega) (by omega)
  exact ⟨Nat.lt_of_le_of_lt (mkR_le1 hd) (mulR_num ht hu), Nat.lt_of_le_of_lt (mkR_le2 hd) (mulR_den ht hu)⟩
theorem mulR_is {t u : Int × Int} (h1 : 1 ≤ t.2) (h2 : 1 ≤ u.2) : IsR (mulR t u) := (mkR_spec (Int.mul_ne_zero (by omega) (by omega))).1
/-- the sum with no lowering -/
def ndA (s t : Int × Int) : Int × Int := (s.1 * t.2 + t.1 * s.2, s.2 * t.2)
def ndM (s t : Int × Int) : Int × Int := (s.1 * t.1, s.2 * t.2)
theorem ndA_step {r s t : Int × Int} (hr : 1 ≤ r.2) (ht : 1 ≤ t.2) (h : r.1 * s.2 = s.1 * r.2) : (addR r t).1 * (ndA s t).2 = (ndA s t).1 * (addR r t).2 := by
  have hs := (mkR_spec (n := r.1 * t.2 + t.1 * r.2) (d := r.2 * t.2) (Int.mul_ne_zero (by omega) (by omega))).2
  change (addR r t).1 * (r.2 * t.2) = (r.1 * t.2 + t.1 * r.2) * (addR r t).2 at hs
  show (addR r t).1 * (s.2 * t.2) = (s.1 * t.2 + t.1 * s.2) * (addR r t).2
  generalize addR r t = X at *
  refine Int.eq_of_mul_eq_mul_left (a := r.2) (by omega) ?_
  grind
theorem ndM_step {r s t : Int × Int} (hr : 1 ≤ r.2) (ht : 1 ≤ t.2) (h : r.1 * s.2 = s.1 * r.2) : (mulR r t).1 * (ndM s t).2 = (ndM s t).1 * (mulR r t).2 := by
  have hs := (mkR_spec (n := r.1 * t.1) (d := r.2 * t.2) (Int.mul_ne_zero (by omega) (by omega))).2
  change (mulR r t).1 * (r.2 * t.2) = (r.1 * t.1) * (mulR r t).2 at hs
  show (mulR r t).1 * (s.2 * t.2) = (s.1 * t.1) * (mulR r t).2
  generalize mulR r t = X at *
  refine Int.eq_of_mul_eq_mul_left (a := r.2) (by omega) ?_
  grind
theorem ndA_comm (s x y : Int × Int) : ndA (ndA s x) y = ndA (ndA s y) x := by
  unfold ndA; ext <;> dsimp only <;> grind
theorem ndM_comm (s x y : Int × Int) : ndM (ndM s x) y = ndM (ndM s y) x := by
  unfold ndM; ext <;> dsimp only <;> grind
theorem sum_ex : ∀ (ts : List (Int × Int)) (r s : Int × Int), (∀ t ∈ ts, 1 ≤ t.2) → IsR r → r.1 * s.2 = s.1 * r.2 → IsR (ts.foldl addR r) ∧ (ts.foldl addR r).1 * (ts.foldl ndA s).2 = (ts.foldl ndA s).1 * (ts.foldl addR r).2
  | [], r, s, _, ir, h => ⟨ir, h⟩
  | t :: ts, r, s, ht, ir, h => by
    have h1 := ht t (List.mem_cons_self ..)
    exact sum_ex ts (addR r t) (ndA s t) (fun z hz => ht z (List.mem_cons_of_mem _ hz)) (addR_is ir.1 h1) (ndA_step ir.1 h1 h)
theorem prod_ex : ∀ (ts : List (Int × Int)) (r s : Int × Int), (∀ t ∈ ts, 1 ≤ t.2) → IsR r → r.1 * s.2 = s.1 * r.2 → IsR (ts.foldl mulR r) ∧ (ts.foldl mulR r).1 * (ts.foldl ndM s).2 = (ts.foldl ndM s).1 * (ts.foldl mulR r).2
  | [], r, s, _, ir, h => ⟨ir, h⟩
  | t :: ts, r, s, ht, ir, h => by
    have h1 := ht t (List.mem_cons_self ..)
    exact prod_ex ts (mulR r t) (ndM s t) (fun z hz => ht z (List.mem_cons_of_mem _ hz)) (mulR_is ir.1 h1) (ndM_step ir.1 h1 h)
theorem IsR01 : IsR (0, 1) := ⟨by decide, by decide⟩
theorem IsR11 : IsR (1, 1) := ⟨by decide, by decide⟩
theorem sum_perm {ts us : List (Int × Int)} (p : ts.Perm us) (ht : ∀ t ∈ ts, 1 ≤ t.2) : IsR (sumR ts) ∧ (sumR ts).1 * (us.foldl ndA (0, 1)).2 = (us.foldl ndA (0, 1)).1 * (sumR ts).2 := by
  rw [← p.foldl_eq' (f := ndA) (fun x _ y _ z => ndA_comm z x y)]
  exact sum_ex ts (0, 1) (0, 1) ht IsR01 rfl
theorem prod_perm {ts us : List (Int × Int)} (p : ts.Perm us) (ht : ∀ t ∈ ts, 1 ≤ t.2) : IsR (prodR ts) ∧ (prodR ts).1 * (us.foldl ndM (1, 1)).2 = (us.foldl ndM (1, 1)).1 * (prodR ts).2 := by
  rw [← p.foldl_eq' (f := ndM) (fun x _ y _ z => ndM_comm z x y)]
  exact prod_ex ts (1, 1) (1, 1) ht IsR11 rfl
theorem sz1 (B : Nat) : SzR (B + 1) (1, 1) := ⟨by show 1 < 2 ^ (B + 1); exact Nat.one_lt_two_pow (by omega), by show 1 < 2 ^ (B + 1); exact Nat.one_lt_two_pow (by omega)⟩
theorem sz0 (B : Nat) : SzR (B + 1) (0, 1) := ⟨Nat.pow_pos (by decide), (sz1 B).2⟩
theorem sum_sz : ∀ (ts : List (Int × Int)) (r : Int × Int) (A B : Nat), (∀ t ∈ ts, 1 ≤ t.2 ∧ SzR B t) → 1 ≤ r.2 → SzR A r → SzR (A + (B + 1) * ts.length) (ts.foldl addR r)
  | [], r, A, B, _, _, h => h
  | t :: ts, r, A, B, ht, h1, h => by
    obtain ⟨t1, tz⟩ := ht t (List.mem_cons_self ..)
    have := sum_sz ts (addR r t) (A + B + 1) B (fun z hz => ht z (List.mem_cons_of_mem _ hz)) (addR_is h1 t1).1 (addR_sz h tz h1 t1)
    refine this.up ?_
    rw [List.length_cons, Nat.mul_succ]; omega
theorem prod_sz : ∀ (ts : List (Int × Int)) (r : Int × Int) (A B : Nat), (∀ t ∈ ts, 1 ≤ t.2 ∧ SzR B t) → 1 ≤ r.2 → SzR A r → SzR (A + (B + 1) * ts.length) (ts.foldl mulR r)
  | [], r, A, B, _, _, h => h
  | t :: ts, r, A, B, ht, h1, h => by
    obtain ⟨t1, tz⟩ := ht t (List.mem_cons_self ..)
    have := prod_sz ts (mulR r t) (A + B + 1) B (fun z hz => ht z (List.mem_cons_of_mem _ hz)) (mulR_is h1 t1).1 (mulR_sz h tz h1 t1)
    refine this.up ?_
    rw [List.length_cons, Nat.mul_succ]; omega
theorem sum1 {a : Int × Int} (h : IsR a) : sumR [a] = a := by
  show mkR (0 * a.2 + a.1 * 1) (1 * a.2) = a
  rw [Int.zero_mul, Int.zero_add, Int.mul_one, Int.one_mul, mkR_self h]
theorem prod1 {a : Int × Int} (h : IsR a) : prodR [a] = a := by
  show mkR (1 * a.1) (1 * a.2) = a
  rw [Int.one_mul, Int.one_mul, mkR_self h]
theorem ok_rat (r : Int × Int) : okD (ratD r) = true := ok_intsT [r.1, r.2]
theorem eqD_rat (a b : Int × Int) : eqD (ratD a) (ratD b) = decide (a = b) := by
  have h := eqD_intsT [a.1, a.2] [b.1, b.2]
  have e : ([a.1, a.2] = [b.1, b.2]) ↔ a = b := by
    constructor
    · intro h
      injection h with h1 h2
      injection h2 with h2 _
      exact Prod.ext h1 h2
    · rintro rfl; rfl
  rw [decide_eq_decide.mpr e] at h
  exact h
theorem eqD_rat0 (a : Int × Int) : eqD (ratD a) (ratD a) = true := by rw [eqD_rat]; simp
def ph_gcd : Ph := fun ds q _ => ∃ a b, ds = [.int a, .int b] ∧ q (.int (Int.gcd a b : Nat))
theorem u_gcd {a b : Int} {q : Dt → Prop} {x : XD} (_ : True) (p : q (.int (Int.gcd a b : Nat))) : ph_gcd [.int a, .int b] q x := ⟨a, b, rfl, p⟩
def ph_ratio : Ph := fun ds q _ => ∃ n d : Int, ds = [.int n, .int d] ∧ (d ≠ 0 ∧ d.natAbs < 2 ^ 8999) ∧ q (ratD (mkR n d))
theorem u_ratio {n d : Int} {q : Dt → Prop} {x : XD} (h : d ≠ 0 ∧ d.natAbs < 2 ^ 8999) (p : q (ratD (mkR n d))) : ph_ratio [.int n, .int d] q x := ⟨n, d, rfl, h, p⟩
end VS
set_option Elab.async false
set_option linter.all false
set_option maxRecDepth 100000
set_option maxHeartbeats 2000000
/-! own error classes: super().__init__(text) in their __init__, raise, try .. except .. as e -/
namespace VS
open PySem PySem.Spec L2

/-! ### the __init__ -/
/-- what K says of an own error class and its __init__ -/
structure IniD (P : Program) (K : PySem.W.Frag) (C fI : Addr) (qual : Str) (params : Arguments) (body : List Stmt) (scope : Scope) (fd : FuncData) : Prop where
  oc : OexC K C
  iC : PySem.W.findIn K (.ref C) "__init__" = some (some (.ref fI))
  tI : PySem.W.typeIn K (.ref fI) = some (.type "function")
  fn : ∃ (oc : Value) (od : Option Addr) (kV doc pm : Value) (an : Option Addr) (ct : Value) (osl : Array (Option Value)) (cda cc : Addr),
    fd = PySem.W.ksFn "__init__" qual params body scope .none kV doc pm an (.ref cda) ct cc ∧ K.lookup fI = some ⟨oc, od, .func fd, osl⟩ ∧ PySem.W.codeIn K (.ref cda) qual = true ∧
    (∃ ccl cdd vs ccs file tf, K.lookup cda = some ⟨ccl, cdd, .fields vs, ccs⟩ ∧ vs[2]? = some (.str file tf) ∧ ((P.main.file : Str) == file) = true) ∧ ∃ cl cld csl, K.lookup cc = some ⟨cl, cld, .cell (some (.ref C)), csl⟩
  cD : ∃ cd, PySem.W.clsIn K C = some cd
  sub : PySem.W.mroIn K C (.ref C) = some true
  any : PySem.W.nsIn K cStatics "thirdparty.any" = some none
  si : PySem.W.ks_superIn K C C "__init__" = some (some (.builtin "ValueError.__init__"))
  sV : PySem.W.subIn K (.ref C) (.type "ValueError") = some true
/-- self, value: the one field f is laid -/
def spI1 (C : Addr) (f : Str) : Sp := fun vs H Q _ => ∃ a y, vs = [.ref a, y] ∧ H a = some (exo a C none) ∧ ∀ dx, H dx = none → dx ≠ a → Q .non (upd (upd H dx (exd dx [(f, y)])) a (exo a C (some dx)))
section
variable {P : Program} {w : World} {K : PySem.W.Frag} {mg : Str → Option Value} {base : Heap}
theorem init_run {CX : CXT} {C fI : Addr} {qual : Str} {params : Arguments} {scope : Scope} {fd : FuncData} {ps N : List Str} {k : Nat} {sp : Sp} {rest : List Stmt} {txt : Str} {p0 p1 p2 p3 p4 p5 : Pos} {j0 : Nat} {ar : Arg}
    {body : List Stmt} (hbody : body = .Expr (.Call (.Attribute (.Call (.Name "super" p0) [] [] p1) "__init__" p2) [.Constant (.str txt) j0 p3] [] p4) p5 :: rest)
    (D : IniD P K C fI qual params body scope fd) (hsup : mg "super" = none) (htop : (P.main.scope.names.lookup ("super" : Str)).isSome = false)
    (Sc : NdefX.NScope N ps ["__class__"] scope) (hks : scope.names.lookup ("super" : Str) = some .globalImplicit) (har : (params.posonlyargs ++ params.args).head? = some ar) (hps : ps.head? = some ar.arg)
    (hev : ∀ env : Env, env.scope = scope → ∃ pl : Sem Bool, eval (.Call (.Attribute (.Call (.Name "super" p0) [] [] p1) "__init__" p2) [.Constant (.str txt) j0 p3] [] p4) env = (do
      let ov ← attributeBase (.Call (.Name "super" p0) [] [] p1) "__init__" env (eval (.Call (.Name "super" p0) [] [] p1) env)
      standAt p2.atName
      let (f, first) ← holding [ov] (getMethod ov "__init__" pl)
      callWith p4 f first (backTo p4 (starEach [.Constant (.str txt) j0 p3] env)) []))
    (hsw : ∀ env : Env, env.scope = scope → swapsWith (.Call (.Attribute (.Call (.Name "super" p0) [] [] p1) "__init__" p2) [.Constant (.str txt) j0 p3] [] p4) none p5.line env = pure false)
    (len : ∀ vs H Q E, sp vs H Q E → vs.length = ps.length)
    (hself : ∀ vs H Q E, sp vs H Q E → ∃ a r, vs = .ref a :: r ∧ H a = some (exo a C none))
    (hrest : ∀ (X : Cx) (H : Hp) (vs : List V) (Q : VK) (E : XK), X.prog = P → X.w = w → X.K = K → X.N = N → X.env.scope = scope → sp vs H Q E → ∃ t, PSs X rest t ∧ t { nx := fun _ H' => Q .non H', rt := Q } (NdefX.startF N vs [none]) H) :
    FnOk P w K mg base CX (k + 1) fI fd ps sp := by
  subst hbody
  refine ⟨len, fun A outer s H args us vs Q E hr e0 hb r hsp => ?_⟩
  obtain ⟨oc, od, kV, doc, pm, an, ct, osl, cda, cc, rfl, lk, hcd, ⟨ccl, cdd, cvs, ccs, file, tf, lcd, hvs, hfile⟩, cl, cld, csl, lcc⟩ := D.fn
  have kpB : ∀ b o, base.get? b = some o → s.heap.get? b = some o := fun b o e => (e0.bs b o e).1
  have KX : K.In s.heap := e0.mod.kin.keeps kpB
  have lim : s.heap.NoLimit := e0.mod.nolimit.keeps kpB
  have hl := len _ _ _ _ hsp
  obtain ⟨a, vr, hvs1, ha⟩ := hself _ _ _ _ hsp
  have hlu : us.length = ps.length := by rw [← r.length]; exact hl
  refine PySem.ks_codeAny_call_defAt (binds := ps.zip us) (body := _) hr.depth (KX _ _ lk) rfl lim (PySem.W.codeRec_of KX hcd) rfl hb Sc.nocell (fun x hx => Sc.par _ (List.of_mem_zip hx).1) (fun h₁ hns kp => ?_) Sc.co Sc.gen Sc.kind
  have hH : H cc = none := (e0.bs _ _ (e0.mod.kin _ _ lcc)).2
  have cellC : s.heap.IsCell cc (some (.ref C)) := ⟨_, KX _ _ lcc, rfl⟩
  have CA : NdefX.CellsAt [("__class__", cc)] ["__class__"] [none] s.heap H := by
    have key : ∀ y c, ([("__class__", cc)] : List (Str × Addr)).lookup y = some c → y = "__class__" ∧ c = cc := fun y c e => by
      rw [List.lookup_cons] at e
      split at e
      · rename_i h
        exact ⟨eq_of_beq h, (Option.some.inj e).symm⟩
      · cases e
    refine ⟨rfl, fun y c e => ?_, fun x y c e1 e2 => (key _ _ e1).1.trans (key _ _ e2).1.symm, fun i y e => ?_⟩
    · obtain ⟨_, rfl⟩ := key y c e
      exact ⟨hH, _, cellC⟩
    · cases i with
      | zero =>
        cases e
        exact ⟨cc, rfl, fun v z => by cases z⟩
      | succ i => cases e
  have I0 := NdefX.inv_startN (CX := CX) (F := ⟨"__init__", qual, params, [], scope, [("__class__", cc)], cda⟩) (f := fI) (tk := s.toks + (ps.zip us).length) (E := E) Sc hr.hd e0 hl r CA hns kp
  obtain ⟨t, ht, hq⟩ := hrest (NdefX.ncx CX P w K mg base N ⟨"__init__", qual, params, [], scope, [("__class__", cc)], cda⟩ fI A outer s H E) H vs Q E rfl rfl rfl rfl rfl hsp
  obtain ⟨t1, ho⟩ := exo_at I0.hok ha
  have KX1 : K.In h₁ := KX.keeps kp
  obtain ⟨cdC, hcC⟩ := D.cD
  obtain ⟨oC, hC1, hC2⟩ : ∃ oC, h₁.get? C = some oC ∧ oC.data = .cls cdC := by
    have hD := hcC
    unfold PySem.W.clsIn at hD
    split at hD
    · rename_i c d cd' sl ho
      cases hD
      exact ⟨_, KX1 _ _ ho, rfl⟩
    · cases hD
  have IA : PySem.W.InstAt h₁ a { cls := .ref C, dict := none, data := .fields #[.ref t1, .none, .none, .none, .bool false, .none] } C none := ⟨ho, rfl, rfl, trivial⟩
  have hmself : (ps.zip us).reverse.lookup ar.arg = some (.ref a) := by
    subst hvs1
    cases r with
    | @cons _ u0 _ ur ra rw' =>
      obtain rfl : u0 = Value.ref a := ra
      obtain ⟨p0', pr, rfl⟩ : ∃ p0' pr, ps = p0' :: pr := by
        cases ps with
        | nil => cases hps
        | cons x y => exact ⟨x, y, rfl⟩
      have e : p0' = ar.arg := Option.some.inj hps
      subst e
      have ndP : (ar.arg :: pr).Nodup := by
        have q := Sc.nd.sublist (List.take_sublist ((ar.arg :: pr).length + 1) N)
        have e2 : N.take ((ar.arg :: pr).length + 1) = (ar.arg :: pr) ++ ([("__class__" : Str)] : List Str) := Sc.pre
        rw [e2] at q
        exact (List.nodup_append.mp q).1
      exact NdefX.zip_look (i := 0) ndP rfl rfl
  obtain ⟨pl, hpl⟩ := hev (PySem.W.ksEnv qual scope s.heap.objs.size fI (.ref cda) cc) rfl
  refine PySem.ks_wpAt_execs_cons (PySem.ks_wpAt_Expr_any (PySem.ks_wpAt_MethodCall (pl := pl) ?_ hpl) (by show (scope.kind == .module && _) = false; rw [Sc.kind]; rfl) (hsw _ rfl))
  have hkc : scope.names.lookup ("__class__" : Str) = some .free := Sc.frk _ (List.mem_singleton.mpr rfl)
  have hka : scope.names.lookup ar.arg = some .local := Sc.par _ (List.mem_of_head? hps)
  refine PySem.ks_wpAt_super_base hks hkc (by decide) rfl (KX1 _ _ lk) rfl har rfl (KX1 _ _ lcd) rfl hvs hfile htop ?_
  obtain ⟨mb, hb1, hb2⟩ := e0.mod.blt
  have kpB1 : ∀ b o, base.get? b = some o → h₁.get? b = some o := fun b o e => kp b o (kpB b o e)
  refine PySem.W.ks_loadName_global Sc.kind hks (Calls.loadGlobal_builtin (e0.mod.glob.keeps kpB1) hsup (hb1.keeps kpB1) ((hb2 _ (by decide)).trans PyProof.Rows.Boot.«super») ⟨rfl, ?_⟩)
  refine wpAny_loadName_free Sc.kind hkc rfl (cellC.keeps kp) ?_
  refine wpAny_loadName_local Sc.kind hka hns hmself ?_
  refine PySem.ks_wpAny_isType_cls hC1 hC2 ⟨rfl, ?_⟩
  refine PySem.ks_wpAny_call_super hC1 hC2 ho rfl (fun c e => by cases e) (PySem.W.looks_mroIn KX1 D.sub) (fun h2 hso kp2 => ?_)
  have KX2 : K.In h2 := KX1.keeps kp2
  have ho2 := kp2 _ _ ho
  have hne : a ≠ C := fun z => by
    rw [z, hC1] at ho
    cases ho
    cases hC2
  refine PySem.W.kxs_getMethod PySem.W.kxs_ValueError hso (PySem.W.looks_opaque KX2 D.any) (l₀ := cdC.mro) ((PySem.W.looks_clsIn KX2 hcC).andThen .now) rfl KX2 (by
    have q := D.si
    unfold PySem.W.ks_superIn at q
    rw [hcC] at q
    exact q) ((show PySem.W.InstAt h2 a { cls := .ref C, dict := none, data := .fields #[.ref t1, .none, .none, .none, .bool false, .none] } C none from ⟨ho2, rfl, rfl, trivial⟩).type.andThen (PySem.W.looks_subIn KX2 D.sV)) hne (by decide) ?_
  have sz12 : h₁.objs.size < h2.objs.size := Heap.lt_size hso
  have szL : s.heap.objs.size < h₁.objs.size := by
    obtain ⟨oL, _, _, e, _⟩ := hns
    exact Heap.lt_size e
  have kp3 : ∀ b o, h₁.get? b = some o → (h2.push (PySem.W.kxs_mw "ValueError.__init__" a)).get? b = some o := fun b o e => Heap.get?_push_of_some _ (kp2 b o e)
  have ho3 := kp3 _ _ ho
  have eu : upd H a (exo a C none) = H := by
    funext b
    by_cases hb : b = a
    · rw [hb, upd_same, ha]
    · rw [upd_ne hb]
  have I3 := I0.write (t' := s.toks + (ps.zip us).length + 1) (x := a) (e := a) (o := exo a C none) (h' := h2.push (PySem.W.kxs_mw "ValueError.__init__" a)) (by rw [ha]; exact True.intro) (.inl rfl) (fun b u _ e => kp3 b u e) ⟨_, ho3⟩ (exo_ok ho3)
  rw [eu] at I3
  have I4 := I3.pins_of (pins' := [(h2.objs.size, PySem.W.kxs_mw "ValueError.__init__" a)]) (fun p hp => by
    rw [List.mem_singleton] at hp
    subst hp
    refine ⟨Heap.get?_push_size _ rfl, I0.hok.fresh (Nat.le_of_lt sz12), ?_, ?_, fun v => by intro z; cases z⟩
    · intro z
      have z : h2.objs.size = s.heap.objs.size := z
      omega
    · intro z
      obtain ⟨_, o, ho', _⟩ := e0.funs.mem z
      have q : h2.objs.size < s.heap.objs.size := Heap.lt_size ho'
      omega)
  refine PySem.W.kxs_callWith (i := "ValueError.__init__") (x := a) rfl (PySem.Calls.evalArgs_plain (thn ((pa_cons pe_str pa_nil).run p4 [(h2.objs.size, PySem.W.kxs_mw "ValueError.__init__" a)] _ (NdefX.startF N vs [none]) H (fun vs' H1 => H1 = H ∧ vs'.length ≤ 10) I4 ⟨rfl, Nat.le_of_ble_eq_true rfl⟩) fun us' s1 hap => ?_))
  obtain ⟨vs', H1, I5, rv, hH1, hlen⟩ := hap
  subst hH1
  have hu := (I5.pin _ (List.mem_append_right _ (List.mem_singleton.mpr rfl))).1
  refine ⟨hu, ?_⟩
  obtain ⟨t5, ho5⟩ := exo_at I5.hok ha
  obtain ⟨nm, q0, N0, bs, bm, sn, sub, ab, col, dd, k0, k1, k2, k3, k5, lC, hbm⟩ := D.oc.cls
  have hCC := I5.kIn _ _ lC
  have hlus : us'.length ≤ sizeLine := by rw [← rv.length, sizeLine_eq]; omega
  obtain ⟨hp, g5, d5, tk5, os5⟩ := s1
  refine wpAny_call (codeAny_of_tree ?_)
  show wpAny _ _ (callAny (.ref h2.objs.size) ⟨[] ++ us', []⟩) _ _ _
  simp only [callAny, List.nil_append]
  refine wpAny_bind (wpAny_load hu ?_)
  simp only [PySem.W.kxs_mw, show (Value.type "method-wrapper" == Value.type "method" || Value.type "method-wrapper" == Value.type "builtin_function_or_method" || Value.type "method-wrapper" == Value.type "method-wrapper") = true by decide, if_true]
  refine PySem.W.KFB.if_so (by decide) ?_
  refine wpAny_bind (PySem.W.check_bound_init F.excBase_ValueError.toExcCallFacts hCC ho5 rfl ?_)
  refine wpAny_bind (wpAny_pure (wpAny_pure ?_))
  refine ⟨plainId_quiet F.excBase_ValueError.init.plain _, codeAny_builtin F.excBase_ValueError.initEntry ?_⟩
  refine PySem.W.exc_init_tree (cls := .ref C) (t0 := t5) (dv := none) (c2 := .none) (c3 := .none) (b4 := .bool false) ho5 hlus (fun h' k6 e6 _ => ?_)
  have J := I5.write (t' := tk5) (x := a) (e := a) (o := exo a C none) (h' := h') (by rw [ha]; exact True.intro) (.inl rfl) (fun b u hb e => k6 b u hb e) ⟨_, e6⟩ (exo_ok e6)
  rw [eu] at J
  refine wpAt_of_wpAny (wpAny_mono (ht.run _ _ _ _ _ J hq) (fun fl s' hs => ?_) fun e s' hs => hs)
  cases fl with
  | ret u =>
    obtain ⟨v, σ', H', J', rv', q'⟩ := hs
    exact ⟨v, H', J'.os, J'.bare, J'.base, J'.hok, rv', q'⟩
  | next =>
    obtain ⟨σ', H', J', q'⟩ := hs
    exact ⟨V.non, H', J'.os, J'.bare, J'.base, J'.hok, rfl, q'⟩
  | brk =>
    obtain ⟨_, _, _, q'⟩ := hs
    exact False.elim q'
  | cont =>
    obtain ⟨_, _, _, q'⟩ := hs
    exact False.elim q'
/-- __init__(self, v): super().__init__(text); self.f = v -/
theorem init_ok1 {CX : CXT} {C fI : Addr} {qual : Str} {params : Arguments} {scope : Scope} {fd : FuncData} {k : Nat} {f v : Str} {txt : Str} {p0 p1 p2 p3 p4 p5 r0 r1 r2 r3 : Pos} {j0 : Nat} {ar : Arg}
    {body : List Stmt} (hbody : body = [.Expr (.Call (.Attribute (.Call (.Name "super" p0) [] [] p1) "__init__" p2) [.Constant (.str txt) j0 p3] [] p4) p5, .Assign [.Attribute (.Name "self" r0) f r1] (.Name v r2) r3])
    (D : IniD P K C fI qual params body scope fd) (hf : PySem.W.findIn K (.ref C) f = some none) (hsup : mg "super" = none) (htop : (P.main.scope.names.lookup ("super" : Str)).isSome = false)
    (Sc : NdefX.NScope ["self", v, "__class__"] ["self", v] ["__class__"] scope) (hks : scope.names.lookup ("super" : Str) = some .globalImplicit) (har : (params.posonlyargs ++ params.args).head? = some ar) (hps : ar.arg = "self")
    (hev : ∀ env : Env, env.scope = scope → ∃ pl : Sem Bool, eval (.Call (.Attribute (.Call (.Name "super" p0) [] [] p1) "__init__" p2) [.Constant (.str txt) j0 p3] [] p4) env = (do
      let ov ← attributeBase (.Call (.Name "super" p0) [] [] p1) "__init__" env (eval (.Call (.Name "super" p0) [] [] p1) env)
      standAt p2.atName
      let (f, first) ← holding [ov] (getMethod ov "__init__" pl)
      callWith p4 f first (backTo p4 (starEach [.Constant (.str txt) j0 p3] env)) []))
    (hsw : ∀ env : Env, env.scope = scope → swapsWith (.Call (.Attribute (.Call (.Name "super" p0) [] [] p1) "__init__" p2) [.Constant (.str txt) j0 p3] [] p4) none p5.line env = pure false)
    (hsw2 : ∀ env : Env, env.scope = scope → swapsWith (.Name v r2) (some (.Attribute (.Name "self" r0) f r1)) r3.line env = pure false)
    (hdv : (v == ("__debug__" : Str)) = false) (hcv : (v == ("__classdict__" : Str)) = false) : FnOk P w K mg base CX (k + 1) fI fd ["self", v] (spI1 C f) := by
  refine init_run hbody D hsup htop Sc hks har (by rw [hps]; rfl) hev hsw (fun vs H Q E ⟨a, y, e, _⟩ => by rw [e]; rfl) (fun vs H Q E ⟨a, y, e, h, _⟩ => ⟨a, [y], e, h⟩) fun X H vs Q E e1 e2 e3 e4 e5 ⟨a, y, ev, ha, hq⟩ => ?_
  subst ev
  refine ⟨_, pss_one (ps_ost (pe_var (i := 0) (x := "self") (by rw [e4]; rfl) (.inl (by rw [e5]; exact Sc.par _ (by simp)))) (pe_var (i := 1) (x := v) (by rw [e4]; rfl) (.inl (by rw [e5]; exact Sc.par _ (by simp))) hdv hcv) (hsw2 _ e5)), ?_⟩
  refine ⟨y, rfl, .ref a, rfl, a, C, rfl, by rw [e3]; exact D.oc, by rw [e3]; exact hf, .inl ⟨ha, fun dx hd hn => hq dx hd hn⟩⟩
end
end VS
set_option Elab.async false
set_option linter.all false
set_option maxRecDepth 100000
set_option maxHeartbeats 2000000
namespace VS
open PySem PySem.Spec L2

/-! ### a region with a word on errors -/
/-- how the error's own fields lie -/
def XDat (K : PySem.W.Frag) (R : Reg) (H0 F H : Hp) (ns : List Str) (ds : List Dt) (d : Option Addr) : Prop :=
  (∃ dx vs, d = some dx ∧ H0 dx = none ∧ ¬ R.M dx ∧ H dx = some (.xd (ns.zip vs)) ∧ ns.length = vs.length ∧ RpL K F ds vs) ∨ (d = none ∧ ns = [] ∧ ds = [])
/-- from the base F0, H0 on: an error that xq allows at the slots G is taken -/
def XKOk (K : PySem.W.Frag) (R : Reg) (F0 H0 : Hp) (xq : List Sl → XD) (W : WX) : Prop :=
  ∀ G σ F H C ns ds d, xq G C ns ds → Ty K R G σ F H → Ext R F0 H0 F H → (∀ o ∈ owns G σ, H0 o = none) → XDat K R H0 F H ns ds d → W (.ref C) d σ H
def Reg.wX (R : Reg) (K : PySem.W.Frag) (xq : List Sl → XD) (W : WX) : Reg := { R with
  Z := fun F0 H0 => XKOk K R F0 H0 xq W
  zs := fun F H F' ff fr z G σ F1 H1 C ns ds d hx ty ex fo dat => z G σ F1 H1 C ns ds d hx ty ⟨ex.wf, ff.trans ex.ff, ex.hh, fun a h n => ex.fr a h (fr a h n)⟩ fo dat }
section
variable {R : Reg} {K : PySem.W.Frag} {xq : List Sl → XD} {W : WX} {F H F' H' : Hp} {G : List Sl} {σ : St}
theorem Wf.un (w : Wf (R.wX K xq W) F H) : Wf R F H := ⟨w.fh, w.off, w.oc, w.b⟩
theorem Wf.wX (w : Wf R F H) : Wf (R.wX K xq W) F H := ⟨w.fh, w.off, w.oc, w.b⟩
theorem Ext.un (e : Ext (R.wX K xq W) F H F' H') : Ext R F H F' H' := ⟨e.wf.un, e.ff, e.hh, e.fr⟩
theorem Ext.wX (e : Ext R F H F' H') : Ext (R.wX K xq W) F H F' H' := ⟨e.wf.wX, e.ff, e.hh, e.fr⟩
theorem SlsOk.un {K' : PySem.W.Frag} {vs : List (Option V)} (h : SlsOk K' (R.wX K xq W) F H G vs) : SlsOk K' R F H G vs := by
  induction h with
  | nil => exact .nil
  | cons h _ ih => exact .cons (by rename_i g v _ _; cases g <;> exact h) ih
theorem SlsOk.wX {K' : PySem.W.Frag} {vs : List (Option V)} (h : SlsOk K' R F H G vs) : SlsOk K' (R.wX K xq W) F H G vs := by
  induction h with
  | nil => exact .nil
  | cons h _ ih => exact .cons (by rename_i g v _ _; cases g <;> exact h) ih
theorem Ty.un {K' : PySem.W.Frag} (t : Ty K' (R.wX K xq W) G σ F H) : Ty K' R G σ F H := ⟨t.wf.un, t.sl.un, t.nd⟩
theorem Ty.wX {K' : PySem.W.Frag} (t : Ty K' R G σ F H) : Ty K' (R.wX K xq W) G σ F H := ⟨t.wf.wX, t.sl.wX, t.nd⟩
end

/-! ### a def that may raise -/
section
variable {P : Program} {w : World} {K : PySem.W.Frag} {mg : Str → Option Value} {base : Heap}
theorem fn_okE {x qual : Str} {st : Stmt} {f : Addr} {fd : FuncData} {dvs : List V} {kws : List (Str × V)} {N ps : List Str} {k n : Nat} {φ : Ph} (F : FD K x qual st dvs kws f fd) (Sc : FnScope N ps (defScope st)) (hn : n = ps.length)
    (h : ∀ (X : Cx) (cdv : Value) (A : Around) (outer : List Env) (s : Shared) (H : Hp) (E : XK) (ds : List Dt) (q : Dt → Prop) (xd : XD), X = cxOf (L2.CX P w) P w K mg base N qual (defScope st) f cdv A outer s H E → Room k X.A → φ ds q xd → ds.length = n →
      Takes X (fun cls d _ H => E cls d H) → S X (Reg.nil.wX K (fun _ => xd) (fun cls d _ H => E cls d H)) (defBody st) (st0 N ds) { nx := fun _ => q .non, rt := q }) : FnOk P w K mg base (L2.CX P w) (k + 1) f fd ps (spD K n φ) := by
  refine FunD.ok F Sc (fun vs H Q E hh => by rw [hh.1, hn]) fun cdv A outer s H vs Q E hr hh => ?_
  obtain ⟨hl, F0, ds, q, xd, sf, r, hφ, hq, hx⟩ := hh
  have hS := h _ cdv A outer s H E ds q xd rfl hr hφ (by rw [r.length, hl]) (takes_of rfl rfl rfl rfl)
  refine ⟨_, pss_w, hS F0 H _ F0 H _ ⟨(wf_nil sf).wX, ?_, by unfold st0; rw [owns0]; exact .nil⟩ ⟨.refl (wf_nil sf).wX, (by unfold st0; rw [owns0]; intro o ho; cases ho), ?_⟩ ⟨fun G σ F1 H1 z _ b => hq .non F1 H1 .non b.ext.un (rp_non.mpr rfl) z, fun d v F1 H1 z e rd => hq v F1 H1 d e.un rd z, fun _ _ _ _ z => z.elim, fun _ _ _ _ z => z.elim, fun _ _ _ _ z => z.elim⟩⟩
  · unfold st0 L2.start
    rw [r.length]
    exact sls0 _ r
  · intro G σ F1 H1 C ns ds' d hxd ty ex fo dat
    rcases dat with ⟨dx, vs', rfl, e0, _, e1, e2, e3⟩ | ⟨rfl, rfl, rfl⟩
    · exact hx.1 C ns ds' dx vs' F1 H1 hxd ex e1 e2 e3 e0
    · exact hx.2 C F1 H1 hxd ex
end

/-! ### raise -/
/-- an own error class of one field -/
structure Er (P : Program) (w : World) (K : PySem.W.Frag) (mg : Str → Option Value) (base : Heap) (k : Nat) (x f v : Str) (C : Addr) : Prop where
  gl : mg x = some (.ref C)
  oc : OexC K C
  ini : ∃ fI fd, PySem.W.findIn K (.ref C) "__init__" = some (some (.ref fI)) ∧ PySem.W.typeIn K (.ref fI) = some (.type "function") ∧ Binds K fd ["self", v] [] ∧ FnOk P w K mg base (L2.CX P w) k fI fd ["self", v] (spI1 C f)
theorem Er.mono {P : Program} {w : World} {K : PySem.W.Frag} {mg : Str → Option Value} {base : Heap} {j k : Nat} {x f v : Str} {C : Addr} (E : Er P w K mg base j x f v C) (h : j ≤ k) : Er P w K mg base k x f v C := by
  obtain ⟨a, b, fI, fd, c, d, e, g⟩ := E
  exact ⟨a, b, fI, fd, c, d, e, g.mono h⟩
section
variable {X : Cx} {R : Reg} {G : List Sl} {pos : Pos} {k : Kt} {xq : List Sl → XD} {W : WX}
theorem mk_heap {H1 : Hp} {a dx C : Addr} {y : V} {f : Str} (ha : H1 a = none) (hd : dx ≠ a) : upd (del (upd (upd (upd H1 a (exo a C none)) dx (exd dx [(f, y)])) a (exo a C (some dx))) a) dx (.xd [(f, y)]) = upd H1 dx (.xd [(f, y)]) := by
  funext b
  by_cases h1 : b = dx
  · rw [h1, upd_same, upd_same]
  · rw [upd_ne h1, upd_ne h1]
    by_cases h2 : b = a
    · rw [h2, del_same, ha]
    · rw [del_ne h2, upd_ne h2, upd_ne h1, upd_ne h2]
theorem s_raise1 {j : Nat} {x f v : Str} {C : Addr} {e : Expr} {p pos' : Pos} (tk : Takes X W) (Er1 : Er X.prog X.w X.K X.mg X.base j x f v C) (hr : Room (j + 1) X.A) (hg : Gl X x) (h : EA X (R.wX X.K xq W) G [e] fun ds => ds.length = 1 ∧ xq G C [f] ds)
    (hc : X.calm = true := by rfl) (hdb : (x == ("__debug__" : Str)) = false := by decide) (he : starEach [e] X.env = (false, eval e X.env) :: starEach [] X.env := by rfl) (hpl : (backTo pos (starEach [] X.env)).any (·.1) = false := by rfl) :
    S1 X (R.wX X.K xq W) (.Raise (some (.Call (.Name x p) [e] [] pos)) none pos') G k := fun F0 H0 σ F H D ty b c => by
  obtain ⟨fI, fd, a1, a2, a3, a4⟩ := Er1.ini
  refine s1Of.of (ps_raise hc tk (pmk_oex (dvs := []) Er1.oc a1 a2 a4 hr a3 .nil passL hg Er1.gl pa_w hdb he hpl)) ?_
  refine h σ F H _ ty fun vs F1 H1 ds ex r ⟨hl, hx⟩ => ?_
  have hl2 : vs.length = 1 := by rw [← r.length]; exact hl
  obtain ⟨y, rfl⟩ : ∃ y, vs = [y] := by
    match vs, hl2 with
    | [y], _ => exact ⟨y, rfl⟩
  refine ⟨by rw [hl2]; decide, fun a ha => ⟨a, y, rfl, upd_same .., fun dx hd hne => ⟨rfl, dx, [(f, y)], upd_same .., ?_, ?_, ?_⟩⟩⟩
  · rw [upd_ne hne, upd_same]
  · have q : upd H1 a (exo a C none) dx = none := hd
    rw [upd_ne hne] at q
    exact q
  · have q : H1 dx = none := by
      have q : upd H1 a (exo a C none) dx = none := hd
      rw [upd_ne hne] at q
      exact q
    rw [mk_heap ha hne]
    have ex2 := ex.trans (ex.wf.own (o := .xd [(f, y)]) q)
    exact b.z G σ F1 _ C [f] ds (some dx) hx (ty.ext ex2).un (b.ext.trans ex2).un b.fresh (.inl ⟨dx, [y], rfl, (b.ext.trans ex).free q, ex.wf.new q, upd_same .., rfl, r⟩)
/-! ### expressions that may raise -/
def EX (X : Cx) (R : Reg) (G : List Sl) (W : WX) (e : Expr) (P : Dt → Prop) (xd : XD) : Prop := ∀ σ F H Q, Ty X.K R G σ F H → Ct X.K R F H P Q →
  (∀ F' H' C ns ds d, xd C ns ds → Ext R F H F' H' → XDat X.K R H F' H' ns ds d → W (.ref C) d σ H') → tOf X e σ H Q
theorem ex_of {e : Expr} {P : Dt → Prop} {xd : XD} (h : E X R G e P) : EX X R G W e P xd := fun σ F H Q ty c _ => h σ F H Q ty c
theorem ex_call {x : Str} {ps : List Str} {φ : Ph} {n j : Nat} {e : Expr} {es : List Expr} {p : Pos} {P : Dt → Prop} {xd : XD} (tk : Takes X W) (F : Fn X.prog X.w X.K X.mg X.base j x ps [] (spD X.K n φ)) (hr : Room j X.A) (hg : Gl X x)
    (h : EA X R G (e :: es) fun ds => ds.length = n ∧ φ ds P xd)
    (hdb : (x == ("__debug__" : Str)) = false := by decide) (he : starEach (e :: es) X.env = (false, eval e X.env) :: starEach es X.env := by rfl) (hpl : (backTo pos (starEach es X.env)).any (·.1) = false := by rfl) : EX X R G W (.Call (.Name x p) (e :: es) [] pos) P xd := fun σ F' H Q ty c cx => by
  obtain ⟨f, fd, ds, a1, a2, a3, a4, a5⟩ := F.ex
  cases a4
  refine tOf.of (pe_callS (E := WE W) a5 hr hg a1 a2 a3 (fun σ => passAt tk σ) pa_w hdb he hpl) (h σ F' H _ ty fun vs F1 H1 ds ex r ⟨hl, hφ⟩ => ?_)
  refine ⟨by rw [← hl]; exact r.length.symm, F1, _, P, xd, ex.wf.fh, r, hφ, fun v F2 H2 d ex2 r2 p => c v F2 H2 d (ex.trans (Ext.of_nil ex.wf ex2)) r2 p, ⟨fun C ns ds dx vs F2 H2 hx ex2 e1 e2 e3 e4 => ?_, fun C F2 H2 hx ex2 => ?_⟩⟩
  · exact cx F2 H2 C ns ds (some dx) hx (ex.trans (Ext.of_nil ex.wf ex2)) (.inl ⟨dx, vs, rfl, ex.free e4, ex.wf.new e4, e1, e2, e3⟩)
  · exact cx F2 H2 C [] [] none hx (ex.trans (Ext.of_nil ex.wf ex2)) (.inr ⟨rfl, rfl, rfl⟩)
theorem XDat.free {K : PySem.W.Frag} {H0 H F F' H' : Hp} {F0 : Hp} {ns : List Str} {ds : List Dt} {d : Option Addr} {R : Reg} (ex : Ext R F0 H0 F H) (x : XDat K R H F' H' ns ds d) : XDat K R H0 F' H' ns ds d := by
  rcases x with ⟨dx, vs, a, b, c⟩ | h
  · exact .inl ⟨dx, vs, a, ex.free b, c⟩
  · exact .inr h
theorem XDat.un {K K' : PySem.W.Frag} {H F H' : Hp} {ns : List Str} {ds : List Dt} {d : Option Addr} (x : XDat K' (R.wX K xq W) H F H' ns ds d) : XDat K' R H F H' ns ds d := x
theorem z_of {F0 H0 F H : Hp} {σ : St} (ty : Ty X.K (R.wX X.K xq W) G σ F H) (b : Bs (R.wX X.K xq W) F0 H0 G σ F H) : ∀ F' H' C ns ds d, xq G C ns ds → Ext (R.wX X.K xq W) F H F' H' → XDat X.K (R.wX X.K xq W) H F' H' ns ds d → W (.ref C) d σ H' := fun F' H' C ns ds d hx ex dat =>
  b.z G σ F' H' C ns ds d hx (ty.ext ex).un (b.ext.trans ex).un b.fresh (XDat.free b.ext dat).un
/-- name = e | e | return e, where e may raise -/
theorem s_asgX (i : Nat) {x : Str} {e : Expr} {pos' : Pos} (hN : X.N.Nodup) (hi : X.N[i]? = some x) (hx : Loc X.env.scope x) (h : EX X (R.wX X.K xq W) G W e (fun d => k.nx (G.set i (.sh d))) (xq G))
    (hs : swapsWith e (some (.Name x pos')) pos.line X.env = pure false := by rfl) (hf : X.fn x = true ∨ X.env.scope.names.lookup x = some .local := by first | exact .inl rfl | exact .inr rfl | assumption) : S1 X (R.wX X.K xq W) (.Assign [.Name x pos'] e pos) G k := fun F0 H0 σ F H D ty b c =>
  s1Of.of (ps_set hN hi hx pe_w hs hf) (h σ F H _ ty (fun v F1 H1 d ex r p => c.nx _ _ F1 H1 p ((ty.ext ex).set i r) ((b.step ex).set i)) (z_of ty b))
theorem s_exprX {e : Expr} (h : EX X (R.wX X.K xq W) G W e (fun _ => k.nx G) (xq G)) (hs : swapsWith e none pos.line X.env = pure false := by rfl) : S1 X (R.wX X.K xq W) (.Expr e pos) G k := fun F0 H0 σ F H D ty b c =>
  s1Of.of (ps_expr pe_w hs) (h σ F H _ ty (fun v F1 H1 d ex r p => c.nx _ _ F1 H1 p (ty.ext ex) (b.step ex)) (z_of ty b))
theorem s_retX {e : Expr} (h : EX X (R.wX X.K xq W) G W e (fun d => k.rt d) (xq G)) : S1 X (R.wX X.K xq W) (.Return (some e) pos) G k := fun F0 H0 σ F H D ty b c =>
  s1Of.of (ps_ret pe_w) (h σ F H _ ty (fun v F1 H1 d ex r p => c.rt d v F1 H1 p (b.ext.trans ex) r) (z_of ty b))

/-! ### try .. except x as n -/
theorem slOk_frz {K : PySem.W.Frag} {F H : Hp} {dx : Addr} {fs : List (Str × V)} (hd : H dx = some (.xd fs)) (ff : Same F (upd F dx (.xd fs))) {g : Sl} {v : Option V} (h : SlOk K R F H g v) : SlOk K R (upd F dx (.xd fs)) H g v := by
  cases g with
  | no => exact trivial
  | sh d => obtain ⟨x, e, r⟩ := h; exact ⟨x, e, r.mono ff⟩
  | ow d =>
    obtain ⟨o, e, fo, nM, ow⟩ := h
    have hne : o ≠ dx := fun z => by
      subst z
      rcases ow.kinds with ⟨xs, rfl⟩ | ⟨ks, xs, rfl⟩ | ⟨ks, xs, rfl⟩ | ⟨C, ns, xs, rfl⟩ | ⟨a, C, ns, xs, rfl⟩
      · obtain ⟨vs, h, _⟩ := ow; rw [hd] at h; cases h
      · obtain ⟨vs, h, _⟩ := ow; rw [hd] at h; cases h
      · obtain ⟨vs, h, _⟩ := ow; rw [hd] at h; cases h
      · obtain ⟨dx2, vs, h, _⟩ := ow; rw [hd] at h; cases h
      · obtain ⟨_, dx2, vs, h, _⟩ := ow; rw [hd] at h; cases h
    exact ⟨o, e, by rw [upd_ne hne]; exact fo, nM, ow.mono ff fun u h => h⟩
theorem slsOk_frz {K : PySem.W.Frag} {F H : Hp} {dx : Addr} {fs : List (Str × V)} (hd : H dx = some (.xd fs)) (ff : Same F (upd F dx (.xd fs))) {vs : List (Option V)} (h : SlsOk K R F H G vs) : SlsOk K R (upd F dx (.xd fs)) H G vs := by
  induction h with
  | nil => exact .nil
  | cons h _ ih => exact .cons (slOk_frz hd ff h) ih
theorem s_try {x n : Str} {c : Value} {i : Nat} {body suite : List Stmt} {b₀ : Stmt} {np pos' : Pos} {xq : List Sl → XD} (hN : X.N.Nodup) (hi : X.N[i]? = some n) (hln : X.env.kindOf n = some .local) (hc : Names X x c)
    (hno : ∀ G C ns ds, xq G C ns ds → PySem.W.exmOne X.K (.ref C) c = some true)
    (hb : ∀ W pn xe, Takes (X.tr pn xe) W → PassesOwn (model X.prog X.w) X.A X.env xe → S (X.tr pn xe) (R.wX X.K xq W) body G k)
    (hsu : ∀ G' C ns ds a oe d pn, xq G' C ns ds → Zc (.ref C) d oe → (∃ vs, oe.data = .fields vs) → (d = none → ns = [] ∧ ds = []) →
      S (X.suite a ((a, oe) :: pn)) R (b₀ :: suite) (G'.set i (.sh (.exv a ns ds d))) { nx := fun G => k.nx (G.set i .no), rt := k.rt, bk := fun G => k.bk (G.set i .no), ct := fun G => k.ct (G.set i .no) })
    (hs : X.stack = X.env :: X.outer := by rfl) (hf : X.env.frame = some X.env.locals := by rfl) :
    S1 X R (.Try body [.ExceptHandler (some (.Name x np)) (some n) (b₀ :: suite) pos'] [] [] pos) G k := fun F0 H0 σ F H D ty b ck => by
  refine s1Of.of (ps_try_as (tb := fun W D σ H => ∀ pn xe, Takes (X.tr pn xe) W → PassesOwn (model X.prog X.w) X.A X.env xe → sOf (X.tr pn xe) body D σ H) (ts := fun a cls d D σ H => ∀ oe pn, Zc cls d oe → (∃ vs, oe.data = .fields vs) → sOf (X.suite a ((a, oe) :: pn)) (b₀ :: suite) D σ H)
    (Wout := fun _ _ _ _ => False) hs hf hN hi hln hc (fun u s' ⟨_, _, _, _, _, _, _, _, _, _, _, _, _, _, _, _, z⟩ => z.elim) (fun W pn xe tk ps => ⟨fun pins s σ H D I h => (by have z := h pn xe tk ps; unfold sOf at z; exact z pins s I)⟩) (fun a oe cls d pn hz hf => ⟨fun pins s σ H D I h => (by have z := h oe pn hz hf; unfold sOf at z; exact z pins s I)⟩)) ?_
  intro pn xe tk pso
  refine hb _ pn xe tk pso F0 H0 σ F H D ty.wX ⟨b.ext.wX, b.fresh, ?_⟩ ⟨fun G σ F H z ty' b' => ck.nx G σ F H z ty'.un ⟨b'.ext.un, b'.fresh, b.z⟩, fun d v F H z e r => ck.rt d v F H z e.un r, fun d p F H z e => ck.rn d p F H z e.un, fun G σ F H z ty' b' => ck.bk G σ F H z ty'.un ⟨b'.ext.un, b'.fresh, b.z⟩, fun G σ F H z ty' b' => ck.ct G σ F H z ty'.un ⟨b'.ext.un, b'.fresh, b.z⟩⟩
  intro G' σ' F' H' C ns ds d hx ty' ex' fo dat
  refine ⟨true, hno _ _ _ _ hx, fun _ a ha oe pn' hz hf => ?_, fun z => nomatch z⟩
  have setNo : ∀ {G σ F H}, Ty X.K R G σ F H → Ty X.K R (G.set i .no) (σ.set i none) F H := fun ty => ⟨ty.wf, ty.sl.set i (g := .no) trivial, ty.nd.sublist (owns_set_sub i fun _ z => nomatch z)⟩
  have bsNo : ∀ {G σ F H}, Bs R F0 H0 G σ F H → Bs R F0 H0 (G.set i .no) (σ.set i none) F H := fun b => ⟨b.ext, fun o ho => b.fresh o ((owns_set_sub (g := .no) (v := none) i (fun _ z => nomatch z)).subset ho), b.z⟩
  have kk : KOk X.K R F0 H0 { nx := fun G => k.nx (G.set i .no), rt := k.rt, bk := fun G => k.bk (G.set i .no), ct := fun G => k.ct (G.set i .no) } { nx := fun σ' H' => D.nx (σ'.set i none) H', rt := D.rt, bk := fun σ' H' => D.bk (σ'.set i none) H', ct := fun σ' H' => D.ct (σ'.set i none) H' } :=
    ⟨fun G σ F H z ty b => ck.nx _ _ F H z (setNo ty) (bsNo b), ck.rt, fun _ _ _ _ z => z.elim, fun G σ F H z ty b => ck.bk _ _ F H z (setNo ty) (bsNo b), fun G σ F H z ty b => ck.ct _ _ F H z (setNo ty) (bsNo b)⟩
  rcases dat with ⟨dx, vs, rfl, e0, nM, e1, e2, e3⟩ | ⟨rfl, rfl, rfl⟩
  · have ff : Same F' (upd F' dx (.xd (ns.zip vs))) := fun z o h => by
      by_cases q : z = dx
      · subst q
        rw [upd_same]
        exact e1.symm.trans (ty'.wf.fh _ _ h)
      · rw [upd_ne q]; exact h
    have wf2 : Wf R (upd F' dx (.xd (ns.zip vs))) H' := ⟨fun z o h => by
      by_cases q : z = dx
      · subst q
        rw [upd_same] at h
        exact e1.trans h
      · rw [upd_ne q] at h; exact ty'.wf.fh z o h, fun z m => by
      rw [upd_ne (show z ≠ dx from fun q => nM (by rw [← q]; exact m))]
      exact ty'.wf.off z m, ty'.wf.oc, ty'.wf.b⟩
    have ty2 : Ty X.K R G' σ' (upd F' dx (.xd (ns.zip vs))) H' := ⟨wf2, slsOk_frz e1 ff ty'.sl, ty'.nd⟩
    have rE : Rp X.K (upd F' dx (.xd (ns.zip vs))) (.exv a ns ds (some dx)) (.ref a) := rp_exv.mpr ⟨rfl, fun dx' hd => by
      cases hd
      exact ⟨vs, upd_same .., e2, e3.mono ff⟩⟩
    have b2 : Bs R F0 H0 G' σ' (upd F' dx (.xd (ns.zip vs))) H' := ⟨⟨wf2, ex'.ff.trans ff, ex'.hh, fun z h n => by
      rw [upd_ne (show z ≠ dx from fun q => h (by rw [q]; exact e0))]
      exact ex'.fr z h n⟩, fo, b.z⟩
    exact hsu G' C ns ds a oe (some dx) pn' hx hz hf (fun z => nomatch z) F0 H0 _ _ H' _ (ty2.set i rE) (b2.set i) kk
  · have rE : Rp X.K F' (.exv a [] [] none) (.ref a) := rp_exv.mpr ⟨rfl, fun dx' hd => by cases hd⟩
    exact hsu G' C [] [] a oe none pn' hx hz hf (fun _ => ⟨rfl, rfl⟩) F0 H0 _ _ H' _ (ty'.set i rE) (Bs.set ⟨ex', fo, b.z⟩ i) kk
/-! ### in the suite: isinstance(e, C), e.f -/
theorem wc_isE {a D : Addr} {oe : Obj} {od : Option Addr} {pn : List (Addr × Obj)} {C : Value} {b : Bool} {P : Dt → Prop} {dc : Dt} {ns : List Str} {ds : List Dt} (EC : ExcC X.K D) (hz : Zc (.ref D) od oe) (hf : ∃ vs, oe.data = .fields vs)
    (hc : (∃ n, dc = .ty n ∧ C = .type n) ∨ (∃ c, dc = .adr c ∧ C = .ref c)) (hk : PySem.W.kitOne X.K (.ref D) C = some b) (p : P (.bl b)) : WC (X.suite a ((a, oe) :: pn)) R (.builtin "isinstance") [.exv a ns ds od, dc] P := fun F H xs Q w r c => by
  obtain ⟨v, u, rfl, h1, h2⟩ := r.two
  obtain ⟨rfl, hdx⟩ := rp_exv.mp h1
  unfold crOf
  intro pins s σ us I rv
  cases rv with
  | cons rx rr =>
    cases rr with
    | cons rt rr =>
      cases rr
      cases rx
      rename_i uc
      have ec : uc = C := by
        rcases hc with ⟨n, rfl, rfl⟩ | ⟨c, rfl, rfl⟩
        · rw [rp_ty.mp h2] at rt; exact rt
        · rw [rp_adr.mp h2] at rt; exact rt
      subst ec
      obtain ⟨hget, _⟩ := I.pin (a, oe) (List.mem_append.mpr (.inl List.mem_cons_self))
      obtain ⟨vs, hv⟩ := hf
      have J : ∃ oo, PySem.W.InstAt s.heap a oe D oo := by
        cases od with
        | none =>
          refine ⟨none, hget, hz.1, by unfold PySem.W.notCls; rw [hv] <;> rfl, by rw [hz.2]; trivial⟩
        | some dx =>
          obtain ⟨vs', e1, _, _⟩ := hdx dx rfl
          obtain ⟨mA, hns, hr⟩ := I.hok dx _ (w.fh _ _ e1)
          obtain ⟨oo, ho, hl⟩ := lookIn_ns hns
          exact ⟨some oo, hget, hz.1, by unfold PySem.W.notCls; rw [hv] <;> rfl, by rw [hz.2]; exact ho⟩
      obtain ⟨oo, J⟩ := J
      obtain ⟨cdD, hcD, _⟩ := PySem.W.any_some EC.hd
      exact PySem.W.kia_one (PySem.W.kitx_exc (by rw [hcD]; rfl) EC.hg EC.hk EC.hs EC.ha EC.hn EC.ht EC.hm) I.kIn J hk (fun z => nomatch z) fun tk => ⟨.bl b, H, I.kept (t' := tk) fun _ _ z => z, rfl, c.here w (rp_bl.mpr rfl) p⟩
/-- e.f -/
theorem e_xf {a C : Addr} {oe : Obj} {od : Option Addr} {pn : List (Addr × Obj)} {e : Expr} {n : Str} {d : Dt} {P : Dt → Prop} (T : XfC X.K C) (hno : PySem.W.findIn X.K (.ref C) n = some none) (hz : Zc (.ref C) od oe) (hf : ∃ vs, oe.data = .fields vs) (hod : od ≠ none)
    (h : E (X.suite a ((a, oe) :: pn)) R G e fun d' => d' = .exv a [n] [d] od) (p : P d) (hb : attributeBase e n X.env (eval e X.env) = eval e X.env := by rfl) : E (X.suite a ((a, oe) :: pn)) R G (.Attribute e n pos) P := fun σ F H Q ty c => by
  refine tOf.of (pe_xf T hno hz hf pe_w hb) (h σ F H _ ty fun v F1 H1 d' ex r hd' => ?_)
  subst hd'
  obtain ⟨rfl, hdx⟩ := rp_exv.mp r
  obtain ⟨dx, rfl⟩ : ∃ dx, od = some dx := Option.ne_none_iff_exists'.mp hod
  obtain ⟨vs, e1, e2, e3⟩ := hdx dx rfl
  obtain ⟨y, t, rfl, ry, rt⟩ := e3.of_cons
  exact ⟨rfl, rfl, dx, _, y, rfl, ex.wf.fh _ _ e1, by simp [List.lookup], c.step ex y F1 H1 d (.refl ex.wf) ry p⟩
end
end VS
set_option Elab.async false
set_option linter.all false
set_option maxRecDepth 100000
set_option maxHeartbeats 2000000
/-! the head's facts, own error classes among them -/
namespace VS
open PySem PySem.Spec L2

/-! which objects are looked at: a set of addresses as the bits of a number -/
def hasB (s a : Nat) : Bool := Nat.beq (Nat.land (Nat.shiftRight s a) 1) 1
def addB (s a : Nat) : Nat := Nat.lor s (Nat.shiftLeft 1 a)
def frN {α : Type} (n : Nat) (k : Nat → α) : α := match n with
  | 0 => k 0
  | m + 1 => k (m + 1)
def colR {α : Type} (k : Nat → List Addr → α) : List Addr → Nat → List Addr → α
  | [], seen, nx => k seen nx
  | r :: rs, seen, nx => match hasB seen r with
    | true => colR k rs seen nx
    | false => frN (addB seen r) fun s => colR k rs s (r :: nx)
def colA {α : Type} (g : Addr → Option Obj) (k : Nat → List Addr → α) : List Addr → Nat → List Addr → α
  | [], seen, nx => k seen nx
  | a :: as, seen, nx => match g a with
    | some o => colR (fun s n => colA g k as s n) (He.refsD o) seen nx
    | none => colA g k as seen nx
def rnd (g : Addr → Option Obj) : Nat → Nat → List Addr → List Addr → List Addr
  | 0, _, _, acc => acc
  | n + 1, seen, front, acc => colA g (fun s nx => rnd g n s nx (nx ++ acc)) front seen []
def asV (g : Addr → Option Obj) (n : Nat) : List Addr := rnd g n (addB (addB 0 mainGlobals) cStatics) [mainGlobals] [mainGlobals, cStatics]
/-- one error class with an __init__ of its own: name, the __init__, the fields -/
structure ErD where
  x : Str
  qual : Str
  params : Arguments
  body : List Stmt
  scope : Scope
  fs : List Str
abbrev InW : Type := Option (Str × Str × Arguments × FuncBody × Scope × Addr × List Str × Addr)
def iniW (K : PySem.W.Frag) (x : Str) : InW := match K.lookup (He.ma K (He.ga K x) "__init__") with
  | some ⟨_, _, .func fd, _⟩ => some (fd.name, fd.qualname, fd.params, fd.body, fd.scope, fd.globals, fd.closure.map (·.1), fd.builtins)
  | _ => none
def ErD.val (d : ErD) : InW := some ("__init__", d.qual, d.params, .stmts d.body, d.scope, mainGlobals, ["__class__"], builtinsNs)
def clsB (K : PySem.W.Frag) (C : Addr) : Bool := match K.lookup C with
  | some ⟨.type "type", _, .cls cd, sl⟩ => (match cd.mro, sl.toList with
    | .ref C' :: bm, [_, _, _, _, some (.builtin n), _] => C' == C && n == "ValueError.__new__" && !cd.hasDel && cd.hasDict && PySem.HandSPX.refsVE bm
    | _, _ => false)
  | _ => false
theorem clsB_ok {K : PySem.W.Frag} {C : Addr} (q : clsB K C = true) : ∃ nm q N bs bm sn sub ab col dd k0 k1 k2 k3 k5, K.lookup C = some (excClassObj nm q C N bs bm true sn sub ab col dd k0 k1 k2 k3 k5 "ValueError.__new__") ∧ PySem.HandSPX.refsVE bm = true := by
  unfold clsB at q
  split at q
  · rename_i dd cd sl ho
    split at q
    · rename_i C' bm k0 k1 k2 k3 n k5 hm hs
      simp only [Bool.and_eq_true, beq_iff_eq, Bool.not_eq_true'] at q
      obtain ⟨⟨⟨⟨rfl, rfl⟩, hdel⟩, hdc⟩, ht⟩ := q
      obtain ⟨nm, bs, mro, ns, qn, hd, sn, sub, ab, col, del⟩ := cd
      dsimp only at hm hdel hdc
      subst hm hdel hdc
      have hsl : sl = #[k0, k1, k2, k3, some (.builtin "ValueError.__new__"), k5] := by
        obtain ⟨l⟩ := sl
        simp only at hs
        rw [hs]
      subst hsl
      exact ⟨nm, qn, ns, bs, bm, sn, sub, ab, col, dd, k0, k1, k2, k3, k5, ho, ht⟩
    · cases q
  · cases q
/-- what every error class must say -/
def excB (K : PySem.W.Frag) (C : Addr) : Bool := clsB K C && (He.eqO (PySem.W.findIn K (.ref C) "__setattr__") (some (some (.builtin "object.__setattr__"))) && (decide (PySem.W.subIn K (.ref C) (.type "BaseException") = some true) && (decide (PySem.W.typeIn K (.ref C) = some (.type "type")) && (PySem.W.keepIn K (.ref C) &&
  (He.eqO (PySem.W.findIn K (.ref C) "__getattribute__") (some (some (.builtin "BaseException.__getattribute__"))) && (He.eqO (PySem.W.findIn K (.ref C) "__getattr__") (some none) && (PySem.W.hasDictIn K C && (He.eqO (PySem.W.findIn K (.ref C) "__class__") (some (some (.builtin "object.__class__"))) &&
  (He.eqO (PySem.W.specialIn K (.builtin "object.__class__") "__get__") (some (some (.builtin "getset_descriptor.__get__"))) && (decide (PySem.W.takesIn K (.builtin "object.__class__") = some true) && decide (PySem.W.mroIn K C (.type "object") = some true)))))))))))
structure ExC (K : PySem.W.Frag) (C : Addr) : Prop where
  oc : OexC K C
  ec : ExcC K C
  xf : XfC K C
theorem excB_ok {K : PySem.W.Frag} {C : Addr} (h : excB K C = true) : ExC K C := by
  unfold excB at h
  obtain ⟨h1, h⟩ := He.ba h
  obtain ⟨h2, h⟩ := He.ba h
  obtain ⟨h3, h⟩ := He.ba h
  obtain ⟨h4, h⟩ := He.ba h
  obtain ⟨h5, h⟩ := He.ba h
  obtain ⟨h6, h⟩ := He.ba h
  obtain ⟨h7, h⟩ := He.ba h
  obtain ⟨h8, h⟩ := He.ba h
  obtain ⟨h9, h⟩ := He.ba h
  obtain ⟨h10, h⟩ := He.ba h
  obtain ⟨h11, h12⟩ := He.ba h
  exact ⟨⟨clsB_ok h1, He.eqO_ok h2, of_decide_eq_true h3, of_decide_eq_true h4, h5⟩, ⟨He.eqO_ok h6, He.eqO_ok h7, of_decide_eq_true h3, h8, He.eqO_ok h9, He.eqO_ok h10, of_decide_eq_true h11, of_decide_eq_true h12⟩, ⟨He.eqO_ok h6, He.eqO_ok h7, of_decide_eq_true h3, h8⟩⟩
def codeB (file : Str) (K : PySem.W.Frag) (C : Addr) (qual : Str) (fd : FuncData) : Bool := match fd.code, fd.closure, fd.defaults with
  | .ref cda, [(_, cc)], .none => PySem.W.codeIn K (.ref cda) qual && ((match K.lookup cda with
      | some ⟨_, _, .fields vs, _⟩ => (match (vs[2]? : Option Value) with | some (Value.str f _) => file == f | _ => false)
      | _ => false) && (match K.lookup cc with
      | some ⟨_, _, .cell (some (.ref C')), _⟩ => C' == C
      | _ => false))
  | _, _, _ => false
def iniB (file : Str) (K : PySem.W.Frag) (d : ErD) : Bool := excB K (He.ga K d.x) && (He.eqO (PySem.W.findIn K (.ref (He.ga K d.x)) "__init__") (some (some (.ref (He.ma K (He.ga K d.x) "__init__")))) && (decide (PySem.W.typeIn K (.ref (He.ma K (He.ga K d.x) "__init__")) = some (.type "function")) &&
  ((PySem.W.clsIn K (He.ga K d.x)).isSome && (decide (PySem.W.mroIn K (He.ga K d.x) (.ref (He.ga K d.x)) = some true) && (He.eqO (PySem.W.nsIn K cStatics "thirdparty.any") (some none) && (He.eqO (PySem.W.ks_superIn K (He.ga K d.x) (He.ga K d.x) "__init__") (some (some (.builtin "ValueError.__init__"))) &&
  (decide (PySem.W.subIn K (.ref (He.ga K d.x)) (.type "ValueError") = some true) && (d.fs.all (fun f => He.eqO (PySem.W.findIn K (.ref (He.ga K d.x)) f) (some none)) && (match K.lookup (He.ma K (He.ga K d.x) "__init__") with
    | some ⟨_, _, .func fd, _⟩ => codeB file K (He.ga K d.x) d.qual fd
    | _ => false)))))))))
theorem iniB_ok {P : Program} {K : PySem.W.Frag} {d : ErD} (h : iniB P.main.file K d = true) (e : iniW K d.x = d.val) : ∃ fd, IniD P K (He.ga K d.x) (He.ma K (He.ga K d.x) "__init__") d.qual d.params d.body d.scope fd ∧ ExC K (He.ga K d.x) ∧ (∀ f ∈ d.fs, PySem.W.findIn K (.ref (He.ga K d.x)) f = some none) := by
  unfold iniB at h
  obtain ⟨h1, h⟩ := He.ba h
  obtain ⟨h2, h⟩ := He.ba h
  obtain ⟨h3, h⟩ := He.ba h
  obtain ⟨h4, h⟩ := He.ba h
  obtain ⟨h5, h⟩ := He.ba h
  obtain ⟨h6, h⟩ := He.ba h
  obtain ⟨h7, h⟩ := He.ba h
  obtain ⟨h8, h⟩ := He.ba h
  obtain ⟨h9, h10⟩ := He.ba h
  have E := excB_ok h1
  unfold iniW at e
  cases q : K.lookup (He.ma K (He.ga K d.x) "__init__") with
  | none => rw [q] at h10; cases h10
  | some o =>
    obtain ⟨oc, od, dt, osl⟩ := o
    rw [q] at h10 e
    cases dt with
    | func fd =>
      obtain ⟨n1, n2, n3, n4, n5, n6, n7, n8, n9, n10, n11, n12, n13, n14, n15⟩ := fd
      have e2 : (some (n1, n2, n3, n4, n5, n6, n7.map (·.1), n15) : InW) = some (("__init__" : Str), d.qual, d.params, FuncBody.stmts d.body, d.scope, mainGlobals, [("__class__" : Str)], builtinsNs) := e
      simp only [Option.some.injEq, Prod.mk.injEq] at e2
      obtain ⟨g1, g2, g3, g4, g5, g6, g7, g8⟩ := e2
      subst g1 g2 g3 g4 g5 g6 g8
      have hc : codeB P.main.file K (He.ga K d.x) d.qual ⟨"__init__", d.qual, d.params, .stmts d.body, d.scope, mainGlobals, n7, n8, n9, n10, n11, n12, n13, n14, builtinsNs⟩ = true := h10
      unfold codeB at hc
      dsimp only at hc
      split at hc
      · rename_i cda nm cc
        obtain ⟨k1, k2⟩ := He.ba hc
        obtain ⟨k2, k3⟩ := He.ba k2
        have en : nm = "__class__" := by
          have : [nm] = [("__class__" : Str)] := g7
          injection this
        subst en
        split at k2
        · rename_i ccl cdd cvs ccs lcd
          split at k2
          · rename_i f tf hv
            split at k3
            · rename_i cl cld C' csl lcc
              have eC : C' = He.ga K d.x := eq_of_beq k3
              subst eC
              refine ⟨_, ⟨E.oc, He.eqO_ok h2, of_decide_eq_true h3, ⟨oc, od, n9, n10, n11, n12, n14, osl, cda, cc, rfl, q, k1, ⟨ccl, cdd, cvs, ccs, f, tf, lcd, hv, k2⟩, cl, cld, csl, lcc⟩, Option.isSome_iff_exists.mp h4, of_decide_eq_true h5, He.eqO_ok h6, He.eqO_ok h7, of_decide_eq_true h8⟩, E, fun f hf => He.eqO_ok (List.all_eq_true.mp h9 f hf)⟩
            · cases k3
          · cases k2
        · cases k2
      · cases hc
    | _ => cases h10
/-! ### the hook -/
abbrev AlV : Type := He.AlD × (Bool × List InW)
def obsV (file : Str) (fa : List He.Fa) (fn : List He5.DefA) (es : List ErD) (ex : PySem.W.Frag → Bool) (K : PySem.W.Frag) : AlV := (He5.obsA fa fn K, ((es.all fun d => iniB file K d) && ex K, es.map fun d => iniW K d.x))
def valV (fn : List He5.DefA) (es : List ErD) : AlV := (He5.valA fn, (true, es.map ErD.val))
def SaysV (file : Str) (fa : List He.Fa) (fn : List He5.DefA) (es : List ErD) (ex : PySem.W.Frag → Bool) (K : PySem.W.Frag) : Prop := obsV file fa fn es ex K = valV fn es
def obsVG (n : Nat) (file : Str) (fa : List He.Fa) (fn : List He5.DefA) (es : List ErD) (ex : PySem.W.Frag → Bool) (g : Addr → Option Obj) : AlV := obsV file fa fn es ex (He.frG g (asV g n))
def hookV (n : Nat) (file : Str) (fa : List He.Fa) (fn : List He5.DefA) (es : List ErD) (ex : PySem.W.Frag → Bool) : PySem.W.Hook where
  α := AlV
  obs := fun s => obsVG n file fa fn es ex s.heap.get?
  val := fun _ => valV fn es
  says := fun _ h => ∃ K : PySem.W.Frag, K.In h ∧ SaysV file fa fn es ex K
  of := fun _ _ e => ⟨_, He.frG_in, e⟩
  keeps := fun _ _ _ ⟨K, hK, c⟩ k => ⟨K, PySem.W.Frag.In.keeps hK k, c⟩
theorem obsVG_eq {n : Nat} {file : Str} {fa : List He.Fa} {fn : List He5.DefA} {es : List ErD} {ex : PySem.W.Frag → Bool} {g : Addr → Option Obj} {s : Shared} (h : ∀ a, g a = s.heap.get? a) : obsVG n file fa fn es ex g = (hookV n file fa fn es ex).obs s := by
  have e : g = s.heap.get? := funext h
  rw [e] <;> rfl
section
variable {P : Program} {fa : List He.Fa} {fn : List He5.DefA} {es : List ErD} {ex : PySem.W.Frag → Bool} {K : PySem.W.Frag}
theorem SaysV.d {file : Str} (c : SaysV file fa fn es ex K) : He5.SaysA fa fn K := congrArg (fun z : AlV => z.1) c
theorem SaysV.more {file : Str} (c : SaysV file fa fn es ex K) : ex K = true := (He.ba (show ((es.all fun d => iniB file K d) && ex K) = true from congrArg (fun z : AlV => z.2.1) c)).2
theorem SaysV.err (c : SaysV P.main.file fa fn es ex K) (i : Nat) {d : ErD} (h : es[i]? = some d := by rfl) : ∃ fd, IniD P K (He.ga K d.x) (He.ma K (He.ga K d.x) "__init__") d.qual d.params d.body d.scope fd ∧ ExC K (He.ga K d.x) ∧ (∀ f ∈ d.fs, PySem.W.findIn K (.ref (He.ga K d.x)) f = some none) := by
  have c1 := (He.ba (show ((es.all fun d => iniB P.main.file K d) && ex K) = true from congrArg (fun z : AlV => z.2.1) c)).1
  have c2 : es.map (fun d => iniW K d.x) = es.map ErD.val := congrArg (fun z : AlV => z.2.2) c
  have hm := List.mem_of_getElem? h
  refine iniB_ok (List.all_eq_true.mp c1 d hm) ?_
  have e := congrArg (fun l => l[i]?) c2
  simp only [List.getElem?_map, h, Option.map_some, Option.some.injEq] at e
  exact e
end
end VS
namespace VS
open PySem PySem.Spec L2
theorem binds_ks {P : Program} {K : PySem.W.Frag} {C fI : Addr} {qual : Str} {params : Arguments} {body : List Stmt} {scope : Scope} {fd : FuncData} {ps : List Str} (D : IniD P K C fI qual params body scope fd)
    (h : ∀ (kV doc pm : Value) (an : Option Addr) (cdv ct : Value) (cc : Addr) (us : List Value), us.length = ps.length → bindArgs (PySem.W.ksFn "__init__" qual params body scope .none kV doc pm an cdv ct cc) ⟨us, []⟩ = pure (ps.zip us)) : Binds K fd ps [] := by
  obtain ⟨oc, od, kV, doc, pm, an, ct, osl, cda, cc, rfl, _⟩ := D.fn
  exact .all (h kV doc pm an (.ref cda) ct cc)
/-- further words on the classes -/
abbrev Xa : Type := PySem.W.Frag → Bool
def Xa.exm (x y : Str) (b : Bool) : Xa := fun K => decide (PySem.W.exmOne K (.ref (He.ga K x)) (.ref (He.ga K y)) = some b)
def Xa.kit (x y : Str) (b : Bool) : Xa := fun K => decide (PySem.W.kitOne K (.ref (He.ga K x)) (.ref (He.ga K y)) = some b)
def Xa.kitT (x : Str) (T : String) (b : Bool) : Xa := fun K => decide (PySem.W.kitOne K (.ref (He.ga K x)) (.type T) = some b)
def Xa.exc (x : Str) : Xa := fun K => excB K (He.ga K x)
def Xa.tup (x : Str) (vs : List He.Dv) : Xa := fun K => He.tupB K x vs
def exOf (xs : List Xa) (K : PySem.W.Frag) : Bool := xs.all fun x => x K
section
variable {fa : List He.Fa} {fn : List He5.DefA} {es : List ErD} {xs : List Xa} {K : PySem.W.Frag} {file : Str}
theorem SaysV.xa (c : SaysV file fa fn es (exOf xs) K) (i : Nat) {x : Xa} (h : xs[i]? = some x) : x K = true := List.all_eq_true.mp c.more x (List.mem_of_getElem? h)
theorem SaysV.exm (c : SaysV file fa fn es (exOf xs) K) (i : Nat) {x y : Str} {b : Bool} (h : xs[i]? = some (Xa.exm x y b)) : PySem.W.exmOne K (.ref (He.ga K x)) (.ref (He.ga K y)) = some b := of_decide_eq_true (c.xa i h)
theorem SaysV.kit (c : SaysV file fa fn es (exOf xs) K) (i : Nat) {x y : Str} {b : Bool} (h : xs[i]? = some (Xa.kit x y b)) : PySem.W.kitOne K (.ref (He.ga K x)) (.ref (He.ga K y)) = some b := of_decide_eq_true (c.xa i h)
theorem SaysV.kitT (c : SaysV file fa fn es (exOf xs) K) (i : Nat) {x : Str} {T : String} {b : Bool} (h : xs[i]? = some (Xa.kitT x T b)) : PySem.W.kitOne K (.ref (He.ga K x)) (.type T) = some b := of_decide_eq_true (c.xa i h)
theorem SaysV.tup (c : SaysV file fa fn es (exOf xs) K) (i : Nat) {x : Str} {vs : List He.Dv} (h : xs[i]? = some (Xa.tup x vs)) (F : Hp) : SqT K F (He.ga K x) (vs.map (He.Dv.v K)) := He.tupB_ok (c.xa i h) F
theorem SaysV.exc (c : SaysV file fa fn es (exOf xs) K) (i : Nat) {x : Str} (h : xs[i]? = some (Xa.exc x)) : ExC K (He.ga K x) := excB_ok (c.xa i h)
end
end VS
set_option Elab.async false
set_option linter.all false
set_option maxRecDepth 100000
set_option maxHeartbeats 2000000
/-! calls with keywords -/
namespace VS
open PySem PySem.Spec L2
/-- a def called with n values and the keywords ks: g says how they stand in the parameters' order -/
structure FnK (P : Program) (w : World) (K : PySem.W.Frag) (mg : Str → Option Value) (base : Heap) (k : Nat) (x : Str) (n : Nat) (ks : List Str) (g : {α : Type} → List α → List α → List α) (dvs : List V) (sp : Sp) : Prop where
  ex : ∃ (f : Addr) (fd : FuncData) (ps : List Str) (ds : List Value), mg x = some (.ref f) ∧ PySem.W.keepIn K (.ref f) = true ∧ KBn K fd ps n ks (fun us ws => g us ws ++ ds) (fun vs zs => g vs zs ++ dvs) ∧ FnOk P w K mg base (L2.CX P w) k f fd ps sp
theorem FnK.mono {P : Program} {w : World} {K : PySem.W.Frag} {mg : Str → Option Value} {base : Heap} {j k : Nat} {x : Str} {n : Nat} {ks : List Str} {g : {α : Type} → List α → List α → List α} {dvs : List V} {sp : Sp} (F : FnK P w K mg base j x n ks g dvs sp) (h : j ≤ k) : FnK P w K mg base k x n ks g dvs sp := by
  obtain ⟨f, fd, ps, ds, a, b, c, d⟩ := F.ex
  exact ⟨f, fd, ps, ds, a, b, c, d.mono h⟩
theorem kb_of {K : PySem.W.Frag} {x qual : Str} {params : Arguments} {body : List Stmt} {scope : Scope} {dvs : List V} {kws : List (Str × V)} {f : Addr} {fd : FuncData} {ps : List Str} (F : FunD K x qual params body scope dvs kws f fd) (n : Nat) (ks : List Str) (hd : dvs ≠ [])
    (h : ∀ (T : Addr) (kV doc pm : Value) (an : Option Addr) (cdv ct : Value) (us its ws : List Value), us.length = n → its.length = dvs.length → ws.length = ks.length →
      ∃ k, bindArgs (PySem.W.fnOf x qual params body scope (.ref T) kV doc pm an cdv ct) ⟨us, ks.zip ws⟩ = seqItems? (.ref T) >>= k ∧ k (some its.toArray) = pure (ps.zip (us ++ ws ++ []))) : KBn K fd ps n ks (fun us ws => us ++ ws ++ []) (fun vs zs => vs ++ zs ++ []) := by
  obtain ⟨oc, od, dV, kV, doc, pm, an, cdv, ct, osl, rfl, lk, hcd, hD, hK⟩ := F.ex
  rcases hD with ⟨e, _⟩ | ⟨_, T, o, its, m, rfl, lT, oT, rT⟩
  · exact absurd e hd
  · refine ⟨fun s us ws X h1 h2 => ?_, fun r1 r2 => (r1.append r2).append .nil⟩
    obtain ⟨k, e1, e2⟩ := h T kV doc pm an cdv ct us its ws h1 rT.length.symm h2
    refine BindsTo.of_looks fun M => ?_
    rw [e1]
    exact looks_items X lT oT (.of_pure e2)
section
variable {X : Cx} {R : Reg} {G : List Sl} {pos : Pos} {k : Kt}
/-- f(e, .., k = v) -/
theorem e_callK1 {x : Str} {φ : Ph} {m n j : Nat} {e : Expr} {es : List Expr} {p : Pos} {P : Dt → Prop} {kn : Str} {ke : Expr} {kp : Pos} (F : FnK X.prog X.w X.K X.mg X.base j x n [kn] (fun us ws => us ++ ws) [] (spD X.K m φ)) (hr : Room j X.A) (hg : Gl X x)
    (h : EA X R G (e :: es) fun ds => E X R G ke fun dk => ds.length = n ∧ (ds ++ [dk]).length = m ∧ φ (ds ++ [dk]) P fun _ _ _ => False)
    (hall : (backToKw pos (keywordEach [⟨some kn, ke, kp⟩] X.env)).all (·.1.isSome) = true := by rfl) (hks : (backToKw pos (keywordEach [⟨some kn, ke, kp⟩] X.env)).filterMap (·.1) = [kn] := by rfl)
    (hdb : (x == ("__debug__" : Str)) = false := by decide) (he : starEach (e :: es) X.env = (false, eval e X.env) :: starEach es X.env := by rfl)
    (hpl : ((backTo pos (starEach (e :: es) X.env)).any (·.1) || (backToKw pos (keywordEach [⟨some kn, ke, kp⟩] X.env)).any (·.1.isNone)) = false := by rfl) : E X R G (.Call (.Name x p) (e :: es) [⟨some kn, ke, kp⟩] pos) P := fun σ F' H Q ty c => by
  obtain ⟨f, fd, ps, dvv, a1, a2, a3, a4⟩ := F.ex
  refine tOf.of (pe_callN a4 hr hg a1 a2 a3 passL pa_w (pk_cons pe_w pk_nil) hall hks hdb he hpl) (h σ F' H _ ty fun vs F1 H1 ds ex r hk => ?_)
  refine hk σ F1 H1 _ (ty.ext ex) fun v F2 H2 dk ex2 rk ⟨hl, hm, hφ⟩ => ?_
  have rr : RpL X.K F2 (ds ++ [dk]) (vs ++ [v]) := (r.mono ex2.ff).append (.cons rk .nil)
  have e12 := ex.trans ex2
  refine ⟨by rw [← r.length]; exact hl, rfl, ?_⟩
  show spD X.K m φ (vs ++ [v] ++ []) H2 Q _
  rw [List.append_nil]
  exact ⟨by rw [← hm]; exact rr.length.symm, F2, _, P, fun _ _ _ => False, ex2.wf.fh, rr, hφ, fun v F3 H3 d ex3 r3 p => c v F3 H3 d (e12.trans (Ext.of_nil ex2.wf ex3)) r3 p, ⟨fun _ _ _ _ _ _ _ z => z.elim, fun _ _ _ z => z.elim⟩⟩
end
end VS
set_option Elab.async false
set_option linter.all false
set_option maxRecDepth 100000
set_option maxHeartbeats 2000000
/-! texts as lists of code points -/
namespace VS
open PySem PySem.Spec L2
abbrev St' := SX.S
section
variable {X : Cx} {R : Reg} {G : List Sl} {pos : Pos} {k : Kt}
/-- o.partition(e) -/
theorem e_partition {o e : Expr} {apos : Pos} {P : Dt → Prop} (h : E X R G o fun d => ∃ a, d = .str a ∧ E X R G e fun d' => ∃ b, d' = .str b ∧ (b.length == 0) = false ∧ a.length ≤ 100000 ∧ P (.tup [.str (Txt.partition a b).1, .str (Txt.partition a b).2.1, .str (Txt.partition a b).2.2]))
    (hs : starEach [e] X.env = [(false, eval e X.env)] := by rfl) (hbase : attributeBase o "partition" X.env (eval o X.env) = eval o X.env := by rfl) (hline : (apos.endLine == pos.line) = true := by rfl) : E X R G (.Call (.Attribute o "partition" apos) [e] [] pos) P := fun σ F H Q ty c => by
  refine tOf.of (pe_partition pe_w pe_w hs hbase hline) (h σ F H _ ty fun v F1 H1 d ex r ⟨a, ed, h2⟩ => ?_)
  subst ed
  refine ⟨⟨a, rp_str.mp r⟩, ?_⟩
  refine h2 σ F1 H1 _ (ty.ext ex) fun v2 F2 H2 d2 ex2 r2 ⟨b, eb, hb, hl, p⟩ => ?_
  subst eb
  refine ⟨a, b, rp_str.mp r, by rw [rp_str.mp r2], hb, Nat.le_trans hl (by decide), fun q hq => ?_⟩
  have ex3 := ex2.wf.made (o := .tup [.str (Txt.partition a b).1, .str (Txt.partition a b).2.1, .str (Txt.partition a b).2.2]) hq
  exact c _ _ _ _ ((ex.trans ex2).trans ex3) (rp_tup_new (ex2.wf.fh.free hq) (.cons (rp_str.mpr rfl) (.cons (rp_str.mpr rfl) (.cons (rp_str.mpr rfl) .nil)))) p
/-- o.startswith(e) -/
theorem e_startswith {o e : Expr} {apos : Pos} {P : Dt → Prop} (h : E X R G o fun d => ∃ a, d = .str a ∧ E X R G e fun d' => ∃ b, d' = .str b ∧ P (.bl (Txt.startswith a b)))
    (hs : starEach [e] X.env = [(false, eval e X.env)] := by rfl) (hbase : attributeBase o "startswith" X.env (eval o X.env) = eval o X.env := by rfl) (hline : (apos.endLine == pos.line) = true := by rfl) : E X R G (.Call (.Attribute o "startswith" apos) [e] [] pos) P := fun σ F H Q ty c => by
  refine tOf.of (pe_m1 PySem.F.slot_str_startswith PySem.F.type_str_startswith mt_startswith pe_w pe_w hs hbase hline) (h σ F H _ ty fun v F1 H1 d ex r ⟨a, ed, h2⟩ => ?_)
  subst ed
  refine ⟨⟨a, rp_str.mp r⟩, ?_⟩
  refine h2 σ F1 H1 _ (ty.ext ex) fun v2 F2 H2 d2 ex2 r2 ⟨b, eb, p⟩ => ?_
  subst eb
  exact ⟨a, b, rp_str.mp r, by rw [rp_str.mp r2], c _ _ _ _ (ex.trans ex2) (rp_bl.mpr rfl) p⟩
theorem w_notInS {c : Nat} {z : Str} {P : Dt → Prop} (p : P (.bl (!decide (c ∈ z.cps.toList)))) : W2 X R (compareOp .NotIn) (.str ⟨#[c]⟩) (.str z) P := fun F H x y Q w rx ry ct =>
  opOf.of op_notIn_sign ⟨c, z, rp_str.mp rx, rp_str.mp ry, ct.here w (rp_bl.mpr rfl) p⟩
theorem w_inS {c : Nat} {z : Str} {P : Dt → Prop} (p : P (.bl (decide (c ∈ z.cps.toList)))) : W2 X R (compareOp .In) (.str ⟨#[c]⟩) (.str z) P := fun F H x y Q w rx ry ct =>
  opOf.of op_in_sign ⟨c, z, rp_str.mp rx, rp_str.mp ry, ct.here w (rp_bl.mpr rfl) p⟩
theorem wc_intS {a : Str} {n : Int} {P : Dt → Prop} (hn : intText? a = some n) (hl : a.length ≤ 640) (p : P (.int n)) : WC X R (.type "int") [.str a] P := fun F H xs Q w r c => by
  obtain ⟨v, rfl, h1⟩ := r.one
  rw [rp_str.mp h1]
  exact crOf.of call_int_str ⟨a, n, rfl, hn, hl, c.here w (rp_int.mpr rfl) p⟩
theorem wc_strI {i : Int} {P : Dt → Prop} (hl : i.natAbs.log2 < 1920) (p : P (.str (toString i))) : WC X R (.type "str") [.int i] P := fun F H xs Q w r c => by
  obtain ⟨v, rfl, h1⟩ := r.one
  rw [rp_int.mp h1]
  exact crOf.of call_str_int ⟨i, rfl, hl, c.here w (rp_str.mpr rfl) p⟩
theorem wsl_str {z : Str} {lo hi : Option Int} {P : Dt → Prop} (hz : z.length ≤ 100000) (p : P (.str (cutS z lo hi))) : WSl X R (.str z) lo hi P := fun F H x Q w r c => by
  rw [rp_str.mp r]
  exact slOf.of sl_str ⟨z, rfl, Nat.le_trans hz (by decide), c.here w (rp_str.mpr rfl) p⟩
/-- for c in text -/
theorem i_str {tg e : Expr} {P : List Dt → Prop} (h : E X R G e fun d => ∃ z : Str, d = .str z ∧ P (z.cps.toList.map fun c => .str ⟨#[c]⟩)) : I X R G tg e P := fun σ F H Q ty c =>
  tiOf.of (pi_str pe_w) (h σ F H _ ty fun v F1 H1 d ex r ⟨z, e, p⟩ => by
    subst e
    refine ⟨z, rp_str.mp r, c _ F1 H1 _ ex (fun F2 H2 sf wf => ?_) p⟩
    refine ⟨fun i hi => ?_, fun i d hd => ?_⟩
    · rw [List.length_map, Array.length_toList] at hi
      exact hi
    · rw [List.getElem?_map] at hd
      cases e : z.cps.toList[i]? with
      | none => rw [e] at hd; cases hd
      | some c0 =>
        rw [e] at hd
        cases hd
        rw [Array.getElem?_toList] at e
        refine ⟨(Array.getElem?_eq_some_iff.mp e).1, fun x H' y => ?_⟩
        obtain ⟨rfl, c1, e1, rfl⟩ := y
        rw [e] at e1
        cases e1
        exact ⟨F2, .refl wf, rp_str.mpr rfl⟩)
/-- [.. for c in text], a row of Bools -/
theorem lc_boolS {tg elt : Expr} {scope : Scope} {vs : List Nat} {l : List Nat} (f : Nat → Bool) (j : Nat) (ha : ∀ c Y, Blk X scope Y → A Y tg (.str ⟨#[c]⟩) [(j, .str ⟨#[c]⟩)]) (hj : j ∈ vs)
    (he : ∀ c Y, Blk X scope Y → E Y R (setsD (wipeD G vs) [(j, .str ⟨#[c]⟩)]) elt fun y => y = .bl (f c)) : Lc X R G tg elt [] scope vs (l.map fun c => .str ⟨#[c]⟩) fun i acc => acc = ((l.map f).take i).map .bl := by
  refine ⟨rfl, fun i d acc hd hacc hl => ?_⟩
  rw [List.getElem?_map] at hd
  cases e : l[i]? with
  | none => rw [e] at hd; cases hd
  | some c =>
    rw [e] at hd
    cases hd
    refine ⟨[(j, .str ⟨#[c]⟩)], ha c, fun p hp => by rw [List.mem_singleton] at hp; rw [hp]; exact hj, fun Y bY => ts_nil ?_⟩
    rw [if_pos rfl]
    intro Z bZ
    refine (he c Z bZ).imp fun y hy => ?_
    rw [hy, hacc, List.take_add_one, List.getElem?_map, e, List.map_append]
    rfl
/-! ### f-strings -/
def EJ (X : Cx) (R : Reg) (G : List Sl) (es : List Expr) (acc : Str) (P : Str → Prop) : Prop := ∀ σ F H (Q : Str → Hp → Prop), Ty X.K R G σ F H → (∀ out F' H', Ext R F H F' H' → P out → Q out H') → tJs (es.map (tOf X)) acc σ H Q
theorem ej_nil {acc : Str} {P : Str → Prop} (p : P acc) : EJ X R G [] acc P := fun σ F H Q ty c => c acc F H (.refl ty.wf) p
theorem ej_cons {e : Expr} {es : List Expr} {acc : Str} {P : Str → Prop} (h : E X R G e fun d => ∃ y, d = .str y ∧ (acc ++ y).length ≤ sizeLine ∧ EJ X R G es (acc ++ y) P) : EJ X R G (e :: es) acc P := fun σ F H Q ty c =>
  h σ F H _ ty fun v F1 H1 d ex r ⟨y, ed, hl, h2⟩ => by
    subst ed
    exact ⟨y, rp_str.mp r, hl, h2 σ F1 H1 Q (ty.ext ex) fun out F2 H2 ex2 p => c out F2 H2 (ex.trans ex2) p⟩
theorem e_fmt {e : Expr} {P : Dt → Prop} (h : E X R G e fun d => (∃ y : Str, d = .str y ∧ y.length ≤ sizeLine ∧ P (.str y)) ∨ ∃ i : Int, d = .int i ∧ i.natAbs.log2 < 1920 ∧ P (.str (toString i))) : E X R G (.FormattedValue e (-1) none pos) P := fun σ F H Q ty c =>
  tOf.of (pe_fmt pe_w) (h σ F H _ ty fun v F1 H1 d ex r h2 => by
    rcases h2 with ⟨y, ed, hl, p⟩ | ⟨i, ed, hl, p⟩
    · subst ed
      exact .inl ⟨y, rp_str.mp r, hl, c _ F1 H1 _ ex (rp_str.mpr rfl) p⟩
    · subst ed
      exact .inr ⟨i, rp_int.mp r, hl, c _ F1 H1 _ ex (rp_str.mpr rfl) p⟩)
theorem pj_w : ∀ {es : List Expr}, PJ X es (es.map (tOf X))
  | [] => .nil
  | _ :: _ => .cons pe_w pj_w
theorem e_joined {v1 v2 : Expr} {rest : List Expr} {P : Dt → Prop} (h : EJ X R G (v1 :: v2 :: rest) Str.empty fun out => P (.str out)) : E X R G (.JoinedStr (v1 :: v2 :: rest) pos) P := fun σ F H Q ty c =>
  tOf.of (pe_joined pj_w) (h σ F H _ ty fun out F1 H1 ex p => c _ F1 H1 _ ex (rp_str.mpr rfl) p)
end
end VS
set_option Elab.async false
set_option linter.all false
set_option maxRecDepth 100000
set_option maxHeartbeats 2000000
/-! enumerate over lists, tuples and texts, from a count on. -/
namespace VS
open PySem PySem.Spec L2 PyProof.Rows
section
variable {prog : Program} {w : World} {A : Around} {E : Value → Shared → Prop} {s : Shared}
theorem enum1_new {v : Value} {o : Obj} {H : Heap → Prop} (B : Begins v o H) :
    Meets (Builtin.«enumerate.__new__» ⟨[.type "enumerate", v], []⟩) (fun _ R s => H s.heap ∧
      R (.ok (.ret (.ref (s.heap.push o).objs.size))) { s with heap := (s.heap.push o).push { cls := .type "enumerate", data := .fields #[.none, .bool false, .ref s.heap.objs.size, rawInt 0, .none, .none] } }) :=
  .of_wp fun prog w A R s h => by
    obtain ⟨hp, g, d, tk, os⟩ := s
    obtain ⟨h1, h⟩ := h
    have hsu := sub_enumerate
    have go : ∀ {A' : Around} {E : Value → Shared → Prop} {Q : Value → Shared → Prop}, Q (.ref hp.objs.size) ⟨hp.push o, g, d, tk, os⟩ → wpAny (model prog w) A' (pyIter v) Q E ⟨hp, g, d, tk, os⟩ := fun q => B.iter prog w _ _ ⟨hp, g, d, tk, os⟩ _ h1 q
    wp_walk using go
    refine wpAny_stack_any fun st => wpAny_pure ?_
    split
    · rename_i c _ _ _ _ _
      cases (c == Value.type "enumerate") <;> (wp_walk using go; exact ⟨_, rfl, h⟩)
    · wp_walk using go
      exact ⟨_, rfl, h⟩
theorem enum1_begins {v : Value} {o : Obj} {H : Heap → Prop} {Q : Value → Shared → Prop} (B : Begins v o H) (h1 : H s.heap)
    (h : ∀ h', IsEnum h' (s.heap.objs.size + 1) s.heap.objs.size 0 .none → h'.get? s.heap.objs.size = some o → h'.objs.size = s.heap.objs.size + 2 →
      (∀ b o, s.heap.get? b = some o → h'.get? b = some o) → Q (.ref (s.heap.objs.size + 1)) { s with heap := h' }) :
    wpAny (model prog w) A (call (.type "enumerate") [v]) Q E s := by
  refine callType_new F.called_enumerate (by decide) (F.typeCall_enumerate_1 _) (F.newCall_enumerate_1 _) (fun obj => F.args_object_init_2 obj _) F.entry_enumerate_new (enum1_new B) ⟨h1, ?_⟩
  have sz : (s.heap.push o).objs.size = s.heap.objs.size + 1 := Heap.size_push ..
  show _ ∧ _
  rw [sz]
  have hen : IsEnum ((s.heap.push o).push { cls := .type "enumerate", data := .fields #[.none, .bool false, .ref s.heap.objs.size, rawInt 0, .none, .none] }) (s.heap.objs.size + 1) s.heap.objs.size 0 .none := by
    have z := Heap.get?_push_size (s.heap.push o) (o := { cls := .type "enumerate", data := .fields #[.none, .bool false, .ref s.heap.objs.size, rawInt 0, .none, .none] }) rfl
    rw [sz] at z
    exact z
  exact ⟨⟨_, hen, rfl⟩, h _ hen (Heap.get?_push_of_some _ (Heap.get?_push_size _ B.free)) (by rw [Heap.size_push, sz]) fun b o x => Heap.get?_push_of_some _ (Heap.get?_push_of_some _ x)⟩
end
/-- pairs of a count and an item -/
def ItE (k0 : Int) (xs : List V) (Src : Hp → Prop) : It :=
  ⟨fun i H => i < xs.length ∧ Src H, fun i H v H' => ∃ T x, v = .ref T ∧ H T = none ∧ H' = upd H T (.tup [.int (k0 + (i : Nat)), x]) ∧ xs[i]? = some x, fun i H => xs.length ≤ i ∧ Src H⟩
theorem turn_enumT {P : Program} {w : World} {K : PySem.W.Frag} {elts : List Expr} {kk : Nat} {tpos : Pos} (k0 : Int) (a e it : Addr) (xs : List V) :
    Turn P w K (.Tuple elts kk tpos) (ItE k0 xs (fun H => SqT K H a xs)) [e, it] e (fun i h => (∃ old, IsEnum h e it (k0 + ((i : Nat) : Int)) old) ∧ h.IsTupleIter it a i ∧ e ≠ it ∧ e ≠ a ∧ a ≠ it ∧ i ≤ xs.length) where
  mem := by simp
  obj := fun i h st b hb => by
    obtain ⟨⟨old, he⟩, ⟨ob, ho, hc, hd⟩, _⟩ := st
    have cs : b = e ∨ b = it := by simpa using hb
    rcases cs with rfl | rfl
    · exact ⟨_, he, fun v q => nomatch q⟩
    · exact ⟨ob, ho, fun v q => by rw [hd] at q; cases q⟩
  keep := fun i h h' st k => by
    obtain ⟨⟨old, he⟩, hi, r⟩ := st
    exact ⟨⟨old, k e (by simp) _ he⟩, (let ⟨ob, q1, q2⟩ := hi; ⟨ob, k it (by simp) ob q1, q2⟩), r⟩
  item := by
    intro X hP hw hK hc i pins s σ H E I hf st hg
    subst hP hw hK
    obtain ⟨⟨old, he⟩, hit, hne, nea, nai, hin⟩ := st
    obtain ⟨hlt, hq⟩ := hg
    obtain ⟨its, rv, p, hz⟩ := I.tuple hq
    obtain ⟨x0, hgx⟩ : ∃ x0, xs[i]? = some x0 := ⟨_, List.getElem?_eq_getElem hlt⟩
    obtain ⟨u0, hu, ru⟩ := rv.get hgx
    have hsz : i < its.toArray.size := by rw [List.size_toArray, ← rv.length]; exact hlt
    have hh : X.A.in1.in1.handled = none := I.ok.hd hc
    have hh : X.A.in1.handled = none := hh
    have hel : e < s.heap.objs.size := Heap.lt_size he
    have hil : it < s.heap.objs.size := by obtain ⟨_, q, _⟩ := hit; exact Heap.lt_size q
    refine wpAny_pyNext_enum_itemC (Draws.tuple (prog := X.prog) (w := X.w) (A := X.A.in1) hh it a nai its.toArray) he ⟨hit, p⟩ hsz hne (by simp [hne, nea]) fun x h' tk hPx ho hs' hT hsz' hk => ?_
    have exu : x = u0 := by
      have h1 : its.toArray[i]? = some u0 := by simpa using hu
      rw [h1] at hPx
      exact (Option.some.inj hPx).symm
    subst exu
    have rx := ru
    have hit' := hs'.1
    refine ⟨_, rfl, wpAny_letOwnedTupleGo_enum (s := { s with heap := h', toks := tk + 1 }) ho fun h'' he' sb => ?_⟩
    have hT2 : h''.get? s.heap.objs.size = some _ := (sb.2 _ (Nat.ne_of_gt hel)).trans hT
    have new : ObjOk X.prog X.w (upd H s.heap.objs.size (.tup [.int (k0 + (i : Nat)), x0])) h'' s.heap.objs.size (.tup [.int (k0 + (i : Nat)), x0]) := ⟨by show 2 ≤ sizeLine; decide, _, .cons ⟨_, rfl⟩ (.cons rx .nil), ⟨_, hT2, rfl, _, rfl⟩⟩
    have I1 : Inv X pins σ (upd H s.heap.objs.size (.tup [.int (k0 + (i : Nat)), x0])) { s with heap := h'', toks := tk + 1 } :=
      I.turnedNew (ch := [e, it]) (fun b ob hb q => (sb.2 b (fun z' => hb (by simp [z']))).trans (hk b ob (fun z' => hb (by simp [z'])) (fun z' => hb (by simp [z'])) q)) hf (Nat.le_refl _) new
    refine ⟨.ref s.heap.objs.size, _, I1, rfl, ⟨_, x0, rfl, I.hok.fresh (Nat.le_refl _), rfl, hgx⟩, ⟨⟨x, ?_⟩, (let ⟨ob, q1, q2⟩ := hit'; ⟨ob, (sb.2 it (Ne.symm hne)).trans q1, q2⟩), hne, nea, nai, hlt⟩, fun b hb => ?_⟩
    · have e1 : k0 + ((i + 1 : Nat) : Int) = k0 + (i : Int) + 1 := by omega
      rw [e1]
      exact he'
    · have cs : b = e ∨ b = it := by simpa using hb
      have hlb : b < s.heap.objs.size := by rcases cs with rfl | rfl <;> assumption
      rw [upd_ne (Nat.ne_of_lt hlb)]
      exact (hf b hb).1
  done := by
    intro X hP hw hK hc i pins s σ H E I hf st hg
    subst hP hw hK
    obtain ⟨⟨old, he⟩, hit, hne, nea, nai, hin⟩ := st
    obtain ⟨hge, hq⟩ := hg
    obtain ⟨its, rv, p, hz⟩ := I.tuple hq
    have ei : i = its.toArray.size := by rw [List.size_toArray, ← rv.length]; omega
    subst ei
    have hh : X.A.in1.handled = none := I.ok.hd hc
    obtain ⟨f0, f1, f2, f3, f4, f5⟩ := hf it (by simp)
    exact wpAny_pyNext_enum_endD (Draws.tuple (prog := X.prog) (w := X.w) (A := X.A.in1) hh it a nai its.toArray) he ⟨hit, p⟩ fun h' eb => ⟨rfl, I.turned (t' := s.toks) (fun b ob hb q => eb b ob hb q) f0 f1 f3 f4 f5⟩
  self := fun A i s Q E st h => let ⟨⟨_, he⟩, _⟩ := st; wpAny_pyIter_enum he h
theorem turn_enumL {P : Program} {w : World} {K : PySem.W.Frag} {elts : List Expr} {kk : Nat} {tpos : Pos} (k0 : Int) (a e it : Addr) (xs : List V) :
    Turn P w K (.Tuple elts kk tpos) (ItE k0 xs (fun H => SqL K H a xs)) [e, it] e (fun i h => (∃ old, IsEnum h e it (k0 + ((i : Nat) : Int)) old) ∧ h.IsListIter it a i ∧ e ≠ it ∧ e ≠ a ∧ a ≠ it ∧ i ≤ xs.length) where
  mem := by simp
  obj := fun i h st b hb => by
    obtain ⟨⟨old, he⟩, ⟨ob, ho, hc, hd⟩, _⟩ := st
    have cs : b = e ∨ b = it := by simpa using hb
    rcases cs with rfl | rfl
    · exact ⟨_, he, fun v q => nomatch q⟩
    · exact ⟨ob, ho, fun v q => by rw [hd] at q; cases q⟩
  keep := fun i h h' st k => by
    obtain ⟨⟨old, he⟩, hi, r⟩ := st
    exact ⟨⟨old, k e (by simp) _ he⟩, (let ⟨ob, q1, q2⟩ := hi; ⟨ob, k it (by simp) ob q1, q2⟩), r⟩
  item := by
    intro X hP hw hK hc i pins s σ H E I hf st hg
    subst hP hw hK
    obtain ⟨⟨old, he⟩, hit, hne, nea, nai, hin⟩ := st
    obtain ⟨hlt, hq⟩ := hg
    obtain ⟨its, rv, p0, hz⟩ := I.list hq
    have p := p0.isList
    obtain ⟨x0, hgx⟩ : ∃ x0, xs[i]? = some x0 := ⟨_, List.getElem?_eq_getElem hlt⟩
    obtain ⟨u0, hu, ru⟩ := rv.get hgx
    have hsz : i < its.toArray.size := by rw [List.size_toArray, ← rv.length]; exact hlt
    have hh : X.A.in1.in1.handled = none := I.ok.hd hc
    have hh : X.A.in1.handled = none := hh
    have hel : e < s.heap.objs.size := Heap.lt_size he
    have hil : it < s.heap.objs.size := by obtain ⟨_, q, _⟩ := hit; exact Heap.lt_size q
    refine wpAny_pyNext_enum_itemC (Draws.list (prog := X.prog) (w := X.w) (A := X.A.in1) hh it a nai its.toArray) he ⟨hit, p⟩ hsz hne (by simp [hne, nea]) fun x h' tk hPx ho hs' hT hsz' hk => ?_
    have exu : x = u0 := by
      have h1 : its.toArray[i]? = some u0 := by simpa using hu
      rw [h1] at hPx
      exact (Option.some.inj hPx).symm
    subst exu
    have rx := ru
    have hit' := hs'.1
    refine ⟨_, rfl, wpAny_letOwnedTupleGo_enum (s := { s with heap := h', toks := tk + 1 }) ho fun h'' he' sb => ?_⟩
    have hT2 : h''.get? s.heap.objs.size = some _ := (sb.2 _ (Nat.ne_of_gt hel)).trans hT
    have new : ObjOk X.prog X.w (upd H s.heap.objs.size (.tup [.int (k0 + (i : Nat)), x0])) h'' s.heap.objs.size (.tup [.int (k0 + (i : Nat)), x0]) := ⟨by show 2 ≤ sizeLine; decide, _, .cons ⟨_, rfl⟩ (.cons rx .nil), ⟨_, hT2, rfl, _, rfl⟩⟩
    have I1 : Inv X pins σ (upd H s.heap.objs.size (.tup [.int (k0 + (i : Nat)), x0])) { s with heap := h'', toks := tk + 1 } :=
      I.turnedNew (ch := [e, it]) (fun b ob hb q => (sb.2 b (fun z' => hb (by simp [z']))).trans (hk b ob (fun z' => hb (by simp [z'])) (fun z' => hb (by simp [z'])) q)) hf (Nat.le_refl _) new
    refine ⟨.ref s.heap.objs.size, _, I1, rfl, ⟨_, x0, rfl, I.hok.fresh (Nat.le_refl _), rfl, hgx⟩, ⟨⟨x, ?_⟩, (let ⟨ob, q1, q2⟩ := hit'; ⟨ob, (sb.2 it (Ne.symm hne)).trans q1, q2⟩), hne, nea, nai, hlt⟩, fun b hb => ?_⟩
    · have e1 : k0 + ((i + 1 : Nat) : Int) = k0 + (i : Int) + 1 := by omega
      rw [e1]
      exact he'
    · have cs : b = e ∨ b = it := by simpa using hb
      have hlb : b < s.heap.objs.size := by rcases cs with rfl | rfl <;> assumption
      rw [upd_ne (Nat.ne_of_lt hlb)]
      exact (hf b hb).1
  done := by
    intro X hP hw hK hc i pins s σ H E I hf st hg
    subst hP hw hK
    obtain ⟨⟨old, he⟩, hit, hne, nea, nai, hin⟩ := st
    obtain ⟨hge, hq⟩ := hg
    obtain ⟨its, rv, p0, hz⟩ := I.list hq
    have p := p0.isList
    have ei : i = its.toArray.size := by rw [List.size_toArray, ← rv.length]; omega
    subst ei
    have hh : X.A.in1.handled = none := I.ok.hd hc
    obtain ⟨f0, f1, f2, f3, f4, f5⟩ := hf it (by simp)
    exact wpAny_pyNext_enum_endD (Draws.list (prog := X.prog) (w := X.w) (A := X.A.in1) hh it a nai its.toArray) he ⟨hit, p⟩ fun h' eb => ⟨rfl, I.turned (t' := s.toks) (fun b ob hb q => eb b ob hb q) f0 f1 f3 f4 f5⟩
  self := fun A i s Q E st h => let ⟨⟨_, he⟩, _⟩ := st; wpAny_pyIter_enum he h
theorem turn_enumS {P : Program} {w : World} {K : PySem.W.Frag} {elts : List Expr} {kk : Nat} {tpos : Pos} (k0 : Int) (z : Str) (tz : Tok) (e it : Addr) :
    Turn P w K (.Tuple elts kk tpos) (ItE k0 (z.cps.toList.map fun c => V.str ⟨#[c]⟩) (fun _ => True)) [e, it] e (fun i h => (∃ old, IsEnum h e it (k0 + ((i : Nat) : Int)) old) ∧ h.IsStrIter it (strIterType z) z tz i ∧ e ≠ it ∧ i ≤ z.cps.size) where
  mem := by simp
  obj := fun i h st b hb => by
    obtain ⟨⟨old, he⟩, ⟨ob, ho, hc, hd⟩, _⟩ := st
    have cs : b = e ∨ b = it := by simpa using hb
    rcases cs with rfl | rfl
    · exact ⟨_, he, fun v q => nomatch q⟩
    · exact ⟨ob, ho, fun v q => by rw [hd] at q; cases q⟩
  keep := fun i h h' st k => by
    obtain ⟨⟨old, he⟩, hi, r⟩ := st
    exact ⟨⟨old, k e (by simp) _ he⟩, (let ⟨ob, q1, q2⟩ := hi; ⟨ob, k it (by simp) ob q1, q2⟩), r⟩
  item := by
    intro X hP hw hK hc i pins s σ H E I hf st hg
    subst hP hw hK
    obtain ⟨⟨old, he⟩, hit, hne, hin⟩ := st
    obtain ⟨hlt, hq⟩ := hg
    have hcl : i < z.cps.size := by simpa using hlt
    have hcx : z.cps.toList[i]? = some z.cps[i] := by simp [hcl]
    have hgx : (z.cps.toList.map fun c => V.str ⟨#[c]⟩)[i]? = some (V.str ⟨#[z.cps[i]]⟩) := by rw [List.getElem?_map, hcx]; rfl
    have hh : X.A.in1.in1.handled = none := I.ok.hd hc
    have hh : X.A.in1.handled = none := hh
    have hel : e < s.heap.objs.size := Heap.lt_size he
    have hil : it < s.heap.objs.size := by obtain ⟨_, q, _⟩ := hit; exact Heap.lt_size q
    refine wpAny_pyNext_enum_itemC (Draws.text (prog := X.prog) (w := X.w) (A := X.A.in1) hh it z tz) he hit hcl hne (by simp [hne]) fun x h' tk hPx ho hs' hT hsz' hk => ?_
    obtain ⟨cc, uu, hcc, rfl⟩ := hPx
    have ecc : cc = z.cps[i] := by
      rw [Array.getElem?_eq_getElem hcl] at hcc
      exact (Option.some.inj hcc).symm
    subst ecc
    have rx : RelV (V.str ⟨#[z.cps[i]]⟩) (Value.str ⟨#[z.cps[i]]⟩ uu) := ⟨_, rfl⟩
    have hit' := hs'
    refine ⟨_, rfl, wpAny_letOwnedTupleGo_enum (s := { s with heap := h', toks := tk + 1 }) ho fun h'' he' sb => ?_⟩
    have hT2 : h''.get? s.heap.objs.size = some _ := (sb.2 _ (Nat.ne_of_gt hel)).trans hT
    have new : ObjOk X.prog X.w (upd H s.heap.objs.size (.tup [.int (k0 + (i : Nat)), (V.str ⟨#[z.cps[i]]⟩)])) h'' s.heap.objs.size (.tup [.int (k0 + (i : Nat)), (V.str ⟨#[z.cps[i]]⟩)]) := ⟨by show 2 ≤ sizeLine; decide, _, .cons ⟨_, rfl⟩ (.cons rx .nil), ⟨_, hT2, rfl, _, rfl⟩⟩
    have I1 : Inv X pins σ (upd H s.heap.objs.size (.tup [.int (k0 + (i : Nat)), (V.str ⟨#[z.cps[i]]⟩)])) { s with heap := h'', toks := tk + 1 } :=
      I.turnedNew (ch := [e, it]) (fun b ob hb q => (sb.2 b (fun z' => hb (by simp [z']))).trans (hk b ob (fun z' => hb (by simp [z'])) (fun z' => hb (by simp [z'])) q)) hf (Nat.le_refl _) new
    refine ⟨.ref s.heap.objs.size, _, I1, rfl, ⟨_, (V.str ⟨#[z.cps[i]]⟩), rfl, I.hok.fresh (Nat.le_refl _), rfl, hgx⟩, ⟨⟨(Value.str ⟨#[z.cps[i]]⟩ uu), ?_⟩, (let ⟨ob, q1, q2⟩ := hit'; ⟨ob, (sb.2 it (Ne.symm hne)).trans q1, q2⟩), hne, hcl⟩, fun b hb => ?_⟩
    · have e1 : k0 + ((i + 1 : Nat) : Int) = k0 + (i : Int) + 1 := by omega
      rw [e1]
      exact he'
    · have cs : b = e ∨ b = it := by simpa using hb
      have hlb : b < s.heap.objs.size := by rcases cs with rfl | rfl <;> assumption
      rw [upd_ne (Nat.ne_of_lt hlb)]
      exact (hf b hb).1
  done := by
    intro X hP hw hK hc i pins s σ H E I hf st hg
    subst hP hw hK
    obtain ⟨⟨old, he⟩, hit, hne, hin⟩ := st
    obtain ⟨hge, hq⟩ := hg
    have ei : i = z.cps.size := by simp at hge; omega
    subst ei
    have hh : X.A.in1.handled = none := I.ok.hd hc
    obtain ⟨f0, f1, f2, f3, f4, f5⟩ := hf it (by simp)
    exact wpAny_pyNext_enum_endD (Draws.text (prog := X.prog) (w := X.w) (A := X.A.in1) hh it z tz) he hit fun h' eb => ⟨rfl, I.turned (t' := s.toks) (fun b ob hb q => eb b ob hb q) f0 f1 f3 f4 f5⟩
  self := fun A i s Q E st h => let ⟨⟨_, he⟩, _⟩ := st; wpAny_pyIter_enum he h
section
variable {X : Cx} {R : Reg} {G : List Sl} {pos : Pos}
def enumD (k0 : Int) (ds : List Dt) : List Dt := ds.mapIdx fun i d => .tup [.int (k0 + (i : Nat)), d]
theorem enumD_get {k0 : Int} {ds : List Dt} {i : Nat} {d : Dt} (h : (enumD k0 ds)[i]? = some d) : ∃ x, ds[i]? = some x ∧ d = .tup [.int (k0 + (i : Nat)), x] := by
  unfold enumD at h
  rw [List.getElem?_mapIdx] at h
  cases e : ds[i]? with
  | none => rw [e] at h; cases h
  | some x => rw [e] at h; exact ⟨x, rfl, (Option.some.inj h).symm⟩
theorem enumD_len (k0 : Int) (ds : List Dt) : (enumD k0 ds).length = ds.length := by simp [enumD]
/-- what is walked, as data -/
def WkD : Dt → Option (List Dt)
  | .lst ds => some ds
  | .tup ds => some ds
  | .str z => some (z.cps.toList.map fun c => .str ⟨#[c]⟩)
  | _ => none
theorem itd_enum {F1 : Hp} {k0 : Int} {ds : List Dt} {vs : List V} {Src : Hp → Prop} (rl : RpL X.K F1 ds vs) (hs : ∀ F H, Same F1 F → Wf R F H → Src H) : Itd X.K R F1 (ItE k0 vs Src) (enumD k0 ds) := fun F2 H2 sf wf => by
  have hS := hs F2 H2 sf wf
  refine ⟨fun i hi => ⟨by rw [enumD_len] at hi; rw [← rl.length]; exact hi, hS⟩, fun i d hd => ?_⟩
  obtain ⟨x, hx, rfl⟩ := enumD_get hd
  obtain ⟨v, hv, rv⟩ := rl.get hx
  refine ⟨⟨(List.getElem?_eq_some_iff.mp hv).1, hS⟩, fun y H' hy => ?_⟩
  obtain ⟨T, x', rfl, hT, rfl, g⟩ := hy
  rw [hv] at g
  cases g
  exact ⟨_, wf.made hT, rp_tup_new (wf.fh.free hT) (.cons (rp_int.mpr rfl) (.cons (rv.mono sf) .nil))⟩
theorem fp_new {pins : List (Addr × Obj)} {σ : L2.St} {H : Hp} {s : Shared} (I : Inv X pins σ H s) {b : Addr} (hb : b ∈ [s.heap.objs.size + 1, s.heap.objs.size]) : FpOk X pins H b := by
  have cs : b = s.heap.objs.size + 1 ∨ b = s.heap.objs.size := by simpa using hb
  have hle : s.heap.objs.size ≤ b := by rcases cs with rfl | rfl <;> omega
  exact I.fpOk hle (I.hok.fresh hle)
/-- the head of a walk: enumerate's new cells -/
theorem enum_pie {pins : List (Addr × Obj)} {σ : L2.St} {F H : Hp} {s : Shared} {elts : List Expr} {kk : Nat} {tpos : Pos} {Q : It → Hp → Prop} {k0 : Int} {v : V} {u : Value} {d : Dt} {ds : List Dt} (I : Inv X pins σ H s) (wf : Wf R F H) (r : Rp X.K F d v) (ru : RelV v u) (hd : WkD d = some ds)
    (call1 : ∀ {o : Obj} {Hs : Heap → Prop} {Q' : Value → Shared → Prop}, Begins u o Hs → Hs s.heap → (∀ h', IsEnum h' (s.heap.objs.size + 1) s.heap.objs.size k0 .none → h'.get? s.heap.objs.size = some o → h'.objs.size = s.heap.objs.size + 2 → (∀ b o, s.heap.get? b = some o → h'.get? b = some o) → Q' (.ref (s.heap.objs.size + 1)) { s with heap := h' }) → wpAny (model X.prog X.w) X.A (call (.type "enumerate") (u :: args)) Q' X.xe s)
    (c : ∀ J, Itd X.K R F J (enumD k0 ds) → Q J H) : wpAny (model X.prog X.w) X.A (call (.type "enumerate") (u :: args)) (fun v s1 => wpAny (model X.prog X.w) X.A (pyIter v) (PIE X pins σ (.Tuple elts kk tpos) Q) X.xe s1) X.xe s := by
  cases d with
  | lst xs =>
    cases hd
    obtain ⟨a, vs, rfl, sq, rl⟩ := rp_lst.mp r
    cases ru
    have sq1 : SqL X.K H a vs := SqL.of (wf.fh _ _ sq)
    obtain ⟨its, rv, p, hz⟩ := I.list sq1
    refine call1 (begins_list a its.toArray) p.isList fun h' he hit hsz hk => wpAny_pyIter_enum he ?_
    have I2 : Inv X pins σ H { s with heap := h' } := I.kept (t' := s.toks) hk
    have hal : a < s.heap.objs.size := by obtain ⟨o, q, _⟩ := p.isList; exact Heap.lt_size q
    exact ⟨s.heap.objs.size + 1, [s.heap.objs.size + 1, s.heap.objs.size], _, _, H, rfl, I2, turn_enumL k0 a (s.heap.objs.size + 1) s.heap.objs.size vs, ⟨⟨.none, by simpa using he⟩, ⟨_, hit, rfl, rfl⟩, Nat.succ_ne_self _, Nat.ne_of_gt (Nat.lt_succ_of_lt hal), Nat.ne_of_lt hal, Nat.zero_le _⟩, fun b hb => fp_new I hb, c _ (itd_enum rl fun F2 H2 sf w2 => SqL.of (w2.fh _ _ (sf _ _ sq)))⟩
  | tup xs =>
    cases hd
    obtain ⟨a, vs, rfl, sq, rl⟩ := rp_tup.mp r
    cases ru
    have sq1 : SqT X.K H a vs := sq_t wf.fh sq
    obtain ⟨its, rv, p, hz⟩ := I.tuple sq1
    refine call1 (begins_tuple a its.toArray) p fun h' he hit hsz hk => wpAny_pyIter_enum he ?_
    have I2 : Inv X pins σ H { s with heap := h' } := I.kept (t' := s.toks) hk
    have hal : a < s.heap.objs.size := p.lt
    exact ⟨s.heap.objs.size + 1, [s.heap.objs.size + 1, s.heap.objs.size], _, _, H, rfl, I2, turn_enumT k0 a (s.heap.objs.size + 1) s.heap.objs.size vs, ⟨⟨.none, by simpa using he⟩, ⟨_, hit, rfl, rfl⟩, Nat.succ_ne_self _, Nat.ne_of_gt (Nat.lt_succ_of_lt hal), Nat.ne_of_lt hal, Nat.zero_le _⟩, fun b hb => fp_new I hb, c _ (itd_enum rl fun F2 H2 sf w2 => sq_t w2.fh (sq_t sf sq))⟩
  | str z =>
    cases hd
    have ev := rp_str.mp r
    subst ev
    obtain ⟨tz, rfl⟩ := ru
    refine call1 (begins_text z tz) trivial fun h' he hit hsz hk => wpAny_pyIter_enum he ?_
    have I2 : Inv X pins σ H { s with heap := h' } := I.kept (t' := s.toks) hk
    have rl : ∀ l : List Nat, RpL X.K F (l.map fun c => Dt.str ⟨#[c]⟩) (l.map fun c => V.str ⟨#[c]⟩) := fun l => by
      induction l with
      | nil => exact .nil
      | cons c l ih => exact .cons (rp_str.mpr rfl) ih
    exact ⟨s.heap.objs.size + 1, [s.heap.objs.size + 1, s.heap.objs.size], _, _, H, rfl, I2, turn_enumS k0 z tz (s.heap.objs.size + 1) s.heap.objs.size, ⟨⟨.none, by simpa using he⟩, ⟨_, hit, rfl, rfl⟩, Nat.succ_ne_self _, Nat.zero_le _⟩, fun b hb => fp_new I hb, c _ (itd_enum (rl _) fun F2 H2 sf w2 => trivial)⟩
  | _ => cases hd
/-- for i, x in enumerate(e) -/
theorem i_enum {e : Expr} {p tpos : Pos} {elts : List Expr} {kk : Nat} {P : List Dt → Prop} (hg : Gl X "enumerate") (hm : X.mg "enumerate" = none) (h : EA X R G [e] fun ds => ∃ d xs, ds = [d] ∧ WkD d = some xs ∧ P (enumD 0 xs))
    (hs : starEach [e] X.env = [(false, eval e X.env)] := by rfl) : I X R G (.Tuple elts kk tpos) (.Call (.Name "enumerate" p) [e] [] pos) P := fun σ F H Q ty c => by
  have ht := h σ F H (fun vs H1 => ∃ v d xs F1, vs = [v] ∧ Ext R F H F1 H1 ∧ Rp X.K F1 d v ∧ WkD d = some xs ∧ P (enumD 0 xs)) ty fun vs F1 H1 ds ex r ⟨d, xs, ed, hd, pp⟩ => by
    subst ed
    obtain ⟨v, t, rfl, r1, r2⟩ := r.of_cons
    obtain rfl := r2.of_nil
    exact ⟨v, d, xs, F1, rfl, ex, r1, hd, pp⟩
  unfold tiOf
  intro pins s I
  refine Call_ (ld_blt I hg hm boot_enumerate (PyProof.Rows.callWith_type1 (thn (pa_w.run pos pins s σ H _ I ht) fun us s1 ⟨vs, H1, I1, r1, q1⟩ => ?_) hs rfl))
  obtain ⟨v, d, xs, F1, rfl, ex, rd, hd, pp⟩ := q1
  obtain ⟨u, rest, rfl, ru, rr⟩ : ∃ u rest, us = u :: rest ∧ RelV v u ∧ rest = [] := by
    cases r1 with
    | cons a b => cases b; exact ⟨_, _, rfl, a, rfl⟩
  subst rr
  exact enum_pie (args := []) I1 ex.wf rd ru hd (fun B h1 k => enum1_begins B h1 k) fun J it => c J F1 H1 _ ex it pp
/-- for i, x in enumerate(e, n) -/
theorem i_enumK {e e2 : Expr} {p tpos : Pos} {elts : List Expr} {kk : Nat} {P : List Dt → Prop} (hg : Gl X "enumerate") (hm : X.mg "enumerate" = none) (h : EA X R G [e, e2] fun ds => ∃ d xs k0, ds = [d, .int k0] ∧ WkD d = some xs ∧ (-(2 ^ 62) ≤ k0 ∧ k0 < 2 ^ 62) ∧ P (enumD k0 xs))
    (hs : starEach [e, e2] X.env = (false, eval e X.env) :: starEach [e2] X.env := by rfl) (hpl : (backTo pos (starEach [e2] X.env)).any (·.1) = false := by rfl) : I X R G (.Tuple elts kk tpos) (.Call (.Name "enumerate" p) [e, e2] [] pos) P := fun σ F H Q ty c => by
  have ht := h σ F H (fun vs H1 => ∃ v d xs k0 F1, vs = [v, .int k0] ∧ Ext R F H F1 H1 ∧ Rp X.K F1 d v ∧ WkD d = some xs ∧ (-(2 ^ 62) ≤ k0 ∧ k0 < 2 ^ 62) ∧ P (enumD k0 xs)) ty fun vs F1 H1 ds ex r ⟨d, xs, k0, ed, hd, hk, pp⟩ => by
    subst ed
    obtain ⟨v, t, rfl, r1, r2⟩ := r.of_cons
    obtain ⟨v2, t2, rfl, r3, r4⟩ := r2.of_cons
    obtain rfl := r4.of_nil
    obtain rfl := rp_int.mp r3
    exact ⟨v, d, xs, k0, F1, rfl, ex, r1, hd, hk, pp⟩
  unfold tiOf
  intro pins s I
  refine Call_ (ld_blt I hg hm boot_enumerate (PyProof.Rows.callWith_type1 (thn (pa_w.run pos pins s σ H _ I ht) fun us s1 ⟨vs, H1, I1, r1, q1⟩ => ?_) hs hpl))
  obtain ⟨v, d, xs, k0, F1, rfl, ex, rd, hd, hk, pp⟩ := q1
  obtain ⟨u, t, rfl, ru⟩ : ∃ u t, us = [u, .int k0 t] ∧ RelV v u := by
    cases r1 with
    | cons a b =>
      cases b with
      | cons a2 b2 =>
        cases b2
        obtain ⟨t, rfl⟩ := a2
        exact ⟨_, t, rfl, a⟩
  exact enum_pie (args := [.int k0 t]) I1 ex.wf rd ru hd (fun B h1 k => enum_begins B h1 (by omega) (by omega) k) fun J it => c J F1 H1 _ ex it pp
end
end VS
set_option Elab.async false
set_option linter.all false
namespace VS
open PySem PySem.Spec L2
theorem starts_pre {l p : List Nat} : Txt.startswith (SX.S l) (SX.S p) = decide (l.take p.length = p) := by
  unfold Txt.startswith
  rw [StrLaws.subAt_eq, List.drop_zero, SX.S_len, SX.S_len]
  show (decide (0 + p.length ≤ l.length) && (l.take p.length == p)) = _
  by_cases h : l.take p.length = p
  · have hl : p.length ≤ l.length := by
      have := congrArg List.length h
      rw [List.length_take] at this
      omega
    rw [decide_eq_true h, decide_eq_true (by omega), h]
    simp
  · rw [decide_eq_false h]
    have : (l.take p.length == p) = false := by
      cases hb : l.take p.length == p
      · rfl
      · exact absurd (eq_of_beq hb) h
    rw [this, Bool.and_false]
theorem numL_head {n : Nat} (h : 0 < n) : (TL.numL n).head? ≠ some 48 := by
  induction n using Nat.strongRecOn with
  | _ n ih =>
    by_cases hn : n < 10
    · rw [TL.numL_lt hn]
      intro e
      have := Option.some.inj e
      omega
    · rw [TL.numL_step (by omega), List.head?_append]
      have hd := ih (n / 10) (by omega) (by omega)
      have hne := TL.numL_ne (n / 10)
      cases e : (TL.numL (n / 10)).head? with
      | none => exact absurd (List.head?_eq_none_iff.mp e) hne
      | some c =>
        rw [e] at hd
        exact hd
end VS
set_option Elab.async false
set_option linter.all false
set_option maxRecDepth 100000
/-! small tactics: sizes of ints, preconditions. -/
namespace VS
open PySem PySem.Spec L2
theorem sz_lit (i : Int) : i.natAbs < 2 ^ (i.natAbs.log2 + 1) := Nat.lt_log2_self
theorem SzR.one {B : Nat} {r : Int × Int} (h : SzR B r) : r.1.natAbs < 2 ^ B := h.1
theorem SzR.two {B : Nat} {r : Int × Int} (h : SzR B r) : r.2.natAbs < 2 ^ B := h.2
theorem sz_mkR1 {n d : Int} {B : Nat} (hd : d ≠ 0) (h : n.natAbs < 2 ^ B) : (mkR n d).1.natAbs < 2 ^ B := Nat.lt_of_le_of_lt (mkR_le1 hd) h
theorem sz_mkR2 {n d : Int} {B : Nat} (hd : d ≠ 0) (h : d.natAbs < 2 ^ B) : (mkR n d).2.natAbs < 2 ^ B := Nat.lt_of_le_of_lt (mkR_le2 hd) h
theorem sz_add2 {a b : Nat} {i j : Int} (ha : i.natAbs < 2 ^ a) (hb : j.natAbs < 2 ^ b) : (i + j).natAbs < 2 ^ (max a b + 1) := sz_add (sz_up ha (Nat.le_max_left a b)) (sz_up hb (Nat.le_max_right a b))
theorem sz_sub2 {a b : Nat} {i j : Int} (ha : i.natAbs < 2 ^ a) (hb : j.natAbs < 2 ^ b) : (i - j).natAbs < 2 ^ (max a b + 1) := sz_sub (sz_up ha (Nat.le_max_left a b)) (sz_up hb (Nat.le_max_right a b))
theorem mulOk' {a b : Nat} {i j : Int} (ha : i.natAbs < 2 ^ a) (hb : j.natAbs < 2 ^ b) (h : Nat.ble (a + b) 900000 = true) : CMulW i j := mulOk ha hb (Nat.le_of_ble_eq_true h)
theorem sz_up' {a b : Nat} {i : Int} (ha : i.natAbs < 2 ^ a) (h : Nat.ble a b = true) : i.natAbs < 2 ^ b := sz_up ha (Nat.le_of_ble_eq_true h)
theorem szr_mk {B : Nat} {x y : Int} (h1 : x.natAbs < 2 ^ B) (h2 : y.natAbs < 2 ^ B) : SzR B (x, y) := ⟨h1, h2⟩
theorem divA_ok {a : Nat} {i j : Int} (h0 : j ≠ 0) (h : j.natAbs < 2 ^ a) (ha : Nat.ble a 9000 = true) : CDivA i j := by
  refine ⟨h0, ?_⟩
  have h2 := Nat.le_of_ble_eq_true ha
  have h1 : j.natAbs < 2 ^ 9000 := Nat.lt_of_lt_of_le h (Nat.pow_le_pow_right (by decide) h2)
  exact PySem.Flt.log2_lt_of (by decide) h1
end VS
set_option Elab.async false
set_option linter.all false
set_option maxRecDepth 100000
/-! plain: words and their shares. -/
namespace VS
open PySem PySem.Spec L2
def ph_take : Ph := fun ds q _ => ∃ n : Int, ds = [.int n] ∧ (0 < n ∧ n.natAbs.log2 < 9000) ∧ ∀ v : Int, 0 ≤ v → v < n → q (.int v)
theorem u_take {n : Int} {q : Dt → Prop} {x : XD} (h : 0 < n ∧ n.natAbs.log2 < 9000) (p : ∀ v : Int, 0 ≤ v → v < n → q (.int v)) : ph_take [.int n] q x := ⟨n, rfl, h, p⟩
/-! compare -/
def cmpR (a b : Int × Int) : Int := if a.1 * b.2 - b.1 * a.2 = 0 then 0 else if 0 < a.1 * b.2 - b.1 * a.2 then 1 else -1
def ph_compare : Ph := fun ds q _ => ∃ (a b : Int × Int) (B : Nat), ds = [ratD a, ratD b] ∧ (SzR B a ∧ SzR B b ∧ B ≤ 100000) ∧ q (.int (cmpR a b))
theorem u_compare {a b : Int × Int} {B : Nat} {q : Dt → Prop} {x : XD} (h : SzR B a ∧ SzR B b ∧ B ≤ 100000) (p : q (.int (cmpR a b))) : ph_compare [ratD a, ratD b] q x := ⟨a, b, B, rfl, h, p⟩
/-! is_share -/
def isShare (n d : Int) : Bool := decide (1 ≤ d) && ((decide (0 ≤ n) && decide (n ≤ d)) && decide ((Int.gcd n d : Int) = 1))
def ph_is_share : Ph := fun ds q _ => ∃ n d, ds = [.tup [.int n, .int d]] ∧ q (.bl (isShare n d))
theorem u_is_share {n d : Int} {q : Dt → Prop} {x : XD} (_ : True) (p : q (.bl (isShare n d))) : ph_is_share [.tup [.int n, .int d]] q x := ⟨n, d, rfl, p⟩
/-! _law_less -/
def lessR (a b : Int × Int) : Bool := decide (a.1 * b.2 < b.1 * a.2)
def ph__law_less : Ph := fun ds q _ => ∃ (a b : Int × Int) (B : Nat), ds = [ratD a, ratD b] ∧ (SzR B a ∧ SzR B b ∧ B ≤ 100000) ∧ q (.bl (lessR a b))
theorem u__law_less {a b : Int × Int} {B : Nat} {q : Dt → Prop} {x : XD} (h : SzR B a ∧ SzR B b ∧ B ≤ 100000) (p : q (.bl (lessR a b))) : ph__law_less [ratD a, ratD b] q x := ⟨a, b, B, rfl, h, p⟩
/-! _law_share -/
def ph__law_share : Ph := fun ds q _ => ∃ m : Int, ds = [.int m] ∧ (0 < m ∧ m ≤ 10 ^ 31) ∧ ∀ r : Int × Int, IsR r → SzR 110 r → 0 ≤ r.1 → r.1 ≤ r.2 → r.2 ≤ m → q (ratD r)
theorem u__law_share {m : Int} {q : Dt → Prop} {x : XD} (h : 0 < m ∧ m ≤ 10 ^ 31) (p : ∀ r : Int × Int, IsR r → SzR 110 r → 0 ≤ r.1 → r.1 ≤ r.2 → r.2 ≤ m → q (ratD r)) : ph__law_share [.int m] q x := ⟨m, rfl, h, p⟩
theorem share_pre {n d : Int} (h0 : 0 ≤ n) (h1 : n ≤ d) (h2 : 1 ≤ d) : 0 ≤ (mkR n d).1 ∧ (mkR n d).1 ≤ (mkR n d).2 := by
  obtain ⟨ir, e⟩ := mkR_spec (n := n) (d := d) (by omega)
  generalize mkR n d = r at *
  have p := ir.1
  constructor
  · have h : 0 ≤ r.1 * d := by rw [e]; exact Int.mul_nonneg h0 (by omega)
    exact Int.nonneg_of_mul_nonneg_left h (by omega)
  · have h : r.1 * d ≤ r.2 * d := by rw [e, Int.mul_comm n]; exact Int.mul_le_mul_of_nonneg_left h1 (by omega)
    exact Int.le_of_mul_le_mul_right h (by omega)
/-! read_number -/
def dg : List Nat := [48, 49, 50, 51, 52, 53, 54, 55, 56, 57]
def rdNum (l : List Nat) (most : Int) : Int := if l = [] ∨ most < l.length ∨ (∃ c ∈ l, c ∉ dg) then -1 else if l.head? = some 48 ∧ 1 < l.length then -1 else ((NumText.digitsVal l : Nat) : Int)
def ph_read_number : Ph := fun ds q _ => ∃ (l : List Nat) (most : Int), ds = [.str (SX.S l), .int most] ∧ (l.length ≤ 90000 ∧ most ≤ 600) ∧ q (.int (rdNum l most))
theorem u_read_number {l : List Nat} {most : Int} {q : Dt → Prop} {x : XD} (h : l.length ≤ 90000 ∧ most ≤ 600) (p : q (.int (rdNum l most))) : ph_read_number [.str (SX.S l), .int most] q x := ⟨l, most, rfl, h, p⟩
/-! read_share -/
def okSh (n d : Int) : Bool := isShare n d && (!decide (n = 0) && !decide (n = d))
/-- the share that a text tells -/
def rdShare (l : List Nat) : Option (Int × Int) := match TL.par [47] [] l with
  | some (p, q) => if okSh (rdNum p 30) (rdNum q 30) = true then some (rdNum p 30, rdNum q 30) else none
  | none => none
def shD : Option (Int × Int) → Dt
  | some r => ratD r
  | none => .non
theorem par_len0 : ∀ (l acc : List Nat) {p q : List Nat}, TL.par [47] acc l = some (p, q) → p.length ≤ acc.length + l.length ∧ q.length ≤ l.length
  | [], acc, p, q, h => by cases h
  | c :: r, acc, p, q, h => by
    unfold TL.par at h
    split at h
    · cases h
      exact ⟨by omega, by simp⟩
    · have := par_len0 r (acc ++ [c]) h
      simp only [List.length_append, List.length_cons, List.length_nil] at this ⊢
      omega
theorem par_len {l p q : List Nat} (h : TL.par [47] [] l = some (p, q)) : p.length ≤ l.length ∧ q.length ≤ l.length := by
  have := par_len0 l [] h
  simpa using this
def ph_read_share : Ph := fun ds q _ => ∃ l : List Nat, ds = [.str (SX.S l)] ∧ l.length ≤ 90000 ∧ q (shD (rdShare l))
theorem u_read_share {l : List Nat} {q : Dt → Prop} {x : XD} (h : l.length ≤ 90000) (p : q (shD (rdShare l))) : ph_read_share [.str (SX.S l)] q x := ⟨l, rfl, h, p⟩
/-! read_word -/
def restL (k : Str) (l : List Nat) : List Nat := (cutS (SX.S l) (some ((k.length : Int) + 1)) none).cps.toList
def tryK (k : Str) (l : List Nat) : Option (Int × Int) := if Txt.startswith (SX.S l) (k ++ Str.ofString " ") = true then rdShare (restL k l) else none
def rdWord (l : List Nat) : Option (Str × Option (Int × Int)) := if SX.S l = Str.ofString "no word" then some (Str.ofString "no word", none) else match tryK "at least" l with
  | some r => some (Str.ofString "at least", some r)
  | none => match tryK "below" l with
    | some r => some (Str.ofString "below", some r)
    | none => none
def wdD (w : Str × Option (Int × Int)) : Dt := .tup [.str w.1, shD w.2]
theorem rdNum_num {n : Nat} (h0 : 0 < n) (h : n < 10 ^ 30) : rdNum (TL.numL n) 30 = (n : Int) := by
  unfold rdNum
  have hl := TL.numL_len (k := 30) (by decide) h
  rw [if_neg, if_neg, TL.numL_val]
  · rintro ⟨h1, _⟩
    exact numL_head h0 h1
  · rintro (h1 | h1 | ⟨c, hc, hd⟩)
    · exact TL.numL_ne n h1
    · omega
    · have := TL.numL_digits n c hc
      apply hd
      unfold dg
      simp only [List.mem_cons, List.not_mem_nil, or_false]
      omega
theorem rdShare_num {n d : Nat} (hn : 0 < n) (hnd : n < d) (hd : d < 10 ^ 30) (hg : Nat.gcd n d = 1) : rdShare (TL.numL n ++ 47 :: TL.numL d) = some ((n : Int), (d : Int)) := by
  unfold rdShare
  have e : TL.par [47] [] (TL.numL n ++ 47 :: TL.numL d) = some (TL.numL n, TL.numL d) := SX.par_head (sep := []) (TL.numL d) (TL.numL_free (by omega))
  rw [e]
  dsimp only
  rw [rdNum_num hn (by omega), rdNum_num (by omega) hd, if_pos]
  unfold okSh isShare
  have hg2 : Int.gcd (n : Int) (d : Int) = 1 := hg
  rw [hg2, decide_eq_true (show (1 : Int) ≤ (d : Int) by omega), decide_eq_true (show (0 : Int) ≤ (n : Int) by omega), decide_eq_true (show (n : Int) ≤ (d : Int) by omega), decide_eq_false (show ¬ (n : Int) = 0 by omega), decide_eq_false (show ¬ (n : Int) = (d : Int) by omega)]
  rfl
theorem rest_app (k : Str) (r : List Nat) : restL k (k.cps.toList ++ 32 :: r) = r := by
  unfold restL
  rw [C8.cutS_slice, SX.slice_from (by omega)]
  show (k.cps.toList ++ 32 :: r).drop ((k.length : Int) + 1).toNat = r
  have e : ((k.length : Int) + 1).toNat = k.cps.toList.length + 1 := by rw [Array.length_toList]; show _ = k.length + 1; omega
  rw [e, List.drop_append]
  simp
theorem tryK_app (k : Str) (r : List Nat) : tryK k (k.cps.toList ++ 32 :: r) = rdShare r := by
  unfold tryK
  have e : k ++ Str.ofString " " = SX.S (k.cps.toList ++ [32]) := by
    have := SX.S_cat k.cps.toList [32]
    rw [SX.S_tl] at this
    exact this
  rw [e, starts_pre, if_pos, rest_app]
  refine decide_eq_true ?_
  rw [show k.cps.toList ++ 32 :: r = (k.cps.toList ++ [32]) ++ r by simp, List.take_left]
theorem rdWord_at {n d : Nat} (hn : 0 < n) (hnd : n < d) (hd : d < 10 ^ 30) (hg : Nat.gcd n d = 1) : rdWord ((Str.ofString "at least").cps.toList ++ 32 :: (TL.numL n ++ 47 :: TL.numL d)) = some (Str.ofString "at least", some ((n : Int), (d : Int))) := by
  unfold rdWord
  rw [if_neg, tryK_app, rdShare_num hn hnd hd hg]
  intro h
  have := SX.S_inj (b := (Str.ofString "no word").cps.toList) h
  cases this
theorem rdWord_below {n d : Nat} (hn : 0 < n) (hnd : n < d) (hd : d < 10 ^ 30) (hg : Nat.gcd n d = 1) : rdWord ((Str.ofString "below").cps.toList ++ 32 :: (TL.numL n ++ 47 :: TL.numL d)) = some (Str.ofString "below", some ((n : Int), (d : Int))) := by
  unfold rdWord
  have e1 : tryK "at least" ((Str.ofString "below").cps.toList ++ 32 :: (TL.numL n ++ 47 :: TL.numL d)) = none := by
    unfold tryK
    rw [show ("at least" : Str) ++ Str.ofString " " = SX.S (Str.ofString "at least ").cps.toList by decide, starts_pre, if_neg]
    rw [decide_eq_true_eq]
    intro h
    cases h
  rw [if_neg, e1, tryK_app, rdShare_num hn hnd hd hg]
  intro h
  have := SX.S_inj (b := (Str.ofString "no word").cps.toList) h
  cases this
def ph_read_word (C : Addr) : Ph := fun ds q x => ∃ l : List Nat, ds = [.str (SX.S l)] ∧ l.length ≤ 90000 ∧ (∀ w, rdWord l = some w → q (wdD w)) ∧ (rdWord l = none → x C ["word"] [.str (SX.S l)])
theorem u_read_word {C : Addr} {l : List Nat} {w : Str × Option (Int × Int)} {q : Dt → Prop} {x : XD} (h : l.length ≤ 90000 ∧ rdWord l = some w) (p : q (wdD w)) : ph_read_word C [.str (SX.S l)] q x :=
  ⟨l, rfl, h.1, fun w' e => by rw [h.2] at e; cases e; exact p, fun e => by rw [h.2] at e; cases e⟩
/-! is_wrong -/
def wrongW (w : Str × Option (Int × Int)) (s : Int × Int) : Bool := match w.2 with
  | none => false
  | some a => if w.1 = Str.ofString "at least" then decide (cmpR s a < 0) else decide (0 ≤ cmpR s a)
def ph_is_wrong : Ph := fun ds q _ => ∃ (l : List Nat) (w : Str × Option (Int × Int)) (s : Int × Int) (B : Nat), ds = [.str (SX.S l), ratD s] ∧ (l.length ≤ 90000 ∧ rdWord l = some w ∧ SzR B s ∧ (∀ a, w.2 = some a → SzR B a) ∧ B ≤ 100000) ∧ q (.bl (wrongW w s))
theorem u_is_wrong {l : List Nat} {w : Str × Option (Int × Int)} {s : Int × Int} {B : Nat} {q : Dt → Prop} {x : XD} (h : l.length ≤ 90000 ∧ rdWord l = some w ∧ SzR B s ∧ (∀ a, w.2 = some a → SzR B a) ∧ B ≤ 100000) (p : q (.bl (wrongW w s))) : ph_is_wrong [.str (SX.S l), ratD s] q x := ⟨l, w, s, B, rfl, h, p⟩
/-! words written -/
theorem num_S (n : Nat) : Str.ofString (toString (n : Int)) = SX.S (TL.numL n) := by
  have := SX.S_tl (Str.ofString (toString (n : Int)))
  rw [← this]
  exact congrArg SX.S (TL.tl_num n)
theorem text_S (k : Str) (n d : Nat) : (k ++ Str.ofString " ") ++ (Str.ofString (toString (n : Int)) ++ Str.ofString "/" ++ Str.ofString (toString (d : Int))) = SX.S (k.cps.toList ++ 32 :: (TL.numL n ++ 47 :: TL.numL d)) := by
  have ek : k = SX.S k.cps.toList := (SX.S_tl k).symm
  rw [num_S, num_S, show Str.ofString "/" = SX.S [47] by decide, show Str.ofString " " = SX.S [32] by decide]
  conv => lhs; rw [ek]
  rw [SX.S_cat, SX.S_cat, SX.S_cat, SX.S_cat]
  simp
theorem text_at (n d : Nat) : Str.ofString "at least " ++ (Str.ofString (toString (n : Int)) ++ Str.ofString "/" ++ Str.ofString (toString (d : Int))) = SX.S ((Str.ofString "at least").cps.toList ++ 32 :: (TL.numL n ++ 47 :: TL.numL d)) := by
  rw [← text_S, show Str.ofString "at least" ++ Str.ofString " " = Str.ofString "at least " by decide]
theorem text_be (n d : Nat) : Str.ofString "below " ++ (Str.ofString (toString (n : Int)) ++ Str.ofString "/" ++ Str.ofString (toString (d : Int))) = SX.S ((Str.ofString "below").cps.toList ++ 32 :: (TL.numL n ++ 47 :: TL.numL d)) := by
  rw [← text_S, show Str.ofString "below" ++ Str.ofString " " = Str.ofString "below " by decide]
theorem len_num {n : Nat} (h : n < 10 ^ 32) : (TL.numL n).length ≤ 32 := TL.numL_len (k := 32) (by decide) h
theorem sh_nat {r : Int × Int} (ir : IsR r) (h0 : 0 < r.1) (h1 : r.1 < r.2) (h2 : r.2 ≤ 10 ^ 20) : ∃ n d : Nat, r = ((n : Int), (d : Int)) ∧ 0 < n ∧ n < d ∧ d < 10 ^ 21 ∧ Nat.gcd n d = 1 := by
  refine ⟨r.1.toNat, r.2.toNat, ?_, by omega, by omega, by omega, ?_⟩
  · have e1 : ((r.1.toNat : Nat) : Int) = r.1 := by omega
    have e2 : ((r.2.toNat : Nat) : Int) = r.2 := by omega
    rw [e1, e2]
  · have := ir.2
    rw [← this]
    show _ = r.1.natAbs.gcd r.2.natAbs
    congr 1 <;> omega
theorem wrong_at (t a : Int × Int) : wrongW (Str.ofString "at least", some a) t = lessR t a := by
  unfold wrongW lessR cmpR
  dsimp only
  rw [if_pos rfl]
  refine decide_eq_decide.mpr ?_
  repeat' split
  all_goals omega
theorem wrong_be (t a : Int × Int) : wrongW (Str.ofString "below", some a) t = !lessR t a := by
  unfold wrongW lessR cmpR
  dsimp only
  rw [if_neg (by decide), ← decide_not]
  refine decide_eq_decide.mpr ?_
  repeat' split
  all_goals omega
theorem numL_ge : ∀ {k n : Nat}, 10 ^ k ≤ n → k < (TL.numL n).length
  | 0, n, _ => by
    have := TL.numL_ne n
    exact List.length_pos_iff.mpr this
  | k + 1, n, h => by
    have h10 : 10 ≤ n := Nat.le_trans (by rw [Nat.pow_succ]; exact Nat.le_mul_of_pos_left 10 (Nat.pow_pos (by decide))) h
    rw [TL.numL_step h10, List.length_append]
    have := numL_ge (k := k) (n := n / 10) (by rw [Nat.pow_succ] at h; exact (Nat.le_div_iff_mul_le (by decide)).mpr h)
    simp only [List.length_cons, List.length_nil]
    omega
theorem rdNum_0 : rdNum (TL.numL 0) 30 = 0 := by
  rw [TL.numL_lt (by decide)]
  decide
theorem rdNum_big {n : Nat} (h : 10 ^ 30 ≤ n) : rdNum (TL.numL n) 30 = -1 := by
  unfold rdNum
  rw [if_pos]
  refine .inr (.inl ?_)
  have := numL_ge h
  omega
theorem rdNum_all {n : Nat} (h : n < 10 ^ 30) : rdNum (TL.numL n) 30 = (n : Int) := by
  rcases Nat.eq_zero_or_pos n with rfl | h0
  · exact rdNum_0
  · exact rdNum_num h0 h
/-- the share of a text that tells n/d -/
theorem rdShare_bad {n d : Nat} (hnd : n ≤ d) (hb : ¬ (0 < n ∧ n < d ∧ d < 10 ^ 30)) : rdShare (TL.numL n ++ 47 :: TL.numL d) = none := by
  unfold rdShare
  have e : TL.par [47] [] (TL.numL n ++ 47 :: TL.numL d) = some (TL.numL n, TL.numL d) := SX.par_head (sep := []) (TL.numL d) (TL.numL_free (by omega))
  rw [e]
  dsimp only
  rw [if_neg]
  by_cases h : d < 10 ^ 30
  · rw [rdNum_all (n := n) (by omega), rdNum_all h]
    unfold okSh
    intro hz
    rw [Bool.and_eq_true, Bool.and_eq_true] at hz
    have h1 := hz.2.1
    have h2 := hz.2.2
    simp only [Bool.not_eq_eq_eq_not, Bool.not_true, decide_eq_false_iff_not] at h1 h2
    omega
  · rw [rdNum_big (n := d) (by omega)]
    unfold okSh isShare
    rw [decide_eq_false (show ¬ (1 : Int) ≤ -1 by decide)]
    simp
theorem rdWord_kat (r : List Nat) : rdWord ((Str.ofString "at least").cps.toList ++ 32 :: r) = (rdShare r).map fun s => (Str.ofString "at least", some s) := by
  unfold rdWord
  have e1 : tryK "below" ((Str.ofString "at least").cps.toList ++ 32 :: r) = none := by
    unfold tryK
    rw [show ("below" : Str) ++ Str.ofString " " = SX.S (Str.ofString "below ").cps.toList by decide, starts_pre, if_neg]
    rw [decide_eq_true_eq]
    intro h
    cases h
  rw [if_neg, tryK_app, e1]
  · cases rdShare r <;> rfl
  intro h
  have := SX.S_inj (b := (Str.ofString "no word").cps.toList) h
  cases this
theorem rdWord_kbe (r : List Nat) : rdWord ((Str.ofString "below").cps.toList ++ 32 :: r) = (rdShare r).map fun s => (Str.ofString "below", some s) := by
  unfold rdWord
  have e1 : tryK "at least" ((Str.ofString "below").cps.toList ++ 32 :: r) = none := by
    unfold tryK
    rw [show ("at least" : Str) ++ Str.ofString " " = SX.S (Str.ofString "at least ").cps.toList by decide, starts_pre, if_neg]
    rw [decide_eq_true_eq]
    intro h
    cases h
  rw [if_neg, e1, tryK_app]
  · cases rdShare r <;> rfl
  intro h
  have := SX.S_inj (b := (Str.ofString "no word").cps.toList) h
  cases this
/-- the two kinds of words -/
def IsKind (k : Str) : Prop := k = Str.ofString "at least" ∨ k = Str.ofString "below"
def wordL (k : Str) (n d : Nat) : List Nat := k.cps.toList ++ 32 :: (TL.numL n ++ 47 :: TL.numL d)
theorem rdWord_k {k : Str} (hk : IsKind k) (n d : Nat) : rdWord (wordL k n d) = (rdShare (TL.numL n ++ 47 :: TL.numL d)).map fun s => (k, some s) := by
  rcases hk with rfl | rfl
  · exact rdWord_kat _
  · exact rdWord_kbe _
theorem wordL_S (k : Str) (n d : Nat) : SX.S (wordL k n d) = k ++ Str.ofString " " ++ Str.ofString (toString (n : Int)) ++ Str.ofString "/" ++ Str.ofString (toString (d : Int)) := by
  unfold wordL
  have ek : k = SX.S k.cps.toList := (SX.S_tl k).symm
  rw [num_S, num_S, show Str.ofString "/" = SX.S [47] by decide, show Str.ofString " " = SX.S [32] by decide]
  conv => rhs; rw [ek]
  rw [SX.S_cat, SX.S_cat, SX.S_cat, SX.S_cat]
  simp
theorem IsKind.len {k : Str} (h : IsKind k) : k.length ≤ 8 := by rcases h with rfl | rfl <;> decide
theorem wordL_len {k : Str} (hk : IsKind k) {n d : Nat} (hn : n < 10 ^ 32) (hd : d < 10 ^ 32) : (wordL k n d).length ≤ 90 := by
  unfold wordL
  have h1 := len_num hn
  have h2 := len_num hd
  have h3 := hk.len
  have h4 : k.cps.toList.length = k.length := Array.length_toList
  simp only [List.length_append, List.length_cons]
  omega
theorem wordL_E (k : Str) (n d : Nat) : Str.empty ++ k ++ Str.ofString " " ++ Str.ofString (toString (n : Int)) ++ Str.ofString "/" ++ Str.ofString (toString (d : Int)) = SX.S (wordL k n d) := by
  have e : Str.empty ++ k = k := by
    have := SX.S_cat [] k.cps.toList
    rw [SX.S_tl, List.nil_append, SX.S_tl] at this
    exact this
  rw [e, wordL_S]
theorem num_len {n : Nat} (h : n < 10 ^ 32) : (Str.ofString (toString (n : Int))).length ≤ 32 := by rw [num_S, SX.S_len]; exact len_num h
theorem num_log {n : Nat} (h : n < 10 ^ 32) : (n : Int).natAbs.log2 < 1920 := Nat.lt_of_lt_of_le (PySem.Flt.log2_lt_of (k := 120) (by decide) (show n < 2 ^ 120 by omega)) (by decide)
def ph_made_word (C : Addr) : Ph := fun ds q x => ∃ (k : Str) (n d : Nat), ds = [.str k, ratD ((n : Int), (d : Int))] ∧ (IsKind k ∧ n < 10 ^ 32 ∧ d < 10 ^ 32) ∧ (rdShare (TL.numL n ++ 47 :: TL.numL d) ≠ none → q (.str (SX.S (wordL k n d)))) ∧ (rdShare (TL.numL n ++ 47 :: TL.numL d) = none → x C ["word"] [.str (SX.S (wordL k n d))])
abbrev kAt : Str := Str.ofString "at least"
abbrev kBe : Str := Str.ofString "below"
def ph_made_k (k : Str) (C : Addr) : Ph := fun ds q x => ph_made_word C (.str k :: ds) q x
theorem u_made_word {C : Addr} {k : Str} {n d : Nat} {q : Dt → Prop} {x : XD} (h : IsKind k ∧ n < 10 ^ 32 ∧ d < 10 ^ 32 ∧ rdShare (TL.numL n ++ 47 :: TL.numL d) ≠ none) (p : q (.str (SX.S (wordL k n d)))) : ph_made_word C [.str k, ratD ((n : Int), (d : Int))] q x :=
  ⟨k, n, d, rfl, ⟨h.1, h.2.1, h.2.2.1⟩, fun _ => p, fun z => absurd z h.2.2.2⟩
theorem eqD_true {a b : Dt} (h : okD a = true) (e : a = b) : (!eqD a b) = false := by rw [eqD_of e h]; rfl
theorem ok_wd {k : Str} (h : PyData.strOk k = true) (r : Option (Int × Int)) : okD (wdD (k, r)) = true := by
  cases r with
  | none => simp [okD, okN, wdD, shD, h]
  | some r => simp [okD, okN, wdD, shD, h, ratD]
theorem IsKind.ok {k : Str} (h : IsKind k) : PyData.strOk k = true := by rcases h with rfl | rfl <;> decide +kernel
end VS
set_option Elab.async false
set_option linter.all false
set_option maxRecDepth 100000
/-! own classes: instances as data. -/
namespace VS
open PySem PySem.Spec L2
def fldO (f : Str) : List Str → List Dt → Option Dt
  | n :: ns, x :: xs => if n == f then some x else fldO f ns xs
  | _, _ => none
def putO (f : Str) (d : Dt) : List Str → List Dt → List Str × List Dt
  | n :: ns, x :: xs => if n == f then (n :: ns, d :: xs) else (n :: (putO f d ns xs).1, x :: (putO f d ns xs).2)
  | _, _ => ([f], [d])
section
variable {K : PySem.W.Frag} {F : Hp}
theorem fld_get {f : Str} : ∀ {ns : List Str} {xs : List Dt} {vs : List V} {d : Dt}, RpL K F xs vs → ns.length = vs.length → fldO f ns xs = some d → ∃ v, (ns.zip vs).lookup f = some v ∧ Rp K F d v
  | [], _, vs, d, r, hl, h => by cases h
  | n :: ns, [], vs, d, r, hl, h => by cases h
  | n :: ns, x :: xs, vs, d, r, hl, h => by
    obtain ⟨v, t, rfl, r1, r2⟩ := r.of_cons
    unfold fldO at h
    by_cases e : (n == f) = true
    · rw [if_pos e] at h
      cases h
      have e' : (f == n) = true := by rw [beq_iff_eq] at e ⊢; exact e.symm
      exact ⟨v, by simp [List.zip_cons_cons, List.lookup, e'], r1⟩
    · rw [if_neg e] at h
      obtain ⟨v', h1, h2⟩ := fld_get (ns := ns) (xs := xs) r2 (by simpa using hl) h
      have e' : (f == n) = false := by rw [Bool.eq_false_iff]; intro z; apply e; rw [beq_iff_eq] at z ⊢; exact z.symm
      exact ⟨v', by simp [List.zip_cons_cons, List.lookup, e', h1], h2⟩
theorem fld_none {f : Str} : ∀ {ns : List Str} {vs : List V}, (ns.any fun n => n == f) = false → (ns.zip vs).lookup f = none
  | [], _, _ => by simp
  | n :: ns, [], _ => by simp
  | n :: ns, v :: vs, h => by
    simp only [List.any_cons, Bool.or_eq_false_iff] at h
    have e' : (f == n) = false := by rw [Bool.eq_false_iff]; intro z; have := h.1; rw [Bool.eq_false_iff] at this; apply this; rw [beq_iff_eq] at z ⊢; exact z.symm
    simp [List.zip_cons_cons, List.lookup, e', fld_none h.2]
theorem put_zip {f : Str} {y : V} {d : Dt} : ∀ {ns : List Str} {xs : List Dt} {vs : List V}, RpL K F xs vs → ns.length = vs.length → Rp K F d y → ∃ vs', putF f y (ns.zip vs) = (putO f d ns xs).1.zip vs' ∧ (putO f d ns xs).1.length = vs'.length ∧ RpL K F (putO f d ns xs).2 vs' ∧ vs'.length ≤ vs.length + 1
  | [], xs, vs, r, hl, ry => by
    have e : vs = [] := List.length_eq_zero_iff.mp (by simpa using hl.symm)
    subst e
    refine ⟨[y], ?_, ?_, ?_, by simp⟩
    · cases xs <;> rfl
    · cases xs <;> rfl
    · cases xs <;> exact .cons ry .nil
  | n :: ns, xs, vs, r, hl, ry => by
    cases xs with
    | nil => have e := r.of_nil; subst e; simp at hl
    | cons x xs =>
      obtain ⟨v, t, rfl, r1, r2⟩ := r.of_cons
      by_cases e : (n == f) = true
      · refine ⟨y :: t, ?_, ?_, ?_, by simp⟩
        · unfold putO
          rw [if_pos e]
          have e' := beq_iff_eq.mp e
          subst e'
          simp [List.zip_cons_cons, putF]
        · unfold putO; rw [if_pos e]; simpa using hl
        · unfold putO; rw [if_pos e]; exact .cons ry r2
      · obtain ⟨vs', h1, h2, h3, h4⟩ := put_zip (f := f) (y := y) (d := d) (ns := ns) (xs := xs) (vs := t) r2 (by simpa using hl) ry
        refine ⟨v :: vs', ?_, ?_, ?_, by simp; omega⟩
        · unfold putO
          rw [if_neg e]
          have e' : n ≠ f := fun z => e (beq_iff_eq.mpr z)
          simp [List.zip_cons_cons, putF, h1, e']
        · unfold putO; rw [if_neg e]; simp [h2]
        · unfold putO; rw [if_neg e]; exact .cons r1 h3
end
section
variable {X : Cx} {R : Reg} {G : List Sl} {pos : Pos} {k : Kt}
/-- e.f -/
theorem e_fld {e : Expr} {f : Str} {P : Dt → Prop} (h : E X R G e fun d => ∃ C ns xs r, d = .obj C ns xs ∧ Cls X.K C ∧ NoAttr X.K C f ∧ fldO f ns xs = some r ∧ P r) (hb : attributeBase e f X.env (eval e X.env) = eval e X.env := by rfl) : E X R G (.Attribute e f pos) P := fun σ F H Q ty c =>
  tOf.of (pe_fld pe_w hb) (h σ F H _ ty fun v F1 H1 d ex r ⟨C, ns, xs, r', ed, cl, na, hf, p⟩ => by
    subst ed
    obtain ⟨a, dx, vs, rfl, h1, hl, rl⟩ := rp_obj.mp r
    obtain ⟨v, h2, rv⟩ := fld_get rl hl hf
    exact ⟨a, C, dx, _, v, rfl, ex.wf.fh _ _ h1, cl, na, h2, c v F1 H1 r' ex rv p⟩)
/-- the same, of one's own object -/
theorem e_fldO (i : Nat) {x : Str} {f : Str} {p : Pos} {C a0 : Addr} {ns : List Str} {xs : List Dt} {r : Dt} {P : Dt → Prop} (hg : G[i]? = some (.ow (.at_ a0 (.obj C ns xs)))) (hN : X.N[i]? = some x) (hv : Vis X.env.scope x) (cl : Cls X.K C) (na : NoAttr X.K C f) (hf : fldO f ns xs = some r) (q : P r)
    (hd : (x == ("__debug__" : Str)) = false := by decide) (hcd : (x == ("__classdict__" : Str)) = false := by decide) (hb : attributeBase (.Name x p) f X.env (eval (.Name x p) X.env) = eval (.Name x p) X.env := by rfl) : E X R G (.Attribute (.Name x p) f pos) P := fun σ F H Q ty c => by
  obtain ⟨o, hs, fo, nM, ea, dx, vs, h1, hl, rl⟩ := ty.own hg
  obtain ⟨v, h2, rv⟩ := fld_get rl hl hf
  exact tOf.of (pe_fld (pe_var hN hv hd hcd) hb) ⟨.ref o, by rw [hs], o, C, dx, _, v, rfl, h1, cl, na, h2, c.here ty.wf rv q⟩
/-- o.f = e, o one's own object -/
theorem s_fldO (i : Nat) {x : Str} {f : Str} {e : Expr} {p pos' : Pos} {C a0 : Addr} {ns : List Str} {xs : List Dt} (hg : G[i]? = some (.ow (.at_ a0 (.obj C ns xs)))) (hN : X.N[i]? = some x) (hv : Vis X.env.scope x) (cl : Cls X.K C) (na : NoAttr X.K C f) (hn : ns.length < 900)
    (h : E X R G e fun d => k.nx (G.set i (.ow (.at_ a0 (.obj C (putO f d ns xs).1 (putO f d ns xs).2)))))
    (hd : (x == ("__debug__" : Str)) = false := by decide) (hcd : (x == ("__classdict__" : Str)) = false := by decide) (hs : swapsWith e (some (.Attribute (.Name x p) f pos')) pos.line X.env = pure false := by rfl) : S1 X R (.Assign [.Attribute (.Name x p) f pos'] e pos) G k := fun F0 H0 σ F H D ty b c =>
  s1Of.of (ps_fld (pe_var hN hv hd hcd) pe_w hs) (h σ F H _ ty fun y F1 H1 d ex r q => by
    have ty1 := ty.ext ex
    obtain ⟨o, ho, fo, nM, ea, dx, vs, h1, hl, rl⟩ := ty1.own hg
    refine ⟨.ref o, by rw [ho], o, C, dx, _, rfl, h1, cl, na, by rw [List.length_zip]; omega, ?_⟩
    obtain ⟨vs', e1, e2, e3, _⟩ := put_zip (f := f) (y := y) (d := d) rl hl r
    have ty2 := ty1.mut (d' := .at_ a0 (.obj C (putO f d ns xs).1 (putO f d ns xs).2)) (u := .ins C dx (putF f y (ns.zip vs))) hg ho ⟨ea, dx, vs', by rw [upd_same, e1], e2, e3⟩
    exact c.nx _ _ _ _ q ty2 ((b.step ex).mut ty2 hg ho))
/-- a borrowed thing -/
def lfree : Dt → Bool
  | .lst _ => false
  | .frl _ => false
  | .tup xs => lfreeL xs
  | .dT _ xs => lfreeL xs
  | .dK _ xs => lfreeL xs
  | .obj _ _ xs => lfreeL xs
  | .exv .. => false
  | .at_ .. => false
  | _ => true
where lfreeL : List Dt → Bool
  | [] => true
  | x :: xs => lfree x && lfreeL xs
end
end VS
set_option Elab.async false
set_option linter.all false
set_option maxRecDepth 100000
/-! own classes: making, methods. -/
namespace VS
open PySem PySem.Spec L2
section
variable {P : Program} {w : World} {K : PySem.W.Frag} {mg : Str → Option Value} {base : Heap}
/-- C(..): a class called, by its __init__ -/
theorem mk_fnR {CX : CXT} {C fI : Addr} {k : Nat} {sp : Sp} (M : Mk K C fI) (F : FnR P w K mg base CX k fI sp) (hup : StX.CXUp CX) :
    FnR P w K mg base CX (k + 1) C (fun vs H Q E => ∀ x dx, H x = none → H dx = none → dx ≠ x → sp (.ref x :: vs) (upd (upd H dx (.own x)) x (.ins C dx [])) (fun v H2 => v = .non ∧ Q (.ref x) H2) E) := by
  intro A outer s H us vs Q E hr e0 r h
  have hn0 : H s.heap.objs.size = none := e0.hok.fresh (Nat.le_refl _)
  have hn1 : H (s.heap.objs.size + 1) = none := e0.hok.fresh (Nat.le_succ _)
  have nn : s.heap.objs.size ≠ s.heap.objs.size + 1 := by omega
  have hq := h (s.heap.objs.size + 1) s.heap.objs.size hn1 hn0 nn
  have KX : K.In s.heap := e0.mod.kin.keeps fun b o e => (e0.bs b o e).1
  have sz1 : (s.heap.push PySem.W.emptyDict).objs.size = s.heap.objs.size + 1 := Heap.size_push _ _
  have g1 : (s.heap.push PySem.W.emptyDict).get? s.heap.objs.size = some PySem.W.emptyDict := Heap.get?_push_size s.heap rfl
  have g2 : ((s.heap.push PySem.W.emptyDict).push (PySem.W.instObj C s.heap.objs.size)).get? (s.heap.objs.size + 1) = some (PySem.W.instObj C s.heap.objs.size) := by
    rw [← sz1]
    exact Heap.get?_push_size _ rfl
  have n3 : (s.heap.push PySem.W.emptyDict).Ns s.heap.objs.size (fun _ => none) := ⟨_, #[], _, g1, rfl, (fun e he => absurd he (by simp)), fun _ => rfl⟩
  have e1 := StX.env0_laid (o := PySem.W.emptyDict) (u := .own (s.heap.objs.size + 1)) e0 ⟨_, g1⟩
  have hn2 : (upd H s.heap.objs.size (.own (s.heap.objs.size + 1))) (s.heap.push PySem.W.emptyDict).objs.size = none := by
    rw [sz1, upd_ne (Ne.symm nn)]
    exact hn1
  have e2 := StX.env0_laid (s := { s with heap := s.heap.push PySem.W.emptyDict }) (o := PySem.W.instObj C s.heap.objs.size) (u := .ins C s.heap.objs.size []) e1 (by
    show ObjOk P w (upd _ (s.heap.push PySem.W.emptyDict).objs.size _) _ (s.heap.push PySem.W.emptyDict).objs.size _
    rw [sz1]
    exact ⟨by rw [upd_ne nn, upd_same], Nat.zero_le _, nn, g2, fun _ => none, (Heap.Ns1.of_empty n3).at fun o q => Heap.get?_push_of_some _ q, fun _ => True.intro, fun y hy => absurd rfl hy⟩)
  have u1 := StX.un_laid (fs := frs outer) (s := s) (o := PySem.W.emptyDict) (u := .own (s.heap.objs.size + 1)) hn0
  have u2 := StX.un_laid (fs := frs outer) (s := { s with heap := s.heap.push PySem.W.emptyDict }) (o := PySem.W.instObj C s.heap.objs.size) (u := .ins C s.heap.objs.size []) hn2
  have e2' : Env0 P w K mg base A outer { s with heap := (s.heap.push PySem.W.emptyDict).push (PySem.W.instObj C s.heap.objs.size) } (upd (upd H s.heap.objs.size (.own (s.heap.objs.size + 1))) (s.heap.objs.size + 1) (.ins C s.heap.objs.size [])) := by
    have := e2
    simp only [sz1] at this
    exact this
  have u3 : Un (frs outer) [] H (upd (upd H s.heap.objs.size (.own (s.heap.objs.size + 1))) (s.heap.objs.size + 1) (.ins C s.heap.objs.size [])) s.heap ((s.heap.push PySem.W.emptyDict).push (PySem.W.instObj C s.heap.objs.size)) := by
    have := u1.trans u2
    simp only [sz1] at this
    exact this
  refine make_map (f := fI) KX M.makes M.init (beq_iff_eq.mp M.fn) (codeAny_mono (F _ outer _ _ (Value.ref (s.heap.objs.size + 1) :: us) (V.ref (s.heap.objs.size + 1) :: vs) _ E (hr.make C us []) (e2'.make C us []) (.cons rfl r) hq) fun r' s' hq' => ?_)
  cases r' with
  | error e => exact hup outer s H { s with heap := (s.heap.push PySem.W.emptyDict).push (PySem.W.instObj C s.heap.objs.size) } _ E e s' u3 (fun b o q => Heap.get?_push_of_some _ (Heap.get?_push_of_some _ q)) rfl hq'
  | ok fl =>
    cases fl with
    | ret u =>
      obtain ⟨v, H', ho, hb, un, hok, rv, ev, q3⟩ := hq'
      subst ev
      exact ⟨rv, ⟨V.ref (s.heap.objs.size + 1), H', ho, hb, u3.trans un, hok, rfl, q3⟩⟩
    | next => exact False.elim hq'
    | brk => exact False.elim hq'
    | cont => exact False.elim hq'
/-- the promise of an __init__ -/
def spIni (K : PySem.W.Frag) (C : Addr) (m : Nat) (φ : Ph) : Sp := fun vs H Q E => vs.length = m + 1 ∧ ∃ (x dx : Addr) (args : List V) (F0 H0 F : Hp) (ds : List Dt) (q : Dt → Prop) (xd : XD), vs = .ref x :: args ∧ Same F0 H0 ∧ Ext .nil F0 H0 F H ∧ H0 x = none ∧ F x = none ∧ H x = some (.ins C dx []) ∧ RpL K F ds args ∧ φ ds q xd ∧
  (∀ F' H' d, Ext .nil F0 H0 F' H' → Rp K F' d (.ref x) → q d → Q .non H') ∧ XOk K .nil F0 H0 xd E
def stI (N : List Str) (x C : Addr) (ds : List Dt) : List Sl := .ow (.at_ x (.obj C [] [])) :: (ds.map .sh ++ List.replicate (N.length - (ds.length + 1)) .no)
theorem ini_run {CX : CXT} {N : List Str} {C : Addr} {m : Nat} {φ : Ph} {vs : List V} {H : Hp} {Q : VK} {E : XK} {X : Cx} {body : List Stmt} (hh : spIni K C m φ vs H Q E) (hK : X.K = K)
    (h : ∀ (x : Addr) (ds : List Dt) (q : Dt → Prop) (xd : XD), φ ds q xd → ds.length = m → ∀ F H0, Wf .nil F H0 → XOk K .nil F H0 xd E → S X .nil body (stI N x C ds) { nx := fun G => ∃ d G', G = .ow (.at_ x d) :: G' ∧ q d, rt := fun _ => False }) :
    ∃ t, PSs X body t ∧ t { nx := fun _ H' => Q .non H', rt := Q } (L2.start N vs) H := by
  obtain ⟨hl, x, dx, args, F0, H0, F, ds, q, xd, rfl, sf, ex, h0, fx, hx, r, hφ, hq, hxo⟩ := hh
  subst hK
  have hl' : args.length = m := by simpa using hl
  have hS := h x ds q xd hφ (by rw [r.length, hl']) F0 H0 (wf_nil sf) hxo
  refine ⟨_, pss_w, hS F0 H0 _ F H _ ⟨ex.wf, ?_, ?_⟩ ⟨ex, ?_, trivial⟩ ⟨fun G σ F1 H1 z ty b => ?_, fun d v F1 H1 z e rd => z.elim, fun _ _ _ _ z => z.elim, fun _ _ _ _ z => z.elim, fun _ _ _ _ z => z.elim⟩⟩
  · unfold stI L2.start
    show SlsOk _ _ _ _ _ (some (V.ref x) :: (args.map some ++ List.replicate (N.length - (args.length + 1)) none))
    refine .cons ⟨x, rfl, fx, fun z => z.elim, rfl, dx, [], hx, rfl, .nil⟩ ?_
    rw [r.length]
    exact sls0 _ r
  · unfold stI L2.start
    show (owns (_ :: _) (some (V.ref x) :: _)).Nodup
    simp only [owns, owns0]
    simp
  · unfold stI L2.start
    show ∀ o ∈ owns (_ :: _) (some (V.ref x) :: _), _
    simp only [owns, owns0]
    intro o ho
    simp at ho
    rw [ho]
    exact h0
  · obtain ⟨d, G', rfl, hd⟩ := z
    obtain ⟨F2, ty2, b2, sf2⟩ := ty.frz b
    obtain ⟨v0, e0, y, ey, ry⟩ := ty2.sl.get (i := 0) (g := .sh (.at_ x d)) rfl
    simp only [Rp] at ry
    exact hq F2 H1 d b2.ext (by rw [← ry.1]; exact ry.2) hd
end
section
variable {X : Cx} {R : Reg} {G : List Sl} {pos : Pos} {k : Kt}
theorem spD_of {K : PySem.W.Frag} {φ : Ph} {n : Nat} {F H : Hp} {ds : List Dt} {vs : List V} {P : Dt → Prop} {Q : VK} {E : XK} (wf : Wf R F H) (r : RpL K F ds vs) (hl : ds.length = n) (hφ : φ ds P fun _ _ _ => False) (c : Ct K R F H P Q) : spD K n φ vs H Q E :=
  ⟨by rw [← r.length, hl], F, ds, P, fun _ _ _ => False, wf.fh, r, hφ, fun v F2 H2 d ex2 r2 p => c v F2 H2 d (Ext.of_nil wf ex2) r2 p, ⟨fun _ _ _ _ _ _ _ z => z.elim, fun _ _ _ z => z.elim⟩⟩
/-- a method of a class -/
structure FnM (P : Program) (w : World) (K : PySem.W.Frag) (mg : Str → Option Value) (base : Heap) (k : Nat) (C : Addr) (m : Str) (ps : List Str) (dvs : List V) (sp : Sp) : Prop where
  ex : ∃ f fd ds, Meth K C m f ∧ Binds K fd ps ds ∧ Vals dvs ds ∧ FnOk P w K mg base (L2.CX P w) k f fd ps sp
theorem FnM.mono {P : Program} {w : World} {K : PySem.W.Frag} {mg : Str → Option Value} {base : Heap} {j k : Nat} {C : Addr} {m : Str} {ps : List Str} {dvs : List V} {sp : Sp} (F : FnM P w K mg base j C m ps dvs sp) (h : j ≤ k) : FnM P w K mg base k C m ps dvs sp := by
  obtain ⟨f, fd, ds, a, b, c, d⟩ := F.ex
  exact ⟨f, fd, ds, a, b, c, d.mono h⟩
/-- o.m(e, ..) -/
theorem e_meth {C : Addr} {m : Str} {ps : List Str} {dvs : List V} {dds : List Dt} {φ : Ph} {n j : Nat} {o e : Expr} {es : List Expr} {apos : Pos} {pl : Sem Bool} {P : Dt → Prop} (cl : Cls X.K C) (F : FnM X.prog X.w X.K X.mg X.base j C m ps dvs (spD X.K n φ)) (hr : Room j X.A) (hd : ∀ F, RpL X.K F dds dvs)
    (h : E X R G o fun d => ∃ ns xs, d = .obj C ns xs ∧ (ns.any fun z => z == m) = false ∧ EA X R G (e :: es) fun ds => (d :: (ds ++ dds)).length = n ∧ φ (d :: (ds ++ dds)) P fun _ _ _ => False)
    (hst : starEach (e :: es) X.env = (false, eval e X.env) :: starEach es X.env := by rfl) (hpl : (backTo pos (starEach es X.env)).any (·.1) = false := by rfl)
    (ht : eval (.Call (.Attribute o m apos) (e :: es) [] pos) X.env = (do
      let ov ← eval o X.env
      standAt apos.atName
      let (f, first) ← holding [ov] (getMethod ov m pl)
      callWith pos f first (backTo pos (starEach (e :: es) X.env)) (backToKw pos (keywordEach [] X.env))) := by rfl) : E X R G (.Call (.Attribute o m apos) (e :: es) [] pos) P := fun σ F' H Q ty c => by
  obtain ⟨f, fd, ds, a1, a3, a4, a5⟩ := F.ex
  refine tOf.of (pe_meth (pl := pl) pe_w cl a1 a5 hr a3 a4 passL pa_w hst hpl ht) (h σ F' H _ ty fun v F1 H1 d ex r ⟨ns, xs, ed, hno, h2⟩ => ?_)
  have r0 := r
  subst ed
  obtain ⟨a, dx, vs, rfl, h1, hl, rl⟩ := rp_obj.mp r
  refine ⟨a, dx, _, rfl, ex.wf.fh _ _ h1, fld_none hno, h2 σ F1 H1 _ (ty.ext ex) fun ws F2 H2 ds' ex2 r2 ⟨hl2, hφ⟩ => ?_⟩
  exact spD_of ex2.wf (.cons (r0.mono ex2.ff) (r2.append (hd F2))) hl2 hφ (c.step (ex.trans ex2))
theorem e_meth0 {C : Addr} {m : Str} {ps : List Str} {dvs : List V} {dds : List Dt} {φ : Ph} {n j : Nat} {o : Expr} {apos : Pos} {pl : Sem Bool} {P : Dt → Prop} (cl : Cls X.K C) (F : FnM X.prog X.w X.K X.mg X.base j C m ps dvs (spD X.K n φ)) (hr : Room j X.A) (hd : ∀ F, RpL X.K F dds dvs)
    (h : E X R G o fun d => ∃ ns xs, d = .obj C ns xs ∧ (ns.any fun z => z == m) = false ∧ (d :: dds).length = n ∧ φ (d :: dds) P fun _ _ _ => False)
    (ht : eval (.Call (.Attribute o m apos) [] [] pos) X.env = (do
      let ov ← eval o X.env
      standAt apos.atName
      let (f, first) ← holding [ov] (getMethod ov m pl)
      callWith pos f first (backTo pos (starEach [] X.env)) (backToKw pos (keywordEach [] X.env))) := by rfl) : E X R G (.Call (.Attribute o m apos) [] [] pos) P := fun σ F' H Q ty c => by
  obtain ⟨f, fd, ds, a1, a3, a4, a5⟩ := F.ex
  refine tOf.of (pe_meth0 (pl := pl) pe_w cl a1 a5 hr a3 a4 passL ht) (h σ F' H _ ty fun v F1 H1 d ex r ⟨ns, xs, ed, hno, hl2, hφ⟩ => ?_)
  have r0 := r
  subst ed
  obtain ⟨a, dx, vs, rfl, h1, hl, rl⟩ := rp_obj.mp r
  refine ⟨a, dx, _, rfl, ex.wf.fh _ _ h1, fld_none hno, ?_⟩
  exact spD_of ex.wf (.cons r0 (hd F1)) hl2 hφ (c.step ex)
/-- e.f, a property -/
structure FnP (P : Program) (w : World) (K : PySem.W.Frag) (mg : Str → Option Value) (base : Heap) (k : Nat) (C : Addr) (m : Str) (φ : Ph) : Prop where
  ex : ∃ j p g fd ps, j + 1 ≤ k ∧ PropOf K C m p g ∧ Binds K fd ps [] ∧ FnOk P w K mg base (L2.CX P w) j g fd ps (spD K 1 φ)
theorem FnP.mono {P : Program} {w : World} {K : PySem.W.Frag} {mg : Str → Option Value} {base : Heap} {j k : Nat} {C : Addr} {m : Str} {φ : Ph} (F : FnP P w K mg base j C m φ) (h : j ≤ k) : FnP P w K mg base k C m φ := by
  obtain ⟨i, p, g, fd, ps, a, b, c, d⟩ := F.ex
  exact ⟨i, p, g, fd, ps, Nat.le_trans a h, b, c, d⟩
theorem e_prop {C : Addr} {f : Str} {φ : Ph} {j : Nat} {e : Expr} {P : Dt → Prop} (cl : Cls X.K C) (F : FnP X.prog X.w X.K X.mg X.base j C f φ) (hr : Room j X.A) (h : E X R G e fun d => ∃ ns xs, d = .obj C ns xs ∧ φ [d] P fun _ _ _ => False)
    (hb : attributeBase e f X.env (eval e X.env) = eval e X.env := by rfl) : E X R G (.Attribute e f pos) P := fun σ F' H Q ty c => by
  obtain ⟨i, p, g, fd, ps, a0, a1, a3, a5⟩ := F.ex
  refine tOf.of (pe_prop pe_w cl a1 a5 (hr.mono a0) a3 .nil passL hb) (h σ F' H _ ty fun v F1 H1 d ex r ⟨ns, xs, ed, hφ⟩ => ?_)
  have r0 := r
  subst ed
  obtain ⟨a, dx, vs, rfl, h1, hl, rl⟩ := rp_obj.mp r
  exact ⟨a, dx, _, rfl, ex.wf.fh _ _ h1, spD_of ex.wf (.cons r0 .nil) rfl hφ (c.step ex)⟩
/-- C.m(e, ..), a classmethod -/
structure FnCm (P : Program) (w : World) (K : PySem.W.Frag) (mg : Str → Option Value) (base : Heap) (k : Nat) (C : Addr) (m : Str) (n : Nat) (φ : Ph) : Prop where
  ex : ∃ mc p g, ClX.CRead K C mc ∧ ClX.CMet K C mc m p g ∧ FnR P w K mg base (L2.CX P w) k g (spD K n φ)
theorem FnCm.mono {P : Program} {w : World} {K : PySem.W.Frag} {mg : Str → Option Value} {base : Heap} {j k : Nat} {C : Addr} {m : Str} {n : Nat} {φ : Ph} (F : FnCm P w K mg base j C m n φ) (h : j ≤ k) : FnCm P w K mg base k C m n φ := by
  obtain ⟨mc, p, g, a, b, c⟩ := F.ex
  exact ⟨mc, p, g, a, b, c.mono h⟩
theorem e_cmeth {C : Addr} {m : Str} {φ : Ph} {n j : Nat} {o e : Expr} {es : List Expr} {apos : Pos} {pl : Sem Bool} {P : Dt → Prop} (F : FnCm X.prog X.w X.K X.mg X.base j C m n φ) (hr : Room j X.A)
    (h : E X R G o fun d => d = .adr C ∧ EA X R G (e :: es) fun ds => (d :: ds).length = n ∧ φ (d :: ds) P fun _ _ _ => False)
    (hst : starEach (e :: es) X.env = (false, eval e X.env) :: starEach es X.env := by rfl) (hpl : (backTo pos (starEach es X.env)).any (·.1) = false := by rfl)
    (ht : eval (.Call (.Attribute o m apos) (e :: es) [] pos) X.env = (do
      let ov ← eval o X.env
      standAt apos.atName
      let (f, first) ← holding [ov] (getMethod ov m pl)
      callWith pos f first (backTo pos (starEach (e :: es) X.env)) (backToKw pos (keywordEach [] X.env))) := by rfl) : E X R G (.Call (.Attribute o m apos) (e :: es) [] pos) P := fun σ F' H Q ty c => by
  obtain ⟨mc, p, g, a1, a2, a3⟩ := F.ex
  refine tOf.of (ClX.pe_cmeth (pl := pl) pe_w a1 a2 a3 hr passL pa_w hst hpl ht) (h σ F' H _ ty fun v F1 H1 d ex r ⟨ed, h2⟩ => ?_)
  subst ed
  refine ⟨rp_adr.mp r, h2 σ F1 H1 _ (ty.ext ex) fun ws F2 H2 ds' ex2 r2 ⟨hl2, hφ⟩ => ?_⟩
  exact spD_of ex2.wf (.cons (rp_adr.mpr rfl) r2) hl2 hφ (c.step (ex.trans ex2))
/-! ### special methods -/
theorem FnM.run {C : Addr} {m : Str} {ps : List Str} {φ : Ph} {n j : Nat} (F : FnM X.prog X.w X.K X.mg X.base j C m ps [] (spD X.K n φ)) : ∃ f, Meth X.K C m f ∧
    (∀ {pins : List (Addr × Obj)} {σ : St} {H : Hp} {s : Shared} {Q : VK} {us : List Value} {vs : List V}, Room j X.A → Inv X pins σ H s → Vals vs us → spD X.K n φ vs H Q E0 → wpAny (model X.prog X.w) X.A (call (.ref f) us) (EP X pins σ Q) X.xe s) ∧
    (∀ {pins : List (Addr × Obj)} {σ : St} {H : Hp} {s : Shared} {Q : VK} {us : List Value} {vs : List V} {E' : Value → Shared → Prop}, Room (j + 1) X.A → Inv X pins σ H s → Vals vs us → spD X.K n φ vs H Q E0 → wpAny (model X.prog X.w) X.A.in1 (call (.ref f) us) (EP X pins σ Q) E' s) := by
  obtain ⟨f, fd, ds, a1, a3, a4, a5⟩ := F.ex
  have e : ds = [] := by cases a4; rfl
  subst e
  refine ⟨f, a1, fun hr I r h => run_fn a5 hr a3 .nil passL I r (by rw [List.append_nil]; exact h), fun {pins σ H s Q us vs E'} hr I r h => ?_⟩
  have hl : (us ++ []).length = ps.length := by rw [List.append_nil, ← r.length]; exact a5.len _ _ _ _ h
  refine wpAny_call (codeAny_mono (a5.run X.A.in1 X.stack s H ⟨us, []⟩ (us ++ []) vs Q E0 hr.in1 I.env0.in1 (a3 s us I.kIn hl) (by rw [List.append_nil]; exact r) h) fun r s' hq => ?_)
  cases r with
  | error er => exact (passL (X := X.nox) pins σ H s er s' (I.wish _) hq).elim
  | ok fl =>
    cases fl with
    | ret u => exact I.after hq
    | next => exact False.elim hq
    | brk => exact False.elim hq
    | cont => exact False.elim hq
theorem back_of {pins : List (Addr × Obj)} {σ : St} {Q : VK} {v : Value} {s : Shared} (h : EP X pins σ Q v s) : PySem.W.CmpBack (EP X pins σ Q) v s := by
  have h0 := h
  obtain ⟨x, H, I, r, q⟩ := h
  cases v <;> first | exact h0 | (cases x <;> first | exact absurd r (fun z => nomatch z) | (obtain ⟨_, z⟩ := r; cases z) | cases r)
end
end VS
set_option Elab.async false
set_option linter.all false
set_option maxRecDepth 100000
/-! own classes: operators. -/
namespace VS
open PySem PySem.Spec L2
section
open PySem.W (InstAt Looks)
variable {prog : Program} {w : World} {A : Around} {E : Value → Shared → Prop} {s : Shared} {K : PySem.W.Frag} {x C f : Addr} {ox : Obj} {od : Option Obj} {nm : String}
/-- one of C and one of C -/
theorem bin1_O {b : Value} {Q : Value → Shared → Prop} (KX : K.In s.heap) (J : InstAt s.heap x ox C od) (hb : Looks (model prog w) s.heap (typeOf b) (.ref C)) (sf : PySem.W.selfFirst K C = true)
    (hs : PySem.W.findIn K (.ref C) (PySem.dunder nm) = some (some (.ref f))) (hf : PySem.W.isFn K (.ref f) = true) (h : wpAny (model prog w) A (call (.ref f) [.ref x, b]) (PySem.W.CmpBack Q) E s) :
    wpAny (model prog w) A (binaryOp1 nm (.ref x) b) (fun r s' => ∃ v, r = some v ∧ Q v s') E s := by
  obtain ⟨cd, rest, c1, c2⟩ := PySem.W.ksp_first sf
  have one := PySem.W.ksp_try KX J hs hf h
  obtain ⟨hh, g, d, tt, os⟩ := s
  have t1 : Looks (model prog w) hh (typeOf (.ref x)) (.ref C) := J.type
  have t2 : Looks (model prog w) hh (fillsNumberSlot (.ref C) nm) true := PySem.W.fills_K KX c1 c2 hs
  have ee : (Value.ref C == Value.ref C) = true := by simp
  unfold binaryOp1
  refine wpAny_bind (t1.at (wpAny_bind (hb.at (wpAny_bind (t2.at ?_)))))
  simp only [ee, if_true, Bool.and_false, Bool.false_and, Bool.false_eq_true, if_false]
  ksp_lk
  refine wpAny_mono one (fun r s' z => ?_) fun _ _ z => z
  obtain ⟨v, rfl, hq⟩ := z
  ksp_lk
  exact ⟨v, rfl, hq⟩
/-- one of C and an int -/
theorem bin1_I {i : Int} {t : Tok} {fo ro rc : Option Value} {Q : Value → Shared → Prop} (KX : K.In s.heap) (J : InstAt s.heap x ox C od) (sf : PySem.W.selfFirst K C = true)
    (hs : PySem.W.findIn K (.ref C) (PySem.dunder nm) = some (some (.ref f))) (hf : PySem.W.isFn K (.ref f) = true) (k1 : PySem.W.findIn K (.ref C) (dunderR nm) = some rc) (k2 : rc = none ∨ ∃ g : Addr, rc = some (.ref g))
    (k3 : PySem.W.findIn K (.type "int") (PySem.dunder nm) = some fo) (k4 : PySem.W.findIn K (.type "int") (dunderR nm) = some ro) (k5 : PySem.W.subIn K (.type "int") (.ref C) = some false)
    (h : wpAny (model prog w) A (call (.ref f) [.ref x, .int i t]) (PySem.W.CmpBack Q) E s) : wpAny (model prog w) A (binaryOp1 nm (.ref x) (.int i t)) (fun r s' => ∃ v, r = some v ∧ Q v s') E s := by
  obtain ⟨cd, rest, c1, c2⟩ := PySem.W.ksp_first sf
  have one := PySem.W.ksp_try KX J hs hf h
  obtain ⟨hh, g, d, tt, os⟩ := s
  have t1 : Looks (model prog w) hh (typeOf (.ref x)) (.ref C) := J.type
  have t2 : Looks (model prog w) hh (typeOf (.int i t)) (.type "int") := Looks.of_pure rfl
  have t3 : Looks (model prog w) hh (fillsNumberSlot (.ref C) nm) true := PySem.W.fills_K KX c1 c2 hs
  have t4 := PySem.W.ksp_fillsT (M := model prog w) (T := "int") (nm := nm) KX k3 k4
  have t5 : Looks (model prog w) hh (isSubtype (.type "int") (.ref C)) false := PySem.W.looks_subIn KX k5
  have t6 : Looks (model prog w) hh (numberSlotInPython (.ref C) nm) true := PySem.W.ksp_inPy KX hs k1 k2
  have t7 : Looks (model prog w) hh (numberSlotInPython (.type "int") nm) false := Looks.of_pure rfl
  have t8 : Looks (model prog w) hh (typeLookup (.type "int") (dunderR nm)) ro := PySem.W.looks_findIn KX k4
  generalize ((fo.isSome && !isSeqSlot fo) || (ro.isSome && !isSeqSlot ro)) = right at t4
  have ee : (Value.ref C == Value.type "int") = false := by simp
  unfold binaryOp1
  refine wpAny_bind (t1.at (wpAny_bind (t2.at (wpAny_bind (t3.at ?_)))))
  simp only [ee, Bool.false_eq_true, if_false]
  cases right with
  | false =>
    ksp_lk
    refine wpAny_mono one (fun r s' z => ?_) fun _ _ z => z
    obtain ⟨v, rfl, hq⟩ := z
    ksp_lk
    exact ⟨v, rfl, hq⟩
  | true =>
    ksp_lk
    refine wpAny_mono one (fun r s' z => ?_) fun _ _ z => z
    obtain ⟨v, rfl, hq⟩ := z
    ksp_lk
    exact ⟨v, rfl, hq⟩
/-- int's own method declines -/
theorem int_declines {id : String} {name : Str} {i : Int} {t : Tok} {fn : String} {op : Int → Int → Sem Fin} {Q : Option Value → Shared → Prop} (J : InstAt s.heap x ox C od) (hd : ox.data = .plain) (sl : Slot "int" name id) (en : entryFor table id = some (Builtin.Int.intBinary fn op)) (ar : argsOk id ⟨[.int i t, .ref x], []⟩)
    (h : Q none s) : wpAny (model prog w) A (tryMethod (.int i t) name (.ref x)) Q E s := by
  refine wpAny_tryMethod_declines rfl sl (wpAny_call (codeAny_call_builtin sl.plain en (sl.check _ _ _ _ _ _ _ _ rfl ar ?_)))
  unfold Builtin.Int.intBinary
  have ho := J.at_
  obtain ⟨hh, g, d, tt, os⟩ := s
  wp_walk using wpAny_load ho
  simp only [hd]
  wp_walk
  exact ⟨rfl, h⟩
/-- an int and one of C -/
theorem bin1_R {id fn : String} {op : Int → Int → Sem Fin} {i : Int} {t : Tok} {fL : Addr} {Q : Value → Shared → Prop} (KX : K.In s.heap) (J : InstAt s.heap x ox C od) (hd : ox.data = .plain) (sf : PySem.W.selfFirst K C = true)
    (hs : PySem.W.findIn K (.ref C) (PySem.dunder nm) = some (some (.ref fL))) (hR : PySem.W.findIn K (.ref C) (dunderR nm) = some (some (.ref f))) (hf : PySem.W.isFn K (.ref f) = true) (k5 : PySem.W.subIn K (.ref C) (.type "int") = some false)
    (fl : fillsNumberSlot (.type "int") nm = pure true) (sl : Slot "int" (PySem.dunder nm) id) (en : entryFor table id = some (Builtin.Int.intBinary fn op)) (ar : argsOk id ⟨[.int i t, .ref x], []⟩)
    (h : wpAny (model prog w) A (call (.ref f) [.ref x, .int i t]) (PySem.W.CmpBack Q) E s) : wpAny (model prog w) A (binaryOp1 nm (.int i t) (.ref x)) (fun r s' => ∃ v, r = some v ∧ Q v s') E s := by
  obtain ⟨cd, rest, c1, c2⟩ := PySem.W.ksp_first sf
  have one := PySem.W.ksp_try KX J hR hf h
  have no : ∀ {Q' : Option Value → Shared → Prop}, Q' none s → wpAny (model prog w) A (tryMethod (.int i t) (PySem.dunder nm) (.ref x)) Q' E s := fun q => int_declines J hd sl en ar q
  obtain ⟨hh, g, d, tt, os⟩ := s
  have t1 : Looks (model prog w) hh (typeOf (.ref x)) (.ref C) := J.type
  have t2 : Looks (model prog w) hh (typeOf (.int i t)) (.type "int") := Looks.of_pure rfl
  have t3 : Looks (model prog w) hh (fillsNumberSlot (.ref C) nm) true := PySem.W.fills_K KX c1 c2 hs
  have t4 : Looks (model prog w) hh (fillsNumberSlot (.type "int") nm) true := Looks.of_pure fl
  have t5 : Looks (model prog w) hh (isSubtype (.ref C) (.type "int")) false := PySem.W.looks_subIn KX k5
  have t7 : Looks (model prog w) hh (numberSlotInPython (.type "int") nm) false := Looks.of_pure rfl
  have ee : (Value.type "int" == Value.ref C) = false := by simp
  unfold binaryOp1
  refine wpAny_bind (t2.at (wpAny_bind (t1.at (wpAny_bind (t4.at ?_)))))
  simp only [ee, Bool.false_eq_true, if_false]
  ksp_lk
  refine no ?_
  ksp_lk
  refine wpAny_mono one (fun r s' z => ?_) fun _ _ z => z
  obtain ⟨v, rfl, hq⟩ := z
  ksp_lk
  exact ⟨v, rfl, hq⟩
theorem bin_of1 {op : Operator} {a b : Value} {Q : Value → Shared → Prop} (h : wpAny (model prog w) A (binaryOp1 op.info.2 a b) (fun r s' => ∃ v, r = some v ∧ Q v s') E s) : wpAny (model prog w) A (binaryOp op a b) Q E s := by
  rcases hi : op.info with ⟨sym, nm'⟩
  rw [hi] at h
  simp only [binaryOp, hi]
  refine wpAny_holding (wpAny_bind (wpAny_mono h (fun r s' z => ?_) fun _ _ z => z))
  obtain ⟨v, rfl, hq⟩ := z
  exact wpAny_pure hq
/-- C has no op= of its own -/
theorem inp_no {M : Model} {h : Heap} {cd : ClassData} {add : Bool} (KX : K.In h) (c1 : PySem.W.clsIn K C = some cd) (c2 : cd.mro = [.ref C, .type "object"]) (h1 : PySem.W.findIn K (.ref C) (dunderI nm) = some none) (h2 : PySem.W.findIn K (.type "object") (dunderI nm) = some none) :
    Looks M h (fillsInplaceSlot (.ref C) nm add) false := by
  intro A Q E s k q
  have Lm : Looks M h (mroOf (.ref C)) cd.mro := (PySem.W.looks_clsIn KX c1).andThen (f := fun cd => pure cd.mro) .now
  have Lm' := Lm.keeps k
  obtain ⟨hh, g, d, tt, os⟩ := s
  have KY : K.In hh := KX.keeps k
  have l1 : Looks M hh (typeLookup (.ref C) (dunderI nm)) none := PySem.W.looks_findIn KY h1
  have l2 : Looks M hh (typeLookup (.type "object") (dunderI nm)) none := PySem.W.looks_findIn KY h2
  unfold fillsInplaceSlot
  refine wpAny_bind (Lm'.at ?_)
  rw [c2, List.anyM_cons, List.anyM_cons, List.anyM_nil]
  repeat lk
  exact q
theorem inp_of1 {op : Operator} {b : Value} {Q : Value → Shared → Prop} (J : InstAt s.heap x ox C od) (hn : ∀ add, Looks (model prog w) s.heap (fillsInplaceSlot (.ref C) op.info.2 add) false)
    (h : wpAny (model prog w) A (binaryOp1 op.info.2 (.ref x) b) (fun r s' => ∃ v, r = some v ∧ Q v s') E s) : wpAny (model prog w) A (inplaceOp op (.ref x) b) Q E s := by
  have one := h
  obtain ⟨hh, g, d, tt, os⟩ := s
  have t1 : Looks (model prog w) hh (typeOf (.ref x)) (.ref C) := J.type
  have t2 := hn (op == .Add)
  unfold inplaceOp
  refine wpAny_holding (wpAny_bind (t1.at (wpAny_bind (t2.at ?_))))
  simp only [Bool.false_eq_true, if_false]
  refine wpAny_bind (wpAny_mono one (fun r s' z => ?_) fun _ _ z => z)
  obtain ⟨v, rfl, hq⟩ := z
  exact wpAny_pure hq
end
section
variable {X : Cx} {R : Reg} {G : List Sl} {pos : Pos} {k : Kt}
/-- where an instance lies -/
theorem inst_at {pins : List (Addr × Obj)} {σ : St} {F H : Hp} {s : Shared} {a C dx : Addr} {fs : List (Str × V)} (I : Inv X pins σ H s) (w : Wf R F H) (h : F a = some (.ins C dx fs)) : ∃ od, PySem.W.InstAt s.heap a (PySem.W.instObj C dx) C (some od) := by
  obtain ⟨mA, O, _⟩ := ins_get I.hok (w.fh _ _ h)
  obtain ⟨od, J, _⟩ := O.look
  exact ⟨od, J⟩
/-- p op q, both of C -/
theorem w_binO {op : Operator} {C : Addr} {m : Str} {ps : List Str} {φ : Ph} {j : Nat} {ns ms : List Str} {xs ys : List Dt} {P : Dt → Prop} (F : FnM X.prog X.w X.K X.mg X.base j C m ps [] (spD X.K 2 φ)) (hm : PySem.dunder op.info.2 = m) (hr : Room j X.A) (sf : PySem.W.selfFirst X.K C = true)
    (hφ : φ [.obj C ns xs, .obj C ms ys] P fun _ _ _ => False) : W2 X R (binaryOp op) (.obj C ns xs) (.obj C ms ys) P := fun F0 H x y Q w rx ry c => by
  have rx0 := rx
  have ry0 := ry
  obtain ⟨a, dx, vs, rfl, h1, _, _⟩ := rp_obj.mp rx
  obtain ⟨b, dy, us, rfl, h2, _, _⟩ := rp_obj.mp ry
  obtain ⟨f, hM, run, _⟩ := F.run
  unfold opOf
  intro pins s σ v u I rv ru
  cases rv
  cases ru
  obtain ⟨od, J⟩ := inst_at I w h1
  obtain ⟨od', J'⟩ := inst_at I w h2
  obtain ⟨m', hF⟩ := I.fr
  subst hm
  exact PySem.W.binop_K hF I.ok.mod.kin J J'.type sf hM.at_ hM.fn (wpAny_mono (run (vs := [.ref a, .ref b]) hr I (.cons rfl (.cons rfl .nil)) (spD_of w (.cons rx0 (.cons ry0 .nil)) rfl hφ c)) (fun _ _ h => back_of h) fun _ _ h => h)
/-- what C and int tell of an operator -/
structure NumC (K : PySem.W.Frag) (C : Addr) (nm : String) : Prop where
  first : PySem.W.selfFirst K C = true
  r : ∃ rc, PySem.W.findIn K (.ref C) (dunderR nm) = some rc ∧ (rc = none ∨ ∃ g : Addr, rc = some (.ref g))
  l : ∃ fo, PySem.W.findIn K (.type "int") (PySem.dunder nm) = some fo
  rr : ∃ ro, PySem.W.findIn K (.type "int") (dunderR nm) = some ro
  sub : PySem.W.subIn K (.type "int") (.ref C) = some false
  sub2 : PySem.W.subIn K (.ref C) (.type "int") = some false
/-- p op n -/
theorem w_binI {op : Operator} {C : Addr} {m : Str} {ps : List Str} {φ : Ph} {j : Nat} {ns : List Str} {xs : List Dt} {i : Int} {P : Dt → Prop} (F : FnM X.prog X.w X.K X.mg X.base j C m ps [] (spD X.K 2 φ)) (hm : PySem.dunder op.info.2 = m) (hr : Room j X.A) (nc : NumC X.K C op.info.2)
    (hφ : φ [.obj C ns xs, .int i] P fun _ _ _ => False) : W2 X R (binaryOp op) (.obj C ns xs) (.int i) P := fun F0 H x y Q w rx ry c => by
  have rx0 := rx
  have ry0 := ry
  obtain ⟨a, dx, vs, rfl, h1, _, _⟩ := rp_obj.mp rx
  obtain rfl := rp_int.mp ry
  obtain ⟨f, hM, run, _⟩ := F.run
  unfold opOf
  intro pins s σ v u I rv ru
  cases rv
  obtain ⟨t, rfl⟩ := ru
  obtain ⟨od, J⟩ := inst_at I w h1
  obtain ⟨m', hF⟩ := I.fr
  obtain ⟨rc, e1, e2⟩ := nc.r
  obtain ⟨fo, e3⟩ := nc.l
  obtain ⟨ro, e4⟩ := nc.rr
  subst hm
  exact PySem.W.ksp_binT hF I.ok.mod.kin J rfl nc.first hM.at_ hM.fn e1 e2 e3 e4 nc.sub (wpAny_mono (run (vs := [.ref a, .int i]) hr I (.cons rfl (.cons ⟨t, rfl⟩ .nil)) (spD_of w (.cons rx0 (.cons ry0 .nil)) rfl hφ c)) (fun _ _ h => back_of h) fun _ _ h => h)
/-- -p -/
theorem w_negO {C : Addr} {ps : List Str} {φ : Ph} {j : Nat} {ns : List Str} {xs : List Dt} {P : Dt → Prop} (F : FnM X.prog X.w X.K X.mg X.base j C "__neg__" ps [] (spD X.K 1 φ)) (hr : Room j X.A)
    (hφ : φ [.obj C ns xs] P fun _ _ _ => False) : W1 X R (unaryOp .USub) (.obj C ns xs) P := fun F0 H x Q w rx c => by
  have rx0 := rx
  obtain ⟨a, dx, vs, rfl, h1, _, _⟩ := rp_obj.mp rx
  obtain ⟨f, hM, run, _⟩ := F.run
  unfold unOf
  intro pins s σ v I rv
  cases rv
  obtain ⟨od, J⟩ := inst_at I w h1
  obtain ⟨m', hF⟩ := I.fr
  exact PySem.W.ksp_neg hF I.ok.mod.kin J hM.at_ hM.fn (run (vs := [.ref a]) hr I (.cons rfl .nil) (spD_of w (.cons rx0 .nil) rfl hφ c))
/-- p == d -/
theorem w_eqO {C : Addr} {ps : List Str} {φ : Ph} {j : Nat} {ns : List Str} {xs : List Dt} {d : Dt} {t : Value} {P : Dt → Prop} (F : FnM X.prog X.w X.K X.mg X.base j C "__eq__" ps [] (spD X.K 2 φ)) (hr : Room j X.A) (hu : X.A.units < cLine) (ht : TyD X.K d t) (hn : PySem.W.notFirst X.K C t = true)
    (hφ : φ [.obj C ns xs, d] P fun _ _ _ => False) : W2 X R (compareOp .Eq) (.obj C ns xs) d P := fun F0 H x y Q w rx ry c => by
  have rx0 := rx
  obtain ⟨a, dx, vs, rfl, h1, _, _⟩ := rp_obj.mp rx
  obtain ⟨f, hM, run, _⟩ := F.run
  unfold opOf
  intro pins s σ v u I rv ru
  cases rv
  obtain ⟨od, J⟩ := inst_at I w h1
  obtain ⟨m', hF⟩ := I.fr
  have hty := ht F0 H y w.fh ry
  refine PySem.W.cmp_K (op := .Eq) hu hF I.ok.mod.kin J ?_ hn hM.at_ hM.fn (wpAny_mono (run (vs := [.ref a, y]) hr I (.cons rfl (.cons ru .nil)) (spD_of w (.cons rx0 (.cons ry .nil)) rfl hφ c)) (fun _ _ h => back_of h) fun _ _ h => h)
  obtain ⟨P', kx, hp⟩ := kit_of I ru hty
  exact kx.ty _ _ I.kIn hp.1
end
end VS
set_option Elab.async false
set_option linter.all false
set_option maxRecDepth 100000
/-! own classes: making; reflected and op= -/
namespace VS
open PySem PySem.Spec L2
section
variable {X : Cx} {R : Reg} {G : List Sl} {pos : Pos} {k : Kt}
/-- int's own method of an operator -/
structure IntOp (nm : String) : Prop where
  ex : ∃ (id fn : String) (f : Int → Int → Sem Fin), fillsNumberSlot (.type "int") nm = pure true ∧ Slot "int" (PySem.dunder nm) id ∧ entryFor table id = some (Builtin.Int.intBinary fn f) ∧ ∀ a b, argsOk id ⟨[a, b], []⟩
theorem io_add : IntOp "add" := ⟨_, _, _, F.fills_int_add, F.slot_int_add, F.entry_int_add, fun a b => F.args_int_add_2 a b⟩
theorem io_sub : IntOp "sub" := ⟨_, _, _, F.fills_int_sub, F.slot_int_sub, F.entry_int_sub, fun a b => F.args_int_sub_2 a b⟩
theorem io_mul : IntOp "mul" := ⟨_, _, _, F.fills_int_mul, F.slot_int_mul, F.entry_int_mul, fun a b => F.args_int_mul_2 a b⟩
/-- n op p -/
theorem w_binR {op : Operator} {C : Addr} {m mL : Str} {ps psL : List Str} {spL : Sp} {φ : Ph} {j jL : Nat} {ns : List Str} {xs : List Dt} {i : Int} {P : Dt → Prop} (F : FnM X.prog X.w X.K X.mg X.base j C m ps [] (spD X.K 2 φ)) (hm : dunderR op.info.2 = m) (hr : Room j X.A) (nc : NumC X.K C op.info.2) (io : IntOp op.info.2)
    (FL : FnM X.prog X.w X.K X.mg X.base jL C mL psL [] spL) (hmL : PySem.dunder op.info.2 = mL) (hφ : φ [.obj C ns xs, .int i] P fun _ _ _ => False) : W2 X R (binaryOp op) (.int i) (.obj C ns xs) P := fun F0 H y x Q w ry rx c => by
  have rx0 := rx
  have ry0 := ry
  obtain ⟨a, dx, vs, rfl, h1, _, _⟩ := rp_obj.mp rx
  obtain rfl := rp_int.mp ry
  obtain ⟨f, hM, run, _⟩ := F.run
  unfold opOf
  intro pins s σ v u I rv ru
  cases ru
  obtain ⟨t, rfl⟩ := rv
  obtain ⟨od, J⟩ := inst_at I w h1
  obtain ⟨id, fn, fo, e1, e2, e3, e4⟩ := io.ex
  obtain ⟨fL, _, _, hML, _⟩ := FL.ex
  have hL := hML.at_
  rw [← hmL] at hL
  subst hm
  exact bin_of1 (bin1_R I.kIn J rfl nc.first hL hM.at_ hM.fn nc.sub2 e1 e2 e3 (e4 _ _) (wpAny_mono (run (vs := [.ref a, .int i]) hr I (.cons rfl (.cons ⟨t, rfl⟩ .nil)) (spD_of w (.cons rx0 (.cons ry0 .nil)) rfl hφ c)) (fun _ _ h => back_of h) fun _ _ h => h))
/-! ### op= -/
@[irreducible] def ipOf (X : Cx) (op : Operator) : TIp := fun x y H Q => ∀ pins s σ v u, Inv X pins σ H s → RelV x v → RelV y u → wpAny (model X.prog X.w) X.A (inplaceOp op v u) (EP X pins σ Q) X.xe s
def WA (X : Cx) (R : Reg) (op : Operator) (a b : Dt) (P : Dt → Prop) : Prop := ∀ F H x y Q, Wf R F H → Rp X.K F a x → Rp X.K F b y → Ct X.K R F H P Q → ipOf X op x y H Q
theorem ip_w {op : Operator} : PIp X op (ipOf X op) := fun pins s σ H x y v u Q I rx ry h => by unfold ipOf at h; exact h pins s σ v u I rx ry
/-- x op= e -/
theorem s_aug (i : Nat) {x : Str} {e : Expr} {op : Operator} {pos' : Pos} {d : Dt} (hN : X.N.Nodup) (hg : G[i]? = some (.sh d) := by rfl) (h : E X R G e fun d2 => WA X R op d d2 fun r => k.nx (G.set i (.sh r))) (hi : X.N[i]? = some x := by rfl) (hx : Loc X.env.scope x := by first | exact Or.inl rfl | exact Or.inr rfl)
    (hf : X.fn x = true ∨ X.env.scope.names.lookup x = some .local := by first | exact .inl rfl | exact .inr rfl | assumption) : S1 X R (.AugAssign (.Name x pos') op e pos) G k := fun F0 H0 σ F H D ty b c => by
  obtain ⟨v, e1, y, e2, r⟩ := ty.sl.get hg
  refine s1Of.of (ps_aug hN hi hx pe_w ip_w hf) ⟨y, by rw [e1, e2], h σ F H _ ty fun z F1 H1 d2 ex r2 h2 => h2 F1 H1 y z _ ex.wf (r.mono ex.ff) r2 fun v2 F2 H2 d3 ex2 r3 p => ?_⟩
  exact c.nx _ _ F2 H2 p ((ty.ext (ex.trans ex2)).set i r3) ((b.step (ex.trans ex2)).set i)
/-- C has no op= of its own -/
structure NoInp (K : PySem.W.Frag) (C : Addr) (nm : String) : Prop where
  ex : ∃ cd, PySem.W.clsIn K C = some cd ∧ cd.mro = [.ref C, .type "object"] ∧ PySem.W.findIn K (.ref C) (dunderI nm) = some none ∧ PySem.W.findIn K (.type "object") (dunderI nm) = some none
theorem wa_O {op : Operator} {C : Addr} {m : Str} {ps : List Str} {φ : Ph} {j : Nat} {ns ms : List Str} {xs ys : List Dt} {P : Dt → Prop} (F : FnM X.prog X.w X.K X.mg X.base j C m ps [] (spD X.K 2 φ)) (hm : PySem.dunder op.info.2 = m) (hr : Room j X.A) (sf : PySem.W.selfFirst X.K C = true) (ni : NoInp X.K C op.info.2)
    (hφ : φ [.obj C ns xs, .obj C ms ys] P fun _ _ _ => False) : WA X R op (.obj C ns xs) (.obj C ms ys) P := fun F0 H x y Q w rx ry c => by
  have rx0 := rx
  have ry0 := ry
  obtain ⟨a, dx, vs, rfl, h1, _, _⟩ := rp_obj.mp rx
  obtain ⟨b, dy, us, rfl, h2, _, _⟩ := rp_obj.mp ry
  obtain ⟨f, hM, run, _⟩ := F.run
  unfold ipOf
  intro pins s σ v u I rv ru
  cases rv
  cases ru
  obtain ⟨od, J⟩ := inst_at I w h1
  obtain ⟨od', J'⟩ := inst_at I w h2
  obtain ⟨cd, c1, c2, c3, c4⟩ := ni.ex
  subst hm
  exact inp_of1 J (fun add => inp_no I.kIn c1 c2 c3 c4) (bin1_O I.kIn J J'.type sf hM.at_ hM.fn (wpAny_mono (run (vs := [.ref a, .ref b]) hr I (.cons rfl (.cons rfl .nil)) (spD_of w (.cons rx0 (.cons ry0 .nil)) rfl hφ c)) (fun _ _ h => back_of h) fun _ _ h => h))
theorem wa_I {op : Operator} {C : Addr} {m : Str} {ps : List Str} {φ : Ph} {j : Nat} {ns : List Str} {xs : List Dt} {i : Int} {P : Dt → Prop} (F : FnM X.prog X.w X.K X.mg X.base j C m ps [] (spD X.K 2 φ)) (hm : PySem.dunder op.info.2 = m) (hr : Room j X.A) (nc : NumC X.K C op.info.2) (ni : NoInp X.K C op.info.2)
    (hφ : φ [.obj C ns xs, .int i] P fun _ _ _ => False) : WA X R op (.obj C ns xs) (.int i) P := fun F0 H x y Q w rx ry c => by
  have rx0 := rx
  have ry0 := ry
  obtain ⟨a, dx, vs, rfl, h1, _, _⟩ := rp_obj.mp rx
  obtain rfl := rp_int.mp ry
  obtain ⟨f, hM, run, _⟩ := F.run
  unfold ipOf
  intro pins s σ v u I rv ru
  cases rv
  obtain ⟨t, rfl⟩ := ru
  obtain ⟨od, J⟩ := inst_at I w h1
  obtain ⟨rc, e1, e2⟩ := nc.r
  obtain ⟨fo, e3⟩ := nc.l
  obtain ⟨ro, e4⟩ := nc.rr
  obtain ⟨cd, c1, c2, c3, c4⟩ := ni.ex
  subst hm
  exact inp_of1 J (fun add => inp_no I.kIn c1 c2 c3 c4) (bin1_I I.kIn J nc.first hM.at_ hM.fn e1 e2 e3 e4 nc.sub (wpAny_mono (run (vs := [.ref a, .int i]) hr I (.cons rfl (.cons ⟨t, rfl⟩ .nil)) (spD_of w (.cons rx0 (.cons ry0 .nil)) rfl hφ c)) (fun _ _ h => back_of h) fun _ _ h => h))
end
/-! ### making -/
section
variable {P : Program} {w : World} {K : PySem.W.Frag} {mg : Str → Option Value} {base : Heap}
/-- from an __init__'s promise to the class's: given arguments one by one -/
theorem mk_spD {CX : CXT} {C fI : Addr} {k m : Nat} {φ : Ph} (M : Mk K C fI) (F : FnR P w K mg base CX k fI (spIni K C m φ)) (hup : StX.CXUp CX) : FnR P w K mg base CX (k + 1) C (spD K m φ) := by
  refine (mk_fnR M F hup).imp fun vs H Q E hs x dx hx hdx ne => ?_
  obtain ⟨hl, F0, ds, q, xd, sf, r, hφ, hq, hxo⟩ := hs
  have ex1 := (wf_nil sf).own (o := .own x) hdx
  have hx' : (upd H dx (.own x)) x = none := by rw [upd_ne (Ne.symm ne)]; exact hx
  have ex2 := ex1.wf.own (o := .ins C dx []) hx'
  exact ⟨by rw [List.length_cons, hl], x, dx, vs, F0, H, F0, ds, q, xd, rfl, sf, ex1.trans ex2, hx, sf.free hx, upd_same, r, hφ, fun F' H' d ex rd qd => ⟨rfl, hq _ F' H' d ex rd qd⟩, hxo⟩
theorem upd_comm {H : Hp} {a b : Addr} {u v : HO} (h : a ≠ b) : upd (upd H a u) b v = upd (upd H b v) a u := by
  funext c
  by_cases e1 : c = a
  · subst e1
    rw [upd_ne h, upd_same, upd_same]
  · by_cases e2 : c = b
    · subst e2
      rw [upd_same, upd_ne e1, upd_same]
    · rw [upd_ne e2, upd_ne e1, upd_ne e1, upd_ne e2]
def spIniS (K : PySem.W.Frag) (C : Addr) (φ : Ph) : Sp := fun vs H Q E => ∃ ws rest, vs = ws ++ rest ∧ ws.length = 1 ∧ rest.length ≤ sizeLine ∧ ∀ p, H p = Option.none → spIni K C 1 φ (ws ++ [V.ref p]) (upd H p (.tup rest)) Q E
/-- .. given a star -/
theorem mk_spSt {CX : CXT} {C fI : Addr} {k : Nat} {φ : Ph} (M : Mk K C fI) (F : FnR P w K mg base CX k fI (spIniS K C φ)) (hup : StX.CXUp CX) : FnR P w K mg base CX (k + 1) C (spSt K φ) := by
  refine (mk_fnR M F hup).imp fun vs H Q E hs x dx hx hdx ne => ?_
  obtain ⟨hz, hs⟩ := hs
  refine ⟨[.ref x], vs, rfl, rfl, hz, fun p hp => ?_⟩
  have px : p ≠ x := fun z => by rw [z, upd_same] at hp; cases hp
  have hp1 : (upd H dx (.own x)) p = none := by rw [upd_ne px] at hp; exact hp
  have pdx : p ≠ dx := fun z => by rw [z, upd_same] at hp1; cases hp1
  have hp0 : H p = none := by rw [upd_ne pdx] at hp1; exact hp1
  obtain ⟨hl, F0, ds, q, xd, sf, r, hφ, hq, hxo⟩ := hs p hp0
  have eH : upd (upd (upd H dx (.own x)) x (.ins C dx [])) p (.tup vs) = upd (upd (upd H p (.tup vs)) dx (.own x)) x (.ins C dx []) := by
    rw [upd_comm (Ne.symm px), upd_comm (H := H) (Ne.symm pdx)]
  rw [eH]
  have hdx' : (upd H p (.tup vs)) dx = none := by rw [upd_ne (Ne.symm pdx)]; exact hdx
  have hx0 : (upd H p (.tup vs)) x = none := by rw [upd_ne (Ne.symm px)]; exact hx
  have ex1 := (wf_nil sf).own (o := .own x) hdx'
  have hx' : (upd (upd H p (.tup vs)) dx (.own x)) x = none := by rw [upd_ne (Ne.symm ne)]; exact hx0
  have ex2 := ex1.wf.own (o := .ins C dx []) hx'
  exact ⟨rfl, x, dx, [.ref p], F0, _, F0, ds, q, xd, rfl, sf, ex1.trans ex2, hx0, sf.free hx0, upd_same, r, hφ, fun F' H' d ex rd qd => ⟨rfl, hq _ F' H' d ex rd qd⟩, hxo⟩
/-- __init__(self, *v) -/
theorem iniS_ok {x qual : Str} {st : Stmt} {f C : Addr} {fd : FuncData} {kws : List (Str × V)} {N : List Str} {ps pv : Str} {k : Nat} {φ : Ph} (F : FD K x qual st [] kws f fd) (Sc : FnScope N [ps, pv] (defScope st))
    (hb : ∀ (kV doc pm : Value) (an : Option Addr) (cdv ct : Value) (u : Value) (rest : List Value), bindArgs (PySem.W.fnOf x qual (defArgs st) (defBody st) (defScope st) .none kV doc pm an cdv ct) ⟨u :: rest, []⟩ = (newTuple rest >>= fun t => pure [(ps, u), (pv, t)]))
    (h : ∀ (X : Cx) (cdv : Value) (A : Around) (outer : List Env) (s : Shared) (H : Hp) (E : XK) (a : Addr) (ds : List Dt) (q : Dt → Prop) (xd : XD), X = cxOf (L2.CX P w) P w K mg base N qual (defScope st) f cdv A outer s H E → Room k X.A → φ ds q xd → ds.length = 1 →
      S X .nil (defBody st) (stI N a C ds) { nx := fun G => ∃ d G', G = .ow (.at_ a d) :: G' ∧ q d, rt := fun _ => False }) : FnR P w K mg base (L2.CX P w) (k + 1) f (spIniS K C φ) := by
  obtain ⟨oc, od, dV, kV, doc, pm, an, cdv, ct, osl, rfl, lk, hcd, hD, _⟩ := F.ex
  have hdn : dV = .none := by
    rcases hD with ⟨_, h0⟩ | ⟨h0, _⟩
    · exact h0
    · exact (h0 rfl).elim
  subst hdn
  exact StX.fn_star (k := k) (P := P) (w := w) (mg := mg) (base := base) (CX := L2.CX P w) (ps := [ps]) (pv := pv) (sp := spIni K C 1 φ) lk hcd Sc StX.cxUp (fun us rest hl => by
    match us, hl with
    | [u], _ => exact hb kV doc pm an cdv ct u rest) (fun A outer s H vs Q E hr hh => ini_run (CX := L2.CX P w) hh rfl fun a ds q xd hφ hl F1 H0 _ _ => h _ cdv A outer s H E a ds q xd rfl hr hφ hl)
/-- __init__(self, a, ..) -/
theorem iniD_ok {x qual : Str} {st : Stmt} {f C : Addr} {fd : FuncData} {dvs : List V} {kws : List (Str × V)} {N ps : List Str} {k m : Nat} {φ : Ph} (F : FD K x qual st dvs kws f fd) (Sc : FnScope N ps (defScope st)) (hn : m + 1 = ps.length)
    (h : ∀ (X : Cx) (cdv : Value) (A : Around) (outer : List Env) (s : Shared) (H : Hp) (E : XK) (a : Addr) (ds : List Dt) (q : Dt → Prop) (xd : XD), X = cxOf (L2.CX P w) P w K mg base N qual (defScope st) f cdv A outer s H E → Room k X.A → φ ds q xd → ds.length = m →
      S X .nil (defBody st) (stI N a C ds) { nx := fun G => ∃ d G', G = .ow (.at_ a d) :: G' ∧ q d, rt := fun _ => False }) : FnOk P w K mg base (L2.CX P w) (k + 1) f fd ps (spIni K C m φ) := by
  refine FunD.ok F Sc (fun vs H Q E hh => by rw [hh.1, hn]) fun cdv A outer s H vs Q E hr hh => ?_
  exact ini_run (CX := L2.CX P w) hh rfl fun a ds q xd hφ hl F1 H0 _ _ => h _ cdv A outer s H E a ds q xd rfl hr hφ hl
theorem raw0 {CX : CXT} {f : Addr} {fd : FuncData} {ps : List Str} {k : Nat} {sp : Sp} (F : FnOk P w K mg base CX k f fd ps sp) (hb : Binds K fd ps []) : FnR P w K mg base CX k f sp := (F.raw hb .nil).imp fun vs H Q E h => by rw [List.append_nil]; exact h
/-- a class called with so many arguments -/
structure FnC (P : Program) (w : World) (K : PySem.W.Frag) (mg : Str → Option Value) (base : Heap) (k : Nat) (x : Str) (n : Nat) (φ : Ph) : Prop where
  ex : ∃ f : Addr, mg x = some (.ref f) ∧ PySem.W.keepIn K (.ref f) = true ∧ FnR P w K mg base (L2.CX P w) k f (spD K n φ)
theorem FnC.mono {P : Program} {w : World} {K : PySem.W.Frag} {mg : Str → Option Value} {base : Heap} {j k : Nat} {x : Str} {n : Nat} {φ : Ph} (F : FnC P w K mg base j x n φ) (h : j ≤ k) : FnC P w K mg base k x n φ := by
  obtain ⟨f, a, b, c⟩ := F.ex
  exact ⟨f, a, b, c.mono h⟩
/-- a method that is called one unit deeper -/
structure FnI (P : Program) (w : World) (K : PySem.W.Frag) (mg : Str → Option Value) (base : Heap) (k : Nat) (C : Addr) (m : Str) (ps : List Str) (dvs : List V) (sp : Sp) : Prop where
  ex : ∃ j, j + 1 ≤ k ∧ FnM P w K mg base j C m ps dvs sp
theorem FnI.mono {P : Program} {w : World} {K : PySem.W.Frag} {mg : Str → Option Value} {base : Heap} {j k : Nat} {C : Addr} {m : Str} {ps : List Str} {dvs : List V} {sp : Sp} (F : FnI P w K mg base j C m ps dvs sp) (h : j ≤ k) : FnI P w K mg base k C m ps dvs sp := by
  obtain ⟨i, a, b⟩ := F.ex
  exact ⟨i, Nat.le_trans a h, b⟩
end
end VS
set_option Elab.async false
set_option linter.all false
set_option maxRecDepth 100000
/-! own classes: instances called. -/
namespace VS
open PySem PySem.Spec L2
section
variable {M : Model} {A : Around} {E : Value → Shared → Prop} {s : Shared} {env : Env} {pos : Pos} {x C : Addr} {Q : Value → Shared → Prop}
theorem call_inst {as : List (Bool × Sem Value)} (hp : (as.any (·.1) || ([] : List (Option Str × Sem Value)).any (·.1.isNone)) = false)
    (h : wpAny M A (evalArgs (.ref x) true as []) (fun r s1 => (∃ ob od, PySem.W.InstAt s1.heap x ob C od ∧ ob.data = .plain) ∧ wpAny M A (call (.ref x) ([] ++ r.pos) r.kw) Q E s1) E s) : wpAny M A (callWith pos (.ref x) [] as []) Q E s := by
  unfold callWith
  refine wpAny_bind (wpAny_holding (wpAny_mono h (fun r s1 z => wpAny_bind (wpAny_standAt ?_)) fun _ _ z => z))
  obtain ⟨⟨ob, od, J, hd⟩, z⟩ := z
  have kp := PySem.W.kco_keeper (M := M) J hd
  simp only [hp]
  refine wpAny_bind (kp.here ?_)
  have fin : ∀ {t : Sem Value}, wpAny M A t Q E s1 → wpAny M A (t >>= fun r => holding [r] point >>= fun _ => pure r) Q E s1 := fun q =>
    wpAny_bind (wpAny_mono q (fun r s2 z2 => wpAny_bind (wpAny_holding (wpAny_point (wpAny_pure z2)))) fun _ _ z2 => z2)
  exact fin (wpAny_operateT z)
end
section
variable {X : Cx} {R : Reg} {G : List Sl} {pos : Pos} {k : Kt}
/-- o(e, ..), o of C -/
theorem e_callO {C : Addr} {ps : List Str} {φ : Ph} {n j : Nat} {o e : Expr} {es : List Expr} {P : Dt → Prop} (F : FnM X.prog X.w X.K X.mg X.base j C "__call__" ps [] (spD X.K n φ)) (hfi : ∀ f, PySem.W.findIn X.K (.ref C) "__call__" = some (some (.ref f)) → PySem.W.fnIn X.K f = true) (hr : Room j X.A)
    (h : E X R G o fun d => ∃ ns xs, d = .obj C ns xs ∧ EA X R G (e :: es) fun ds => (d :: ds).length = n ∧ φ (d :: ds) P fun _ _ _ => False)
    (hst : starEach (e :: es) X.env = (false, eval e X.env) :: starEach es X.env := by rfl) (hpl : (backTo pos (starEach es X.env)).any (·.1) = false := by rfl)
    (he : eval (.Call o (e :: es) [] pos) X.env = (do callWith pos (← eval o X.env) [] (backTo pos (starEach (e :: es) X.env)) (backToKw pos (keywordEach [] X.env))) := by rfl) : E X R G (.Call o (e :: es) [] pos) P := fun σ F' H Q ty c => by
  obtain ⟨f, fd, dv, hM, hb, hv, hF⟩ := F.ex
  have ed : dv = [] := by cases hv; rfl
  subst ed
  have ht := h σ F' H (fun v H1 => ∃ F1 d ns xs, Ext R F' H F1 H1 ∧ Rp X.K F1 d v ∧ d = .obj C ns xs ∧ EA X R G (e :: es) fun ds => (d :: ds).length = n ∧ φ (d :: ds) P fun _ _ _ => False) ty fun v F1 H1 d ex r ⟨ns, xs, e1, e2⟩ => ⟨F1, d, ns, xs, ex, r, e1, e2⟩
  unfold tOf
  intro pins s I
  refine PyProof.Rows.Call_ (thn (pe_w.run pins s σ H _ I ht) fun u s1 ⟨v, H1, I1, rv, F1, d, ns, xs, ex, r, e1, e2⟩ => ?_) he
  have r0 := r
  subst e1
  obtain ⟨a, dx, vs, rfl, h1, _, _⟩ := rp_obj.mp r
  cases rv
  have hta := e2 σ F1 H1 (fun ws H2 => ∃ F2, Ext R F1 H1 F2 H2 ∧ spD X.K n φ (.ref a :: ws) H2 Q E0) (ty.ext ex) fun ws F2 H2 ds ex2 r2 ⟨hl, hφ⟩ => ⟨F2, ex2, spD_of ex2.wf (.cons (r0.mono ex2.ff) r2) hl hφ (c.step (ex.trans ex2))⟩
  have hpa : wpAny (model X.prog X.w) X.A (spliced (backTo pos (starEach (e :: es) X.env))) (fun us s2 => (∃ ob od, PySem.W.InstAt s2.heap a ob C od ∧ ob.data = .plain) ∧ wpAny (model X.prog X.w) X.A (call (.ref a) ([] ++ us)) (EP X pins σ Q) X.xe s2) X.xe s1 := by
    refine thn (pa_w.run pos pins s1 σ H1 _ I1 hta) fun us s2 ⟨ws, H2, I2, r2, F2, ex2, q2⟩ => ?_
    obtain ⟨od, J⟩ := inst_at I2 ex2.wf (ex2.ff _ _ h1)
    refine ⟨⟨_, _, J, rfl⟩, ?_⟩
    have r3 : Vals (.ref a :: ws) (Value.ref a :: us) := .cons rfl r2
    have hl : ((Value.ref a :: us) ++ []).length = ps.length := by rw [List.append_nil, ← r3.length]; exact hF.len _ _ _ _ q2
    refine wpAny_call (PySem.W.kco_code I2.kIn J rfl hM.at_ hM.fn (hfi f hM.at_) (codeAny_mono (hF.run X.A X.stack s2 H2 ⟨Value.ref a :: us, []⟩ ((Value.ref a :: us) ++ []) (.ref a :: ws) Q E0 hr I2.env0 (hb s2 (Value.ref a :: us) I2.kIn hl) (by rw [List.append_nil]; exact r3) q2) fun rr s' hq => ?_))
    cases rr with
    | error er => exact passL pins σ H2 s2 er s' I2 hq
    | ok fl =>
      cases fl with
      | ret u => exact I2.after hq
      | next => exact False.elim hq
      | brk => exact False.elim hq
      | cont => exact False.elim hq
  rw [hst] at hpa ⊢
  exact call_inst (C := C) (by show ((false || (backTo pos (starEach es X.env)).any (·.1)) || false) = false; rw [hpl]; rfl) (PySem.Calls.evalArgs_plain hpa)
end
end VS
set_option Elab.async false
set_option linter.all false
set_option maxRecDepth 100000
/-! the class Poly: what its text tells. -/
namespace VS
open PySem PySem.Spec L2
def numB (K : PySem.W.Frag) (C : Addr) (nm : String) : Bool := PySem.W.selfFirst K C && ((match PySem.W.findIn K (.ref C) (dunderR nm) with
    | some none => true
    | some (some (.ref _)) => true
    | _ => false) && ((PySem.W.findIn K (.type "int") (PySem.dunder nm)).isSome && ((PySem.W.findIn K (.type "int") (dunderR nm)).isSome && (decide (PySem.W.subIn K (.type "int") (.ref C) = some false) && decide (PySem.W.subIn K (.ref C) (.type "int") = some false)))))
theorem numB_ok {K : PySem.W.Frag} {C : Addr} {nm : String} (h : numB K C nm = true) : NumC K C nm := by
  obtain ⟨h1, h⟩ := He.ba h
  obtain ⟨h2, h⟩ := He.ba h
  obtain ⟨h3, h⟩ := He.ba h
  obtain ⟨h4, h⟩ := He.ba h
  obtain ⟨h5, h6⟩ := He.ba h
  refine ⟨h1, ?_, Option.isSome_iff_exists.mp h3, Option.isSome_iff_exists.mp h4, of_decide_eq_true h5, of_decide_eq_true h6⟩
  split at h2
  · rename_i e
    exact ⟨none, e, .inl rfl⟩
  · rename_i g e
    exact ⟨_, e, .inr ⟨g, rfl⟩⟩
  · cases h2
def inpB (K : PySem.W.Frag) (C : Addr) (nm : String) : Bool := (match PySem.W.clsIn K C with
    | some cd => decide (cd.mro = [.ref C, .type "object"])
    | none => false) && (decide (PySem.W.findIn K (.ref C) (dunderI nm) = some none) && decide (PySem.W.findIn K (.type "object") (dunderI nm) = some none))
theorem inpB_ok {K : PySem.W.Frag} {C : Addr} {nm : String} (h : inpB K C nm = true) : NoInp K C nm := by
  obtain ⟨h1, h⟩ := He.ba h
  obtain ⟨h2, h3⟩ := He.ba h
  cases e : PySem.W.clsIn K C with
  | none => rw [e] at h1; cases h1
  | some cd =>
    rw [e] at h1
    exact ⟨cd, e, of_decide_eq_true h1, of_decide_eq_true h2, of_decide_eq_true h3⟩
/-- the type of an instance -/
def tyB (K : PySem.W.Frag) (C : Addr) : Bool := decide (PySem.W.findIn K (.ref C) "__class__" = some (some (.builtin "object.__class__"))) && (decide (PySem.W.specialIn K (.builtin "object.__class__") "__get__" = some (some (.builtin "getset_descriptor.__get__"))) && (decide (PySem.W.takesIn K (.builtin "object.__class__") = some true) && decide (PySem.W.mroIn K C (.type "object") = some true)))
theorem tyB_ok {K : PySem.W.Frag} {C : Addr} (h : tyB K C = true) (cl : Cls K C) (ns : List Str) (xs : List Dt) : TyD K (.obj C ns xs) (.ref C) := fun F H x s r => by
  obtain ⟨h1, h⟩ := He.ba h
  obtain ⟨h2, h⟩ := He.ba h
  obtain ⟨h3, h4⟩ := He.ba h
  obtain ⟨a, dx, vs, rfl, e, _⟩ := rp_obj.mp r
  exact .base (.ins (s _ _ e) cl (of_decide_eq_true h1) (of_decide_eq_true h2) (of_decide_eq_true h3) (of_decide_eq_true h4))
def clsC (K : PySem.W.Frag) (C : Addr) : Bool := PySem.W.plainGet K C Str.empty && (PySem.W.hasDictIn K C && (PySem.W.plainOver K C && decide (PySem.W.findIn K (.ref C) "__setattr__" = some (some (.builtin "object.__setattr__")))))
theorem clsC_ok {K : PySem.W.Frag} {C : Addr} (h : clsC K C = true) : Cls K C := by
  obtain ⟨h1, h⟩ := He.ba h
  obtain ⟨h2, h⟩ := He.ba h
  obtain ⟨h3, h4⟩ := He.ba h
  exact ⟨h1, h2, h3, of_decide_eq_true h4⟩
def mkB (K : PySem.W.Frag) (C : Addr) : Bool := PySem.W.makesIn K C && (decide (PySem.W.findIn K (.ref C) "__init__" = some (some (.ref (He.ma K C "__init__")))) && (PySem.W.isFn K (.ref (He.ma K C "__init__")) && PySem.W.keepIn K (.ref C)))
theorem mkB_ok {K : PySem.W.Frag} {C : Addr} (h : mkB K C = true) : Mk K C (He.ma K C "__init__") := by
  obtain ⟨h1, h⟩ := He.ba h
  obtain ⟨h2, h⟩ := He.ba h
  obtain ⟨h3, h4⟩ := He.ba h
  exact ⟨h1, of_decide_eq_true h2, h3, h4⟩
def methB (K : PySem.W.Frag) (C : Addr) (m : Str) : Bool := decide (PySem.W.findIn K (.ref C) m = some (some (.ref (He.ma K C m)))) && (PySem.W.isFn K (.ref (He.ma K C m)) && PySem.W.keepIn K (.ref (He.ma K C m)))
theorem methB_ok {K : PySem.W.Frag} {C : Addr} {m : Str} (h : methB K C m = true) : Meth K C m (He.ma K C m) := by
  obtain ⟨h1, h⟩ := He.ba h
  obtain ⟨h2, h3⟩ := He.ba h
  exact ⟨of_decide_eq_true h1, h2, h3⟩
def propB (K : PySem.W.Frag) (C : Addr) (m : Str) : Bool := decide (PySem.W.findIn K (.ref C) m = some (some (.ref (He.ma K C m)))) && (decide (PySem.W.specialIn K (.ref (He.ma K C m)) "__get__" = some (some (.builtin "property.__get__"))) && (decide (PySem.W.takesIn K (.ref (He.ma K C m)) = some true) && (match PySem.W.recIn K (He.ma K C m) "property" with
    | some (.ref _ :: _) => true
    | _ => false)))
theorem propB_ok {K : PySem.W.Frag} {C : Addr} {m : Str} (h : propB K C m = true) : PropOf K C m (He.ma K C m) (He5.wf K C "property" m) := by
  obtain ⟨h1, h⟩ := He.ba h
  obtain ⟨h2, h⟩ := He.ba h
  obtain ⟨h3, h4⟩ := He.ba h
  refine ⟨of_decide_eq_true h1, of_decide_eq_true h2, of_decide_eq_true h3, ?_⟩
  unfold He5.wf
  split at h4
  · rename_i f r e
    exact ⟨r, by rw [e]⟩
  · cases h4
def creadB (K : PySem.W.Frag) (C : Addr) : Bool := PySem.W.readsIn K C (.type "type") && decide (PySem.W.specialIn K (.ref C) "__getattribute__" = some (some (.builtin "type.__getattribute__")))
theorem creadB_ok {K : PySem.W.Frag} {C : Addr} (h : creadB K C = true) : ClX.CRead K C (.type "type") := by
  obtain ⟨h1, h2⟩ := He.ba h
  exact ⟨h1, of_decide_eq_true h2⟩
def cmetB (K : PySem.W.Frag) (C : Addr) (m : Str) : Bool := He5.wrapB K C "classmethod" "classmethod.__get__" m && PySem.W.fnIn K (He5.wf K C "classmethod" m)
theorem cmetB_ok {K : PySem.W.Frag} {C : Addr} {m : Str} (h : cmetB K C m = true) : ClX.CMet K C (.type "type") m (He.ma K C m) (He5.wf K C "classmethod" m) := by
  obtain ⟨h1, h2⟩ := He.ba h
  exact He5.cmet_of h1 h2
/-- the plain types that are no Poly -/
def plainT : List String := ["int", "bool", "tuple", "list", "str", "NoneType", "dict"]
def notB (K : PySem.W.Frag) (C : Addr) : Bool := plainT.all fun T => decide (PySem.W.kitOne K (.type T) (.ref C) = some false) && PySem.W.notFirst K C (.type T)
theorem notB_ok {K : PySem.W.Frag} {C : Addr} (h : notB K C = true) {T : String} (hT : T ∈ plainT) : PySem.W.kitOne K (.type T) (.ref C) = some false ∧ PySem.W.notFirst K C (.type T) = true := by
  obtain ⟨h1, h2⟩ := He.ba (List.all_eq_true.mp h T hT)
  exact ⟨of_decide_eq_true h1, h2⟩
structure PolyC (K : PySem.W.Frag) (C : Addr) : Prop where
  cl : Cls K C
  na_coefs : NoAttr K C "coefs"
  ty : ∀ ns xs, TyD K (.obj C ns xs) (.ref C)
  add : NumC K C "add"
  sub : NumC K C "sub"
  mul : NumC K C "mul"
  fdiv : NumC K C "floordiv"
  pow : NumC K C "pow"
  iadd : NoInp K C "add"
  isub : NoInp K C "sub"
  imul : NoInp K C "mul"
  self : PySem.W.kitOne K (.ref C) (.ref C) = some true
  no : ∀ T, T ∈ plainT → PySem.W.kitOne K (.type T) (.ref C) = some false ∧ PySem.W.notFirst K C (.type T) = true
  seq : PySem.W.noSeq K C = true
  call : ∀ f, PySem.W.findIn K (.ref C) "__call__" = some (some (.ref f)) → PySem.W.fnIn K f = true
def polyB (K : PySem.W.Frag) (C : Addr) : Bool := clsC K C && (decide (PySem.W.findIn K (.ref C) "coefs" = some none) && (tyB K C && (numB K C "add" && (numB K C "sub" && (numB K C "mul" && (numB K C "floordiv" && (numB K C "pow" && (inpB K C "add" && (inpB K C "sub" && (inpB K C "mul" && (decide (PySem.W.kitOne K (.ref C) (.ref C) = some true) && (notB K C && (PySem.W.noSeq K C && PySem.W.fnIn K (He.ma K C "__call__"))))))))))))))
theorem polyB_ok {K : PySem.W.Frag} {C : Addr} (h : polyB K C = true) : PolyC K C := by
  obtain ⟨h1, h⟩ := He.ba h
  obtain ⟨h2, h⟩ := He.ba h
  obtain ⟨h3, h⟩ := He.ba h
  obtain ⟨h4, h⟩ := He.ba h
  obtain ⟨h5, h⟩ := He.ba h
  obtain ⟨h6, h⟩ := He.ba h
  obtain ⟨h7, h⟩ := He.ba h
  obtain ⟨h8, h⟩ := He.ba h
  obtain ⟨h9, h⟩ := He.ba h
  obtain ⟨h10, h⟩ := He.ba h
  obtain ⟨h11, h⟩ := He.ba h
  obtain ⟨h12, h⟩ := He.ba h
  obtain ⟨h13, h⟩ := He.ba h
  obtain ⟨h14, h15⟩ := He.ba h
  exact ⟨clsC_ok h1, (show PySem.W.findIn K (.ref C) "coefs" = some none from of_decide_eq_true h2), tyB_ok h3 (clsC_ok h1), numB_ok h4, numB_ok h5, numB_ok h6, numB_ok h7, numB_ok h8, inpB_ok h9, inpB_ok h10, inpB_ok h11, of_decide_eq_true h12, fun T hT => notB_ok h13 hT, h14, fun f hf => by unfold He.ma at h15; rw [hf] at h15; exact h15⟩
section
variable {X : Cx} {R : Reg} {G : List Sl} {pos : Pos} {k : Kt}
/-- c(*e), c a local name of a class -/
theorem e_callSt1V (i : Nat) {x y : Str} {φ : Ph} {j : Nat} {C : Addr} {e : Expr} {p p2 : Pos} {P : Dt → Prop} (F : FnS X.prog X.w X.K X.mg X.base j y φ) (hm : X.mg y = some (.ref C)) (hr : Room j X.A) (h : E X R G e fun d => ∃ ds, (d = .lst ds ∨ d = .tup ds) ∧ ds.length ≤ 100000 ∧ φ [.tup ds] P fun _ _ _ => False)
    (hg : G[i]? = some (.sh (.adr C)) := by rfl) (hN : X.N[i]? = some x := by rfl) (hv : Vis X.env.scope x := by first | exact Or.inl rfl | exact Or.inr (Or.inl rfl) | exact Or.inr (Or.inr rfl))
    (hdb : (x == ("__debug__" : Str)) = false := by decide) (hcd : (x == ("__classdict__" : Str)) = false := by decide) (hst : starEach [.Starred e p2] X.env = [(true, eval e X.env)] := by rfl) : E X R G (.Call (.Name x p) [.Starred e p2] [] pos) P := fun σ F' H Q ty c => by
  obtain ⟨f, a1, a2, a3⟩ := F.ex
  rw [hm] at a1
  cases a1
  obtain ⟨v0, e1, y0, e2, r0⟩ := ty.sl.get hg
  have ey := rp_adr.mp r0
  subst ey
  have ht : tOf X e σ H _ := h σ F' H _ ty fun v F1 H1 d ex r ⟨ds, hd, hl, hφ⟩ => (show ∃ a xs, v = V.ref a ∧ (SqT X.K H1 a xs ∨ SqL X.K H1 a xs) ∧ spSt X.K φ xs H1 Q E0 from by
    rcases hd with rfl | rfl
    · obtain ⟨a, vs, rfl, h1, rl⟩ := rp_lst.mp r
      exact ⟨a, vs, rfl, .inr (SqL.of (ex.wf.fh _ _ h1)), spSt_of ex.wf rl hl hφ (c.step ex)⟩
    · obtain ⟨a, vs, rfl, h1, rl⟩ := rp_tup.mp r
      exact ⟨a, vs, rfl, .inl (sq_t ex.wf.fh h1), spSt_of ex.wf rl hl hφ (c.step ex)⟩)
  unfold tOf
  intro pins s I
  refine wpAny_Call_Name_kw (thn ((pe_var hN hv hdb hcd).run pins s σ H (fun y H1 => y = .ref C ∧ H1 = H) I ⟨.ref C, by rw [e1, e2], rfl, rfl⟩) fun u s1 ⟨y, H1, I1, ry, ey, eH⟩ => ?_)
  subst ey eH
  obtain rfl : u = Value.ref C := ry
  refine PySem.W.callWith_S (h₀ := X.base) I1.ok.mod.kin a2 (thn (pe_w.run pins s1 σ _ _ I1 ht) fun v s2 ⟨y, H2, I2, ry, a, xs, ey, hxs, q⟩ => ?_) hst
  subst ey
  obtain rfl : v = Value.ref a := ry
  exact StX.star_any I2 hxs fun us s3 I3 rv => ⟨I3.kIn, wpAny_call (run_fnR a3 hr passL I3 rv q)⟩
end
/-! ### names of the operators -/
theorem dn_add : PySem.dunder (Operator.info .Add).2 = "__add__" := by decide +kernel
theorem dn_sub : PySem.dunder (Operator.info .Sub).2 = "__sub__" := by decide +kernel
theorem dn_mul : PySem.dunder (Operator.info .Mult).2 = "__mul__" := by decide +kernel
theorem dn_fdiv : PySem.dunder (Operator.info .FloorDiv).2 = "__floordiv__" := by decide +kernel
theorem dn_pow : PySem.dunder (Operator.info .Pow).2 = "__pow__" := by decide +kernel
theorem dr_add : dunderR (Operator.info .Add).2 = "__radd__" := by decide +kernel
theorem dr_sub : dunderR (Operator.info .Sub).2 = "__rsub__" := by decide +kernel
theorem dr_mul : dunderR (Operator.info .Mult).2 = "__rmul__" := by decide +kernel
end VS
set_option Elab.async false
set_option linter.all false
set_option maxRecDepth 100000
/-! operators that may raise; an error without a field; text.split. -/
namespace VS
open PySem PySem.Spec L2
section
variable {X : Cx} {R : Reg} {G : List Sl} {pos : Pos} {k : Kt} {xq : List Sl → XD} {W : WX}
@[irreducible] def opAt (X : Cx) (f : Value → Value → Sem Value) (σ : St) : R2 := fun x y H Q => ∀ pins s v u, Inv X pins σ H s → RelV x v → RelV y u → wpAny (model X.prog X.w) X.A (f v u) (EP X pins σ Q) X.xe s
theorem tOf_op {a b : Expr} {op : Operator} {σ : St} {H : Hp} {Q : VK} (h : tOf X a σ H fun x H1 => tOf X b σ H1 fun y H2 => opAt X (binaryOp op) σ x y H2 Q) : tOf X (.BinOp a op b pos) σ H Q := by
  unfold tOf
  intro pins s I
  exact wpAny_BinOp (binT pe_w pe_w I h fun v u s2 x y H2 I2 rx ry q => by unfold opAt at q; exact q pins s2 v u I2 rx ry)
theorem FnM.runX {C : Addr} {m : Str} {ps : List Str} {φ : Ph} {n j : Nat} (tk : Takes X W) (F : FnM X.prog X.w X.K X.mg X.base j C m ps [] (spD X.K n φ)) : ∃ f, Meth X.K C m f ∧
    (∀ {pins : List (Addr × Obj)} {σ : St} {H : Hp} {s : Shared} {Q : VK} {us : List Value} {vs : List V}, Room j X.A → Inv X pins σ H s → Vals vs us → spD X.K n φ vs H Q (WE W σ) → wpAny (model X.prog X.w) X.A (call (.ref f) us) (EP X pins σ Q) X.xe s) := by
  obtain ⟨f, fd, ds, a1, a3, a4, a5⟩ := F.ex
  have e : ds = [] := by cases a4; rfl
  subst e
  exact ⟨f, a1, fun {pins σ H s Q us vs} hr I r h => run_fnS (E := WE W) a5 hr a3 (passAt tk σ) I r h⟩
theorem spD_ofX {F H : Hp} {vs : List V} {ds : List Dt} {n : Nat} {φ : Ph} {P : Dt → Prop} {xd : XD} {Q : VK} {σ : St} (w : Wf R F H) (r : RpL X.K F ds vs) (hl : ds.length = n) (hφ : φ ds P xd) (c : Ct X.K R F H P Q)
    (cx : ∀ F' H' C ns ds d, xd C ns ds → Ext R F H F' H' → XDat X.K R H F' H' ns ds d → W (.ref C) d σ H') : spD X.K n φ vs H Q (WE W σ) :=
  ⟨by rw [← hl]; exact r.length.symm, F, _, P, xd, w.fh, r, hφ, fun v F2 H2 d ex2 r2 p => c v F2 H2 d (Ext.of_nil w ex2) r2 p, ⟨fun C ns ds dx vs F2 H2 hx ex2 e1 e2 e3 e4 => cx F2 H2 C ns ds (some dx) hx (Ext.of_nil w ex2) (.inl ⟨dx, vs, rfl, e4, w.new e4, e1, e2, e3⟩), fun C F2 H2 hx ex2 => cx F2 H2 C [] [] none hx (Ext.of_nil w ex2) (.inr ⟨rfl, rfl, rfl⟩)⟩⟩
/-- p op q, both of C, may raise -/
theorem ex_binO {op : Operator} {C : Addr} {m : Str} {ps : List Str} {φ : Ph} {j : Nat} {a b : Expr} {P : Dt → Prop} {xd : XD} (tk : Takes X W) (F : FnM X.prog X.w X.K X.mg X.base j C m ps [] (spD X.K 2 φ)) (hm : PySem.dunder op.info.2 = m) (hr : Room j X.A) (nc : NumC X.K C op.info.2)
    (h : E X R G a fun d1 => ∃ ns xs, d1 = .obj C ns xs ∧ E X R G b fun d2 => ((∃ ms ys, d2 = .obj C ms ys) ∨ ∃ i, d2 = .int i) ∧ φ [d1, d2] P xd) : EX X R G W (.BinOp a op b pos) P xd := fun σ F0 H Q ty c cx =>
  tOf_op (h σ F0 H _ ty fun v F1 H1 d1 ex1 r1 ⟨ns, xs, e1, h2⟩ => h2 σ F1 H1 _ (ty.ext ex1) fun w F2 H2 d2 ex2 r2 ⟨e2, hφ⟩ => by
    subst e1
    have rx0 := r1.mono ex2.ff
    obtain ⟨a', dx, vs, rfl, h1, _, _⟩ := rp_obj.mp rx0
    obtain ⟨f, hM, run⟩ := FnM.runX tk F
    have cc := c.step (ex1.trans ex2)
    have cx2 : ∀ F' H' C ns ds d, xd C ns ds → Ext R F2 H2 F' H' → XDat X.K R H2 F' H' ns ds d → W (.ref C) d σ H' := fun F' H' C ns ds d hx ex dat => cx F' H' C ns ds d hx ((ex1.trans ex2).trans ex) (XDat.free (ex1.trans ex2) dat)
    unfold opAt
    intro pins s v u I rv ru
    cases rv
    obtain ⟨od, J⟩ := inst_at I ex2.wf h1
    obtain ⟨m', hF⟩ := I.fr
    subst hm
    rcases e2 with ⟨ms, ys, rfl⟩ | ⟨i, rfl⟩
    · have ry0 := r2
      obtain ⟨b', dy, us, rfl, h2, _, _⟩ := rp_obj.mp r2
      cases ru
      obtain ⟨od', J'⟩ := inst_at I ex2.wf h2
      exact PySem.W.binop_K hF I.ok.mod.kin J J'.type nc.first hM.at_ hM.fn (wpAny_mono (run (vs := [.ref a', .ref b']) hr I (.cons rfl (.cons rfl .nil)) (spD_ofX ex2.wf (.cons rx0 (.cons ry0 .nil)) rfl hφ cc cx2)) (fun _ _ h => back_of h) fun _ _ h => h)
    · have ry0 := r2
      obtain rfl := rp_int.mp r2
      obtain ⟨t, rfl⟩ := ru
      obtain ⟨rc, e1, e2⟩ := nc.r
      obtain ⟨fo, e3⟩ := nc.l
      obtain ⟨ro, e4⟩ := nc.rr
      exact PySem.W.ksp_binT hF I.ok.mod.kin J rfl nc.first hM.at_ hM.fn e1 e2 e3 e4 nc.sub (wpAny_mono (run (vs := [.ref a', .int i]) hr I (.cons rfl (.cons ⟨t, rfl⟩ .nil)) (spD_ofX ex2.wf (.cons rx0 (.cons ry0 .nil)) rfl hφ cc cx2)) (fun _ _ h => back_of h) fun _ _ h => h))
/-- an own error class without a field and without __init__ -/
structure Er0 (K : PySem.W.Frag) (mg : Str → Option Value) (x : Str) (C : Addr) : Prop where
  gl : mg x = some (.ref C)
  q : PySem.W.excIn K C [.type "ValueError", .type "Exception", .type "BaseException", .type "object"] "ValueError.__new__" = true
  kp : PySem.W.keepIn K (.ref C) = true
  sub : PySem.W.subIn K (.ref C) (.type "BaseException") = some true
  ty : PySem.W.typeIn K (.ref C) = some (.type "type")
def er0B (K : PySem.W.Frag) (C : Addr) : Bool := PySem.W.excIn K C [.type "ValueError", .type "Exception", .type "BaseException", .type "object"] "ValueError.__new__" && (PySem.W.keepIn K (.ref C) && (decide (PySem.W.subIn K (.ref C) (.type "BaseException") = some true) && decide (PySem.W.typeIn K (.ref C) = some (.type "type"))))
theorem er0B_ok {K : PySem.W.Frag} {mg : Str → Option Value} {x : Str} {C : Addr} (hg : mg x = some (.ref C)) (h : er0B K C = true) : Er0 K mg x C := by
  obtain ⟨h1, h⟩ := He.ba h
  obtain ⟨h2, h⟩ := He.ba h
  obtain ⟨h3, h4⟩ := He.ba h
  exact ⟨hg, h1, h2, of_decide_eq_true h3, of_decide_eq_true h4⟩
/-- raise x("..") -/
theorem s_raise0 {x m : Str} {C : Addr} {j : Nat} {p p2 pos' : Pos} (tk : Takes X W) (e : Er0 X.K X.mg x C) (hg : Gl X x) (hx : xq G C [] []) (hc : X.calm = true := by rfl) (hdb : (x == ("__debug__" : Str)) = false := by decide) :
    S1 X (R.wX X.K xq W) (.Raise (some (.Call (.Name x p) [.Constant (.str m) j p2] [] pos)) none pos') G k := fun F0 H0 σ F H D ty b c =>
  s1Of.of (ps_raise hc tk (pmk_own PySem.F.excBase_ValueError e.q e.gl e.kp (raises_own e.sub e.ty) hg hdb)) (b.z G σ F H C [] [] none hx ty.un b.ext.un b.fresh (.inr ⟨rfl, rfl, rfl⟩))
/-- a, b = e where e may raise -/
theorem s_unpackX {tg e : Expr} (h : EX X (R.wX X.K xq W) G W e (fun d => ∃ js, A X tg d js ∧ k.nx (setsD G js)) (xq G)) (hs : swapsWithSole [tg] e pos.line X.env = pure false := by rfl) (hw : swappedStores [tg] e X.env = pure none := by rfl)
    (h1 : (assignEach [tg] X.env).map (·.2) = [assign tg X.env] := by rfl) : S1 X (R.wX X.K xq W) (.Assign [tg] e pos) G k := fun F0 H0 σ F H D ty b c =>
  s1Of.of (ps_asg pe_w pg_w hs hw h1) (h σ F H _ ty (fun v F1 H1 d ex r ⟨js, ha, p⟩ => ha σ F1 H1 v _ ex.wf.fh r fun vs hl rv => c.nx _ _ F1 H1 p ((ty.ext ex).sets rv) ⟨(b.step ex).ext, fun o ho => b.fresh o (owns_sets hl ho), b.z⟩) (z_of ty b))
/-- o.split(e) -/
theorem e_split {o e : Expr} {apos : Pos} {P : Dt → Prop} (h : E X R G o fun d => ∃ a, d = .str a ∧ E X R G e fun d' => ∃ b, d' = .str b ∧ (b.length == 0) = false ∧ a.length ≤ 100000 ∧ P (.lst ((Txt.split a b).map .str)))
    (hs : starEach [e] X.env = [(false, eval e X.env)] := by rfl) (hbase : attributeBase o "split" X.env (eval o X.env) = eval o X.env := by rfl) (hline : (apos.endLine == pos.line) = true := by rfl) : E X R G (.Call (.Attribute o "split" apos) [e] [] pos) P := fun σ F H Q ty c => by
  refine tOf.of (pe_split pe_w pe_w hs hbase hline) (h σ F H _ ty fun v F1 H1 d ex r ⟨a, ed, h2⟩ => ?_)
  subst ed
  refine ⟨⟨a, rp_str.mp r⟩, ?_⟩
  refine h2 σ F1 H1 _ (ty.ext ex) fun v2 F2 H2 d2 ex2 r2 ⟨b, eb, hb, hl, p⟩ => ?_
  subst eb
  refine ⟨a, b, rp_str.mp r, by rw [rp_str.mp r2], hb, Nat.le_trans (Nat.add_le_add_right hl 2) (by decide), fun q hq => ?_⟩
  have ex3 := ex2.wf.made (o := .lst ((Txt.split a b).map .str)) hq
  refine c _ _ _ _ ((ex.trans ex2).trans ex3) (rp_lst_new (ex2.wf.fh.free hq) ?_) p
  generalize Txt.split a b = l
  induction l with
  | nil => exact .nil
  | cons z l ih => exact .cons (rp_str.mpr rfl) ih
end
end VS
set_option Elab.async false
set_option linter.all false
set_option maxRecDepth 100000
/-! range downwards; a new list of one's own from a list or tuple. -/
namespace VS
open PySem PySem.Spec L2
/-- hi, hi - 1, .. n of them -/
def downD (hi : Int) (n : Nat) : List Dt := (List.range n).map fun i => .int (hi - (i : Nat))
theorem downD_length (hi : Int) (n : Nat) : (downD hi n).length = n := by simp [downD]
theorem downD_get {hi : Int} {n i : Nat} {d : Dt} (h : (downD hi n)[i]? = some d) : i < n ∧ d = .int (hi - (i : Nat)) := by
  unfold downD at h
  rw [List.getElem?_map] at h
  by_cases hi : i < n
  · rw [List.getElem?_range hi] at h
    exact ⟨hi, (Option.some.inj h).symm⟩
  · rw [List.getElem?_eq_none (by simpa using hi)] at h
    cases h
section
variable {X : Cx} {R : Reg} {G : List Sl} {pos : Pos} {k : Kt}
theorem itd_down {F1 : Hp} {hi : Int} {n : Nat} : Itd X.K R F1 (Itc hi (-1) n) (downD hi n) := fun F H sf wf => ⟨fun i hi => by rw [downD_length] at hi; exact hi, fun i d hd => by
  obtain ⟨h1, h2⟩ := downD_get hd
  refine ⟨h1, fun x H' y => ?_⟩
  obtain ⟨rfl, rfl⟩ := y
  refine ⟨F, .refl wf, ?_⟩
  rw [h2]
  exact rp_int.mpr (by rw [show hi + (i : Int) * -1 = hi - (i : Int) by omega])⟩
theorem i_range3 {tg a b c : Expr} {p : Pos} {P : List Dt → Prop} (hg : Gl X "range") (hm : X.mg "range" = none) (h : EA X R G [a, b, c] fun ds => ∃ i j : Int, ds = [.int i, .int j, .int (-1)] ∧ (-(2 ^ 62) ≤ i ∧ i < 2 ^ 62 ∧ -(2 ^ 62) ≤ j ∧ j < 2 ^ 62) ∧ P (downD i (i - j).toNat))
    (hs : starEach [a, b, c] X.env = (false, eval a X.env) :: starEach [b, c] X.env := by rfl) (hpl : (backTo pos (starEach [b, c] X.env)).any (·.1) = false := by rfl) : I X R G tg (.Call (.Name "range" p) [a, b, c] [] pos) P := fun σ F H Q ty ct =>
  tiOf.of (pi_range3 hg hm pa_w hs hpl) (h σ F H _ ty fun v F1 H1 d ex r ⟨i, j, e, h3, p⟩ => by
    subst e
    obtain ⟨v, rest, rfl, r1, r2⟩ := r.of_cons
    obtain ⟨v2, v3, rfl, r3, r4⟩ := r2.two
    exact ⟨i, j, -1, (i - j).toNat, by rw [rp_int.mp r1, rp_int.mp r3, rp_int.mp r4], RgC.neg h3.1 h3.2.1 h3.2.2.1 h3.2.2.2, ct _ F1 H1 _ ex itd_down p⟩)
/-- list(e), one's own -/
theorem en_list {e : Expr} {p : Pos} {P : List Dt → Prop} (hg : Gl X "list") (hm : X.mg "list" = none) (h : EA X R G [e] fun ds => ∃ d xs, ds = [d] ∧ (d = .lst xs ∨ d = .tup xs) ∧ P xs)
    (he : starEach [e] X.env = (false, eval e X.env) :: starEach [] X.env := by rfl) (hpl : (backTo pos (starEach [] X.env)).any (·.1) = false := by rfl) : EN X R G (.Call (.Name "list" p) [e] [] pos) P := fun σ F H Q ty c => by
  refine tOf.of (pe_callTy call_list_of hg hm b_list pa_w (by decide) (by decide) he hpl) (h σ F H _ ty fun vs F1 H1 ds ex1 r1 h2 => ?_)
  obtain ⟨d, xs, rfl, hd, hp⟩ := h2
  obtain ⟨v, rfl, r⟩ := r1.one
  rcases hd with rfl | rfl
  · obtain ⟨a, ws, rfl, h1, rl⟩ := rp_lst.mp r
    exact ⟨a, ws, rfl, .inl (SqL.of (ex1.wf.fh _ _ h1)), fun q hq => c q F1 _ xs ws (ex1.trans (ex1.wf.own hq)) (ex1.free hq) (ex1.wf.new hq) upd_same (ex1.wf.fh.free hq) rl hp⟩
  · obtain ⟨a, ws, rfl, h1, rl⟩ := rp_tup.mp r
    exact ⟨a, ws, rfl, .inr (sq_t ex1.wf.fh h1), fun q hq => c q F1 _ xs ws (ex1.trans (ex1.wf.own hq)) (ex1.free hq) (ex1.wf.new hq) upd_same (ex1.wf.fh.free hq) rl hp⟩
end
end VS
set_option Elab.async false
set_option linter.all false
set_option maxRecDepth 100000
/-! a thing of one's own: given back by a def, lent for a while. -/
namespace VS
open PySem PySem.Spec L2
/-- kinds of things: 0 lists, 1 dicts, 2 objects -/
def isK : Nat → HO → Prop
  | 0, o => ∃ xs, o = .lst xs
  | 1, o => (∃ kvs, o = .dT kvs) ∨ ∃ kvs, o = .dK kvs
  | _, o => ∃ C dx fs, o = .ins C dx fs
mutual
/-- data in which no thing of the kind stands -/
def fre (κ : Nat) : Dt → Bool
  | .tup xs => freL κ xs
  | .lst xs => decide (κ ≠ 0) && freL κ xs
  | .frl xs => decide (κ ≠ 0) && freL κ xs
  | .dT _ xs => decide (κ ≠ 1) && freL κ xs
  | .dK _ xs => decide (κ ≠ 1) && freL κ xs
  | .obj _ _ xs => decide (κ ≤ 1) && freL κ xs
  | .exv _ _ xs _ => freL κ xs
  | .at_ _ d => fre κ d
  | .non => true
  | .bl _ => true
  | .int _ => true
  | .str _ => true
  | .ty _ => true
  | .adr _ => true
  | .key _ => true
def freL (κ : Nat) : List Dt → Bool
  | [] => true
  | x :: xs => fre κ x && freL κ xs
end
theorem freL_ints (κ : Nat) : ∀ l : List Int, freL κ (l.map Dt.int) = true
  | [] => by simp [freL]
  | x :: l => by simp [freL, fre, freL_ints κ l]
section
variable {K : PySem.W.Frag} {F : Hp} {p : Addr} {o : HO} {κ : Nat}
theorem isK_tup {vs : List V} (hk : isK κ o) : o ≠ .tup vs ∧ ∀ z u, o ≠ .frz z u := by
  match κ, hk with
  | 0, ⟨xs, h⟩ => subst h; exact ⟨fun z => (nomatch z), fun _ _ z => (nomatch z)⟩
  | 1, .inl ⟨xs, h⟩ => subst h; exact ⟨fun z => (nomatch z), fun _ _ z => (nomatch z)⟩
  | 1, .inr ⟨xs, h⟩ => subst h; exact ⟨fun z => (nomatch z), fun _ _ z => (nomatch z)⟩
  | n + 2, ⟨C, dx, fs, h⟩ => subst h; exact ⟨fun z => (nomatch z), fun _ _ z => (nomatch z)⟩
theorem isK_lst {vs : List V} (hk : isK κ o) (h : κ ≠ 0) : o ≠ .lst vs := by
  match κ, hk, h with
  | 0, _, h => exact absurd rfl h
  | 1, .inl ⟨xs, h⟩, _ => subst h; exact fun z => (nomatch z)
  | 1, .inr ⟨xs, h⟩, _ => subst h; exact fun z => (nomatch z)
  | n + 2, ⟨C, dx, fs, h⟩, _ => subst h; exact fun z => (nomatch z)
theorem isK_dT {vs : List (List Key × V)} (hk : isK κ o) (h : κ ≠ 1) : o ≠ .dT vs := by
  match κ, hk, h with
  | 0, ⟨xs, h⟩, _ => subst h; exact fun z => (nomatch z)
  | 1, _, h => exact absurd rfl h
  | n + 2, ⟨C, dx, fs, h⟩, _ => subst h; exact fun z => (nomatch z)
theorem isK_dK {vs : List (Key × V)} (hk : isK κ o) (h : κ ≠ 1) : o ≠ .dK vs := by
  match κ, hk, h with
  | 0, ⟨xs, h⟩, _ => subst h; exact fun z => (nomatch z)
  | 1, _, h => exact absurd rfl h
  | n + 2, ⟨C, dx, fs, h⟩, _ => subst h; exact fun z => (nomatch z)
theorem isK_ins {C dx : Addr} {fs : List (Str × V)} (hk : isK κ o) (h : κ ≤ 1) : o ≠ .ins C dx fs := by
  match κ, hk, h with
  | 0, ⟨xs, h⟩, _ => subst h; exact fun z => (nomatch z)
  | 1, .inl ⟨xs, h⟩, _ => subst h; exact fun z => (nomatch z)
  | 1, .inr ⟨xs, h⟩, _ => subst h; exact fun z => (nomatch z)
  | n + 2, _, h => omega
theorem isK_xd {fs : List (Str × V)} (hk : isK κ o) : o ≠ .xd fs := by
  match κ, hk with
  | 0, ⟨xs, h⟩ => subst h; exact fun z => (nomatch z)
  | 1, .inl ⟨xs, h⟩ => subst h; exact fun z => (nomatch z)
  | 1, .inr ⟨xs, h⟩ => subst h; exact fun z => (nomatch z)
  | n + 2, ⟨C, dx, fs', h⟩ => subst h; exact fun z => (nomatch z)
theorem del_at {a : Addr} {u : HO} (hp : F p = some o) (hn : o ≠ u) (h : F a = some u) : del F p a = some u := by
  have e : a ≠ p := fun z => by
    subst z
    rw [hp] at h
    exact hn (Option.some.inj h)
  rw [del_ne e]
  exact h
theorem rd_del {a : Addr} {u : HO} (hp : F p = some o) (hk : isK κ o) (hn : o ≠ u) (h : Rd F a u) : Rd (del F p) a u := by
  rcases h with h | ⟨z, h⟩
  · exact .inl (del_at hp hn h)
  · exact .inr ⟨z, del_at hp ((isK_tup (vs := []) hk).2 _ _) h⟩
theorem sqt_del {a : Addr} {vs : List V} (hp : F p = some o) (hk : isK κ o) (h : SqT K F a vs) : SqT K (del F p) a vs := by
  rcases h with (h | ⟨z, h⟩) | h
  · exact .inl (.inl (del_at hp (isK_tup hk).1 h))
  · exact .inl (.inr ⟨z, del_at hp ((isK_tup (vs := []) hk).2 _ _) h⟩)
  · exact .inr h
theorem sql_del {a : Addr} {vs : List V} (hp : F p = some o) (hk : isK κ o) (hn : κ ≠ 0) (h : SqL K F a vs) : SqL K (del F p) a vs := by
  rcases h with (h | ⟨z, h⟩) | h
  · exact .inl (.inl (del_at hp (isK_lst hk hn) h))
  · exact .inl (.inr ⟨z, del_at hp ((isK_tup (vs := []) hk).2 _ _) h⟩)
  · exact .inr h
mutual
theorem rp_del (hp : F p = some o) (hk : isK κ o) : ∀ {d : Dt} {v : V}, Rp K F d v → fre κ d = true → Rp K (del F p) d v
  | .non, _, h, _ => by simp only [Rp] at h ⊢; exact h
  | .bl _, _, h, _ => by simp only [Rp] at h ⊢; exact h
  | .int _, _, h, _ => by simp only [Rp] at h ⊢; exact h
  | .str _, _, h, _ => by simp only [Rp] at h ⊢; exact h
  | .ty _, _, h, _ => by simp only [Rp] at h ⊢; exact h
  | .adr _, _, h, _ => by simp only [Rp] at h ⊢; exact h
  | .tup xs, _, h, hf => by
    simp only [Rp] at h ⊢
    simp only [fre] at hf
    obtain ⟨a, vs, h1, h2, h3⟩ := h
    exact ⟨a, vs, h1, sqt_del hp hk h2, rpL_del hp hk h3 hf⟩
  | .lst xs, _, h, hf => by
    simp only [Rp] at h ⊢
    simp only [fre, Bool.and_eq_true, decide_eq_true_eq] at hf
    obtain ⟨a, vs, h1, h2, h3⟩ := h
    exact ⟨a, vs, h1, del_at hp (isK_lst hk hf.1) h2, rpL_del hp hk h3 hf.2⟩
  | .frl xs, _, h, hf => by
    simp only [Rp] at h ⊢
    simp only [fre, Bool.and_eq_true, decide_eq_true_eq] at hf
    obtain ⟨a, vs, h1, h2, h3⟩ := h
    exact ⟨a, vs, h1, sql_del hp hk hf.1 h2, rpL_del hp hk h3 hf.2⟩
  | .dT ks xs, _, h, hf => by
    simp only [Rp] at h ⊢
    simp only [fre, Bool.and_eq_true, decide_eq_true_eq] at hf
    obtain ⟨a, vs, h1, h2, h4, h3⟩ := h
    exact ⟨a, vs, h1, rd_del hp hk (isK_dT hk hf.1) h2, h4, rpL_del hp hk h3 hf.2⟩
  | .dK ks xs, _, h, hf => by
    simp only [Rp] at h ⊢
    simp only [fre, Bool.and_eq_true, decide_eq_true_eq] at hf
    obtain ⟨a, vs, h1, h2, h4, h3⟩ := h
    exact ⟨a, vs, h1, rd_del hp hk (isK_dK hk hf.1) h2, h4, rpL_del hp hk h3 hf.2⟩
  | .key ks, _, h, hf => by
    simp only [Rp] at h ⊢
    obtain ⟨a, h1, h2⟩ := h
    exact ⟨a, h1, del_at hp (isK_tup hk).1 h2⟩
  | .obj C ns xs, _, h, hf => by
    simp only [Rp] at h ⊢
    simp only [fre, Bool.and_eq_true, decide_eq_true_eq] at hf
    obtain ⟨a, dx, vs, h1, h2, h4, h3⟩ := h
    exact ⟨a, dx, vs, h1, del_at hp (isK_ins hk hf.1) h2, h4, rpL_del hp hk h3 hf.2⟩
  | .exv a ns xs d, _, h, hf => by
    simp only [Rp] at h ⊢
    simp only [fre] at hf
    refine ⟨h.1, fun dx hd => ?_⟩
    obtain ⟨vs, h1, h2, h3⟩ := h.2 dx hd
    exact ⟨vs, del_at hp (isK_xd hk) h1, h2, rpL_del hp hk h3 hf⟩
  | .at_ a d, _, h, hf => by
    simp only [Rp] at h ⊢
    simp only [fre] at hf
    exact ⟨h.1, rp_del hp hk h.2 hf⟩
theorem rpL_del (hp : F p = some o) (hk : isK κ o) : ∀ {ds : List Dt} {vs : List V}, RpL K F ds vs → freL κ ds = true → RpL K (del F p) ds vs
  | [], _, h, _ => by simp only [RpL] at h ⊢; exact h
  | d :: ds, _, h, hf => by
    simp only [RpL] at h ⊢
    simp only [freL, Bool.and_eq_true] at hf
    obtain ⟨v, r, h1, h2, h3⟩ := h
    exact ⟨v, r, h1, rp_del hp hk h2 hf.1, rpL_del hp hk h3 hf.2⟩
end
end
/-- the kind of one's own thing -/
def kOf : Dt → Nat
  | .lst _ => 0
  | .dT _ _ => 1
  | .dK _ _ => 1
  | _ => 2
/-- its parts -/
def freO (κ : Nat) : Dt → Bool
  | .lst xs => freL κ xs
  | .dT _ xs => freL κ xs
  | .dK _ xs => freL κ xs
  | .obj _ _ xs => freL κ xs
  | .at_ _ (.obj _ _ xs) => freL κ xs
  | _ => false
theorem OwO.kd {K : PySem.W.Frag} {F H : Hp} {o : Addr} {d : Dt} (h : OwO K F H o d) : ∃ u, H o = Option.some u ∧ isK (kOf d) u := by
  rcases h.kinds with ⟨xs, rfl⟩ | ⟨ks, xs, rfl⟩ | ⟨ks, xs, rfl⟩ | ⟨C, ns, xs, rfl⟩ | ⟨a, C, ns, xs, rfl⟩
  · obtain ⟨vs, h, _⟩ := h; exact ⟨_, h, _, rfl⟩
  · obtain ⟨vs, h, _⟩ := h; exact ⟨_, h, .inl ⟨_, rfl⟩⟩
  · obtain ⟨vs, h, _⟩ := h; exact ⟨_, h, .inr ⟨_, rfl⟩⟩
  · obtain ⟨dx, vs, h, _⟩ := h; exact ⟨_, h, _, _, _, rfl⟩
  · obtain ⟨_, dx, vs, h, _⟩ := h; exact ⟨_, h, _, _, _, rfl⟩
theorem OwO.del {K : PySem.W.Frag} {F H : Hp} {o p : Addr} {u : HO} {κ : Nat} {d : Dt} (hp : F p = Option.some u) (hk : isK κ u) (h : OwO K F H o d) (hf : freO κ d = true) : OwO K (del F p) H o d := by
  rcases h.kinds with ⟨xs, rfl⟩ | ⟨ks, xs, rfl⟩ | ⟨ks, xs, rfl⟩ | ⟨C, ns, xs, rfl⟩ | ⟨a, C, ns, xs, rfl⟩
  · obtain ⟨vs, h, r⟩ := h; exact ⟨vs, h, rpL_del hp hk r hf⟩
  · obtain ⟨vs, h, l, r⟩ := h; exact ⟨vs, h, l, rpL_del hp hk r hf⟩
  · obtain ⟨vs, h, l, r⟩ := h; exact ⟨vs, h, l, rpL_del hp hk r hf⟩
  · obtain ⟨dx, vs, h, l, r⟩ := h; exact ⟨dx, vs, h, l, rpL_del hp hk r hf⟩
  · obtain ⟨e, dx, vs, h, l, r⟩ := h; exact ⟨e, dx, vs, h, l, rpL_del hp hk r hf⟩
/-! ### slots, place by place -/
section
variable {K : PySem.W.Frag} {R : Reg} {F H : Hp} {G : List Sl} {σ : St}
theorem sls_of : ∀ {G : List Sl} {σ : St}, G.length = σ.length → (∀ (j : Nat) (g : Sl), G[j]? = some g → ∃ v, σ[j]? = some v ∧ SlOk K R F H g v) → SlsOk K R F H G σ
  | [], [], _, _ => .nil
  | [], _ :: _, h, _ => by simp at h
  | _ :: _, [], h, _ => by simp at h
  | g :: G, v :: σ, h, q => by
    refine .cons ?_ (sls_of (by simpa using h) fun j g' hg => ?_)
    · obtain ⟨v', e, s⟩ := q 0 g rfl
      cases e
      exact s
    · have := q (j + 1) g' (by simpa using hg)
      simpa using this
theorem own_inj : ∀ {G : List Sl} {σ : St}, (owns G σ).Nodup → ∀ {i j : Nat} {d d' : Dt} {o : Addr}, G[i]? = some (.ow d) → σ[i]? = some (some (.ref o)) → G[j]? = some (.ow d') → σ[j]? = some (some (.ref o)) → i = j
  | [], _, _, i, j, d, d', o, h1, _, _, _ => by simp at h1
  | g :: G, [], _, i, j, d, d', o, _, h2, _, _ => by simp at h2
  | g :: G, v :: σ, nd, i, j, d, d', o, h1, h2, h3, h4 => by
    have nd' : (owns G σ).Nodup := by
      cases g with
      | no => simpa [owns] using nd
      | sh d => simpa [owns] using nd
      | ow d =>
        cases v with
        | none => simpa [owns] using nd
        | some x =>
          cases x with
          | ref q => simp only [owns, List.nodup_cons] at nd; exact nd.2
          | _ => simpa [owns] using nd
    have head : ∀ {j : Nat} {d' : Dt}, g = .ow d → v = some (.ref o) → G[j]? = some (.ow d') → σ[j]? = some (some (.ref o)) → False := fun e1 e2 g3 g4 => by
      rw [e1, e2] at nd
      simp only [owns, List.nodup_cons] at nd
      exact nd.1 (mem_owns g3 g4)
    have head' : ∀ {j : Nat} {d1 : Dt}, g = .ow d' → v = some (.ref o) → G[j]? = some (.ow d1) → σ[j]? = some (some (.ref o)) → False := fun e1 e2 g3 g4 => by
      rw [e1, e2] at nd
      simp only [owns, List.nodup_cons] at nd
      exact nd.1 (mem_owns g3 g4)
    cases i with
    | zero =>
      cases j with
      | zero => rfl
      | succ j => exact (head (Option.some.inj h1) (Option.some.inj h2) (by simpa using h3) (by simpa using h4)).elim
    | succ i =>
      cases j with
      | zero => exact (head' (Option.some.inj h3) (Option.some.inj h4) (by simpa using h1) (by simpa using h2)).elim
      | succ j => rw [own_inj nd' (i := i) (j := j) (by simpa using h1) (by simpa using h2) (by simpa using h3) (by simpa using h4)]
theorem nd_of : ∀ {G : List Sl} {σ : St}, (∀ (i j : Nat) (d d' : Dt) (o : Addr), G[i]? = some (.ow d) → σ[i]? = some (some (.ref o)) → G[j]? = some (.ow d') → σ[j]? = some (some (.ref o)) → i = j) → (owns G σ).Nodup
  | [], _, _ => by simp [owns]
  | g :: G, [], _ => by cases g <;> simp [owns]
  | g :: G, v :: σ, h => by
    have ih : (owns G σ).Nodup := nd_of fun i j d d' o h1 h2 h3 h4 => by
      have := h (i + 1) (j + 1) d d' o (by simpa using h1) (by simpa using h2) (by simpa using h3) (by simpa using h4)
      omega
    cases g with
    | no => simpa [owns] using ih
    | sh d => simpa [owns] using ih
    | ow d =>
      cases v with
      | none => simpa [owns] using ih
      | some x =>
        cases x with
        | ref q =>
          simp only [owns, List.nodup_cons]
          refine ⟨fun z => ?_, ih⟩
          obtain ⟨i, d', h1, h2⟩ := owns_mem z
          have := h 0 (i + 1) d d' q rfl rfl (by simpa using h1) (by simpa using h2)
          omega
        | _ => simpa [owns] using ih
theorem same_upd1 {o : Addr} {u : HO} (fo : F o = none) : Same F (upd F o u) := fun a z h => by
  rw [upd_ne (fun e => by rw [e, fo] at h; cases h)]
  exact h
theorem wf_one {o : Addr} {u : HO} (w : Wf R F H) (nM : ¬ R.M o) (hu : H o = some u) : Wf R (upd F o u) H := by
  refine ⟨fun a z h => ?_, fun a m => ?_, w.oc, w.b⟩
  · by_cases e : a = o
    · subst e; rw [upd_same] at h; rw [hu]; exact h
    · rw [upd_ne e] at h; exact w.fh a z h
  · rw [upd_ne (fun e => nM (by rw [← e]; exact m))]
    exact w.off a m
theorem wf_del {F' H' : Hp} {o : Addr} (w : Wf R F' H') : Wf R (del F' o) H' := by
  refine ⟨fun a z h => ?_, fun a m => ?_, w.oc, w.b⟩
  · by_cases e : a = o
    · subst e; rw [del_same] at h; cases h
    · rw [del_ne e] at h; exact w.fh a z h
  · by_cases e : a = o
    · subst e; exact del_same
    · rw [del_ne e]; exact w.off a m
theorem ext_del {F' H' : Hp} {o : Addr} {u : HO} (fo : F o = none) (ex : Ext R (upd F o u) H F' H') : Ext R F H (del F' o) H' := by
  refine ⟨wf_del ex.wf, fun a z h => ?_, ex.hh, fun a h n => ?_⟩
  · have e : a ≠ o := fun e => by rw [e, fo] at h; cases h
    rw [del_ne e]
    exact ex.ff a z (by rw [upd_ne e]; exact h)
  · by_cases e : a = o
    · subst e; exact del_same
    · rw [del_ne e]; exact ex.fr a h (by rw [upd_ne e]; exact n)
/-- a slot, when the thing at o is lent -/
theorem SlOk.lend {o : Addr} {u : HO} {g : Sl} {v : Option V} (fo : F o = none) (h : SlOk K R F H g v) (hn : ∀ d, g = .ow d → v ≠ some (.ref o)) : SlOk K R (upd F o u) H g v := by
  cases g with
  | no => trivial
  | sh d => obtain ⟨x, e, r⟩ := h; exact ⟨x, e, r.mono (same_upd1 fo)⟩
  | ow d =>
    obtain ⟨q, e, h1, h2, h3⟩ := h
    have ne : q ≠ o := fun z => hn d rfl (by rw [e, z])
    exact ⟨q, e, by rw [upd_ne ne]; exact h1, h2, h3.mono (same_upd1 fo) fun _ z => z⟩
theorem Ty.lend {i : Nat} {d0 : Dt} {o : Addr} {u : HO} (ty : Ty K R G σ F H) (hg : G[i]? = some (.ow d0)) (hs : σ[i]? = some (some (.ref o))) (fo : F o = none) (nM : ¬ R.M o) (ow : OwO K F H o d0) (hu : H o = some u) : Ty K R (G.set i (.sh d0)) σ (upd F o u) H := by
  refine ⟨wf_one ty.wf nM hu, sls_of (by rw [List.length_set]; exact ty.sl.len) fun j g hj => ?_, ?_⟩
  · by_cases e : j = i
    · subst e
      have hl : j < G.length := (List.getElem?_eq_some_iff.mp hg).1
      rw [List.getElem?_set_self hl] at hj
      cases hj
      exact ⟨_, hs, .ref o, rfl, owo_rp ow (same_upd1 fo) (by rw [upd_same, hu])⟩
    · rw [List.getElem?_set_ne (Ne.symm e)] at hj
      obtain ⟨v, h1, h2⟩ := ty.sl.get hj
      refine ⟨v, h1, h2.lend fo fun d hd hv => ?_⟩
      subst hd hv
      exact e (own_inj ty.nd hj h1 hg hs)
  · have hsσ : σ.set i (some (.ref o)) = σ := by
      apply List.ext_getElem?
      intro j
      by_cases e : j = i
      · subst e
        have hl : j < σ.length := (List.getElem?_eq_some_iff.mp hs).1
        rw [List.getElem?_set_self hl, hs]
      · rw [List.getElem?_set_ne (Ne.symm e)]
    have := owns_set_sub (G := G) (σ := σ) i (g := .sh d0) (v := some (.ref o)) (fun _ z => nomatch z)
    rw [hsσ] at this
    exact ty.nd.sublist this
end
section
variable {X : Cx} {R : Reg} {G : List Sl} {pos : Pos} {k : Kt}
/-- e with one's own thing in slot i lent -/
theorem e_bor (i : Nat) {d0 : Dt} {e : Expr} {P : Dt → Prop} (hg : G[i]? = some (.ow d0)) (h : E X R (G.set i (.sh d0)) e fun d => fre (kOf d0) d = true ∧ P d) : E X R G e P := fun σ F H Q ty c => by
  obtain ⟨o, hs, fo, nM, ow⟩ := ty.own hg
  obtain ⟨u, hu, hk⟩ := ow.kd
  exact h σ (upd F o u) H Q (ty.lend hg hs fo nM ow hu) fun v F' H' d ex r ⟨hf, p⟩ => c v (del F' o) H' d (ext_del fo ex) (rp_del (ex.ff _ _ upd_same) hk r hf) p
theorem t_bor (i : Nat) {d0 : Dt} {e : Expr} {P : Bool → Prop} (hg : G[i]? = some (.ow d0)) (h : T X R (G.set i (.sh d0)) e P) : T X R G e P := fun σ F H Q ty c => by
  obtain ⟨o, hs, fo, nM, ow⟩ := ty.own hg
  obtain ⟨u, hu, hk⟩ := ow.kd
  exact h σ (upd F o u) H Q (ty.lend hg hs fo nM ow hu) fun b F' H' ex p => c b (del F' o) H' (ext_del fo ex) p
/-! ### new things of any kind -/
def CtW (K : PySem.W.Frag) (R : Reg) (F H : Hp) (P : Dt → Prop) (Q : VK) : Prop := ∀ p F' H' d, Ext R F H F' H' → H p = none → ¬ R.M p → F' p = none → OwO K F' H' p d → P d → Q (.ref p) H'
def EW (X : Cx) (R : Reg) (G : List Sl) (e : Expr) (P : Dt → Prop) : Prop := ∀ σ F H Q, Ty X.K R G σ F H → CtW X.K R F H P Q → tOf X e σ H Q
theorem ew_of {e : Expr} {P : Dt → Prop} (h : EN X R G e fun ds => P (.lst ds)) : EW X R G e P := fun σ F H Q ty c => h σ F H Q ty fun p F' H' ds vs ex hp nM ho fp r q => c p F' H' (.lst ds) ex hp nM fp ⟨vs, ho, r⟩ q
theorem ew_bor (i : Nat) {d0 : Dt} {e : Expr} {P : Dt → Prop} (hg : G[i]? = some (.ow d0)) (h : EW X R (G.set i (.sh d0)) e fun d => freO (kOf d0) d = true ∧ P d) : EW X R G e P := fun σ F H Q ty c => by
  obtain ⟨o, hs, fo, nM, ow⟩ := ty.own hg
  obtain ⟨u, hu, hk⟩ := ow.kd
  refine h σ (upd F o u) H Q (ty.lend hg hs fo nM ow hu) fun p F' H' d ex hp nMp fp ho ⟨hf, q⟩ => c p (del F' o) H' d (ext_del fo ex) hp nMp ?_ (ho.del (ex.ff _ _ upd_same) hk hf) q
  by_cases e : p = o
  · subst e; exact del_same
  · rw [del_ne e]; exact fp
theorem s_aO (i : Nat) {x : Str} {e : Expr} {pos' : Pos} (hN : X.N.Nodup) (h : EW X R G e fun d => k.nx (G.set i (.ow d))) (hi : X.N[i]? = some x := by rfl) (hx : Loc X.env.scope x := by first | exact Or.inl rfl | exact Or.inr rfl)
    (hs : swapsWith e (some (.Name x pos')) pos.line X.env = pure false := by rfl) (hf : X.fn x = true ∨ X.env.scope.names.lookup x = some .local := by first | exact .inl rfl | exact .inr rfl | assumption) : S1 X R (.Assign [.Name x pos'] e pos) G k := fun F0 H0 σ F H D ty b c =>
  s1Of.of (ps_set hN hi hx pe_w hs hf) (h σ F H _ ty fun p F1 H1 d ex hp nM fp ho q => c.nx _ _ F1 H1 q (ty.setOwn ex i hp nM fp ho) (b.setOwn ex i hp))
/-- return of a new thing, of one's own thing -/
theorem s_retO {e : Expr} (h : EW X R (G.map vis) e k.rn) : S1 X R (.Return (some e) pos) G k := s1_frz fun F0 H0 σ F H D ty b c =>
  s1Of.of (ps_ret pe_w) (h σ F H _ ty fun p F1 H1 d ex hp nM fp ho q => c.rn d p F1 H1 q (b.ext.trans ex) (b.ext.free hp) fp ho)
theorem s_retV (i : Nat) {x : Str} {d : Dt} {p : Pos} (q : k.rn d) (hg : G[i]? = some (.ow d) := by rfl) (hN : X.N[i]? = some x := by rfl) (hv : Vis X.env.scope x := by first | exact Or.inl rfl | exact Or.inr (Or.inl rfl) | exact Or.inr (Or.inr rfl))
    (hd : (x == ("__debug__" : Str)) = false := by decide) (hcd : (x == ("__classdict__" : Str)) = false := by decide) : S1 X R (.Return (some (.Name x p)) pos) G k := fun F0 H0 σ F H D ty b c => by
  obtain ⟨o, hs, fo, nM, ow⟩ := ty.own hg
  exact s1Of.of (ps_ret (pe_var hN hv hd hcd)) ⟨.ref o, by rw [hs], c.rn d o F H q b.ext (b.fresh o (mem_owns hg hs)) fo ow⟩
end
/-! ### defs that give back new things -/
def spN (K : PySem.W.Frag) (n : Nat) (φ : Ph) : Sp := fun vs H Q E => vs.length = n ∧ ∃ F ds q x, Same F H ∧ RpL K F ds vs ∧ φ ds q x ∧ (∀ p F' H' d, Ext .nil F H F' H' → H p = none → F' p = none → OwO K F' H' p d → q d → Q (.ref p) H') ∧ XOk K .nil F H x E
theorem spN_of {K : PySem.W.Frag} {n : Nat} {φ : Ph} {vs : List V} {H : Hp} {Q : VK} {E : XK} (h : spD K n φ vs H Q E) : spN K n φ vs H Q E := by
  obtain ⟨hl, F, ds, q, x, sf, r, hφ, hq, hx⟩ := h
  refine ⟨hl, F, ds, q, x, sf, r, hφ, fun p F' H' d ex hp fp ho qd => ?_, hx⟩
  obtain ⟨u, hu, _⟩ := ho.kd
  refine hq (.ref p) (upd F' p u) H' d ⟨wf_one ex.wf (fun z => z) hu, ex.ff.trans (same_upd1 fp), ex.hh, fun a h n => ?_⟩ (owo_rp ho (same_upd1 fp) (by rw [upd_same, hu])) qd
  rw [upd_ne (fun z => h (by rw [z]; exact hp))]
  exact ex.fr a h n
section
variable {P : Program} {w : World} {K : PySem.W.Frag} {mg : Str → Option Value} {base : Heap}
theorem fn_ND {f : Addr} {fd : FuncData} {ps : List Str} {k n : Nat} {φ : Ph} (F : FnOk P w K mg base (L2.CX P w) k f fd ps (spN K n φ)) : FnOk P w K mg base (L2.CX P w) k f fd ps (spD K n φ) := by
  obtain ⟨a, b⟩ := F
  exact ⟨fun vs H Q E h => a vs H Q E (spN_of h), fun A st s H ca us vs Q E h1 h2 h3 h4 h5 => b A st s H ca us vs Q E h1 h2 h3 h4 (spN_of h5)⟩
theorem fn_okN {x qual : Str} {st : Stmt} {f : Addr} {fd : FuncData} {dvs : List V} {kws : List (Str × V)} {N ps : List Str} {k n : Nat} {φ : Ph} (F : FD K x qual st dvs kws f fd) (Sc : FnScope N ps (defScope st)) (hn : n = ps.length)
    (h : ∀ (X : Cx) (cdv : Value) (A : Around) (outer : List Env) (s : Shared) (H : Hp) (E : XK) (ds : List Dt) (q : Dt → Prop) (xd : XD), X = cxOf (L2.CX P w) P w K mg base N qual (defScope st) f cdv A outer s H E → Room k X.A → φ ds q xd → ds.length = n →
      (∀ F, Wf .nil F H → XOk K .nil F H xd E → S X .nil (defBody st) (st0 N ds) { nx := fun _ => False, rt := fun _ => False, rn := q })) : FnOk P w K mg base (L2.CX P w) (k + 1) f fd ps (spN K n φ) := by
  refine FunD.ok F Sc (fun vs H Q E hh => by rw [hh.1, hn]) fun cdv A outer s H vs Q E hr hh => ?_
  obtain ⟨hl, F0, ds, q, xd, sf, r, hφ, hq, hx⟩ := hh
  have hS := h _ cdv A outer s H E ds q xd rfl hr hφ (by rw [r.length, hl]) F0 (wf_nil sf) hx
  refine ⟨_, pss_w, hS F0 H _ F0 H _ ⟨wf_nil sf, ?_, by unfold st0; rw [owns0]; exact .nil⟩ ⟨.refl (wf_nil sf), (by unfold st0; rw [owns0]; intro o ho; cases ho), trivial⟩ ⟨fun _ _ _ _ z => z.elim, fun _ _ _ _ z => z.elim, fun d p F1 H1 z e hp fp ho => hq p F1 H1 d e hp fp ho z, fun _ _ _ _ z => z.elim, fun _ _ _ _ z => z.elim⟩⟩
  unfold st0 L2.start
  rw [r.length]
  exact sls0 _ r
end
section
variable {X : Cx} {R : Reg} {G : List Sl} {pos : Pos} {k : Kt}
/-- x(e, ..), a new thing -/
theorem ew_call {x : Str} {ps : List Str} {φ : Ph} {n j : Nat} {e : Expr} {es : List Expr} {p : Pos} {P : Dt → Prop} (F : Fn X.prog X.w X.K X.mg X.base j x ps [] (spN X.K n φ)) (hr : Room j X.A) (hg : Gl X x)
    (h : EA X R G (e :: es) fun ds => ds.length = n ∧ φ ds P fun _ _ _ => False)
    (hdb : (x == ("__debug__" : Str)) = false := by decide) (he : starEach (e :: es) X.env = (false, eval e X.env) :: starEach es X.env := by rfl) (hpl : (backTo pos (starEach es X.env)).any (·.1) = false := by rfl) : EW X R G (.Call (.Name x p) (e :: es) [] pos) P := fun σ F' H Q ty c => by
  obtain ⟨f, fd, ds, a1, a2, a3, a4, a5⟩ := F.ex
  refine tOf.of (pe_call a5 hr hg a1 a2 a3 a4 passL pa_w hdb he hpl) (h σ F' H _ ty fun vs F1 H1 ds ex r ⟨hl, hφ⟩ => ?_)
  rw [List.append_nil]
  refine ⟨by rw [← hl]; exact r.length.symm, F1, _, P, fun _ _ _ => False, ex.wf.fh, r, hφ, fun p F2 H2 d ex2 hp fp ho q => c p F2 H2 d (ex.trans (Ext.of_nil ex.wf ex2)) (ex.free hp) (ex.wf.new hp) fp ho q, ⟨fun _ _ _ _ _ _ _ z => z.elim, fun _ _ _ z => z.elim⟩⟩
end
end VS
set_option Elab.async false
set_option linter.all false
set_option maxRecDepth 100000
/-! a thing of one's own, lent for a statement. -/
namespace VS
open PySem PySem.Spec L2
/-- data that lie at a place -/
def placed : Dt → Bool
  | .lst _ => true
  | .frl _ => true
  | .tup _ => true
  | .dT _ _ => true
  | .dK _ _ => true
  | .obj _ _ _ => true
  | .adr _ => true
  | .key _ => true
  | _ => false
/-- slots with their places told: those of G, as they stand while the thing in slot i is lent -/
inductive Tg (tg : Nat → Addr) (i : Nat) (d0 : Dt) : Nat → List Sl → List Sl → Prop where
  | nil {n : Nat} : Tg tg i d0 n [] []
  | keep {n : Nat} {g : Sl} {G T : List Sl} (hn : n ≠ i) (h : Tg tg i d0 (n + 1) G T) : Tg tg i d0 n (g :: G) (g :: T)
  | tag {n : Nat} {d : Dt} {G T : List Sl} (hn : n ≠ i) (hd : placed d = true) (h : Tg tg i d0 (n + 1) G T) : Tg tg i d0 n (.sh d :: G) (.sh (.at_ (tg n) d) :: T)
  | me {G T : List Sl} (h : Tg tg i d0 (i + 1) G T) : Tg tg i d0 i (.ow d0 :: G) (.sh (.at_ (tg i) d0) :: T)
/-- A as it stands at the end, G as it stood, what is left then -/
inductive Bk (κ : Nat) (tg : Nat → Addr) (i : Nat) (d0 : Dt) : Nat → List Sl → List Sl → List Sl → Prop where
  | nil {n : Nat} : Bk κ tg i d0 n [] [] []
  | no {n : Nat} {a g : Sl} {A G B : List Sl} (hn : n ≠ i) (h : Bk κ tg i d0 (n + 1) A G B) : Bk κ tg i d0 n (a :: A) (g :: G) (.no :: B)
  | free {n : Nat} {d : Dt} {g : Sl} {A G B : List Sl} (hn : n ≠ i) (hf : fre κ d = true) (h : Bk κ tg i d0 (n + 1) A G B) : Bk κ tg i d0 n (.sh d :: A) (g :: G) (.sh d :: B)
  | tag {n : Nat} {d : Dt} {A G B : List Sl} (hn : n ≠ i) (hd : placed d = true) (h : Bk κ tg i d0 (n + 1) A G B) : Bk κ tg i d0 n (.sh (.at_ (tg n) d) :: A) (.sh d :: G) (.sh d :: B)
  | own {n : Nat} {d : Dt} {g : Sl} {A G B : List Sl} (hn : n ≠ i) (hf : freO κ d = true) (h : Bk κ tg i d0 (n + 1) A G B) : Bk κ tg i d0 n (.ow d :: A) (g :: G) (.ow d :: B)
  | me {A G B : List Sl} (h : Bk κ tg i d0 (i + 1) A G B) : Bk κ tg i d0 i (.sh (.at_ (tg i) d0) :: A) (.ow d0 :: G) (.ow d0 :: B)
section
variable {K : PySem.W.Frag} {R : Reg} {F H : Hp} {tg : Nat → Addr} {i : Nat} {d0 : Dt} {κ : Nat}
theorem Tg.len {n : Nat} {G T : List Sl} (h : Tg tg i d0 n G T) : G.length = T.length := by
  induction h with
  | nil => rfl
  | keep _ _ ih => simp [ih]
  | tag _ _ _ ih => simp [ih]
  | me _ ih => simp [ih]
theorem Tg.get {n : Nat} {G T : List Sl} (h : Tg tg i d0 n G T) : ∀ {j : Nat} {t : Sl}, T[j]? = some t → (n + j ≠ i ∧ G[j]? = some t) ∨ (n + j ≠ i ∧ ∃ d, G[j]? = some (.sh d) ∧ t = .sh (.at_ (tg (n + j)) d) ∧ placed d = true) ∨ (n + j = i ∧ G[j]? = some (.ow d0) ∧ t = .sh (.at_ (tg i) d0)) := by
  induction h with
  | nil => intro j t hj; simp at hj
  | @keep n g G T hn _ ih =>
    intro j t hj
    cases j with
    | zero => cases hj; exact .inl ⟨hn, rfl⟩
    | succ j =>
      have := ih (j := j) (t := t) (by simpa using hj)
      rw [show n + 1 + j = n + (j + 1) by omega] at this
      simpa using this
  | @tag n d G T hn hd _ ih =>
    intro j t hj
    cases j with
    | zero => cases hj; exact .inr (.inl ⟨hn, d, rfl, rfl, hd⟩)
    | succ j =>
      have := ih (j := j) (t := t) (by simpa using hj)
      rw [show n + 1 + j = n + (j + 1) by omega] at this
      simpa using this
  | @me G T _ ih =>
    intro j t hj
    cases j with
    | zero => cases hj; exact .inr (.inr ⟨rfl, rfl, rfl⟩)
    | succ j =>
      have := ih (j := j) (t := t) (by simpa using hj)
      rw [show i + 1 + j = i + (j + 1) by omega] at this
      simpa using this
theorem Bk.len {n : Nat} {A G B : List Sl} (h : Bk κ tg i d0 n A G B) : B.length = A.length := by
  induction h with
  | nil => rfl
  | no _ _ ih => simp [ih]
  | free _ _ _ ih => simp [ih]
  | tag _ _ _ ih => simp [ih]
  | own _ _ _ ih => simp [ih]
  | me _ ih => simp [ih]
theorem Bk.lenG {n : Nat} {A G B : List Sl} (h : Bk κ tg i d0 n A G B) : B.length = G.length := by
  induction h with
  | nil => rfl
  | no _ _ ih => simp [ih]
  | free _ _ _ ih => simp [ih]
  | tag _ _ _ ih => simp [ih]
  | own _ _ _ ih => simp [ih]
  | me _ ih => simp [ih]
theorem Bk.get {n : Nat} {A G B : List Sl} (h : Bk κ tg i d0 n A G B) : ∀ {j : Nat} {b : Sl}, B[j]? = some b → (n + j ≠ i ∧ b = .no ∧ ∃ a, A[j]? = some a) ∨ (n + j ≠ i ∧ ∃ d, b = .sh d ∧ A[j]? = some (.sh d) ∧ fre κ d = true) ∨ (n + j ≠ i ∧ ∃ d, b = .sh d ∧ A[j]? = some (.sh (.at_ (tg (n + j)) d)) ∧ G[j]? = some (.sh d) ∧ placed d = true) ∨
    (n + j ≠ i ∧ ∃ d, b = .ow d ∧ A[j]? = some (.ow d) ∧ freO κ d = true) ∨ (n + j = i ∧ b = .ow d0 ∧ A[j]? = some (.sh (.at_ (tg i) d0)) ∧ G[j]? = some (.ow d0)) := by
  induction h with
  | nil => intro j t hj; simp at hj
  | @no n a g A G B hn _ ih =>
    intro j t hj
    cases j with
    | zero => cases hj; exact .inl ⟨hn, rfl, a, rfl⟩
    | succ j =>
      have := ih (j := j) (b := t) (by simpa using hj)
      rw [show n + 1 + j = n + (j + 1) by omega] at this
      simpa using this
  | @free n d g A G B hn hf _ ih =>
    intro j t hj
    cases j with
    | zero => cases hj; exact .inr (.inl ⟨hn, d, rfl, rfl, hf⟩)
    | succ j =>
      have := ih (j := j) (b := t) (by simpa using hj)
      rw [show n + 1 + j = n + (j + 1) by omega] at this
      simpa using this
  | @tag n d A G B hn hd _ ih =>
    intro j t hj
    cases j with
    | zero => cases hj; exact .inr (.inr (.inl ⟨hn, d, rfl, rfl, rfl, hd⟩))
    | succ j =>
      have := ih (j := j) (b := t) (by simpa using hj)
      rw [show n + 1 + j = n + (j + 1) by omega] at this
      simpa using this
  | @own n d g A G B hn hf _ ih =>
    intro j t hj
    cases j with
    | zero => cases hj; exact .inr (.inr (.inr (.inl ⟨hn, d, rfl, rfl, hf⟩)))
    | succ j =>
      have := ih (j := j) (b := t) (by simpa using hj)
      rw [show n + 1 + j = n + (j + 1) by omega] at this
      simpa using this
  | @me A G B _ ih =>
    intro j t hj
    cases j with
    | zero => cases hj; exact .inr (.inr (.inr (.inr ⟨rfl, rfl, rfl, rfl⟩)))
    | succ j =>
      have := ih (j := j) (b := t) (by simpa using hj)
      rw [show i + 1 + j = i + (j + 1) by omega] at this
      simpa using this
end
section
variable {X : Cx} {R : Reg} {G : List Sl} {pos : Pos} {k : Kt}
/-- a variable whose place is told -/
theorem e_vA (i : Nat) {x : Str} {a : Addr} {d : Dt} {P : Dt → Prop} (p : P d) (hg : G[i]? = some (.sh (.at_ a d)) := by rfl) (hN : X.N[i]? = some x := by rfl) (hv : Vis X.env.scope x := by first | exact Or.inl rfl | exact Or.inr (Or.inl rfl) | exact Or.inr (Or.inr rfl))
    (hd : (x == ("__debug__" : Str)) = false := by decide) (hcd : (x == ("__classdict__" : Str)) = false := by decide) : E X R G (.Name x pos) P := fun σ F H Q ty c => by
  obtain ⟨v, e1, y, e2, r⟩ := ty.sl.get hg
  simp only [Rp] at r
  exact tOf.of (pe_var hN hv hd hcd) ⟨y, by rw [e1, e2], c.here ty.wf r.2 p⟩
/-- the address that a slot holds -/
def adrOf : Option (Option V) → Addr
  | some (some (.ref a)) => a
  | _ => default
mutual
theorem rp_ref {K : PySem.W.Frag} {F : Hp} : ∀ {d : Dt} {v : V}, Rp K F d v → (∃ xs, d = .lst xs) ∨ (∃ xs, d = .frl xs) ∨ (∃ xs, d = .tup xs) ∨ (∃ ks xs, d = .dT ks xs) ∨ (∃ ks xs, d = .dK ks xs) ∨ (∃ C ns xs, d = .obj C ns xs) ∨ (∃ a, d = .adr a) ∨ (∃ ks, d = .key ks) → ∃ a, v = .ref a
  | d, v, h, hd => by
    rcases hd with ⟨xs, rfl⟩ | ⟨xs, rfl⟩ | ⟨xs, rfl⟩ | ⟨ks, xs, rfl⟩ | ⟨ks, xs, rfl⟩ | ⟨C, ns, xs, rfl⟩ | ⟨a, rfl⟩ | ⟨ks, rfl⟩
    · obtain ⟨a, _, e, _⟩ := rp_lst.mp h; exact ⟨a, e⟩
    · obtain ⟨a, _, e, _⟩ := rp_frl.mp h; exact ⟨a, e⟩
    · obtain ⟨a, _, e, _⟩ := rp_tup.mp h; exact ⟨a, e⟩
    · obtain ⟨a, _, e, _⟩ := rp_dT.mp h; exact ⟨a, e⟩
    · simp only [Rp] at h; obtain ⟨a, _, e, _⟩ := h; exact ⟨a, e⟩
    · obtain ⟨a, _, _, e, _⟩ := rp_obj.mp h; exact ⟨a, e⟩
    · exact ⟨a, rp_adr.mp h⟩
    · obtain ⟨a, e, _⟩ := rp_key.mp h; exact ⟨a, e⟩
end
theorem rp_placed {K : PySem.W.Frag} {F : Hp} {d : Dt} {v : V} (h : Rp K F d v) (hd : placed d = true) : ∃ a, v = .ref a := by
  refine rp_ref h ?_
  cases d with
  | lst xs => exact .inl ⟨xs, rfl⟩
  | frl xs => exact .inr (.inl ⟨xs, rfl⟩)
  | tup xs => exact .inr (.inr (.inl ⟨xs, rfl⟩))
  | dT ks xs => exact .inr (.inr (.inr (.inl ⟨ks, xs, rfl⟩)))
  | dK ks xs => exact .inr (.inr (.inr (.inr (.inl ⟨ks, xs, rfl⟩))))
  | obj C ns xs => exact .inr (.inr (.inr (.inr (.inr (.inl ⟨C, ns, xs, rfl⟩)))))
  | adr a => exact .inr (.inr (.inr (.inr (.inr (.inr (.inl ⟨a, rfl⟩))))))
  | key ks => exact .inr (.inr (.inr (.inr (.inr (.inr (.inr ⟨ks, rfl⟩))))))
  | _ => cases hd
/-- a statement while the thing in slot i is lent -/
theorem s1_bor (i : Nat) {d0 : Dt} {st : Stmt} (T : (Nat → Addr) → List Sl) (hg : G[i]? = some (.ow d0)) (hT : ∀ tg, Tg tg i d0 0 G (T tg))
    (h : ∀ tg, S1 X R st (T tg) { nx := fun A => ∃ B, Bk (kOf d0) tg i d0 0 A G B ∧ k.nx B, rt := k.rt, rn := k.rn }) : S1 X R st G k := fun F0 H0 σ F H D ty b c => by
  obtain ⟨o, hs, fo, nM, ow⟩ := ty.own hg
  obtain ⟨u, hu, hk⟩ := ow.kd
  have ty0 := ty.lend hg hs fo nM ow hu
  have h0 : H0 o = none := b.fresh o (mem_owns hg hs)
  have hlt : i < G.length := (List.getElem?_eq_some_iff.mp hg).1
  have hTg := hT fun j => adrOf (σ[j]?)
  have ti : adrOf (σ[i]?) = o := by rw [hs]; rfl
  have ext0 : Ext R F0 H0 (upd F o u) H := ⟨ty0.wf, b.ext.ff.trans (same_upd1 fo), b.ext.hh, fun a ha n => by
    have e : a ≠ o := fun z => ha (by rw [z]; exact h0)
    rw [upd_ne e]
    exact b.ext.fr a ha n⟩
  have ownT : ∀ {j : Nat} {d : Dt}, (T fun j => adrOf (σ[j]?))[j]? = some (.ow d) → j ≠ i ∧ G[j]? = some (.ow d) := fun {j d} hj => by
    rcases hTg.get hj with ⟨h1, h2⟩ | ⟨h1, d', h2, h3, h4⟩ | ⟨h1, h2, h3⟩
    · exact ⟨by omega, h2⟩
    · cases h3
    · cases h3
  have ty1 : Ty X.K R (T fun j => adrOf (σ[j]?)) σ (upd F o u) H := by
    refine ⟨ty0.wf, sls_of (by rw [← hTg.len]; exact ty.sl.len) fun j t hj => ?_, nd_of fun i1 i2 d d' o' h1 h2 h3 h4 => own_inj ty.nd (ownT h1).2 h2 (ownT h3).2 h4⟩
    rcases hTg.get hj with ⟨h1, h2⟩ | ⟨h1, d', h2, h3, h4⟩ | ⟨h1, h2, h3⟩
    · have := ty0.sl.get (i := j) (g := t) (by rw [List.getElem?_set_ne (by omega)]; exact h2)
      exact this
    · subst h3
      obtain ⟨v, e1, x, e2, r⟩ := ty0.sl.get (i := j) (g := .sh d') (by rw [List.getElem?_set_ne (by omega)]; exact h2)
      subst e2
      obtain ⟨a, rfl⟩ := rp_placed r h4
      refine ⟨_, e1, .ref a, rfl, ?_⟩
      simp only [Rp]
      rw [Nat.zero_add, e1]
      exact ⟨rfl, r⟩
    · subst h3
      have h1' : j = i := by omega
      subst h1'
      obtain ⟨v, e1, x, e2, r⟩ := ty0.sl.get (i := j) (g := .sh d0) (by rw [List.getElem?_set_self hlt])
      subst e2
      rw [hs] at e1
      cases e1
      refine ⟨_, hs, .ref o, rfl, ?_⟩
      simp only [Rp]
      rw [hs]
      exact ⟨rfl, r⟩
  have bs1 : Bs R F0 H0 (T fun j => adrOf (σ[j]?)) σ (upd F o u) H := ⟨ext0, fun p hp => by
    obtain ⟨j, d, h1, h2⟩ := owns_mem hp
    exact b.fresh p (mem_owns (ownT h1).2 h2), b.z⟩
  refine h _ (upd F o u) H0 σ (upd F o u) H D ty1 bs1.here ⟨fun A σ' F' H' ⟨B, hB, hn⟩ ty' b' => ?_, fun d v F1 H1 z e r => c.rt d v F1 H1 z (ext0.back e) r, fun d p F1 H1 z e => c.rn d p F1 H1 z (ext0.back e), fun _ _ _ _ z => z.elim, fun _ _ _ _ z => z.elim⟩
  have fo' : F' o = some u := b'.ext.ff _ _ upd_same
  have sff : Same F (del F' o) := fun a z hz => by
    have e : a ≠ o := fun e => by rw [e, fo] at hz; cases hz
    rw [del_ne e]
    exact b'.ext.ff a z (by rw [upd_ne e]; exact hz)
  have hl : B.length = σ'.length := by rw [hB.len]; exact ty'.sl.len
  have hi : i < B.length := by rw [hB.lenG]; exact hlt
  have si : σ'[i]? = some (some (.ref o)) := by
    rcases hB.get (j := i) (b := B[i]) (List.getElem?_eq_getElem hi) with ⟨h1, _⟩ | ⟨h1, _⟩ | ⟨h1, _⟩ | ⟨h1, _⟩ | ⟨_, _, h2, _⟩
    · omega
    · omega
    · omega
    · omega
    · obtain ⟨v, e1, x, e2, r⟩ := ty'.sl.get h2
      simp only [Rp] at r
      rw [e1, e2, r.1, ti]
  have hu' : H' o = some u := ty'.wf.fh _ _ fo'
  have owB : OwO X.K (del F' o) H' o d0 := ow.mono sff fun z hz => by rw [hu] at hz; cases hz; exact hu'
  have ownB : ∀ {j : Nat} {d : Dt} {p : Addr}, B[j]? = some (.ow d) → σ'[j]? = some (some (.ref p)) → j = i ∧ p = o ∨ (j ≠ i ∧ A[j]? = some (.ow d) ∧ p ≠ o) := fun {j d p} hj hp => by
    rcases hB.get hj with ⟨_, h2, _⟩ | ⟨_, d', h2, _⟩ | ⟨_, d', h2, _⟩ | ⟨h1, d', h2, h3, _⟩ | ⟨h1, _⟩
    · cases h2
    · cases h2
    · cases h2
    · cases h2
      refine .inr ⟨by omega, h3, fun z => ?_⟩
      obtain ⟨o2, e1, f1, _⟩ := ty'.own h3
      rw [hp] at e1
      cases e1
      rw [z, fo'] at f1
      cases f1
    · have e : j = i := by omega
      subst e
      rw [si] at hp
      cases hp
      exact .inl ⟨rfl, rfl⟩
  have tyB : Ty X.K R B σ' (del F' o) H' := by
    refine ⟨wf_del ty'.wf, sls_of hl fun j t hj => ?_, nd_of fun i1 i2 d d' p h1 h2 h3 h4 => ?_⟩
    · rcases hB.get hj with ⟨_, rfl, a, h2⟩ | ⟨_, d, rfl, h2, hf⟩ | ⟨h1, d, rfl, h2, h3, hp⟩ | ⟨h1, d, rfl, h2, hf⟩ | ⟨h1, rfl, h2, h3⟩
      · obtain ⟨v, e1, _⟩ := ty'.sl.get h2
        exact ⟨v, e1, trivial⟩
      · obtain ⟨v, e1, x, e2, r⟩ := ty'.sl.get h2
        exact ⟨v, e1, x, e2, rp_del fo' hk r hf⟩
      · obtain ⟨v, e1, x, e2, r⟩ := ty'.sl.get h2
        obtain ⟨v0, e3, x0, e4, r0⟩ := ty.sl.get h3
        obtain ⟨a, rfl⟩ := rp_placed r0 hp
        simp only [Rp] at r
        rw [Nat.zero_add, e3, e4] at r
        exact ⟨v, e1, x, e2, by rw [r.1]; exact r0.mono sff⟩
      · obtain ⟨v, e1, p, e2, f1, nM1, ow1⟩ := ty'.sl.get h2
        refine ⟨v, e1, p, e2, ?_, nM1, ow1.del fo' hk hf⟩
        by_cases e : p = o
        · rw [e]; exact del_same
        · rw [del_ne e]; exact f1
      · have e : j = i := by omega
        subst e
        exact ⟨_, si, o, rfl, del_same, nM, owB⟩
    · rcases ownB h1 h2 with ⟨e1, e2⟩ | ⟨e1, e2, e3⟩
      · rcases ownB h3 h4 with ⟨e4, e5⟩ | ⟨e4, e5, e6⟩
        · omega
        · exact absurd e2 e6
      · rcases ownB h3 h4 with ⟨e4, e5⟩ | ⟨e4, e5, e6⟩
        · exact absurd e5 e3
        · exact own_inj ty'.nd e2 h2 e5 h4
  have bsB : Bs R F0 H0 B σ' (del F' o) H' := by
    refine ⟨⟨wf_del ty'.wf, b.ext.ff.trans sff, b'.ext.hh, fun a ha n => ?_⟩, fun p hp => ?_, b.z⟩
    · by_cases e : a = o
      · rw [e]; exact del_same
      · rw [del_ne e]
        exact (ext0.back b'.ext).fr a ha n
    · obtain ⟨j, d, h1, h2⟩ := owns_mem hp
      rcases ownB h1 h2 with ⟨e1, e2⟩ | ⟨e1, e2, e3⟩
      · rw [e2]; exact h0
      · exact b'.fresh p (mem_owns e2 h2)
  exact c.nx B σ' (del F' o) H' hn tyB bsB
end
end VS
set_option Elab.async false
set_option linter.all false
set_option maxRecDepth 100000
/-! plain: words, split at the slash. -/
namespace VS
open PySem PySem.Spec L2
theorem spl_none : ∀ (l acc : List Nat), TL.par [47] acc l = none → TL.spl [47] 0 acc l = [acc ++ l]
  | [], acc, _ => by rw [TL.spl_nil, List.append_nil]
  | c :: r, acc, h => by
    unfold TL.par at h
    split at h
    · cases h
    · rename_i hp
      rw [TL.spl_miss (by simpa using hp), spl_none r (acc ++ [c]) h, List.append_assoc]
      rfl
theorem spl_some : ∀ (l acc : List Nat) {p q : List Nat}, TL.par [47] acc l = some (p, q) → TL.spl [47] 0 acc l = p :: TL.spl [47] 0 [] q
  | [], acc, p, q, h => by cases h
  | c :: r, acc, p, q, h => by
    unfold TL.par at h
    split at h
    · rename_i hp
      cases h
      rw [TL.spl_hit hp]
      rfl
    · rename_i hp
      rw [TL.spl_miss (by simpa using hp)]
      exact spl_some r (acc ++ [c]) h
theorem spl_ne (l acc : List Nat) : TL.spl [47] 0 acc l ≠ [] := by
  cases h : TL.par [47] acc l with
  | none => rw [spl_none l acc h]; exact List.cons_ne_nil _ _
  | some pq => rw [spl_some l acc (p := pq.1) (q := pq.2) h]; exact List.cons_ne_nil _ _
theorem par_mem : ∀ (l acc : List Nat) {p q : List Nat}, TL.par [47] acc l = some (p, q) → 47 ∈ l
  | [], acc, p, q, h => by cases h
  | c :: r, acc, p, q, h => by
    unfold TL.par at h
    split at h
    · rename_i hp
      have : c = 47 := by simpa [TL.pre] using hp
      rw [this]
      exact List.mem_cons_self ..
    · exact List.mem_cons_of_mem _ (par_mem r (acc ++ [c]) h)
theorem rdNum_bad {l : List Nat} (h : 47 ∈ l) : rdNum l 30 = -1 := by
  unfold rdNum
  rw [if_pos (.inr (.inr ⟨47, h, by decide⟩))]
def dueS : List (List Nat) → Option (Int × Int)
  | [p, q] => if okSh (rdNum p 30) (rdNum q 30) = true then some (rdNum p 30, rdNum q 30) else none
  | _ => none
theorem due_eq (l : List Nat) : dueS (TL.spl [47] 0 [] l) = rdShare l := by
  unfold rdShare
  cases h : TL.par [47] [] l with
  | none => rw [spl_none l [] h]; rfl
  | some pq =>
    obtain ⟨p, q⟩ := pq
    rw [spl_some l [] h]
    cases h2 : TL.par [47] [] q with
    | none => rw [spl_none q [] h2]; rfl
    | some pq2 =>
      obtain ⟨p2, q2⟩ := pq2
      rw [spl_some q [] h2]
      have e : rdNum q 30 = -1 := rdNum_bad (par_mem q [] h2)
      dsimp only
      rw [e, if_neg (by unfold okSh isShare; simp)]
      cases h3 : TL.spl [47] 0 [] q2 with
      | nil => exact absurd h3 (spl_ne q2 [])
      | cons z zs => rfl
theorem okSh_eq (n d : Int) : okSh n d = ((decide (0 < n) && decide (n < d)) && decide ((Int.gcd n d : Int) = 1)) := by
  unfold okSh isShare
  by_cases h : (Int.gcd n d : Int) = 1
  · rw [decide_eq_true h]
    rw [Bool.eq_iff_iff]
    simp
    omega
  · rw [decide_eq_false h]
    simp
theorem kS (k : Str) : k ++ Str.ofString " " = SX.S (k.cps.toList ++ [32]) := by
  have := SX.S_cat k.cps.toList [32]
  rw [SX.S_tl] at this
  exact this
theorem starts_cut (k : Str) (l : List Nat) : decide (cutS (SX.S l) none (some ((k.length : Int) + 1)) = k ++ Str.ofString " ") = Txt.startswith (SX.S l) (k ++ Str.ofString " ") := by
  rw [kS, starts_pre, C8.cutS_slice, SX.slice_to (by omega)]
  have e : ((k.length : Int) + 1).toNat = (k.cps.toList ++ [32]).length := by rw [List.length_append, Array.length_toList]; show _ = k.length + 1; omega
  rw [e]
  refine decide_eq_decide.mpr ⟨fun h => SX.S_inj h, fun h => congrArg SX.S h⟩
theorem rest_S (k : Str) (l : List Nat) : cutS (SX.S l) (some ((k.length : Int) + 1)) none = SX.S (restL k l) := (SX.S_tl _).symm
theorem split_rest (l : List Nat) : Txt.split (SX.S l) (Str.ofString "/") = (TL.spl [47] 0 [] l).map SX.S := SX.split_S (b := [47]) (by decide) (by decide)
theorem dig_lt : ∀ (l : List Nat) (acc : Nat) , NumText.AllDigits l → l.foldl (fun acc c => acc * 10 + (c - 48)) acc < (acc + 1) * 10 ^ l.length
  | [], acc, _ => by simp
  | c :: r, acc, h => by
    have ih := dig_lt r (acc * 10 + (c - 48)) h.tail
    have hc := h.head
    refine Nat.lt_of_lt_of_le ih ?_
    rw [List.length_cons, Nat.pow_succ, Nat.mul_comm (10 ^ r.length) 10, ← Nat.mul_assoc]
    exact Nat.mul_le_mul_right _ (by omega)
theorem rdNum_lt (l : List Nat) : (rdNum l 30).natAbs < 10 ^ 30 := by
  unfold rdNum
  split
  · decide
  · rename_i hb
    split
    · decide
    · have hdig : NumText.AllDigits l := fun c hc => by
        have : c ∈ dg := Classical.byContradiction fun h => hb (.inr (.inr ⟨c, hc, h⟩))
        unfold dg at this
        simp only [List.mem_cons, List.not_mem_nil, or_false] at this
        omega
      have h1 := dig_lt l 0 hdig
      have h2 : l.length ≤ 30 := by
        have := fun h => hb (.inr (.inl h))
        omega
      rw [Nat.zero_add, Nat.one_mul] at h1
      exact Nat.lt_of_lt_of_le h1 (Nat.pow_le_pow_right (by decide) h2)
theorem rdShare_sz {l : List Nat} {r : Int × Int} (h : rdShare l = some r) : SzR 400 r := by
  unfold rdShare at h
  split at h
  · split at h
    · cases h
      exact ⟨Nat.lt_trans (rdNum_lt _) (by decide), Nat.lt_trans (rdNum_lt _) (by decide)⟩
    · cases h
  · cases h
theorem tryK_sz {k : Str} {l : List Nat} {r : Int × Int} (h : tryK k l = some r) : SzR 400 r := by
  unfold tryK at h
  split at h
  · exact rdShare_sz h
  · cases h
theorem rdWord_sz {l : List Nat} {w : Str × Option (Int × Int)} (h : rdWord l = some w) : ∀ a, w.2 = some a → SzR 400 a := by
  unfold rdWord at h
  split at h
  · cases h
    intro a ha
    cases ha
  · split at h
    · rename_i r hr
      cases h
      intro a ha
      cases ha
      exact tryK_sz hr
    · split at h
      · rename_i r hr
        cases h
        intro a ha
        cases ha
        exact tryK_sz hr
      · cases h
theorem rdWord_ok {l : List Nat} {w : Str × Option (Int × Int)} (h : rdWord l = some w) : okD (wdD w) = true := by
  unfold rdWord at h
  split at h
  · cases h
    exact ok_wd (by decide +kernel) _
  · split at h
    · cases h
      exact ok_wd (by decide +kernel) _
    · split at h
      · cases h
        exact ok_wd (by decide +kernel) _
      · cases h
def wdO : Option (Str × Option (Int × Int)) → Dt
  | some w => wdD w
  | none => .non
def ph__law_number : Ph := fun ds q _ => ∃ l : List Nat, ds = [.str (SX.S l)] ∧ l.length ≤ 90000 ∧ q (.int (rdNum l 30))
theorem u__law_number {l : List Nat} {q : Dt → Prop} {x : XD} (h : l.length ≤ 90000) (p : q (.int (rdNum l 30))) : ph__law_number [.str (SX.S l)] q x := ⟨l, rfl, h, p⟩
def ph__law_due : Ph := fun ds q _ => ∃ l : List Nat, ds = [.str (SX.S l)] ∧ l.length ≤ 90000 ∧ q (wdO (rdWord l))
theorem u__law_due {l : List Nat} {q : Dt → Prop} {x : XD} (h : l.length ≤ 90000) (p : q (wdO (rdWord l))) : ph__law_due [.str (SX.S l)] q x := ⟨l, rfl, h, p⟩
def ph__law_written : Ph := fun ds q _ => ds = [] ∧ ∀ l : List Nat, l.length ≤ 50 → q (.str (SX.S l))
theorem u__law_written {q : Dt → Prop} {x : XD} (_ : True) (p : ∀ l : List Nat, l.length ≤ 50 → q (.str (SX.S l))) : ph__law_written [] q x := ⟨rfl, p⟩
def ph__law_text : Ph := fun ds q _ => ds = [] ∧ ∀ l : List Nat, l.length ≤ 200 → q (.str (SX.S l))
theorem u__law_text {q : Dt → Prop} {x : XD} (_ : True) (p : ∀ l : List Nat, l.length ≤ 200 → q (.str (SX.S l))) : ph__law_text [] q x := ⟨rfl, p⟩
def ph__law_refused : Ph := fun ds q _ => ∃ (i : Int) (l : List Nat), ds = [.int i, .str (SX.S l)] ∧ (l.length ≤ 90000 ∧ rdWord l = none) ∧ q (.bl true)
theorem u__law_refused {i : Int} {l : List Nat} {q : Dt → Prop} {x : XD} (h : l.length ≤ 90000 ∧ rdWord l = none) (p : q (.bl true)) : ph__law_refused [.int i, .str (SX.S l)] q x := ⟨i, l, rfl, h, p⟩
def ph_is_wrongE (C : Addr) : Ph := fun ds q x => ∃ (l : List Nat) (s : Int × Int), ds = [.str (SX.S l), ratD s] ∧ (l.length ≤ 90000 ∧ SzR 400 s) ∧ (∀ w, rdWord l = some w → q (.bl (wrongW w s))) ∧ (rdWord l = none → x C ["word"] [.str (SX.S l)])
theorem u_is_wrongE {C : Addr} {l : List Nat} {w : Str × Option (Int × Int)} {s : Int × Int} {q : Dt → Prop} {x : XD} (h : l.length ≤ 90000 ∧ SzR 400 s ∧ rdWord l = some w) (p : q (.bl (wrongW w s))) : ph_is_wrongE C [.str (SX.S l), ratD s] q x :=
  ⟨l, s, rfl, ⟨h.1, h.2.1⟩, fun w' e => by rw [h.2.2] at e; cases e; exact p, fun e => by rw [h.2.2] at e; cases e⟩
end VS
set_option Elab.async false
set_option linter.all false
set_option maxRecDepth 100000
/-! plain: polynomials as lists of ints. -/
namespace VS
open PySem PySem.Spec L2
/-- the i-th coefficient -/
def cf (l : List Int) (i : Nat) : Int := l.getD i 0
@[simp] theorem cf_nil (i : Nat) : cf [] i = 0 := by simp [cf]
@[simp] theorem cf_zero (x : Int) (l : List Int) : cf (x :: l) 0 = x := by simp [cf]
@[simp] theorem cf_succ (x : Int) (l : List Int) (i : Nat) : cf (x :: l) (i + 1) = cf l i := by simp [cf]
theorem cf_ge {l : List Int} {i : Nat} (h : l.length ≤ i) : cf l i = 0 := by
  unfold cf
  rw [List.getD_eq_getElem?_getD, List.getElem?_eq_none h]
  rfl
theorem cf_lt {l : List Int} {i : Nat} (h : i < l.length) : l[i]? = some (cf l i) := by
  unfold cf
  rw [List.getD_eq_getElem?_getD, List.getElem?_eq_getElem h]
  rfl
/-- without zeros at the end -/
def trimL : List Int → List Int
  | [] => []
  | x :: l => if trimL l = [] ∧ x = 0 then [] else x :: trimL l
theorem trim_cons (x : Int) (l : List Int) : trimL (x :: l) = if trimL l = [] ∧ x = 0 then [] else x :: trimL l := rfl
theorem cf_trim : ∀ (l : List Int) (i : Nat), cf (trimL l) i = cf l i
  | [], i => rfl
  | x :: l, i => by
    unfold trimL
    split
    · rename_i h
      cases i with
      | zero => rw [h.2]; simp
      | succ j =>
        have := cf_trim l j
        rw [h.1] at this
        simpa using this
    · cases i with
      | zero => simp
      | succ j => simp [cf_trim l j]
theorem trim_nil_iff : ∀ (l : List Int), trimL l = [] ↔ ∀ i, cf l i = 0
  | [] => by simp [trimL]
  | x :: l => by
    have ih := trim_nil_iff l
    unfold trimL
    constructor
    · intro h i
      split at h
      · rename_i z
        cases i with
        | zero => simp [z.2]
        | succ j => simp [ih.mp z.1 j]
      · cases h
    · intro h
      rw [if_pos]
      exact ⟨ih.mpr fun i => by have := h (i + 1); simpa using this, by have := h 0; simpa using this⟩
theorem trim_ext : ∀ {a b : List Int}, (∀ i, cf a i = cf b i) → trimL a = trimL b
  | [], b, h => by
    have : trimL b = [] := (trim_nil_iff b).mpr fun i => by rw [← h i]; simp
    rw [this]; rfl
  | x :: a, [], h => by
    have : trimL (x :: a) = [] := (trim_nil_iff _).mpr fun i => by rw [h i]; simp
    rw [this]; rfl
  | x :: a, y :: b, h => by
    have e : x = y := by have := h 0; simpa using this
    have t : trimL a = trimL b := trim_ext fun i => by have := h (i + 1); simpa using this
    unfold trimL
    rw [e, t]
theorem trim_idem (l : List Int) : trimL (trimL l) = trimL l := trim_ext (cf_trim l)
theorem trim_len : ∀ (l : List Int), (trimL l).length ≤ l.length
  | [] => Nat.le_refl _
  | x :: l => by
    have := trim_len l
    unfold trimL
    split
    · simp
    · simp; omega
theorem trim_mem : ∀ {l : List Int} {x : Int}, x ∈ trimL l → x ∈ l
  | [], x, h => h
  | y :: l, x, h => by
    unfold trimL at h
    split at h
    · cases h
    · rcases List.mem_cons.mp h with e | e
      · rw [e]; exact List.mem_cons_self
      · exact List.mem_cons_of_mem _ (trim_mem e)
/-- trimmed -/
def Tr (l : List Int) : Prop := trimL l = l
theorem tr_trim (l : List Int) : Tr (trimL l) := trim_idem l
theorem tr_nil : Tr [] := rfl
theorem tr_ext {a b : List Int} (ha : Tr a) (hb : Tr b) (h : ∀ i, cf a i = cf b i) : a = b := by rw [← ha, ← hb]; exact trim_ext h
theorem tr_last : ∀ {l : List Int}, Tr l → l ≠ [] → cf l (l.length - 1) ≠ 0
  | [], _, h => absurd rfl h
  | [x], ht, _ => by
    intro z
    have hx : x = 0 := by simpa using z
    unfold Tr trimL at ht
    rw [if_pos ⟨rfl, hx⟩] at ht
    cases ht
  | x :: y :: l, ht, _ => by
    have h2 : Tr (y :: l) := by
      unfold Tr at ht ⊢
      rw [trimL] at ht
      split at ht
      · cases ht
      · exact (List.cons.inj ht).2
    have := tr_last h2 (by simp)
    simpa using this
theorem take_trim : ∀ {s : Nat} {l : List Int}, s ≤ l.length → (∀ i, s ≤ i → cf l i = 0) → (s = 0 ∨ cf l (s - 1) ≠ 0) → l.take s = trimL l
  | 0, l, _, h, _ => by
    rw [List.take_zero]
    exact ((trim_nil_iff l).mpr fun i => h i (Nat.zero_le _)).symm
  | s + 1, [], hl, _, _ => by simp at hl
  | s + 1, x :: l, hl, h, hn => by
    have hl' : s ≤ l.length := by simpa using hl
    have hn' : cf (x :: l) s ≠ 0 := by
      rcases hn with z | z
      · cases z
      · simpa using z
    have h' : ∀ i, s ≤ i → cf l i = 0 := fun i hi => by have := h (i + 1) (by omega); simpa using this
    have ih := take_trim (s := s) (l := l) hl' h' (by
      cases s with
      | zero => exact .inl rfl
      | succ t => right; simpa using hn')
    rw [List.take_succ_cons, ih, trim_cons, if_neg]
    rintro ⟨z1, z2⟩
    apply hn'
    cases s with
    | zero => simpa using z2
    | succ t =>
      have := (trim_nil_iff l).mp z1 t
      simpa using this
/-- sums -/
def addL : List Int → List Int → List Int
  | [], b => b
  | a, [] => a
  | x :: a, y :: b => (x + y) :: addL a b
theorem cf_add : ∀ (a b : List Int) (i : Nat), cf (addL a b) i = cf a i + cf b i
  | [], b, i => by simp [addL]
  | x :: a, [], i => by simp [addL]
  | x :: a, y :: b, 0 => by simp [addL]
  | x :: a, y :: b, i + 1 => by simp [addL, cf_add a b i]
theorem len_add : ∀ (a b : List Int), (addL a b).length = max a.length b.length
  | [], b => by simp [addL]
  | x :: a, [] => by simp [addL]
  | x :: a, y :: b => by simp only [addL, List.length_cons, len_add a b]; omega
def scL (c : Int) (l : List Int) : List Int := l.map (c * ·)
theorem cf_sc (c : Int) : ∀ (l : List Int) (i : Nat), cf (scL c l) i = c * cf l i
  | [], i => by simp [scL]
  | x :: l, 0 => by simp [scL]
  | x :: l, i + 1 => by
    have := cf_sc c l i
    simpa [scL] using this
theorem len_sc (c : Int) (l : List Int) : (scL c l).length = l.length := by simp [scL]
/-- sizes -/
def SzL (B : Nat) (l : List Int) : Prop := ∀ x ∈ l, x.natAbs < 2 ^ B
theorem SzL.up {B C : Nat} {l : List Int} (h : SzL B l) (hl : B ≤ C) : SzL C l := fun x hx => sz_up (h x hx) hl
theorem SzL.trim {B : Nat} {l : List Int} (h : SzL B l) : SzL B (trimL l) := fun x hx => h x (trim_mem hx)
theorem SzL.add {B : Nat} : ∀ {a b : List Int}, SzL B a → SzL B b → SzL (B + 1) (addL a b)
  | [], b, _, hb => by rw [addL]; exact hb.up (by omega)
  | x :: a, [], ha, _ => ha.up (by omega)
  | x :: a, y :: b, ha, hb => fun z hz => by
    rw [addL] at hz
    rcases List.mem_cons.mp hz with e | e
    · rw [e]; exact sz_add (ha x List.mem_cons_self) (hb y List.mem_cons_self)
    · exact SzL.add (fun u hu => ha u (List.mem_cons_of_mem _ hu)) (fun u hu => hb u (List.mem_cons_of_mem _ hu)) z e
theorem SzL.sc {B C : Nat} {c : Int} {l : List Int} (h : SzL B l) (hc : c.natAbs < 2 ^ C) : SzL (C + B) (scL c l) := fun z hz => by
  obtain ⟨x, hx, rfl⟩ := List.mem_map.mp hz
  exact sz_mul hc (h x hx)
theorem SzL.neg {B : Nat} {l : List Int} (h : SzL B l) : SzL B (scL (-1) l) := fun z hz => by
  obtain ⟨x, hx, rfl⟩ := List.mem_map.mp hz
  rw [Int.neg_one_mul]
  exact sz_neg (h x hx)
theorem SzL.nil {B : Nat} : SzL B [] := fun x h => nomatch h
theorem SzL.one {B : Nat} {x : Int} (h : x.natAbs < 2 ^ B) : SzL B [x] := fun y hy => by rw [List.mem_singleton.mp hy]; exact h
/-- a polynomial as an object -/
def polD (C : Addr) (l : List Int) : Dt := .obj C ["coefs"] [.tup (l.map .int)]
def iL (l : List Int) : Dt := .lst (l.map .int)
def iT (l : List Int) : Dt := .tup (l.map .int)
theorem get_intL {ns : List Int} {i : Nat} {d : Dt} (h : (ns.map Dt.int)[i]? = some d) : i < ns.length ∧ d = .int (cf ns i) := by
  rw [List.getElem?_map] at h
  cases e : ns[i]? with
  | none => rw [e] at h; cases h
  | some z =>
    rw [e] at h
    have hi := (List.getElem?_eq_some_iff.mp e).1
    have := cf_lt hi
    rw [e] at this
    cases this
    exact ⟨hi, (Option.some.inj h).symm⟩
theorem at_cf {s : List Int} {z : Int} {j : Nat} (e : z = (j : Int)) (h : j < s.length) : atI (s.map Dt.int) z = some (.int (cf s j)) := by
  rw [e]
  refine atI_nat ?_
  rw [List.getElem?_map, cf_lt h]
  rfl
theorem cut_to {xs : List Dt} {s : Nat} (h : s ≤ xs.length) : cutD xs none (some (s : Int)) = xs.take s := by
  unfold cutD
  rw [HT.sIx_none, HT.sIx_nat, List.drop_zero, Nat.sub_zero, Nat.min_eq_left h]
def ph_trim : Ph := fun ds q _ => ∃ (l : List Int) (d : Dt), ds = [d] ∧ (d = iL l ∨ d = iT l) ∧ l.length ≤ 100000 ∧ q (iT (trimL l))
theorem u_trim {l : List Int} {q : Dt → Prop} {x : XD} (h : l.length ≤ 100000) (p : q (iT (trimL l))) : ph_trim [iL l] q x := ⟨l, _, rfl, .inl rfl, h, p⟩
theorem u_trimT {l : List Int} {q : Dt → Prop} {x : XD} (h : l.length ≤ 100000) (p : q (iT (trimL l))) : ph_trim [iT l] q x := ⟨l, _, rfl, .inr rfl, h, p⟩
def padL (l : List Int) (n : Int) : List Int := l ++ List.replicate (n - (l.length : Int)).toNat 0
theorem pad_len {l : List Int} {n : Nat} (h : l.length ≤ n) : (padL l (n : Int)).length = n := by
  unfold padL
  rw [List.length_append, List.length_replicate]
  omega
theorem rep_ints (k : Nat) (x : Int) : (List.replicate k [Dt.int x]).flatten = (List.replicate k x).map Dt.int := by
  induction k with
  | zero => rfl
  | succ k ih => rw [List.replicate_succ, List.flatten_cons, ih]; rfl
theorem rep_zero (k : Nat) : ∀ j, cf (List.replicate k 0) j = 0 := by
  induction k with
  | zero => intro j; simp
  | succ k ih =>
    intro j
    cases j with
    | zero => rw [List.replicate_succ]; simp
    | succ j => rw [List.replicate_succ, cf_succ]; exact ih j
theorem cf_app : ∀ (a b : List Int) (i : Nat), cf (a ++ b) i = if i < a.length then cf a i else cf b (i - a.length)
  | [], b, i => by simp
  | x :: a, b, 0 => by simp
  | x :: a, b, i + 1 => by
    rw [List.cons_append, cf_succ, cf_app a b i, cf_succ, List.length_cons]
    by_cases h : i < a.length
    · rw [if_pos h, if_pos (by omega)]
    · rw [if_neg h, if_neg (by omega)]
      congr 1
      omega
theorem cf_pad (l : List Int) (n : Int) (i : Nat) : cf (padL l n) i = cf l i := by
  unfold padL
  rw [cf_app]
  split
  · rfl
  · rename_i h
    rw [rep_zero, cf_ge (by omega)]
def ph_padded : Ph := fun ds q _ => ∃ (l : List Int) (n : Int), ds = [iT l, .int n] ∧ (l.length ≤ 50000 ∧ n ≤ 1000 ∧ -1000 ≤ n) ∧ q (iT (padL l n))
theorem u_padded {l : List Int} {n : Int} {q : Dt → Prop} {x : XD} (h : l.length ≤ 50000 ∧ n ≤ 1000 ∧ -1000 ≤ n) (p : q (iT (padL l n))) : ph_padded [iT l, .int n] q x := ⟨l, n, rfl, h, p⟩
def ph_plus : Ph := fun ds q _ => ∃ (a b : List Int), ds = [iT a, iT b] ∧ (a.length ≤ 900 ∧ b.length ≤ 900) ∧ q (iT (trimL (addL a b)))
theorem u_plus {a b : List Int} {q : Dt → Prop} {x : XD} (h : a.length ≤ 900 ∧ b.length ≤ 900) (p : q (iT (trimL (addL a b)))) : ph_plus [iT a, iT b] q x := ⟨a, b, rfl, h, p⟩
def ph_scaled : Ph := fun ds q _ => ∃ (a : List Int) (c : Int) (B C : Nat), ds = [iT a, .int c] ∧ (a.length ≤ 900 ∧ SzL B a ∧ c.natAbs < 2 ^ C ∧ C + B ≤ 900000) ∧ q (iT (trimL (scL c a)))
theorem u_scaled {a : List Int} {c : Int} {B C : Nat} {q : Dt → Prop} {x : XD} (h : a.length ≤ 900 ∧ SzL B a ∧ c.natAbs < 2 ^ C ∧ C + B ≤ 900000) (p : q (iT (trimL (scL c a)))) : ph_scaled [iT a, .int c] q x := ⟨a, c, B, C, rfl, h, p⟩
def subL (a b : List Int) : List Int := addL a (scL (-1) b)
def ph_minus : Ph := fun ds q _ => ∃ (a b : List Int) (B : Nat), ds = [iT a, iT b] ∧ (a.length ≤ 900 ∧ b.length ≤ 900 ∧ SzL B b ∧ B ≤ 800000) ∧ q (iT (trimL (subL a b)))
theorem u_minus {a b : List Int} {B : Nat} {q : Dt → Prop} {x : XD} (h : a.length ≤ 900 ∧ b.length ≤ 900 ∧ SzL B b ∧ B ≤ 800000) (p : q (iT (trimL (subL a b)))) : ph_minus [iT a, iT b] q x := ⟨a, b, B, rfl, h, p⟩
theorem zip_ints : ∀ (a b : List Int), zipD (a.map .int) (b.map .int) = (a.zip b).map fun p => .tup [.int p.1, .int p.2]
  | [], b => by simp [zipD]
  | x :: a, [] => by simp [zipD]
  | x :: a, y :: b => by
    have := zip_ints a b
    unfold zipD at this ⊢
    simp only [List.map_cons, List.zip_cons_cons]
    rw [this]
theorem cf_zip : ∀ (a b : List Int), a.length = b.length → ∀ i, cf ((a.zip b).map fun p => p.1 + p.2) i = cf a i + cf b i
  | [], [], _, i => by simp
  | x :: a, y :: b, h, 0 => by simp
  | x :: a, y :: b, h, i + 1 => by
    have := cf_zip a b (by simpa using h) i
    simpa using this
  | [], _ :: _, h, _ => by simp at h
  | _ :: _, [], h, _ => by simp at h
theorem map_int {τ : Type} (g : τ → Int) (ts : List τ) : (ts.map fun t => Dt.int (g t)) = (ts.map g).map Dt.int := by rw [List.map_map]; rfl
theorem at_last {l : List Int} (h : 0 < l.length) : atI (l.map Dt.int) (-1) = some (.int (cf l (l.length - 1))) := by
  have h1 : (l.map Dt.int)[l.length - 1]? = some (.int (cf l (l.length - 1))) := by rw [List.getElem?_map, cf_lt (by omega)]; rfl
  have e : ixN l.length (-1) = some (l.length - 1) := by
    unfold ixN
    rw [if_neg (by decide), if_pos (by omega)]
    congr 1
    omega
  unfold atI
  rw [List.length_map, e]
  exact h1
/-- the class Poly's methods -/
def ph_Poly___init__ (C : Addr) : Ph := fun ds q _ => ∃ l : List Int, ds = [iT l] ∧ l.length ≤ 100000 ∧ q (polD C (trimL l))
theorem u_Poly___init__ {C : Addr} {l : List Int} {q : Dt → Prop} {x : XD} (h : l.length ≤ 100000) (p : q (polD C (trimL l))) : ph_Poly___init__ C [iT l] q x := ⟨l, rfl, h, p⟩
def ph_Poly_of (C : Addr) : Ph := fun ds q _ => ∃ (l : List Int) (d : Dt), ds = [.adr C, d] ∧ (d = iL l ∨ d = iT l) ∧ l.length ≤ 90000 ∧ q (polD C (trimL l))
theorem u_Poly_of {C : Addr} {l : List Int} {q : Dt → Prop} {x : XD} (h : l.length ≤ 90000) (p : q (polD C (trimL l))) : ph_Poly_of C [.adr C, iL l] q x := ⟨l, _, rfl, .inl rfl, h, p⟩
theorem u_Poly_ofT {C : Addr} {l : List Int} {q : Dt → Prop} {x : XD} (h : l.length ≤ 90000) (p : q (polD C (trimL l))) : ph_Poly_of C [.adr C, iT l] q x := ⟨l, _, rfl, .inr rfl, h, p⟩
/-- a polynomial or an int, by its coefficients -/
def Oth (C : Addr) (d : Dt) (b : List Int) : Prop := d = polD C b ∨ ∃ i, d = .int i ∧ b = trimL [i]
def ph_coefs_of (C : Addr) : Ph := fun ds q _ => ∃ (d : Dt) (b : List Int), ds = [d] ∧ Oth C d b ∧ q (iT b)
theorem u_coefs_of {C : Addr} {d : Dt} {b : List Int} {q : Dt → Prop} {x : XD} (h : Oth C d b) (p : q (iT b)) : ph_coefs_of C [d] q x := ⟨d, b, rfl, h, p⟩
def ph_add2 (f : List Int → List Int → List Int) (C : Addr) : Ph := fun ds q _ => ∃ (a b : List Int) (d : Dt) (B : Nat), ds = [polD C a, d] ∧ Oth C d b ∧ (a.length ≤ 900 ∧ b.length ≤ 900 ∧ SzL B a ∧ SzL B b ∧ B ≤ 800000) ∧ q (polD C (trimL (f a b)))
abbrev ph_Poly___add__ := ph_add2 addL
abbrev ph_Poly___radd__ := ph_add2 addL
abbrev ph_Poly___sub__ := ph_add2 subL
abbrev ph_Poly___rsub__ := ph_add2 fun a b => subL b a
theorem u_add2 {f : List Int → List Int → List Int} {C : Addr} {a b : List Int} {B : Nat} {q : Dt → Prop} {x : XD} (h : a.length ≤ 900 ∧ b.length ≤ 900 ∧ SzL B a ∧ SzL B b ∧ B ≤ 800000) (p : q (polD C (trimL (f a b)))) : ph_add2 f C [polD C a, polD C b] q x := ⟨a, b, _, B, rfl, .inl rfl, h, p⟩
theorem u_add2I {f : List Int → List Int → List Int} {C : Addr} {a : List Int} {i : Int} {B : Nat} {q : Dt → Prop} {x : XD} (h : a.length ≤ 900 ∧ SzL B a ∧ i.natAbs < 2 ^ B ∧ B ≤ 800000) (p : q (polD C (trimL (f a (trimL [i]))))) : ph_add2 f C [polD C a, .int i] q x :=
  ⟨a, trimL [i], _, B, rfl, .inr ⟨i, rfl, rfl⟩, ⟨h.1, Nat.le_trans (trim_len _) (show 1 ≤ 900 by decide), h.2.1, (SzL.one h.2.2.1).trim, h.2.2.2⟩, p⟩
theorem u_Poly___add__ {C : Addr} {a b : List Int} {B : Nat} {q : Dt → Prop} {x : XD} (h : a.length ≤ 900 ∧ b.length ≤ 900 ∧ SzL B a ∧ SzL B b ∧ B ≤ 800000) (p : q (polD C (trimL (addL a b)))) : ph_Poly___add__ C [polD C a, polD C b] q x := u_add2 h p
theorem u_Poly___sub__ {C : Addr} {a b : List Int} {B : Nat} {q : Dt → Prop} {x : XD} (h : a.length ≤ 900 ∧ b.length ≤ 900 ∧ SzL B a ∧ SzL B b ∧ B ≤ 800000) (p : q (polD C (trimL (subL a b)))) : ph_Poly___sub__ C [polD C a, polD C b] q x := u_add2 h p
theorem u_Poly___add__I {C : Addr} {a : List Int} {i : Int} {B : Nat} {q : Dt → Prop} {x : XD} (h : a.length ≤ 900 ∧ SzL B a ∧ i.natAbs < 2 ^ B ∧ B ≤ 800000) (p : q (polD C (trimL (addL a (trimL [i]))))) : ph_Poly___add__ C [polD C a, .int i] q x := u_add2I h p
theorem u_Poly___radd__I {C : Addr} {a : List Int} {i : Int} {B : Nat} {q : Dt → Prop} {x : XD} (h : a.length ≤ 900 ∧ SzL B a ∧ i.natAbs < 2 ^ B ∧ B ≤ 800000) (p : q (polD C (trimL (addL a (trimL [i]))))) : ph_Poly___radd__ C [polD C a, .int i] q x := u_add2I h p
theorem u_Poly___sub__I {C : Addr} {a : List Int} {i : Int} {B : Nat} {q : Dt → Prop} {x : XD} (h : a.length ≤ 900 ∧ SzL B a ∧ i.natAbs < 2 ^ B ∧ B ≤ 800000) (p : q (polD C (trimL (subL a (trimL [i]))))) : ph_Poly___sub__ C [polD C a, .int i] q x := u_add2I h p
theorem u_Poly___rsub__I {C : Addr} {a : List Int} {i : Int} {B : Nat} {q : Dt → Prop} {x : XD} (h : a.length ≤ 900 ∧ SzL B a ∧ i.natAbs < 2 ^ B ∧ B ≤ 800000) (p : q (polD C (trimL (subL (trimL [i]) a)))) : ph_Poly___rsub__ C [polD C a, .int i] q x := u_add2I (f := fun a b => subL b a) h p
def ph_Poly___neg__ (C : Addr) : Ph := fun ds q _ => ∃ (a : List Int) (B : Nat), ds = [polD C a] ∧ (a.length ≤ 900 ∧ SzL B a ∧ B ≤ 800000) ∧ q (polD C (trimL (scL (-1) a)))
theorem u_Poly___neg__ {C : Addr} {a : List Int} {B : Nat} {q : Dt → Prop} {x : XD} (h : a.length ≤ 900 ∧ SzL B a ∧ B ≤ 800000) (p : q (polD C (trimL (scL (-1) a)))) : ph_Poly___neg__ C [polD C a] q x := ⟨a, B, rfl, h, p⟩
def ph__law_row (C : Addr) : Ph := fun ds q _ => ∃ l : List Int, ds = [polD C l] ∧ (Tr l ∧ l.length ≤ 90000) ∧ q (iL l)
theorem u__law_row {C : Addr} {l : List Int} {q : Dt → Prop} {x : XD} (h : Tr l ∧ l.length ≤ 90000) (p : q (iL l)) : ph__law_row C [polD C l] q x := ⟨l, rfl, h, p⟩
def ph__law_trim : Ph := fun ds q _ => ∃ l : List Int, ds = [iL l] ∧ l.length ≤ 100000 ∧ q (iL (trimL l))
theorem u__law_trim {l : List Int} {q : Dt → Prop} {x : XD} (h : l.length ≤ 100000) (p : q (iL (trimL l))) : ph__law_trim [iL l] q x := ⟨l, rfl, h, p⟩
def ph__law_plus : Ph := fun ds q _ => ∃ a b : List Int, ds = [iL a, iL b] ∧ (a.length ≤ 40000 ∧ b.length ≤ 40000) ∧ q (iL (trimL (addL a b)))
theorem u__law_plus {a b : List Int} {q : Dt → Prop} {x : XD} (h : a.length ≤ 40000 ∧ b.length ≤ 40000) (p : q (iL (trimL (addL a b)))) : ph__law_plus [iL a, iL b] q x := ⟨a, b, rfl, h, p⟩
def ph__law_scaled : Ph := fun ds q _ => ∃ (a : List Int) (c : Int) (B C : Nat), ds = [iL a, .int c] ∧ (a.length ≤ 90000 ∧ SzL B a ∧ c.natAbs < 2 ^ C ∧ C + B ≤ 900000) ∧ q (iL (trimL (scL c a)))
theorem u__law_scaled {a : List Int} {c : Int} {B C : Nat} {q : Dt → Prop} {x : XD} (h : a.length ≤ 90000 ∧ SzL B a ∧ c.natAbs < 2 ^ C ∧ C + B ≤ 900000) (p : q (iL (trimL (scL c a)))) : ph__law_scaled [iL a, .int c] q x := ⟨a, c, B, C, rfl, h, p⟩
def ph__law_coefs : Ph := fun ds q _ => ds = [] ∧ ∀ l : List Int, l.length ≤ 7 → SzL 80 l → q (iL l)
theorem u__law_coefs {q : Dt → Prop} {x : XD} (_ : True) (p : ∀ l : List Int, l.length ≤ 7 → SzL 80 l → q (iL l)) : ph__law_coefs [] q x := ⟨rfl, p⟩
theorem range_cf : ∀ {s : Nat} {l : List Int}, s ≤ l.length → (List.range s).map (cf l) = l.take s
  | 0, l, _ => rfl
  | s + 1, [], h => by simp at h
  | s + 1, x :: l, h => by
    rw [List.range_succ_eq_map, List.map_cons, List.map_map, List.take_succ_cons, cf_zero]
    have := range_cf (s := s) (l := l) (by simpa using h)
    rw [← this]
    congr 1
theorem rangeD_nat (n : Nat) : rangeD 0 ((n : Int)).toNat = (List.range n).map fun i => Dt.int (i : Nat) := by
  unfold rangeD
  rw [Int.toNat_natCast]
  refine List.map_congr_left fun i _ => ?_
  rw [Int.zero_add]
theorem ints_of {acc : List Dt} {B : Nat} (h : ∀ y ∈ acc, ∃ z : Int, y = .int z ∧ z.natAbs < 2 ^ B) : ∃ l : List Int, acc = l.map .int ∧ l.length = acc.length ∧ SzL B l := by
  induction acc with
  | nil => exact ⟨[], rfl, rfl, SzL.nil⟩
  | cons y t ih =>
    obtain ⟨l, e1, e2, e3⟩ := ih fun z hz => h z (List.mem_cons_of_mem _ hz)
    obtain ⟨z, rfl, hz⟩ := h y List.mem_cons_self
    refine ⟨z :: l, by rw [e1]; rfl, by simp [e2], fun u hu => ?_⟩
    rcases List.mem_cons.mp hu with e | e
    · rw [e]; exact hz
    · exact e3 u e
theorem cf_set : ∀ (l : List Int) (j : Nat) (x : Int) (i : Nat), j < l.length → cf (l.set j x) i = if i = j then x else cf l i
  | [], j, x, i, h => by simp at h
  | y :: l, 0, x, 0, _ => by simp
  | y :: l, 0, x, i + 1, _ => by simp
  | y :: l, j + 1, x, 0, _ => by simp
  | y :: l, j + 1, x, i + 1, h => by
    have := cf_set l j x i (by simpa using h)
    simp [this]
theorem set_ints (l : List Int) (j : Nat) (x : Int) : (l.map Dt.int).set j (.int x) = (l.set j x).map Dt.int := by rw [List.map_set]
theorem ix_nat {n j : Nat} (h : j < n) : ixN n (j : Int) = some j := by
  unfold ixN
  rw [if_pos (by omega), if_pos (by omega), Int.toNat_natCast]
theorem rep_ints' (k : Nat) (x : Int) : List.replicate k (Dt.int x) = (List.replicate k x).map Dt.int := by rw [List.map_replicate]
theorem range_get {n i x : Nat} (h : (List.range n)[i]? = some x) : i < n ∧ x = i := by
  have hi : i < n := by
    have := (List.getElem?_eq_some_iff.mp h).1
    simpa using this
  rw [List.getElem?_range hi] at h
  exact ⟨hi, (Option.some.inj h).symm⟩
theorem eqL (l : List Int) : eqD (iL l) (iL l) = true := eqD_refl (ok_ints l)
/-- products -/
def mulL : List Int → List Int → List Int
  | [], _ => []
  | x :: a, b => addL (scL x b) (0 :: mulL a b)
theorem cf_mul_cons (x : Int) (a b : List Int) (k : Nat) : cf (mulL (x :: a) b) k = x * cf b k + if k = 0 then 0 else cf (mulL a b) (k - 1) := by
  show cf (addL (scL x b) (0 :: mulL a b)) k = _
  rw [cf_add, cf_sc]
  cases k with
  | zero => simp
  | succ k => simp
theorem mul_snoc (x : Int) : ∀ (a b : List Int) (k : Nat), cf (mulL (a ++ [x]) b) k = cf (mulL a b) k + if a.length ≤ k then x * cf b (k - a.length) else 0
  | [], b, k => by
    rw [List.nil_append, cf_mul_cons]
    simp [mulL]
  | y :: a, b, k => by
    rw [List.cons_append, cf_mul_cons, cf_mul_cons]
    cases k with
    | zero => simp
    | succ k =>
      rw [if_neg (Nat.succ_ne_zero k), if_neg (Nat.succ_ne_zero k), Nat.add_sub_cancel, mul_snoc x a b k, List.length_cons]
      by_cases h : a.length ≤ k
      · rw [if_pos h, if_pos (by omega), show k + 1 - (a.length + 1) = k - a.length by omega]
        omega
      · rw [if_neg h, if_neg (by omega)]
        omega
theorem mul_nil (a : List Int) : ∀ k, cf (mulL a []) k = 0 := by
  induction a with
  | nil => intro k; simp [mulL]
  | cons x a ih =>
    intro k
    rw [cf_mul_cons, cf_nil, Int.mul_zero, Int.zero_add]
    split
    · rfl
    · exact ih _
theorem mul_beyond : ∀ (a b : List Int) (k : Nat), a.length + b.length ≤ k + 1 → cf (mulL a b) k = 0
  | [], b, k, _ => by simp [mulL]
  | x :: a, b, k, h => by
    simp only [List.length_cons] at h
    rw [cf_mul_cons]
    cases k with
    | zero =>
      have : b = [] := List.eq_nil_of_length_eq_zero (by omega)
      subst this
      simp
    | succ k =>
      rw [if_neg (Nat.succ_ne_zero k), Nat.add_sub_cancel, mul_beyond a b k (by omega), cf_ge (l := b) (by omega)]
      omega
theorem len_mul : ∀ (a b : List Int), (mulL a b).length ≤ a.length + b.length
  | [], b => by simp [mulL]
  | x :: a, b => by
    have := len_mul a b
    show (addL (scL x b) (0 :: mulL a b)).length ≤ _
    rw [len_add, len_sc, List.length_cons, List.length_cons]
    omega
theorem SzL.mul {A B : Nat} : ∀ {a b : List Int}, SzL A a → SzL B b → SzL (A + B + a.length) (mulL a b)
  | [], b, _, _ => SzL.nil
  | x :: a, b, ha, hb => by
    have ih := SzL.mul (A := A) (B := B) (a := a) (b := b) (fun u hu => ha u (List.mem_cons_of_mem _ hu)) hb
    have h1 : SzL (A + B + a.length) (scL x b) := (SzL.sc hb (ha x List.mem_cons_self)).up (by omega)
    have h2 : SzL (A + B + a.length) (0 :: mulL a b) := fun u hu => by
      rcases List.mem_cons.mp hu with e | e
      · rw [e]; exact Nat.pow_pos (by decide)
      · exact ih u e
    exact h1.add h2
theorem mul_trim (a b : List Int) : trimL (mulL a (trimL b)) = trimL (mulL a b) := trim_ext fun k => by
  induction a generalizing k with
  | nil => simp [mulL]
  | cons x a ih =>
    rw [cf_mul_cons, cf_mul_cons, cf_trim]
    split
    · rfl
    · rw [ih]
theorem mul_ext {a b c : List Int} (h : ∀ k, cf b k = cf c k) (k : Nat) : cf (mulL a b) k = cf (mulL a c) k := by
  induction a generalizing k with
  | nil => simp [mulL]
  | cons x a ih =>
    rw [cf_mul_cons, cf_mul_cons, h]
    split
    · rfl
    · rw [ih]
/-- the sum form -/
theorem mul_comm' : ∀ (a b : List Int) (k : Nat), cf (mulL a b) k = cf (mulL b a) k
  | a, [], k => by rw [mul_nil]; simp [mulL]
  | a, y :: b, k => by
    have e : ∀ (a : List Int) (k : Nat), cf (mulL a (y :: b)) k = cf (mulL (y :: b) a) k := by
      intro a
      induction a with
      | nil => intro k; rw [mul_nil]; simp [mulL]
      | cons x a ih =>
        intro k
        rw [cf_mul_cons, cf_mul_cons]
        cases k with
        | zero => simp [Int.mul_comm]
        | succ k =>
          rw [if_neg (Nat.succ_ne_zero k), if_neg (Nat.succ_ne_zero k), Nat.add_sub_cancel, ih k, cf_mul_cons, cf_succ, cf_succ]
          rw [← mul_comm' (x :: a) b k, cf_mul_cons]
          cases k with
          | zero => simp; omega
          | succ k =>
            rw [if_neg (Nat.succ_ne_zero k), if_neg (Nat.succ_ne_zero k), Nat.add_sub_cancel, mul_comm' a b k]
            omega
    exact e a k
termination_by _ b _ => b.length
def ph_times : Ph := fun ds q _ => ∃ (a b : List Int) (A B : Nat), ds = [iT a, iT b] ∧ (a.length ≤ 900 ∧ b.length ≤ 900 ∧ SzL A a ∧ SzL B b ∧ A + B ≤ 900000) ∧ q (iT (trimL (mulL a b)))
theorem u_times {a b : List Int} {A B : Nat} {q : Dt → Prop} {x : XD} (h : a.length ≤ 900 ∧ b.length ≤ 900 ∧ SzL A a ∧ SzL B b ∧ A + B ≤ 900000) (p : q (iT (trimL (mulL a b)))) : ph_times [iT a, iT b] q x := ⟨a, b, A, B, rfl, h, p⟩
def ph__law_times : Ph := fun ds q _ => ∃ (a b : List Int) (A B : Nat), ds = [iL a, iL b] ∧ (a.length ≤ 900 ∧ b.length ≤ 900 ∧ SzL A a ∧ SzL B b ∧ A + B ≤ 900000) ∧ q (iL (trimL (mulL a b)))
theorem u__law_times {a b : List Int} {A B : Nat} {q : Dt → Prop} {x : XD} (h : a.length ≤ 900 ∧ b.length ≤ 900 ∧ SzL A a ∧ SzL B b ∧ A + B ≤ 900000) (p : q (iL (trimL (mulL a b)))) : ph__law_times [iL a, iL b] q x := ⟨a, b, A, B, rfl, h, p⟩
theorem zeros_cf (n : Nat) (i : Nat) : cf ((List.range n).map fun _ => (0 : Int)) i = 0 := by
  by_cases h : i < n
  · have e : ((List.range n).map fun _ => (0 : Int))[i]? = some 0 := by rw [List.getElem?_map, List.getElem?_range h]; rfl
    unfold cf
    rw [List.getD_eq_getElem?_getD, e]
    rfl
  · exact cf_ge (by simp; omega)
def powT (a : List Int) : Nat → List Int
  | 0 => [1]
  | n + 1 => trimL (mulL (powT a n) a)
theorem tr_one : Tr [1] := by unfold Tr; decide
theorem powT_tr (a : List Int) : ∀ n, Tr (powT a n)
  | 0 => tr_one
  | n + 1 => tr_trim _
theorem powT_len (a : List Int) {L : Nat} (h : a.length ≤ L) : ∀ n, (powT a n).length ≤ n * L + 1
  | 0 => by simp [powT]
  | n + 1 => by
    have h1 := powT_len a h n
    have h2 := trim_len (mulL (powT a n) a)
    have h3 := len_mul (powT a n) a
    have e : (n + 1) * L = n * L + L := Nat.succ_mul n L
    show (trimL (mulL (powT a n) a)).length ≤ _
    omega
theorem powT_sz (a : List Int) {B L : Nat} (hs : SzL B a) (h : a.length ≤ L) : ∀ n, SzL (n * (B + n * L + 1) + 1) (powT a n)
  | 0 => SzL.one (by rw [Nat.zero_mul]; decide)
  | n + 1 => by
    have ih := powT_sz a hs h n
    have hl := powT_len a h n
    have e := (SzL.mul ih hs).trim
    refine e.up ?_
    have e1 : (n + 1) * (B + (n + 1) * L + 1) = n * (B + (n + 1) * L + 1) + (B + (n + 1) * L + 1) := Nat.succ_mul n _
    have e2 : n * (B + n * L + 1) ≤ n * (B + (n + 1) * L + 1) := Nat.mul_le_mul_left n (by rw [Nat.succ_mul]; omega)
    have e3 : (n + 1) * L = n * L + L := Nat.succ_mul n L
    omega
def ph_mul2 (C : Addr) : Ph := fun ds q _ => ∃ (a b : List Int) (d : Dt) (B : Nat), ds = [polD C a, d] ∧ Oth C d b ∧ (a.length ≤ 900 ∧ b.length ≤ 900 ∧ SzL B a ∧ SzL B b ∧ B ≤ 400000) ∧ q (polD C (trimL (mulL a b)))
abbrev ph_Poly___mul__ := ph_mul2
abbrev ph_Poly___rmul__ := ph_mul2
theorem u_mul2I {C : Addr} {a : List Int} {i : Int} {B : Nat} {q : Dt → Prop} {x : XD} (h : a.length ≤ 900 ∧ SzL B a ∧ i.natAbs < 2 ^ B ∧ B ≤ 400000) (p : q (polD C (trimL (mulL a (trimL [i]))))) : ph_mul2 C [polD C a, .int i] q x :=
  ⟨a, trimL [i], _, B, rfl, .inr ⟨i, rfl, rfl⟩, ⟨h.1, Nat.le_trans (trim_len _) (show 1 ≤ 900 by decide), h.2.1, (SzL.one h.2.2.1).trim, h.2.2.2⟩, p⟩
theorem u_Poly___mul__ {C : Addr} {a b : List Int} {B : Nat} {q : Dt → Prop} {x : XD} (h : a.length ≤ 900 ∧ b.length ≤ 900 ∧ SzL B a ∧ SzL B b ∧ B ≤ 400000) (p : q (polD C (trimL (mulL a b)))) : ph_Poly___mul__ C [polD C a, polD C b] q x := ⟨a, b, _, B, rfl, .inl rfl, h, p⟩
theorem u_Poly___mul__I {C : Addr} {a : List Int} {i : Int} {B : Nat} {q : Dt → Prop} {x : XD} (h : a.length ≤ 900 ∧ SzL B a ∧ i.natAbs < 2 ^ B ∧ B ≤ 400000) (p : q (polD C (trimL (mulL a (trimL [i]))))) : ph_Poly___mul__ C [polD C a, .int i] q x := u_mul2I h p
theorem u_Poly___rmul__I {C : Addr} {a : List Int} {i : Int} {B : Nat} {q : Dt → Prop} {x : XD} (h : a.length ≤ 900 ∧ SzL B a ∧ i.natAbs < 2 ^ B ∧ B ≤ 400000) (p : q (polD C (trimL (mulL a (trimL [i]))))) : ph_Poly___rmul__ C [polD C a, .int i] q x := u_mul2I h p
def ph_Poly___pow__ (C : Addr) : Ph := fun ds q _ => ∃ (a : List Int) (n B L : Nat), ds = [polD C a, .int (n : Int)] ∧ (SzL B a ∧ a.length ≤ L ∧ n * L ≤ 880 ∧ n ≤ 100 ∧ B ≤ 4000) ∧ q (polD C (powT a n))
theorem u_Poly___pow__I {C : Addr} {a : List Int} {n B L : Nat} {q : Dt → Prop} {x : XD} (h : SzL B a ∧ a.length ≤ L ∧ n * L ≤ 880 ∧ n ≤ 100 ∧ B ≤ 4000) (p : q (polD C (powT a n))) : ph_Poly___pow__ C [polD C a, .int (n : Int)] q x := ⟨a, n, B, L, rfl, h, p⟩
theorem mul_single (i : Int) : ∀ (a : List Int) (k : Nat), cf (mulL a [i]) k = i * cf a k
  | [], k => by simp [mulL]
  | x :: a, 0 => by rw [cf_mul_cons]; simp [Int.mul_comm]
  | x :: a, k + 1 => by rw [cf_mul_cons, if_neg (Nat.succ_ne_zero k), Nat.add_sub_cancel, mul_single i a k]; simp
theorem mul_int (i : Int) (a : List Int) : trimL (mulL a (trimL [i])) = trimL (scL i a) := by
  rw [mul_trim]
  exact trim_ext fun k => by rw [mul_single, cf_sc]
theorem mul_comm_trim (a b : List Int) : trimL (mulL a b) = trimL (mulL b a) := trim_ext (mul_comm' a b)
theorem pair_ok {l : List Int} {m : Nat} (h : l.length ≤ m) (hm : m ≤ 90000) : Tr (trimL l) ∧ (trimL l).length ≤ 90000 := ⟨tr_trim _, Nat.le_trans (trim_len _) (by omega)⟩
/-! values -/
def tv (p q : Int) : List Int → Int
  | [] => 0
  | x :: r => tv p q r * p + x * q ^ r.length
theorem tv_snoc (p q x : Int) : ∀ l : List Int, tv p q (l ++ [x]) = tv p q l * q + x * p ^ l.length
  | [] => by simp [tv]
  | y :: l => by
    rw [List.cons_append]
    show tv p q (l ++ [x]) * p + y * q ^ (l ++ [x]).length = (tv p q l * p + y * q ^ l.length) * q + x * p ^ (l.length + 1)
    rw [tv_snoc p q x l, List.length_append, List.length_singleton, Int.pow_succ, Int.pow_succ]
    generalize tv p q l = t
    generalize q ^ l.length = u
    generalize p ^ l.length = v
    grind
theorem pow_sz {q : Int} {B : Nat} (h : q.natAbs < 2 ^ B) : ∀ k : Nat, (q ^ k).natAbs < 2 ^ (B * k + 1)
  | 0 => by simp
  | k + 1 => by
    rw [Int.pow_succ, Int.natAbs_mul]
    have ih := pow_sz h k
    rw [show B * (k + 1) + 1 = (B * k + 1) + B by rw [Nat.mul_succ]; omega, Nat.pow_add]
    exact Nat.mul_lt_mul'' ih h
theorem tv_sz {p q : Int} {A B : Nat} (hp : p.natAbs < 2 ^ B) (hq : q.natAbs < 2 ^ B) : ∀ {l : List Int}, SzL A l → (tv p q l).natAbs < 2 ^ (A + (B + 2) * l.length + 1)
  | [], _ => Nat.pow_pos (by decide)
  | x :: r, hl => by
    have ih := tv_sz hp hq (l := r) (A := A) fun u hu => hl u (List.mem_cons_of_mem _ hu)
    have h1 := sz_mul ih hp
    have h2 := sz_mul (hl x List.mem_cons_self) (pow_sz hq r.length)
    have h3 := sz_add2 h1 h2
    refine sz_up h3 ?_
    rw [List.length_cons, Nat.mul_succ]
    have : B * r.length ≤ (B + 2) * r.length := Nat.mul_le_mul_right _ (by omega)
    omega
def valR (l : List Int) (r : Int × Int) : Int × Int := mkR (tv r.1 r.2 l * r.2) (r.2 ^ l.length)
theorem drop_cf : ∀ {l : List Int} {i : Nat}, i < l.length → l.drop i = cf l i :: l.drop (i + 1)
  | [], i, h => by simp at h
  | x :: l, 0, _ => by simp
  | x :: l, i + 1, h => by
    rw [List.drop_succ_cons, cf_succ, List.drop_succ_cons]
    exact drop_cf (by simpa using h)
theorem tv_one : ∀ l : List Int, tv 1 1 l = l.sum
  | [] => rfl
  | x :: l => by
    show tv 1 1 l * 1 + x * 1 ^ l.length = _
    rw [tv_one l, Int.one_pow, List.sum_cons]
    omega
theorem mkR_1 (n : Int) : mkR n 1 = (n, 1) := mkR_self (r := (n, 1)) ⟨Int.le_refl 1, by simp⟩
theorem pow_pos' {q : Int} (h : 1 ≤ q) : ∀ k : Nat, 1 ≤ q ^ k
  | 0 => by simp
  | k + 1 => by
    rw [Int.pow_succ]
    have := pow_pos' h k
    exact Int.le_trans h (by have := Int.mul_le_mul_of_nonneg_right this (show 0 ≤ q by omega); omega)
def ph_value_of : Ph := fun ds q _ => ∃ (l : List Int) (r : Int × Int) (A B : Nat), ds = [iT l, ratD r] ∧ (SzL A l ∧ SzR B r ∧ A + (B + 2) * (l.length + 1) ≤ 400000) ∧ q (ratD (tv r.1 r.2 l * r.2, r.2 ^ l.length))
theorem u_value_of {l : List Int} {r : Int × Int} {A B : Nat} {q : Dt → Prop} {x : XD} (h : SzL A l ∧ SzR B r ∧ A + (B + 2) * (l.length + 1) ≤ 400000) (p : q (ratD (tv r.1 r.2 l * r.2, r.2 ^ l.length))) : ph_value_of [iT l, ratD r] q x := ⟨l, r, A, B, rfl, h, p⟩
def ph_Poly___call__ (C : Addr) : Ph := fun ds q _ => ∃ (l : List Int) (r : Int × Int) (A B : Nat), ds = [polD C l, ratD r] ∧ (SzL A l ∧ SzR B r ∧ 1 ≤ r.2 ∧ A + (B + 2) * (l.length + 1) ≤ 8000) ∧ q (ratD (valR l r))
theorem u_Poly___call__ {C : Addr} {l : List Int} {r : Int × Int} {A B : Nat} {q : Dt → Prop} {x : XD} (h : SzL A l ∧ SzR B r ∧ 1 ≤ r.2 ∧ A + (B + 2) * (l.length + 1) ≤ 8000) (p : q (ratD (valR l r))) : ph_Poly___call__ C [polD C l, ratD r] q x := ⟨l, r, A, B, rfl, h, p⟩
def ph__law_value : Ph := fun ds q _ => ∃ (l : List Int) (r : Int × Int) (A B : Nat), ds = [iL l, ratD r] ∧ (SzL A l ∧ SzR B r ∧ 1 ≤ r.2 ∧ A + (B + 2) * (l.length + 1) ≤ 8000) ∧ q (ratD (valR l r))
theorem u__law_value {l : List Int} {r : Int × Int} {A B : Nat} {q : Dt → Prop} {x : XD} (h : SzL A l ∧ SzR B r ∧ 1 ≤ r.2 ∧ A + (B + 2) * (l.length + 1) ≤ 8000) (p : q (ratD (valR l r))) : ph__law_value [iL l, ratD r] q x := ⟨l, r, A, B, rfl, h, p⟩
/-! derivatives -/
def derL (a : List Int) : List Int := ((List.range a.length).map fun k => ((k : Nat) : Int) * cf a k).drop 1
theorem enum_ints (a : List Int) : enumD 0 (a.map .int) = (List.range a.length).map fun i => Dt.tup [.int ((i : Nat) : Int), .int (cf a i)] := by
  refine List.ext_getElem? fun i => ?_
  unfold enumD
  rw [List.getElem?_mapIdx, List.getElem?_map, List.getElem?_map]
  by_cases h : i < a.length
  · rw [cf_lt h, List.getElem?_range h]
    simp
  · rw [List.getElem?_eq_none (by omega), List.getElem?_eq_none (by simp; omega)]
    rfl
theorem cut_from {xs : List Dt} {s : Nat} : cutD xs (some (s : Int)) none = xs.drop s := by
  unfold cutD
  rw [HT.sIx_none, HT.sIx_nat]
  by_cases h : s ≤ xs.length
  · rw [Nat.min_eq_left h, List.take_of_length_le (by rw [List.length_drop]; exact Nat.le_refl _)]
  · rw [Nat.min_eq_right (by omega), List.drop_length, List.drop_of_length_le (by omega), List.take_nil]
theorem tr_of_last {l : List Int} (h : l = [] ∨ cf l (l.length - 1) ≠ 0) : Tr l := by
  have := take_trim (s := l.length) (l := l) (Nat.le_refl _) (fun i hi => cf_ge hi) (by
    rcases h with h | h
    · exact .inl (by rw [h]; rfl)
    · exact .inr h)
  rw [List.take_length] at this
  exact this.symm
theorem derL_len (a : List Int) : (derL a).length = a.length - 1 := by simp [derL]
theorem derL_get {a : List Int} {i : Nat} (h : i + 1 < a.length) : cf (derL a) i = ((i + 1 : Nat) : Int) * cf a (i + 1) := by
  have e : (derL a)[i]? = some (((i + 1 : Nat) : Int) * cf a (i + 1)) := by
    unfold derL
    rw [List.getElem?_drop, Nat.add_comm 1 i, List.getElem?_map, List.getElem?_range h]
    rfl
  unfold cf at e ⊢
  rw [List.getD_eq_getElem?_getD, e]
  rfl
theorem derL_tr {a : List Int} (h : Tr a) : Tr (derL a) := by
  by_cases h1 : a.length ≤ 1
  · exact tr_of_last (.inl (List.eq_nil_of_length_eq_zero (by rw [derL_len]; omega)))
  · refine tr_of_last (.inr ?_)
    rw [derL_len, derL_get (by omega)]
    have := tr_last h (by intro z; rw [z] at h1; simp at h1)
    rw [show a.length - 1 - 1 + 1 = a.length - 1 by omega]
    exact Int.mul_ne_zero (by omega) this
theorem range_der (a : List Int) : ((List.range (a.length - 1)).map fun i => (1 + ((i : Nat) : Int)) * cf a (1 + i)) = derL a := by
  refine List.ext_getElem? fun i => ?_
  unfold derL
  rw [List.getElem?_drop, List.getElem?_map, List.getElem?_map]
  by_cases h : i < a.length - 1
  · rw [List.getElem?_range h, List.getElem?_range (by omega)]
    simp
  · rw [List.getElem?_eq_none (by simp; omega), List.getElem?_eq_none (by simp; omega)]
    rfl
theorem derL_sz {a : List Int} {B : Nat} (h : SzL B a) (hl : a.length ≤ 1000) : SzL (10 + B) (derL a) := fun x hx => by
  obtain ⟨k, hk, rfl⟩ := List.mem_map.mp (List.mem_of_mem_drop hx)
  have hk2 := List.mem_range.mp hk
  exact sz_mul (show ((k : Int)).natAbs < 2 ^ 10 by show k < 1024; omega) (h _ (List.mem_of_getElem? (cf_lt hk2)))
def ph_derived : Ph := fun ds q _ => ∃ (l : List Int) (B : Nat), ds = [iT l] ∧ (l.length ≤ 900 ∧ SzL B l ∧ B ≤ 800000) ∧ q (iT (trimL (derL l)))
theorem u_derived {l : List Int} {B : Nat} {q : Dt → Prop} {x : XD} (h : l.length ≤ 900 ∧ SzL B l ∧ B ≤ 800000) (p : q (iT (trimL (derL l)))) : ph_derived [iT l] q x := ⟨l, B, rfl, h, p⟩
def ph_Poly_derivative (C : Addr) : Ph := fun ds q _ => ∃ (l : List Int) (B : Nat), ds = [polD C l] ∧ (l.length ≤ 900 ∧ SzL B l ∧ B ≤ 800000) ∧ q (polD C (trimL (derL l)))
theorem u_Poly_derivative {C : Addr} {l : List Int} {B : Nat} {q : Dt → Prop} {x : XD} (h : l.length ≤ 900 ∧ SzL B l ∧ B ≤ 800000) (p : q (polD C (trimL (derL l)))) : ph_Poly_derivative C [polD C l] q x := ⟨l, B, rfl, h, p⟩
end VS
set_option Elab.async false
set_option linter.all false
set_option maxRecDepth 100000
/-! plain: choices and paths. -/
namespace VS
open PySem PySem.Spec L2
def bin : Nat → Nat → Nat
  | _, 0 => 1
  | 0, _ + 1 => 0
  | n + 1, k + 1 => bin n k + bin n (k + 1)
theorem bin_0 (n : Nat) : bin n 0 = 1 := by cases n <;> rfl
theorem bin_gt : ∀ {n k : Nat}, n < k → bin n k = 0
  | 0, k + 1, _ => rfl
  | n + 1, k + 1, h => by
    show bin n k + bin n (k + 1) = 0
    rw [bin_gt (by omega), bin_gt (by omega)]
theorem bin_self : ∀ n : Nat, bin n n = 1
  | 0 => rfl
  | n + 1 => by
    show bin n n + bin n (n + 1) = 1
    rw [bin_self n, bin_gt (by omega)]
theorem bin_step : ∀ n k : Nat, (bin n k : Int) * ((n : Int) - (k : Int)) = (bin n (k + 1) : Int) * ((k : Int) + 1)
  | 0, 0 => rfl
  | 0, k + 1 => by
    show ((0 : Nat) : Int) * _ = ((0 : Nat) : Int) * _
    simp
  | n + 1, 0 => by
    have h := bin_step n 0
    rw [bin_0] at h
    show ((1 : Nat) : Int) * _ = ((bin n 0 + bin n 1 : Nat) : Int) * _
    rw [bin_0]
    simp only [Nat.zero_add, Int.natCast_add, Int.natCast_one] at h ⊢
    simp at h ⊢
    omega
  | n + 1, k + 1 => by
    have h1 := bin_step n k
    have h2 := bin_step n (k + 1)
    show ((bin n k + bin n (k + 1) : Nat) : Int) * _ = ((bin n (k + 1) + bin n (k + 2) : Nat) : Int) * _
    rw [show k + 1 + 1 = k + 2 from rfl] at h2
    simp only [Int.natCast_add, Int.natCast_one] at h1 h2 ⊢
    generalize (bin n k : Int) = x at *
    generalize (bin n (k + 1) : Int) = y at *
    generalize (bin n (k + 2) : Int) = z at *
    generalize (n : Int) = a at *
    generalize (k : Int) = b at *
    grind
theorem bin_le : ∀ n k : Nat, bin n k ≤ 2 ^ n
  | n, 0 => by rw [bin_0]; exact Nat.one_le_two_pow
  | 0, k + 1 => Nat.zero_le _
  | n + 1, k + 1 => by
    have h1 := bin_le n k
    have h2 := bin_le n (k + 1)
    show bin n k + bin n (k + 1) ≤ 2 ^ (n + 1)
    rw [Nat.pow_succ]; omega
/-- the step of choose -/
theorem bin_div (n k : Nat) : ((bin n k : Int) * ((n : Int) - (k : Int))).fdiv ((k : Int) + 1) = (bin n (k + 1) : Int) := by
  rw [bin_step]
  exact Int.mul_fdiv_cancel _ (by omega)
def sg (k : Nat) : Int := 1 - 2 * ((k : Int) % 2)
theorem sg_succ (k : Nat) : sg (k + 1) = - sg k := by unfold sg; omega
theorem sg_abs (k : Nat) : sg k = 1 ∨ sg k = -1 := by unfold sg; omega
def sgnL (l : Nat) : List Int := (List.range (l + 1)).map fun k => (bin l k : Int) * sg k
def pathL (w l : Nat) : List Int := List.replicate w 0 ++ sgnL l
theorem cf_map {n : Nat} {f : Nat → Int} (i : Nat) : cf ((List.range n).map f) i = if i < n then f i else 0 := by
  unfold cf
  by_cases h : i < n
  · rw [if_pos h, List.getD_eq_getElem?_getD, List.getElem?_map, List.getElem?_range h]; rfl
  · rw [if_neg h, List.getD_eq_getElem?_getD, List.getElem?_map, List.getElem?_eq_none (by rw [List.length_range]; omega)]; rfl
theorem cf_sgn (l i : Nat) : cf (sgnL l) i = (bin l i : Int) * sg i := by
  unfold sgnL
  rw [cf_map]
  by_cases h : i < l + 1
  · rw [if_pos h]
  · rw [if_neg h, bin_gt (by omega)]; simp
theorem len_sgn (l : Nat) : (sgnL l).length = l + 1 := by simp [sgnL]
theorem len_path (w l : Nat) : (pathL w l).length = w + l + 1 := by unfold pathL; rw [List.length_append, List.length_replicate, len_sgn]; omega
theorem cf_path (w l i : Nat) : cf (pathL w l) i = if i < w then 0 else (bin l (i - w) : Int) * sg (i - w) := by
  unfold pathL
  rw [cf_app, List.length_replicate, rep_zero, cf_sgn]
theorem tr_path (w l : Nat) : Tr (pathL w l) := tr_of_last (.inr (by
  rw [len_path, cf_path, if_neg (by omega), show w + l + 1 - 1 - w = l by omega, bin_self]
  rcases sg_abs l with h | h <;> rw [h] <;> decide))
theorem mul_x (a : List Int) (k : Nat) : cf (mulL a [0, 1]) k = if k = 0 then 0 else cf a (k - 1) := by
  rw [mul_comm', cf_mul_cons, Int.zero_mul, Int.zero_add]
  by_cases h : k = 0
  · rw [if_pos h, if_pos h]
  · rw [if_neg h, if_neg h, cf_mul_cons]
    show 1 * cf a (k - 1) + (if k - 1 = 0 then 0 else cf [] (k - 1 - 1)) = _
    rw [cf_nil]; simp
theorem mul_y (a : List Int) (k : Nat) : cf (mulL a [1, -1]) k = cf a k - if k = 0 then 0 else cf a (k - 1) := by
  rw [mul_comm', cf_mul_cons]
  by_cases h : k = 0
  · rw [if_pos h, if_pos h]; omega
  · rw [if_neg h, if_neg h, cf_mul_cons]
    show 1 * cf a k + (-1 * cf a (k - 1) + (if k - 1 = 0 then 0 else cf [] (k - 1 - 1))) = _
    rw [cf_nil]; simp; omega
def pthT (w : Nat) : Nat → List Int
  | 0 => powT [0, 1] w
  | l + 1 => trimL (mulL (pthT w l) [1, -1])
theorem pow_x : ∀ w k : Nat, cf (powT [0, 1] w) k = if k = w then 1 else 0
  | 0, k => by
    show cf [1] k = _
    cases k with
    | zero => rfl
    | succ k => simp [cf]
  | w + 1, k => by
    show cf (trimL (mulL (powT [0, 1] w) [0, 1])) k = _
    rw [cf_trim, mul_x, pow_x w]
    cases k with
    | zero => simp
    | succ k => simp
theorem pth_cf (w : Nat) : ∀ l k : Nat, cf (pthT w l) k = cf (pathL w l) k
  | 0, k => by
    show cf (powT [0, 1] w) k = _
    rw [pow_x, cf_path]
    by_cases h : k < w
    · rw [if_neg (by omega), if_pos h]
    · rw [if_neg h]
      by_cases h2 : k = w
      · rw [if_pos h2, h2, Nat.sub_self]; rfl
      · rw [if_neg h2, bin_gt (by omega)]; simp
  | l + 1, k => by
    show cf (trimL (mulL (pthT w l) [1, -1])) k = _
    rw [cf_trim, mul_y, pth_cf w l, pth_cf w l, cf_path, cf_path, cf_path]
    by_cases h : k < w
    · rw [if_pos h, if_pos h, if_pos (show k - 1 < w by omega)]; split <;> rfl
    · rw [if_neg h, if_neg h]
      by_cases h2 : k = w
      · rw [h2, Nat.sub_self, bin_0, bin_0]
        by_cases h3 : w = 0
        · rw [if_pos h3]; rfl
        · rw [if_neg h3, if_pos (by omega)]; rfl
      · rw [if_neg (show ¬ k = 0 by omega), if_neg (show ¬ k - 1 < w by omega)]
        obtain ⟨j, rfl⟩ : ∃ j, k = w + (j + 1) := ⟨k - w - 1, by omega⟩
        rw [show w + (j + 1) - w = j + 1 by omega, show w + (j + 1) - 1 - w = j by omega, sg_succ]
        show _ = ((bin l j + bin l (j + 1) : Nat) : Int) * _
        rw [Int.natCast_add]
        generalize (bin l j : Int) = x
        generalize (bin l (j + 1) : Int) = y
        generalize sg j = z
        grind
theorem pth_tr (w : Nat) : ∀ l : Nat, Tr (pthT w l)
  | 0 => powT_tr _ _
  | l + 1 => tr_trim _
theorem pth_eq (w l : Nat) : pthT w l = pathL w l := tr_ext (pth_tr w l) (tr_path w l) (pth_cf w l)
theorem pth_pow : ∀ l : Nat, pthT 0 l = powT [1, -1] l
  | 0 => rfl
  | l + 1 => by
    show trimL (mulL (pthT 0 l) [1, -1]) = trimL (mulL (powT [1, -1] l) [1, -1])
    rw [pth_pow l]
theorem cf_ext {a b : List Int} (hl : a.length = b.length) (h : ∀ i, cf a i = cf b i) : a = b := List.ext_getElem? fun i => by
  by_cases hi : i < a.length
  · rw [cf_lt hi, cf_lt (by omega), h]
  · rw [List.getElem?_eq_none (by omega), List.getElem?_eq_none (by omega)]
theorem tv_add (p q : Int) : ∀ (a b : List Int), a.length = b.length → tv p q (addL a b) = tv p q a + tv p q b
  | [], [], _ => rfl
  | x :: a, y :: b, h => by
    have hl : a.length = b.length := by simpa using h
    show tv p q (addL a b) * p + (x + y) * q ^ (addL a b).length = (tv p q a * p + x * q ^ a.length) + (tv p q b * p + y * q ^ b.length)
    rw [tv_add p q a b hl, len_add, ← hl, Nat.max_self]
    generalize tv p q a = s
    generalize tv p q b = t
    generalize q ^ a.length = u
    grind
theorem tv_sc (p q c : Int) : ∀ (a : List Int), tv p q (scL c a) = c * tv p q a
  | [] => by show (0 : Int) = c * 0; simp
  | x :: a => by
    show tv p q (scL c a) * p + c * x * q ^ (scL c a).length = c * (tv p q a * p + x * q ^ a.length)
    rw [tv_sc p q c a, len_sc]
    generalize tv p q a = s
    generalize q ^ a.length = u
    grind
theorem sgn_succ (l : Nat) : sgnL (l + 1) = addL (sgnL l ++ [0]) (scL (-1) (0 :: sgnL l)) := by
  refine cf_ext ?_ fun i => ?_
  · rw [len_add, len_sc, List.length_append, len_sgn, List.length_cons (a := (0 : Int)) (as := sgnL l), len_sgn]; show l + 1 + 1 = max (l + 1 + 1) (l + 1 + 1); omega
  · rw [cf_add, cf_sc, cf_app, cf_sgn, cf_sgn, len_sgn]
    have h0 : (if i < l + 1 then (bin l i : Int) * sg i else cf [0] (i - (l + 1))) = (bin l i : Int) * sg i := by
      by_cases h : i < l + 1
      · rw [if_pos h]
      · rw [if_neg h, bin_gt (by omega), show ([0] : List Int) = List.replicate 1 0 from rfl, rep_zero]; simp
    rw [h0]
    cases i with
    | zero => rw [bin_0, bin_0]; rfl
    | succ j =>
      rw [show cf (0 :: sgnL l) (j + 1) = cf (sgnL l) j from by simp [cf], cf_sgn, sg_succ]
      show ((bin l j + bin l (j + 1) : Nat) : Int) * _ = _
      rw [Int.natCast_add]
      generalize (bin l j : Int) = x
      generalize (bin l (j + 1) : Int) = y
      generalize sg j = z
      grind
theorem tv_sgn (p q : Int) : ∀ l : Nat, tv p q (sgnL l) = (q - p) ^ l
  | 0 => by show 0 * p + 1 * q ^ 0 = _; simp
  | l + 1 => by
    rw [sgn_succ, tv_add _ _ _ _ (by rw [len_sc, List.length_append, List.length_cons]; rfl), tv_sc, tv_snoc, tv_sgn p q l]
    show _ + -1 * (tv p q (sgnL l) * p + 0 * _) = _
    rw [tv_sgn p q l, Int.pow_succ]
    generalize (q - p) ^ l = s
    grind
theorem tv_path (p q : Int) : ∀ w l : Nat, tv p q (pathL w l) = p ^ w * (q - p) ^ l
  | 0, l => by show tv p q (sgnL l) = _; rw [tv_sgn]; simp
  | w + 1, l => by
    show tv p q (pathL w l) * p + 0 * _ = _
    rw [tv_path p q w l, Int.pow_succ]
    generalize (q - p) ^ l = s
    generalize p ^ w = t
    grind
/-- the value of a path at a share -/
theorem val_path {r : Int × Int} (h : 1 ≤ r.2) (w l : Nat) : (valR (pathL w l) r).2 * (r.1 ^ w * (r.2 - r.1) ^ l) = (valR (pathL w l) r).1 * (r.2 ^ w * r.2 ^ l) := by
  have hp := pow_pos' h (pathL w l).length
  have e := (mkR_spec (n := tv r.1 r.2 (pathL w l) * r.2) (d := r.2 ^ (pathL w l).length) (by omega)).2
  unfold valR
  generalize mkR (tv r.1 r.2 (pathL w l) * r.2) (r.2 ^ (pathL w l).length) = m at *
  rw [tv_path, len_path, Int.pow_succ, Int.pow_add] at e
  refine Int.eq_of_mul_eq_mul_right (show r.2 ≠ 0 by omega) ?_
  generalize r.1 ^ w * (r.2 - r.1) ^ l = s at *
  generalize r.2 ^ w * r.2 ^ l = t at *
  grind
def tot (n : Nat) : Nat → List Int
  | 0 => []
  | k + 1 => trimL (addL (tot n k) (trimL (mulL (pathL k (n - k)) (trimL [(bin n k : Int)]))))
theorem tot_one : ∀ n, n < 13 → tot n (n + 1) = [1] := by decide +kernel
def orL (n : Nat) : List Int := (List.range (n + 1)).map fun k => (bin n k : Int)
theorem cf_or (n i : Nat) : cf (orL n) i = (bin n i : Int) := by
  unfold orL
  rw [cf_map]
  by_cases h : i < n + 1
  · rw [if_pos h]
  · rw [if_neg h, bin_gt (by omega)]; rfl
theorem len_or (n : Nat) : (orL n).length = n + 1 := by simp [orL]
theorem or_succ (n : Nat) : [1] ++ ((List.range n).map fun j => cf (orL n) j + cf (orL n) (j + 1)) ++ [1] = orL (n + 1) := by
  refine cf_ext (by simp [orL]) fun i => ?_
  rw [cf_or, cf_app, cf_app, cf_map]
  simp only [List.length_append, List.length_singleton, List.length_map, List.length_range]
  cases i with
  | zero => rw [if_pos (by omega), if_pos (by omega), bin_0]; rfl
  | succ j =>
    rw [if_neg (show ¬ j + 1 < 1 by omega), Nat.add_sub_cancel, cf_or, cf_or]
    show _ = ((bin n j + bin n (j + 1) : Nat) : Int)
    rw [Int.natCast_add]
    by_cases h : j < n
    · rw [if_pos (by omega), if_pos h]
    · rw [if_neg (by omega), bin_gt (show n < j + 1 by omega)]
      by_cases h2 : j = n
      · rw [h2, bin_self, show n + 1 - (1 + n) = 0 by omega]; rfl
      · rw [bin_gt (show n < j by omega), cf_ge (by show 1 ≤ _; omega)]; rfl
theorem sz_sgn (l : Nat) : SzL (l + 1) (sgnL l) := fun x hx => by
  obtain ⟨k, _, rfl⟩ := List.mem_map.mp hx
  have := bin_le l k
  rw [Nat.pow_succ]
  have h2 : 0 < 2 ^ l := Nat.two_pow_pos l
  rcases sg_abs k with h | h <;> rw [h] <;> omega
theorem sz_path (w l : Nat) : SzL (l + 1) (pathL w l) := fun x hx => by
  rcases List.mem_append.mp hx with h | h
  · rw [(List.mem_replicate.mp h).2]; exact Nat.two_pow_pos _
  · exact sz_sgn l x h
def ph_choose : Ph := fun ds q _ => ∃ n k : Nat, ds = [.int (n : Int), .int (k : Int)] ∧ (k ≤ n ∧ n ≤ 1000) ∧ q (.int (bin n k : Int))
theorem u_choose {n k : Nat} {q : Dt → Prop} {x : XD} (h : k ≤ n ∧ n ≤ 1000) (p : q (.int (bin n k : Int))) : ph_choose [.int (n : Int), .int (k : Int)] q x := ⟨n, k, rfl, h, p⟩
def ph_path_coefs : Ph := fun ds q _ => ∃ w l : Nat, ds = [.int (w : Int), .int (l : Int)] ∧ (w ≤ 1000 ∧ l ≤ 1000) ∧ q (iT (pathL w l))
theorem u_path_coefs {w l : Nat} {q : Dt → Prop} {x : XD} (h : w ≤ 1000 ∧ l ≤ 1000) (p : q (iT (pathL w l))) : ph_path_coefs [.int (w : Int), .int (l : Int)] q x := ⟨w, l, rfl, h, p⟩
def ph_Poly_path (C : Addr) : Ph := fun ds q _ => ∃ w l : Nat, ds = [.adr C, .int (w : Int), .int (l : Int)] ∧ (w ≤ 1000 ∧ l ≤ 1000) ∧ q (polD C (pathL w l))
theorem u_Poly_path {C : Addr} {w l : Nat} {q : Dt → Prop} {x : XD} (h : w ≤ 1000 ∧ l ≤ 1000) (p : q (polD C (pathL w l))) : ph_Poly_path C [.adr C, .int (w : Int), .int (l : Int)] q x := ⟨w, l, rfl, h, p⟩
def ph_Poly_degree (C : Addr) : Ph := fun ds q _ => ∃ l : List Int, ds = [polD C l] ∧ l.length ≤ 100000 ∧ q (.int ((l.length : Int) - 1))
theorem u_Poly_degree {C : Addr} {l : List Int} {q : Dt → Prop} {x : XD} (h : l.length ≤ 100000) (p : q (.int ((l.length : Int) - 1))) : ph_Poly_degree C [polD C l] q x := ⟨l, rfl, h, p⟩
def ph__law_path : Ph := fun ds q _ => ∃ w l : Nat, ds = [.int (w : Int), .int (l : Int)] ∧ (w ≤ 100 ∧ l ≤ 100) ∧ q (iL (pathL w l))
theorem u__law_path {w l : Nat} {q : Dt → Prop} {x : XD} (h : w ≤ 100 ∧ l ≤ 100) (p : q (iL (pathL w l))) : ph__law_path [.int (w : Int), .int (l : Int)] q x := ⟨w, l, rfl, h, p⟩
def ph__law_orders : Ph := fun ds q _ => ∃ n : Nat, ds = [.int (n : Int)] ∧ n ≤ 100 ∧ q (iL (orL n))
theorem u__law_orders {n : Nat} {q : Dt → Prop} {x : XD} (h : n ≤ 100) (p : q (iL (orL n))) : ph__law_orders [.int (n : Int)] q x := ⟨n, rfl, h, p⟩
end VS
set_option Elab.async false
set_option linter.all false
set_option maxRecDepth 100000
/-! plain: exact quotients. -/
namespace VS
open PySem PySem.Spec L2
theorem mul_top {a b : List Int} (ha : a ≠ []) (hb : b ≠ []) : cf (mulL a b) (a.length - 1 + (b.length - 1)) = cf a (a.length - 1) * cf b (b.length - 1) := by
  obtain ⟨l, x, rfl⟩ : ∃ l x, a = l ++ [x] := ⟨a.dropLast, a.getLast ha, (List.dropLast_concat_getLast ha).symm⟩
  have hb' : 0 < b.length := List.length_pos_iff.mpr hb
  rw [List.length_append, List.length_singleton, Nat.add_sub_cancel, mul_snoc, mul_beyond l b _ (by omega), if_pos (by omega), Int.zero_add, cf_app, if_neg (by omega), Nat.sub_self, Nat.add_sub_cancel_left]
  rfl
theorem mul_take (a b : List Int) (k i : Nat) : cf (mulL (a.take (k + 1)) b) i = cf (mulL (a.take k) b) i + if k ≤ i then cf a k * cf b (i - k) else 0 := by
  by_cases h : k < a.length
  · rw [take_succ' (cf_lt h), mul_snoc, List.length_take, Nat.min_eq_left (Nat.le_of_lt h)]
  · rw [List.take_of_length_le (by omega), List.take_of_length_le (by omega), cf_ge (l := a) (i := k) (by omega)]
    simp
theorem mul_set (b : List Int) : ∀ (w : List Int) (k : Nat) (t : Int) (i : Nat), k < w.length → cf (mulL (w.set k t) b) i = cf (mulL w b) i + if k ≤ i then (t - cf w k) * cf b (i - k) else 0
  | [], k, t, i, h => by simp at h
  | x :: w, 0, t, i, _ => by
    rw [List.set_cons_zero, cf_mul_cons, cf_mul_cons, if_pos (Nat.zero_le _), Nat.sub_zero]
    show _ = _ + (t - x) * cf b i
    rw [Int.sub_mul]
    omega
  | x :: w, k + 1, t, i, h => by
    rw [List.set_cons_succ, cf_mul_cons, cf_mul_cons]
    have hk : k < w.length := by simpa using h
    cases i with
    | zero => simp
    | succ i =>
      rw [if_neg (by omega), if_neg (by omega), Nat.add_sub_cancel, mul_set b w k t i hk]
      show _ + (_ + _) = _ + if k + 1 ≤ i + 1 then (t - cf w k) * cf b (i + 1 - (k + 1)) else 0
      by_cases h2 : k ≤ i
      · rw [if_pos h2, if_pos (by omega), show i + 1 - (k + 1) = i - k by omega]
        omega
      · rw [if_neg h2, if_neg (by omega)]
        omega
theorem mul_addl (b : List Int) : ∀ (x y : List Int) (k : Nat), cf (mulL (addL x y) b) k = cf (mulL x b) k + cf (mulL y b) k
  | [], y, k => by simp [addL, mulL, cf]
  | x :: xs, [], k => by simp [addL, mulL, cf]
  | x :: xs, y :: ys, k => by
    show cf (mulL ((x + y) :: addL xs ys) b) k = _
    rw [cf_mul_cons, cf_mul_cons, cf_mul_cons, Int.add_mul]
    cases k with
    | zero => simp
    | succ k =>
      rw [if_neg (by omega), if_neg (by omega), if_neg (by omega), Nat.add_sub_cancel, mul_addl b xs ys k]
      omega
theorem mul_scl (b : List Int) (c : Int) : ∀ (x : List Int) (k : Nat), cf (mulL (scL c x) b) k = c * cf (mulL x b) k
  | [], k => by simp [scL, mulL, cf]
  | x :: xs, k => by
    show cf (mulL ((c * x) :: scL c xs) b) k = _
    rw [cf_mul_cons, cf_mul_cons, Int.mul_add, Int.mul_assoc]
    cases k with
    | zero => simp
    | succ k => rw [if_neg (by omega), if_neg (by omega), Nat.add_sub_cancel, mul_scl b c xs k]
theorem mul_extl {a b c : List Int} (h : ∀ k, cf a k = cf c k) (k : Nat) : cf (mulL a b) k = cf (mulL c b) k := by
  rw [mul_comm' a b, mul_comm' c b]
  exact mul_ext h k
theorem tr_of {l : List Int} (h : l = [] ∨ cf l (l.length - 1) ≠ 0) : Tr l := by
  have := take_trim (s := l.length) (l := l) (Nat.le_refl _) (fun i hi => cf_ge hi) (by
    rcases h with h | h
    · exact .inl (by rw [h]; rfl)
    · exact .inr h)
  rw [List.take_length] at this
  exact this.symm
/-- a product that is too short -/
theorem mul_short {b z : List Int} (hb : Tr b) (hn : b ≠ []) {e : List Int} (he : e.length ≤ b.length - 1) (h : ∀ i, cf e i = cf (mulL z b) i) : ∀ i, cf z i = 0 := by
  rw [← trim_nil_iff]
  apply Classical.byContradiction
  intro hz
  have ht := tr_last (tr_trim z) hz
  have hbt := tr_last hb hn
  have hm := mul_top hz hn
  rw [mul_extl (cf_trim z), ← h, cf_ge (by omega)] at hm
  exact Int.mul_ne_zero ht hbt hm.symm
theorem mul_cancel {b x y : List Int} (hb : Tr b) (hn : b ≠ []) (h : ∀ i, cf (mulL x b) i = cf (mulL y b) i) : ∀ i, cf x i = cf y i := by
  have := mul_short (z := subL x y) (e := []) hb hn (Nat.zero_le _) (fun i => by
    unfold subL
    rw [mul_addl, mul_scl, h i]
    simp [cf]
    omega)
  intro i
  have q := this i
  unfold subL at q
  rw [cf_add, cf_sc] at q
  omega
def IsQ (a b q : List Int) : Prop := ∀ i, cf a i = cf (mulL q b) i
theorem q_len {a b q : List Int} (hq : Tr q) (hb : Tr b) (hn : b ≠ []) (h : IsQ a b q) : q.length ≤ a.length + 1 - b.length := by
  by_cases hz : q = []
  · rw [hz]; exact Nat.zero_le _
  · have ht := tr_last hq hz
    have hbt := tr_last hb hn
    have hm := mul_top hz hn
    rw [← h] at hm
    have hi : q.length - 1 + (b.length - 1) < a.length := by
      apply Classical.byContradiction
      intro hc
      rw [cf_ge (by omega)] at hm
      exact Int.mul_ne_zero ht hbt hm.symm
    have := List.length_pos_iff.mpr hz
    have := List.length_pos_iff.mpr hn
    omega
theorem q_top {r b q : List Int} {k : Nat} (hn : b ≠ []) (h : ∀ i, cf r i = cf (mulL (q.take (k + 1)) b) i) : cf r (k + b.length - 1) = cf q k * cf b (b.length - 1) := by
  have := List.length_pos_iff.mpr hn
  rw [h, mul_take, mul_beyond, if_pos (by omega), Int.zero_add, show k + b.length - 1 - k = b.length - 1 by omega]
  have := List.length_take_le k q
  omega
/-! sizes in the division -/
theorem fdiv_sz {t l : Int} {B : Nat} (h : t.natAbs < 2 ^ B) (hd : t.fmod l = 0) (hl : l ≠ 0) : (t.fdiv l).natAbs < 2 ^ B := by
  have e := Int.fmod_add_fdiv_mul t l
  rw [hd, Int.zero_add] at e
  refine Nat.lt_of_le_of_lt ?_ h
  conv => rhs; rw [← e]
  rw [Int.natAbs_mul]
  exact Nat.le_mul_of_pos_right _ (by omega)
theorem fdiv_ex {t q l : Int} (h : t = q * l) (hl : l ≠ 0) : t.fmod l = 0 ∧ t.fdiv l = q := by
  rw [h]
  exact ⟨by rw [Int.mul_fmod_left], Int.mul_fdiv_cancel _ hl⟩
theorem cf_sz {l : List Int} {M : Nat} (h : SzL M l) (i : Nat) : (cf l i).natAbs < 2 ^ M := by
  by_cases hi : i < l.length
  · exact h _ (List.mem_of_getElem? (cf_lt hi))
  · rw [cf_ge (by omega)]
    exact Nat.pow_pos (by decide)
theorem szl_cf {l : List Int} {M : Nat} (h : ∀ i, (cf l i).natAbs < 2 ^ M) : SzL M l := fun x hx => by
  obtain ⟨i, hi, e⟩ := List.mem_iff_getElem.mp hx
  have := h i
  have e2 := cf_lt hi
  rw [List.getElem?_eq_getElem hi, e] at e2
  rw [← Option.some.inj e2] at this
  exact this
theorem down_nat {i : Int} {n : Nat} (h : n = (i + 1).toNat) : downD i (i - -1).toNat = (List.range n).map fun s => Dt.int ((n - 1 - s : Nat) : Int) := by
  unfold downD
  rw [show (i - -1).toNat = n by omega]
  refine List.map_congr_left fun s hs => ?_
  rw [List.mem_range] at hs
  congr 1
  omega
theorem zmul_zero {w : List Int} (b : List Int) (h : ∀ i, cf w i = 0) (i : Nat) : cf (mulL w b) i = 0 := by
  rw [mul_extl (c := []) (fun k => by rw [h k]; rfl)]
  rfl
theorem any_ne (r : List Int) : (r.map fun x => !decide (x = 0)).any id = false ↔ ∀ i, cf r i = 0 := by
  rw [← Bool.not_eq_true, List.any_eq_true]
  constructor
  · intro h i
    apply Classical.byContradiction
    intro hz
    have hi : i < r.length := by
      apply Classical.byContradiction
      intro hc
      exact hz (cf_ge (by omega))
    exact h ⟨true, List.mem_map.mpr ⟨cf r i, List.mem_of_getElem? (cf_lt hi), by rw [decide_eq_false hz]; rfl⟩, rfl⟩
  · rintro h ⟨x, hx, rfl⟩
    obtain ⟨y, hy, e⟩ := List.mem_map.mp hx
    obtain ⟨i, hi, e2⟩ := List.mem_iff_getElem.mp hy
    have e3 := cf_lt hi
    rw [List.getElem?_eq_getElem hi, e2, h i] at e3
    rw [Option.some.inj e3] at e
    cases e
def ph_quotient : Ph := fun ds q _ => ∃ (a b : List Int) (A B : Nat), ds = [iT a, iT b] ∧ (a.length ≤ 900 ∧ b.length ≤ 900 ∧ Tr b ∧ SzL A a ∧ SzL B b ∧ B ≤ 8000 ∧ A + (a.length + 2) * (B + 1) ≤ 800000) ∧ (∀ z, b ≠ [] → Tr z → IsQ a b z → q (iT z)) ∧ ((b = [] ∨ ∀ z, Tr z → ¬ IsQ a b z) → q .non)
def ph_Poly___floordiv__ (C N : Addr) : Ph := fun ds q x => ∃ (a b : List Int) (d : Dt) (A B : Nat), ds = [polD C a, d] ∧ Oth C d b ∧ (a.length ≤ 900 ∧ b.length ≤ 900 ∧ Tr b ∧ SzL A a ∧ SzL B b ∧ B ≤ 8000 ∧ A + (a.length + 2) * (B + 1) ≤ 800000) ∧ (∀ z, b ≠ [] → Tr z → IsQ a b z → q (polD C z)) ∧ ((b = [] ∨ ∀ z, Tr z → ¬ IsQ a b z) → x N [] [])
/-- all that a division wants -/
def QOk (a b : List Int) : Prop := ∃ A B, a.length ≤ 900 ∧ b.length ≤ 900 ∧ Tr b ∧ SzL A a ∧ SzL B b ∧ B ≤ 8000 ∧ A + (a.length + 2) * (B + 1) ≤ 800000
theorem QOk.of {a b : List Int} {A B : Nat} (h1 : a.length ≤ 100) (h2 : b.length ≤ 100) (h3 : Tr b) (h4 : SzL A a) (h5 : SzL B b) (hA : A ≤ 4000) (hB : B ≤ 4000) : QOk a b := by
  refine ⟨A, B, by omega, by omega, h3, h4, h5, by omega, ?_⟩
  have h : (a.length + 2) * (B + 1) ≤ 102 * 4001 := Nat.mul_le_mul (by omega) (by omega)
  omega
theorem u_Poly___floordiv__ {C N : Addr} {a b z : List Int} {q : Dt → Prop} {x : XD} (h : QOk a b ∧ b ≠ [] ∧ Tr z ∧ IsQ a b z) (p : q (polD C z)) : ph_Poly___floordiv__ C N [polD C a, polD C b] q x := by
  obtain ⟨⟨A, B, h0⟩, h1, h2, h3⟩ := h
  refine ⟨a, b, _, A, B, rfl, .inl rfl, h0, fun z' _ t' q' => ?_, fun hx => ?_⟩
  · have e : z' = z := tr_ext t' h2 (mul_cancel h0.2.2.1 h1 fun i => by rw [← q' i, ← h3 i])
    rw [e]
    exact p
  · rcases hx with hx | hx
    · exact absurd hx h1
    · exact absurd h3 (hx z h2)
theorem u_Poly___floordiv__I {C N : Addr} {a b z : List Int} {i : Int} {q : Dt → Prop} {x : XD} (h : b = trimL [i] ∧ QOk a b ∧ b ≠ [] ∧ Tr z ∧ IsQ a b z) (p : q (polD C z)) : ph_Poly___floordiv__ C N [polD C a, .int i] q x := by
  obtain ⟨hb, ⟨A, B, h0⟩, h1, h2, h3⟩ := h
  refine ⟨a, b, _, A, B, rfl, .inr ⟨i, rfl, hb⟩, h0, fun z' _ t' q' => ?_, fun hx => ?_⟩
  · have e : z' = z := tr_ext t' h2 (mul_cancel h0.2.2.1 h1 fun i => by rw [← q' i, ← h3 i])
    rw [e]
    exact p
  · rcases hx with hx | hx
    · exact absurd hx h1
    · exact absurd h3 (hx z h2)
/-! what the law of quotients asks -/
theorem cut_take {xs : List Int} {m : Nat} : cutD (xs.map Dt.int) none (some (m : Int)) = (xs.take m).map Dt.int := by
  unfold cutD
  rw [HT.sIx_none, HT.sIx_nat, List.drop_zero, Nat.sub_zero, List.length_map, List.map_take]
  by_cases h : m ≤ xs.length
  · rw [Nat.min_eq_left h]
  · rw [Nat.min_eq_right (by omega), List.take_of_length_le (by rw [List.length_map]; exact Nat.le_refl _), List.take_of_length_le (by rw [List.length_map]; omega)]
theorem q_mul (a b : List Int) : IsQ (trimL (mulL a b)) b a := fun i => cf_trim _ i
theorem q_extra {a b e : List Int} (tb : Tr b) (hn : b ≠ []) (te : Tr e) (he : e ≠ []) (hl : e.length ≤ b.length - 1) : ∀ z, Tr z → ¬ IsQ (trimL (addL (trimL (mulL a b)) e)) b z := fun z tz hz => by
  have h : ∀ i, cf e i = cf (mulL (subL z a) b) i := fun i => by
    unfold subL
    rw [mul_addl, mul_scl]
    have := hz i
    rw [cf_trim, cf_add, cf_trim] at this
    omega
  have h0 := mul_short tb hn hl h
  apply he
  rw [← te]
  exact (trim_nil_iff e).mpr fun i => by rw [h i]; exact zmul_zero b h0 i
theorem trim1 {n : Int} (h : n ≠ 0) : trimL [n] = [n] := by
  rw [trim_cons, if_neg (fun z => h z.2)]
  rfl
theorem q_sc (n : Int) (a : List Int) : IsQ (trimL (scL n a)) [n] a := fun i => by rw [cf_trim, cf_sc, mul_single]
theorem q_scn (n : Int) (a : List Int) : IsQ (trimL (scL n a)) [-n] (trimL (scL (-1) a)) := fun i => by
  rw [cf_trim, cf_sc, mul_extl (cf_trim _), mul_single, cf_sc, ← Int.mul_assoc, Int.neg_mul_neg, Int.mul_one]
theorem q_one (a : List Int) : IsQ a [1] a := fun i => by rw [mul_single, Int.one_mul]
theorem q_spoilt {n m : Int} {p : Nat} {a : List Int} (h0 : 0 < m) (h1 : m < n) : ∀ z, Tr z → ¬ IsQ (trimL (addL (trimL (scL n a)) (((List.range p).map fun _ => (0 : Int)) ++ [m]))) [n] z := fun z tz hz => by
  have h := hz p
  rw [cf_trim, cf_add, cf_trim, cf_sc, mul_single, cf_app, List.length_map, List.length_range, if_neg (by omega), Nat.sub_self] at h
  have e : cf [m] 0 = m := rfl
  rw [e] at h
  have e2 : m = n * (cf z p - cf a p) := by rw [Int.mul_sub]; omega
  have e3 : m % n = 0 := by rw [e2, Int.mul_emod_right]
  rw [Int.emod_eq_of_lt (by omega) h1] at e3
  omega
theorem sc_ne {n : Int} {b : List Int} (h : n ≠ 0) (tb : Tr b) (hn : b ≠ []) : trimL (scL n b) ≠ [] := fun z => by
  have := (trim_nil_iff _).mp z (b.length - 1)
  rw [cf_sc] at this
  exact Int.mul_ne_zero h (tr_last tb hn) this
theorem q_div {n : Int} {a b z : List Int} (tb : Tr b) (hn : b ≠ []) : IsQ (trimL (mulL a b)) (trimL (scL n b)) z ↔ ∀ i, cf a i = n * cf z i := by
  have e : ∀ i, cf (mulL z (trimL (scL n b))) i = cf (mulL (scL n z) b) i := fun i => by
    rw [mul_ext (cf_trim _), mul_comm', mul_scl, mul_comm', mul_scl]
  constructor
  · intro h i
    have := mul_cancel (x := a) (y := scL n z) tb hn (fun i => by rw [← e i, ← h i, cf_trim]) i
    rw [this, cf_sc]
  · intro h i
    rw [e i, cf_trim]
    exact mul_extl (fun k => by rw [h k, cf_sc]) i
theorem cf_divm (n : Int) : ∀ (a : List Int) (i : Nat), cf (a.map fun x => x / n) i = cf a i / n
  | [], i => by simp [cf]
  | x :: a, 0 => rfl
  | x :: a, i + 1 => cf_divm n a i
theorem q_no {n : Int} {a b : List Int} (tb : Tr b) (hn : b ≠ []) (h : a.filter (fun x => !decide (x % n = 0)) ≠ []) : ∀ z, Tr z → ¬ IsQ (trimL (mulL a b)) (trimL (scL n b)) z := fun z tz hz => by
  have hd := (q_div tb hn).mp hz
  obtain ⟨x, hx⟩ := List.exists_mem_of_ne_nil _ h
  obtain ⟨h1, h2⟩ := List.mem_filter.mp hx
  obtain ⟨i, hi, e⟩ := List.mem_iff_getElem.mp h1
  have e3 := cf_lt hi
  rw [List.getElem?_eq_getElem hi, e, hd i] at e3
  rw [Option.some.inj e3, Int.mul_emod_right] at h2
  cases h2
theorem q_yes {n : Int} {a b : List Int} (h0 : n ≠ 0) (ta : Tr a) (tb : Tr b) (hn : b ≠ []) (h : a.filter (fun x => !decide (x % n = 0)) = []) : Tr (a.map fun x => x / n) ∧ IsQ (trimL (mulL a b)) (trimL (scL n b)) (a.map fun x => x / n) := by
  have hd : ∀ i, n * (cf a i / n) = cf a i := fun i => by
    by_cases hi : i < a.length
    · have := List.filter_eq_nil_iff.mp h _ (List.mem_of_getElem? (cf_lt hi))
      have e : cf a i % n = 0 := by simpa using this
      have := Int.mul_ediv_add_emod (cf a i) n
      omega
    · rw [cf_ge (by omega)]
      simp
  refine ⟨tr_of ?_, (q_div tb hn).mpr fun i => by rw [cf_divm, hd i]⟩
  by_cases ha : a = []
  · exact .inl (by rw [ha]; rfl)
  · refine .inr ?_
    rw [List.length_map, cf_divm]
    intro z
    have := hd (a.length - 1)
    rw [z, Int.mul_zero] at this
    exact tr_last ta ha this.symm
def ph__law_inexact (C : Addr) : Ph := fun ds q _ => ∃ (a b : List Int) (d : Dt), ds = [polD C a, d] ∧ Oth C d b ∧ (QOk a b ∧ (b = [] ∨ ∀ z, Tr z → ¬ IsQ a b z)) ∧ q (.bl true)
theorem u__law_inexact {C : Addr} {a b : List Int} {q : Dt → Prop} {x : XD} (h : QOk a b ∧ (b = [] ∨ ∀ z, Tr z → ¬ IsQ a b z)) (p : q (.bl true)) : ph__law_inexact C [polD C a, polD C b] q x := ⟨a, b, _, rfl, .inl rfl, h, p⟩
theorem u__law_inexactI {C : Addr} {a b : List Int} {i : Int} {q : Dt → Prop} {x : XD} (h : b = trimL [i] ∧ QOk a b ∧ (b = [] ∨ ∀ z, Tr z → ¬ IsQ a b z)) (p : q (.bl true)) : ph__law_inexact C [polD C a, .int i] q x := ⟨a, b, _, rfl, .inr ⟨i, rfl, h.1⟩, h.2, p⟩
end VS
set_option Elab.async false
set_option linter.all false
set_option maxRecDepth 100000
/-! plain: sign rows. -/
namespace VS
open PySem PySem.Spec L2
theorem mul_assoc' : ∀ (a b c : List Int) (k : Nat), cf (mulL (mulL a b) c) k = cf (mulL a (mulL b c)) k
  | [], b, c, k => by simp [mulL]
  | x :: a, b, c, k => by
    show cf (mulL (addL (scL x b) (0 :: mulL a b)) c) k = _
    rw [mul_addl, mul_scl, cf_mul_cons, cf_mul_cons, Int.zero_mul, Int.zero_add]
    cases k with
    | zero => simp
    | succ k => rw [if_neg (by omega), if_neg (by omega), Nat.add_sub_cancel, mul_assoc' a b c k]
theorem tm_assoc (a b c : List Int) : trimL (mulL (trimL (mulL a b)) c) = trimL (mulL a (trimL (mulL b c))) := trim_ext fun k => by
  rw [mul_extl (cf_trim _), mul_ext (cf_trim _), mul_assoc']
theorem tm_ta (p x y : List Int) : trimL (mulL p (trimL (addL x y))) = trimL (addL (trimL (mulL p x)) (trimL (mulL p y))) := trim_ext fun k => by
  rw [mul_ext (cf_trim _), cf_add, cf_trim, cf_trim, mul_comm' p (addL x y), mul_addl, mul_comm' x p, mul_comm' y p]
theorem tm_ts (p x : List Int) (c : Int) : trimL (mulL p (trimL (scL c x))) = trimL (scL c (trimL (mulL p x))) := trim_ext fun k => by
  rw [mul_ext (cf_trim _), cf_sc, cf_trim, mul_comm' p (scL c x), mul_scl, mul_comm' x p]
theorem tm_tal (p x : List Int) : trimL (mulL p (trimL x)) = trimL (mulL p x) := mul_trim p x
def tp (a E C : List Int) : Nat → List Int
  | 0 => [cf a (a.length - 1)]
  | j + 1 => trimL (addL (trimL (mulL (tp a E C j) E)) (trimL (scL (cf a (a.length - 2 - j)) (powT C (j + 1)))))
def tl (a E C : List Int) : Nat → List Int
  | 0 => []
  | j + 1 => trimL (addL (tl a E C j) (trimL (scL (cf a (a.length - 1 - j)) (trimL (mulL (powT E (a.length - 1 - j)) (powT C j))))))
theorem powT_succ (a : List Int) (n : Nat) : powT a (n + 1) = trimL (mulL (powT a n) a) := rfl
theorem tl_tp (a E C : List Int) : ∀ j, j < a.length → tl a E C (j + 1) = trimL (mulL (powT E (a.length - 1 - j)) (tp a E C j))
  | 0, h => by
    show trimL (addL [] (trimL (scL (cf a (a.length - 1 - 0)) (trimL (mulL (powT E (a.length - 1 - 0)) [1]))))) = trimL (mulL (powT E (a.length - 1 - 0)) [cf a (a.length - 1)])
    refine trim_ext fun k => ?_
    rw [cf_add, cf_trim, cf_sc, cf_trim, mul_single, mul_single, Nat.sub_zero, Int.one_mul]
    show 0 + _ = _
    rw [Int.zero_add]
  | j + 1, h => by
    have ih := tl_tp a E C j (by omega)
    have e1 : a.length - 1 - (j + 1) = a.length - 2 - j := by omega
    have e2 : a.length - 1 - j = (a.length - 2 - j) + 1 := by omega
    show trimL (addL (tl a E C (j + 1)) (trimL (scL (cf a (a.length - 1 - (j + 1))) (trimL (mulL (powT E (a.length - 1 - (j + 1))) (powT C (j + 1))))))) = trimL (mulL (powT E (a.length - 1 - (j + 1))) (trimL (addL (trimL (mulL (tp a E C j) E)) (trimL (scL (cf a (a.length - 2 - j)) (powT C (j + 1)))))))
    rw [ih, e1, e2, tm_ta, tm_ts, powT_succ, tm_assoc, mul_comm_trim E]
theorem tp_tr {a E C : List Int} (ta : Tr a) (hn : a ≠ []) : ∀ j, Tr (tp a E C j)
  | 0 => trim1 (tr_last ta hn)
  | j + 1 => tr_trim _
theorem tl_end {a E C : List Int} (ta : Tr a) (hn : a ≠ []) : tl a E C a.length = tp a E C (a.length - 1) := by
  have hp := List.length_pos_iff.mpr hn
  have h := tl_tp a E C (a.length - 1) (by omega)
  rw [show a.length - 1 + 1 = a.length by omega, Nat.sub_self] at h
  rw [h]
  show trimL (mulL [1] (tp a E C (a.length - 1))) = _
  have e : trimL (mulL [1] (tp a E C (a.length - 1))) = trimL (tp a E C (a.length - 1)) := trim_ext fun k => by rw [mul_comm', mul_single, Int.one_mul]
  rw [e]
  exact tp_tr ta hn _
def comR (lo hi : Int × Int) : Int := lo.2 * hi.2 / (Int.gcd lo.2 hi.2 : Int)
def endL (lo hi : Int × Int) : List Int := [lo.1 * (comR lo hi / lo.2), hi.1 * (comR lo hi / hi.2)]
def comL (lo hi : Int × Int) : List Int := [comR lo hi, comR lo hi]
def srow (a : List Int) (lo hi : Int × Int) : List Int := if a = [] then [] else padL (tp a (endL lo hi) (comL lo hi) (a.length - 1)) (a.length : Int)
theorem com_dvd1 (lo hi : Int × Int) : lo.2 ∣ comR lo hi := by
  unfold comR
  rw [Int.mul_ediv_assoc _ (Int.gcd_dvd_right ..)]
  exact Int.dvd_mul_right ..
theorem com_dvd2 (lo hi : Int × Int) : hi.2 ∣ comR lo hi := by
  unfold comR
  rw [Int.mul_comm, Int.mul_ediv_assoc _ (Int.gcd_dvd_left ..)]
  exact Int.dvd_mul_right ..
theorem end_eq1 (lo hi : Int × Int) : lo.1 * comR lo hi / lo.2 = lo.1 * (comR lo hi / lo.2) := Int.mul_ediv_assoc _ (com_dvd1 lo hi)
theorem end_eq2 (lo hi : Int × Int) : hi.1 * comR lo hi / hi.2 = hi.1 * (comR lo hi / hi.2) := Int.mul_ediv_assoc _ (com_dvd2 lo hi)
theorem ediv_sz {x d : Int} {B : Nat} (h0 : 0 ≤ x) (hd : 0 < d) (h : x.natAbs < 2 ^ B) : (x / d).natAbs < 2 ^ B := by
  have h1 := Int.ediv_nonneg h0 (Int.le_of_lt hd)
  have h2 := Int.ediv_le_self d h0
  omega
theorem com_nn {lo hi : Int × Int} (h1 : 1 ≤ lo.2) (h2 : 1 ≤ hi.2) : 0 ≤ comR lo hi := Int.ediv_nonneg (Int.mul_nonneg (by omega) (by omega)) (Int.natCast_nonneg _)
theorem gcd_pos' {x y : Int} (h : 1 ≤ x) : (0 : Int) < (Int.gcd x y : Int) := by
  have := Int.gcd_pos_of_ne_zero_left y (show x ≠ 0 by omega)
  omega
theorem com_sz {lo hi : Int × Int} {B : Nat} (h1 : 1 ≤ lo.2) (h2 : 1 ≤ hi.2) (zl : SzR B lo) (zh : SzR B hi) : (comR lo hi).natAbs < 2 ^ (2 * B) := by
  refine ediv_sz (Int.mul_nonneg (by omega) (by omega)) (gcd_pos' h1) ?_
  rw [show 2 * B = B + B by omega]
  exact sz_mul zl.2 zh.2
theorem com_szL {lo hi : Int × Int} {B : Nat} (h1 : 1 ≤ lo.2) (h2 : 1 ≤ hi.2) (zl : SzR B lo) (zh : SzR B hi) : SzL (2 * B) (comL lo hi) := fun x hx => by
  have : x = comR lo hi := by
    simp only [comL, List.mem_cons, List.not_mem_nil, or_false, or_self] at hx
    exact hx
  rw [this]
  exact com_sz h1 h2 zl zh
theorem end_szL {lo hi : Int × Int} {B : Nat} (h1 : 1 ≤ lo.2) (h2 : 1 ≤ hi.2) (zl : SzR B lo) (zh : SzR B hi) : SzL (3 * B) (endL lo hi) := fun x hx => by
  have hc := com_sz h1 h2 zl zh
  have hn := com_nn h1 h2
  rw [show 3 * B = B + 2 * B by omega]
  simp only [endL, List.mem_cons, List.not_mem_nil, or_false] at hx
  rcases hx with rfl | rfl
  · exact sz_mul zl.1 (ediv_sz hn (by omega) hc)
  · exact sz_mul zh.1 (ediv_sz hn (by omega) hc)
theorem tp_len {a E C : List Int} (hE : E.length ≤ 2) (hC : C.length ≤ 2) : ∀ j, (tp a E C j).length ≤ 2 * j + 1
  | 0 => Nat.le_refl _
  | j + 1 => by
    refine Nat.le_trans (trim_len _) ?_
    rw [len_add]
    have h1 := Nat.le_trans (trim_len (mulL (tp a E C j) E)) (len_mul _ _)
    have h2 := tp_len (a := a) hE hC j
    have h3 := trim_len (scL (cf a (a.length - 2 - j)) (powT C (j + 1)))
    rw [len_sc] at h3
    have h4 := powT_len C hC (j + 1)
    omega
theorem tp_sz {a E C : List Int} {A B M n : Nat} (hE : E.length ≤ 2) (hC : C.length ≤ 2) (sa : SzL A a) (sE : SzL B E) (sC : ∀ j, j ≤ n → SzL M (powT C j)) : ∀ j, j ≤ n → SzL (A + M + j * (B + 2 * n + 3)) (tp a E C j)
  | 0, h => SzL.one (sz_up (cf_sz sa _) (by omega))
  | j + 1, h => by
    have ih := tp_sz hE hC sa sE sC j (by omega)
    have hl := tp_len (a := a) hE hC j
    have e : (j + 1) * (B + 2 * n + 3) = j * (B + 2 * n + 3) + (B + 2 * n + 3) := by rw [Nat.add_mul, Nat.one_mul]
    refine SzL.trim ?_
    refine SzL.up (SzL.add (B := A + M + j * (B + 2 * n + 3) + (B + 2 * n + 2)) ((SzL.mul ih sE).trim.up ?_) ((SzL.sc (sC (j + 1) h) (cf_sz sa _)).trim.up ?_)) ?_
    · omega
    · omega
    · omega
theorem tl_len {a E C : List Int} (hE : E.length ≤ 2) (hC : C.length ≤ 2) : ∀ j, (tl a E C j).length ≤ 2 * a.length + 2 * j + 2
  | 0 => Nat.zero_le _
  | j + 1 => by
    refine Nat.le_trans (trim_len _) ?_
    rw [len_add]
    have h1 := tl_len (a := a) hE hC j
    have h3 := trim_len (scL (cf a (a.length - 1 - j)) (trimL (mulL (powT E (a.length - 1 - j)) (powT C j))))
    rw [len_sc] at h3
    have h4 := Nat.le_trans (trim_len (mulL (powT E (a.length - 1 - j)) (powT C j))) (len_mul _ _)
    have h5 := powT_len C hC j
    have h6 := powT_len E hE (a.length - 1 - j)
    omega
theorem at_lastD (xs : List Dt) (d : Dt) : atI (xs ++ [d]) (-1) = some d := by
  have e : ixN (xs ++ [d]).length (-1) = some xs.length := by
    unfold ixN
    rw [if_neg (by decide), List.length_append, List.length_singleton, if_pos (by omega)]
    congr 1
    omega
  unfold atI
  rw [e]
  show (xs ++ [d])[xs.length]? = some d
  simp
/-- what is wanted of a row and a stretch -/
def SrOk (a : List Int) (lo hi : Int × Int) : Prop := ∃ A B, Tr a ∧ a.length ≤ 60 ∧ SzL A a ∧ SzR B lo ∧ SzR B hi ∧ 1 ≤ lo.2 ∧ 1 ≤ hi.2 ∧ A ≤ 4000 ∧ B ≤ 2000
def ph_sign_row_of : Ph := fun ds q _ => ∃ (a : List Int) (lo hi : Int × Int), ds = [iT a, ratD lo, ratD hi] ∧ SrOk a lo hi ∧ q (iL (srow a lo hi))
theorem u_sign_row_of {a : List Int} {lo hi : Int × Int} {q : Dt → Prop} {x : XD} (h : SrOk a lo hi) (p : q (iL (srow a lo hi))) : ph_sign_row_of [iT a, ratD lo, ratD hi] q x := ⟨a, lo, hi, rfl, h, p⟩
def ph__law_signs : Ph := fun ds q _ => ∃ (a : List Int) (lo hi : Int × Int), ds = [iL a, ratD lo, ratD hi] ∧ SrOk a lo hi ∧ q (iL (srow a lo hi))
theorem u__law_signs {a : List Int} {lo hi : Int × Int} {q : Dt → Prop} {x : XD} (h : SrOk a lo hi) (p : q (iL (srow a lo hi))) : ph__law_signs [iL a, ratD lo, ratD hi] q x := ⟨a, lo, hi, rfl, h, p⟩
def ph_check_stretch : Ph := fun ds q _ => ∃ (lo hi : Int × Int) (B : Nat), ds = [ratD lo, ratD hi] ∧ (SzR B lo ∧ SzR B hi ∧ B ≤ 100000 ∧ lessR lo hi = true) ∧ q .non
theorem u_check_stretch {lo hi : Int × Int} {B : Nat} {q : Dt → Prop} {x : XD} (h : SzR B lo ∧ SzR B hi ∧ B ≤ 100000 ∧ lessR lo hi = true) (p : q .non) : ph_check_stretch [ratD lo, ratD hi] q x := ⟨lo, hi, B, rfl, h, p⟩
theorem cmp_less {a b : Int × Int} (h : lessR a b = true) : cmpR a b = -1 := by
  have := of_decide_eq_true h
  unfold cmpR
  rw [if_neg (by omega), if_neg (by omega)]
def ph_sign_row (C : Addr) : Ph := fun ds q _ => ∃ (a : List Int) (lo hi : Int × Int), ds = [polD C a, ratD lo, ratD hi] ∧ (SrOk a lo hi ∧ lessR lo hi = true) ∧ q (iL (srow a lo hi))
theorem u_sign_row {C : Addr} {a : List Int} {lo hi : Int × Int} {q : Dt → Prop} {x : XD} (h : SrOk a lo hi ∧ lessR lo hi = true) (p : q (iL (srow a lo hi))) : ph_sign_row C [polD C a, ratD lo, ratD hi] q x := ⟨a, lo, hi, rfl, h, p⟩
theorem srow_len {a : List Int} {lo hi : Int × Int} (la : a.length ≤ 60) : (srow a lo hi).length ≤ 300 := by
  unfold srow
  split
  · exact Nat.zero_le _
  · unfold padL
    rw [List.length_append, List.length_replicate]
    have := tp_len (a := a) (E := endL lo hi) (C := comL lo hi) (Nat.le_refl _) (Nat.le_refl _) (a.length - 1)
    omega
theorem srow_nil (lo hi : Int × Int) : srow [] lo hi = [] := if_pos rfl
theorem fre_rat (κ : Nat) (r : Int × Int) : fre κ (ratD r) = true := by simp [ratD, fre, freL]
/-! stretches of the laws -/
def StOk (lo hi : Int × Int) : Prop := IsR lo ∧ IsR hi ∧ SzR 60 lo ∧ SzR 60 hi ∧ lessR lo hi = true
def ph_strt : Ph := fun ds q _ => ∃ m : Int, ds = [.int m] ∧ (0 < m ∧ m ≤ 10 ^ 12) ∧ ∀ lo hi : Int × Int, StOk lo hi → q (.tup [ratD lo, ratD hi])
theorem u_strt {m : Int} {q : Dt → Prop} {x : XD} (h : 0 < m ∧ m ≤ 10 ^ 12) (p : ∀ lo hi : Int × Int, StOk lo hi → q (.tup [ratD lo, ratD hi])) : ph_strt [.int m] q x := ⟨m, rfl, h, p⟩
theorem less_of {a b : Int × Int} (ha : IsR a) (hb : IsR b) (hne : a ≠ b) (h : lessR b a = false) : lessR a b = true := by
  have h1 := of_decide_eq_false h
  refine decide_eq_true ?_
  rcases Int.lt_or_gt_of_ne (fun z => hne (ha.uniq hb z)) with h2 | h2
  · exact h2
  · exact absurd h2 h1
theorem st01 : StOk (0, 1) (1, 1) := ⟨IsR01, IsR11, sz0 59, sz1 59, by decide⟩
theorem st_pick {a b : Int × Int} (ha : IsR a) (hb : IsR b) (za : SzR 60 a) (zb : SzR 60 b) {q : Dt → Prop} (p : ∀ lo hi : Int × Int, StOk lo hi → q (.tup [ratD lo, ratD hi])) : (a = b → q (.tup [ratD (0, 1), ratD (1, 1)])) ∧ (a ≠ b → lessR b a = true → q (.tup [ratD b, ratD a])) ∧ (a ≠ b → lessR b a = false → q (.tup [ratD a, ratD b])) :=
  ⟨fun _ => p _ _ st01, fun _ h => p _ _ ⟨hb, ha, zb, za, h⟩, fun hn h => p _ _ ⟨ha, hb, za, zb, less_of ha hb hn h⟩⟩
theorem less_beyond {h b : Int × Int} (h2 : 1 ≤ h.2) (hb : 1 ≤ b.2) (e : b.1 * h.2 = (h.1 + h.2) * b.2) : lessR h b = true := by
  refine decide_eq_true ?_
  rw [e, Int.add_mul]
  have := Int.mul_pos (show 0 < h.2 by omega) (show 0 < b.2 by omega)
  omega
theorem less_trans {a b c : Int × Int} (ha : 1 ≤ a.2) (hb : 1 ≤ b.2) (hc : 1 ≤ c.2) (h1 : lessR a b = true) (h2 : lessR b c = true) : lessR a c = true := by
  have g1 := of_decide_eq_true h1
  have g2 := of_decide_eq_true h2
  refine decide_eq_true ?_
  have k1 : a.1 * b.2 * c.2 < b.1 * a.2 * c.2 := Int.mul_lt_mul_of_pos_right g1 (by omega)
  have k2 : b.1 * c.2 * a.2 < c.1 * b.2 * a.2 := Int.mul_lt_mul_of_pos_right g2 (by omega)
  refine Int.lt_of_mul_lt_mul_right (a := b.2) ?_ (by omega)
  have e1 : a.1 * b.2 * c.2 = a.1 * c.2 * b.2 := by rw [Int.mul_assoc, Int.mul_comm b.2, ← Int.mul_assoc]
  have e2 : b.1 * a.2 * c.2 = b.1 * c.2 * a.2 := by rw [Int.mul_assoc, Int.mul_comm a.2, ← Int.mul_assoc]
  have e3 : c.1 * b.2 * a.2 = c.1 * a.2 * b.2 := by rw [Int.mul_assoc, Int.mul_comm b.2, ← Int.mul_assoc]
  omega
end VS
set_option Elab.async false
set_option linter.all false
set_option maxRecDepth 100000
/-! own classes: len, repr, [], != ; text.join. -/
namespace VS
open PySem PySem.Spec L2
section
open PySem.W (InstAt Looks)
variable {prog : Program} {w : World} {A : Around} {E : Value → Shared → Prop} {s : Shared} {K : PySem.W.Frag} {x C f : Addr} {ox : Obj} {od : Option Obj}
theorem ifBoundB {M : Model} {id : String} {name : Str} {args : List Value} {Q : Option Value → Shared → Prop} (KX : K.In s.heap) (J : InstAt s.heap x ox C od) (hs : PySem.W.findIn K (.ref C) name = some (some (.builtin id))) (S : Slot "object" name id)
    (h : wpAny M A (call (.builtin id) (.ref x :: args)) (fun v => Q (some v)) E s) : wpAny M A (callSpecialIfBound? (.ref x) name args) Q E s := by
  simp only [callSpecialIfBound?, bindSpecialIfBound?]
  refine wpAny_holding (wpAny_bind (wpAny_bind (wpAny_bind (J.type.here ((PySem.W.looks_findIn KX hs).here ?_)))))
  simp only [S.bind]
  refine wpAny_bind (wpAny_askSetting (wpAny_ite ?_))
  have fin : wpAny M A (call (.builtin id) ([.ref x] ++ args) >>= fun v => pure (some v)) Q E s := wpAny_bind (wpAny_mono h (fun v s' h' => wpAny_pure h') fun _ _ h' => h')
  split
  · exact wpAny_bind (wpAny_pure (wpAny_pure fin))
  · exact wpAny_tryCatch (wpAny_bind (wpAny_pure (wpAny_pure fin)))
theorem ne_entry {b : Value} {Q : Fin → Shared → Prop} (hu : A.units < cLine) (KX : K.In s.heap) (J : InstAt s.heap x ox C od) (hs : PySem.W.findIn K (.ref C) "__eq__" = some (some (.ref f))) (hf : PySem.W.isFn K (.ref f) = true)
    (h : wpAny (model prog w) A (call (.ref f) [.ref x, b]) (fun v s' => ∃ c, v = .bool c ∧ Q (.done (.ret (.bool (!c)))) s') E s) : wpAny (model prog w) A (Builtin.«object.__ne__» ⟨[.ref x, b], []⟩) Q E s := by
  unfold Builtin.«object.__ne__»
  repeat (first
    | with_reducible refine wpAny_cRoomFor hu ?_
    | (refine wpAny_bind (m := callSpecialIfBound? (.ref x) (Str.ofString "__eq__") [b])
        (PySem.W.ifBound_K KX J hs hf (wpAny_mono h (fun r s' hr => by
          obtain ⟨c, rfl, hq⟩ := hr
          repeat (first | exact hq | exact wpAny_pure hq | exact wpAny_truthy_bool hq | (refine wpAny_bind (m := truthy (.bool _)) (wpAny_truthy_bool ?_)) | wp_step)) fun _ _ e => e)))
    | wp_step)
theorem cmp_ne {b tb : Value} {Q : Value → Shared → Prop} (hu : A.units + 1 < cLine) (KX : K.In s.heap) (J : InstAt s.heap x ox C od) (hb : Looks (model prog w) s.heap (typeOf b) tb) (hn : PySem.W.notFirst K C tb = true)
    (hne : PySem.W.findIn K (.ref C) "__ne__" = some (some (.builtin "object.__ne__"))) (hso : PySem.W.subIn K (.ref C) (.type "object") = some true) (hs : PySem.W.findIn K (.ref C) "__eq__" = some (some (.ref f))) (hf : PySem.W.isFn K (.ref f) = true)
    (h : wpAny (model prog w) A.in1 (call (.ref f) [.ref x, b]) (fun v s' => ∃ c, v = .bool c ∧ Q (.bool (!c)) s') E s) : wpAny (model prog w) A (richCompare .NotEq (.ref x) b) Q E s := by
  have one : wpAny (model prog w) A (tryCompare (.ref x) (cmpInfo .NotEq).2.1 b) (fun r s' => ∃ v, r = some v ∧ Q v s') E s := by
    rw [cmpInfo_NotEq]
    unfold tryCompare
    refine wpAny_bind (ifBoundB KX J hne PySem.F.cmp_object.ne (wpAny_call (codeAny_call_builtin PySem.F.cmp_object.ne.plain PySem.F.cmpEntry_ne (PySem.W.check_slot PySem.F.cmpKind_ne PySem.F.cmpSplit_ne (J.type.andThen (PySem.W.looks_subIn KX hso)) (PySem.F.cmpArgs_ne _ _) (ne_entry (A := A.in1) hu KX J hs hf (wpAny_mono h (fun v s' hv => ?_) fun _ _ e => e))))))
    obtain ⟨c, rfl, hq⟩ := hv
    first | exact ⟨c, rfl, wpAny_pure ⟨_, rfl, hq⟩⟩ | exact ⟨c, rfl, wpAny_pure (wpAny_pure ⟨_, rfl, hq⟩)⟩ | exact ⟨c, rfl, _, rfl, hq⟩
  unfold richCompare
  simp only [oneThing_ref]
  refine wpAny_holding (wpAny_bind (wpAny_cRoomFor (Nat.lt_of_succ_lt hu) ?_))
  refine wpAny_bind (J.type.here (wpAny_bind (hb.here ?_)))
  split
  · rename_i q
    have e : PySem.W.subIn K tb (.ref C) = some false := by
      rcases Bool.or_eq_true_iff.mp hn with e | e
      · rw [beq_iff_eq.mp e] at q; simp at q
      · exact beq_iff_eq.mp e
    refine wpAny_bind ((PySem.W.looks_subIn KX e).here ?_)
    simp only [Bool.false_eq_true, if_false]
    refine wpAny_bind (wpAny_mono one (fun r s' z => ?_) fun _ _ e => e)
    obtain ⟨v, rfl, hq⟩ := z
    exact wpAny_pure hq
  · refine wpAny_bind (wpAny_pure ?_)
    simp only [Bool.false_eq_true, if_false]
    refine wpAny_bind (wpAny_mono one (fun r s' z => ?_) fun _ _ e => e)
    obtain ⟨v, rfl, hq⟩ := z
    exact wpAny_pure hq
end
section
variable {X : Cx} {R : Reg} {G : List Sl} {pos : Pos} {k : Kt}
/-- what a class tells of != -/
structure NeC (K : PySem.W.Frag) (C : Addr) : Prop where
  ne : PySem.W.findIn K (.ref C) "__ne__" = some (some (.builtin "object.__ne__"))
  sub : PySem.W.subIn K (.ref C) (.type "object") = some true
def neB (K : PySem.W.Frag) (C : Addr) : Bool := decide (PySem.W.findIn K (.ref C) "__ne__" = some (some (.builtin "object.__ne__"))) && decide (PySem.W.subIn K (.ref C) (.type "object") = some true)
theorem neB_ok {K : PySem.W.Frag} {C : Addr} (h : neB K C = true) : NeC K C := by
  obtain ⟨h1, h2⟩ := He.ba h
  exact ⟨of_decide_eq_true h1, of_decide_eq_true h2⟩
theorem nf_self {K : PySem.W.Frag} {C : Addr} : PySem.W.notFirst K C (.ref C) = true := by simp [PySem.W.notFirst]
/-- p != d -/
theorem w_neO {C : Addr} {ps : List Str} {φ : Ph} {j : Nat} {ns : List Str} {xs : List Dt} {d : Dt} {t : Value} {P : Dt → Prop} (F : FnI X.prog X.w X.K X.mg X.base j C "__eq__" ps [] (spD X.K 2 φ)) (hr : Room j X.A) (hu : X.A.units + 1 < cLine) (nc : NeC X.K C) (ht : TyD X.K d t) (hn : PySem.W.notFirst X.K C t = true)
    (hφ : φ [.obj C ns xs, d] (fun r => ∃ b, r = .bl b ∧ P (.bl (!b))) fun _ _ _ => False) : W2 X R (compareOp .NotEq) (.obj C ns xs) d P := fun F0 H x y Q w rx ry c => by
  have rx0 := rx
  obtain ⟨a, dx, vs, rfl, h1, _, _⟩ := rp_obj.mp rx
  obtain ⟨j', hj, F'⟩ := F.ex
  obtain ⟨f, hM, _, run⟩ := F'.run
  unfold opOf
  intro pins s σ v u I rv ru
  cases rv
  obtain ⟨od, J⟩ := inst_at I w h1
  have hty := ht F0 H y w.fh ry
  refine cmp_ne hu I.kIn J ?_ hn nc.ne nc.sub hM.at_ hM.fn (wpAny_mono (run (Q := fun v H' => ∃ b, v = .bl b ∧ Q (.bl (!b)) H') (vs := [.ref a, y]) (hr.mono hj) I (.cons rfl (.cons ru .nil)) (spD_of w (.cons rx0 (.cons ry .nil)) rfl hφ fun v F1 H1 d ex r ⟨b, e, p⟩ => by
    subst e
    exact ⟨b, rp_bl.mp r, c _ F1 H1 _ ex (rp_bl.mpr rfl) p⟩)) (fun v s' h => ?_) fun _ _ h => h)
  · obtain ⟨P', kx, hp⟩ := kit_of I ru hty
    exact kx.ty _ _ I.kIn hp.1
  · obtain ⟨z, H', I', rz, b, e, q⟩ := h
    subst e
    obtain rfl : v = Value.bool b := rz
    exact ⟨b, rfl, .bl (!b), H', I', rfl, q⟩
/-- len(p) -/
theorem wc_lenO {C : Addr} {ps : List Str} {φ : Ph} {j : Nat} {ns : List Str} {xs : List Dt} {P : Dt → Prop} (F : FnI X.prog X.w X.K X.mg X.base j C "__len__" ps [] (spD X.K 1 φ)) (hr : Room j X.A)
    (hφ : φ [.obj C ns xs] (fun r => ∃ n : Int, r = .int n ∧ (0 ≤ n ∧ n < 2 ^ 63) ∧ P (.int n)) fun _ _ _ => False) : WC X R (.builtin "len") [.obj C ns xs] P := fun F0 H vs Q w r c => by
  obtain ⟨v, rfl, rx⟩ := r.one
  have rx0 := rx
  obtain ⟨a, dx, ws, rfl, h1, _, _⟩ := rp_obj.mp rx
  obtain ⟨j', hj, F'⟩ := F.ex
  obtain ⟨f, hM, _, run⟩ := F'.run
  unfold crOf
  intro pins s σ us I rv
  cases rv with
  | cons r1 r2 =>
    cases r2
    cases r1
    obtain ⟨od, J⟩ := inst_at I w h1
    obtain ⟨m', hF⟩ := I.fr
    refine PySem.W.len_K hF I.ok.mod.kin J hM.at_ hM.fn (wpAny_mono (run (Q := fun v H' => ∃ n : Int, v = .int n ∧ (0 ≤ n ∧ n < 2 ^ 63) ∧ Q (.int n) H') (vs := [.ref a]) (hr.mono hj) I (.cons rfl .nil) (spD_of w (.cons rx0 .nil) rfl hφ fun v F1 H1 d ex r ⟨n, e, hn, p⟩ => by
      subst e
      exact ⟨n, rp_int.mp r, hn, c _ F1 H1 _ ex (rp_int.mpr rfl) p⟩)) (fun v s' h => ?_) fun _ _ h => h)
    obtain ⟨z, H', I', rz, n, e, hn, q⟩ := h
    subst e
    obtain ⟨t, rfl⟩ := rz
    exact ⟨hn, .int n, H', I'.tok _, ⟨_, rfl⟩, q⟩
/-- repr(p) -/
theorem wc_reprO {C : Addr} {ps : List Str} {φ : Ph} {j : Nat} {ns : List Str} {xs : List Dt} {P : Dt → Prop} (F : FnI X.prog X.w X.K X.mg X.base j C "__repr__" ps [] (spD X.K 1 φ)) (hr : Room j X.A) (hu : X.A.units + 1 < cLine)
    (hφ : φ [.obj C ns xs] (fun r => ∃ z : Str, r = .str z ∧ P (.str z)) fun _ _ _ => False) : WC X R (.builtin "repr") [.obj C ns xs] P := fun F0 H vs Q w r c => by
  obtain ⟨v, rfl, rx⟩ := r.one
  have rx0 := rx
  obtain ⟨a, dx, ws, rfl, h1, _, _⟩ := rp_obj.mp rx
  obtain ⟨j', hj, F'⟩ := F.ex
  obtain ⟨f, hM, _, run⟩ := F'.run
  unfold crOf
  intro pins s σ us I rv
  cases rv with
  | cons r1 r2 =>
    cases r2
    cases r1
    obtain ⟨od, J⟩ := inst_at I w h1
    obtain ⟨m', hF⟩ := I.fr
    refine PySem.W.repr_K hu hF I.ok.mod.kin J hM.at_ hM.fn (wpAny_mono (run (Q := fun v H' => ∃ z : Str, v = .str z ∧ Q (.str z) H') (vs := [.ref a]) (hr.mono hj) I (.cons rfl .nil) (spD_of w (.cons rx0 .nil) rfl hφ fun v F1 H1 d ex r ⟨z, e, p⟩ => by
      subst e
      exact ⟨z, rp_str.mp r, c _ F1 H1 _ ex (rp_str.mpr rfl) p⟩)) (fun v s' h => ?_) fun _ _ h => h)
    obtain ⟨z, H', I', rz, y, e, q⟩ := h
    subst e
    obtain ⟨t, rfl⟩ := rz
    exact ⟨.str y, H', I', ⟨_, rfl⟩, q⟩
/-- p[e] -/
theorem e_ixK {C : Addr} {ps : List Str} {φ : Ph} {j : Nat} {a b : Expr} {P : Dt → Prop} (F : FnI X.prog X.w X.K X.mg X.base j C "__getitem__" ps [] (spD X.K 2 φ)) (hfi : ∀ f, PySem.W.findIn X.K (.ref C) "__getitem__" = some (some (.ref f)) → PySem.W.fnIn X.K f = true) (hr : Room j X.A)
    (h : E X R G a fun d1 => ∃ ns xs, d1 = .obj C ns xs ∧ E X R G b fun d2 => φ [d1, d2] P fun _ _ _ => False)
    (hsl : ∀ x i, subscripted b true (.ref x) i = runValue (.builtin "lifetime.subscript" ⟨[.ref x, i], []⟩) := by intro _ _; rfl) : E X R G (.Subscript a b pos) P := fun σ F' H Q ty c => by
  obtain ⟨j', hj, F1⟩ := F.ex
  obtain ⟨f, hM, _, run⟩ := F1.run
  have ht := h σ F' H (fun x H1 => tOf X b σ H1 fun y H2 => ∃ F2 ns xs d2, Wf R F2 H2 ∧ Rp X.K F2 (.obj C ns xs) x ∧ Rp X.K F2 d2 y ∧ Ct X.K R F2 H2 P Q ∧ φ [.obj C ns xs, d2] P fun _ _ _ => False) ty fun v F1 H1 d1 ex r ⟨ns, xs, e1, h2⟩ => by
    subst e1
    exact h2 σ F1 H1 _ (ty.ext ex) fun v2 F2 H2 d2 ex2 r2 hφ => ⟨F2, ns, xs, d2, ex2.wf, r.mono ex2.ff, r2, c.step (ex.trans ex2), hφ⟩
  unfold tOf
  intro pins s I
  refine PyProof.Rows.Subscript_ (binT pe_w pe_w I ht fun v u s2 x y H2 I2 rx ry q => ?_)
  obtain ⟨F2, ns, xs, d2, w, r1, r2, ct, hφ⟩ := q
  have r10 := r1
  obtain ⟨o, dx, ws, rfl, h1, _, _⟩ := rp_obj.mp r1
  cases rx
  obtain ⟨od, J⟩ := inst_at I2 w h1
  obtain ⟨m', hF⟩ := I2.fr
  exact PySem.W.sub_K hF I2.ok.mod.kin J hM.at_ (hfi f hM.at_) hM.fn (run (vs := [.ref o, y]) (hr.mono hj) I2 (.cons rfl (.cons ry .nil)) (spD_of w (.cons r10 (.cons r2 .nil)) rfl hφ ct)) (hsl _ _)
theorem RpL.strs {K : PySem.W.Frag} {F : Hp} : ∀ {ys : List Str} {vs : List V}, RpL K F (ys.map Dt.str) vs → vs = ys.map V.str
  | [], _, h => h.of_nil
  | y :: ys, _, h => by
    obtain ⟨v, r, rfl, e1, e2⟩ := h.of_cons
    rw [rp_str.mp e1, RpL.strs e2]
    rfl
/-- o.join(e) -/
theorem e_join {o e : Expr} {apos : Pos} {P : Dt → Prop} (h : E X R G o fun d => ∃ a, d = .str a ∧ E X R G e fun d' => ∃ ys : List Str, d' = .lst (ys.map .str) ∧ (ys.map (·.length)).sum + ys.length * a.length ≤ 16777216 ∧ P (.str (Txt.join a ys)))
    (hs : starEach [e] X.env = [(false, eval e X.env)] := by rfl) (hbase : attributeBase o "join" X.env (eval o X.env) = eval o X.env := by rfl) (hline : (apos.endLine == pos.line) = true := by rfl) : E X R G (.Call (.Attribute o "join" apos) [e] [] pos) P := fun σ F H Q ty c => by
  refine tOf.of (pe_join pe_w pe_w hs hbase hline) (h σ F H _ ty fun v F1 H1 d ex r ⟨a, ed, h2⟩ => ?_)
  subst ed
  refine ⟨⟨a, rp_str.mp r⟩, ?_⟩
  refine h2 σ F1 H1 _ (ty.ext ex) fun v2 F2 H2 d2 ex2 r2 ⟨ys, eb, hl, p⟩ => ?_
  subst eb
  obtain ⟨q, vs, rfl, h1, rl⟩ := rp_lst.mp r2
  have ev := RpL.strs rl
  subst ev
  exact ⟨a, q, ys, rp_str.mp r, rfl, .inl (SqL.of (ex2.wf.fh _ _ h1)), hl, c _ F2 H2 _ (ex.trans ex2) (rp_str.mpr rfl) p⟩
end
end VS
set_option Elab.async false
set_option linter.all false
set_option maxRecDepth 100000
/-! plain: polynomials as values, shown. -/
namespace VS
open PySem PySem.Spec L2
theorem b_repr : bootBuiltins "repr" = some (.builtin "repr") := by decide +kernel
def sI (x : Int) : Str := Str.ofString (toString x)
def joinI (a : List Int) : Str := Txt.join (Str.ofString ", ") (a.map sI)
def shown (a : List Int) : Str := Str.ofString "Poly(" ++ joinI a ++ Str.ofString ")"
theorem joinL_len (S : List Nat) : ∀ ps : List (List Nat), (TL.joinL S ps).length ≤ (ps.map (·.length)).sum + ps.length * S.length
  | [] => Nat.zero_le _
  | [p] => by simp [TL.joinL]
  | p :: q :: r => by
    have ih := joinL_len S (q :: r)
    show (p ++ (S ++ TL.joinL S (q :: r))).length ≤ _
    rw [List.length_append, List.length_append, List.map_cons, List.sum_cons, List.length_cons (a := p), Nat.add_mul, Nat.one_mul]
    omega
theorem sum_len {ys : List Str} {B : Nat} (h : ∀ y ∈ ys, y.length ≤ B) : (ys.map (·.length)).sum ≤ ys.length * B := by
  induction ys with
  | nil => simp
  | cons y ys ih =>
    rw [List.map_cons, List.sum_cons, List.length_cons, Nat.add_mul, Nat.one_mul]
    have h1 := h y (List.mem_cons_self ..)
    have h2 := ih fun z hz => h z (List.mem_cons_of_mem _ hz)
    omega
theorem sI_log {x : Int} {B : Nat} (h : x.natAbs < 2 ^ B) (hB : B ≤ 1900) : x.natAbs.log2 < 1920 := Nat.lt_of_lt_of_le (PySem.Flt.log2_lt_of (k := B + 1) (by omega) (Nat.lt_of_lt_of_le h (Nat.pow_le_pow_right (by decide) (by omega)))) (by omega)
theorem sI_len {x : Int} {B : Nat} (h : x.natAbs < 2 ^ B) (hB : B ≤ 1900) : (sI x).length ≤ 1921 := PyProof.Rows.int_text_len_1921 (sI_log h hB)
theorem join_ok {a : List Int} {B : Nat} (h : SzL B a) (hB : B ≤ 1900) (hl : a.length ≤ 100) : ((a.map sI).map (·.length)).sum + (a.map sI).length * (Str.ofString ", ").length ≤ 16777216 ∧ (joinI a).length ≤ 200000 := by
  have h1 : ((a.map sI).map (·.length)).sum ≤ (a.map sI).length * 1921 := sum_len fun y hy => by
    obtain ⟨x, hx, rfl⟩ := List.mem_map.mp hy
    exact sI_len (h x hx) hB
  have h2 : (a.map sI).length ≤ 100 := by rw [List.length_map]; exact hl
  have h3 : (Str.ofString ", ").length = 2 := rfl
  have h4 : ((a.map sI).map (·.length)).sum + (a.map sI).length * 2 ≤ 200000 := by omega
  refine ⟨by rw [h3]; omega, ?_⟩
  have e : a.map sI = (a.map fun x => (sI x).cps.toList).map SX.S := by
    rw [List.map_map]
    refine List.map_congr_left fun x _ => ?_
    show sI x = SX.S (sI x).cps.toList
    rw [SX.S_tl]
  unfold joinI
  rw [e, show Str.ofString ", " = SX.S [44, 32] by decide, SX.join_S, SX.S_len]
  refine Nat.le_trans (joinL_len _ _) ?_
  have e2 : ((a.map fun x => (sI x).cps.toList).map (·.length)) = (a.map sI).map (·.length) := by
    rw [List.map_map, List.map_map]
    refine List.map_congr_left fun x _ => ?_
    show (sI x).cps.toList.length = (sI x).length
    rw [Array.length_toList]
    rfl
  rw [e2, List.length_map]
  rw [List.length_map] at h4
  exact h4
theorem empty_app (z : Str) : Str.empty ++ z = z := by
  have := SX.S_cat [] z.cps.toList
  rw [SX.S_tl, List.nil_append, SX.S_tl] at this
  exact this
def ph_Poly___len__ (C : Addr) : Ph := fun ds q _ => ∃ a : List Int, ds = [polD C a] ∧ q (.int (a.length : Int))
theorem u_Poly___len__ {C : Addr} {a : List Int} {q : Dt → Prop} {x : XD} (_ : True) (p : q (.int (a.length : Int))) : ph_Poly___len__ C [polD C a] q x := ⟨a, rfl, p⟩
def ph_Poly___getitem__ (C : Addr) : Ph := fun ds q _ => ∃ (a : List Int) (n : Nat), ds = [polD C a, .int (n : Int)] ∧ q (.int (cf a n))
theorem u_Poly___getitem__ {C : Addr} {a : List Int} {n : Nat} {q : Dt → Prop} {x : XD} (_ : True) (p : q (.int (cf a n))) : ph_Poly___getitem__ C [polD C a, .int (n : Int)] q x := ⟨a, n, rfl, p⟩
def ph_Poly___repr__ (C : Addr) : Ph := fun ds q _ => ∃ (a : List Int) (B : Nat), ds = [polD C a] ∧ (SzL B a ∧ B ≤ 1900 ∧ a.length ≤ 100) ∧ q (.str (shown a))
theorem u_Poly___repr__ {C : Addr} {a : List Int} {B : Nat} {q : Dt → Prop} {x : XD} (h : SzL B a ∧ B ≤ 1900 ∧ a.length ≤ 100) (p : q (.str (shown a))) : ph_Poly___repr__ C [polD C a] q x := ⟨a, B, rfl, h, p⟩
def ph__law_shown : Ph := fun ds q _ => ∃ (a : List Int) (B : Nat), ds = [iL a] ∧ (SzL B a ∧ B ≤ 1900 ∧ a.length ≤ 100) ∧ q (.str (shown a))
theorem u__law_shown {a : List Int} {B : Nat} {q : Dt → Prop} {x : XD} (h : SzL B a ∧ B ≤ 1900 ∧ a.length ≤ 100) (p : q (.str (shown a))) : ph__law_shown [iL a] q x := ⟨a, B, rfl, h, p⟩
/-- data that are no object -/
def plainD (d : Dt) : Prop := (∃ i, d = .int i) ∨ (∃ xs, d = .tup xs) ∨ (∃ xs, d = .lst xs) ∨ ∃ z, d = .str z
def ph_Poly___eq__ (C : Addr) : Ph := fun ds q _ => ∃ (a : List Int) (d : Dt), ds = [polD C a, d] ∧ ((∃ b, d = polD C b ∧ q (.bl (decide (a = b)))) ∨ (plainD d ∧ q (.bl false)))
theorem u_Poly___eq__ {C : Addr} {a b : List Int} {q : Dt → Prop} {x : XD} (p : q (.bl (decide (a = b)))) : ph_Poly___eq__ C [polD C a, polD C b] q x := ⟨a, _, rfl, .inl ⟨b, rfl, p⟩⟩
theorem u_Poly___eq__P {C : Addr} {a : List Int} {d : Dt} {q : Dt → Prop} {x : XD} (h : plainD d) (p : q (.bl false)) : ph_Poly___eq__ C [polD C a, d] q x := ⟨a, _, rfl, .inr ⟨h, p⟩⟩
theorem fre_pol (C : Addr) (a : List Int) : fre 0 (polD C a) = true := by simp [polD, fre, freL, freL_ints]
end VS
set_option Elab.async false
set_option linter.all false
set_option maxRecDepth 100000
/-! dicts whose keys are tuples. -/
namespace VS
open PySem PySem.Spec L2
def keyD : Key → Dt
  | .inl i => .int i
  | .inr z => .str z
theorem rpL_keys {K : PySem.W.Frag} {F : Hp} : ∀ ks : List Key, RpL K F (ks.map keyD) (ks.map kV)
  | [] => .nil
  | .inl i :: ks => .cons (rp_int.mpr rfl) (rpL_keys ks)
  | .inr z :: ks => .cons (rp_str.mpr rfl) (rpL_keys ks)
theorem rpL_keys_of {K : PySem.W.Frag} {F : Hp} : ∀ {ks : List Key} {vs : List V}, RpL K F (ks.map keyD) vs → vs = ks.map kV
  | [], _, h => h.of_nil
  | .inl i :: ks, _, h => by
    obtain ⟨v, r, rfl, h1, h2⟩ := h.of_cons
    rw [rp_int.mp h1, rpL_keys_of h2]
    rfl
  | .inr z :: ks, _, h => by
    obtain ⟨v, r, rfl, h1, h2⟩ := h.of_cons
    rw [rp_str.mp h1, rpL_keys_of h2]
    rfl
theorem rp_key_tup {K : PySem.W.Frag} {F : Hp} {ks : List Key} {v : V} (h : Rp K F (.key ks) v) : Rp K F (.tup (ks.map keyD)) v := by
  obtain ⟨a, e, h⟩ := rp_key.mp h
  exact rp_tup.mpr ⟨a, _, e, .inl (.inl h), rpL_keys ks⟩
/-- what a dict holds -/
def lookT : List (List Key) → List Dt → List Key → Option Dt
  | k :: ks, x :: xs, q => if k = q then some x else lookT ks xs q
  | _, _, _ => none
theorem look_val {K : PySem.W.Frag} {F : Hp} {q : List Key} : ∀ {ks : List (List Key)} {xs : List Dt} {vs : List V}, RpL K F xs vs → ks.length = vs.length →
    (lookT ks xs q = none → L2.valV (ks.zip vs) q = none) ∧ ∀ d, lookT ks xs q = some d → ∃ v, L2.valV (ks.zip vs) q = some v ∧ Rp K F d v
  | [], xs, vs, r, hl => ⟨fun _ => rfl, fun d h => by cases xs <;> cases h⟩
  | k :: ks, [], vs, r, hl => by
    have := r.of_nil
    subst this
    simp at hl
  | k :: ks, x :: xs, vs, r, hl => by
    obtain ⟨v, t, rfl, r1, r2⟩ := r.of_cons
    have ih := look_val (q := q) (ks := ks) r2 (by simpa using hl)
    unfold lookT
    by_cases h : k = q
    · rw [if_pos h]
      refine ⟨fun z => (nomatch z), fun d e => ⟨v, ?_, by cases e; exact r1⟩⟩
      unfold L2.valV
      rw [List.zip_cons_cons, List.find?_cons_of_pos (by simpa using h)]
      rfl
    · rw [if_neg h]
      have e : L2.valV ((k :: ks).zip (v :: t)) q = L2.valV (ks.zip t) q := by
        unfold L2.valV
        rw [List.zip_cons_cons, List.find?_cons_of_neg (by simpa using h)]
      rw [e]
      exact ih
def repV {α : Type} (q : List Key) (y : α) : List (List Key) → List α → List α
  | k :: ks, x :: xs => (if k = q then y else x) :: repV q y ks xs
  | _, xs => xs
theorem rep_len {α : Type} (q : List Key) (y : α) : ∀ (ks : List (List Key)) (xs : List α), (repV q y ks xs).length = xs.length
  | [], xs => by simp [repV]
  | k :: ks, [] => rfl
  | k :: ks, x :: xs => by simp [repV, rep_len q y ks xs]
theorem rep_rp {K : PySem.W.Frag} {F : Hp} {q : List Key} {d : Dt} {v : V} (rd : Rp K F d v) : ∀ {ks : List (List Key)} {xs : List Dt} {vs : List V}, RpL K F xs vs → RpL K F (repV q d ks xs) (repV q v ks vs)
  | [], xs, vs, r => by simpa [repV] using r
  | k :: ks, [], vs, r => by rw [r.of_nil]; exact .nil
  | k :: ks, x :: xs, vs, r => by
    obtain ⟨w, t, rfl, r1, r2⟩ := r.of_cons
    show RpL K F ((if k = q then d else x) :: repV q d ks xs) ((if k = q then v else w) :: repV q v ks t)
    refine .cons ?_ (rep_rp rd r2)
    by_cases h : k = q
    · rw [if_pos h, if_pos h]; exact rd
    · rw [if_neg h, if_neg h]; exact r1
theorem rep_zip (q : List Key) (v : V) : ∀ (ks : List (List Key)) (vs : List V), (ks.zip vs).map (fun kv => if kv.1 = q then (kv.1, v) else kv) = ks.zip (repV q v ks vs)
  | [], vs => by simp
  | k :: ks, [] => by simp [repV]
  | k :: ks, w :: vs => by
    show (if k = q then (k, v) else (k, w)) :: ((ks.zip vs).map fun kv => if kv.1 = q then (kv.1, v) else kv) = (k, if k = q then v else w) :: ks.zip (repV q v ks vs)
    rw [rep_zip q v ks vs]
    by_cases h : k = q
    · rw [if_pos h, if_pos h]
    · rw [if_neg h, if_neg h]
def hasT (ks : List (List Key)) (q : List Key) : Bool := ks.any fun k => decide (k = q)
def putT (ks : List (List Key)) (q : List Key) : List (List Key) := if hasT ks q = true then ks else ks ++ [q]
def putX (ks : List (List Key)) (xs : List Dt) (q : List Key) (d : Dt) : List Dt := if hasT ks q = true then repV q d ks xs else xs ++ [d]
theorem put_zipT {K : PySem.W.Frag} {F : Hp} {ks : List (List Key)} {xs : List Dt} {vs : List V} {q : List Key} {d : Dt} {v : V} (r : RpL K F xs vs) (hl : ks.length = vs.length) (rd : Rp K F d v) :
    ∃ ws, L2.putK (ks.zip vs) q v = (putT ks q).zip ws ∧ (putT ks q).length = ws.length ∧ RpL K F (putX ks xs q d) ws := by
  have ha : ((ks.zip vs).any fun kv => decide (kv.1 = q)) = hasT ks q := by
    unfold hasT
    rw [Bool.eq_iff_iff, List.any_eq_true, List.any_eq_true]
    constructor
    · rintro ⟨kv, h1, h2⟩
      exact ⟨kv.1, (List.of_mem_zip h1).1, h2⟩
    · rintro ⟨z, h, h2⟩
      obtain ⟨i, hi, e⟩ := List.mem_iff_getElem.mp h
      have hz : i < (ks.zip vs).length := by rw [List.length_zip]; omega
      exact ⟨(ks.zip vs)[i], List.getElem_mem hz, by rw [List.getElem_zip, e]; exact h2⟩
  unfold L2.putK putT putX
  rw [ha]
  by_cases h : hasT ks q = true
  · rw [if_pos h, if_pos h, if_pos h, rep_zip]
    exact ⟨_, rfl, by rw [rep_len]; exact hl, rep_rp rd r⟩
  · rw [if_neg h, if_neg h, if_neg h]
    exact ⟨vs ++ [v], by rw [List.zip_append hl]; rfl, by simp [hl], r.append (.cons rd .nil)⟩
section
variable {X : Cx} {R : Reg} {G : List Sl} {pos : Pos} {k : Kt}
/-- a key read as a tuple -/
theorem e_asT {e : Expr} {P : Dt → Prop} (h : E X R G e fun d => ∃ ks, d = .key ks ∧ P (.tup (ks.map keyD))) : E X R G e P := fun σ F H Q ty c => h σ F H Q ty fun v F' H' d ex r ⟨ks, ed, p⟩ => by
  subst ed
  exact c v F' H' _ ex (rp_key_tup r) p
/-- (e, ..), a key -/
theorem e_key {es : List Expr} {x1} {P : Dt → Prop} (h : EA X R G es fun ds => ∃ ks : List Key, ds = ks.map keyD ∧ ds.length ≤ 100000 ∧ P (.key ks)) : E X R G (.Tuple es x1 pos) P := fun σ F H Q ty c =>
  tOf.of (pe_tup pa_w) (h σ F H _ ty fun vs F1 H1 ds ex1 r1 ⟨ks, e, hl, p⟩ => by
    subst e
    have ev := rpL_keys_of r1
    refine ⟨by rw [← r1.length]; exact Nat.le_trans hl (by decide), fun q hq => c _ _ _ _ (ex1.trans (ex1.wf.made hq)) (rp_key.mpr ⟨q, rfl, ?_⟩) p⟩
    rw [upd_same, ev])
theorem dget_of {F H : Hp} {ks : List (List Key)} {xs : List Dt} {q : List Key} {v y : V} (s : Same F H) (r : Rp X.K F (.dT ks xs) v) (ry : Rp X.K F (.key q) y) : ∃ a o, v = .ref a ∧ L2.DGet H a y o ∧ L2.IsD H a ∧ (lookT ks xs q = none → o = none) ∧ ∀ d, lookT ks xs q = some d → ∃ w, o = some w ∧ Rp X.K F d w := by
  obtain ⟨a, vs, e, h1, hl, rl⟩ := rp_dT.mp r
  obtain ⟨b, eb, hb⟩ := rp_key.mp ry
  obtain ⟨n1, n2⟩ := look_val (q := q) rl hl
  exact ⟨a, _, e, .inr ⟨_, q, b, rd_mono s h1, eb, s _ _ hb, rfl⟩, .inr ⟨_, rd_mono s h1⟩, n1, n2⟩
/-- d[q] -/
theorem e_dget {o i : Expr} {P : Dt → Prop} (hu : X.A.units + 1 < cLine) (h : E X R G o fun d => ∃ ks xs, d = .dT ks xs ∧ E X R G i fun d' => ∃ q x, d' = .key q ∧ lookT ks xs q = some x ∧ P x) (hs : NoSl i := by intro _ _; rfl) : E X R G (.Subscript o i pos) P := fun σ F H Q ty c =>
  tOf.of (pe_dget hu pe_w pe_w hs) (h σ F H _ ty fun v F1 H1 d ex r ⟨ks, xs, e, h2⟩ => by
    subst e
    refine h2 σ F1 H1 _ (ty.ext ex) fun y F2 H2 d2 ex2 r2 ⟨q, x, e2, hx, p⟩ => ?_
    subst e2
    obtain ⟨a, ov, ea, g, _, _, n2⟩ := dget_of ex2.wf.fh (r.mono ex2.ff) r2
    obtain ⟨w, ew, rw'⟩ := n2 x hx
    subst ew
    exact ⟨a, w, ea, g, c w F2 H2 x (ex.trans ex2) rw' p⟩)
/-- d.get(q) -/
theorem e_dget1 {o e : Expr} {apos : Pos} {P : Dt → Prop} (hu : X.A.units + 1 < cLine) (h : E X R G o fun d => ∃ ks xs, d = .dT ks xs ∧ E X R G e fun d' => ∃ q, d' = .key q ∧ P ((lookT ks xs q).getD .non))
    (m : M1 X o "get" apos e pos := by exact ⟨rfl, rfl, rfl, rfl⟩) : E X R G (.Call (.Attribute o "get" apos) [e] [] pos) P := fun σ F H Q ty c =>
  tOf.of (pe_dget1 hu pe_w pe_w m) (h σ F H _ ty fun v F1 H1 d ex r ⟨ks, xs, e, h2⟩ => by
    subst e
    have r0 := r
    obtain ⟨a, vs, ea, h1, _, _⟩ := rp_dT.mp r
    refine ⟨a, ea, .inr ⟨_, rd_mono ex.wf.fh h1⟩, h2 σ F1 H1 _ (ty.ext ex) fun y F2 H2 d2 ex2 r2 ⟨q, e2, p⟩ => ?_⟩
    subst e2
    obtain ⟨a', ov, ea', g, _, n1, n2⟩ := dget_of ex2.wf.fh (r0.mono ex2.ff) r2
    rw [ea] at ea'
    cases ea'
    refine ⟨ov, g, ?_⟩
    cases hx : lookT ks xs q with
    | none =>
      rw [hx] at p
      rw [n1 hx]
      exact c .non F2 H2 .non (ex.trans ex2) (rp_non.mpr rfl) p
    | some x =>
      rw [hx] at p
      obtain ⟨w, ew, rw'⟩ := n2 x hx
      subst ew
      exact c w F2 H2 x (ex.trans ex2) rw' p)
/-- d.get(q, x) -/
theorem e_dget2 {o e f : Expr} {apos : Pos} {P : Dt → Prop} (hu : X.A.units + 1 < cLine) (h : E X R G o fun d => ∃ ks xs, d = .dT ks xs ∧ E X R G e fun d' => ∃ q, d' = .key q ∧ E X R G f fun d3 => P ((lookT ks xs q).getD d3))
    (m : M2 X o "get" apos e f pos := by exact ⟨rfl, rfl, rfl, rfl⟩) : E X R G (.Call (.Attribute o "get" apos) [e, f] [] pos) P := fun σ F H Q ty c =>
  tOf.of (pe_dget2 hu pe_w pe_w pe_w m) (h σ F H _ ty fun v F1 H1 d ex r ⟨ks, xs, e, h2⟩ => by
    subst e
    have r0 := r
    obtain ⟨a, vs, ea, h1, _, _⟩ := rp_dT.mp r
    refine ⟨a, ea, .inr ⟨_, rd_mono ex.wf.fh h1⟩, h2 σ F1 H1 _ (ty.ext ex) fun y F2 H2 d2 ex2 r2 ⟨q, e2, h3⟩ => ?_⟩
    subst e2
    refine h3 σ F2 H2 _ (ty.ext (ex.trans ex2)) fun z F3 H3 d3 ex3 r3 p => ?_
    obtain ⟨a', ov, ea', g, _, n1, n2⟩ := dget_of ex3.wf.fh (r0.mono (ex2.ff.trans ex3.ff)) (r2.mono ex3.ff)
    rw [ea] at ea'
    cases ea'
    refine ⟨ov, g, ?_⟩
    cases hx : lookT ks xs q with
    | none =>
      rw [hx] at p
      rw [n1 hx]
      exact c z F3 H3 d3 ((ex.trans ex2).trans ex3) r3 p
    | some x =>
      rw [hx] at p
      obtain ⟨w, ew, rw'⟩ := n2 x hx
      subst ew
      exact c w F3 H3 x ((ex.trans ex2).trans ex3) rw' p)
/-- q in d, q not in d -/
theorem e_din {i o : Expr} {P : Dt → Prop} (hu : X.A.units + 1 < cLine) (h : E X R G i fun d' => ∃ q, d' = .key q ∧ E X R G o fun d => ∃ ks xs, d = .dT ks xs ∧ P (.bl (lookT ks xs q).isSome)) (hb : behindInMarks .In o = false := by first | exact nobehind _ (by decide) (by decide) | rfl) : E X R G (.Compare i [.In] [o] pos) P := fun σ F H Q ty c =>
  tOf.of (pe_cmp (pc_din hu pe_w pe_w) hb) (h σ F H _ ty fun y F1 H1 d ex r ⟨q, e, h2⟩ => by
    subst e
    refine h2 σ F1 H1 _ (ty.ext ex) fun v F2 H2 d2 ex2 r2 ⟨ks, xs, e2, p⟩ => ?_
    subst e2
    obtain ⟨a, ov, ea, g, _, n1, n2⟩ := dget_of ex2.wf.fh r2 (r.mono ex2.ff)
    have e : ov.isSome = (lookT ks xs q).isSome := by
      cases hx : lookT ks xs q with
      | none => rw [n1 hx]; rfl
      | some x => obtain ⟨w, ew, _⟩ := n2 x hx; rw [ew]; rfl
    refine ⟨a, ov, ea, g, ?_⟩
    rw [e]
    exact c _ F2 H2 _ (ex.trans ex2) (rp_bl.mpr rfl) p)
theorem e_dnotin {i o : Expr} {P : Dt → Prop} (hu : X.A.units + 1 < cLine) (h : E X R G i fun d' => ∃ q, d' = .key q ∧ E X R G o fun d => ∃ ks xs, d = .dT ks xs ∧ P (.bl (!(lookT ks xs q).isSome))) (hb : behindInMarks .NotIn o = false := by first | exact nobehind _ (by decide) (by decide) | rfl) : E X R G (.Compare i [.NotIn] [o] pos) P := fun σ F H Q ty c =>
  tOf.of (pe_cmp (pc_dnotin hu pe_w pe_w) hb) (h σ F H _ ty fun y F1 H1 d ex r ⟨q, e, h2⟩ => by
    subst e
    refine h2 σ F1 H1 _ (ty.ext ex) fun v F2 H2 d2 ex2 r2 ⟨ks, xs, e2, p⟩ => ?_
    subst e2
    obtain ⟨a, ov, ea, g, _, n1, n2⟩ := dget_of ex2.wf.fh r2 (r.mono ex2.ff)
    have e : ov.isSome = (lookT ks xs q).isSome := by
      cases hx : lookT ks xs q with
      | none => rw [n1 hx]; rfl
      | some x => obtain ⟨w, ew, _⟩ := n2 x hx; rw [ew]; rfl
    refine ⟨a, ov, ea, g, ?_⟩
    rw [e]
    exact c _ F2 H2 _ (ex.trans ex2) (rp_bl.mpr rfl) p)
/-- the same as a test -/
theorem t_din {i o : Expr} {P : Bool → Prop} (hu : X.A.units + 1 < cLine) (h : E X R G i fun d' => ∃ q, d' = .key q ∧ E X R G o fun d => ∃ ks xs, d = .dT ks xs ∧ P (lookT ks xs q).isSome) (hb : behindInMarks .In o = false := by first | exact nobehind _ (by decide) (by decide) | rfl) : T X R G (.Compare i [.In] [o] pos) P := fun σ F H Q ty c =>
  ttOf.of (pt_cmp (pc_din hu pe_w pe_w) hb) (h σ F H _ ty fun y F1 H1 d ex r ⟨q, e, h2⟩ => by
    subst e
    refine h2 σ F1 H1 _ (ty.ext ex) fun v F2 H2 d2 ex2 r2 ⟨ks, xs, e2, p⟩ => ?_
    subst e2
    obtain ⟨a, ov, ea, g, _, n1, n2⟩ := dget_of ex2.wf.fh r2 (r.mono ex2.ff)
    have e : ov.isSome = (lookT ks xs q).isSome := by
      cases hx : lookT ks xs q with
      | none => rw [n1 hx]; rfl
      | some x => obtain ⟨w, ew, _⟩ := n2 x hx; rw [ew]; rfl
    refine ⟨a, ov, ea, g, _, rfl, ?_⟩
    rw [e]
    exact c _ F2 H2 (ex.trans ex2) p)
/-- {}, one's own -/
theorem ew_dnew {P : Dt → Prop} (p : P (.dT [] [])) : EW X R G (.Dict [] [] pos) P := fun σ F H Q ty c =>
  tOf.of pe_dnewT fun q hq => c q F _ (.dT [] []) (ty.wf.own hq) hq (ty.wf.new hq) (ty.wf.fh.free hq) ⟨[], upd_same, rfl, .nil⟩ p
/-- x[q] = e, x one's own dict -/
theorem s_dput (i : Nat) {x : Str} {e qe : Expr} {p pos' : Pos} {ks : List (List Key)} {xs : List Dt} (hu : X.A.units + 1 < cLine) (hg : G[i]? = some (.ow (.dT ks xs))) (hN : X.N[i]? = some x) (hv : Vis X.env.scope x) (hl : ks.length < 100000)
    (h : E X R G e fun d => E X R G qe fun d' => ∃ q, d' = .key q ∧ k.nx (G.set i (.ow (.dT (putT ks q) (putX ks xs q d)))))
    (hd : (x == ("__debug__" : Str)) = false := by decide) (hcd : (x == ("__classdict__" : Str)) = false := by decide) (hs : swapsWith e (some (.Subscript (.Name x p) qe pos')) pos.line X.env = pure false := by rfl) : S1 X R (.Assign [.Subscript (.Name x p) qe pos'] e pos) G k := fun F0 H0 σ F H D ty b c =>
  s1Of.of (ps_dput hu (pe_var hN hv hd hcd) pe_w pe_w hs) (h σ F H _ ty fun y F1 H1 d ex r h2 => by
    have ty1 := ty.ext ex
    obtain ⟨o, ho, fo, nM, vs, h1, hl1, rl⟩ := ty1.own hg
    refine ⟨.ref o, by rw [ho], h2 σ F1 H1 _ ty1 fun z F2 H2 d2 ex2 r2 ⟨q, e2, hk⟩ => ?_⟩
    subst e2
    have ty2 := ty1.ext ex2
    obtain ⟨o', ho', fo', nM', vs', h1', hl1', rl'⟩ := ty2.own hg
    rw [ho] at ho'
    cases ho'
    obtain ⟨bq, eb, hb⟩ := rp_key.mp r2
    subst eb
    refine ⟨o, _, rfl, L2.DPut.t h1' (ex2.wf.fh _ _ hb) (by rw [List.length_zip]; exact Nat.lt_of_le_of_lt (Nat.min_le_left _ _) (Nat.lt_of_lt_of_le hl (by decide))), ?_⟩
    obtain ⟨ws, e1, e3, e4⟩ := put_zipT (q := q) (d := d) (v := y) rl' hl1' (r.mono ex2.ff)
    have ty3 := ty2.mut (d' := .dT (putT ks q) (putX ks xs q d)) (u := .dT (L2.putK (ks.zip vs') q y)) hg ho ⟨ws, by rw [upd_same, e1], e3, e4⟩
    exact c.nx _ _ _ _ hk ty3 ((b.step (ex.trans ex2)).mut ty3 hg ho))
end
end VS
set_option Elab.async false
set_option linter.all false
set_option maxRecDepth 100000
set_option maxHeartbeats 2000000
/-! {k: v for ..} whose keys are tuples. -/
namespace VS
open PySem PySem.Spec L2 PyProof.Rows
/-- a pair stored by a comprehension, its key a tuple -/
theorem dset_tup {X : Cx} {pn : List (Addr × Obj)} {τ : L2.St} {H : Hp} {t : Shared} {Er : Value → Shared → Prop} {D b : Addr} {kvs : List (List Key × V)} {q : List Key} {y : V} {r : Value} {Q : Unit → Shared → Prop} (hu : X.A.units < cLine) (J : Inv X pn τ H t) (hD : H D = some (.dT kvs)) (hz : kvs.length < sizeLine)
    (hb : H b = some (.tup (q.map kV))) (ry : RelV y r) (h : ∀ t', Inv X pn τ (upd H D (.dT (L2.putK kvs q y))) t' → Q () t') : wpAny (model X.prog X.w) X.A (dictSet D (.ref b) r) Q Er t := by
  obtain ⟨z, hd, xs, rel, dd⟩ := L2.dt_of J.hok hD
  have hx : xs.length ≤ sizeLine := by
    have e := Paired.length rel
    omega
  have hp : (L2.putK kvs q y).length ≤ sizeLine := by
    have e := L2.length_putK kvs q y
    omega
  refine wpAny_dictSet_heap (hsz := hx) hu (L2.key_of J.hok hb) dd fun h' dd' hs => h _ ?_
  obtain ⟨u, es, ep, g1, g2, g3, g4, _, g5⟩ := dd'
  refine L2.d_write J (by rw [hD]; exact True.intro) hs ⟨u, g1⟩ ⟨hp, hd, _, (rel.put q hb ry).keeps fun c ys ec => ?_, u, es, ep, g1, g2, g3, g4, g5⟩
  have ne : c ≠ D := fun z => by
    rw [z, hD] at ec
    cases ec
  rw [upd_ne ne]
  exact ec
section
variable {X : Cx}
/-- the reading: D is the new dict -/
def tDcT (wi : TI) (g : TG) (tt : TT) (tk tv : TE) (vs : List Nat) : TE := fun τ H Q => wi τ H fun It H1 => ∀ D, H1 D = none → ∃ W : Nat → Nat → Hp → Prop, (∃ m, W 0 m (upd H1 D (.dT []))) ∧ ∀ i m H, W i m H →
  (It.stop i H ∧ Q (.ref D) H) ∨ (It.go i H ∧ ∃ Nx : Hp → Prop, (∀ H', Nx H' → ∃ m', m' < m ∧ W (i + 1) m' H') ∧ ∀ x H', It.yld i H x H' → g x (wipe τ vs) H' fun τ2 H2 => wipe τ2 vs = wipe τ vs ∧ tt τ2 H2 fun c H3 =>
    if c = true then tk τ2 H3 fun y H4 => tv τ2 H4 fun z H5 => ∃ kvs q b, y = .ref b ∧ H5 b = some (.tup (q.map kV)) ∧ H5 D = some (.dT kvs) ∧ kvs.length < sizeLine ∧ Nx (upd H5 D (.dT (L2.putK kvs q z))) else Nx H3)
theorem dcT_core {pn : List (Addr × Obj)} {t : Shared} {τ : L2.St} {H : Hp} {Q : VK} {kx vx tg src : Expr} {tests : List Expr} {sco : Scope} {mine : List (Str × Nat)} {ps ps' : Pos} {wi : TI} {g : TG} {tt : TT} {tk tv : TE} {use : Option (Value → Sem Unit)} {Qf : Value → Shared → Prop}
    (hu : X.A.units < cLine) (calm : X.calm = true) (nodup : X.N.Nodup) (J : Inv X pn τ H t) (hi : PI X tg src wi) (bo : BlkOk X.N X.env.scope sco mine)
    (hg : ∀ t H C cl fp, PG (X.blk t H sco (compEnvC sco cl C X.env) fp) tg g) (ht : ∀ t H C cl fp, PTs (X.blk t H sco (compEnvC sco cl C X.env) fp) tests tt)
    (hk : ∀ t H C cl fp, PE (X.blk t H sco (compEnvC sco cl C X.env) fp) kx tk) (hv : ∀ t H C cl fp, PE (X.blk t H sco (compEnvC sco cl C X.env) fp) vx tv) (hs : ∀ x, foldedSetIterable src X.env x = pure x)
    (h : tDcT wi g tt tk tv (mine.map (·.2)) τ H Q)
    (fine : ∀ D C t' m H', Inv X pn τ H' t' → Q (.ref D) H' → t'.heap.Ns C m → FpOk X pn H' C → compPost (model X.prog X.w) X.A X.xe use Qf (.ref D) C (.ok .next) t') :
    wpAny (model X.prog X.w) X.A (comprehension (.DictComp kx vx [⟨tg, src, tests, 0⟩] sco ps) sco X.env ps' newDict false (eval src X.env) use) Qf X.xe t := by
  have free : ∀ y ∈ sco.names, y.2 = .free → ∃ c, X.env.cells.lookup y.1 = some c := fun y hy e => J.ok.has _ (bo.free y hy e)
  refine wpAny_comprehension_free (use := use) rfl hs (closure_ok free) bo.kind (fun y hy e => by rw [bo.uniq y hy, e]) (thn (hi.run pn t τ H _ J h) fun xv t1 hx => thn hx fun itv t2 h2 => ?_)
  obtain ⟨it, fp, tn, It, K2, rfl, J2, Tn, st2, f2, q⟩ := h2
  refine wpAny_newObj_type (newEnv_comp ?_); generalize eD : t2.heap.objs.size = D
  obtain ⟨W, ⟨m0, w0⟩, turn⟩ := q D (J2.hok.fresh (Nat.le_of_eq eD))
  generalize e3 : ({ t2 with heap := t2.heap.push { cls := .type "dict", data := .dict #[] } } : Shared) = t3
  have J3 : Inv X pn τ (upd K2 D (.dT [])) t3 := by
    subst e3
    exact J2.laid (t' := t2.toks) (fun b o e => Heap.get?_push_of_some _ e) (Nat.le_of_eq eD) (by subst eD; exact dt_empty t2.heap J2.big)
  have hp3 : t3.heap = t2.heap.push { cls := .type "dict", data := .dict #[] } := by subst e3; rfl
  have below : ∀ b ∈ fp, b < t2.heap.objs.size := fun b hb => let ⟨o, e, _⟩ := Tn.obj _ _ st2 b hb; Heap.lt_size e
  have f3 : ∀ b ∈ fp, FpOk X pn (upd K2 D (.dT [])) b ∧ b < t3.heap.objs.size := fun b hb =>
    ⟨⟨by rw [upd_ne (by subst eD; exact Nat.ne_of_lt (below b hb))]; exact (f2 b hb).1, (f2 b hb).2⟩, by rw [hp3, Heap.size_push]; exact Nat.lt_succ_of_lt (below b hb)⟩
  have st3 : tn 0 t3.heap := Tn.keep _ _ _ st2 fun b _ o e => hp3 ▸ Heap.get?_push_of_some _ e
  have J4 := block_start J3 bo nodup f3
  have none3 : ∀ b ∈ fp, (upd K2 D (.dT [])) b = none := fun b hb => (f3 b hb).1.1
  have pg := hg t3 (upd K2 D (.dT [])) t3.heap.objs.size (cellsFrom (t3.heap.objs.size + 1) sco.names (cloFrom X.env.cells sco.names [])) fp
  have pt := ht t3 (upd K2 D (.dT [])) t3.heap.objs.size (cellsFrom (t3.heap.objs.size + 1) sco.names (cloFrom X.env.cells sco.names [])) fp
  have pk := hk t3 (upd K2 D (.dT [])) t3.heap.objs.size (cellsFrom (t3.heap.objs.size + 1) sco.names (cloFrom X.env.cells sco.names [])) fp
  have pv := hv t3 (upd K2 D (.dT [])) t3.heap.objs.size (cellsFrom (t3.heap.objs.size + 1) sco.names (cloFrom X.env.cells sco.names [])) fp
  show codeAny _ _ (.compStart (.DictComp kx vx [⟨tg, src, tests, 0⟩] sco ps) 0 (.ref it) (.ref D) (compEnvC sco (cellsFrom (t3.heap.objs.size + 1) sco.names (cloFrom X.env.cells sco.names [])) t3.heap.objs.size X.env)) (compPost (model X.prog X.w) X.A X.xe use Qf (.ref D) t3.heap.objs.size) { t3 with heap := pushCells (t3.heap.push { cls := .type "dict", data := .dict #[] }) sco.names }
  generalize ee : compEnvC sco (cellsFrom (t3.heap.objs.size + 1) sco.names (cloFrom X.env.cells sco.names [])) t3.heap.objs.size X.env = en at J4 pg pt pk pv ⊢
  have eloc : en.locals = t3.heap.objs.size := by subst ee; rfl
  generalize eK : upd K2 D (.dT []) = K3 at J3 J4 pg pt pk pv w0 none3 f3
  generalize e4 : ({ t3 with heap := pushCells (t3.heap.push { cls := .type "dict", data := .dict #[] }) sco.names } : Shared) = t4 at J4 ⊢
  have st4 : tn 0 t4.heap := Tn.keep _ _ _ st3 fun b _ o e => by subst e4; exact pushCells_keeps _ _ _ _ (Heap.get?_push_of_some _ e)
  have okfp : ∀ {τ' : L2.St} {H' : Hp} {t' : Shared}, Inv (X.blk t3 K3 sco en fp) [] τ' H' t' → (∀ b ∈ fp, H' b = none) → ∀ b ∈ fp, FpOk (X.blk t3 K3 sco en fp) [] H' b := fun {τ' H' t'} J' hn b hb =>
    ⟨hn b hb, (J'.ok.exf b hb).1, J'.ok.exfs b hb, .inl hb, fun x c e => (J'.ok.exf b hb).2 x c e, fun p hp => absurd (show p ∈ ([] : List (Addr × Obj)) ++ [] from hp) (by simp)⟩
  have loop : codeAny (model X.prog X.w) X.A (.compLoop (.DictComp kx vx [⟨tg, src, tests, 0⟩] sco ps) 0 (.ref it) (.ref D) en) (compPost (model X.prog X.w) X.A X.xe use Qf (.ref D) t3.heap.objs.size) t4 := by
    refine compLoop_anyD (fun n t' => ∃ i H', Inv (X.blk t3 K3 sco en fp) [] (wipe τ (mine.map (·.2))) H' t' ∧ tn i t'.heap ∧ (∀ b ∈ fp, H' b = none) ∧ W i n H') ?_ m0 ⟨0, K3, J4, st4, none3, w0⟩
    rintro n t5 ⟨i, H5, J5, st5, n5, w5⟩
    rcases turn i n H5 w5 with ⟨stop, qq⟩ | ⟨go, Nx, hNx, step⟩
    · refine thnF (Tn.done (X.blk t3 K3 sco en fp) rfl rfl rfl calm i [] t5 _ H5 (fun _ _ => False) J5 (okfp J5 n5) st5 stop) fun r t6 ⟨hr, J6⟩ => ?_
      subst hr
      have J7 : Inv X pn τ H5 t6 := J3.call' (ch := fp) J6.os J6.base J6.hok J6.bare fun b hb => ⟨(f3 b hb).1.2.2.2.1, (f3 b hb).1.2.1, (f3 b hb).1.2.2.2.2.1, (f3 b hb).1.2.2.2.2.2⟩
      have nC : H5 t3.heap.objs.size = none := eloc ▸ (show H5 en.locals = none from J6.free)
      obtain ⟨m, hns, _⟩ := J6.loc
      exact fine D t3.heap.objs.size t6 m H5 J7 qq (eloc ▸ (show t6.heap.Ns en.locals m from hns)) (J3.fpOk (Nat.le_refl _) nC)
    · refine thnF (Tn.item (X.blk t3 K3 sco en fp) rfl rfl rfl calm i [] t5 _ H5 (fun _ _ => False) J5 (okfp J5 n5) st5 go) fun r t6 ⟨u, hr, h6⟩ => ?_
      subst hr
      refine thnF h6 fun _ t7 ⟨x, H7, J7, r7, y7, st7, n7⟩ => ?_
      refine thnF (pg.run _ t7 _ H7 x u _ (J7.pinned (okfp J7 n7) (Tn.obj _ _ st7)) r7 (step x H7 y7)) fun _ t8 ⟨τ8, H8, J8, hw8, q8⟩ => thnF (pt.run _ t8 τ8 H8 _ J8 q8) fun c t9 ⟨H9, J9, q9⟩ => ?_
      have last : ∀ {t' : Shared} {H' : Hp}, Inv (X.blk t3 K3 sco en fp) ([] ++ pinsAt fp t7.heap) τ8 H' t' → Nx H' → ∃ m, m < n ∧ ∃ i H', Inv (X.blk t3 K3 sco en fp) [] (wipe τ (mine.map (·.2))) H' t' ∧ tn i t'.heap ∧ (∀ b ∈ fp, H' b = none) ∧ W i m H' := fun {t' H'} J' nx => by
        obtain ⟨m', hm, w'⟩ := hNx H' nx
        have kept : ∀ b ∈ fp, ∀ o, t7.heap.get? b = some o → t'.heap.get? b = some o ∧ H' b = none := fun b hb o e => (fun z => ⟨z.1, z.2.1⟩) (J'.pin (b, o) (List.mem_append_right _ (List.mem_append_right _ (mem_pinsAt hb e))))
        have len8 : (wipe τ (mine.map (·.2))).length = τ8.length := by rw [← hw8, wipe_length]
        refine ⟨m', hm, i + 1, H', (J'.unpinned (pins := [])).weak len8 (fun j v e => (wipe_some (by rw [hw8]; exact e)).1), Tn.keep _ _ _ st7 fun b hb o e => (kept b hb o e).1, fun b hb => ?_, w'⟩
        obtain ⟨o, e, _⟩ := Tn.obj _ _ st7 b hb
        exact (kept b hb o e).2
      cases c with
      | false => simp only [Bool.false_eq_true, if_false] at q9 ⊢; exact last J9 q9
      | true =>
        simp only [if_true] at q9 ⊢
        refine thnF (pk.run _ t9 τ8 H9 _ J9 q9) fun z t10 ⟨yk, H10, J10, r10, q10⟩ => thnF (pv.run _ t10 τ8 H10 _ J10 q10) fun z2 t11 ⟨yv, H11, J11, r11, kvs, kq, kb, ek, hkb, hD11, hz11, nx⟩ => ?_
        subst ek
        cases (show z = Value.ref kb from r10)
        exact dset_tup (X := X.blk t3 K3 sco en fp) hu J11 hD11 hz11 hkb r11 fun t12 J12 => last J12 nx
  exact codeAny_compStart_dict loop (Tn.self X.A 0 _ _ _ st4 loop)
theorem pe_dcT {kx vx tg src : Expr} {tests : List Expr} {sco : Scope} {mine : List (Str × Nat)} {ps : Pos} {wi : TI} {g : TG} {tt : TT} {tk tv : TE} (hu : X.A.units < cLine) (calm : X.calm = true) (nodup : X.N.Nodup) (hi : PI X tg src wi) (bo : BlkOk X.N X.env.scope sco mine)
    (hg : ∀ t H C cl fp, PG (X.blk t H sco (compEnvC sco cl C X.env) fp) tg g) (ht : ∀ t H C cl fp, PTs (X.blk t H sco (compEnvC sco cl C X.env) fp) tests tt)
    (hk : ∀ t H C cl fp, PE (X.blk t H sco (compEnvC sco cl C X.env) fp) kx tk) (hv : ∀ t H C cl fp, PE (X.blk t H sco (compEnvC sco cl C X.env) fp) vx tv) (hs : ∀ x, foldedSetIterable src X.env x = pure x := by intro _; rfl) :
    PE X (.DictComp kx vx [⟨tg, src, tests, 0⟩] sco ps) (tDcT wi g tt tk tv (mine.map (·.2))) := by
  refine ⟨fun pn t τ H Q J h => ?_⟩
  rw [arm_eval_DictComp]
  refine dcT_core hu calm nodup J hi bo hg ht hk hv hs h fun D C t' m H' J' q hn fo => ⟨m, hn, fun h'' sb => ?_⟩
  obtain ⟨a0, a1, _, a3, a4, a5⟩ := fo
  exact ⟨.ref D, H', J'.turned (t' := t'.toks) (fun b o hb e => (sb.2 b hb).trans e) a0 a1 a3 a4 a5, rfl, q⟩
/-- what a dict comprehension's turns give -/
structure Dc (X : Cx) (R : Reg) (G : List Sl) (tg kx vx : Expr) (ifs : List Expr) (scope : Scope) (vs : List Nat) (ds : List Dt) (J : Nat → List (List Key) → List Dt → Prop) : Prop where
  start : J 0 [] []
  step : ∀ i d ks xs, ds[i]? = some d → J i ks xs → ks.length ≤ i → ∃ js, (∀ Y, Blk X scope Y → A Y tg d js) ∧ (∀ p ∈ js, p.1 ∈ vs) ∧
    ∀ Y, Blk X scope Y → Ts Y R (setsD (wipeD G vs) js) ifs fun b => if b = true then ∀ Z, Blk X scope Z → E Z R (setsD (wipeD G vs) js) kx fun dk => ∃ q, dk = .key q ∧ ∀ Z', Blk X scope Z' → E Z' R (setsD (wipeD G vs) js) vx fun y => J (i + 1) (putT ks q) (putX ks xs q y) else J (i + 1) ks xs
theorem putT_len (ks : List (List Key)) (q : List Key) : (putT ks q).length ≤ ks.length + 1 := by
  unfold putT
  split
  · omega
  · simp
variable {R : Reg} {G : List Sl} {pos : Pos} {k : Kt}
theorem ew_dc {tg iter kx vx : Expr} {ifs : List Expr} {scope : Scope} {own : List (Str × Nat)} {P : Dt → Prop} (hu : X.A.units < cLine) (hc : X.calm = true) (hN : X.N.Nodup) (ok : BlkOk X.N X.env.scope scope own)
    (h : I X R G tg iter fun ds => ds.length ≤ 100000 ∧ ∃ J, Dc X R G tg kx vx ifs scope (own.map (·.2)) ds J ∧ ∀ ks xs, J ds.length ks xs → P (.dT ks xs)) (hs : ∀ x, foldedSetIterable iter X.env x = pure x := by intro _; rfl) : EW X R G (.DictComp kx vx [⟨tg, iter, ifs, 0⟩] scope pos) P := fun σ F H Q ty c => by
  refine tOf.of (pe_dcT hu hc hN pi_w ok blk_pg blk_pts blk_pe blk_pe hs) (h σ F H _ ty fun Jt F1 H1 ds ex it ⟨hl, J, dc, fin⟩ => fun D hD => ?_)
  have hD0 : H D = none := ex.free hD
  have nM : ¬ R.M D := ex.wf.new hD
  refine ⟨fun i m H2 => m = ds.length - i ∧ i ≤ ds.length ∧ ∃ F2 ks xs vacc, J i ks xs ∧ ks.length ≤ i ∧ H2 D = some (.dT (ks.zip vacc)) ∧ ks.length = vacc.length ∧ F2 D = none ∧ RpL X.K F2 xs vacc ∧ Ext R F1 H1 F2 H2, ⟨_, rfl, Nat.zero_le _, F1, [], [], [], dc.start, Nat.le_refl _, upd_same, rfl, ex.wf.fh.free hD, .nil, ex.wf.own hD⟩, ?_⟩
  rintro i m H2 ⟨rfl, hi, F2, ks, xs, vacc, j, hla, hD2, hlv, fD2, ra, ex2⟩
  obtain ⟨hstop, hgo⟩ := it F2 H2 ex2.ff ex2.wf
  by_cases hlt : i < ds.length
  · obtain ⟨g1, g2⟩ := hgo i ds[i] (List.getElem?_eq_getElem hlt)
    refine .inr ⟨g1, _, fun H' z => z, fun x H' y => ?_⟩
    obtain ⟨F3, ex3, r3⟩ := g2 x H' y
    obtain ⟨js, ha, hjs, hS⟩ := dc.step i ds[i] ks xs (List.getElem?_eq_getElem hlt) j hla
    intro Y bY
    show tgOf Y tg x (L2.wipe σ (own.map (·.2))) H' _
    refine ha Y bY (L2.wipe σ (own.map (·.2))) F3 H' x _ ex3.wf.fh (by rw [bY.K]; exact r3) ?_
    intro ws hw rw1
    refine ⟨?_, ?_⟩
    · rw [wipe_sets fun p hp => ?_, wipe_wipe]
      have q := (List.of_mem_zip hp).1
      obtain ⟨z, hz, e⟩ := List.mem_map.mp q
      rw [← e]
      exact hjs z hz
    · intro Y2 bY2
      have tyW : Ty X.K R (setsD (wipeD G (own.map (·.2))) js) (setsV (wipe σ (own.map (·.2))) ((js.map (·.1)).zip ws)) F3 H' := Ty.sets (((ty.ext ((ex.trans ex2).trans ex3))).wipe _) (by rw [← bY.K]; exact rw1)
      have hD3 : H' D = some (.dT (ks.zip vacc)) := ex3.hh D _ nM hD2
      have fD3 : F3 D = none := ex3.fr D (by rw [hD2]; exact fun z => nomatch z) fD2
      refine hS Y2 bY2 _ F3 H' _ (by rw [bY2.K]; exact tyW) fun b F4 H4 ex4 p => ?_
      have hD4 : H4 D = some (.dT (ks.zip vacc)) := ex4.hh D _ nM hD3
      have fD4 : F4 D = none := ex4.fr D (by rw [hD3]; exact fun z => nomatch z) fD3
      cases b with
      | false =>
        rw [if_neg (by decide)] at p ⊢
        exact ⟨_, by omega, rfl, hlt, F4, ks, xs, vacc, p, Nat.le_succ_of_le hla, hD4, hlv, fD4, ra.mono (ex3.ff.trans ex4.ff), (ex2.trans ex3).trans ex4⟩
      | true =>
        rw [if_pos rfl] at p ⊢
        intro Y3 bY3
        refine p Y3 bY3 _ F4 H4 _ (by rw [bY3.K]; exact tyW.ext ex4) fun y F5 H5 dk ex5 r5 ⟨kq, ek, pv⟩ => ?_
        subst ek
        intro Y4 bY4
        refine pv Y4 bY4 _ F5 H5 _ (by rw [bY4.K]; exact (tyW.ext ex4).ext ex5) fun z F6 H6 dz ex6 r6 pj => ?_
        have hD6 : H6 D = some (.dT (ks.zip vacc)) := ex6.hh D _ nM (ex5.hh D _ nM hD4)
        have fD5 : F5 D = none := ex5.fr D (by rw [hD4]; exact fun z => nomatch z) fD4
        have fD6 : F6 D = none := ex6.fr D (by rw [ex5.hh D _ nM hD4]; exact fun z => nomatch z) fD5
        have ra6 := ra.mono (((ex3.ff.trans ex4.ff).trans ex5.ff).trans ex6.ff)
        have e6 := (((ex2.trans ex3).trans ex4).trans ex5).trans ex6
        rw [bY3.K] at r5
        rw [bY4.K] at r6
        obtain ⟨bq, eb, hb⟩ := rp_key.mp (r5.mono ex6.ff)
        obtain ⟨us, p1, p2, p3⟩ := put_zipT (q := kq) (d := dz) (v := z) ra6 hlv r6
        have mk : Ext R F1 H1 F6 (upd H6 D (.dT (L2.putK (ks.zip vacc) kq z))) := by
          refine ⟨⟨fun a o h => ?_, e6.wf.off, fun a m z => ?_, ?_⟩, e6.ff, fun a o n h => ?_, e6.fr⟩
          · rw [upd_ne (fun z => by rw [z, fD6] at h; cases h)]
            exact e6.wf.fh a o h
          · have nz : a ≠ D := fun e => nM (e ▸ m)
            rw [upd_ne nz] at z
            exact e6.wf.oc a m z
          · refine R.st H6 _ (fun a o m h => ?_) e6.wf.b
            have nz : a ≠ D := fun e => nM (e ▸ m)
            rw [upd_ne nz]
            exact h
          · rw [upd_ne (ne_of_none h hD)]
            exact e6.hh a o n h
        refine ⟨_, kq, bq, eb, e6.wf.fh _ _ hb, hD6, ?_, ⟨_, by omega, rfl, hlt, F6, putT ks kq, putX ks xs kq dz, us, pj, Nat.le_trans (putT_len ks kq) (by omega), by rw [upd_same, p1], p2, fD6, p3, mk⟩⟩
        rw [List.length_zip]
        exact Nat.lt_of_le_of_lt (Nat.min_le_left _ _) (Nat.lt_of_le_of_lt hla (Nat.lt_of_lt_of_le hlt (Nat.le_trans hl (by decide))))
  · have e : i = ds.length := by omega
    subst e
    exact .inl ⟨hstop _ (Nat.le_refl _), c D F2 H2 (.dT ks xs) (ex.trans ex2) hD0 nM fD2 ⟨vacc, hD2, hlv, ra⟩ (fin ks xs j)⟩
/-- a new thing, given away at once -/
theorem e_ofW {e : Expr} {P : Dt → Prop} (h : EW X R G e P) : E X R G e P := fun σ F H Q ty c => h σ F H Q ty fun p F' H' d ex hp nM fp ho q => by
  obtain ⟨u, hu, _⟩ := ho.kd
  refine c (.ref p) (upd F' p u) H' d ⟨wf_one ex.wf nM hu, ex.ff.trans (same_upd1 fp), ex.hh, fun a h n => ?_⟩ (owo_rp ho (same_upd1 fp) (by rw [upd_same, hu])) q
  rw [upd_ne (fun z => h (by rw [z]; exact hp))]
  exact ex.fr a h n
end
end VS
set_option Elab.async false
set_option linter.all false
set_option maxRecDepth 100000
set_option maxHeartbeats 2000000
/-! {k: v} with a tuple as key; x in xs; two fors in one comprehension; x in o of an own class. -/
namespace VS
open PySem PySem.Spec L2
section
variable {X : Cx} {R : Reg} {G : List Sl} {pos : Pos} {k : Kt}
theorem ew_disp1 {ke ve : Expr} {P : Dt → Prop} (hu : X.A.units < cLine) (h : E X R G ke fun d => ∃ q, d = .key q ∧ E X R G ve fun y => P (.dT [q] [y]))
    (hshape : (evalEachOpt [some ke] X.env).zip ((evalEach [ve] X.env).map fun v => do let x ← v; standAt pos; pure x) = (pairTrees [some ke] [ve] X.env pos).map fun p => (some p.1, p.2) := by rfl) (hl : (pairTrees [some ke] [ve] X.env pos).length = 1 := by rfl) : EW X R G (.Dict [some ke] [ve] pos) P := fun σ F H Q ty c => by
  unfold tOf
  intro pins s I
  have hn := I.hok.fresh (Nat.le_refl s.heap.objs.size)
  have I1 := I.laid (a := s.heap.objs.size) (o := .dT []) (h' := s.heap.push { cls := .type "dict", data := .dict #[] }) (t' := s.toks) (fun _ _ q => Heap.get?_push_of_some _ q) (Nat.le_refl _) (dt_empty s.heap I.big)
  generalize hp : s.heap.objs.size = p at *
  have ex0 : Ext R F H F (upd H p (.dT [])) := ty.wf.own hn
  have nM : ¬ R.M p := ty.wf.new hn
  have fp : F p = none := ty.wf.fh.free hn
  have hh := h σ F (upd H p (.dT [])) (fun x H1 => tOf X ve σ H1 fun y H2 => ∃ F2 q d b, x = .ref b ∧ F2 b = some (.tup (q.map kV)) ∧ Rp X.K F2 d y ∧ Ext R F (upd H p (.dT [])) F2 H2 ∧ P (.dT [q] [d])) (ty.ext ex0) fun x F1 H1 d ex r ⟨q, e, h2⟩ => by
    subst e
    obtain ⟨b, eb, hb⟩ := rp_key.mp r
    exact h2 σ F1 H1 _ ((ty.ext ex0).ext ex) fun y F2 H2 d2 ex2 r2 pp => ⟨F2, q, d2, b, eb, ex2.ff _ _ hb, r2, ex.trans ex2, pp⟩
  rw [arm_eval_Dict, hshape, dictDisplay_pairs _ (fun z => by rw [z] at hl; cases hl) (by omega)]
  refine wpAny_bind (wpAny_standAt (wpAny_bind (wpAny_subDictH (knd := tupleKind (mixKind X.prog X.w)) (Q := fun d s' => wpAny (model X.prog X.w) X.A (pure (Value.ref d)) (EP X pins σ Q) X.xe s') hu (by omega) ?_)))
  rw [hp]
  refine thn ((pps_cons pe_w pe_w pps_nil).run pins _ σ (upd H p (.dT [])) (fun ps H2 => ∃ x y, ps = [(x, y)] ∧ ∃ F2 q d b, x = .ref b ∧ F2 b = some (.tup (q.map kV)) ∧ Rp X.K F2 d y ∧ Ext R F (upd H p (.dT [])) F2 H2 ∧ P (.dT [q] [d])) I1 ?_) fun ws s2 z => ?_
  · unfold tPairs
    have mono : ∀ {e : Expr} {H : Hp} {Q1 Q2 : VK}, (∀ v H', Q1 v H' → Q2 v H') → tOf X e σ H Q1 → tOf X e σ H Q2 := fun {e H Q1 Q2} i z => by
      unfold tOf at z ⊢
      exact fun pins s I => wpAny_mono (z pins s I) (fun v s' ⟨y, H', a, b, q⟩ => ⟨y, H', a, b, i y H' q⟩) fun _ _ w => w
    refine mono (fun x H1 z => mono (fun y H2 z2 => ?_) z) hh
    unfold tPairs
    exact ⟨x, y, rfl, z2⟩
  · obtain ⟨ps, H2, I2, rel, x, y, e, F2, q, d, b, eb, hb, rd, ex, pp⟩ := z
    subst e eb
    cases rel with
    | @cons a1 a2 as bs r1 r2 =>
      cases r2
      obtain ⟨u1, u2⟩ := a2
      obtain ⟨r1, r1'⟩ := r1
      cases (show u1 = Value.ref b from r1)
      have hp2 : H2 p = some (.dT []) := ex.hh p _ nM upd_same
      have fp2 : F2 p = none := ex.fr p (by rw [upd_same]; exact fun z => nomatch z) fp
      have hb2 := ex.wf.fh _ _ hb
      obtain ⟨z, hd, xs, kt, dd⟩ := L2.dt_of I2.hok hp2
      cases kt
      refine ⟨[(q, b, u2)], ⟨rfl, rfl, L2.key_of I2.hok hb2, trivial⟩, dd, fun h' tk dd' hs => wpAny_pure ?_⟩
      obtain ⟨o, es, ep, g1, g2, g3, g4, _, g5⟩ := dd'
      have nb : b ≠ p := fun z => by rw [z, hp2] at hb2; cases hb2
      have I3 := L2.d_write I2 (by rw [hp2]; exact True.intro) hs ⟨o, g1⟩ (t' := tk) (ob := .dT [(q, y)]) ⟨Nat.le_of_ble_eq_true rfl, hd, _, .cons ⟨rfl, by rw [upd_ne nb]; exact hb2, r1'⟩ .nil, o, es, ep, g1, g2, g3, g4, g5⟩
      refine ⟨.ref p, upd H2 p (.dT [(q, y)]), I3, rfl, ?_⟩
      refine c p F2 _ (.dT [q] [d]) ?_ hn nM fp2 ⟨[y], upd_same, rfl, .cons rd .nil⟩ pp
      refine ⟨⟨fun a z hz => ?_, ex.wf.off, fun a m z => ?_, ?_⟩, ex.ff, fun a z nm hz => ?_, fun a ha nf => ?_⟩
      · rw [upd_ne (fun e => by rw [e, fp2] at hz; cases hz)]
        exact ex.wf.fh a z hz
      · have nz : a ≠ p := fun e => nM (e ▸ m)
        rw [upd_ne nz] at z
        exact ex.wf.oc a m z
      · refine R.st H2 _ (fun a z m hz => ?_) ex.wf.b
        have nz : a ≠ p := fun e => nM (e ▸ m)
        rw [upd_ne nz]
        exact hz
      · have nz := ne_of_none hz hn
        rw [upd_ne nz]
        exact ex.hh a z nm (by rw [upd_ne nz]; exact hz)
      · have nz : a ≠ p := fun e => ha (by rw [e]; exact hn)
        exact ex.fr a (by rw [upd_ne nz]; exact ha) nf
/-- i in a tuple, a list of ints -/
theorem inV_ints (i : Int) (l : List Int) : L2.inV (.int i) (l.map V.int) = l.any fun z => decide (z = i) := by
  unfold L2.inV
  rw [List.any_map]
  rfl
theorem flat_ints (l : List Int) : (l.map V.int).all L2.flatV = true := by
  rw [List.all_eq_true]
  intro x hx
  obtain ⟨z, _, rfl⟩ := List.mem_map.mp hx
  rfl
theorem w_inT {i : Int} {l : List Int} {P : Dt → Prop} (p : P (.bl (l.any fun z => decide (z = i)))) : W2 X R (compareOp .In) (.int i) (.tup (l.map .int)) P := fun F H x y Q w rx ry c => by
  obtain ⟨a, vs, rfl, sq, rl⟩ := rp_tup.mp ry
  have e := rl.ints
  subst e
  refine opOf.of op_in_seq ⟨a, _, rfl, .inr (sq_t w.fh sq), by rw [rp_int.mp rx]; rfl, flat_ints l, ?_⟩
  rw [rp_int.mp rx, if_neg (by decide), inV_ints]
  exact c.here w (rp_bl.mpr rfl) p
theorem w_inL {i : Int} {l : List Int} {P : Dt → Prop} (p : P (.bl (l.any fun z => decide (z = i)))) : W2 X R (compareOp .In) (.int i) (.lst (l.map .int)) P := fun F H x y Q w rx ry c => by
  obtain ⟨a, vs, rfl, sq, rl⟩ := rp_lst.mp ry
  have e := rl.ints
  subst e
  refine opOf.of op_in_seq ⟨a, _, rfl, .inl (SqL.of (w.fh _ _ sq)), by rw [rp_int.mp rx]; rfl, flat_ints l, ?_⟩
  rw [rp_int.mp rx, if_neg (by decide), inV_ints]
  exact c.here w (rp_bl.mpr rfl) p
/-- d in o, o of a class with __contains__ -/
theorem w_inO {C : Addr} {ps : List Str} {φ : Ph} {j : Nat} {ns : List Str} {xs : List Dt} {d : Dt} {P : Dt → Prop} (F : FnM X.prog X.w X.K X.mg X.base j C "__contains__" ps [] (spD X.K 2 φ)) (hr : Room j X.A)
    (hφ : φ [.obj C ns xs, d] (fun r => ∃ b, r = .bl b ∧ P (.bl b)) fun _ _ _ => False) : W2 X R (compareOp .In) d (.obj C ns xs) P := fun F0 H x y Q w rx ry c => by
  have ry0 := ry
  obtain ⟨a, dx, vs, rfl, h1, _, _⟩ := rp_obj.mp ry
  obtain ⟨f, hM, run, _⟩ := F.run
  unfold opOf
  intro pins s σ v u I rv ru
  cases ru
  obtain ⟨od, J⟩ := inst_at I w h1
  obtain ⟨m', hF⟩ := I.fr
  refine PySem.W.in_K hF I.ok.mod.kin J hM.at_ hM.fn (wpAny_mono (run (Q := fun v H' => ∃ b, v = .bl b ∧ Q (.bl b) H') (vs := [.ref a, x]) hr I (.cons rfl (.cons rv .nil)) (spD_of w (.cons ry0 (.cons rx .nil)) rfl hφ fun v F1 H1 d ex r ⟨b, e, p⟩ => by
    subst e
    exact ⟨b, rp_bl.mp r, c _ F1 H1 _ ex (rp_bl.mpr rfl) p⟩)) (fun v s' h => ?_) fun _ _ h => h)
  obtain ⟨z, H', I', rz, b, e, q⟩ := h
  subst e
  obtain rfl : v = Value.bool b := rz
  exact wpAny_truthy_bool ⟨.bl b, H', I', rfl, q⟩
/-! ### [elt for tg in iter for tg1 in iter1] -/
def tiB (X : Cx) (scope : Scope) (tg iter : Expr) : TI := fun σ H Rr => ∀ Y, Blk X scope Y → tiOf Y tg iter σ H Rr
theorem blk_pi {scope : Scope} {tg iter : Expr} (s : Shared) (H : Hp) (C : Addr) (cl : List (Str × Addr)) (fp : List Addr) : PI (X.blk s H scope (compEnvC scope cl C X.env) fp) tg iter (tiB X scope tg iter) := by
  have z := @pi_w (X.blk s H scope (compEnvC scope cl C X.env) fp) tg iter
  exact ⟨fun pins s' σ H' Q I h => z.run pins s' σ H' Q I (h _ ⟨s, H, C, cl, fp, rfl⟩)⟩
structure Lc2 (X : Cx) (R : Reg) (G : List Sl) (tg tg1 iter1 elt : Expr) (scope : Scope) (vs vs1 : List Nat) (ds : List Dt) (J : Nat → List Dt → Prop) : Prop where
  start : J 0 []
  step : ∀ i d acc, ds[i]? = some d → J i acc → ∃ js, (∀ Y, Blk X scope Y → A Y tg d js) ∧ (∀ p ∈ js, p.1 ∈ vs) ∧ ∀ Y, Blk X scope Y → I Y R (setsD (wipeD G vs) js) tg1 iter1 fun es => ∃ J1 : Nat → List Dt → Prop, J1 0 acc ∧
    (∀ j e acc', es[j]? = some e → J1 j acc' → acc'.length < 100000 ∧ ∃ js1, (∀ Z, Blk X scope Z → A Z tg1 e js1) ∧ (∀ p ∈ js1, p.1 ∈ vs1) ∧ ∀ Z, Blk X scope Z → E Z R (setsD (wipeD (setsD (wipeD G vs) js) vs1) js1) elt fun y => J1 (j + 1) (acc' ++ [y])) ∧ ∀ acc', J1 es.length acc' → J (i + 1) acc'
theorem lc2_run {tg iter tg1 iter1 elt : Expr} {scope : Scope} {own : List (Str × Nat)} {vs1 : List Nat} {P : Dt → Prop} {σ : St} {F H : Hp} {Q : VK} (hc : X.calm = true) (hN : X.N.Nodup) (ok : BlkOk X.N X.env.scope scope own) (hv1 : ∀ i ∈ vs1, i ∈ own.map (·.2))
    (h : I X R G tg iter fun ds => ∃ J, Lc2 X R G tg tg1 iter1 elt scope (own.map (·.2)) vs1 ds J ∧ ∀ acc, J ds.length acc → P (.lst acc)) (ty : Ty X.K R G σ F H) (c : CtW X.K R F H P Q) :
    tLc2 (tiOf X tg iter) (tgB X scope tg) (ttB X scope []) (tiB X scope tg1 iter1) (tgB X scope tg1) (ttB X scope []) (teB X scope elt) (own.map (·.2)) vs1 σ H Q := by
  refine h σ F H _ ty fun Jt F1 H1 ds ex it ⟨J, lc, fin⟩ => fun D hD => ?_
  have hD0 : H D = none := ex.free hD
  have nM : ¬ R.M D := ex.wf.new hD
  refine ⟨fun i m H2 => m = ds.length - i ∧ i ≤ ds.length ∧ ∃ F2 acc vacc, J i acc ∧ H2 D = some (.lst vacc) ∧ F2 D = none ∧ RpL X.K F2 acc vacc ∧ Ext R F1 H1 F2 H2, ⟨_, rfl, Nat.zero_le _, F1, [], [], lc.start, upd_same, ex.wf.fh.free hD, .nil, ex.wf.own hD⟩, ?_⟩
  rintro i m H2 ⟨rfl, hi, F2, acc, vacc, j, hD2, fD2, ra, ex2⟩
  obtain ⟨hstop, hgo⟩ := it F2 H2 ex2.ff ex2.wf
  by_cases hlt : i < ds.length
  · obtain ⟨g1, g2⟩ := hgo i ds[i] (List.getElem?_eq_getElem hlt)
    refine .inr ⟨g1, _, fun H' z => z, fun x H' y => ?_⟩
    obtain ⟨F3, ex3, r3⟩ := g2 x H' y
    obtain ⟨js, ha, hjs, hS⟩ := lc.step i ds[i] acc (List.getElem?_eq_getElem hlt) j
    intro Y bY
    refine ha Y bY (L2.wipe σ (own.map (·.2))) F3 H' x _ ex3.wf.fh (by rw [bY.K]; exact r3) ?_
    intro ws hw rw1
    have hwp : ∀ p ∈ (js.map (·.1)).zip ws, p.1 ∈ own.map (·.2) := fun p hp => by
      obtain ⟨z, hz, e⟩ := List.mem_map.mp (List.of_mem_zip hp).1
      rw [← e]
      exact hjs z hz
    refine ⟨by rw [wipe_sets hwp, wipe_wipe], ?_⟩
    intro Y2 bY2
    have tyW : Ty X.K R (setsD (wipeD G (own.map (·.2))) js) (setsV (L2.wipe σ (own.map (·.2))) ((js.map (·.1)).zip ws)) F3 H' := Ty.sets (((ty.ext ((ex.trans ex2).trans ex3))).wipe _) (by rw [← bY.K]; exact rw1)
    have hD3 : H' D = some (.lst vacc) := ex3.hh D _ nM hD2
    have fD3 : F3 D = none := ex3.fr D (by rw [hD2]; exact fun z => nomatch z) fD2
    refine ts_nil (P := fun b => b = true) rfl _ F3 H' _ (by rw [bY2.K]; exact tyW) fun b F4 H4 ex4 eb => ?_
    subst eb
    rw [if_pos rfl]
    intro Y3 bY3
    refine hS Y3 bY3 _ F4 H4 _ (by rw [bY3.K]; exact tyW.ext ex4) fun Jt1 F5 H5 es ex5 it1 ⟨J1, j0, st1, fin1⟩ => ?_
    have hD5 : H5 D = some (.lst vacc) := ex5.hh D _ nM (ex4.hh D _ nM hD3)
    have fD4 : F4 D = none := ex4.fr D (by rw [hD3]; exact fun z => nomatch z) fD3
    have fD5 : F5 D = none := ex5.fr D (by rw [ex4.hh D _ nM hD3]; exact fun z => nomatch z) fD4
    have tyV := (tyW.ext ex4).ext ex5
    have e5 := ((ex2.trans ex3).trans ex4).trans ex5
    refine ⟨fun a n H6 => n = es.length - a ∧ a ≤ es.length ∧ ∃ F6 acc' vacc', J1 a acc' ∧ H6 D = some (.lst vacc') ∧ F6 D = none ∧ RpL X.K F6 acc' vacc' ∧ Ext R F1 H1 F6 H6 ∧ Same F5 F6 ∧ Ty X.K R (setsD (wipeD G (own.map (·.2))) js) (setsV (L2.wipe σ (own.map (·.2))) ((js.map (·.1)).zip ws)) F6 H6, ⟨_, rfl, Nat.zero_le _, F5, acc, vacc, j0, hD5, fD5, ra.mono ((ex3.ff.trans ex4.ff).trans ex5.ff), e5, .refl _, tyV⟩, ?_⟩
    rintro a n H6 ⟨rfl, han, F6, acc', vacc', ja, hD6, fD6, ra6, e6, s56, ty6⟩
    obtain ⟨hstop1, hgo1⟩ := it1 F6 H6 s56 e6.wf
    by_cases hal : a < es.length
    · obtain ⟨k1, k2⟩ := hgo1 a es[a] (List.getElem?_eq_getElem hal)
      refine .inr ⟨k1, _, fun H' z => z, fun x1 H7 y1 => ?_⟩
      obtain ⟨F7, ex7, r7⟩ := k2 x1 H7 y1
      obtain ⟨hlen, js1, ha1, hjs1, hE⟩ := st1 a es[a] acc' (List.getElem?_eq_getElem hal) ja
      intro Y4 bY4
      refine ha1 Y4 bY4 (L2.wipe _ vs1) F7 H7 x1 _ ex7.wf.fh (by rw [bY3.K] at r7; rw [bY4.K]; exact r7) ?_
      intro ws1 hw1 rw2
      have hwp1 : ∀ p ∈ (js1.map (·.1)).zip ws1, p.1 ∈ vs1 := fun p hp => by
        obtain ⟨z, hz, e⟩ := List.mem_map.mp (List.of_mem_zip hp).1
        rw [← e]
        exact hjs1 z hz
      refine ⟨by rw [wipe_sets hwp1, wipe_wipe], ?_⟩
      intro Y5 bY5
      have tyU : Ty X.K R (setsD (wipeD (setsD (wipeD G (own.map (·.2))) js) vs1) js1) (setsV (L2.wipe (setsV (L2.wipe σ (own.map (·.2))) ((js.map (·.1)).zip ws)) vs1) ((js1.map (·.1)).zip ws1)) F7 H7 := Ty.sets ((ty6.ext ex7).wipe vs1) (by rw [← bY4.K]; exact rw2)
      refine ts_nil (P := fun b => b = true) rfl _ F7 H7 _ (by rw [bY5.K]; exact tyU) fun b F8 H8 ex8 eb => ?_
      subst eb
      rw [if_pos rfl]
      intro Y6 bY6
      refine hE Y6 bY6 _ F8 H8 _ (by rw [bY6.K]; exact tyU.ext ex8) fun y F9 H9 d ex9 r9 pj => ?_
      have hD9 : H9 D = some (.lst vacc') := ex9.hh D _ nM (ex8.hh D _ nM (ex7.hh D _ nM hD6))
      have fD7 : F7 D = none := ex7.fr D (by rw [hD6]; exact fun z => nomatch z) fD6
      have fD8 : F8 D = none := ex8.fr D (by rw [ex7.hh D _ nM hD6]; exact fun z => nomatch z) fD7
      have fD9 : F9 D = none := ex9.fr D (by rw [ex8.hh D _ nM (ex7.hh D _ nM hD6)]; exact fun z => nomatch z) fD8
      have e9 := ((e6.trans ex7).trans ex8).trans ex9
      have mkW : Wf R F9 (upd H9 D (.lst (vacc' ++ [y]))) := by
        refine ⟨fun z o hz => ?_, e9.wf.off, fun z m hz => ?_, ?_⟩
        · rw [upd_ne (fun e => by rw [e, fD9] at hz; cases hz)]
          exact e9.wf.fh z o hz
        · have nz : z ≠ D := fun e => nM (e ▸ m)
          rw [upd_ne nz] at hz
          exact e9.wf.oc z m hz
        · refine R.st H9 _ (fun z o m hz => ?_) e9.wf.b
          have nz : z ≠ D := fun e => nM (e ▸ m)
          rw [upd_ne nz]
          exact hz
      have mk : Ext R F1 H1 F9 (upd H9 D (.lst (vacc' ++ [y]))) := ⟨mkW, e9.ff, fun z o nm hz => by
        rw [upd_ne (ne_of_none hz hD)]
        exact e9.hh z o nm hz, e9.fr⟩
      refine ⟨vacc', hD9, ?_, ⟨_, by omega, rfl, hal, F9, acc' ++ [d], vacc' ++ [y], pj, upd_same, fD9, (ra6.mono ((ex7.ff.trans ex8.ff).trans ex9.ff)).append (.cons (by rw [← bY6.K]; exact r9) .nil), mk, ((s56.trans ex7.ff).trans ex8.ff).trans ex9.ff, ?_⟩⟩
      · rw [← ra6.length]
        exact Nat.lt_of_lt_of_le hlen (by decide)
      · have rw1' : RpL X.K F3 (js.map (·.2)) ws := by rw [← bY.K]; exact rw1
        exact Ty.sets ((ty.ext (ex.trans mk)).wipe _) (rw1'.mono (((((ex4.ff.trans ex5.ff).trans s56).trans ex7.ff).trans ex8.ff).trans ex9.ff))
    · have e : a = es.length := by omega
      subst e
      exact .inl ⟨hstop1 _ (Nat.le_refl _), ⟨_, by omega, rfl, hlt, F6, acc', vacc', fin1 acc' ja, hD6, fD6, ra6, e6⟩⟩
  · have e : i = ds.length := by omega
    subst e
    exact .inl ⟨hstop _ (Nat.le_refl _), c D F2 H2 (.lst acc) (ex.trans ex2) hD0 nM fD2 ⟨vacc, hD2, ra⟩ (fin acc j)⟩
theorem e_lc2 {tg iter tg1 iter1 elt : Expr} {scope : Scope} {own : List (Str × Nat)} {vs1 : List Nat} {P : Dt → Prop} (hc : X.calm = true) (hN : X.N.Nodup) (ok : BlkOk X.N X.env.scope scope own) (hv1 : ∀ i ∈ vs1, i ∈ own.map (·.2))
    (h : I X R G tg iter fun ds => ∃ J, Lc2 X R G tg tg1 iter1 elt scope (own.map (·.2)) vs1 ds J ∧ ∀ acc, J ds.length acc → P (.lst acc)) (hs : ∀ x, foldedSetIterable iter X.env x = pure x := by intro _; rfl) (hs1 : ∀ env x, foldedSetIterable iter1 env x = pure x := by intro _ _; rfl) :
    EW X R G (.ListComp elt [⟨tg, iter, [], 0⟩, ⟨tg1, iter1, [], 0⟩] scope pos) P := fun σ F H Q ty c => by
  exact tOf.of (pe_lc2 hc hN pi_w ok hv1 blk_pg blk_pts blk_pi blk_pg blk_pts blk_pe hs hs1) (lc2_run hc hN ok hv1 h ty c)
/-- y = [.. for .. for ..] on one line, y shared -/
theorem s_lc2 (i : Nat) {y : Str} {py cpos : Pos} {tg iter tg1 iter1 elt : Expr} {scope : Scope} {own : List (Str × Nat)} {vs1 : List Nat} (hc : X.calm = true) (hN : X.N.Nodup) (hy : X.N[i]? = some y) (hyl : X.env.scope.names.lookup y = some .local)
    (hsw : swapsWith (.ListComp elt [⟨tg, iter, [], 0⟩, ⟨tg1, iter1, [], 0⟩] scope cpos) (some (.Name y py)) pos.line X.env = pure true) (ok : BlkOk X.N X.env.scope scope own) (hv1 : ∀ i ∈ vs1, i ∈ own.map (·.2))
    (h : I X R G tg iter fun ds => ∃ J, Lc2 X R G tg tg1 iter1 elt scope (own.map (·.2)) vs1 ds J ∧ ∀ acc, J ds.length acc → k.nx (G.set i (.sh (.lst acc)))) (hs : ∀ x, foldedSetIterable iter X.env x = pure x := by intro _; rfl) (hs1 : ∀ env x, foldedSetIterable iter1 env x = pure x := by intro _ _; rfl) :
    S1 X R (.Assign [.Name y py] (.ListComp elt [⟨tg, iter, [], 0⟩, ⟨tg1, iter1, [], 0⟩] scope cpos) pos) G k := fun F0 H0 σ F H D ty b c => by
  refine s1Of.of (ps_setLc2 hc hN hy hyl hsw pi_w ok hv1 blk_pg blk_pts blk_pi blk_pg blk_pts blk_pe hs hs1) (lc2_run (P := fun d => k.nx (G.set i (.sh d))) hc hN ok hv1 h ty fun p F' H' d ex hp nM fp ho q => ?_)
  obtain ⟨u, hu, _⟩ := ho.kd
  have ex2 : Ext R F H (upd F' p u) H' := by
    refine ⟨wf_one ex.wf nM hu, ex.ff.trans (same_upd1 fp), ex.hh, fun a h n => ?_⟩
    rw [upd_ne (fun z => h (by rw [z]; exact hp))]
    exact ex.fr a h n
  exact c.nx _ _ _ H' q ((ty.ext ex2).set i (owo_rp ho (same_upd1 fp) (by rw [upd_same, hu]))) ((b.step ex2).set i)
end
end VS
set_option Elab.async false
set_option linter.all false
set_option maxRecDepth 100000
set_option maxHeartbeats 2000000
/-! dict(d), its keys tuples. -/
namespace VS
open PySem PySem.Spec L2
section
variable {prog : Program} {w : World} {K : Type} [DecidableEq K] {knd : HeapKind prog w K} {A : Around} {E : Value → Shared → Prop} {s : Shared}
theorem dict_copyT {o : Addr} {more : List (K × Addr × Value)} {Q : Value → Shared → Prop} (hu : knd.room A.in1.in1) (hoS : (o == sysModules) = false) (hne : s.heap.objs.size ≠ o) (ho' : (s.heap.push { cls := .type "dict", data := .dict #[] }).DictOfH knd o more) (hsz : more.length ≤ sizeLine)
    (hty : ∀ x ∈ more, (⟨s.heap.push { cls := .type "dict", data := .dict #[] }, s.gens, s.drawn, s.toks, s.os⟩ : Shared).TypeIs (.ref x.2.1) "tuple") (hap : (more.map fun x => knd.hash x.1).Nodup)
    (h : ∀ h', h'.DictOfH knd s.heap.objs.size (storedAllH [] more) → Heap.SameBut s.heap.objs.size (s.heap.push { cls := .type "dict", data := .dict #[] }) h' → Q (.ref s.heap.objs.size) { s with heap := h' }) :
    wpAny (model prog w) A (call (.type "dict") [.ref o]) Q E s := by
  refine callType_codes (Q₁ := fun b t => b = .ref s.heap.objs.size ∧ t = { s with heap := s.heap.push { cls := .type "dict", data := .dict #[] } }) F.kt_called_dict (F.kt_typeCall_dict_1 _) F.entry_dict_init (kt_code_dict_new _ ⟨rfl, rfl⟩) ?_
  rintro b t ⟨rfl, rfl⟩
  have hnew : (s.heap.push { cls := .type "dict", data := .dict #[] }).DictOfH knd s.heap.objs.size [] := Heap.DictOfH.new s.heap
  refine ⟨hnew.typeIs, F.args_dict_init_2 _ _, ?_⟩
  unfold Builtin.«dict.__init__» Builtin.Dict.selfAndRest
  refine wpAny_bind (wpAny_bind (wpAny_notOrdered_dict hnew.typeIs (wpAny_pure ?_)))
  show wpAny _ _ (Builtin.Dict.updateFrom "dict.__init__" s.heap.objs.size (.ref o) [] .none) _ _ _
  unfold Builtin.Dict.updateFrom
  refine wpAny_bind (wpAny_typeOf ho'.typeIs ?_); rw [if_neg (by decide)]
  unfold Builtin.Dict.merge Builtin.Dict.readDirectly
  refine wpAny_bind (wpAny_bind (wpAny_bind (wpAny_isInstance ho'.typeIs isSubtype_dict_dict ?_)))
  simp only [Bool.not_true, Bool.false_eq_true, if_false]
  refine wpAny_bind (wpAny_specialOf ho'.typeIs F.slot_dict_iter.lookup (wpAny_pure ?_)); simp only [beq_self_eq_true, if_true]
  refine wpAny_bind (wpAny_pure (wpAny_mergeDict_heap (hsz := by simpa using hsz) hu hne hoS hnew ho' (.inr ⟨hty, hap⟩) fun h' hd' _ hs' => ?_))
  show wpAny _ _ (Builtin.Dict.addKeywords s.heap.objs.size [] >>= _) _ _ _
  exact wpAny_bind (wpAny_pure (wpAny_pure ⟨rfl, h h' hd' hs'⟩))
end
section
variable {X : Cx} {R : Reg} {G : List Sl} {pos : Pos} {k : Kt}
theorem call_dictT (hu : X.A.units + 2 < cLine) : CallR X (.type "dict") (fun xs H Q => ∃ (a : Addr) (kvs : List (List Key × V)), xs = [.ref a] ∧ Rd H a (.dT kvs) ∧ (kvs.map fun kv => (tupleKind (mixKind X.prog X.w)).hash kv.1).Nodup ∧ ∀ p, H p = none → Q (.ref p) (upd H p (.dT kvs))) := by
  intro pins s σ H xs us Q I r q
  obtain ⟨a, kvs, ex, hd, hh, q⟩ := q
  subst ex
  cases r with
  | cons r1 r2 =>
    cases r2
    cases r1
    have hn := I.hok.fresh (Nat.le_refl s.heap.objs.size)
    have I1 := I.laid (a := s.heap.objs.size) (o := .dT []) (h' := s.heap.push { cls := .type "dict", data := .dict #[] }) (t' := s.toks) (fun _ _ q => Heap.get?_push_of_some _ q) (Nat.le_refl _) (dt_empty s.heap I.big)
    have na : s.heap.objs.size ≠ a := fun e => by
      rcases hd with hd | ⟨o, hd⟩ <;> rw [← e, hn] at hd <;> cases hd
    have hd1 : Rd (upd H s.heap.objs.size (.dT [])) a (.dT kvs) := by
      rcases hd with hd | ⟨o, hd⟩
      · exact .inl (by rw [upd_ne (Ne.symm na)]; exact hd)
      · exact .inr ⟨o, by rw [upd_ne (Ne.symm na)]; exact hd⟩
    obtain ⟨z, hs0, more, rel, dd⟩ := L2.dt_rd I1.hok hd1
    have hk : more.map (fun x => (tupleKind (mixKind X.prog X.w)).hash x.1) = kvs.map fun kv => (tupleKind (mixKind X.prog X.w)).hash kv.1 := by
      clear dd hd1 hh q hd z
      induction rel with
      | nil => rfl
      | cons h _ ih => rw [List.map_cons, List.map_cons, ih, h.1]
    refine dict_copyT (knd := tupleKind (mixKind X.prog X.w)) (more := more) hu hs0 na dd (by rw [← Paired.length rel]; exact z) (keyed_apart (s := { s with heap := s.heap.push { cls := .type "dict", data := .dict #[] } }) tupleKind_stays dd) (by rw [hk]; exact hh) fun h' dd' hs => ?_
    rw [storedAllH_nil_of_nodup more dd.nodup] at dd'
    obtain ⟨o, es, ep, g1, g2, g3, g4, _, g5⟩ := dd'
    have hm : (s.heap.objs.size == sysModules) = false := beq_eq_false_iff_ne.mpr (Nat.ne_of_gt I.big)
    have I2 := L2.d_write I1 (a := s.heap.objs.size) (by rw [upd_same]; exact True.intro) hs ⟨o, g1⟩ (t' := s.toks) (ob := .dT kvs) ⟨z, hm, more, rel.keeps fun c ys ec => ?_, o, es, ep, g1, g2, g3, g4, g5⟩
    · have eu : upd (upd H s.heap.objs.size (.dT [])) s.heap.objs.size (.dT kvs) = upd H s.heap.objs.size (.dT kvs) := by
        funext b
        by_cases e : b = s.heap.objs.size
        · rw [e, upd_same, upd_same]
        · rw [upd_ne e, upd_ne e, upd_ne e]
      rw [eu] at I2
      exact ⟨.ref s.heap.objs.size, _, I2, rfl, q _ hn⟩
    · have ne : c ≠ s.heap.objs.size := fun e => by
        rw [e, upd_same] at ec
        cases ec
      rw [upd_ne ne]
      exact ec
/-- dict(e), a new dict -/
theorem ew_dictOf {e : Expr} {p : Pos} {P : Dt → Prop} (hu : X.A.units + 2 < cLine) (hg : Gl X "dict") (hm : X.mg "dict" = none) (h : EA X R G [e] fun ds => ∃ ks xs, ds = [.dT ks xs] ∧ (ks.map fun q => (tupleKind (mixKind X.prog X.w)).hash q).Nodup ∧ P (.dT ks xs))
    (he : starEach [e] X.env = (false, eval e X.env) :: starEach [] X.env := by rfl) (hpl : (backTo pos (starEach [] X.env)).any (·.1) = false := by rfl) : EW X R G (.Call (.Name "dict" p) [e] [] pos) P := fun σ F H Q ty c => by
  refine tOf.of (pe_callTy (call_dictT hu) hg hm b_dict pa_w (by decide) (by decide) he hpl) (h σ F H _ ty fun vs F1 H1 ds ex1 r1 h2 => ?_)
  obtain ⟨ks, xs, rfl, hh, hp⟩ := h2
  obtain ⟨v, rfl, r⟩ := r1.one
  obtain ⟨a, ws, rfl, hd, hl, rl⟩ := rp_dT.mp r
  refine ⟨a, _, rfl, rd_mono ex1.wf.fh hd, ?_, fun q hq => c q F1 _ (.dT ks xs) (ex1.trans (ex1.wf.own hq)) (ex1.free hq) (ex1.wf.new hq) (ex1.wf.fh.free hq) ⟨ws, upd_same, hl, rl⟩ hp⟩
  have e : (ks.zip ws).map (fun kv => (tupleKind (mixKind X.prog X.w)).hash kv.1) = ks.map fun q => (tupleKind (mixKind X.prog X.w)).hash q := by
    rw [← List.map_fst_zip (l₁ := ks) (l₂ := ws) (by omega)]
    rw [List.map_map]
    simp [List.map_fst_zip, hl]
  rw [e]
  exact hh
end
end VS
set_option Elab.async false
set_option linter.all false
set_option maxRecDepth 100000
/-! the keys (wins, losses) hash apart. -/
namespace VS
open PySem PySem.Spec L2
def hp (a b : Int) : Int := reduceHash (Builtin.Tuple.tupleHashOf [hashInt a, hashInt b])
theorem hp_eq (P : Program) (w : World) (a b : Int) : (tupleKind (mixKind P w)).hash [.inl a, .inl b] = hp a b := rfl
/-- the places of a table -/
def spots : List (Nat × Nat) := (List.range 31).flatMap fun t => (List.range (t + 1)).map fun a => (a, t - a)
theorem hp_nodup : (spots.map fun p => hp (p.1 : Int) (p.2 : Int)).Nodup := by decide +kernel
end VS
set_option Elab.async false
set_option linter.all false
set_option maxRecDepth 100000
set_option maxHeartbeats 2000000
/-! for a, b in d: a dict walked, its keys pairs of ints. -/
namespace VS
open PySem PySem.Spec L2
/-- what stands at d while it is walked, and else -/
def Lk (kvs : List (List Key × V)) (w : HO) : Prop := w = .dT kvs ∨ ∃ od, w = .frz od (.dT kvs)
section
variable {K : PySem.W.Frag} {F : Hp} {d : Addr} {w : HO} {kvs : List (List Key × V)}
theorem lk_ne {a : Addr} {u : HO} (hd : Rd F d (.dT kvs)) (h : F a = some u) (h1 : u ≠ .dT kvs) (h2 : ∀ od, u ≠ .frz od (.dT kvs)) : a ≠ d := fun e => by
  subst e
  rcases hd with hd | ⟨od, hd⟩
  · rw [hd] at h
    exact h1 (Option.some.inj h).symm
  · rw [hd] at h
    exact h2 od (Option.some.inj h).symm
theorem lk_rd {a : Addr} {u : HO} (hd : Rd F d (.dT kvs)) (hw : Lk kvs w) (h : Rd F a u) (h0 : ∀ od x, u ≠ .frz od x) : Rd (upd F d w) a u := by
  by_cases e : a = d
  · subst e
    have eu : u = .dT kvs := by
      rcases hd with hd | ⟨od, hd⟩
      · rcases h with h | ⟨o, h⟩
        · rw [hd] at h; exact (Option.some.inj h).symm
        · rw [hd] at h; cases h
      · rcases h with h | ⟨o, h⟩
        · rw [hd] at h; exact absurd (Option.some.inj h).symm (h0 _ _)
        · rw [hd] at h; cases h; rfl
    subst eu
    rcases hw with hw | ⟨od, hw⟩
    · exact .inl (by rw [upd_same, hw])
    · exact .inr ⟨od, by rw [upd_same, hw]⟩
  · rcases h with h | ⟨o, h⟩
    · exact .inl (by rw [upd_ne e]; exact h)
    · exact .inr ⟨o, by rw [upd_ne e]; exact h⟩
theorem lk_t {a : Addr} {xs : List V} (hd : Rd F d (.dT kvs)) (hw : Lk kvs w) (h : SqT K F a xs) : SqT K (upd F d w) a xs := by
  rcases h with h | h
  · exact .inl (lk_rd hd hw h fun _ _ z => nomatch z)
  · exact .inr h
theorem lk_l {a : Addr} {xs : List V} (hd : Rd F d (.dT kvs)) (hw : Lk kvs w) (h : SqL K F a xs) : SqL K (upd F d w) a xs := by
  rcases h with h | h
  · exact .inl (lk_rd hd hw h fun _ _ z => nomatch z)
  · exact .inr h
theorem lk_at {a : Addr} {u : HO} (hd : Rd F d (.dT kvs)) (h : F a = some u) (h1 : u ≠ .dT kvs) (h2 : ∀ od, u ≠ .frz od (.dT kvs)) : upd F d w a = some u := by
  rw [upd_ne (lk_ne hd h h1 h2)]
  exact h
mutual
theorem rp_lk (hd : Rd F d (.dT kvs)) (hw : Lk kvs w) : ∀ {x : Dt} {v : V}, Rp K F x v → Rp K (upd F d w) x v
  | .non, _, h => by simp only [Rp] at h ⊢; exact h
  | .bl _, _, h => by simp only [Rp] at h ⊢; exact h
  | .int _, _, h => by simp only [Rp] at h ⊢; exact h
  | .str _, _, h => by simp only [Rp] at h ⊢; exact h
  | .ty _, _, h => by simp only [Rp] at h ⊢; exact h
  | .adr _, _, h => by simp only [Rp] at h ⊢; exact h
  | .tup xs, _, h => by
    simp only [Rp] at h ⊢
    obtain ⟨a, vs, h1, h2, h3⟩ := h
    exact ⟨a, vs, h1, lk_t hd hw h2, rpL_lk hd hw h3⟩
  | .lst xs, _, h => by
    simp only [Rp] at h ⊢
    obtain ⟨a, vs, h1, h2, h3⟩ := h
    exact ⟨a, vs, h1, lk_at hd h2 (fun z => nomatch z) (fun _ z => nomatch z), rpL_lk hd hw h3⟩
  | .frl xs, _, h => by
    simp only [Rp] at h ⊢
    obtain ⟨a, vs, h1, h2, h3⟩ := h
    exact ⟨a, vs, h1, lk_l hd hw h2, rpL_lk hd hw h3⟩
  | .dT ks xs, _, h => by
    simp only [Rp] at h ⊢
    obtain ⟨a, vs, h1, h2, h4, h3⟩ := h
    exact ⟨a, vs, h1, lk_rd hd hw h2 (fun _ _ z => nomatch z), h4, rpL_lk hd hw h3⟩
  | .dK ks xs, _, h => by
    simp only [Rp] at h ⊢
    obtain ⟨a, vs, h1, h2, h4, h3⟩ := h
    exact ⟨a, vs, h1, lk_rd hd hw h2 (fun _ _ z => nomatch z), h4, rpL_lk hd hw h3⟩
  | .obj C ns xs, _, h => by
    simp only [Rp] at h ⊢
    obtain ⟨a, dx, vs, h1, h2, h4, h3⟩ := h
    exact ⟨a, dx, vs, h1, lk_at hd h2 (fun z => nomatch z) (fun _ z => nomatch z), h4, rpL_lk hd hw h3⟩
  | .exv a ns xs o, _, h => by
    simp only [Rp] at h ⊢
    refine ⟨h.1, fun dx hdx => ?_⟩
    obtain ⟨vs, h1, h2, h3⟩ := h.2 dx hdx
    exact ⟨vs, lk_at hd h1 (fun z => nomatch z) (fun _ z => nomatch z), h2, rpL_lk hd hw h3⟩
  | .at_ a x, _, h => by
    simp only [Rp] at h ⊢
    exact ⟨h.1, rp_lk hd hw h.2⟩
  | .key ks, _, h => by
    simp only [Rp] at h ⊢
    obtain ⟨a, h1, h2⟩ := h
    exact ⟨a, h1, lk_at hd h2 (fun z => nomatch z) (fun _ z => nomatch z)⟩
theorem rpL_lk (hd : Rd F d (.dT kvs)) (hw : Lk kvs w) : ∀ {xs : List Dt} {vs : List V}, RpL K F xs vs → RpL K (upd F d w) xs vs
  | [], _, h => by simp only [RpL] at h ⊢; exact h
  | x :: xs, _, h => by
    simp only [RpL] at h ⊢
    obtain ⟨v, r, h1, h2, h3⟩ := h
    exact ⟨v, r, h1, rp_lk hd hw h2, rpL_lk hd hw h3⟩
end
theorem owo_lk {H : Hp} {o : Addr} {x : Dt} (hd : Rd F d (.dT kvs)) (hw : Lk kvs w) (ne : o ≠ d) (h : OwO K F H o x) : OwO K (upd F d w) (upd H d w) o x := by
  rcases h.kinds with ⟨xs, rfl⟩ | ⟨ks, xs, rfl⟩ | ⟨ks, xs, rfl⟩ | ⟨C, ns, xs, rfl⟩ | ⟨a, C, ns, xs, rfl⟩
  · obtain ⟨vs, h, r⟩ := h; exact ⟨vs, by rw [upd_ne ne]; exact h, rpL_lk hd hw r⟩
  · obtain ⟨vs, h, l, r⟩ := h; exact ⟨vs, by rw [upd_ne ne]; exact h, l, rpL_lk hd hw r⟩
  · obtain ⟨vs, h, l, r⟩ := h; exact ⟨vs, by rw [upd_ne ne]; exact h, l, rpL_lk hd hw r⟩
  · obtain ⟨dx, vs, h, l, r⟩ := h; exact ⟨dx, vs, by rw [upd_ne ne]; exact h, l, rpL_lk hd hw r⟩
  · obtain ⟨e, dx, vs, h, l, r⟩ := h; exact ⟨e, dx, vs, by rw [upd_ne ne]; exact h, l, rpL_lk hd hw r⟩
theorem same_lk {H : Hp} (s : Same F H) : Same (upd F d w) (upd H d w) := fun a o h => by
  by_cases e : a = d
  · subst e; rw [upd_same] at h ⊢; exact h
  · rw [upd_ne e] at h ⊢; exact s a o h
theorem rd_some {u : HO} (h : Rd F d u) : F d ≠ none := by
  rcases h with h | ⟨o, h⟩ <;> rw [h] <;> exact fun z => nomatch z
theorem Wf.lk {R : Reg} {H : Hp} (wf : Wf R F H) (hd : Rd F d (.dT kvs)) : Wf R (upd F d w) (upd H d w) := by
  have nM : ¬ R.M d := fun m => rd_some hd (wf.off d m)
  have ne : ∀ {a}, R.M a → a ≠ d := fun m e => nM (e ▸ m)
  exact ⟨same_lk wf.fh, fun a m => by rw [upd_ne (ne m)]; exact wf.off a m, fun a m => by rw [upd_ne (ne m)]; exact wf.oc a m, R.st H _ (fun a o m h => by rw [upd_ne (ne m)]; exact h) wf.b⟩
theorem Ty.lk {R : Reg} {G : List Sl} {σ : St} {H : Hp} (ty : Ty K R G σ F H) (hd : Rd F d (.dT kvs)) (hw : Lk kvs w) : Ty K R G σ (upd F d w) (upd H d w) := by
  refine ⟨ty.wf.lk hd, sls_of ty.sl.len fun j g hj => ?_, ty.nd⟩
  obtain ⟨v, e, s⟩ := ty.sl.get hj
  refine ⟨v, e, ?_⟩
  cases g with
  | no => trivial
  | sh x => obtain ⟨y, e1, r⟩ := s; exact ⟨y, e1, rp_lk hd hw r⟩
  | ow x =>
    obtain ⟨o, e1, f1, nM, ow⟩ := s
    have ne : o ≠ d := fun z => rd_some hd (by rw [← z]; exact f1)
    exact ⟨o, e1, by rw [upd_ne ne]; exact f1, nM, owo_lk hd hw ne ow⟩
end
section
variable {X : Cx} {R : Reg} {G : List Sl} {pos : Pos} {k : Kt}
/-- what the turns of the walk want -/
def Kw (X : Cx) (R : Reg) (G : List Sl) (k : Kt) (tg : Expr) (body : List Stmt) (ks : List (List Key)) : Prop := ∃ J : Nat → List Sl → Prop, J 0 G ∧
  (∀ i q G, ks[i]? = some q → J i G → ∃ (js : List (Nat × Int)), A X tg (.tup (q.map keyD)) (js.map fun p => (p.1, Dt.int p.2)) ∧ S X R body (setsD G (js.map fun p => (p.1, Dt.int p.2))) { k with nx := J (i + 1), ct := J (i + 1), bk := k.nx }) ∧ ∀ G, J ks.length G → k.nx G
theorem forK_core {tg : Expr} {x : Str} {body : List Stmt} {ks : List (List Key)} {vs : List V} {d : Addr} {od : Obj} {i0 : Nat} {F0 H0 F H : Hp} {σ : St} {D : Ends} (hN : X.N[i0]? = some x) (hv : Vis X.env.scope x) (h : Kw X R G k tg body ks) (hl : ks.length = vs.length) (hsl : σ[i0]? = some (some (.ref d)))
    (hF : F d = some (.frz od (.dT (ks.zip vs)))) (ty : Ty X.K R G σ F H) (b : Bs R F0 H0 G σ F H) (c : KOk X.K R F0 H0 k D) : tFor (iKeys fun τ H Q => ∃ v, τ[i0]? = some (some v) ∧ Q v H) (tgOf X tg) (sOf X body) D σ H := by
  obtain ⟨J, j0, jt, jd⟩ := h
  have hz : (ks.zip vs).length = ks.length := by rw [List.length_zip]; omega
  refine ⟨.ref d, hsl, d, od, rfl, .inr ⟨_, ty.wf.fh _ _ hF, ?_⟩⟩
  refine ⟨fun i m σ H => m = ks.length - i ∧ i ≤ ks.length ∧ ∃ G F, J i G ∧ Ty X.K R G σ F H ∧ Bs R F0 H0 G σ F H ∧ F d = some (.frz od (.dT (ks.zip vs))), ⟨_, rfl, Nat.zero_le _, G, F, j0, ty, b, hF⟩, ?_⟩
  rintro i m σ2 H2 ⟨rfl, hi, G2, F2, jg, ty2, b2, hF2⟩
  have hd2 := ty2.wf.fh _ _ hF2
  by_cases hlt : i < ks.length
  · refine .inr ⟨⟨hd2, by rw [hz]; exact hlt⟩, _, fun σ' H' z => z, fun y H' yy => ?_⟩
    obtain ⟨rfl, q, v, a, e1, e2, e3⟩ := yy
    subst e2
    have eq : ks[i]? = some q := by
      rw [List.getElem?_zip_eq_some] at e1
      exact e1.1
    obtain ⟨js, ha, hS⟩ := jt i q G2 eq jg
    have sm : Same (upd F2 a (.tup (q.map kV))) H' := fun z o hz' => by
      by_cases e : z = a
      · subst e; rw [upd_same] at hz'; rw [e3]; exact hz'
      · rw [upd_ne e] at hz'; exact ty2.wf.fh z o hz'
    refine ha σ2 (upd F2 a (.tup (q.map kV))) H' (.ref a) _ sm (rp_tup.mpr ⟨a, _, rfl, .inl (.inl upd_same), rpL_keys q⟩) fun ws hw rw' => ?_
    have rv : RpL X.K F2 ((js.map fun p => (p.1, Dt.int p.2)).map (·.2)) ws := by
      have e : (js.map fun p => (p.1, Dt.int p.2)).map (·.2) = (js.map (·.2)).map Dt.int := by rw [List.map_map, List.map_map]; rfl
      rw [e] at rw' ⊢
      rw [rw'.ints]
      exact RpL.of_ints
    have b4 : Bs R F0 H0 (setsD G2 (js.map fun p => (p.1, Dt.int p.2))) (setsV σ2 (((js.map fun p => (p.1, Dt.int p.2)).map (·.1)).zip ws)) F2 H' := ⟨b2.ext, fun o ho => b2.fresh o (owns_sets hw ho), b2.z⟩
    have c2 := c.here b2.ext b2.z
    have nxt : ∀ G' σ' F' H'', J (i + 1) G' → Ty X.K R G' σ' F' H'' → Bs R F2 H0 G' σ' F' H'' → ∃ m', m' < ks.length - i ∧ m' = ks.length - (i + 1) ∧ i + 1 ≤ ks.length ∧ ∃ G F, J (i + 1) G ∧ Ty X.K R G σ' F H'' ∧ Bs R F0 H0 G σ' F H'' ∧ F d = some (.frz od (.dT (ks.zip vs))) :=
      fun G' σ' F' H'' z tz bz => ⟨_, by omega, rfl, hlt, G', F', z, tz, Bs.back b2.ext bz b2.z, bz.ext.ff _ _ hF2⟩
    exact hS F2 H0 _ F2 H' _ (ty2.sets rv) b4.here ⟨nxt, c2.rt, c2.rn, c2.nx, nxt⟩
  · have e : i = ks.length := by omega
    subst e
    exact .inl ⟨⟨hd2, by rw [hz]; exact Nat.le_refl _⟩, c.nx G2 σ2 F2 H2 (jd G2 jg) ty2 b2⟩
/-- for .. in x, x a variable that holds a dict -/
theorem s_forK (i0 : Nat) {tg : Expr} {x : Str} {p : Pos} {body : List Stmt} {ks : List (List Key)} {xs : List Dt} (hZ : ∀ F H, R.Z F H) (hp : PassesOwn (model X.prog X.w) X.A X.env X.xe) (hc : X.calm = true) (hg : G[i0]? = some (.sh (.dT ks xs))) (h : Kw X R G k tg body ks)
    (hN : X.N[i0]? = some x := by rfl) (hv : Vis X.env.scope x := by first | exact Or.inl rfl | exact Or.inr (Or.inl rfl) | exact Or.inr (Or.inr rfl)) (hdb : (x == ("__debug__" : Str)) = false := by decide) (hcd : (x == ("__classdict__" : Str)) = false := by decide)
    (hs : ∀ z, foldedSetIterable (.Name x p) X.env z = pure z := by intro _; rfl) : S1 X R (.For tg (.Name x p) body [] pos) G k := fun F0 H0 σ F H D ty b c => by
  obtain ⟨v0, e1, y, e2, r⟩ := ty.sl.get hg
  obtain ⟨d, vs, rfl, hd, hl, rl⟩ := rp_dT.mp r
  subst e2
  have pv : PE X (.Name x p) (fun τ H Q => ∃ v, τ[i0]? = some (some v) ∧ Q v H) := ⟨fun pins s τ H Q I hq => (pe_var hN hv hdb hcd).run pins s τ H Q I hq⟩
  rcases hd with hd | ⟨od, hd⟩
  · refine s1Of.of (ps_lock (ps_for hp hc (pi_keys pv) pg_w pss_w hs)) ⟨d, .dT (ks.zip vs), ty.wf.fh _ _ hd, trivial, fun od => ?_⟩
    generalize hu : ks.zip vs = kvs at *
    have nM : ¬ R.M d := fun m => by rw [ty.wf.off d m] at hd; cases hd
    have w1 : Lk kvs (.frz od (.dT kvs)) := .inr ⟨od, rfl⟩
    have ty1 := ty.lk (.inl hd) w1
    have bs1 : Bs R (upd F d (.frz od (.dT kvs))) (upd H0 d (.frz od (.dT kvs))) G σ (upd F d (.frz od (.dT kvs))) (upd H d (.frz od (.dT kvs))) := by
      refine ⟨⟨ty1.wf, .refl _, fun a o nm ha => ?_, fun _ _ n => n⟩, fun o ho => ?_, hZ _ _⟩
      · by_cases e : a = d
        · subst e; rw [upd_same] at ha ⊢; exact ha
        · rw [upd_ne e] at ha ⊢; exact b.ext.hh a o nm ha
      · obtain ⟨j, z, q1, q2⟩ := owns_mem ho
        obtain ⟨o', q3, f1, _⟩ := ty.own q1
        rw [q2] at q3
        cases q3
        rw [upd_ne (fun e => by rw [e, hd] at f1; cases f1)]
        exact b.fresh o ho
    have back : ∀ {F' H' : Hp}, Ext R (upd F d (.frz od (.dT kvs))) (upd H0 d (.frz od (.dT kvs))) F' H' → F' d = some (.frz od (.dT kvs)) ∧ H' d = some (.frz od (.dT kvs)) ∧ Ext R F0 H0 (upd F' d (.dT kvs)) (upd H' d (.dT kvs)) := fun {F' H'} ex => by
      have f1 : F' d = some (.frz od (.dT kvs)) := ex.ff _ _ upd_same
      refine ⟨f1, ex.wf.fh _ _ f1, ex.wf.lk (kvs := kvs) (.inr ⟨od, f1⟩), fun a o ha => ?_, fun a o nm ha => ?_, fun a ha n => ?_⟩
      · have hf := b.ext.ff a o ha
        by_cases e : a = d
        · subst e; rw [hd] at hf; rw [upd_same]; exact hf
        · rw [upd_ne e]; exact ex.ff a o (by rw [upd_ne e]; exact hf)
      · by_cases e : a = d
        · subst e
          have := b.ext.hh a o nm ha
          rw [ty.wf.fh _ _ hd] at this
          rw [upd_same]
          exact this
        · rw [upd_ne e]; exact ex.hh a o nm (by rw [upd_ne e]; exact ha)
      · have hf := b.ext.fr a ha n
        by_cases e : a = d
        · subst e; rw [hd] at hf; cases hf
        · rw [upd_ne e]; exact ex.fr a (by rw [upd_ne e]; exact ha) (by rw [upd_ne e]; exact hf)
    have w2 : Lk kvs (.dT kvs) := .inl rfl
    have fr0 : ∀ {o : Addr}, (upd H0 d (.frz od (.dT kvs))) o = none → o ≠ d ∧ H0 o = none := fun {o} ho => by
      have ne : o ≠ d := fun e => by rw [e, upd_same] at ho; cases ho
      rw [upd_ne ne] at ho
      exact ⟨ne, ho⟩
    have bb : ∀ {G' : List Sl} {σ' : St} {F' H' : Hp}, Bs R (upd F d (.frz od (.dT kvs))) (upd H0 d (.frz od (.dT kvs))) G' σ' F' H' → Bs R F0 H0 G' σ' (upd F' d (.dT kvs)) (upd H' d (.dT kvs)) := fun bs => ⟨(back bs.ext).2.2, fun o ho => (fr0 (bs.fresh o ho)).2, b.z⟩
    refine forK_core hN hv h hl e1 (by rw [upd_same, hu]) ty1 bs1 ⟨fun G' σ' F' H' hk ty' b' => ?_, fun dd v F' H' hk ex rr => ?_, fun dd q F' H' hk ex h0 fq ow => ?_, fun G' σ' F' H' hk ty' b' => ?_, fun G' σ' F' H' hk ty' b' => ?_⟩
    · obtain ⟨f1, f2, f3⟩ := back b'.ext
      exact ⟨f2, c.nx G' σ' _ _ hk (ty'.lk (.inr ⟨od, f1⟩) w2) (bb b')⟩
    · obtain ⟨f1, f2, f3⟩ := back ex
      exact ⟨f2, c.rt dd v _ _ hk f3 (rp_lk (.inr ⟨od, f1⟩) w2 rr)⟩
    · obtain ⟨f1, f2, f3⟩ := back ex
      obtain ⟨ne, h0'⟩ := fr0 h0
      exact ⟨f2, c.rn dd q _ _ hk f3 h0' (by rw [upd_ne ne]; exact fq) (owo_lk (.inr ⟨od, f1⟩) w2 ne ow)⟩
    · obtain ⟨f1, f2, f3⟩ := back b'.ext
      exact ⟨f2, c.bk G' σ' _ _ hk (ty'.lk (.inr ⟨od, f1⟩) w2) (bb b')⟩
    · obtain ⟨f1, f2, f3⟩ := back b'.ext
      exact ⟨f2, c.ct G' σ' _ _ hk (ty'.lk (.inr ⟨od, f1⟩) w2) (bb b')⟩
  · exact s1Of.of (ps_for hp hc (pi_keys pv) pg_w pss_w hs) (forK_core hN hv h hl e1 hd ty b c)
end
end VS
set_option Elab.async false
set_option linter.all false
set_option maxRecDepth 100000
/-! dicts whose keys are pairs of ints as association lists; x in a list of data; methods that give back new things. -/
namespace VS
open PySem PySem.Spec L2
abbrev Al (α : Type) := List ((Int × Int) × α)
def kk (p : Int × Int) : List Key := [.inl p.1, .inl p.2]
theorem kk_inj {p q : Int × Int} : kk p = kk q ↔ p = q := by
  constructor
  · intro h
    unfold kk at h
    injection h with h1 h2
    injection h2 with h2 h3
    injection h1 with h1
    injection h2 with h2
    exact Prod.ext h1 h2
  · rintro rfl; rfl
def keysA {α : Type} (m : Al α) : List (List Key) := m.map fun e => kk e.1
def dA {α : Type} (f : α → Dt) (m : Al α) : Dt := .dT (keysA m) (m.map fun e => f e.2)
def lk {α : Type} : Al α → Int × Int → Option α
  | [], _ => none
  | e :: m, p => if e.1 = p then some e.2 else lk m p
def has {α : Type} (m : Al α) (p : Int × Int) : Bool := (lk m p).isSome
def put {α : Type} (m : Al α) (p : Int × Int) (a : α) : Al α := if has m p = true then m.map fun e => if e.1 = p then (e.1, a) else e else m ++ [(p, a)]
theorem look_dA {α : Type} (f : α → Dt) (p : Int × Int) : ∀ m : Al α, lookT (keysA m) (m.map fun e => f e.2) (kk p) = (lk m p).map f
  | [] => rfl
  | e :: m => by
    show lookT (kk e.1 :: keysA m) (f e.2 :: m.map fun e => f e.2) (kk p) = _
    unfold lookT lk
    by_cases h : e.1 = p
    · rw [if_pos (kk_inj.mpr h), if_pos h]; rfl
    · rw [if_neg (fun z => h (kk_inj.mp z)), if_neg h]; exact look_dA f p m
theorem hasT_A {α : Type} (p : Int × Int) : ∀ m : Al α, hasT (keysA m) (kk p) = has m p
  | [] => rfl
  | e :: m => by
    have ih := hasT_A p m
    unfold hasT at ih ⊢
    unfold has lk
    show (List.any (kk e.1 :: keysA m) _) = _
    rw [List.any_cons, ih]
    by_cases h : e.1 = p
    · rw [if_pos h, decide_eq_true (kk_inj.mpr h)]; rfl
    · rw [if_neg h, decide_eq_false (fun z => h (kk_inj.mp z))]; rfl
theorem repV_A {α : Type} (f : α → Dt) (p : Int × Int) (a : α) : ∀ m : Al α, repV (kk p) (f a) (keysA m) (m.map fun e => f e.2) = (m.map fun e => if e.1 = p then (e.1, a) else e).map fun e => f e.2
  | [] => rfl
  | e :: m => by
    show repV (kk p) (f a) (kk e.1 :: keysA m) (f e.2 :: m.map fun e => f e.2) = _
    unfold repV
    rw [repV_A f p a m]
    simp only [List.map_cons]
    by_cases h : e.1 = p
    · rw [if_pos (kk_inj.mpr h), if_pos h]
    · rw [if_neg (fun z => h (kk_inj.mp z)), if_neg h]
theorem put_dA {α : Type} (f : α → Dt) (m : Al α) (p : Int × Int) (a : α) : Dt.dT (putT (keysA m) (kk p)) (putX (keysA m) (m.map fun e => f e.2) (kk p) (f a)) = dA f (put m p a) := by
  unfold dA putT putX put
  rw [hasT_A]
  cases h : has m p
  · rw [if_neg (by decide), if_neg (by decide), if_neg (by decide)]
    unfold keysA
    rw [List.map_append, List.map_append]; rfl
  · rw [if_pos rfl, if_pos rfl, if_pos rfl, repV_A]
    congr 1
    unfold keysA
    rw [List.map_map]
    refine List.map_congr_left fun e _ => ?_
    show kk e.1 = kk (if e.1 = p then (e.1, a) else e).1
    split <;> rfl
theorem put_len {α : Type} (m : Al α) (p : Int × Int) (a : α) : (put m p a).length ≤ m.length + 1 := by
  unfold put
  split
  · simp
  · simp
theorem keysA_len {α : Type} (m : Al α) : (keysA m).length = m.length := by unfold keysA; simp
theorem lk_map {α : Type} (p q : Int × Int) (a : α) : ∀ m : Al α, lk (m.map fun e => if e.1 = p then (e.1, a) else e) q = if p = q then (lk m q).map fun _ => a else lk m q
  | [] => by unfold lk; simp
  | e :: m => by
    have ih := lk_map p q a m
    simp only [List.map_cons]
    unfold lk
    by_cases h : e.1 = p
    · rw [if_pos h]
      by_cases h2 : e.1 = q
      · rw [if_pos h2, if_pos (h.symm.trans h2), if_pos h2]; rfl
      · rw [if_neg h2, ih, if_neg (fun z => h2 (h.trans z)), if_neg (fun z => h2 (h.trans z)), if_neg h2]
    · rw [if_neg h, ih]
      by_cases h2 : e.1 = q
      · rw [if_pos h2, if_neg (fun z => h (h2.trans z.symm)), if_pos h2]
      · rw [if_neg h2, if_neg h2]
theorem lk_app {α : Type} (p q : Int × Int) (a : α) : ∀ m : Al α, lk (m ++ [(p, a)]) q = match lk m q with | some x => some x | none => if p = q then some a else none
  | [] => by rw [List.nil_append]; unfold lk; unfold lk; rfl
  | e :: m => by
    have ih := lk_app p q a m
    rw [List.cons_append]
    unfold lk
    by_cases h : e.1 = q
    · rw [if_pos h, if_pos h]
    · rw [if_neg h, if_neg h]; exact ih
theorem lk_put {α : Type} (m : Al α) (p q : Int × Int) (a : α) : lk (put m p a) q = if p = q then some a else lk m q := by
  unfold put
  cases h : has m p
  · rw [if_neg (by decide), lk_app]
    by_cases e : p = q
    · subst e
      rw [if_pos rfl, if_pos rfl]
      unfold has at h
      cases z : lk m p
      · rfl
      · rw [z] at h; cases h
    · rw [if_neg e, if_neg e]
      cases lk m q <;> rfl
  · rw [if_pos rfl, lk_map]
    by_cases e : p = q
    · subst e
      rw [if_pos rfl, if_pos rfl]
      unfold has at h
      cases z : lk m p
      · rw [z] at h; cases h
      · rfl
    · rw [if_neg e, if_neg e]
theorem lk_mem {α : Type} {p : Int × Int} {a : α} : ∀ {m : Al α}, lk m p = some a → (p, a) ∈ m
  | [], h => by cases h
  | e :: m, h => by
    unfold lk at h
    split at h
    · rename_i z; cases h; subst z; exact List.mem_cons_self
    · exact List.mem_cons_of_mem _ (lk_mem h)
theorem has_of_mem {α : Type} {p : Int × Int} {a : α} : ∀ {m : Al α}, (p, a) ∈ m → has m p = true
  | e :: m, h => by
    unfold has lk
    by_cases z : e.1 = p
    · rw [if_pos z]; rfl
    · rw [if_neg z]
      cases h with
      | head => exact absurd rfl z
      | tail _ h => exact has_of_mem h
theorem fre_ints {α : Type} (κ : Nat) (f : α → Int) (l : List α) : freL κ (l.map fun e => Dt.int (f e)) = true := by
  induction l with
  | nil => rfl
  | cons x l ih => show (fre κ (.int (f x)) && freL κ _) = true; rw [ih]; rfl
theorem fre_strs {α : Type} (κ : Nat) (f : α → Str) (l : List α) : freL κ (l.map fun e => Dt.str (f e)) = true := by
  induction l with
  | nil => rfl
  | cons x l ih => show (fre κ (.str (f x)) && freL κ _) = true; rw [ih]; rfl
theorem nd_map {α β : Type} {f g : α → β} {s ks : List α} (e : ∀ p, f p = g p) (h : (s.map g).Nodup) (hk : ks.Sublist s) : (ks.map f).Nodup := by
  rw [show f = g from funext e]
  exact (hk.map _).nodup h
/-- keys among the counts of at most 30 tries hash apart -/
theorem hash_kk (P : Program) (w : World) (a b : Int) : (tupleKind (mixKind P w)).hash (kk (a, b)) = hp a b := hp_eq P w a b
theorem hash_nd (P : Program) (w : World) {ks : List (Nat × Nat)} (h : ks.Sublist spots) : (ks.map fun p => (tupleKind (mixKind P w)).hash (kk ((p.1 : Int), (p.2 : Int)))).Nodup := nd_map (fun p => hash_kk P w _ _) hp_nodup h
section
variable {X : Cx} {R : Reg} {G : List Sl} {pos : Pos} {k : Kt}
theorem toPs_any (d : Dt) : ∀ ds : List Dt, ((toPs ds).any fun z => PyData.eqv z (toP d)) = ds.any fun z => eqD z d
  | [] => rfl
  | x :: xs => by simp only [toPs, List.any_cons, toPs_any d xs]; rfl
/-- d in a list of data -/
theorem w_inD {d : Dt} {ds : List Dt} {P : Dt → Prop} (hu : X.A.units + 65 < cLine) (hd : okD d = true) (hs : okD (.lst ds) = true) (p : P (.bl (ds.any fun z => eqD z d))) : W2 X R (compareOp .In) d (.lst ds) P := fun F H x y Q w rx ry c => by
  obtain ⟨a1, a2⟩ := ok_shaped w.fh hd rx
  obtain ⟨b1, b2⟩ := ok_shaped w.fh hs ry
  simp only [toP] at b1 b2
  refine opOf.of (op_inD hu) ⟨_, _, a1, b1, a2, b2, ?_⟩
  rw [toPs_any]
  exact c.here w (rp_bl.mpr rfl) p
theorem w_notInD {d : Dt} {ds : List Dt} {P : Dt → Prop} (hu : X.A.units + 65 < cLine) (hd : okD d = true) (hs : okD (.lst ds) = true) (p : P (.bl (!ds.any fun z => eqD z d))) : W2 X R (compareOp .NotIn) d (.lst ds) P := fun F H x y Q w rx ry c => by
  obtain ⟨a1, a2⟩ := ok_shaped w.fh hd rx
  obtain ⟨b1, b2⟩ := ok_shaped w.fh hs ry
  simp only [toP] at b1 b2
  refine opOf.of (op_notInD hu) ⟨_, _, a1, b1, a2, b2, ?_⟩
  rw [toPs_any]
  exact c.here w (rp_bl.mpr rfl) p
theorem spN_put {K : PySem.W.Frag} {φ : Ph} {n : Nat} {F H : Hp} {ds : List Dt} {vs : List V} {P : Dt → Prop} {Q : VK} {E : XK} (wf : Wf R F H) (r : RpL K F ds vs) (hl : ds.length = n) (hφ : φ ds P fun _ _ _ => False) (c : CtW K R F H P Q) : spN K n φ vs H Q E :=
  ⟨by rw [← r.length, hl], F, ds, P, fun _ _ _ => False, wf.fh, r, hφ, fun p F2 H2 d ex2 hp fp ho q => c p F2 H2 d (Ext.of_nil wf ex2) hp (wf.new hp) fp ho q, ⟨fun _ _ _ _ _ _ _ z => z.elim, fun _ _ _ z => z.elim⟩⟩
theorem CtW.step {K : PySem.W.Frag} {F H F1 H1 : Hp} {P : Dt → Prop} {Q : VK} (c : CtW K R F H P Q) (ex : Ext R F H F1 H1) : CtW K R F1 H1 P Q := fun p F2 H2 d ex2 hp nM fp ho q => c p F2 H2 d (ex.trans ex2) (ex.free hp) nM fp ho q
/-- o.m(e, ..), a new thing -/
theorem ew_meth {C : Addr} {m : Str} {ps : List Str} {φ : Ph} {n j : Nat} {o e : Expr} {es : List Expr} {apos : Pos} {pl : Sem Bool} {P : Dt → Prop} (cl : Cls X.K C) (F : FnM X.prog X.w X.K X.mg X.base j C m ps [] (spN X.K n φ)) (hr : Room j X.A)
    (h : E X R G o fun d => ∃ ns xs, d = .obj C ns xs ∧ (ns.any fun z => z == m) = false ∧ EA X R G (e :: es) fun ds => (d :: ds).length = n ∧ φ (d :: ds) P fun _ _ _ => False)
    (hst : starEach (e :: es) X.env = (false, eval e X.env) :: starEach es X.env := by rfl) (hpl : (backTo pos (starEach es X.env)).any (·.1) = false := by rfl)
    (ht : eval (.Call (.Attribute o m apos) (e :: es) [] pos) X.env = (do
      let ov ← eval o X.env
      standAt apos.atName
      let (f, first) ← holding [ov] (getMethod ov m pl)
      callWith pos f first (backTo pos (starEach (e :: es) X.env)) (backToKw pos (keywordEach [] X.env))) := by rfl) : EW X R G (.Call (.Attribute o m apos) (e :: es) [] pos) P := fun σ F' H Q ty c => by
  obtain ⟨f, fd, ds, a1, a3, a4, a5⟩ := F.ex
  refine tOf.of (pe_meth (pl := pl) pe_w cl a1 a5 hr a3 a4 passL pa_w hst hpl ht) (h σ F' H _ ty fun v F1 H1 d ex r ⟨ns, xs, ed, hno, h2⟩ => ?_)
  have r0 := r
  subst ed
  obtain ⟨a, dx, vs, rfl, h1, hl, rl⟩ := rp_obj.mp r
  refine ⟨a, dx, _, rfl, ex.wf.fh _ _ h1, fld_none hno, h2 σ F1 H1 _ (ty.ext ex) fun ws F2 H2 ds' ex2 r2 ⟨hl2, hφ⟩ => ?_⟩
  rw [List.append_nil]
  exact spN_put ex2.wf (.cons (r0.mono ex2.ff) r2) hl2 hφ ((c.step ex).step ex2)
theorem ew_meth0 {C : Addr} {m : Str} {ps : List Str} {φ : Ph} {n j : Nat} {o : Expr} {apos : Pos} {pl : Sem Bool} {P : Dt → Prop} (cl : Cls X.K C) (F : FnM X.prog X.w X.K X.mg X.base j C m ps [] (spN X.K n φ)) (hr : Room j X.A)
    (h : E X R G o fun d => ∃ ns xs, d = .obj C ns xs ∧ (ns.any fun z => z == m) = false ∧ 1 = n ∧ φ [d] P fun _ _ _ => False)
    (ht : eval (.Call (.Attribute o m apos) [] [] pos) X.env = (do
      let ov ← eval o X.env
      standAt apos.atName
      let (f, first) ← holding [ov] (getMethod ov m pl)
      callWith pos f first (backTo pos (starEach [] X.env)) (backToKw pos (keywordEach [] X.env))) := by rfl) : EW X R G (.Call (.Attribute o m apos) [] [] pos) P := fun σ F' H Q ty c => by
  obtain ⟨f, fd, ds, a1, a3, a4, a5⟩ := F.ex
  refine tOf.of (pe_meth0 (pl := pl) pe_w cl a1 a5 hr a3 a4 passL ht) (h σ F' H _ ty fun v F1 H1 d ex r ⟨ns, xs, ed, hno, hl2, hφ⟩ => ?_)
  have r0 := r
  subst ed
  obtain ⟨a, dx, vs, rfl, h1, hl, rl⟩ := rp_obj.mp r
  exact ⟨a, dx, _, rfl, ex.wf.fh _ _ h1, fld_none hno, spN_put ex.wf (.cons r0 .nil) hl2 hφ (c.step ex)⟩
theorem _root_.L2.Room.u0 {k : Nat} {A : Around} (r : Room k A) : A.units < cLine := by have := r.un; omega
theorem _root_.L2.Room.u1 {k : Nat} {A : Around} (r : Room k A) : A.units + 1 < cLine := by have := r.un; omega
theorem _root_.L2.Room.u2 {k : Nat} {A : Around} (r : Room k A) : A.units + 2 < cLine := by have := r.un; omega
theorem _root_.L2.Room.u65 {k : Nat} {A : Around} (r : Room k A) : A.units + 65 < cLine := by have := r.un; omega
/-- a key read as a pair -/
theorem e_asK {e : Expr} {P : Dt → Prop} (h : E X R G e fun d => ∃ p, d = .key (kk p) ∧ P (.tup [.int p.1, .int p.2])) : E X R G e P :=
  e_asT fun σ F H Q ty c => h σ F H Q ty fun v F' H' d ex r ⟨p, e, q⟩ => c v F' H' d ex r ⟨kk p, e, q⟩
/-- a class called with plain arguments -/
theorem e_callC {x : Str} {φ : Ph} {n j : Nat} {e : Expr} {es : List Expr} {p : Pos} {P : Dt → Prop} (F : FnC X.prog X.w X.K X.mg X.base j x n φ) (hr : Room j X.A) (hg : Gl X x) (h : EA X R G (e :: es) fun ds => ds.length = n ∧ φ ds P fun _ _ _ => False)
    (hdb : (x == ("__debug__" : Str)) = false := by decide) (he : starEach (e :: es) X.env = (false, eval e X.env) :: starEach es X.env := by rfl) (hpl : (backTo pos (starEach es X.env)).any (·.1) = false := by rfl) : E X R G (.Call (.Name x p) (e :: es) [] pos) P := fun σ F' H Q ty c => by
  obtain ⟨f, a1, a2, a3⟩ := F.ex
  exact tOf.of (pe_callR a3 hr hg a1 a2 passL pa_w hdb he hpl) (h σ F' H _ ty fun vs F1 H1 ds ex r ⟨hl, hφ⟩ => spD_of ex.wf r hl hφ (c.step ex))
/-- dicts of counts: in, [], get, [] = -/
theorem e_kk {a b : Expr} {x1} {P : Dt → Prop} (h : EA X R G [a, b] fun ds => ∃ p : Int × Int, ds = [.int p.1, .int p.2] ∧ P (.key (kk p))) : E X R G (.Tuple [a, b] x1 pos) P :=
  e_key fun σ F H Q ty c => h σ F H Q ty fun vs F' H' ds ex r ⟨p, e, q⟩ => c vs F' H' ds ex r ⟨kk p, e, by rw [e]; exact Nat.le_of_ble_eq_true rfl, q⟩
theorem e_dinA {i o : Expr} {P : Dt → Prop} (hu : X.A.units + 1 < cLine) (h : E X R G i fun d' => ∃ p, d' = .key (kk p) ∧ E X R G o fun d => ∃ (α : Type) (f : α → Dt) (m : Al α), d = dA f m ∧ P (.bl (has m p))) (hb : behindInMarks .In o = false := by first | exact nobehind _ (by decide) (by decide) | rfl) : E X R G (.Compare i [.In] [o] pos) P :=
  e_din hu (fun σ F H Q ty c => h σ F H Q ty fun v F' H' d ex r ⟨p, e, h2⟩ => c v F' H' d ex r ⟨kk p, e, fun σ F H Q ty c => h2 σ F H Q ty fun v F' H' d ex r ⟨α, f, m, e2, q⟩ => c v F' H' d ex r ⟨_, _, e2, by rw [look_dA, Option.isSome_map]; exact q⟩⟩) hb
theorem t_dinA {i o : Expr} {P : Bool → Prop} (hu : X.A.units + 1 < cLine) (h : E X R G i fun d' => ∃ p, d' = .key (kk p) ∧ E X R G o fun d => ∃ (α : Type) (f : α → Dt) (m : Al α), d = dA f m ∧ P (has m p)) (hb : behindInMarks .In o = false := by first | exact nobehind _ (by decide) (by decide) | rfl) : T X R G (.Compare i [.In] [o] pos) P :=
  t_din hu (fun σ F H Q ty c => h σ F H Q ty fun v F' H' d ex r ⟨p, e, h2⟩ => c v F' H' d ex r ⟨kk p, e, fun σ F H Q ty c => h2 σ F H Q ty fun v F' H' d ex r ⟨α, f, m, e2, q⟩ => c v F' H' d ex r ⟨_, _, e2, by rw [look_dA, Option.isSome_map]; exact q⟩⟩) hb
theorem e_dnotinA {i o : Expr} {P : Dt → Prop} (hu : X.A.units + 1 < cLine) (h : E X R G i fun d' => ∃ p, d' = .key (kk p) ∧ E X R G o fun d => ∃ (α : Type) (f : α → Dt) (m : Al α), d = dA f m ∧ P (.bl (!has m p))) (hb : behindInMarks .NotIn o = false := by first | exact nobehind _ (by decide) (by decide) | rfl) : E X R G (.Compare i [.NotIn] [o] pos) P :=
  e_dnotin hu (fun σ F H Q ty c => h σ F H Q ty fun v F' H' d ex r ⟨p, e, h2⟩ => c v F' H' d ex r ⟨kk p, e, fun σ F H Q ty c => h2 σ F H Q ty fun v F' H' d ex r ⟨α, f, m, e2, q⟩ => c v F' H' d ex r ⟨_, _, e2, by rw [look_dA, Option.isSome_map]; exact q⟩⟩) hb
theorem e_dgetA {i o : Expr} {P : Dt → Prop} (hu : X.A.units + 1 < cLine) (h : E X R G o fun d => ∃ (α : Type) (f : α → Dt) (m : Al α), d = dA f m ∧ E X R G i fun d' => ∃ p a, d' = .key (kk p) ∧ lk m p = some a ∧ P (f a)) (hs : NoSl i := by intro _ _; rfl) : E X R G (.Subscript o i pos) P :=
  e_dget hu (fun σ F H Q ty c => h σ F H Q ty fun v F' H' d ex r ⟨α, f, m, e2, h2⟩ => c v F' H' d ex r ⟨_, _, e2, fun σ F H Q ty c => h2 σ F H Q ty fun v F' H' d ex r ⟨p, a, e, el, q⟩ => c v F' H' d ex r ⟨kk p, f a, e, by rw [look_dA, el]; rfl, q⟩⟩) hs
theorem e_dget1A {o e : Expr} {apos : Pos} {P : Dt → Prop} (hu : X.A.units + 1 < cLine) (h : E X R G o fun d => ∃ (α : Type) (f : α → Dt) (m : Al α), d = dA f m ∧ E X R G e fun d' => ∃ p, d' = .key (kk p) ∧ P (((lk m p).map f).getD .non))
    (m : M1 X o "get" apos e pos := by exact ⟨rfl, rfl, rfl, rfl⟩) : E X R G (.Call (.Attribute o "get" apos) [e] [] pos) P :=
  e_dget1 hu (fun σ F H Q ty c => h σ F H Q ty fun v F' H' d ex r ⟨α, f, m, e2, h2⟩ => c v F' H' d ex r ⟨_, _, e2, fun σ F H Q ty c => h2 σ F H Q ty fun v F' H' d ex r ⟨p, e, q⟩ => c v F' H' d ex r ⟨kk p, e, by rw [look_dA]; exact q⟩⟩) m
theorem e_dget2A {o e g : Expr} {apos : Pos} {P : Dt → Prop} (hu : X.A.units + 1 < cLine) (h : E X R G o fun d => ∃ (m : Al Int), d = dA .int m ∧ E X R G e fun d' => ∃ p, d' = .key (kk p) ∧ E X R G g fun d3 => ∃ z, d3 = .int z ∧ P (.int ((lk m p).getD z)))
    (m : M2 X o "get" apos e g pos := by exact ⟨rfl, rfl, rfl, rfl⟩) : E X R G (.Call (.Attribute o "get" apos) [e, g] [] pos) P :=
  e_dget2 hu (fun σ F H Q ty c => h σ F H Q ty fun v F' H' d ex r ⟨m, e2, h2⟩ => c v F' H' d ex r ⟨_, _, e2, fun σ F H Q ty c => h2 σ F H Q ty fun v F' H' d ex r ⟨p, e, h3⟩ => c v F' H' d ex r ⟨kk p, e, fun σ F H Q ty c => h3 σ F H Q ty fun v F' H' d ex r ⟨z, e3, q⟩ => c v F' H' d ex r (by
    rw [look_dA, e3]
    cases hl : lk m p <;> rw [hl] at q <;> exact q)⟩⟩) m
theorem s_dputA (i : Nat) {x : Str} {e qe : Expr} {p pos' : Pos} {α : Type} {f : α → Dt} {m : Al α} (hu : X.A.units + 1 < cLine) (hg : G[i]? = some (.ow (dA f m))) (hN : X.N[i]? = some x) (hv : Vis X.env.scope x) (hl : m.length < 100000)
    (h : E X R G e fun d => ∃ a, d = f a ∧ E X R G qe fun d' => ∃ q, d' = .key (kk q) ∧ k.nx (G.set i (.ow (dA f (put m q a)))))
    (hd : (x == ("__debug__" : Str)) = false := by decide) (hcd : (x == ("__classdict__" : Str)) = false := by decide) (hs : swapsWith e (some (.Subscript (.Name x p) qe pos')) pos.line X.env = pure false := by rfl) : S1 X R (.Assign [.Subscript (.Name x p) qe pos'] e pos) G k :=
  s_dput i hu hg hN hv (by rw [keysA_len]; exact hl) (fun σ F H Q ty c => h σ F H Q ty fun v F' H' d ex r ⟨a, e1, h2⟩ => c v F' H' d ex r fun σ F H Q ty c => h2 σ F H Q ty fun v F' H' d' ex r ⟨q, e2, hk⟩ => c v F' H' d' ex r ⟨kk q, e2, by rw [e1, put_dA]; exact hk⟩) hd hcd hs
theorem ew_disp1A {α : Type} (f : α → Dt) {ke ve : Expr} {P : Dt → Prop} (hu : X.A.units < cLine) (h : E X R G ke fun d => ∃ p, d = .key (kk p) ∧ E X R G ve fun y => ∃ a, y = f a ∧ P (dA f [(p, a)])) : EW X R G (.Dict [some ke] [ve] pos) P :=
  ew_disp1 hu fun σ F H Q ty c => h σ F H Q ty fun v F' H' d ex r ⟨p, e, h2⟩ => c v F' H' d ex r ⟨kk p, e, fun σ F H Q ty c => h2 σ F H Q ty fun v F' H' d ex r ⟨a, e2, q⟩ => c v F' H' d ex r (by rw [e2]; exact q)⟩
end
/-- the facts of class Table -/
structure TableC (K : PySem.W.Frag) (C : Addr) : Prop where
  cl : Cls K C
  na_limit : NoAttr K C "limit"
  na_looks : NoAttr K C "looks"
  na_entries : NoAttr K C "entries"
  na_reached : NoAttr K C "reached"
  na_stops : NoAttr K C "stops"
  ty : ∀ ns xs, TyD K (.obj C ns xs) (.ref C)
  self : PySem.W.kitOne K (.ref C) (.ref C) = some true
  no : ∀ T, T ∈ plainT → PySem.W.kitOne K (.type T) (.ref C) = some false ∧ PySem.W.notFirst K C (.type T) = true
def tableB (K : PySem.W.Frag) (C : Addr) : Bool := clsC K C && (decide (PySem.W.findIn K (.ref C) "limit" = some none) && (decide (PySem.W.findIn K (.ref C) "looks" = some none) && (decide (PySem.W.findIn K (.ref C) "entries" = some none) && (decide (PySem.W.findIn K (.ref C) "reached" = some none) && (decide (PySem.W.findIn K (.ref C) "stops" = some none) && (tyB K C && (decide (PySem.W.kitOne K (.ref C) (.ref C) = some true) && notB K C)))))))
theorem tableB_ok {K : PySem.W.Frag} {C : Addr} (h : tableB K C = true) : TableC K C := by
  obtain ⟨h1, h⟩ := He.ba h
  obtain ⟨h2, h⟩ := He.ba h
  obtain ⟨h3, h⟩ := He.ba h
  obtain ⟨h4, h⟩ := He.ba h
  obtain ⟨h5, h⟩ := He.ba h
  obtain ⟨h6, h⟩ := He.ba h
  obtain ⟨h7, h⟩ := He.ba h
  obtain ⟨h8, h9⟩ := He.ba h
  exact ⟨clsC_ok h1, (show PySem.W.findIn K (.ref C) "limit" = some none from of_decide_eq_true h2), (show PySem.W.findIn K (.ref C) "looks" = some none from of_decide_eq_true h3), (show PySem.W.findIn K (.ref C) "entries" = some none from of_decide_eq_true h4), (show PySem.W.findIn K (.ref C) "reached" = some none from of_decide_eq_true h5), (show PySem.W.findIn K (.ref C) "stops" = some none from of_decide_eq_true h6), tyB_ok h7 (clsC_ok h1), of_decide_eq_true h8, fun T hT => notB_ok h9 hT⟩
end VS
set_option Elab.async false
set_option linter.all false
set_option maxRecDepth 100000
set_option maxHeartbeats 2000000
/-! methods called with keywords: o.m(k = v, ..) -/
namespace VS
open PySem PySem.Spec L2
theorem _root_.L2.Vals.swap {zs : List V} {ws : List Value} (h : Vals zs ws) : Vals (zs.drop 1 ++ zs.take 1) (ws.drop 1 ++ ws.take 1) := by
  cases h with
  | nil => exact .nil
  | cons a r => exact L2.Vals.append r (.cons a .nil)
structure FnMK (P : Program) (w : World) (K : PySem.W.Frag) (mg : Str → Option Value) (base : Heap) (k : Nat) (C : Addr) (m : Str) (ks : List Str) (gV : List V → List V → List V) (sp : Sp) : Prop where
  ex : ∃ f fd ps g, Meth K C m f ∧ KBn K fd ps 1 ks g gV ∧ FnOk P w K mg base (L2.CX P w) k f fd ps sp
theorem FnMK.mono {P : Program} {w : World} {K : PySem.W.Frag} {mg : Str → Option Value} {base : Heap} {j k : Nat} {C : Addr} {m : Str} {ks : List Str} {gV : List V → List V → List V} {sp : Sp} (F : FnMK P w K mg base j C m ks gV sp) (h : j ≤ k) : FnMK P w K mg base k C m ks gV sp := by
  obtain ⟨f, fd, ps, g, a, b, c⟩ := F.ex
  exact ⟨f, fd, ps, g, a, b, c.mono h⟩
def tMethK (C : Addr) (m : Str) (n : Nat) (sp : Sp) (gV : List V → List V → List V) (E : XK) (ta : TE) (tk : TA) : TE := fun σ H Q => ta σ H fun x H1 => ∃ a dx fs, x = .ref a ∧ H1 a = some (.ins C dx fs) ∧ fs.lookup m = none ∧ tk σ H1 fun zs H2 => zs.length = n ∧ sp (gV [.ref a] zs) H2 Q E
section
variable {X : Cx} {R : Reg} {G : List Sl} {pos : Pos} {k : Kt}
theorem pe_methK {CX : CXT} {j : Nat} {C f : Addr} {fd : FuncData} {ps ks : List Str} {sp : Sp} {E : XK} {m : Str} {o : Expr} {kws : List Keyword} {apos : Pos} {ta : TE} {tk : TA} {g : List Value → List Value → List Value} {gV : List V → List V → List V} {pl : Sem Bool} (he : PE X o ta) (c : Cls X.K C) (hm : Meth X.K C m f) (F : FnOk X.prog X.w X.K X.mg X.base CX j f fd ps sp) (hr : Room j X.A) (hb : KBn X.K fd ps 1 ks g gV) (hx : Passes CX X E) (hkw : PK X kws tk)
    (hall : (backToKw pos (keywordEach kws X.env)).all (·.1.isSome) = true) (hks : (backToKw pos (keywordEach kws X.env)).filterMap (·.1) = ks)
    (hpl : ((backTo pos (starEach [] X.env)).any (·.1) || (backToKw pos (keywordEach kws X.env)).any (·.1.isNone)) = false)
    (ht : eval (.Call (.Attribute o m apos) [] kws pos) X.env = (do
      let ov ← eval o X.env
      standAt apos.atName
      let (f, first) ← holding [ov] (getMethod ov m pl)
      callWith pos f first (backTo pos (starEach [] X.env)) (backToKw pos (keywordEach kws X.env)))) :
    PE X (.Call (.Attribute o m apos) [] kws pos) (tMethK C m ks.length sp gV E ta tk) := by
  refine ⟨fun pins s σ H Q I h => ?_⟩
  refine PySem.W.methodCall_KW (pl := pl) (thn (he.run pins s σ H _ I h) fun u s1 ⟨x, H1, I1, rx, a, dx, fs, ex, ea, l, q⟩ => ?_) ht
  subst ex
  obtain rfl : u = Value.ref a := rx
  refine getmeth_ok I1 ea c hm l ?_
  refine PySem.W.callWith_KW0 (first := [.ref a]) (h₀ := X.base) I1.ok.mod.kin hm.kp hall ?_ hpl
  refine thn (hkw.run pos pins s1 σ H1 _ I1 q) fun ws s2 ⟨zs, H2, I2, rz, l1, q2⟩ => ⟨I2.kIn, ?_⟩
  rw [hks]
  exact run_fnN (us := [.ref a]) (vs := [.ref a]) F hr hb hx I2 (.cons rfl .nil) rz rfl l1 q2
/-- o.m(k = v) -/
theorem e_methK1 {C : Addr} {m : Str} {φ : Ph} {n j : Nat} {o : Expr} {apos : Pos} {pl : Sem Bool} {P : Dt → Prop} {k1 : Str} {e1 : Expr} {p1 : Pos} {gV : List V → List V → List V} (gD : Dt → Dt → List Dt) (cl : Cls X.K C) (F : FnMK X.prog X.w X.K X.mg X.base j C m [k1] gV (spD X.K n φ)) (hr : Room j X.A)
    (hgd : ∀ {F : Hp} {d d1 : Dt} {x v1 : V}, Rp X.K F d x → Rp X.K F d1 v1 → RpL X.K F (gD d d1) (gV [x] [v1]))
    (h : E X R G o fun d => ∃ ns xs, d = .obj C ns xs ∧ (ns.any fun z => z == m) = false ∧ E X R G e1 fun d1 => (gD d d1).length = n ∧ φ (gD d d1) P fun _ _ _ => False)
    (hall : (backToKw pos (keywordEach [⟨some k1, e1, p1⟩] X.env)).all (·.1.isSome) = true := by rfl) (hks : (backToKw pos (keywordEach [⟨some k1, e1, p1⟩] X.env)).filterMap (·.1) = [k1] := by rfl)
    (hpl : ((backTo pos (starEach [] X.env)).any (·.1) || (backToKw pos (keywordEach [⟨some k1, e1, p1⟩] X.env)).any (·.1.isNone)) = false := by rfl)
    (ht : eval (.Call (.Attribute o m apos) [] [⟨some k1, e1, p1⟩] pos) X.env = (do
      let ov ← eval o X.env
      standAt apos.atName
      let (f, first) ← holding [ov] (getMethod ov m pl)
      callWith pos f first (backTo pos (starEach [] X.env)) (backToKw pos (keywordEach [⟨some k1, e1, p1⟩] X.env))) := by rfl) : E X R G (.Call (.Attribute o m apos) [] [⟨some k1, e1, p1⟩] pos) P := fun σ F' H Q ty c => by
  obtain ⟨f, fd, ps, g, a1, a2, a3⟩ := F.ex
  refine tOf.of (pe_methK (pl := pl) pe_w cl a1 a3 hr a2 passL (pk_cons pe_w pk_nil) hall hks hpl ht) (h σ F' H _ ty fun v F1 H1 d ex r ⟨ns, xs, ed, hno, h2⟩ => ?_)
  have r0 := r
  subst ed
  obtain ⟨a, dx, vs, rfl, h1, hl, rl⟩ := rp_obj.mp r
  refine ⟨a, dx, _, rfl, ex.wf.fh _ _ h1, fld_none hno, h2 σ F1 H1 _ (ty.ext ex) fun v1 F2 H2 d1 ex2 r2 ⟨hl2, hφ⟩ => ?_⟩
  exact ⟨rfl, spD_of ex2.wf (hgd (r0.mono ex2.ff) r2) hl2 hφ (c.step (ex.trans ex2))⟩
/-- o.m(k = v, l = u) -/
theorem e_methK2 {C : Addr} {m : Str} {φ : Ph} {n j : Nat} {o : Expr} {apos : Pos} {pl : Sem Bool} {P : Dt → Prop} {k1 k2 : Str} {e1 e2 : Expr} {p1 p2 : Pos} {gV : List V → List V → List V} (gD : Dt → Dt → Dt → List Dt) (cl : Cls X.K C) (F : FnMK X.prog X.w X.K X.mg X.base j C m [k1, k2] gV (spD X.K n φ)) (hr : Room j X.A)
    (hgd : ∀ {F : Hp} {d d1 d2 : Dt} {x v1 v2 : V}, Rp X.K F d x → Rp X.K F d1 v1 → Rp X.K F d2 v2 → RpL X.K F (gD d d1 d2) (gV [x] [v1, v2]))
    (h : E X R G o fun d => ∃ ns xs, d = .obj C ns xs ∧ (ns.any fun z => z == m) = false ∧ E X R G e1 fun d1 => E X R G e2 fun d2 => (gD d d1 d2).length = n ∧ φ (gD d d1 d2) P fun _ _ _ => False)
    (hall : (backToKw pos (keywordEach [⟨some k1, e1, p1⟩, ⟨some k2, e2, p2⟩] X.env)).all (·.1.isSome) = true := by rfl) (hks : (backToKw pos (keywordEach [⟨some k1, e1, p1⟩, ⟨some k2, e2, p2⟩] X.env)).filterMap (·.1) = [k1, k2] := by rfl)
    (hpl : ((backTo pos (starEach [] X.env)).any (·.1) || (backToKw pos (keywordEach [⟨some k1, e1, p1⟩, ⟨some k2, e2, p2⟩] X.env)).any (·.1.isNone)) = false := by rfl)
    (ht : eval (.Call (.Attribute o m apos) [] [⟨some k1, e1, p1⟩, ⟨some k2, e2, p2⟩] pos) X.env = (do
      let ov ← eval o X.env
      standAt apos.atName
      let (f, first) ← holding [ov] (getMethod ov m pl)
      callWith pos f first (backTo pos (starEach [] X.env)) (backToKw pos (keywordEach [⟨some k1, e1, p1⟩, ⟨some k2, e2, p2⟩] X.env))) := by rfl) : E X R G (.Call (.Attribute o m apos) [] [⟨some k1, e1, p1⟩, ⟨some k2, e2, p2⟩] pos) P := fun σ F' H Q ty c => by
  obtain ⟨f, fd, ps, g, a1, a2, a3⟩ := F.ex
  refine tOf.of (pe_methK (pl := pl) pe_w cl a1 a3 hr a2 passL (pk_cons pe_w (pk_cons pe_w pk_nil)) hall hks hpl ht) (h σ F' H _ ty fun v F1 H1 d ex r ⟨ns, xs, ed, hno, h2⟩ => ?_)
  have r0 := r
  subst ed
  obtain ⟨a, dx, vs, rfl, h1, hl, rl⟩ := rp_obj.mp r
  refine ⟨a, dx, _, rfl, ex.wf.fh _ _ h1, fld_none hno, h2 σ F1 H1 _ (ty.ext ex) fun v1 F2 H2 d1 ex2 r2 h3 => h3 σ F2 H2 _ ((ty.ext ex).ext ex2) fun v2 F3 H3 d2 ex3 r3 ⟨hl2, hφ⟩ => ?_⟩
  exact ⟨rfl, spD_of ex3.wf (hgd ((r0.mono ex2.ff).mono ex3.ff) (r2.mono ex3.ff) r3) hl2 hφ (c.step ((ex.trans ex2).trans ex3))⟩
end
end VS
set_option Elab.async false
set_option linter.all false
set_option maxRecDepth 100000
/-! plain: stopping tables. -/
namespace VS
open PySem PySem.Spec L2
/-! counts -/
def castP (p : Nat × Nat) : Int × Int := ((p.1 : Int), (p.2 : Int))
def cnN (n : Nat) : List (Nat × Nat) := (List.range n).flatMap fun i => (List.range (i + 2)).map fun j => (j, i + 1 - j)
def cRow (t : Int) (j : Nat) : List (Int × Int) := (List.range j).map fun a => ((a : Nat) : Int) |> fun a => (a, t - a)
/-- the counts of 1 .. n tries -/
def cnt (n : Nat) : List (Int × Int) := (List.range n).flatMap fun i => cRow (1 + (i : Nat)) (i + 2)
theorem cnt_succ (n : Nat) : cnt (n + 1) = cnt n ++ cRow (1 + (n : Nat)) (n + 2) := by unfold cnt; rw [List.range_succ, List.flatMap_append]; simp
theorem cRow_succ (t : Int) (j : Nat) : cRow t (j + 1) = cRow t j ++ [((j : Int), t - j)] := by unfold cRow; rw [List.range_succ, List.map_append]; rfl
theorem mem_cRow {t : Int} {j : Nat} {p : Int × Int} : p ∈ cRow t j ↔ 0 ≤ p.1 ∧ p.1 < j ∧ p.1 + p.2 = t := by
  unfold cRow
  rw [List.mem_map]
  constructor
  · rintro ⟨a, ha, rfl⟩
    have := List.mem_range.mp ha
    exact ⟨by show (0 : Int) ≤ (a : Int); omega, by show (a : Int) < (j : Int); omega, by show (a : Int) + (t - (a : Int)) = t; omega⟩
  · rintro ⟨h0, h1, h2⟩
    refine ⟨p.1.toNat, List.mem_range.mpr (by omega), ?_⟩
    show (((p.1.toNat : Nat) : Int), t - ((p.1.toNat : Nat) : Int)) = p
    exact Prod.ext (by show ((p.1.toNat : Nat) : Int) = p.1; omega) (by show t - ((p.1.toNat : Nat) : Int) = p.2; omega)
theorem mem_cnt {n : Nat} {p : Int × Int} : p ∈ cnt n ↔ 0 ≤ p.1 ∧ 0 ≤ p.2 ∧ 1 ≤ p.1 + p.2 ∧ p.1 + p.2 ≤ n := by
  unfold cnt
  rw [List.mem_flatMap]
  constructor
  · rintro ⟨i, hi, h⟩
    have := List.mem_range.mp hi
    have := mem_cRow.mp h
    omega
  · intro h
    refine ⟨(p.1 + p.2 - 1).toNat, List.mem_range.mpr (by omega), mem_cRow.mpr ?_⟩
    omega
theorem cnt_cast (n : Nat) : cnt n = (cnN n).map castP := by
  unfold cnt cnN
  rw [List.map_flatMap]
  refine congrArg (fun f => (List.range n).flatMap f) (funext fun i => ?_)
  unfold cRow
  rw [List.map_map]
  refine List.map_congr_left fun a ha => ?_
  have := List.mem_range.mp ha
  refine Prod.ext rfl ?_
  show (1 : Int) + (i : Int) - (a : Int) = ((i + 1 - a : Nat) : Int)
  omega
theorem cnN_succ (n : Nat) : cnN (n + 1) = cnN n ++ (List.range (n + 2)).map fun j => (j, n + 1 - j) := by unfold cnN; rw [List.range_succ, List.flatMap_append]; simp
theorem cnN_pre : ∀ (k n : Nat), (cnN n).Sublist (cnN (n + k))
  | 0, n => List.Sublist.refl _
  | k + 1, n => by rw [show n + (k + 1) = (n + k) + 1 by omega, cnN_succ]; exact (cnN_pre k n).trans (List.sublist_append_left _ _)
theorem cnN_spots {n : Nat} (h : n ≤ 30) : (cnN n).Sublist spots := by
  have e : spots = (0, 0) :: cnN 30 := by decide +kernel
  have h2 := cnN_pre (30 - n) n
  rw [show n + (30 - n) = 30 by omega] at h2
  rw [e]
  exact h2.cons _
theorem castP_inj {p q : Nat × Nat} (h : castP p = castP q) : p = q := by
  have h1 : ((p.1 : Nat) : Int) = (q.1 : Nat) := congrArg Prod.fst h
  have h2 : ((p.2 : Nat) : Int) = (q.2 : Nat) := congrArg Prod.snd h
  exact Prod.ext (by omega) (by omega)
theorem cRow_nd (t : Int) (j : Nat) : (cRow t j).Nodup := by
  induction j with
  | zero => exact List.nodup_nil
  | succ j ih =>
    rw [cRow_succ, List.nodup_append]
    refine ⟨ih, by simp, ?_⟩
    intro a ha b hb e
    have := mem_cRow.mp ha
    rw [List.mem_singleton] at hb
    subst e hb
    simp at this
theorem cnt_nd (n : Nat) : (cnt n).Nodup := by
  induction n with
  | zero => exact List.nodup_nil
  | succ n ih =>
    rw [cnt_succ, List.nodup_append]
    refine ⟨ih, cRow_nd _ _, ?_⟩
    intro a ha b hb e
    have h1 := mem_cnt.mp ha
    have h2 := mem_cRow.mp hb
    subst e
    omega
theorem cnt_len {n : Nat} (h : n ≤ 30) : (cnt n).length ≤ 500 := by
  rw [cnt_cast, List.length_map]
  have := (cnN_spots h).length_le
  have e : spots.length = 496 := by decide +kernel
  omega
/-! ways -/
def stepM (go : Int × Int → Bool) (m : Al Int) (c : Int × Int) : Al Int := match lk m c with
  | none => m
  | some v => if go c = true then
      let m1 := put m (c.1 + 1, c.2) ((lk m (c.1 + 1, c.2)).getD 0 + v)
      put m1 (c.1, c.2 + 1) ((lk m1 (c.1, c.2 + 1)).getD 0 + v)
    else m
theorem stepM_none {go : Int × Int → Bool} {m : Al Int} {c : Int × Int} (h : lk m c = none) : stepM go m c = m := by unfold stepM; rw [h]
theorem stepM_stop {go : Int × Int → Bool} {m : Al Int} {c : Int × Int} (h : go c = false) : stepM go m c = m := by
  unfold stepM
  split
  · rfl
  · rw [if_neg (by rw [h]; decide)]
theorem stepM_go {go : Int × Int → Bool} {m : Al Int} {c : Int × Int} {v : Int} (h : lk m c = some v) (hg : go c = true) : stepM go m c = put (put m (c.1 + 1, c.2) ((lk m (c.1 + 1, c.2)).getD 0 + v)) (c.1, c.2 + 1) ((lk (put m (c.1 + 1, c.2) ((lk m (c.1 + 1, c.2)).getD 0 + v)) (c.1, c.2 + 1)).getD 0 + v) := by
  unfold stepM
  rw [h]
  dsimp only
  rw [if_pos hg]
theorem stepM_len (go : Int × Int → Bool) (m : Al Int) (c : Int × Int) : (stepM go m c).length ≤ m.length + 2 := by
  unfold stepM
  split
  · omega
  · split
    · rename_i v _ _
      have h1 := put_len m (c.1 + 1, c.2) ((lk m (c.1 + 1, c.2)).getD 0 + v)
      have h2 := put_len (put m (c.1 + 1, c.2) ((lk m (c.1 + 1, c.2)).getD 0 + v)) (c.1, c.2 + 1) ((lk (put m (c.1 + 1, c.2) ((lk m (c.1 + 1, c.2)).getD 0 + v)) (c.1, c.2 + 1)).getD 0 + v)
      dsimp only
      omega
    · omega
def sRow (w t : Int) (j : Nat) : List (Int × Int) := (List.range j).map fun a => (w + (a : Nat), t - (w + (a : Nat)))
/-- the cells that are gone through -/
def sCells (w l : Int) (n : Nat) : List (Int × Int) := (List.range n).flatMap fun i => sRow w (w + l + (i : Nat)) (w + l + (i : Nat) - l + 1 - w).toNat
def sprI (go : Int × Int → Bool) (w l : Int) (n : Nat) : Al Int := (sCells w l n).foldl (stepM go) [((w, l), 1)]
theorem sRow_succ (w t : Int) (j : Nat) : sRow w t (j + 1) = sRow w t j ++ [(w + (j : Nat), t - (w + (j : Nat)))] := by unfold sRow; rw [List.range_succ, List.map_append]; rfl
theorem sprI_succ (go : Int × Int → Bool) (w l : Int) (n : Nat) : sprI go w l (n + 1) = (sRow w (w + l + (n : Nat)) (w + l + (n : Nat) - l + 1 - w).toNat).foldl (stepM go) (sprI go w l n) := by
  unfold sprI sCells
  rw [List.range_succ, List.flatMap_append, List.foldl_append]
  simp
theorem fold_len (go : Int × Int → Bool) : ∀ (L : List (Int × Int)) (m : Al Int), (L.foldl (stepM go) m).length ≤ m.length + 2 * L.length
  | [], m => by simp
  | c :: L, m => by
    have h1 := fold_len go L (stepM go m c)
    have h2 := stepM_len go m c
    simp only [List.foldl_cons, List.length_cons]
    omega
theorem sRow_len (w t : Int) (j : Nat) : (sRow w t j).length = j := by unfold sRow; simp
theorem mem_sRow {w t : Int} {j : Nat} {p : Int × Int} : p ∈ sRow w t j ↔ w ≤ p.1 ∧ p.1 < w + j ∧ p.1 + p.2 = t := by
  unfold sRow
  rw [List.mem_map]
  constructor
  · rintro ⟨a, ha, rfl⟩
    have := List.mem_range.mp ha
    refine ⟨?_, ?_, ?_⟩ <;> dsimp only <;> omega
  · rintro ⟨h0, h1, h2⟩
    refine ⟨(p.1 - w).toNat, List.mem_range.mpr (by omega), Prod.ext ?_ ?_⟩ <;> dsimp only <;> omega
theorem sCells_len (w l : Int) : ∀ n : Nat, n ≤ 31 → (sCells w l n).length ≤ n * 40
  | 0, _ => by simp [sCells]
  | n + 1, h => by
    have ih := sCells_len w l n (by omega)
    have e : sCells w l (n + 1) = sCells w l n ++ sRow w (w + l + (n : Nat)) (w + l + (n : Nat) - l + 1 - w).toNat := by unfold sCells; rw [List.range_succ, List.flatMap_append]; simp
    rw [e, List.length_append, sRow_len]
    omega
theorem spr_len (go : Int × Int → Bool) {w l : Int} {n j : Nat} (h : n ≤ 31) (hj : j ≤ 40) {t : Int} : ((sRow w t j).foldl (stepM go) (sprI go w l n)).length ≤ 5000 := by
  have h1 := fold_len go (sRow w t j) (sprI go w l n)
  have h2 := fold_len go (sCells w l n) [((w, l), 1)]
  have h3 := sCells_len w l n h
  rw [sRow_len] at h1
  have h4 : (sprI go w l n).length ≤ 1 + 2 * (sCells w l n).length := h2
  omega
theorem mem_sCells0 {n : Nat} {p : Int × Int} : p ∈ sCells 0 0 n ↔ 0 ≤ p.1 ∧ 0 ≤ p.2 ∧ p.1 + p.2 < n := by
  unfold sCells
  rw [List.mem_flatMap]
  constructor
  · rintro ⟨i, hi, h⟩
    have := List.mem_range.mp hi
    have := mem_sRow.mp h
    omega
  · intro h
    refine ⟨(p.1 + p.2).toNat, List.mem_range.mpr (by omega), mem_sRow.mpr ?_⟩
    omega
theorem fold_congr {α β : Type} {f g : β → α → β} : ∀ (L : List α) (b : β), (∀ b, ∀ a ∈ L, f b a = g b a) → L.foldl f b = L.foldl g b
  | [], b, _ => rfl
  | a :: L, b, h => by
    rw [List.foldl_cons, List.foldl_cons, h b a List.mem_cons_self]
    exact fold_congr L _ fun b a ha => h b a (List.mem_cons_of_mem _ ha)
theorem spr_congr {go go' : Int × Int → Bool} {w l : Int} {n : Nat} (h : ∀ c ∈ sCells w l n, go c = go' c) : sprI go w l n = sprI go' w l n := by
  unfold sprI
  refine fold_congr _ _ fun m c hc => ?_
  unfold stepM
  rw [h c hc]
/-! the sum over all cells -/
def sumL (f : Int × Int → Int) : List (Int × Int) → Int
  | [] => 0
  | p :: L => f p + sumL f L
theorem sumL_eq {f g : Int × Int → Int} : ∀ {L : List (Int × Int)}, (∀ q ∈ L, f q = g q) → sumL f L = sumL g L
  | [], _ => rfl
  | p :: L, h => by
    unfold sumL
    rw [h p List.mem_cons_self, sumL_eq fun q hq => h q (List.mem_cons_of_mem _ hq)]
theorem sumL_upd {f g : Int × Int → Int} {p : Int × Int} : ∀ {L : List (Int × Int)}, L.Nodup → p ∈ L → (∀ q, q ≠ p → f q = g q) → sumL f L = sumL g L + (f p - g p)
  | [], _, hp, _ => by cases hp
  | a :: L, nd, hp, h => by
    rw [List.nodup_cons] at nd
    unfold sumL
    by_cases e : a = p
    · subst e
      rw [sumL_eq fun q hq => h q fun z => nd.1 (z ▸ hq)]
      omega
    · have := sumL_upd nd.2 (by cases hp with | head => exact absurd rfl e | tail _ z => exact z) h
      rw [h a e, this]
      omega
def pw2 (lim : Nat) (p : Int × Int) : Int := 2 ^ (lim - (p.1 + p.2).toNat)
theorem pw2_step {lim : Nat} {t : Int} (h0 : 0 ≤ t) (h : t < lim) : (2 : Int) ^ (lim - t.toNat) = 2 ^ (lim - (t + 1).toNat) + 2 ^ (lim - (t + 1).toNat) := by
  rw [show lim - t.toNat = (lim - (t + 1).toNat) + 1 by omega, Int.pow_succ]
  omega
/-- what is not gone through yet, and the ends -/
def wt (lim : Nat) (go : Int × Int → Bool) (D : List (Int × Int)) (p : Int × Int) : Int := if p ∈ D ∧ go p = true then 0 else pw2 lim p
def totA (lim : Nat) (go : Int × Int → Bool) (D : List (Int × Int)) (m : Al Int) : Int := sumL (fun p => wt lim go D p * (lk m p).getD 0) ((0, 0) :: cnt lim)
theorem allc_nd (lim : Nat) : ((0, 0) :: cnt lim).Nodup := List.nodup_cons.mpr ⟨fun h => by have := mem_cnt.mp h; simp at this, cnt_nd lim⟩
theorem mem_allc {lim : Nat} {p : Int × Int} (h0 : 0 ≤ p.1) (h1 : 0 ≤ p.2) (h : p.1 + p.2 ≤ lim) : p ∈ (0, 0) :: cnt lim := by
  by_cases e : p.1 + p.2 = 0
  · have : p = (0, 0) := Prod.ext (by show p.1 = 0; omega) (by show p.2 = 0; omega)
    rw [this]; exact List.mem_cons_self
  · exact List.mem_cons_of_mem _ (mem_cnt.mpr ⟨h0, h1, by omega, h⟩)
theorem tot_put {lim : Nat} {go : Int × Int → Bool} {D : List (Int × Int)} {m : Al Int} {p : Int × Int} {v : Int} (hp : p ∈ (0, 0) :: cnt lim) : totA lim go D (put m p ((lk m p).getD 0 + v)) = totA lim go D m + wt lim go D p * v := by
  unfold totA
  rw [sumL_upd (g := fun p => wt lim go D p * (lk m p).getD 0) (allc_nd lim) hp fun q hq => by rw [lk_put, if_neg (fun z => hq z.symm)]]
  rw [lk_put, if_pos rfl]
  show _ + (wt lim go D p * ((lk m p).getD 0 + v) - _) = _
  rw [Int.mul_add]
  omega
theorem tot_step {lim : Nat} {go : Int × Int → Bool} {D : List (Int × Int)} {m : Al Int} {c : Int × Int} (h0 : 0 ≤ c.1) (h1 : 0 ≤ c.2) (hl : c.1 + c.2 < lim) (hD : ∀ p ∈ D, p.1 + p.2 ≤ c.1 + c.2) (hc : c ∉ D) : totA lim go (c :: D) (stepM go m c) = totA lim go D m := by
  have hcm : c ∈ (0, 0) :: cnt lim := mem_allc h0 h1 (by omega)
  have off : ∀ q, q ≠ c → wt lim go (c :: D) q = wt lim go D q := fun q hq => by
    unfold wt
    have : (q ∈ c :: D ∧ go q = true) ↔ (q ∈ D ∧ go q = true) := by simp [hq]
    by_cases z : q ∈ D ∧ go q = true
    · rw [if_pos z, if_pos (this.mpr z)]
    · rw [if_neg z, if_neg (fun y => z (this.mp y))]
  have e0 : totA lim go (c :: D) m = totA lim go D m + (wt lim go (c :: D) c * (lk m c).getD 0 - wt lim go D c * (lk m c).getD 0) := by
    unfold totA
    exact sumL_upd (allc_nd lim) hcm fun q hq => by rw [off q hq]
  have wD : wt lim go D c = pw2 lim c := by unfold wt; rw [if_neg fun z => hc z.1]
  cases hk : lk m c with
  | none =>
    rw [stepM_none hk, e0, hk]
    show _ + (_ * 0 - _ * 0) = _
    rw [Int.mul_zero, Int.mul_zero]
    omega
  | some v =>
    cases hg : go c
    · rw [stepM_stop hg, e0]
      have : wt lim go (c :: D) c = wt lim go D c := by unfold wt; rw [if_neg (by rw [hg]; simp), if_neg (by rw [hg]; simp)]
      rw [this]
      omega
    · have w0 : wt lim go (c :: D) c = 0 := by unfold wt; rw [if_pos ⟨List.mem_cons_self, hg⟩]
      have nx : ∀ p : Int × Int, p.1 + p.2 = c.1 + c.2 + 1 → wt lim go (c :: D) p = 2 ^ (lim - (c.1 + c.2 + 1).toNat) := fun p hp => by
        unfold wt
        rw [if_neg]
        · unfold pw2; rw [hp]
        · rintro ⟨z, _⟩
          cases z with
          | head => omega
          | tail _ z => have := hD p z; omega
      rw [stepM_go hk hg, tot_put (p := (c.1, c.2 + 1)) (mem_allc (p := (c.1, c.2 + 1)) h0 (by dsimp only; omega) (by dsimp only; omega)), tot_put (p := (c.1 + 1, c.2)) (mem_allc (p := (c.1 + 1, c.2)) (by dsimp only; omega) h1 (by dsimp only; omega)), e0, w0, wD, hk, nx _ (by dsimp only; omega), nx _ (by dsimp only; omega)]
      unfold pw2
      show _ + (0 * v - _ * v) + _ * v + _ * v = _
      rw [pw2_step (by omega) hl, Int.zero_mul, Int.add_mul]
      omega
theorem tot_fold {lim : Nat} {go : Int × Int → Bool} : ∀ (L D : List (Int × Int)) (m : Al Int), (∀ c ∈ L, 0 ≤ c.1 ∧ 0 ≤ c.2 ∧ c.1 + c.2 < lim) → L.Pairwise (fun a b => a.1 + a.2 ≤ b.1 + b.2 ∧ a ≠ b) → (∀ p ∈ D, ∀ c ∈ L, p.1 + p.2 ≤ c.1 + c.2 ∧ c ≠ p) → ∃ D', (∀ c, c ∈ D' ↔ c ∈ D ∨ c ∈ L) ∧ totA lim go D' (L.foldl (stepM go) m) = totA lim go D m
  | [], D, m, _, _, _ => ⟨D, fun c => by simp, rfl⟩
  | c :: L, D, m, hL, hp, hD => by
    rw [List.pairwise_cons] at hp
    obtain ⟨a0, a1, a2⟩ := hL c List.mem_cons_self
    obtain ⟨D', h1, h2⟩ := tot_fold L (c :: D) (stepM go m c) (fun x hx => hL x (List.mem_cons_of_mem _ hx)) hp.2 (fun p hpD x hx => by
      cases hpD with
      | head => exact ⟨(hp.1 x hx).1, fun e => (hp.1 x hx).2 e.symm⟩
      | tail _ z => exact hD p z x (List.mem_cons_of_mem _ hx))
    refine ⟨D', fun x => ?_, ?_⟩
    · rw [h1 x]; simp only [List.mem_cons]; exact ⟨fun z => by rcases z with (z | z) | z <;> simp [z], fun z => by rcases z with z | z | z <;> simp [z]⟩
    · rw [List.foldl_cons, h2]
      exact tot_step a0 a1 a2 (fun p hpD => (hD p hpD c List.mem_cons_self).1) fun z => (hD c z c List.mem_cons_self).2 rfl
theorem sCells0_pw (n : Nat) : (sCells 0 0 n).Pairwise (fun a b => a.1 + a.2 ≤ b.1 + b.2 ∧ a ≠ b) := by
  induction n with
  | zero => exact List.Pairwise.nil
  | succ n ih =>
    have e : sCells 0 0 (n + 1) = sCells 0 0 n ++ sRow 0 (0 + 0 + (n : Nat)) (0 + 0 + (n : Nat) - 0 + 1 - 0 : Int).toNat := by unfold sCells; rw [List.range_succ, List.flatMap_append]; simp
    rw [e, List.pairwise_append]
    refine ⟨ih, ?_, fun a ha b hb => ?_⟩
    · generalize (0 + 0 + (n : Nat) - 0 + 1 - 0 : Int).toNat = k
      induction k with
      | zero => exact List.Pairwise.nil
      | succ k ih2 =>
        rw [sRow_succ, List.pairwise_append]
        refine ⟨ih2, List.pairwise_singleton _ _, fun a ha b hb => ?_⟩
        have h1 := mem_sRow.mp ha
        rw [List.mem_singleton] at hb
        subst hb
        refine ⟨by dsimp only; omega, fun z => ?_⟩
        rw [z] at h1
        dsimp only at h1
        omega
    · have h1 := mem_sCells0.mp ha
      have h2 := mem_sRow.mp hb
      exact ⟨by omega, fun z => by rw [z] at h1; omega⟩
/-- all orders are counted at the ends -/
theorem ends_total {lim : Nat} {go : Int × Int → Bool} (hg : ∀ c : Int × Int, 0 ≤ c.1 → 0 ≤ c.2 → c.1 + c.2 = lim → go c = false) (g0 : 1 ≤ lim → go (0, 0) = true) (h1 : 1 ≤ lim) : sumL (fun p => if go p = true then 0 else pw2 lim p * (lk (sprI go 0 0 lim) p).getD 0) (cnt lim) = 2 ^ lim := by
  obtain ⟨D', hD, hT⟩ := tot_fold (lim := lim) (go := go) (sCells 0 0 lim) [] [((0, 0), 1)] (fun c hc => mem_sCells0.mp hc) (sCells0_pw lim) (fun p hp => by cases hp)
  have e2 : totA lim go [] [((0, 0), 1)] = 2 ^ lim := by
    unfold totA
    have : ((0 : Int), (0 : Int)) ∈ ((0, 0) : Int × Int) :: cnt lim := List.mem_cons_self
    rw [sumL_upd (g := fun _ => 0) (allc_nd lim) this fun q hq => by
      show _ * (lk [((0, 0), (1 : Int))] q).getD 0 = 0
      unfold lk
      rw [if_neg (fun z => hq z.symm)]
      unfold lk
      exact Int.mul_zero _]
    have z : ∀ L : List (Int × Int), sumL (fun _ => 0) L = 0 := fun L => by
      induction L with
      | nil => rfl
      | cons a L ih => unfold sumL; rw [ih]; rfl
    rw [z]
    show 0 + (wt lim go [] (0, 0) * (1 : Int) - 0) = _
    unfold wt
    rw [if_neg (fun z => by cases z.1)]
    unfold pw2
    show 0 + ((2 : Int) ^ (lim - (0 + 0 : Int).toNat) * 1 - 0) = _
    rw [Int.mul_one, Int.sub_zero, Int.zero_add]
    rfl
  rw [e2] at hT
  have hT2 : totA lim go D' (sprI go 0 0 lim) = 2 ^ lim := hT
  rw [← hT2]
  unfold totA
  show _ = wt lim go D' (0, 0) * _ + sumL _ (cnt lim)
  have w0 : wt lim go D' (0, 0) = 0 := by
    unfold wt
    rw [if_pos ⟨(hD _).mpr (.inr (mem_sCells0.mpr ⟨by decide, by decide, by show (0 : Int) + 0 < lim; omega⟩)), g0 h1⟩]
  rw [w0, Int.zero_mul, Int.zero_add]
  refine sumL_eq fun q hq => ?_
  have hm := mem_cnt.mp hq
  unfold wt
  by_cases hl : q.1 + q.2 < lim
  · have : q ∈ D' := (hD q).mpr (.inr (mem_sCells0.mpr ⟨hm.1, hm.2.1, hl⟩))
    cases hgq : go q
    · rw [if_neg (by decide), if_neg (fun z => by cases z.2)]
    · rw [if_pos rfl, if_pos ⟨this, rfl⟩, Int.zero_mul]
  · have : go q = false := hg q hm.1 hm.2.1 (by omega)
    rw [this, if_neg (by decide), if_neg (fun z => by cases z.2)]
end VS
set_option Elab.async false
set_option linter.all false
set_option maxRecDepth 100000
/-! plain: what a table is, and what the law counts. -/
namespace VS
open PySem PySem.Spec L2
def inI (l : List Int) (t : Int) : Bool := l.any fun z => decide (z = t)
theorem inI_iff {l : List Int} {t : Int} : inI l t = true ↔ t ∈ l := by unfold inI; simp
def entStep (rl : Al Str) (m : Al Str) (c : Int × Int) : Al Str := match lk rl c with
  | some x => put m c x
  | none => m
def entOf (rl : Al Str) (n : Nat) : Al Str := (cnt n).foldl (entStep rl) []
structure Tb where
  lim : Nat
  looks : List Int
  ent : Al Str
namespace Tb
def isEnd (T : Tb) (c : Int × Int) : Bool := inI T.looks (c.1 + c.2) && has T.ent c
def go (T : Tb) (s c : Int × Int) : Bool := decide (c = s) || !T.isEnd c
def reached (T : Tb) : Al Int := sprI (T.go (0, 0)) 0 0 T.lim
def isIn (T : Tb) (c : Int × Int) : Bool := has T.reached c && T.isEnd c
def word (T : Tb) (c : Int × Int) : Str := (lk T.ent c).getD Str.empty
def stops (T : Tb) : List ((Int × Int) × Str) := ((cnt T.lim).filter T.isIn).map fun c => (c, T.word c)
end Tb
def mkT (lim : Nat) (looks : List Int) (rl : Al Str) : Tb := ⟨lim, looks, entOf rl lim⟩
def stD (e : (Int × Int) × Str) : Dt := .tup [.int e.1.1, .int e.1.2, .str e.2]
/-- a table's data, some fields to come -/
abbrev tb3 (C : Addr) (T : Tb) (ns : List Str) (xs : List Dt) : Dt := .obj C ("limit" :: "looks" :: "entries" :: ns) (.int (T.lim : Nat) :: .tup (T.looks.map .int) :: dA .str T.ent :: xs)
abbrev tb4 (C : Addr) (T : Tb) (ns : List Str) (xs : List Dt) : Dt := tb3 C T ("reached" :: ns) (dA .int T.reached :: xs)
abbrev tabD (C : Addr) (T : Tb) : Dt := tb4 C T ["stops"] [.lst (T.stops.map stD)]
theorem ent_fold (rl : Al Str) (c : Int × Int) : ∀ (L : List (Int × Int)) (m : Al Str), lk (L.foldl (entStep rl) m) c = if c ∈ L ∧ has rl c = true then lk rl c else lk m c
  | [], m => by rw [if_neg (fun z => by cases z.1)]; rfl
  | a :: L, m => by
    rw [List.foldl_cons, ent_fold rl c L]
    unfold entStep
    cases h : lk rl a with
    | none =>
      dsimp only
      by_cases e : c ∈ L ∧ has rl c = true
      · rw [if_pos e, if_pos ⟨List.mem_cons_of_mem _ e.1, e.2⟩]
      · rw [if_neg e, if_neg]
        rintro ⟨z, y⟩
        cases z with
        | head => unfold has at y; rw [h] at y; cases y
        | tail _ z => exact e ⟨z, y⟩
    | some x =>
      dsimp only
      by_cases e : c ∈ L ∧ has rl c = true
      · rw [if_pos e, if_pos ⟨List.mem_cons_of_mem _ e.1, e.2⟩]
      · rw [if_neg e, lk_put]
        by_cases e2 : a = c
        · subst e2
          rw [if_pos rfl, if_pos ⟨List.mem_cons_self, by unfold has; rw [h]; rfl⟩, h]
        · rw [if_neg e2, if_neg]
          rintro ⟨z, y⟩
          cases z with
          | head => exact e2 rfl
          | tail _ z => exact e ⟨z, y⟩
/-- a word that read_word reads -/
def WdF (x : Str) : Prop := x = Str.ofString "no word" ∨ ∃ (k : Str) (n d : Nat), IsKind k ∧ 0 < n ∧ n < d ∧ d < 10 ^ 30 ∧ Nat.gcd n d = 1 ∧ x = SX.S (wordL k n d)
def Wd (x : Str) : Prop := WdF x ∧ PyData.strOk x = true
/-- the parts are a table -/
structure Vr (lim : Nat) (looks : List Int) (rl : Al Str) : Prop where
  l1 : 1 ≤ lim
  l30 : lim ≤ 30
  len : looks.length ≤ 30
  asc : looks.Pairwise (· < ·)
  one : ∀ z ∈ looks, 1 ≤ z
  last : ∃ l', looks = l' ++ [(lim : Int)]
  keys : ∀ e ∈ rl, 0 ≤ e.1.1 ∧ 0 ≤ e.1.2 ∧ 1 ≤ e.1.1 + e.1.2 ∧ e.1.1 + e.1.2 ≤ lim
  words : ∀ e ∈ rl, Wd e.2
  full : ∀ j : Nat, j ≤ lim → has rl ((j : Int), (lim : Int) - j) = true
/-- the same with its counts in order -/
structure Vt (lim : Nat) (looks : List Int) (rl : Al Str) : Prop extends Vr lim looks rl where
  ord : ∃ ks : List (Nat × Nat), ks.Sublist (cnN lim) ∧ rl.map (·.1) = ks.map castP
theorem lk_ent {lim : Nat} {rl : Al Str} (h : ∀ e ∈ rl, 0 ≤ e.1.1 ∧ 0 ≤ e.1.2 ∧ 1 ≤ e.1.1 + e.1.2 ∧ e.1.1 + e.1.2 ≤ lim) (c : Int × Int) : lk (entOf rl lim) c = lk rl c := by
  unfold entOf
  rw [ent_fold]
  by_cases e : c ∈ cnt lim ∧ has rl c = true
  · rw [if_pos e]
  · rw [if_neg e]
    cases z : lk rl c with
    | none => rfl
    | some x =>
      refine absurd ⟨mem_cnt.mpr ?_, by unfold has; rw [z]; rfl⟩ e
      exact h _ (lk_mem z)
theorem has_ent {lim : Nat} {rl : Al Str} (h : ∀ e ∈ rl, 0 ≤ e.1.1 ∧ 0 ≤ e.1.2 ∧ 1 ≤ e.1.1 + e.1.2 ∧ e.1.1 + e.1.2 ≤ lim) (c : Int × Int) : has (entOf rl lim) c = has rl c := by unfold has; rw [lk_ent h]
/-! the law's counting -/
def stopL (looks : List Int) (rl : Al Str) (c : Int × Int) : Bool := inI looks (c.1 + c.2) && has rl c
def wysL (lim : Nat) (looks : List Int) (rl : Al Str) : Al Int := sprI (fun c => !stopL looks rl c) 0 0 lim
def endP (lim : Nat) (looks : List Int) (rl : Al Str) (c : Int × Int) : Bool := stopL looks rl c && has (wysL lim looks rl) c
def enV (lim : Nat) (looks : List Int) (rl : Al Str) (c : Int × Int) : Dt := .tup [.int c.1, .int c.2, .str ((lk rl c).getD Str.empty), .int ((lk (wysL lim looks rl) c).getD 0)]
/-- the law's ends -/
def endC (lim : Nat) (looks : List Int) (rl : Al Str) : List (Int × Int) := (cnt lim).filter (endP lim looks rl)
theorem isEnd_mk {lim : Nat} {looks : List Int} {rl : Al Str} (h : Vr lim looks rl) (c : Int × Int) : (mkT lim looks rl).isEnd c = stopL looks rl c := by
  unfold Tb.isEnd stopL mkT
  rw [has_ent h.keys]
theorem reached_eq {lim : Nat} {looks : List Int} {rl : Al Str} (h : Vr lim looks rl) : (mkT lim looks rl).reached = wysL lim looks rl := by
  unfold Tb.reached wysL
  refine spr_congr fun c hc => ?_
  unfold Tb.go
  rw [isEnd_mk h]
  by_cases e : c = (0, 0)
  · rw [decide_eq_true e, e]
    have : stopL looks rl (0, 0) = false := by
      unfold stopL
      rw [Bool.and_eq_false_iff]
      left
      cases z : inI looks (0 + 0)
      · rfl
      · have := h.one _ (inI_iff.mp z)
        omega
    rw [this]; rfl
  · rw [decide_eq_false e]; rfl
theorem word_mk {lim : Nat} {looks : List Int} {rl : Al Str} (h : Vr lim looks rl) (c : Int × Int) : (mkT lim looks rl).word c = (lk rl c).getD Str.empty := by
  unfold Tb.word mkT
  rw [lk_ent h.keys]
theorem isIn_mk {lim : Nat} {looks : List Int} {rl : Al Str} (h : Vr lim looks rl) (c : Int × Int) : (mkT lim looks rl).isIn c = endP lim looks rl c := by
  unfold Tb.isIn endP
  rw [reached_eq h, isEnd_mk h, Bool.and_comm]
theorem stops_eq {lim : Nat} {looks : List Int} {rl : Al Str} (h : Vr lim looks rl) : (mkT lim looks rl).stops = (endC lim looks rl).map fun c => (c, (lk rl c).getD Str.empty) := by
  unfold Tb.stops endC
  have e : (mkT lim looks rl).isIn = endP lim looks rl := funext (isIn_mk h)
  rw [e]
  exact List.map_congr_left fun c _ => by rw [word_mk h]
theorem mem_endC {lim : Nat} {looks : List Int} {rl : Al Str} {c : Int × Int} (h : c ∈ endC lim looks rl) : 0 ≤ c.1 ∧ 0 ≤ c.2 ∧ 1 ≤ c.1 + c.2 ∧ c.1 + c.2 ≤ lim ∧ (∃ x, lk rl c = some x) ∧ ∃ v, lk (wysL lim looks rl) c = some v := by
  unfold endC at h
  rw [List.mem_filter] at h
  obtain ⟨h1, h2⟩ := h
  obtain ⟨a, b, d, e⟩ := mem_cnt.mp h1
  unfold endP stopL at h2
  rw [Bool.and_eq_true, Bool.and_eq_true] at h2
  exact ⟨a, b, d, e, Option.isSome_iff_exists.mp h2.1.2, Option.isSome_iff_exists.mp h2.2⟩
theorem lim_look {lim : Nat} {looks : List Int} {rl : Al Str} (h : Vr lim looks rl) : (lim : Int) ∈ looks := by
  obtain ⟨l', e⟩ := h.last
  rw [e]; simp
/-- the law's last sum -/
theorem law_total {lim : Nat} {looks : List Int} {rl : Al Str} (h : Vr lim looks rl) : sumL (fun c => (lk (wysL lim looks rl) c).getD 0 * 2 ^ (lim - (c.1 + c.2).toNat)) (endC lim looks rl) = 2 ^ lim := by
  have e := ends_total (lim := lim) (go := fun c => !stopL looks rl c) (fun c h0 h1 hl => by
    have z : stopL looks rl c = true := by
      unfold stopL
      rw [Bool.and_eq_true]
      refine ⟨inI_iff.mpr (by rw [hl]; exact lim_look h), ?_⟩
      have := h.full c.1.toNat (by omega)
      rwa [show (((c.1.toNat : Nat) : Int), (lim : Int) - ((c.1.toNat : Nat) : Int)) = c from Prod.ext (by dsimp only; omega) (by dsimp only; omega)] at this
    rw [z]; rfl) (fun _ => by
    have z : stopL looks rl (0, 0) = false := by
      unfold stopL
      rw [Bool.and_eq_false_iff]
      left
      cases z : inI looks (0 + 0)
      · rfl
      · have := h.one _ (inI_iff.mp z)
        omega
    rw [z]; rfl) h.l1
  rw [← e]
  unfold endC
  have go : ∀ L : List (Int × Int), sumL (fun c => (lk (wysL lim looks rl) c).getD 0 * 2 ^ (lim - (c.1 + c.2).toNat)) (L.filter (endP lim looks rl)) = sumL (fun p => if (!stopL looks rl p) = true then 0 else pw2 lim p * (lk (wysL lim looks rl) p).getD 0) L := fun L => by
    induction L with
    | nil => rfl
    | cons c L ih =>
      cases hc : endP lim looks rl c
      · rw [List.filter_cons_of_neg (by rw [hc]; decide), ih]
        show _ = (if _ then _ else _) + _
        have : (if (!stopL looks rl c) = true then (0 : Int) else pw2 lim c * (lk (wysL lim looks rl) c).getD 0) = 0 := by
          cases hs : stopL looks rl c
          · rfl
          · rw [if_neg (by decide)]
            unfold endP at hc
            rw [hs, Bool.true_and] at hc
            unfold has at hc
            cases z : lk (wysL lim looks rl) c
            · show _ * (0 : Int) = 0; exact Int.mul_zero _
            · rw [z] at hc; cases hc
        rw [this, Int.zero_add]
      · rw [List.filter_cons_of_pos hc]
        unfold sumL
        rw [ih]
        unfold endP at hc
        rw [Bool.and_eq_true] at hc
        rw [hc.1, if_neg (by decide)]
        unfold pw2
        rw [Int.mul_comm]
  exact go _
/-! promises -/
abbrev ptD (lim : Nat) (looks : List Int) (rl : Al Str) : Dt := .tup [.int (lim : Nat), .lst (looks.map .int), dA .str rl]
def ph__law_word : Ph := fun ds q _ => ds = [] ∧ ∀ x, Wd x → q (.str x)
theorem u__law_word {q : Dt → Prop} {x : XD} (_ : True) (p : ∀ x, Wd x → q (.str x)) : ph__law_word [] q x := ⟨rfl, p⟩
def ph__law_parts : Ph := fun ds q _ => ∃ m : Int, ds = [.int m] ∧ (0 < m ∧ m ≤ 30) ∧ ∀ lim looks rl, Vt lim looks rl → (lim : Int) ≤ m → q (ptD lim looks rl)
theorem u__law_parts {m : Int} {q : Dt → Prop} {x : XD} (h : 0 < m ∧ m ≤ 30) (p : ∀ lim looks rl, Vt lim looks rl → (lim : Int) ≤ m → q (ptD lim looks rl)) : ph__law_parts [.int m] q x := ⟨m, rfl, h, p⟩
def ph_check_table : Ph := fun ds q _ => ∃ lim looks rl, ds = [.int (lim : Nat), .lst (looks.map .int), dA .str rl] ∧ Vr lim looks rl ∧ q .non
theorem u_check_table {lim : Nat} {looks : List Int} {rl : Al Str} {q : Dt → Prop} {x : XD} (h : Vr lim looks rl) (p : q .non) : ph_check_table [.int (lim : Nat), .lst (looks.map .int), dA .str rl] q x := ⟨_, _, _, rfl, h, p⟩
def ph_Table___init__ (C : Addr) : Ph := fun ds q _ => ∃ lim looks rl, ds = [.int (lim : Nat), .lst (looks.map .int), dA .str rl] ∧ Vr lim looks rl ∧ q (tabD C (mkT lim looks rl))
theorem u_Table___init__ {C : Addr} {lim : Nat} {looks : List Int} {rl : Al Str} {q : Dt → Prop} {x : XD} (h : Vr lim looks rl) (p : q (tabD C (mkT lim looks rl))) : ph_Table___init__ C [.int (lim : Nat), .lst (looks.map .int), dA .str rl] q x := ⟨_, _, _, rfl, h, p⟩
def ph__law_table (C : Addr) : Ph := fun ds q _ => ∃ lim looks rl, ds = [ptD lim looks rl] ∧ Vt lim looks rl ∧ q (tabD C (mkT lim looks rl))
theorem u__law_table {C : Addr} {lim : Nat} {looks : List Int} {rl : Al Str} {q : Dt → Prop} {x : XD} (h : Vt lim looks rl) (p : q (tabD C (mkT lim looks rl))) : ph__law_table C [ptD lim looks rl] q x := ⟨_, _, _, rfl, h, p⟩
def ph__law_ways : Ph := fun ds q _ => ∃ lim looks rl, ds = [ptD lim looks rl] ∧ Vt lim looks rl ∧ q (dA .int (wysL lim looks rl))
theorem u__law_ways {lim : Nat} {looks : List Int} {rl : Al Str} {q : Dt → Prop} {x : XD} (h : Vt lim looks rl) (p : q (dA .int (wysL lim looks rl))) : ph__law_ways [ptD lim looks rl] q x := ⟨_, _, _, rfl, h, p⟩
def ph__law_ends : Ph := fun ds q _ => ∃ lim looks rl, ds = [ptD lim looks rl] ∧ Vt lim looks rl ∧ q (.lst ((endC lim looks rl).map (enV lim looks rl)))
theorem u__law_ends {lim : Nat} {looks : List Int} {rl : Al Str} {q : Dt → Prop} {x : XD} (h : Vt lim looks rl) (p : q (.lst ((endC lim looks rl).map (enV lim looks rl)))) : ph__law_ends [ptD lim looks rl] q x := ⟨_, _, _, rfl, h, p⟩
def ph_Table_is_end (C : Addr) : Ph := fun ds q _ => ∃ T ns xs w l, ds = [tb3 C T ns xs, .int w, .int l] ∧ q (.bl (T.isEnd (w, l)))
theorem u_Table_is_end {C : Addr} {T : Tb} {ns : List Str} {xs : List Dt} {w l : Int} {q : Dt → Prop} {x : XD} (_ : True) (p : q (.bl (T.isEnd (w, l)))) : ph_Table_is_end C [tb3 C T ns xs, .int w, .int l] q x := ⟨_, _, _, _, _, rfl, p⟩
def noE (ns : List Str) : Prop := (ns.any fun z => z == ("is_end" : Str)) = false
def ph_Table_spread (C : Addr) : Ph := fun ds q _ => ∃ T ns xs w l, ds = [tb3 C T ns xs, .int w, .int l] ∧ (noE ns ∧ T.lim ≤ 30 ∧ 0 ≤ w ∧ 0 ≤ l ∧ w + l ≤ 1000) ∧ q (dA .int (sprI (T.go (w, l)) w l (T.lim - (w + l)).toNat))
theorem u_Table_spread {C : Addr} {T : Tb} {ns : List Str} {xs : List Dt} {w l : Int} {q : Dt → Prop} {x : XD} (h : noE ns ∧ T.lim ≤ 30 ∧ 0 ≤ w ∧ 0 ≤ l ∧ w + l ≤ 1000) (p : q (dA .int (sprI (T.go (w, l)) w l (T.lim - (w + l)).toNat))) : ph_Table_spread C [tb3 C T ns xs, .int w, .int l] q x := ⟨_, _, _, _, _, rfl, h, p⟩
def ph_Table___contains__ (C : Addr) : Ph := fun ds q _ => ∃ T ns xs c, ds = [tb4 C T ns xs, .key (kk c)] ∧ noE ns ∧ q (.bl (T.isIn c))
theorem u_Table___contains__ {C : Addr} {T : Tb} {ns : List Str} {xs : List Dt} {c : Int × Int} {q : Dt → Prop} {x : XD} (h : noE ns) (p : q (.bl (T.isIn c))) : ph_Table___contains__ C [tb4 C T ns xs, .key (kk c)] q x := ⟨_, _, _, _, rfl, h, p⟩
def ph_Table_ways (C : Addr) : Ph := fun ds q _ => ∃ T w l, ds = [tabD C T, .int w, .int l] ∧ q (.int ((lk T.reached (w, l)).getD 0))
theorem u_Table_ways {C : Addr} {T : Tb} {w l : Int} {q : Dt → Prop} {x : XD} (_ : True) (p : q (.int ((lk T.reached (w, l)).getD 0))) : ph_Table_ways C [tabD C T, .int w, .int l] q x := ⟨_, _, _, rfl, p⟩
def ph_Table_ends (C : Addr) : Ph := fun ds q _ => ∃ T, ds = [tabD C T] ∧ q (.lst (T.stops.map stD))
theorem u_Table_ends {C : Addr} {T : Tb} {q : Dt → Prop} {x : XD} (_ : True) (p : q (.lst (T.stops.map stD))) : ph_Table_ends C [tabD C T] q x := ⟨_, rfl, p⟩
def ph_Table___len__ (C : Addr) : Ph := fun ds q _ => ∃ T, ds = [tabD C T] ∧ q (.int (T.stops.length : Nat))
theorem u_Table___len__ {C : Addr} {T : Tb} {q : Dt → Prop} {x : XD} (_ : True) (p : q (.int (T.stops.length : Nat))) : ph_Table___len__ C [tabD C T] q x := ⟨_, rfl, p⟩
/-- words in the order of their first occurrence -/
def addW (l : List Str) (x : Str) : List Str := if x ∈ l then l else l ++ [x]
def wordsT (l : List ((Int × Int) × Str)) : List Str := l.foldl (fun a e => addW a e.2) []
def okSt (T : Tb) : Prop := (∀ e ∈ T.stops, PyData.strOk e.2 = true) ∧ T.stops.length ≤ 1000
def ph_Table_words (C : Addr) : Ph := fun ds q _ => ∃ T, ds = [tabD C T] ∧ okSt T ∧ q (.tup ((wordsT T.stops).map .str))
theorem u_Table_words {C : Addr} {T : Tb} {q : Dt → Prop} {x : XD} (h : okSt T) (p : q (.tup ((wordsT T.stops).map .str))) : ph_Table_words C [tabD C T] q x := ⟨_, rfl, h, p⟩
theorem eqD_str (a b : Str) : eqD (.str a) (.str b) = decide (a = b) := by
  unfold eqD
  simp only [toP, PyData.eqv]
  rw [Bool.eq_iff_iff]
  simp
theorem any_str (x : Str) (l : List Str) : ((l.map Dt.str).any fun z => eqD z (.str x)) = decide (x ∈ l) := by
  induction l with
  | nil => simp
  | cons a l ih =>
    rw [List.map_cons, List.any_cons, ih, eqD_str]
    by_cases h : a = x
    · simp [h]
    · have h' : ¬ x = a := fun z => h z.symm
      simp [h, h']
theorem ok_strs {l : List Str} (h : ∀ x ∈ l, PyData.strOk x = true) : okD (.lst (l.map .str)) = true := by
  show ((l.map Dt.str).all (okN 11)) = true
  rw [List.all_eq_true]
  intro d hd
  obtain ⟨x, hx, rfl⟩ := List.mem_map.mp hd
  exact h x hx
theorem addW_mem {l : List Str} {x y : Str} (h : y ∈ addW l x) : y ∈ l ∨ y = x := by
  unfold addW at h
  split at h
  · exact .inl h
  · rcases List.mem_append.mp h with h | h
    · exact .inl h
    · exact .inr (List.mem_singleton.mp h)
theorem map_bl {α : Type} (g : α → Bool) (l : List α) : (l.map fun i => Dt.bl (g i)) = (l.map g).map Dt.bl := by rw [List.map_map]; rfl
theorem any_false {α : Type} {g : α → Bool} {l : List α} (h : ∀ x ∈ l, g x = false) : (l.map g).any id = false := by
  rw [List.any_map, List.any_eq_false]
  intro x hx
  show ¬ g x = true
  rw [h x hx]; decide
theorem at_lastC (l : List Int) (z : Int) : atI ((l ++ [z]).map Dt.int) (-1) = some (.int z) := by
  unfold atI ixN
  simp
  rw [if_pos (by omega)]
  show (l.map Dt.int ++ [Dt.int z])[(-1 + ((l.length : Int) + 1)).toNat]? = _
  rw [show (-1 + ((l.length : Int) + 1)).toNat = (l.map Dt.int).length by rw [List.length_map]; omega, List.getElem?_concat_length]
theorem pw_cf {l : List Int} (h : l.Pairwise (· < ·)) {i : Nat} (hi : i + 1 < l.length) : cf l i < cf l (i + 1) := by
  have e1 : l[i]? = some (cf l i) := cf_lt (by omega)
  have e2 : l[i + 1]? = some (cf l (i + 1)) := cf_lt hi
  rw [List.getElem?_eq_getElem (by omega)] at e1
  rw [List.getElem?_eq_getElem hi] at e2
  have := List.pairwise_iff_getElem.mp h i (i + 1) (by omega) hi (by omega)
  rw [Option.some.inj e1, Option.some.inj e2] at this
  exact this
theorem keys_get {α : Type} {m : Al α} {i : Nat} {q : List Key} (h : (keysA m)[i]? = some q) : ∃ e ∈ m, q = kk e.1 := by
  unfold keysA at h
  rw [List.getElem?_map] at h
  cases z : m[i]? with
  | none => rw [z] at h; cases h
  | some e => rw [z] at h; cases h; exact ⟨e, List.mem_of_getElem? z, rfl⟩
theorem fre_stops (κ : Nat) (l : List ((Int × Int) × Str)) : freL κ (l.map stD) = true := by
  induction l with
  | nil => rfl
  | cons e l ih => show (fre κ (stD e) && freL κ _) = true; rw [ih]; rfl
theorem fre_dA_int {m : Al Int} : fre 2 (dA .int m) = true := fre_ints 2 (fun e : (Int × Int) × Int => e.2) m
theorem take_get {α : Type} {L : List α} {i : Nat} {c : α} (h : L[i]? = some c) : L.take (i + 1) = L.take i ++ [c] := by
  rw [List.take_succ, h]; rfl
theorem isIn_word {T : Tb} {c : Int × Int} (h : T.isIn c = true) : lk T.ent c = some (T.word c) := by
  unfold Tb.isIn Tb.isEnd at h
  rw [Bool.and_eq_true, Bool.and_eq_true] at h
  obtain ⟨x, hx⟩ := Option.isSome_iff_exists.mp h.2.2
  unfold Tb.word
  rw [hx]; rfl
theorem strs_of {p : Str → Prop} : ∀ {acc : List Dt}, (∀ y ∈ acc, ∃ x : Str, y = .str x ∧ p x) → ∃ l : List Str, acc = l.map .str ∧ l.length = acc.length ∧ ∀ x ∈ l, p x
  | [], _ => ⟨[], rfl, rfl, fun _ h => by cases h⟩
  | a :: acc, h => by
    obtain ⟨x, rfl, px⟩ := h a List.mem_cons_self
    obtain ⟨l, rfl, hl, hp⟩ := strs_of (acc := acc) fun y hy => h y (List.mem_cons_of_mem _ hy)
    refine ⟨x :: l, rfl, by simp, fun z hz => ?_⟩
    cases hz with
    | head => exact px
    | tail _ hz => exact hp z hz
theorem strOk_S {l : List Nat} (h : ∀ c ∈ l, c < 0x110000) : PyData.strOk (SX.S l) = true := by
  unfold PyData.strOk
  rw [Array.all_eq_true]
  intro i hi
  have : (SX.S l).cps[i] ∈ (SX.S l).cps.toList := Array.mem_toList_iff.mpr (Array.getElem_mem hi)
  exact decide_eq_true (h _ this)
theorem wordL_ok {k : Str} (hk : IsKind k) (n d : Nat) : PyData.strOk (SX.S (wordL k n d)) = true := by
  refine strOk_S fun c hc => ?_
  unfold wordL at hc
  rw [List.mem_append, List.mem_cons, List.mem_append, List.mem_cons] at hc
  rcases hc with h | h | h | h | h
  · have := hk.ok
    unfold PyData.strOk at this
    rw [Array.all_eq_true] at this
    obtain ⟨i, hi, e⟩ := List.getElem_of_mem h
    have := this i (by simpa using hi)
    rw [← e]
    simpa using of_decide_eq_true this
  · omega
  · have := TL.numL_digits n c h; omega
  · omega
  · have := TL.numL_digits d c h; omega
theorem wd_k {k : Str} (hk : IsKind k) {n d : Nat} (hn : 0 < n) (hnd : n < d) (hd : d < 10 ^ 30) (hg : Nat.gcd n d = 1) : Wd (SX.S (wordL k n d)) := ⟨.inr ⟨k, n, d, hk, hn, hnd, hd, hg, rfl⟩, wordL_ok hk n d⟩
theorem wd_no : Wd (Str.ofString "no word") := ⟨.inl rfl, by decide +kernel⟩
theorem Wd.rd {x : Str} (h : Wd x) : ∃ l w, x = SX.S l ∧ l.length ≤ 90000 ∧ rdWord l = some w := by
  rcases h.1 with rfl | ⟨k, n, d, hk, hn, hnd, hd, hg, rfl⟩
  · refine ⟨(Str.ofString "no word").cps.toList, (Str.ofString "no word", none), (SX.S_tl _).symm, by decide, ?_⟩
    unfold rdWord
    rw [if_pos (SX.S_tl _)]
  · refine ⟨_, (k, some ((n : Int), (d : Int))), rfl, ?_, ?_⟩
    · exact Nat.le_trans (wordL_len hk (by omega) (by omega)) (by decide)
    · rw [rdWord_k hk, rdShare_num hn hnd hd hg]; rfl
/-! the law's rule as it is drawn -/
def RlOk (L : List (Nat × Nat)) (rl : Al Str) : Prop := ∃ ks : List (Nat × Nat), ks.Sublist L ∧ rl.map (·.1) = ks.map castP ∧ ∀ e ∈ rl, Wd e.2
def nRow (i j : Nat) : List (Nat × Nat) := (List.range j).map fun a => (a, i + 1 - a)
theorem nRow_succ (i j : Nat) : nRow i (j + 1) = nRow i j ++ [(j, i + 1 - j)] := by unfold nRow; rw [List.range_succ, List.map_append]; rfl
theorem RlOk.nil : RlOk (cnN 0) [] := ⟨[], List.Sublist.refl _, rfl, fun _ h => by cases h⟩
theorem RlOk.skip {L : List (Nat × Nat)} {rl : Al Str} (h : RlOk L rl) (c : Nat × Nat) : RlOk (L ++ [c]) rl := by
  obtain ⟨ks, a, b, d⟩ := h
  exact ⟨ks, a.trans (List.sublist_append_left _ _), b, d⟩
theorem lk_none {α : Type} {p : Int × Int} : ∀ {m : Al α}, p ∉ m.map (·.1) → lk m p = none
  | [], _ => rfl
  | e :: m, h => by
    unfold lk
    rw [if_neg (fun z => h (by rw [List.map_cons, z]; exact List.mem_cons_self))]
    exact lk_none fun z => h (by rw [List.map_cons]; exact List.mem_cons_of_mem _ z)
theorem RlOk.add {L : List (Nat × Nat)} {rl : Al Str} (h : RlOk L rl) {c : Nat × Nat} (hc : c ∉ L) {x : Str} (hx : Wd x) : RlOk (L ++ [c]) (put rl (castP c) x) ∧ put rl (castP c) x = rl ++ [(castP c, x)] := by
  obtain ⟨ks, a, b, d⟩ := h
  have e : put rl (castP c) x = rl ++ [(castP c, x)] := by
    unfold put
    rw [if_neg]
    unfold has
    rw [lk_none]
    · decide
    · rw [b]
      intro z
      obtain ⟨p, hp, ep⟩ := List.mem_map.mp z
      rw [castP_inj ep] at hp
      exact hc (a.subset hp)
  refine ⟨?_, e⟩
  rw [e]
  refine ⟨ks ++ [c], a.append (List.Sublist.refl _), by rw [List.map_append, List.map_append, b]; rfl, fun z hz => ?_⟩
  rcases List.mem_append.mp hz with hz | hz
  · exact d z hz
  · rw [List.mem_singleton.mp hz]; exact hx
theorem RlOk.len {L : List (Nat × Nat)} {rl : Al Str} (h : RlOk L rl) : rl.length ≤ L.length := by
  obtain ⟨ks, a, b, _⟩ := h
  have e : (rl.map (·.1)).length = (ks.map castP).length := by rw [b]
  rw [List.length_map, List.length_map] at e
  have := a.length_le
  omega
theorem nRow_new {i j : Nat} (hj : j ≤ i + 1) : (j, i + 1 - j) ∉ cnN i ++ nRow i j := by
  rw [List.mem_append]
  rintro (h | h)
  · have : castP (j, i + 1 - j) ∈ cnt i := by rw [cnt_cast]; exact List.mem_map_of_mem h
    have := mem_cnt.mp this
    have h2 : ((castP (j, i + 1 - j)).1 : Int) + (castP (j, i + 1 - j)).2 = (j : Int) + ((i + 1 - j : Nat) : Int) := rfl
    omega
  · unfold nRow at h
    obtain ⟨a, ha, e⟩ := List.mem_map.mp h
    have := List.mem_range.mp ha
    have : a = j := congrArg Prod.fst e
    omega
theorem has_put {α : Type} {m : Al α} {p q : Int × Int} {a : α} (h : has m q = true ∨ p = q) : has (put m p a) q = true := by
  unfold has
  rw [lk_put]
  by_cases e : p = q
  · rw [if_pos e]; rfl
  · rw [if_neg e]
    rcases h with h | h
    · exact h
    · exact absurd h e
theorem rl_lens {i j : Nat} {rl : Al Str} (h : RlOk (cnN i ++ nRow i j) rl) (hi : i ≤ 30) (hj : j ≤ 31) : rl.length < 100000 := by
  have h1 := h.len
  have h2 := cnt_len hi
  rw [cnt_cast, List.length_map] at h2
  rw [List.length_append] at h1
  have h3 : (nRow i j).length = j := by unfold nRow; simp
  omega
theorem vt_of {lim : Nat} {l : List Int} {rl : Al Str} (h1 : 1 ≤ lim) (h30 : lim ≤ 30) (hp : l.Pairwise (· < ·)) (hb : ∀ z ∈ l, 1 ≤ z ∧ z < lim) (hl : l.length < lim) (hr : RlOk (cnN lim) rl) (hf : ∀ j : Nat, j ≤ lim → has rl ((j : Int), (lim : Int) - j) = true) : Vt lim (l ++ [(lim : Int)]) rl := by
  obtain ⟨ks, a, b, d⟩ := hr
  refine ⟨⟨h1, h30, by rw [List.length_append]; show l.length + 1 ≤ 30; omega, ?_, ?_, ⟨l, rfl⟩, ?_, d, hf⟩, ⟨ks, a, b⟩⟩
  · rw [List.pairwise_append]
    refine ⟨hp, List.pairwise_singleton _ _, fun x hx y hy => ?_⟩
    rw [List.mem_singleton.mp hy]
    exact (hb x hx).2
  · intro z hz
    rcases List.mem_append.mp hz with hz | hz
    · exact (hb z hz).1
    · rw [List.mem_singleton.mp hz]; omega
  · intro e he
    have : e.1 ∈ rl.map (·.1) := List.mem_map_of_mem he
    rw [b] at this
    obtain ⟨p, hp, ep⟩ := List.mem_map.mp this
    have : e.1 ∈ cnt lim := by rw [cnt_cast, ← ep]; exact List.mem_map_of_mem (a.subset hp)
    exact mem_cnt.mp this
theorem ends_len {lim : Nat} (h : lim ≤ 30) (p : Int × Int → Bool) (i j : Nat) (hi : i ≤ lim) (hj : j ≤ 40) : (((cnt i ++ cRow (1 + (i : Nat)) j).filter p)).length < 100000 := by
  have h1 := List.length_filter_le p (cnt i ++ cRow (1 + (i : Nat)) j)
  have h2 := cnt_len (n := i) (by omega)
  rw [List.length_append] at h1
  have h3 : (cRow (1 + (i : Nat)) j).length = j := by unfold cRow; simp
  omega
theorem words_ok {l : List ((Int × Int) × Str)} (h : ∀ e ∈ l, PyData.strOk e.2 = true) : (∀ x ∈ wordsT l, PyData.strOk x = true) ∧ (wordsT l).length ≤ l.length := by
  have go : ∀ (l : List ((Int × Int) × Str)) (a : List Str), (∀ e ∈ l, PyData.strOk e.2 = true) → (∀ x ∈ a, PyData.strOk x = true) → (∀ x ∈ l.foldl (fun a e => addW a e.2) a, PyData.strOk x = true) ∧ (l.foldl (fun a e => addW a e.2) a).length ≤ a.length + l.length := fun l => by
    induction l with
    | nil => intro a _ h; exact ⟨h, by simp⟩
    | cons e l ih =>
      intro a h1 h2
      have h3 : ∀ x ∈ addW a e.2, PyData.strOk x = true := fun x hx => by
        rcases addW_mem hx with z | z
        · exact h2 x z
        · rw [z]; exact h1 e List.mem_cons_self
      obtain ⟨a1, a2⟩ := ih (addW a e.2) (fun z hz => h1 z (List.mem_cons_of_mem _ hz)) h3
      refine ⟨a1, ?_⟩
      have : (addW a e.2).length ≤ a.length + 1 := by unfold addW; split <;> simp
      simp only [List.foldl_cons, List.length_cons]
      omega
  have := go l [] h (fun _ h => by cases h)
  simpa [wordsT] using this
/-! for the laws -/
theorem dueT_eq {lim : Nat} {looks : List Int} {rl : Al Str} (h : Vr lim looks rl) : ((endC lim looks rl).map fun c => stD (c, (lk rl c).getD Str.empty)) = (mkT lim looks rl).stops.map stD := by rw [stops_eq h, List.map_map]; rfl
theorem isIn_mem {lim : Nat} {looks : List Int} {rl : Al Str} (h : Vr lim looks rl) {c : Int × Int} (hc : (mkT lim looks rl).isIn c = true) : c ∈ cnt lim := by
  rw [isIn_mk h] at hc
  unfold endP stopL at hc
  rw [Bool.and_eq_true, Bool.and_eq_true] at hc
  obtain ⟨x, hx⟩ := Option.isSome_iff_exists.mp hc.1.2
  exact mem_cnt.mpr (h.keys _ (lk_mem hx))
theorem ok_pairs (l : List (Int × Int)) : okD (.lst (l.map ratD)) = true := by
  show ((l.map ratD).all (okN 11)) = true
  rw [List.all_eq_true]
  intro d hd
  obtain ⟨x, hx, rfl⟩ := List.mem_map.mp hd
  rfl
theorem any_pair (l : List (Int × Int)) (c : Int × Int) : ((l.map ratD).any fun z => eqD z (.tup [.int c.1, .int c.2])) = decide (c ∈ l) := by
  have e : (.tup [.int c.1, .int c.2] : Dt) = ratD c := rfl
  rw [e]
  induction l with
  | nil => simp
  | cons a l ih =>
    rw [List.map_cons, List.any_cons, ih, eqD_rat]
    by_cases h : a = c
    · simp [h]
    · have h' : ¬ c = a := fun z => h z.symm
      simp [h, h']
theorem mem_stops {lim : Nat} {looks : List Int} {rl : Al Str} (h : Vr lim looks rl) (c : Int × Int) : decide (c ∈ (mkT lim looks rl).stops.map (·.1)) = (mkT lim looks rl).isIn c := by
  have e : (mkT lim looks rl).stops.map (·.1) = (cnt lim).filter (mkT lim looks rl).isIn := by unfold Tb.stops; rw [List.map_map]; exact List.map_id _
  rw [e, Bool.eq_iff_iff, decide_eq_true_eq, List.mem_filter]
  exact ⟨fun z => z.2, fun z => ⟨isIn_mem h z, z⟩⟩
theorem okSt_mk {lim : Nat} {looks : List Int} {rl : Al Str} (h : Vr lim looks rl) : okSt (mkT lim looks rl) := by
  constructor
  · intro e he
    rw [stops_eq h] at he
    obtain ⟨c, hc, rfl⟩ := List.mem_map.mp he
    obtain ⟨_, _, _, _, ⟨x, hx⟩, _⟩ := mem_endC hc
    show PyData.strOk ((lk rl c).getD Str.empty) = true
    rw [hx]
    exact (h.words _ (lk_mem hx)).2
  · rw [stops_eq h, List.length_map]
    unfold endC
    have h1 := List.length_filter_le (endP lim looks rl) (cnt lim)
    have h2 := cnt_len h.l30
    omega
theorem ok_stops {T : Tb} (h : okSt T) : okD (.lst (T.stops.map stD)) = true := by
  show ((T.stops.map stD).all (okN 11)) = true
  rw [List.all_eq_true]
  intro d hd
  obtain ⟨e, he, rfl⟩ := List.mem_map.mp hd
  have := h.1 e he
  show ([Dt.int e.1.1, Dt.int e.1.2, Dt.str e.2].all (okN 10)) = true
  simp [okN, this]
theorem ok_strsT {l : List Str} (h : ∀ x ∈ l, PyData.strOk x = true) : okD (.tup (l.map .str)) = true := by
  show ((l.map Dt.str).all (okN 11)) = true
  rw [List.all_eq_true]
  intro d hd
  obtain ⟨x, hx, rfl⟩ := List.mem_map.mp hd
  exact h x hx
theorem sumL_take {f : Int × Int → Int} {L : List (Int × Int)} {i : Nat} {c : Int × Int} (h : L[i]? = some c) : sumL f (L.take (i + 1)) = sumL f (L.take i) + f c := by
  have go : ∀ (A : List (Int × Int)), sumL f (A ++ [c]) = sumL f A + f c := fun A => by
    induction A with
    | nil => show f c + 0 = 0 + f c; omega
    | cons a A ih => show f a + sumL f (A ++ [c]) = f a + sumL f A + f c; rw [ih]; omega
  rw [take_get h, go]
end VS
set_option Elab.async false
set_option linter.all false
set_option maxRecDepth 100000
/-! plain: chances and costs of tables. -/
namespace VS
open PySem PySem.Spec L2
/-- what a sum of paths comes to -/
def accS (f : Int × Int → Int) (a : List Int) (c : Int × Int) : List Int := trimL (addL a (trimL (scL (f c) (pathL c.1.toNat c.2.toNat))))
def accP (f : Int × Int → Int) (L : List (Int × Int)) : List Int := L.foldl (accS f) []
theorem accP_snoc (f : Int × Int → Int) (L : List (Int × Int)) (c : Int × Int) : accP f (L ++ [c]) = accS f (accP f L) c := by unfold accP; rw [List.foldl_append]; rfl
theorem accP_take {f : Int × Int → Int} {L : List (Int × Int)} {i : Nat} {c : Int × Int} (h : L[i]? = some c) : accP f (L.take (i + 1)) = accS f (accP f (L.take i)) c := by rw [take_get h, accP_snoc]
theorem accP_congr {f g : Int × Int → Int} {L : List (Int × Int)} (h : ∀ c ∈ L, f c = g c) : accP f L = accP g L := by
  unfold accP
  exact fold_congr L [] fun a c hc => by unfold accS; rw [h c hc]
theorem accP_tr (f : Int × Int → Int) (L : List (Int × Int)) : Tr (accP f L) := by
  rcases List.eq_nil_or_concat L with rfl | ⟨L', c, rfl⟩
  · exact tr_nil
  · rw [List.concat_eq_append, accP_snoc]
    exact tr_trim _
theorem accP_len (f : Int × Int → Int) {N : Nat} : ∀ {L : List (Int × Int)}, (∀ c ∈ L, 0 ≤ c.1 ∧ 0 ≤ c.2 ∧ c.1 + c.2 ≤ N) → (accP f L).length ≤ N + 1 := by
  intro L h
  have go : ∀ (L : List (Int × Int)) (a : List Int), (∀ c ∈ L, 0 ≤ c.1 ∧ 0 ≤ c.2 ∧ c.1 + c.2 ≤ N) → a.length ≤ N + 1 → (L.foldl (accS f) a).length ≤ N + 1 := fun L => by
    induction L with
    | nil => intro a _ h; exact h
    | cons c L ih =>
      intro a h1 h2
      refine ih _ (fun x hx => h1 x (List.mem_cons_of_mem _ hx)) ?_
      obtain ⟨c0, c1, c2⟩ := h1 c List.mem_cons_self
      unfold accS
      refine Nat.le_trans (trim_len _) ?_
      rw [len_add]
      have e1 := trim_len (scL (f c) (pathL c.1.toNat c.2.toNat))
      have e2 : (scL (f c) (pathL c.1.toNat c.2.toNat)).length = c.1.toNat + c.2.toNat + 1 := by rw [← len_path]; unfold scL; simp
      omega
  exact go L [] h (by simp)
/-- values of dicts of ways are not negative -/
theorem spr_nn (go : Int × Int → Bool) (L : List (Int × Int)) : ∀ (m : Al Int), (∀ c v, lk m c = some v → 0 ≤ v) → ∀ c v, lk (L.foldl (stepM go) m) c = some v → 0 ≤ v := by
  induction L with
  | nil => intro m h; exact h
  | cons a L ih =>
    intro m h
    refine ih _ ?_
    have hg : ∀ c, 0 ≤ (lk m c).getD 0 := fun c => by
      cases z : lk m c with
      | none => exact Int.le_refl 0
      | some v => exact h c v z
    cases hk : lk m a with
    | none => rw [stepM_none hk]; exact h
    | some v =>
      cases hgo : go a
      · rw [stepM_stop hgo]; exact h
      · rw [stepM_go hk hgo]
        have hv := h a v hk
        have h1 : ∀ c u, lk (put m (a.1 + 1, a.2) ((lk m (a.1 + 1, a.2)).getD 0 + v)) c = some u → 0 ≤ u := fun c u hu => by
          rw [lk_put] at hu
          split at hu
          · cases hu; have := hg (a.1 + 1, a.2); omega
          · exact h c u hu
        intro c u hu
        rw [lk_put] at hu
        split at hu
        · cases hu
          have : 0 ≤ (lk (put m (a.1 + 1, a.2) ((lk m (a.1 + 1, a.2)).getD 0 + v)) (a.1, a.2 + 1)).getD 0 := by
            cases z : lk (put m (a.1 + 1, a.2) ((lk m (a.1 + 1, a.2)).getD 0 + v)) (a.1, a.2 + 1) with
            | none => exact Int.le_refl 0
            | some v => exact h1 _ v z
          omega
        · exact h1 c u hu
theorem wys_nn {lim : Nat} {looks : List Int} {rl : Al Str} (c : Int × Int) : 0 ≤ (lk (wysL lim looks rl) c).getD 0 := by
  cases z : lk (wysL lim looks rl) c with
  | none => exact Int.le_refl 0
  | some v =>
    refine spr_nn _ (sCells 0 0 lim) [((0, 0), 1)] ?_ c v z
    intro c v h
    unfold lk at h
    split at h
    · cases h; decide
    · cases h
theorem sumL_le {f : Int × Int → Int} {L : List (Int × Int)} (h : ∀ c ∈ L, 0 ≤ f c) {c : Int × Int} (hc : c ∈ L) : f c ≤ sumL f L := by
  induction L with
  | nil => cases hc
  | cons a L ih =>
    have h0 : ∀ M : List (Int × Int), (∀ c ∈ M, 0 ≤ f c) → 0 ≤ sumL f M := fun M => by
      induction M with
      | nil => intro _; exact Int.le_refl 0
      | cons b M ih => intro h; have := h b List.mem_cons_self; have := ih fun c hc => h c (List.mem_cons_of_mem _ hc); show 0 ≤ f b + sumL f M; omega
    show f c ≤ f a + sumL f L
    cases hc with
    | head => have := h0 L fun c hc => h c (List.mem_cons_of_mem _ hc); omega
    | tail _ hc =>
      have := ih (fun c hc => h c (List.mem_cons_of_mem _ hc)) hc
      have := h a List.mem_cons_self
      omega
/-- no end has more ways than there are orders -/
theorem wys_le {lim : Nat} {looks : List Int} {rl : Al Str} (h : Vr lim looks rl) {c : Int × Int} (hc : c ∈ endC lim looks rl) : (lk (wysL lim looks rl) c).getD 0 ≤ 2 ^ 30 := by
  have h0 : ∀ c ∈ endC lim looks rl, 0 ≤ (fun c => (lk (wysL lim looks rl) c).getD 0 * 2 ^ (lim - (c.1 + c.2).toNat)) c := fun c _ => Int.mul_nonneg (wys_nn c) (Int.le_of_lt (Int.pow_pos (by decide)))
  have h1 := sumL_le h0 hc
  rw [law_total h] at h1
  have h2 : (1 : Int) ≤ 2 ^ (lim - (c.1 + c.2).toNat) := Int.pow_pos (by decide)
  have h3 : (lk (wysL lim looks rl) c).getD 0 * 1 ≤ (lk (wysL lim looks rl) c).getD 0 * 2 ^ (lim - (c.1 + c.2).toNat) := Int.mul_le_mul_of_nonneg_left h2 (wys_nn c)
  have h4 : (2 : Int) ^ lim ≤ 2 ^ 30 := by
    have := Nat.pow_le_pow_right (n := 2) (by decide) h.l30
    exact_mod_cast this
  rw [Int.mul_one] at h3
  exact Int.le_trans h3 (Int.le_trans h1 h4)
/-! tables whose sums are small -/
structure OkT (T : Tb) : Prop where
  lim : T.lim ≤ 30
  looks : T.looks.length ≤ 30
  stops : ∀ e ∈ T.stops, 0 ≤ e.1.1 ∧ 0 ≤ e.1.2 ∧ e.1.1 + e.1.2 ≤ 30 ∧ 0 ≤ (lk T.reached e.1).getD 0 ∧ (lk T.reached e.1).getD 0 ≤ 2 ^ 30
  st : okSt T
theorem okT_mk {lim : Nat} {looks : List Int} {rl : Al Str} (h : Vr lim looks rl) : OkT (mkT lim looks rl) := by
  refine ⟨h.l30, h.len, fun e he => ?_, okSt_mk h⟩
  rw [reached_eq h]
  rw [stops_eq h] at he
  obtain ⟨c, hc, rfl⟩ := List.mem_map.mp he
  obtain ⟨a, b, _, d, _, _⟩ := mem_endC hc
  have := h.l30
  exact ⟨a, b, by show c.1 + c.2 ≤ 30; omega, wys_nn c, wys_le h hc⟩
def cntL (looks : List Int) (t : Int) : Nat := (looks.filter fun z => decide (z ≤ t)).length
def wayF (T : Tb) (c : Int × Int) : Int := (lk T.reached c).getD 0
def costF (T : Tb) (a b : Int) (c : Int × Int) : Int := (a * (c.1 + c.2) + b * (cntL T.looks (c.1 + c.2) : Nat)) * wayF T c
abbrev ends_ (T : Tb) : List (Int × Int) := T.stops.map (·.1)
theorem cntL_le (looks : List Int) (t : Int) : cntL looks t ≤ looks.length := List.length_filter_le _ _
def ph_Table_mean_cost (C CP : Addr) : Ph := fun ds q _ => ∃ T a b, ds = [tabD C T, .int a, .int b] ∧ (OkT T ∧ a.natAbs ≤ 2 ^ 20 ∧ b.natAbs ≤ 2 ^ 20) ∧ q (polD CP (accP (costF T a b) (ends_ T)))
theorem u_Table_mean_cost {C CP : Addr} {T : Tb} {a b : Int} {q : Dt → Prop} {x : XD} (h : OkT T ∧ a.natAbs ≤ 2 ^ 20 ∧ b.natAbs ≤ 2 ^ 20) (p : q (polD CP (accP (costF T a b) (ends_ T)))) : ph_Table_mean_cost C CP [tabD C T, .int a, .int b] q x := ⟨T, a, b, rfl, h, p⟩
def ph_Table_mean_length (C CP : Addr) : Ph := fun ds q _ => ∃ T, ds = [tabD C T] ∧ OkT T ∧ q (polD CP (accP (costF T 1 0) (ends_ T)))
theorem u_Table_mean_length {C CP : Addr} {T : Tb} {q : Dt → Prop} {x : XD} (h : OkT T) (p : q (polD CP (accP (costF T 1 0) (ends_ T)))) : ph_Table_mean_length C CP [tabD C T] q x := ⟨T, rfl, h, p⟩
def sayL (T : Tb) (x : Str) : List (Int × Int) := (T.stops.filter fun e => decide (e.2 = x)).map (·.1)
def ph_Table_chance (C CP : Addr) : Ph := fun ds q _ => ∃ T x, ds = [tabD C T, .str x] ∧ OkT T ∧ q (polD CP (accP (wayF T) (sayL T x)))
theorem u_Table_chance {C CP : Addr} {T : Tb} {x : Str} {q : Dt → Prop} {y : XD} (h : OkT T) (p : q (polD CP (accP (wayF T) (sayL T x)))) : ph_Table_chance C CP [tabD C T, .str x] q y := ⟨T, x, rfl, h, p⟩
/-- the bounds at one end -/
theorem end_nat {c : Int × Int} (h0 : 0 ≤ c.1) (h1 : 0 ≤ c.2) : ∃ a b : Nat, c = ((a : Int), (b : Int)) := ⟨c.1.toNat, c.2.toNat, Prod.ext (by show c.1 = ((c.1.toNat : Nat) : Int); omega) (by show c.2 = ((c.2.toNat : Nat) : Int); omega)⟩
theorem price_le {a b t : Int} {n : Nat} (ha : a.natAbs ≤ 2 ^ 20) (hb : b.natAbs ≤ 2 ^ 20) (h0 : 0 ≤ t) (h1 : t ≤ 30) (hn : n ≤ 30) : (a * t + b * (n : Nat)).natAbs < 2 ^ 30 := by
  have e1 : (a * t).natAbs ≤ 2 ^ 20 * 30 := by rw [Int.natAbs_mul]; exact Nat.mul_le_mul ha (by omega)
  have e2 : (b * (n : Nat)).natAbs ≤ 2 ^ 20 * 30 := by rw [Int.natAbs_mul]; exact Nat.mul_le_mul hb (by omega)
  omega
theorem way_lt {x : Int} (h0 : 0 ≤ x) (h1 : x ≤ 2 ^ 30) : x.natAbs < 2 ^ 31 := by omega
theorem mul_lt61 {p x : Int} (h : p.natAbs < 2 ^ 30) (hx : x.natAbs < 2 ^ 31) : (p * x).natAbs < 2 ^ 61 := by
  rw [Int.natAbs_mul]
  calc p.natAbs * x.natAbs ≤ 2 ^ 30 * x.natAbs := Nat.mul_le_mul_right _ (by omega)
    _ < 2 ^ 30 * 2 ^ 31 := Nat.mul_lt_mul_of_pos_left hx (by decide)
    _ = 2 ^ 61 := by decide

theorem ends_mk {lim : Nat} {looks : List Int} {rl : Al Str} (h : Vr lim looks rl) : ends_ (mkT lim looks rl) = endC lim looks rl := by
  unfold ends_
  rw [stops_eq h, List.map_map]
  exact List.map_id' _
theorem endC_le {lim : Nat} {looks : List Int} {rl : Al Str} (h : Vr lim looks rl) {c : Int × Int} (hc : c ∈ endC lim looks rl) : 0 ≤ c.1 ∧ 0 ≤ c.2 ∧ c.1 + c.2 ≤ ((30 : Nat) : Int) := by
  obtain ⟨a, b, _, d, _, _⟩ := mem_endC hc
  have := h.l30
  exact ⟨a, b, by omega⟩
theorem wayF_mk {lim : Nat} {looks : List Int} {rl : Al Str} (h : Vr lim looks rl) {c : Int × Int} : wayF (mkT lim looks rl) c = (lk (wysL lim looks rl) c).getD 0 := by unfold wayF; rw [reached_eq h]
theorem cntL_take {looks : List Int} {j : Nat} {z : Int} (t : Int) (h : looks[j]? = some z) : ((cntL (looks.take (j + 1)) t : Nat) : Int) = ((cntL (looks.take j) t : Nat) : Int) + (if decide (z ≤ t) = true then 1 else 0) := by
  unfold cntL
  rw [take_get h, List.filter_append, List.length_append]
  by_cases hz : z ≤ t
  · rw [List.filter_cons_of_pos (by simpa using hz), if_pos (by simpa using hz)]; rfl
  · rw [List.filter_cons_of_neg (by simpa using hz), if_neg (by simpa using hz)]; simp
def ph__law_cost : Ph := fun ds q _ => ∃ lim looks rl a b, ds = [ptD lim looks rl, .int a, .int b] ∧ (Vt lim looks rl ∧ a.natAbs ≤ 2 ^ 20 ∧ b.natAbs ≤ 2 ^ 20) ∧ q (iL (accP (costF (mkT lim looks rl) a b) (endC lim looks rl)))
theorem u__law_cost {lim : Nat} {looks : List Int} {rl : Al Str} {a b : Int} {q : Dt → Prop} {x : XD} (h : Vt lim looks rl ∧ a.natAbs ≤ 2 ^ 20 ∧ b.natAbs ≤ 2 ^ 20) (p : q (iL (accP (costF (mkT lim looks rl) a b) (endC lim looks rl)))) : ph__law_cost [ptD lim looks rl, .int a, .int b] q x := ⟨_, _, _, _, _, rfl, h, p⟩
def ph__law_length : Ph := fun ds q _ => ∃ lim looks rl, ds = [ptD lim looks rl] ∧ Vt lim looks rl ∧ q (iL (accP (costF (mkT lim looks rl) 1 0) (endC lim looks rl)))
theorem u__law_length {lim : Nat} {looks : List Int} {rl : Al Str} {q : Dt → Prop} {x : XD} (h : Vt lim looks rl) (p : q (iL (accP (costF (mkT lim looks rl) 1 0) (endC lim looks rl)))) : ph__law_length [ptD lim looks rl] q x := ⟨_, _, _, rfl, h, p⟩
end VS
set_option Elab.async false
set_option linter.all false
set_option maxRecDepth 100000
/-! plain: what is kept on the way to the ends, for any weight. -/
namespace VS
open PySem PySem.Spec L2
def wtG (W : Int × Int → Int) (go : Int × Int → Bool) (D : List (Int × Int)) (p : Int × Int) : Int := if p ∈ D ∧ go p = true then 0 else W p
def totG (W : Int × Int → Int) (lim : Nat) (go : Int × Int → Bool) (D : List (Int × Int)) (m : Al Int) : Int := sumL (fun p => wtG W go D p * (lk m p).getD 0) ((0, 0) :: cnt lim)
theorem totG_put {W : Int × Int → Int} {lim : Nat} {go : Int × Int → Bool} {D : List (Int × Int)} {m : Al Int} {p : Int × Int} {v : Int} (hp : p ∈ (0, 0) :: cnt lim) : totG W lim go D (put m p ((lk m p).getD 0 + v)) = totG W lim go D m + wtG W go D p * v := by
  unfold totG
  rw [sumL_upd (g := fun p => wtG W go D p * (lk m p).getD 0) (allc_nd lim) hp fun q hq => by rw [lk_put, if_neg (fun z => hq z.symm)]]
  rw [lk_put, if_pos rfl]
  show _ + (wtG W go D p * ((lk m p).getD 0 + v) - _) = _
  rw [Int.mul_add]
  omega
theorem totG_step {W : Int × Int → Int} {lim : Nat} {go : Int × Int → Bool} {D : List (Int × Int)} {m : Al Int} {c : Int × Int} (hW : go c = true → W c = W (c.1 + 1, c.2) + W (c.1, c.2 + 1)) (h0 : 0 ≤ c.1) (h1 : 0 ≤ c.2) (hl : c.1 + c.2 < lim) (hD : ∀ p ∈ D, p.1 + p.2 ≤ c.1 + c.2) (hc : c ∉ D) : totG W lim go (c :: D) (stepM go m c) = totG W lim go D m := by
  have hcm : c ∈ (0, 0) :: cnt lim := mem_allc h0 h1 (by omega)
  have off : ∀ q, q ≠ c → wtG W go (c :: D) q = wtG W go D q := fun q hq => by
    unfold wtG
    have : (q ∈ c :: D ∧ go q = true) ↔ (q ∈ D ∧ go q = true) := by simp [hq]
    by_cases z : q ∈ D ∧ go q = true
    · rw [if_pos z, if_pos (this.mpr z)]
    · rw [if_neg z, if_neg (fun y => z (this.mp y))]
  have e0 : totG W lim go (c :: D) m = totG W lim go D m + (wtG W go (c :: D) c * (lk m c).getD 0 - wtG W go D c * (lk m c).getD 0) := by
    unfold totG
    exact sumL_upd (allc_nd lim) hcm fun q hq => by rw [off q hq]
  have wD : wtG W go D c = W c := by unfold wtG; rw [if_neg fun z => hc z.1]
  cases hk : lk m c with
  | none =>
    rw [stepM_none hk, e0, hk]
    show _ + (_ * 0 - _ * 0) = _
    rw [Int.mul_zero, Int.mul_zero]
    omega
  | some v =>
    cases hg : go c
    · rw [stepM_stop hg, e0]
      have : wtG W go (c :: D) c = wtG W go D c := by unfold wtG; rw [if_neg (by rw [hg]; simp), if_neg (by rw [hg]; simp)]
      rw [this]
      omega
    · have w0 : wtG W go (c :: D) c = 0 := by unfold wtG; rw [if_pos ⟨List.mem_cons_self, hg⟩]
      have nx : ∀ p : Int × Int, p.1 + p.2 = c.1 + c.2 + 1 → wtG W go (c :: D) p = W p := fun p hp => by
        unfold wtG
        rw [if_neg]
        rintro ⟨z, _⟩
        cases z with
        | head => omega
        | tail _ z => have := hD p z; omega
      rw [stepM_go hk hg, totG_put (p := (c.1, c.2 + 1)) (mem_allc (p := (c.1, c.2 + 1)) h0 (by dsimp only; omega) (by dsimp only; omega)), totG_put (p := (c.1 + 1, c.2)) (mem_allc (p := (c.1 + 1, c.2)) (by dsimp only; omega) h1 (by dsimp only; omega)), e0, w0, wD, hk, nx _ (by dsimp only; omega), nx _ (by dsimp only; omega), hW hg]
      show _ + (0 * v - _ * v) + _ * v + _ * v = _
      rw [Int.zero_mul, Int.add_mul]
      omega
theorem totG_fold {W : Int × Int → Int} {lim : Nat} {go : Int × Int → Bool} (hW : ∀ c : Int × Int, 0 ≤ c.1 → 0 ≤ c.2 → c.1 + c.2 < lim → go c = true → W c = W (c.1 + 1, c.2) + W (c.1, c.2 + 1)) : ∀ (L D : List (Int × Int)) (m : Al Int), (∀ c ∈ L, 0 ≤ c.1 ∧ 0 ≤ c.2 ∧ c.1 + c.2 < lim) → L.Pairwise (fun a b => a.1 + a.2 ≤ b.1 + b.2 ∧ a ≠ b) → (∀ p ∈ D, ∀ c ∈ L, p.1 + p.2 ≤ c.1 + c.2 ∧ c ≠ p) → ∃ D', (∀ c, c ∈ D' ↔ c ∈ D ∨ c ∈ L) ∧ totG W lim go D' (L.foldl (stepM go) m) = totG W lim go D m
  | [], D, m, _, _, _ => ⟨D, fun c => by simp, rfl⟩
  | c :: L, D, m, hL, hp, hD => by
    rw [List.pairwise_cons] at hp
    obtain ⟨a0, a1, a2⟩ := hL c List.mem_cons_self
    obtain ⟨D', h1, h2⟩ := totG_fold hW L (c :: D) (stepM go m c) (fun x hx => hL x (List.mem_cons_of_mem _ hx)) hp.2 (fun p hpD x hx => by
      cases hpD with
      | head => exact ⟨(hp.1 x hx).1, fun e => (hp.1 x hx).2 e.symm⟩
      | tail _ z => exact hD p z x (List.mem_cons_of_mem _ hx))
    refine ⟨D', fun x => ?_, ?_⟩
    · rw [h1 x]; simp only [List.mem_cons]; exact ⟨fun z => by rcases z with (z | z) | z <;> simp [z], fun z => by rcases z with z | z | z <;> simp [z]⟩
    · rw [List.foldl_cons, h2]
      exact totG_step (hW c a0 a1 a2) a0 a1 a2 (fun p hpD => (hD p hpD c List.mem_cons_self).1) fun z => (hD c z c List.mem_cons_self).2 rfl
theorem sumL_cons (f : Int × Int → Int) (c : Int × Int) (L : List (Int × Int)) : sumL f (c :: L) = f c + sumL f L := rfl
theorem sumL_zero (L : List (Int × Int)) : sumL (fun _ => 0) L = 0 := by
  induction L with
  | nil => rfl
  | cons a L ih => unfold sumL; rw [ih]; rfl
/-- what a weight that is passed on comes to at the ends -/
theorem ends_cons {W : Int × Int → Int} {lim : Nat} {go : Int × Int → Bool} (hW : ∀ c : Int × Int, 0 ≤ c.1 → 0 ≤ c.2 → c.1 + c.2 < lim → go c = true → W c = W (c.1 + 1, c.2) + W (c.1, c.2 + 1)) (hg : ∀ c : Int × Int, 0 ≤ c.1 → 0 ≤ c.2 → c.1 + c.2 = lim → go c = false) (g0 : 1 ≤ lim → go (0, 0) = true) (h1 : 1 ≤ lim) : sumL (fun p => if go p = true then 0 else W p * (lk (sprI go 0 0 lim) p).getD 0) (cnt lim) = W (0, 0) := by
  obtain ⟨D', hD, hT⟩ := totG_fold (lim := lim) (go := go) hW (sCells 0 0 lim) [] [((0, 0), 1)] (fun c hc => mem_sCells0.mp hc) (sCells0_pw lim) (fun p hp => by cases hp)
  have e2 : totG W lim go [] [((0, 0), 1)] = W (0, 0) := by
    unfold totG
    have : ((0 : Int), (0 : Int)) ∈ ((0, 0) : Int × Int) :: cnt lim := List.mem_cons_self
    rw [sumL_upd (g := fun _ => 0) (allc_nd lim) this fun q hq => by
      show _ * (lk [((0, 0), (1 : Int))] q).getD 0 = 0
      unfold lk
      rw [if_neg (fun z => hq z.symm)]
      unfold lk
      exact Int.mul_zero _]
    rw [sumL_zero]
    show 0 + (wtG W go [] (0, 0) * (1 : Int) - 0) = _
    unfold wtG
    rw [if_neg (fun z => by cases z.1), Int.mul_one, Int.sub_zero, Int.zero_add]
  rw [e2] at hT
  have hT2 : totG W lim go D' (sprI go 0 0 lim) = W (0, 0) := hT
  rw [← hT2]
  unfold totG
  show _ = wtG W go D' (0, 0) * _ + sumL _ (cnt lim)
  have w0 : wtG W go D' (0, 0) = 0 := by
    unfold wtG
    rw [if_pos ⟨(hD _).mpr (.inr (mem_sCells0.mpr ⟨by decide, by decide, by show (0 : Int) + 0 < lim; omega⟩)), g0 h1⟩]
  rw [w0, Int.zero_mul, Int.zero_add]
  refine sumL_eq fun q hq => ?_
  have hm := mem_cnt.mp hq
  unfold wtG
  by_cases hl : q.1 + q.2 < lim
  · have : q ∈ D' := (hD q).mpr (.inr (mem_sCells0.mpr ⟨hm.1, hm.2.1, hl⟩))
    cases hgq : go q
    · rw [if_neg (by decide), if_neg (fun z => by cases z.2)]
    · rw [if_pos rfl, if_pos ⟨this, rfl⟩, Int.zero_mul]
  · have : go q = false := hg q hm.1 hm.2.1 (by omega)
    rw [this, if_neg (by decide), if_neg (fun z => by cases z.2)]
theorem stop_lim {lim : Nat} {looks : List Int} {rl : Al Str} (h : Vr lim looks rl) (c : Int × Int) (h0 : 0 ≤ c.1) (h1 : 0 ≤ c.2) (hl : c.1 + c.2 = lim) : stopL looks rl c = true := by
  unfold stopL
  rw [Bool.and_eq_true]
  refine ⟨inI_iff.mpr (by rw [hl]; exact lim_look h), ?_⟩
  have := h.full c.1.toNat (by omega)
  rwa [show (((c.1.toNat : Nat) : Int), (lim : Int) - ((c.1.toNat : Nat) : Int)) = c from Prod.ext (by dsimp only; omega) (by dsimp only; omega)] at this
theorem stop_zero {lim : Nat} {looks : List Int} {rl : Al Str} (h : Vr lim looks rl) : stopL looks rl (0, 0) = false := by
  unfold stopL
  rw [Bool.and_eq_false_iff]
  left
  cases z : inI looks (0 + 0)
  · rfl
  · have := h.one _ (inI_iff.mp z)
    omega
/-- the sum over the law's ends of a weight that is passed on -/
theorem law_cons {lim : Nat} {looks : List Int} {rl : Al Str} (h : Vr lim looks rl) {W : Int × Int → Int} (hW : ∀ c : Int × Int, 0 ≤ c.1 → 0 ≤ c.2 → c.1 + c.2 < lim → stopL looks rl c = false → W c = W (c.1 + 1, c.2) + W (c.1, c.2 + 1)) : sumL (fun c => W c * (lk (wysL lim looks rl) c).getD 0) (endC lim looks rl) = W (0, 0) := by
  have e := ends_cons (W := W) (lim := lim) (go := fun c => !stopL looks rl c) (fun c a b d e => hW c a b d (by cases z : stopL looks rl c; rfl; rw [z] at e; cases e)) (fun c h0 h1 hl => by rw [stop_lim h c h0 h1 hl]; rfl) (fun _ => by rw [stop_zero h]; rfl) h.l1
  rw [← e]
  unfold endC
  have go : ∀ L : List (Int × Int), sumL (fun c => W c * (lk (wysL lim looks rl) c).getD 0) (L.filter (endP lim looks rl)) = sumL (fun p => if (!stopL looks rl p) = true then 0 else W p * (lk (wysL lim looks rl) p).getD 0) L := fun L => by
    induction L with
    | nil => rfl
    | cons c L ih =>
      cases hc : endP lim looks rl c
      · rw [List.filter_cons_of_neg (by rw [hc]; decide), ih]
        show _ = (if _ then _ else _) + _
        have : (if (!stopL looks rl c) = true then (0 : Int) else W c * (lk (wysL lim looks rl) c).getD 0) = 0 := by
          cases hs : stopL looks rl c
          · rfl
          · rw [if_neg (by decide)]
            unfold endP at hc
            rw [hs, Bool.true_and] at hc
            unfold has at hc
            cases z : lk (wysL lim looks rl) c
            · show _ * (0 : Int) = 0; exact Int.mul_zero _
            · rw [z] at hc; cases hc
        rw [this, Int.zero_add]
      · rw [List.filter_cons_of_pos hc]
        unfold sumL
        rw [ih]
        unfold endP at hc
        rw [Bool.and_eq_true] at hc
        rw [hc.1, if_neg (by decide)]
  exact go _

/-! values at a share, all over one power -/
def hvN (p q : Int) (f : Nat → Int) : Nat → Int
  | 0 => f 0
  | n + 1 => hvN p q f n * q + f (n + 1) * p ^ (n + 1)
theorem hv_congr {p q : Int} {f g : Nat → Int} (h : ∀ i, f i = g i) (n : Nat) : hvN p q f n = hvN p q g n := by rw [show f = g from funext h]
theorem hv_add (p q : Int) (f g : Nat → Int) : ∀ n, hvN p q (fun i => f i + g i) n = hvN p q f n + hvN p q g n
  | 0 => rfl
  | n + 1 => by
    show hvN p q (fun i => f i + g i) n * q + (f (n + 1) + g (n + 1)) * p ^ (n + 1) = (hvN p q f n * q + f (n + 1) * p ^ (n + 1)) + (hvN p q g n * q + g (n + 1) * p ^ (n + 1))
    rw [hv_add p q f g n]
    generalize hvN p q f n = a
    generalize hvN p q g n = b
    generalize p ^ (n + 1) = c
    grind
theorem hv_sc (p q c : Int) (f : Nat → Int) : ∀ n, hvN p q (fun i => c * f i) n = c * hvN p q f n
  | 0 => rfl
  | n + 1 => by
    show hvN p q (fun i => c * f i) n * q + (c * f (n + 1)) * p ^ (n + 1) = c * (hvN p q f n * q + f (n + 1) * p ^ (n + 1))
    rw [hv_sc p q c f n]
    generalize hvN p q f n = a
    generalize p ^ (n + 1) = d
    grind
theorem hv_zero (p q : Int) : ∀ n, hvN p q (fun _ => 0) n = 0
  | 0 => rfl
  | n + 1 => by show hvN p q (fun _ => 0) n * q + 0 * p ^ (n + 1) = 0; rw [hv_zero p q n]; simp
theorem hv_tv (p q : Int) (f : Nat → Int) : ∀ n, tv p q ((List.range (n + 1)).map f) = hvN p q f n
  | 0 => by show 0 * p + f 0 * q ^ 0 = f 0; simp
  | n + 1 => by
    rw [List.range_succ, List.map_append]
    show tv p q ((List.range (n + 1)).map f ++ [f (n + 1)]) = _
    rw [tv_snoc, hv_tv p q f n, List.length_map, List.length_range]
    rfl
theorem tv_zeros (p q : Int) (l : List Int) : ∀ k, tv p q (l ++ List.replicate k 0) = tv p q l * q ^ k
  | 0 => by simp
  | k + 1 => by
    rw [List.replicate_succ', ← List.append_assoc, tv_snoc, tv_zeros p q l k, Int.pow_succ]
    simp [Int.mul_assoc]
theorem pad_cf {l : List Int} {n : Nat} (h : l.length ≤ n + 1) : l ++ List.replicate (n + 1 - l.length) 0 = (List.range (n + 1)).map (cf l) := by
  refine cf_ext ?_ fun i => ?_
  · simp; omega
  · rw [cf_map, cf_app, rep_zero]
    by_cases h1 : i < l.length
    · rw [if_pos h1, if_pos (by omega)]
    · rw [if_neg h1, cf_ge (show l.length ≤ i by omega)]; simp
theorem hv_len {p q : Int} {l : List Int} {n : Nat} (h : l.length ≤ n + 1) : hvN p q (cf l) n = tv p q l * q ^ (n + 1 - l.length) := by
  rw [← hv_tv, ← pad_cf h, tv_zeros]
theorem hv_path (p q : Int) {w l n : Nat} (h : w + l ≤ n) : hvN p q (cf (pathL w l)) n = p ^ w * (q - p) ^ l * q ^ (n - (w + l)) := by
  rw [hv_len (by rw [len_path]; omega), tv_path, len_path, show n + 1 - (w + l + 1) = n - (w + l) by omega]
/-- a value that Poly gives, over one power -/
theorem val_hv {l : List Int} {r : Int × Int} {n : Nat} (h : 1 ≤ r.2) (hl : l.length ≤ n + 1) : (valR l r).1 * r.2 ^ n = hvN r.1 r.2 (cf l) n * (valR l r).2 := by
  have hp := pow_pos' h l.length
  have e := (mkR_spec (n := tv r.1 r.2 l * r.2) (d := r.2 ^ l.length) (by omega)).2
  rw [hv_len hl]
  unfold valR
  generalize mkR (tv r.1 r.2 l * r.2) (r.2 ^ l.length) = m at *
  refine Int.eq_of_mul_eq_mul_right (show r.2 ≠ 0 by omega) ?_
  have e2 : r.2 ^ n * r.2 = r.2 ^ l.length * r.2 ^ (n + 1 - l.length) := by rw [← Int.pow_succ, ← Int.pow_add, show l.length + (n + 1 - l.length) = n + 1 by omega]
  generalize r.2 ^ (n + 1 - l.length) = u at *
  generalize r.2 ^ l.length = v at *
  generalize r.2 ^ n = t at *
  generalize tv r.1 r.2 l = x at *
  calc m.1 * t * r.2 = m.1 * (t * r.2) := by rw [Int.mul_assoc]
    _ = m.1 * v * u := by rw [e2, Int.mul_assoc]
    _ = x * r.2 * m.2 * u := by rw [e]
    _ = x * u * m.2 * r.2 := by grind
theorem hv_acc (p q : Int) (f : Int × Int → Int) {n : Nat} : ∀ (L : List (Int × Int)), (∀ c ∈ L, 0 ≤ c.1 ∧ 0 ≤ c.2 ∧ c.1 + c.2 ≤ n) → hvN p q (cf (accP f L)) n = sumL (fun c => f c * (p ^ c.1.toNat * (q - p) ^ c.2.toNat * q ^ (n - (c.1 + c.2).toNat))) L := by
  have go : ∀ (L : List (Int × Int)) (a : List Int), (∀ c ∈ L, 0 ≤ c.1 ∧ 0 ≤ c.2 ∧ c.1 + c.2 ≤ n) → hvN p q (cf (L.foldl (accS f) a)) n = hvN p q (cf a) n + sumL (fun c => f c * (p ^ c.1.toNat * (q - p) ^ c.2.toNat * q ^ (n - (c.1 + c.2).toNat))) L := fun L => by
    induction L with
    | nil => intro a _; show _ = _ + (0 : Int); rw [Int.add_zero]; rfl
    | cons c L ih =>
      intro a h
      obtain ⟨c0, c1, c2⟩ := h c List.mem_cons_self
      rw [List.foldl_cons, ih _ fun x hx => h x (List.mem_cons_of_mem _ hx)]
      rw [sumL_cons, ← Int.add_assoc]
      congr 1
      have e : ∀ i, cf (accS f a c) i = cf a i + f c * cf (pathL c.1.toNat c.2.toNat) i := fun i => by unfold accS; rw [cf_trim, cf_add, cf_trim, cf_sc]
      rw [hv_congr e, hv_add, hv_sc, hv_path p q (show c.1.toNat + c.2.toNat ≤ n by omega), show c.1.toNat + c.2.toNat = (c.1 + c.2).toNat by omega]
  intro L h
  unfold accP
  rw [go L [] h, hv_congr (g := fun _ => 0) (fun i => cf_nil i), hv_zero, Int.zero_add]
/-! the same backwards -/
def bkC (looks : List Int) (rl : Al Str) (x : Str) (p q : Int) : Nat → Int × Int → Int
  | 0, c => if stopL looks rl c = true then (if (lk rl c).getD Str.empty = x then 1 else 0) else 0
  | n + 1, c => if stopL looks rl c = true then q ^ (n + 1) * (if (lk rl c).getD Str.empty = x then 1 else 0) else p * bkC looks rl x p q n (c.1 + 1, c.2) + (q - p) * bkC looks rl x p q n (c.1, c.2 + 1)
def bkL (looks : List Int) (rl : Al Str) (p q : Int) : Nat → Int × Int → Int
  | 0, c => 0
  | n + 1, c => if stopL looks rl c = true then 0 else p * bkL looks rl p q n (c.1 + 1, c.2) + (q - p) * bkL looks rl p q n (c.1, c.2 + 1) + q ^ (n + 1)
theorem bkC_stop {looks : List Int} {rl : Al Str} {x : Str} {p q : Int} {n : Nat} {c : Int × Int} (h : stopL looks rl c = true) : bkC looks rl x p q n c = q ^ n * (if (lk rl c).getD Str.empty = x then 1 else 0) := by
  cases n with
  | zero => unfold bkC; rw [if_pos h]; simp
  | succ n => unfold bkC; rw [if_pos h]
theorem bkL_stop {looks : List Int} {rl : Al Str} {p q : Int} {n : Nat} {c : Int × Int} (h : stopL looks rl c = true) : bkL looks rl p q n c = 0 := by
  cases n with
  | zero => rfl
  | succ n => unfold bkL; rw [if_pos h]
theorem bkC_go {looks : List Int} {rl : Al Str} {x : Str} {p q : Int} {n : Nat} {c : Int × Int} (h : stopL looks rl c = false) : bkC looks rl x p q (n + 1) c = p * bkC looks rl x p q n (c.1 + 1, c.2) + (q - p) * bkC looks rl x p q n (c.1, c.2 + 1) := by
  conv => lhs; unfold bkC
  rw [if_neg (by rw [h]; decide)]
theorem bkL_go {looks : List Int} {rl : Al Str} {p q : Int} {n : Nat} {c : Int × Int} (h : stopL looks rl c = false) : bkL looks rl p q (n + 1) c = p * bkL looks rl p q n (c.1 + 1, c.2) + (q - p) * bkL looks rl p q n (c.1, c.2 + 1) + q ^ (n + 1) := by
  conv => lhs; unfold bkL
  rw [if_neg (by rw [h]; decide)]
theorem tn_up {a b : Int} (h : 0 ≤ a) (hb : 0 ≤ b) : (a + 1).toNat = a.toNat + 1 ∧ (a + 1 + b).toNat = (a + b).toNat + 1 ∧ (b + (a + 1)).toNat = (b + a).toNat + 1 := by omega
/-- the chance of a word at a share -/
theorem chance_bk {lim : Nat} {looks : List Int} {rl : Al Str} (h : Vr lim looks rl) (x : Str) (p q : Int) : hvN p q (cf (accP (wayF (mkT lim looks rl)) (sayL (mkT lim looks rl) x))) lim = bkC looks rl x p q lim (0, 0) := by
  have hc := law_cons h (W := fun c => p ^ c.1.toNat * (q - p) ^ c.2.toNat * bkC looks rl x p q (lim - (c.1 + c.2).toNat) c) (fun c h0 h1 hl hs => by
    have e : lim - (c.1 + c.2).toNat = (lim - ((c.1 + c.2).toNat + 1)) + 1 := by omega
    obtain ⟨a1, a2, _⟩ := tn_up h0 h1
    obtain ⟨b1, _, b2⟩ := tn_up h1 h0
    dsimp only
    rw [e, bkC_go hs, a1, a2, b1, b2, Int.pow_succ, Int.pow_succ]
    generalize bkC looks rl x p q (lim - ((c.1 + c.2).toNat + 1)) (c.1 + 1, c.2) = u
    generalize bkC looks rl x p q (lim - ((c.1 + c.2).toNat + 1)) (c.1, c.2 + 1) = v
    generalize p ^ c.1.toNat = s
    generalize (q - p) ^ c.2.toNat = t
    grind)
  have e0 : (p ^ (0 : Int).toNat * (q - p) ^ (0 : Int).toNat * bkC looks rl x p q (lim - ((0 : Int) + 0).toNat) (0, 0)) = bkC looks rl x p q lim (0, 0) := by
    show p ^ 0 * (q - p) ^ 0 * bkC looks rl x p q (lim - 0) (0, 0) = _
    simp
  dsimp only at hc
  rw [e0] at hc
  rw [← hc]
  have hb : ∀ c ∈ sayL (mkT lim looks rl) x, 0 ≤ c.1 ∧ 0 ≤ c.2 ∧ c.1 + c.2 ≤ lim := fun c hc => by
    unfold sayL at hc
    obtain ⟨e, he, rfl⟩ := List.mem_map.mp hc
    rw [List.mem_filter, stops_eq h] at he
    obtain ⟨c, hc2, rfl⟩ := List.mem_map.mp he.1
    have := mem_endC hc2
    exact ⟨this.1, this.2.1, this.2.2.2.1⟩
  rw [hv_acc p q _ _ hb]
  have hs : ∀ c ∈ endC lim looks rl, stopL looks rl c = true := fun c hc => by
    unfold endC at hc
    have := (List.mem_filter.mp hc).2
    unfold endP at this
    rw [Bool.and_eq_true] at this
    exact this.1
  unfold sayL
  rw [stops_eq h]
  have ew : ∀ c, wayF (mkT lim looks rl) c = (lk (wysL lim looks rl) c).getD 0 := fun c => by unfold wayF; rw [reached_eq h]
  generalize endC lim looks rl = L at hs ⊢
  clear hb hc e0
  induction L with
  | nil => rfl
  | cons c L ih =>
    have ih := ih fun x hx => hs x (List.mem_cons_of_mem _ hx)
    rw [List.map_cons]
    by_cases hx : (lk rl c).getD Str.empty = x
    · rw [List.filter_cons_of_pos (by simp [hx]), List.map_cons]
      unfold sumL
      rw [ih]
      congr 1
      rw [bkC_stop (hs c List.mem_cons_self), if_pos hx, ew]
      generalize (lk (wysL lim looks rl) c).getD 0 = a
      generalize p ^ c.1.toNat * (q - p) ^ c.2.toNat = b
      generalize q ^ (lim - (c.1 + c.2).toNat) = d
      grind
    · rw [List.filter_cons_of_neg (by simp [hx]), ih]
      conv => rhs; unfold sumL
      rw [bkC_stop (hs c List.mem_cons_self), if_neg hx]
      simp
/-- the mean number of tries at a share -/
theorem length_bk {lim : Nat} {looks : List Int} {rl : Al Str} (h : Vr lim looks rl) (p q : Int) : hvN p q (cf (accP (costF (mkT lim looks rl) 1 0) (ends_ (mkT lim looks rl)))) lim = bkL looks rl p q lim (0, 0) := by
  have hc := law_cons h (W := fun c => p ^ c.1.toNat * (q - p) ^ c.2.toNat * (bkL looks rl p q (lim - (c.1 + c.2).toNat) c + (c.1 + c.2) * q ^ (lim - (c.1 + c.2).toNat))) (fun c h0 h1 hl hs => by
    have e : lim - (c.1 + c.2).toNat = (lim - ((c.1 + c.2).toNat + 1)) + 1 := by omega
    obtain ⟨a1, a2, _⟩ := tn_up h0 h1
    obtain ⟨b1, _, b2⟩ := tn_up h1 h0
    dsimp only
    rw [e, bkL_go hs, a1, a2, b1, b2, Int.pow_succ, Int.pow_succ, Int.pow_succ]
    generalize bkL looks rl p q (lim - ((c.1 + c.2).toNat + 1)) (c.1 + 1, c.2) = u
    generalize bkL looks rl p q (lim - ((c.1 + c.2).toNat + 1)) (c.1, c.2 + 1) = v
    generalize p ^ c.1.toNat = s
    generalize (q - p) ^ c.2.toNat = t
    generalize q ^ (lim - ((c.1 + c.2).toNat + 1)) = z
    grind)
  have e0 : (p ^ (0 : Int).toNat * (q - p) ^ (0 : Int).toNat * (bkL looks rl p q (lim - ((0 : Int) + 0).toNat) (0, 0) + ((0 : Int) + 0) * q ^ (lim - ((0 : Int) + 0).toNat))) = bkL looks rl p q lim (0, 0) := by
    show p ^ 0 * (q - p) ^ 0 * (bkL looks rl p q (lim - 0) (0, 0) + ((0 : Int) + 0) * _) = _
    simp
  dsimp only at hc
  rw [e0] at hc
  rw [← hc]
  have eE := ends_mk h
  rw [eE, hv_acc p q _ _ fun c hc => by have := mem_endC hc; exact ⟨this.1, this.2.1, this.2.2.2.1⟩]
  have hs : ∀ c ∈ endC lim looks rl, stopL looks rl c = true := fun c hc => by
    unfold endC at hc
    have := (List.mem_filter.mp hc).2
    unfold endP at this
    rw [Bool.and_eq_true] at this
    exact this.1
  refine sumL_eq fun c hc => ?_
  have ew : wayF (mkT lim looks rl) c = (lk (wysL lim looks rl) c).getD 0 := by unfold wayF; rw [reached_eq h]
  rw [bkL_stop (hs c hc)]
  unfold costF
  rw [ew]
  generalize (lk (wysL lim looks rl) c).getD 0 = a
  generalize p ^ c.1.toNat * (q - p) ^ c.2.toNat = b
  generalize q ^ (lim - (c.1 + c.2).toNat) = d
  grind
/-- some word is said -/
theorem words_pos {lim : Nat} {looks : List Int} {rl : Al Str} (h : Vr lim looks rl) : (endC lim looks rl) ≠ [] := by
  intro e
  have := law_total h
  rw [e] at this
  have h2 : (0 : Int) < 2 ^ lim := Int.pow_pos (by decide)
  unfold sumL at this
  omega
def sayN (S : List ((Int × Int) × Str)) (x : Str) (i : Nat) : List (Int × Int) := ((S.take i).filter fun e => decide (e.2 = x)).map (·.1)
theorem sayN_succ {S : List ((Int × Int) × Str)} (x : Str) {i : Nat} {c : Int × Int} {d : Str} (h : S[i]? = some (c, d)) : sayN S x (i + 1) = sayN S x i ++ if d = x then [c] else [] := by
  unfold sayN
  rw [take_get h, List.filter_append, List.map_append]
  congr 1
  by_cases e : d = x
  · rw [if_pos e, List.filter_cons_of_pos (by simpa using e)]; rfl
  · rw [if_neg e, List.filter_cons_of_neg (by simpa using e)]; rfl
theorem sayN_all (T : Tb) (x : Str) : sayN T.stops x T.stops.length = sayL T x := by unfold sayN sayL; rw [List.take_length]
def ph__law_back : Ph := fun ds q _ => ∃ lim looks rl x p r, ds = [ptD lim looks rl, .str x, .tup [.int p, .int r]] ∧ (Vt lim looks rl ∧ p.natAbs < 2 ^ 20 ∧ 1 ≤ r ∧ r < 2 ^ 20) ∧ q (.tup [.int (bkC looks rl x p r lim (0, 0)), .int (bkL looks rl p r lim (0, 0)), .int (r ^ lim)])
theorem u__law_back {lim : Nat} {looks : List Int} {rl : Al Str} {x : Str} {p r : Int} {q : Dt → Prop} {y : XD} (h : Vt lim looks rl ∧ p.natAbs < 2 ^ 20 ∧ 1 ≤ r ∧ r < 2 ^ 20) (z : q (.tup [.int (bkC looks rl x p r lim (0, 0)), .int (bkL looks rl p r lim (0, 0)), .int (r ^ lim)])) : ph__law_back [ptD lim looks rl, .str x, .tup [.int p, .int r]] q y := ⟨_, _, _, _, _, _, rfl, h, z⟩
/-- the dicts of _law_back -/
def BkD (lim : Nat) (looks : List Int) (rl : Al Str) (x : Str) (p r : Int) (mc ml : Al Int) (t : Int) (j : Nat) : Prop := ∀ c : Int × Int, 0 ≤ c.1 → 0 ≤ c.2 → c.1 + c.2 ≤ lim → (t < c.1 + c.2 ∨ (c.1 + c.2 = t ∧ c.1 < j)) → lk mc c = some (bkC looks rl x p r (lim - (c.1 + c.2).toNat) c) ∧ lk ml c = some (bkL looks rl p r (lim - (c.1 + c.2).toNat) c)
theorem BkD.zero {lim : Nat} {looks : List Int} {rl : Al Str} {x : Str} {p r : Int} {mc ml : Al Int} : BkD lim looks rl x p r mc ml (lim - (0 : Nat)) 0 := fun c h0 h1 h2 h3 => by omega
theorem BkD.put {lim : Nat} {looks : List Int} {rl : Al Str} {x : Str} {p r : Int} {mc ml : Al Int} {t : Int} {j : Nat} (h : BkD lim looks rl x p r mc ml t j) {u v : Int} {a b : Int} (ha : a = j) (hb : b = t - j) (hu : u = bkC looks rl x p r (lim - t.toNat) (a, b)) (hv : v = bkL looks rl p r (lim - t.toNat) (a, b)) : BkD lim looks rl x p r (VS.put mc (a, b) u) (VS.put ml (a, b) v) t (j + 1) := fun c h0 h1 h2 h3 => by
  rw [lk_put, lk_put]
  by_cases e : (a, b) = c
  · rw [if_pos e, if_pos e, hu, hv, ← e]
    show _ = some (bkC looks rl x p r (lim - (a + b).toNat) (a, b)) ∧ _ = some (bkL looks rl p r (lim - (a + b).toNat) (a, b))
    rw [show a + b = t by omega]
    exact ⟨rfl, rfl⟩
  · rw [if_neg e, if_neg e]
    refine h c h0 h1 h2 ?_
    rcases h3 with h3 | ⟨h3, h4⟩
    · exact .inl h3
    · refine .inr ⟨h3, ?_⟩
      have : c.1 ≠ j := fun z => e (Prod.ext (by show a = c.1; omega) (by show b = c.2; omega))
      omega
theorem BkD.next {lim : Nat} {looks : List Int} {rl : Al Str} {x : Str} {p r : Int} {mc ml : Al Int} {t t' : Int} {j : Nat} (h : BkD lim looks rl x p r mc ml t j) (hj : (j : Int) = t + 1) (ht : t' = t - 1) : BkD lim looks rl x p r mc ml t' 0 := fun c h0 h1 h2 h3 => h c h0 h1 h2 (by omega)
theorem accP_cf (f : Int × Int → Int) (M : Nat) : ∀ (L : List (Int × Int)), (∀ c ∈ L, ∀ i, (f c * cf (pathL c.1.toNat c.2.toNat) i).natAbs ≤ M) → ∀ i, (cf (accP f L) i).natAbs ≤ L.length * M := by
  have go : ∀ (L : List (Int × Int)) (a : List Int) (k : Nat), (∀ c ∈ L, ∀ i, (f c * cf (pathL c.1.toNat c.2.toNat) i).natAbs ≤ M) → (∀ i, (cf a i).natAbs ≤ k * M) → ∀ i, (cf (L.foldl (accS f) a) i).natAbs ≤ (k + L.length) * M := fun L => by
    induction L with
    | nil => intro a k _ h i; exact h i
    | cons c L ih =>
      intro a k h1 h2 i
      have := ih (accS f a c) (k + 1) (fun x hx => h1 x (List.mem_cons_of_mem _ hx)) (fun j => by
        have e : cf (accS f a c) j = cf a j + f c * cf (pathL c.1.toNat c.2.toNat) j := by unfold accS; rw [cf_trim, cf_add, cf_trim, cf_sc]
        rw [e, Nat.add_mul, Nat.one_mul]
        exact Nat.le_trans (Int.natAbs_add_le _ _) (Nat.add_le_add (h2 j) (h1 c List.mem_cons_self j))) i
      rw [List.length_cons, show k + (L.length + 1) = k + 1 + L.length by omega]
      exact this
  intro L h i
  have := go L [] 0 h (fun i => by rw [cf_nil]; simp) i
  rw [Nat.zero_add] at this
  exact this
theorem accP_sz {f : Int × Int → Int} {L : List (Int × Int)} (hl : L.length ≤ 500) (h : ∀ c ∈ L, (f c).natAbs < 2 ^ 61 ∧ c.2 ≤ 30) : SzL 102 (accP f L) := fun x hx => by
  obtain ⟨i, hi, rfl⟩ := List.getElem_of_mem hx
  have e : (accP f L)[i] = cf (accP f L) i := by have := cf_lt hi; rw [List.getElem?_eq_getElem hi] at this; exact Option.some.inj this
  rw [e]
  have := accP_cf f (2 ^ 92) L (fun c hc i => by
    obtain ⟨a, b⟩ := h c hc
    rw [Int.natAbs_mul]
    have e2 : (cf (pathL c.1.toNat c.2.toNat) i).natAbs < 2 ^ 31 := Nat.lt_of_lt_of_le (cf_sz (sz_path _ _) i) (Nat.pow_le_pow_right (by decide) (by omega))
    calc (f c).natAbs * (cf (pathL c.1.toNat c.2.toNat) i).natAbs ≤ 2 ^ 61 * 2 ^ 31 := Nat.mul_le_mul (by omega) (by omega)
      _ = 2 ^ 92 := by decide) i
  refine Nat.lt_of_le_of_lt this ?_
  calc L.length * 2 ^ 92 ≤ 500 * 2 ^ 92 := Nat.mul_le_mul_right _ hl
    _ < 2 ^ 102 := by decide
/-- the polynomials of a table, for Poly's calls -/
theorem chance_ok {T : Tb} (ok : OkT T) (hl : T.stops.length ≤ 500) (x : Str) : SzL 102 (accP (wayF T) (sayL T x)) ∧ (accP (wayF T) (sayL T x)).length ≤ 31 ∧ Tr (accP (wayF T) (sayL T x)) := by
  have hm : ∀ c ∈ sayL T x, 0 ≤ c.1 ∧ 0 ≤ c.2 ∧ c.1 + c.2 ≤ ((30 : Nat) : Int) ∧ (wayF T c).natAbs < 2 ^ 61 := fun c hc => by
    obtain ⟨e, he2, rfl⟩ := List.mem_map.mp hc
    have := ok.stops e (List.mem_filter.mp he2).1
    refine ⟨this.1, this.2.1, this.2.2.1, ?_⟩
    unfold wayF
    omega
  refine ⟨accP_sz ?_ fun c hc => ⟨(hm c hc).2.2.2, by have := hm c hc; omega⟩, accP_len (N := 30) _ fun c hc => ⟨(hm c hc).1, (hm c hc).2.1, (hm c hc).2.2.1⟩, accP_tr _ _⟩
  unfold sayL
  rw [List.length_map]
  exact Nat.le_trans (List.length_filter_le _ _) hl
theorem cost_ok {T : Tb} (ok : OkT T) (hl : T.stops.length ≤ 500) {a b : Int} (ha : a.natAbs ≤ 2 ^ 20) (hb : b.natAbs ≤ 2 ^ 20) : SzL 102 (accP (costF T a b) (ends_ T)) ∧ (accP (costF T a b) (ends_ T)).length ≤ 31 ∧ Tr (accP (costF T a b) (ends_ T)) := by
  have hm : ∀ c ∈ ends_ T, 0 ≤ c.1 ∧ 0 ≤ c.2 ∧ c.1 + c.2 ≤ ((30 : Nat) : Int) ∧ (costF T a b c).natAbs < 2 ^ 61 := fun c hc => by
    obtain ⟨e, he2, rfl⟩ := List.mem_map.mp hc
    obtain ⟨h0, h1, h2, h3, h4⟩ := ok.stops e he2
    refine ⟨h0, h1, h2, ?_⟩
    unfold costF
    refine mul_lt61 (price_le ha hb (by omega) h2 (Nat.le_trans (cntL_le _ _) ok.looks)) ?_
    unfold wayF
    omega
  refine ⟨accP_sz (by rw [List.length_map]; exact hl) fun c hc => ⟨(hm c hc).2.2.2, by have := hm c hc; omega⟩, accP_len (N := 30) _ fun c hc => ⟨(hm c hc).1, (hm c hc).2.1, (hm c hc).2.2.1⟩, accP_tr _ _⟩
theorem stops_len {lim : Nat} {looks : List Int} {rl : Al Str} (h : Vr lim looks rl) : (mkT lim looks rl).stops.length ≤ 500 := by
  rw [stops_eq h, List.length_map]
  unfold endC
  exact Nat.le_trans (List.length_filter_le _ _) (cnt_len h.l30)
theorem words_ne {lim : Nat} {looks : List Int} {rl : Al Str} (h : Vr lim looks rl) : 0 < (wordsT (mkT lim looks rl).stops).length := by
  have hs : (mkT lim looks rl).stops ≠ [] := by rw [stops_eq h]; intro z; exact words_pos h (List.map_eq_nil_iff.mp z)
  rcases List.eq_nil_or_concat (mkT lim looks rl).stops with e | ⟨L, c, e⟩
  · exact absurd e hs
  · rw [e, List.concat_eq_append]
    unfold wordsT
    rw [List.foldl_append]
    show 0 < (addW _ _).length
    unfold addW
    split
    · next hin => exact List.length_pos_of_mem hin
    · simp
theorem chance_len {lim : Nat} {looks : List Int} {rl : Al Str} (h : Vr lim looks rl) (x : Str) : (accP (wayF (mkT lim looks rl)) (sayL (mkT lim looks rl) x)).length ≤ lim + 1 := accP_len _ fun c hc => by
  unfold sayL at hc
  obtain ⟨e, he, rfl⟩ := List.mem_map.mp hc
  rw [List.mem_filter, stops_eq h] at he
  obtain ⟨c, hc2, rfl⟩ := List.mem_map.mp he.1
  have := mem_endC hc2
  exact ⟨this.1, this.2.1, this.2.2.2.1⟩
theorem cost_len {lim : Nat} {looks : List Int} {rl : Al Str} (h : Vr lim looks rl) (a b : Int) : (accP (costF (mkT lim looks rl) a b) (ends_ (mkT lim looks rl))).length ≤ lim + 1 := accP_len _ fun c hc => by
  rw [ends_mk h] at hc
  have := mem_endC hc
  exact ⟨this.1, this.2.1, this.2.2.2.1⟩
theorem pw_small {q : Int} {B n N : Nat} (h : q.natAbs < 2 ^ B) (hn : B * n + 1 ≤ N) : (q ^ n).natAbs < 2 ^ N := sz_up (pow_sz h n) hn
theorem val_den {l : List Int} {r : Int × Int} (h : 1 ≤ r.2) : (valR l r).2.natAbs ≤ (r.2 ^ l.length).natAbs := mkR_le2 (by have := pow_pos' h l.length; omega)
theorem cm_r {a b : Int} (h : b.natAbs < 2 ^ 64) : CMul a b := .inr (by omega)
theorem cm_l {a b : Int} (h : a.natAbs < 2 ^ 64) : CMul a b := .inl (by omega)
end VS
set_option Elab.async false
set_option linter.all false
set_option maxRecDepth 100000
set_option maxHeartbeats 4000000
namespace Lk
open PySem PySem.Spec L2 VS
local macro_rules | `(tactic| walk_at "sc") => `(tactic| first | exact True.intro | with_reducible assumption | omega | (constructor <;> omega) | exact at_cf rfl (by omega) | (rw [List.length_map]; exact ix_nat (by omega)) | (simp only [Str.length_append]; omega) | assumption | rfl | trivial | (refine mulOk' (by walk_at "sz") (by walk_at "sz") ?_; rfl))
local macro_rules | `(tactic| walk_at "sz") => `(tactic| first | assumption | exact SzR.one (by assumption) | exact SzR.two (by assumption) | exact sz_lit _ | (refine sz_mul ?_ ?_ <;> walk_at "sz") | (refine sz_add2 ?_ ?_ <;> walk_at "sz") | (refine sz_sub2 ?_ ?_ <;> walk_at "sz") | (refine sz_neg ?_ <;> walk_at "sz"))
local macro_rules | `(tactic| walk_at "szg") => `(tactic| (refine sz_up' (by walk_at "sz") ?_; rfl))
local macro_rules | `(tactic| walk_at "ok") => `(tactic| first | rfl | assumption | exact ok_ints _ | exact ok_intsT _ | simp [okN])
def topS (i : Nat) : Stmt := PySem.Challenge.pw_lookstop_k30_chances_at_a_share.main.body.getD i (.Pass ⟨0, 0, 0, 0⟩)
abbrev d_NOTHING : Dt := .tup [.int 0, .int 1]
abbrev d_WHOLE : Dt := .tup [.int 1, .int 1]
abbrev d_KINDS : Dt := .tup [.str "at least", .str "below"]
abbrev d_SILENT : Dt := .str "no word"
abbrev d_MOST_DIGITS : Dt := .int 30
abbrev d_MOST_TRIES : Dt := .int 30
section
variable {P : Program} {w : World} {K : PySem.W.Frag} {mg : Str → Option Value} {base : Heap}
theorem take63 {ns : List Int} (h : ns.length ≤ 63) : cutD (ns.map Dt.int) none (some 63) = ns.map Dt.int := by
  unfold cutD
  rw [HT.sIx_none, show HT.sIx (ns.map Dt.int).length (ns.map Dt.int).length (some 63) = min 63 (ns.map Dt.int).length from HT.sIx_nat _ _ 63, List.drop_zero, List.length_map, Nat.sub_zero, Nat.min_eq_right h]
  exact List.take_of_length_le (by rw [List.length_map]; exact Nat.le_refl _)
abbrev s__law_box : Stmt := topS 49
abbrev N__law_box : List Str := ["_law_script", "_law_cell"]
theorem sc__law_box : FnScope N__law_box ["_law_script"] (defScope s__law_box) := ⟨rfl, rfl, rfl, by decide +kernel, rfl, by decide +kernel, by decide +kernel⟩
theorem ok__law_box {f : Addr} {fd : FuncData} {k : Nat} (F : FD K "_law_box" "_law_box" s__law_box [] [] f fd) (m_abs : mg "abs" = none) (m_int : mg "int" = none) : FnOk P w K mg base (L2.CX P w) (k + 1) f fd ["_law_script"] (spBox K) := by
  refine box_ok F sc__law_box fun X cdv A outer s H E ns Fr σ D hX hn ty q => ?_
  subst hX
  refine sOf.of (pss_one ps_w) (s_retBox ty ?_ q)
  refine en_lc (own := [("_law_cell", 1)]) rfl sc__law_box.nd (blkOk_by (N := N__law_box) (sc := defScope s__law_box) (by decide +kernel)) ?_
  refine i_lst ?_
  refine e_slice ?_
  refine e_v 0 ?_
  refine eo_none ?_
  refine eo_some ?_
  refine e_int ?_
  refine ⟨_, rfl, ?_⟩
  refine wsl_frl ?_
  rw [take63 hn]
  refine ⟨_, rfl, by rw [List.length_map]; omega, _, lc_map (fun _ d => match d with | .int i => .int (i.natAbs : Int) | d => d) (fun d => [(1, d)]) ?_ ?_ ?_, ?_⟩
  · intro i d hd Y hY
    obtain ⟨s', H', C, cl, fp, rfl⟩ := hY
    exact a_n 1 sc__law_box.nd
  · intro d p hp
    simp at hp
    subst hp
    simp
  · intro i d hd Y hY
    obtain ⟨s', H', C, cl, fp, rfl⟩ := hY
    rw [List.getElem?_map] at hd
    cases e : ns[i]? with
    | none => rw [e] at hd; cases hd
    | some z =>
      rw [e] at hd
      cases hd
      refine e_callB (id := "abs") (by rfl) m_abs b_abs ?_
      refine ea_cons ?_
      refine e_callTy (id := "int") (by rfl) m_int b_int ?_
      refine ea_cons ?_
      refine e_v 1 ?_
      refine ea_nil ?_
      first | refine wc_int ?_ | refine wc_intB ?_ | refine wc_intS (by walk_at "sc") (by walk_at "sc") ?_
      refine ea_nil ?_
      refine wc_abs ?_
      rfl
  · intro acc hacc
    refine ⟨ns.map fun i => (i.natAbs : Int), ?_, by rw [List.length_map]; exact hn, fun x hx => ?_⟩
    · rw [hacc, List.take_of_length_le (Nat.le_refl _), List.map_map]
      refine List.ext_getElem? fun i => ?_
      simp only [List.getElem?_mapIdx, List.getElem?_map]
      cases ns[i]? <;> rfl
    · obtain ⟨i, _, rfl⟩ := List.mem_map.mp hx
      omega

abbrev s__law_take : Stmt := topS 50
abbrev N__law_take : List Str := ["_law_box_here", "_law_size", "_law_cells", "_law_worth", "_law_at", "_law_digit", "_law_stirred"]
theorem sc__law_take : FnScope N__law_take ["_law_box_here", "_law_size"] (defScope s__law_take) := ⟨rfl, rfl, rfl, by decide +kernel, rfl, by decide +kernel, by decide +kernel⟩
theorem ok__law_take {f : Addr} {fd : FuncData} {k : Nat} {dvs : List V} {kws : List (Str × V)} (F : FD K "_law_take" "_law_take" s__law_take dvs kws f fd) (m_int : mg "int" = none) (m_len : mg "len" = none) : FnOk P w K mg base (L2.CX P w) (k + 1) f fd ["_law_box_here", "_law_size"] (spB K 2 ph_take) := by
  refine fn_okX F sc__law_take rfl fun X cdv A outer s H E b c n ds q xd hX hr hph hl Fr wf xok => ?_
  subst hX
  obtain ⟨z, rfl, ⟨hz, hlog⟩, hq⟩ := hph
  show S _ _ _ [_, _, _, _, _, _, _] _
  refine s_cons (s_a 2 sc__law_take.nd ?_)
  refine e_ix ?_
  refine e_v 0 ?_
  refine e_int ?_
  refine wi_box0 ?_
  show S _ _ _ [_, _, _, _, _, _, _] _
  refine s_cons (s_a 3 sc__law_take.nd ?_)
  refine e_int ?_
  show S _ _ _ [_, _, _, _, _, _, _] _
  -- behind the if: worth is some int below a bound
  have fin : ∀ (g2 : Sl) (g4 g5 : Sl) (wo : Int), S (cxOf (L2.CX P w) P w K mg base N__law_take "_law_take" (defScope s__law_take) f cdv A outer s H E) (boxR b c n) ((defBody s__law_take).drop 3) [.sh (.adr b), .sh (.int z), g2, .sh (.int wo), g4, g5, .no] { nx := fun _ => q .non, rt := q } := fun g2 g4 g5 wo => by
    refine s_cons (s_set ?_)
    refine e_bin ?_
    refine e_callTy (id := "int") (by rfl) m_int b_int ?_
    refine ea_cons ?_
    refine e_bin ?_
    refine e_bin ?_
    refine e_ix ?_
    refine e_v 0 ?_
    refine e_int ?_
    refine wi_box2 fun sd sd0 sd1 => ?_
    refine e_int ?_
    refine w_mulS (.inr ⟨by decide, by decide⟩) ?_
    refine e_v 3 ?_
    refine w_add ?_
    refine ea_nil ?_
    refine wc_int ?_
    refine e_int ?_
    refine w_mod (by omega) ?_
    refine e_v 0 ?_
    refine e_int ?_
    refine ws_box2 (Int.emod_nonneg _ (by decide)) (Int.emod_lt_of_pos _ (by decide)) ?_
    refine s_cons (s_a 6 sc__law_take.nd ?_)
    refine e_bin ?_
    refine e_callTy (id := "int") (by rfl) m_int b_int ?_
    refine ea_cons ?_
    refine e_bin ?_
    refine e_bin ?_
    refine e_ix ?_
    refine e_v 0 ?_
    refine e_int ?_
    refine wi_box2 fun se se0 se1 => ?_
    refine e_int ?_
    refine w_mulS (.inr ⟨by decide, by decide⟩) ?_
    refine e_bin ?_
    refine e_ix ?_
    refine e_v 0 ?_
    refine e_int ?_
    refine wi_box2 fun sf sf0 sf1 => ?_
    refine e_int ?_
    refine w_div ⟨by decide, by decide +kernel⟩ ?_
    refine w_add ?_
    refine ea_nil ?_
    refine wc_int ?_
    refine e_int ?_
    refine w_mod (by omega) ?_
    show S _ _ _ [_, _, _, _, _, _, _] _
    refine s_cons (s_ret ?_)
    refine e_bin ?_
    refine e_callTy (id := "int") (by rfl) m_int b_int ?_
    refine ea_cons ?_
    refine e_bin ?_
    refine e_v 6 ?_
    refine e_int ?_
    refine w_div ⟨by decide, by decide +kernel⟩ ?_
    refine ea_nil ?_
    refine wc_int ?_
    refine e_v 1 ?_
    refine w_mod hz ?_
    exact hq _ (Int.emod_nonneg _ (by omega)) (Int.emod_lt_of_pos _ hz)
  refine s_cons (s_if ?_)
  refine t_cmp ?_
  refine e_callB (id := "len") (by rfl) m_len b_len ?_
  refine ea_cons ?_
  refine e_v 2 ?_
  refine ea_nil ?_
  refine wc_lenc fun hn63 => ?_
  refine e_int ?_
  refine w_gt ⟨_, rfl, ?_⟩
  refine ite_b (fun h => ?_) (fun h => ?_)
  · have hn : (0 : Int) < (n : Int) := of_decide_eq_true h
    refine s_cons (s_a 4 sc__law_take.nd ?_)
    refine e_bin ?_
    refine e_callTy (id := "int") (by rfl) m_int b_int ?_
    refine ea_cons ?_
    refine e_ix ?_
    refine e_v 0 ?_
    refine e_int ?_
    refine wi_box1 fun pl => ?_
    refine ea_nil ?_
    refine wc_int ?_
    refine e_callB (id := "len") (by rfl) m_len b_len ?_
    refine ea_cons ?_
    refine e_v 2 ?_
    refine ea_nil ?_
    refine wc_lenc fun hn63 => ?_
    refine w_mod hn ?_
    show S _ _ _ [_, _, _, _, _, _, _] _
    have a0 := Int.emod_nonneg pl (show (n : Int) ≠ 0 by omega)
    have a1 := Int.emod_lt_of_pos pl hn
    refine s_cons (s_if ?_)
    refine t_cmp ?_
    refine e_ix ?_
    refine e_v 2 ?_
    refine e_v 4 ?_
    refine wi_cell a0 a1 fun x x0 => ?_
    refine e_bin ?_
    refine e_int ?_
    refine e_int ?_
    refine w_pow ⟨by decide, by decide, by decide⟩ ?_
    refine w_ge ⟨_, rfl, ?_⟩
    refine ite_b (fun h2 => ?_) (fun h2 => ?_)
    · refine s_cons (s_a 5 sc__law_take.nd ?_)
      refine e_bin ?_
      refine e_callTy (id := "int") (by rfl) m_int b_int ?_
      refine ea_cons ?_
      refine e_ix ?_
      refine e_v 2 ?_
      refine e_v 4 ?_
      refine wi_cell a0 a1 fun x2 x20 => ?_
      refine ea_nil ?_
      refine wc_int ?_
      refine e_v 1 ?_
      refine w_mod hz ?_
      show S _ _ _ [_, _, _, _, _, _, _] _
      refine s_cons (s_set ?_)
      refine e_bin ?_
      refine e_ix ?_
      refine e_v 2 ?_
      refine e_v 4 ?_
      refine wi_cell a0 a1 fun x3 x30 => ?_
      refine e_v 1 ?_
      refine w_div ⟨hz, hlog⟩ ?_
      refine e_v 2 ?_
      refine e_v 4 ?_
      refine ws_cell a0 a1 (Int.ediv_nonneg x30 (by omega)) ?_
      refine s_cons (s_ret ?_)
      refine e_v 5 ?_
      exact hq _ (Int.emod_nonneg _ (by omega)) (Int.emod_lt_of_pos _ hz)
    · refine s_nil ?_
      refine s_cons (s_set ?_)
      refine e_bin ?_
      refine e_ix ?_
      refine e_v 0 ?_
      refine e_int ?_
      refine wi_box1 fun pl2 => ?_
      refine e_int ?_
      refine w_add ?_
      refine e_v 0 ?_
      refine e_int ?_
      refine ws_box1 ?_
      refine s_cons (s_a 3 sc__law_take.nd ?_)
      refine e_bin ?_
      refine e_bin ?_
      refine e_ix ?_
      refine e_v 2 ?_
      refine e_v 4 ?_
      refine wi_cell a0 a1 fun x4 x40 => ?_
      refine e_int ?_
      refine w_mulS (.inr ⟨by decide, by decide⟩) ?_
      refine e_int ?_
      refine w_add ?_
      refine s_nil ?_
      exact fin _ _ _ _
  · refine s_nil ?_
    exact fin _ _ _ 11

abbrev s__law_gcd : Stmt := topS 51
abbrev N__law_gcd : List Str := ["_law_a", "_law_b"]
theorem sc__law_gcd : FnScope N__law_gcd ["_law_a", "_law_b"] (defScope s__law_gcd) := ⟨rfl, rfl, rfl, by decide +kernel, rfl, by decide +kernel, by decide +kernel⟩
theorem ok__law_gcd {f : Addr} {fd : FuncData} {k : Nat} {dvs : List V} {kws : List (Str × V)} (F : FD K "_law_gcd" "_law_gcd" s__law_gcd dvs kws f fd) (m_abs : mg "abs" = none) (m_int : mg "int" = none) : FnOk P w K mg base (L2.CX P w) (k + 1) f fd ["_law_a", "_law_b"] (spD K 2 ph_gcd) := by
  refine fn_ok F sc__law_gcd rfl fun X cdv A outer s H E ds q xd hX hr hph hl Fr wf xok => ?_
  subst hX
  obtain ⟨a, b, rfl, hq⟩ := hph
  show S _ _ _ [_, _] _
  refine s_cons (s_a 0 sc__law_gcd.nd ?_)
  refine e_callB (id := "abs") (by rfl) m_abs b_abs ?_
  refine ea_cons ?_
  refine e_v 0 ?_
  refine ea_nil ?_
  refine wc_abs ?_
  show S _ _ _ [_, _] _
  refine s_cons (s_a 1 sc__law_gcd.nd ?_)
  refine e_callB (id := "abs") (by rfl) m_abs b_abs ?_
  refine ea_cons ?_
  refine e_v 1 ?_
  refine ea_nil ?_
  refine wc_abs ?_
  show S _ _ _ [_, _] _
  refine s_cons (s_while (fun m G => ∃ x y : Nat, m = y ∧ G = [.sh (.int (x : Int)), .sh (.int (y : Int))] ∧ Nat.gcd x y = Int.gcd a b) b.natAbs ⟨a.natAbs, b.natAbs, rfl, rfl, rfl⟩ (passes_of rfl) fun m G hI => ?_)
  obtain ⟨x, y, rfl, rfl, hg⟩ := hI
  refine t_cmp ?_
  refine e_v 1 ?_
  refine e_int ?_
  refine w_gt ?_
  refine ⟨_, rfl, ?_⟩
  refine ite_b (fun h => ?_) (fun h => ?_)
  · have h' : (0 : Int) < (m : Int) := of_decide_eq_true h
    refine s_one (s_par 0 1 rfl sc__law_gcd.nd rfl rfl (by decide) rfl rfl ?_ (by rfl))
    refine ea_cons ?_
    refine e_v 1 ?_
    refine ea_cons ?_
    refine e_bin ?_
    refine e_callTy (id := "int") (by rfl) m_int b_int ?_
    refine ea_cons ?_
    refine e_v 0 ?_
    refine ea_nil ?_
    first | refine wc_int ?_ | refine wc_intB ?_ | refine wc_intS (by walk_at "sc") (by walk_at "sc") ?_
    refine e_v 1 ?_
    first | refine w_mod (by decide) ?_ | refine w_mod (by walk_at "sc") ?_ | refine w_modN (by walk_at "sc") ?_
    refine ea_nil ?_
    refine ⟨_, _, rfl, ?_⟩
    refine ⟨x % m, Nat.mod_lt _ (by omega), m, x % m, rfl, rfl, ?_⟩
    rw [← hg, Nat.gcd_comm x m, Nat.gcd_rec m x, Nat.gcd_comm]
  · have h' : ¬ (0 : Int) < (m : Int) := of_decide_eq_false h
    have hm : m = 0 := by omega
    subst hm
    refine s_cons (s_ret ?_)
    refine e_v 0 ?_
    rw [Nat.gcd_zero_right] at hg
    rw [← hg] at hq
    exact hq

abbrev s__law_ratio : Stmt := topS 52
abbrev N__law_ratio : List Str := ["_law_num", "_law_den", "_law_divisor"]
theorem sc__law_ratio : FnScope N__law_ratio ["_law_num", "_law_den"] (defScope s__law_ratio) := ⟨rfl, rfl, rfl, by decide +kernel, rfl, by decide +kernel, by decide +kernel⟩
theorem ok__law_ratio {f : Addr} {fd : FuncData} {k : Nat} {dvs : List V} {kws : List (Str × V)} (F : FD K "_law_ratio" "_law_ratio" s__law_ratio dvs kws f fd) (c__law_gcd : Fn P w K mg base k "_law_gcd" ["_law_a", "_law_b"] [] (spD K 2 ph_gcd)) : FnOk P w K mg base (L2.CX P w) (k + 1) f fd ["_law_num", "_law_den"] (spD K 2 ph_ratio) := by
  refine fn_ok F sc__law_ratio rfl fun X cdv A outer s H E ds q xd hX hr hph hl Fr wf xok => ?_
  subst hX
  obtain ⟨n, d, rfl, ⟨hd, hz⟩, hq⟩ := hph
  obtain ⟨hc1, hc2⟩ := gcd_log (n := n) hd hz (by decide) (by decide)
  show S _ _ _ [_, _, _] _
  refine s_cons (s_a 2 sc__law_ratio.nd ?_)
  refine e_call (dds := []) c__law_gcd hr (by rfl) (fun _ => .nil) ?_
  refine ea_cons ?_
  refine e_v 0 ?_
  refine ea_cons ?_
  refine e_v 1 ?_
  refine ea_nil ?_
  refine ⟨rfl, ?_⟩
  refine u_gcd (by walk_at "sc") ?_
  show S _ _ _ [_, _, _] _
  refine s_cut (fun G => G = [.sh (.int n), .sh (.int d), .sh (.int (gcdS n d))]) (s_if ?_) ?_
  · refine t_cmp ?_
    refine e_v 1 ?_
    refine e_int ?_
    refine w_lt ⟨_, rfl, ?_⟩
    refine ite_b (fun h => ?_) (fun h => ?_)
    · refine s_one (s_a 2 sc__law_ratio.nd ?_)
      refine e_un ?_
      refine e_v 2 ?_
      refine w_neg ?_
      unfold gcdS
      rw [if_pos (of_decide_eq_true h)]
      rfl
    · refine s_nil ?_
      unfold gcdS
      rw [if_neg (of_decide_eq_false h)]
  · rintro G rfl
    refine s_cons (s_ret ?_)
    refine e_tup ?_
    refine ea_cons ?_
    refine e_bin ?_
    refine e_v 0 ?_
    refine e_v 2 ?_
    refine w_divA hc1 ?_
    refine ea_cons ?_
    refine e_bin ?_
    refine e_v 1 ?_
    refine e_v 2 ?_
    refine w_divA hc2 ?_
    refine ea_nil ?_
    refine ⟨Nat.le_of_ble_eq_true rfl, ?_⟩
    exact hq

abbrev s__law_word : Stmt := topS 53
abbrev N__law_word : List Str := ["_law_box_here", "_law_pick", "_law_den", "_law_share_here"]
theorem sc__law_word : FnScope N__law_word ["_law_box_here"] (defScope s__law_word) := ⟨rfl, rfl, rfl, by decide +kernel, rfl, by decide +kernel, by decide +kernel⟩
theorem ok__law_word {f : Addr} {fd : FuncData} {k : Nat} {dvs : List V} {kws : List (Str × V)} (F : FD K "_law_word" "_law_word" s__law_word dvs kws f fd) (m_int : mg "int" = none) (m_str : mg "str" = none) (c__law_take : Fn P w K mg base k "_law_take" ["_law_box_here", "_law_size"] [] (spB K 2 ph_take)) (c__law_ratio : Fn P w K mg base k "_law_ratio" ["_law_num", "_law_den"] [] (spD K 2 ph_ratio)) : FnOk P w K mg base (L2.CX P w) (k + 1) f fd ["_law_box_here"] (spB K 1 ph__law_word) := by
  refine fn_okX F sc__law_word rfl fun X cdv A outer s H E b c n ds q xd hX hr hph hl Fr wf xok => ?_
  subst hX
  obtain ⟨rfl, hq⟩ := hph
  have hl5 : (0 : Int) < 5 ∧ (5 : Int).natAbs.log2 < 9000 := ⟨by decide, by decide +kernel⟩
  have hl4 : (0 : Int) < 4 ∧ (4 : Int).natAbs.log2 < 9000 := ⟨by decide, by decide +kernel⟩
  show S _ _ _ [_, _, _, _] _
  refine s_cons (s_a 1 sc__law_word.nd ?_)
  refine e_callX c__law_take hr (by rfl) ?_
  refine ea_cons ?_
  refine e_v 0 ?_
  refine ea_cons ?_
  refine e_int ?_
  refine ea_nil ?_
  refine ⟨_, rfl, rfl, ?_⟩
  refine u_take (by walk_at "sc") ?_
  intro v1 va1 vb1
  show S _ _ _ [_, _, _, _] _
  refine s_cons (s_a 2 sc__law_word.nd ?_)
  refine e_bin ?_
  refine e_int ?_
  refine e_callX c__law_take hr (by rfl) ?_
  refine ea_cons ?_
  refine e_v 0 ?_
  refine ea_cons ?_
  refine e_int ?_
  refine ea_nil ?_
  refine ⟨_, rfl, rfl, ?_⟩
  refine u_take (by walk_at "sc") ?_
  intro v2 va2 vb2
  first | refine w_add ?_ | refine w_catT (by walk_at "sc") ?_ | refine w_addS (by walk_at "sc") ?_ | refine w_catL (by walk_at "sc") ?_
  show S _ _ _ [_, _, _, _] _
  have hlog : 0 < 2 + v2 - 1 ∧ (2 + v2 - 1).natAbs.log2 < 9000 := log9 (k := 120) (by omega) (by omega) (by decide) (by decide)
  refine s_cons (s_a 3 sc__law_word.nd ?_)
  refine e_call (dds := []) c__law_ratio hr (by rfl) (fun _ => .nil) ?_
  refine ea_cons ?_
  refine e_bin ?_
  refine e_int ?_
  refine e_callX c__law_take hr (by rfl) ?_
  refine ea_cons ?_
  refine e_v 0 ?_
  refine ea_cons ?_
  refine e_bin ?_
  refine e_v 2 ?_
  refine e_int ?_
  refine w_sub ?_
  refine ea_nil ?_
  refine ⟨_, rfl, rfl, ?_⟩
  refine u_take (by walk_at "sc") ?_
  intro v3 va3 vb3
  first | refine w_add ?_ | refine w_catT (by walk_at "sc") ?_ | refine w_addS (by walk_at "sc") ?_ | refine w_catL (by walk_at "sc") ?_
  refine ea_cons ?_
  refine e_v 2 ?_
  refine ea_nil ?_
  refine ⟨rfl, ?_⟩
  refine u_ratio ⟨by omega, sz_up (a := 110) (by omega) (by decide)⟩ ?_
  show S _ _ _ [_, _, _, _] _
  refine s_cons (s_if ?_)
  refine t_cmp ?_
  refine e_v 1 ?_
  refine e_int ?_
  first | refine w_eqI ?_ | refine w_eqT ?_ | refine w_eqB ?_ | refine w_eqD hr.units (by walk_at "ok") (by walk_at "ok") ?_
  refine ⟨_, rfl, ?_⟩
  refine ite_b (fun h => ?_) (fun h => ?_)
  · refine s_one (s_ret ?_)
    refine e_str ?_
    exact hq _ wd_no
  refine s_nil ?_
  obtain ⟨ir, er⟩ := mkR_spec (n := 1 + v3) (d := 2 + v2) (by omega)
  have le2 := mkR_le2 (n := 1 + v3) (d := 2 + v2) (by omega)
  generalize mkR (1 + v3) (2 + v2) = r at *
  obtain ⟨p, qq, rfl⟩ : ∃ p qq : Nat, r = ((p : Int), (qq : Int)) := by
    have h1 := ir.1
    have h2 : 0 ≤ r.1 := by
      have h3 : 0 ≤ r.1 * (2 + v2) := by rw [er]; exact Int.mul_nonneg (by omega) (by omega)
      exact Int.nonneg_of_mul_nonneg_left h3 (by omega)
    exact ⟨r.1.toNat, r.2.toNat, Prod.ext (by show r.1 = ((r.1.toNat : Nat) : Int); omega) (by show r.2 = ((r.2.toNat : Nat) : Int); omega)⟩
  have er' : (p : Int) * (2 + v2) = (1 + v3) * (qq : Int) := er
  have hq0 : 1 ≤ (qq : Int) := ir.1
  have hg : Nat.gcd p qq = 1 := ir.2
  have hq5 : qq ≤ 5 := by have : qq ≤ (2 + v2).natAbs := le2; omega
  have hp0 : 0 < p := by
    rcases Nat.eq_zero_or_pos p with z | z
    · rw [z] at er'
      have : 0 < (1 + v3) * (qq : Int) := Int.mul_pos (by omega) (by omega)
      rw [← er'] at this
      omega
    · exact z
  have hpq : p < qq := by
    have h1 : (p : Int) * (2 + v2) < (qq : Int) * (2 + v2) := by
      rw [er', Int.mul_comm]
      exact Int.mul_lt_mul_of_pos_left (by omega) (by omega)
    have := Int.lt_of_mul_lt_mul_right h1 (by omega)
    omega
  have hp : p < 10 ^ 32 := by omega
  have hqq : qq < 10 ^ 32 := by omega
  have slE : sizeLine = 16777216 := rfl
  have l2 : (Str.ofString "/").length = 1 := rfl
  have l3 := num_len hp
  have l4 := num_len hqq
  have gn := num_log hp
  have gd := num_log hqq
  have b1 : (0 : Int) ≤ v1 % 2 := by omega
  have b2 : v1 % 2 < 2 := by omega
  refine s_one (s_ret ?_)
  refine e_bin ?_
  refine e_bin ?_
  refine e_bin ?_
  refine e_ix ?_
  refine e_lst ?_
  refine ea_cons ?_
  refine e_str ?_
  refine ea_cons ?_
  refine e_str ?_
  refine ea_nil ?_
  refine ⟨Nat.le_of_ble_eq_true rfl, ?_⟩
  refine e_bin ?_
  refine e_callTy (id := "int") (by rfl) m_int b_int ?_
  refine ea_cons ?_
  refine e_v 1 ?_
  refine ea_nil ?_
  refine wc_int ?_
  refine e_int ?_
  refine w_mod (by decide) ?_
  refine wi_any b1 b2 fun di hdi => ?_
  obtain ⟨kd, hk, rfl⟩ : ∃ kd : Str, IsKind kd ∧ di = .str (kd ++ Str.ofString " ") := by
    simp only [List.mem_cons, List.not_mem_nil, or_false] at hdi
    rcases hdi with z | z
    · exact ⟨_, .inr rfl, by rw [z]; rfl⟩
    · exact ⟨_, .inl rfl, by rw [z]; rfl⟩
  have l5 := hk.len
  have l1 : (Str.ofString " ").length = 1 := rfl
  refine e_callTy (id := "str") (by rfl) m_str b_str ?_
  refine ea_cons ?_
  refine e_ix ?_
  refine e_v 3 ?_
  refine e_int ?_
  refine wi_tup0 ?_
  refine ea_nil ?_
  refine wc_strI gn ?_
  refine w_addS (by simp only [Str.length_append]; omega) ?_
  refine e_str ?_
  refine w_addS (by simp only [Str.length_append]; omega) ?_
  refine e_callTy (id := "str") (by rfl) m_str b_str ?_
  refine ea_cons ?_
  refine e_ix ?_
  refine e_v 3 ?_
  refine e_int ?_
  refine wi_tup1 ?_
  refine ea_nil ?_
  refine wc_strI gd ?_
  refine w_addS (by simp only [Str.length_append]; omega) ?_
  have e := wordL_S kd p qq
  rw [← e]
  exact hq _ (wd_k hk hp0 hpq (by omega) hg)

abbrev s__law_parts : Stmt := topS 54
abbrev N__law_parts : List Str := ["_law_box_here", "_law_most", "_law_limit", "_law_looks", "_law_tries", "_law_menu", "_law_rule", "_law_wins", "_law_pick", "_law_k"]
theorem sc__law_parts : FnScope N__law_parts ["_law_box_here", "_law_most"] (defScope s__law_parts) := ⟨rfl, rfl, rfl, by decide +kernel, rfl, by decide +kernel, by decide +kernel⟩
theorem ok__law_parts {f : Addr} {fd : FuncData} {k : Nat} {dvs : List V} {kws : List (Str × V)} (F : FD K "_law_parts" "_law_parts" s__law_parts dvs kws f fd) (m_int : mg "int" = none) (m_range : mg "range" = none) (c__law_take : Fn P w K mg base k "_law_take" ["_law_box_here", "_law_size"] [] (spB K 2 ph_take)) (c__law_word : Fn P w K mg base k "_law_word" ["_law_box_here"] [] (spB K 1 ph__law_word)) : FnOk P w K mg base (L2.CX P w) (k + 1) f fd ["_law_box_here", "_law_most"] (spB K 2 ph__law_parts) := by
  refine fn_okX F sc__law_parts rfl fun X cdv A outer s H E b c n ds q xd hX hr hph hl Fr wf xok => ?_
  subst hX
  obtain ⟨m, rfl, ⟨hm0, hm1⟩, hq⟩ := hph
  have hlm : 0 < m ∧ m.natAbs.log2 < 9000 := log9 (k := 120) (by omega) (by omega) (by decide) (by decide)
  have hl3 : (0 : Int) < 3 ∧ (3 : Int).natAbs.log2 < 9000 := ⟨by decide, by decide +kernel⟩
  have hl8 : (0 : Int) < 8 ∧ (8 : Int).natAbs.log2 < 9000 := ⟨by decide, by decide +kernel⟩
  show S _ _ _ [_, _, _, _, _, _, _, _, _, _] _
  refine s_cons (s_a 2 sc__law_parts.nd ?_)
  refine e_bin ?_
  refine e_int ?_
  refine e_callX c__law_take hr (by rfl) ?_
  refine ea_cons ?_
  refine e_v 0 ?_
  refine ea_cons ?_
  refine e_v 1 ?_
  refine ea_nil ?_
  refine ⟨_, rfl, rfl, ?_⟩
  refine u_take (by walk_at "sc") ?_
  intro v1 va1 vb1
  first | refine w_add ?_ | refine w_catT (by walk_at "sc") ?_ | refine w_addS (by walk_at "sc") ?_ | refine w_catL (by walk_at "sc") ?_
  show S _ _ _ [_, _, _, _, _, _, _, _, _, _] _
  obtain ⟨lim, hlim⟩ : ∃ lim : Nat, 1 + v1 = (lim : Int) := ⟨(1 + v1).toNat, by omega⟩
  rw [hlim]
  have h1 : 1 ≤ lim := by omega
  have h30 : lim ≤ 30 := by omega
  have hml : (lim : Int) ≤ m := by omega
  refine s_cons (s_aN 3 sc__law_parts.nd (en_lst ?_))
  refine ea_nil ?_
  refine ⟨Nat.le_of_ble_eq_true rfl, ?_⟩
  show S _ _ _ [_, _, _, _, _, _, _, _, _, _] _
  refine s_cut (fun G => ∃ (l : List Int) (g4 : Sl), G = [.sh (.adr b), .sh (.int m), .sh (.int (lim : Nat)), .ow (.lst (l.map .int)), g4, .no, .no, .no, .no, .no] ∧ l.Pairwise (· < ·) ∧ (∀ z ∈ l, 1 ≤ z ∧ z < lim) ∧ l.length < lim) (s_for (passes_of rfl) rfl ?_) ?_
  · refine i_range2 (by rfl) m_range ?_
    refine ea_cons ?_
    refine e_int ?_
    refine ea_cons ?_
    refine e_v 2 ?_
    refine ea_nil ?_
    refine ⟨_, _, rfl, by omega, ?_⟩
    refine ⟨fun i G => ∃ (l : List Int) (g4 : Sl), G = [.sh (.adr b), .sh (.int m), .sh (.int (lim : Nat)), .ow (.lst (l.map .int)), g4, .no, .no, .no, .no, .no] ∧ l.Pairwise (· < ·) ∧ (∀ z ∈ l, 1 ≤ z ∧ z < 1 + (i : Nat)) ∧ l.length ≤ i, ⟨[], _, rfl, .nil, (fun z hz => nomatch hz), Nat.le_refl _⟩, ?_, ?_⟩
    · rintro i d G hd ⟨l, g4, rfl, hp, hb, hll⟩
      obtain ⟨hi, rfl⟩ := rangeD_get hd
      refine ⟨_, (a_n 4 sc__law_parts.nd), ?_⟩
      show S _ _ _ [_, _, _, _, _, _, _, _, _, _] _
      refine s_one (s_if ?_)
      refine t_cmp ?_
      refine e_callX c__law_take hr (by rfl) ?_
      refine ea_cons ?_
      refine e_v 0 ?_
      refine ea_cons ?_
      refine e_int ?_
      refine ea_nil ?_
      refine ⟨_, rfl, rfl, ?_⟩
      refine u_take (by walk_at "sc") ?_
      intro v2 va2 vb2
      refine e_int ?_
      refine w_gt ?_
      refine ⟨_, rfl, ?_⟩
      refine ite_b (fun h => ?_) (fun h => ?_)
      · have hl9 : (l.map Dt.int).length < 100000 := by rw [List.length_map]; omega
        refine s_one (s_app 3 rfl rfl (by first | exact .inl rfl | exact .inr (.inl rfl) | exact .inr (.inr rfl)) (by walk_at "sc") ?_)
        refine e_v 4 ?_
        have e : l.map Dt.int ++ [Dt.int (1 + (i : Nat))] = (l ++ [(1 : Int) + (i : Nat)]).map Dt.int := by rw [List.map_append]; rfl
        rw [e]
        refine ⟨l ++ [(1 : Int) + (i : Nat)], _, rfl, ?_, ?_, by rw [List.length_append]; show l.length + 1 ≤ i + 1; omega⟩
        · rw [List.pairwise_append]
          refine ⟨hp, List.pairwise_singleton _ _, fun x hx y hy => ?_⟩
          rw [List.mem_singleton.mp hy]
          exact (hb x hx).2
        · intro z hz
          rcases List.mem_append.mp hz with hz | hz
          · have := hb z hz; omega
          · rw [List.mem_singleton.mp hz]; omega
      · refine s_nil ?_
        exact ⟨_, _, rfl, hp, fun z hz => by have := hb z hz; omega, by omega⟩
    · rintro G ⟨l, g4, rfl, hp, hb, hll⟩
      rw [rangeD_length] at hll hb
      exact ⟨_, _, rfl, hp, fun z hz => by have := hb z hz; omega, by omega⟩
  rintro G ⟨l, g4, rfl, hp, hb, hll⟩
  have hl9 : (l.map Dt.int).length < 100000 := by rw [List.length_map]; omega
  refine s_cons (s_app 3 rfl rfl (by first | exact .inl rfl | exact .inr (.inl rfl) | exact .inr (.inr rfl)) (by walk_at "sc") ?_)
  refine e_v 2 ?_
  show S _ _ _ [_, _, _, _, _, _, _, _, _, _] _
  have e6 : l.map Dt.int ++ [Dt.int (lim : Nat)] = (l ++ [(lim : Int)]).map Dt.int := by rw [List.map_append]; rfl
  rw [e6]
  refine s_cons (s_lc 5 (own := [("_law_k", 9)]) rfl sc__law_parts.nd rfl rfl (sw_true rfl rfl rfl (by decide +kernel)) (blkOk_by (N := N__law_parts) (sc := defScope s__law_parts) (by decide +kernel)) ?_)
  refine i_range1 (by rfl) m_range ?_
  refine ea_cons ?_
  refine e_int ?_
  refine ea_nil ?_
  refine ⟨_, rfl, by walk_at "sc", by walk_at "sc", ?_⟩
  refine' ⟨?lcl1, _, lc_all (fun y => ∃ x : Str, y = .str x ∧ Wd x) (fun d => [(9, d)]) ?lct1 ?lcm1 ?lce1, ?lcc1⟩
  case lcl1 =>
    simp [rangeD]
  case lct1 =>
    rintro t ht Y ⟨s', H', C, cl, fp, rfl⟩
    exact (a_n 9 sc__law_parts.nd)
  case lcm1 =>
    intro t p hp
    simp at hp
    simp [hp]
  case lce1 =>
    rintro t ht Y ⟨s', H', C, cl, fp, rfl⟩
    refine e_callX c__law_word hr (by rfl) ?_
    refine ea_cons ?_
    refine e_v 0 ?_
    refine ea_nil ?_
    refine ⟨_, rfl, rfl, ?_⟩
    refine u__law_word (by walk_at "sc") ?_
    intro x3 wd3
    exact ⟨_, rfl, by assumption⟩
  rintro acc ⟨hal, hac⟩
  obtain ⟨mn, rfl, l2, hmn⟩ := strs_of hac
  have hmn3 : mn.length = 3 := by rw [l2, hal, rangeD_length]; rfl
  show S _ _ _ [_, _, _, _, _, _, _, _, _, _] _
  refine s_cons (s_aO 6 sc__law_parts.nd (ew_dnew ?_))
  show S _ _ _ [_, _, _, _, _, _, _, _, _, _] _
  show S _ _ _ [.sh (.adr b), .sh (.int m), .sh (.int (lim : Nat)), .ow (.lst ((l ++ [(lim : Int)]).map .int)), g4, .sh (.lst (mn.map .str)), .ow (dA Dt.str []), .no, .no, .no] _
  refine s_cut (fun G => ∃ (rl : Al Str) (g4 g7 g8 : Sl), G = [.sh (.adr b), .sh (.int m), .sh (.int (lim : Nat)), .ow (.lst ((l ++ [(lim : Int)]).map .int)), g4, .sh (.lst (mn.map .str)), .ow (dA Dt.str rl), g7, g8, .no] ∧ RlOk (cnN lim) rl ∧ ∀ j : Nat, j ≤ lim → has rl ((j : Int), (lim : Int) - j) = true) (s_for (passes_of rfl) rfl ?_) ?_
  · refine i_range2 (by rfl) m_range ?_
    refine ea_cons ?_
    refine e_int ?_
    refine ea_cons ?_
    refine e_bin ?_
    refine e_v 2 ?_
    refine e_int ?_
    refine w_add ?_
    refine ea_nil ?_
    refine ⟨_, _, rfl, by omega, ?_⟩
    refine ⟨fun i G => ∃ (rl : Al Str) (g4 g7 g8 : Sl), G = [.sh (.adr b), .sh (.int m), .sh (.int (lim : Nat)), .ow (.lst ((l ++ [(lim : Int)]).map .int)), g4, .sh (.lst (mn.map .str)), .ow (dA Dt.str rl), g7, g8, .no] ∧ RlOk (cnN i) rl ∧ (i = lim → ∀ j : Nat, j ≤ lim → has rl ((j : Int), (lim : Int) - j) = true), ⟨[], _, _, _, rfl, RlOk.nil, fun z => by omega⟩, ?_, ?_⟩
    · rintro i d G hd ⟨rl, g4, g7, g8, rfl, hrl, hfl⟩
      obtain ⟨hi, rfl⟩ := rangeD_get hd
      refine ⟨_, (a_n 4 sc__law_parts.nd), ?_⟩
      show S _ _ _ [_, _, _, _, _, _, _, _, _, _] _
      refine s_one (s_for (passes_of rfl) rfl ?_)
      refine i_range1 (by rfl) m_range ?_
      refine ea_cons ?_
      refine e_bin ?_
      refine e_v 4 ?_
      refine e_int ?_
      first | refine w_add ?_ | refine w_catT (by walk_at "sc") ?_ | refine w_addS (by walk_at "sc") ?_ | refine w_catL (by walk_at "sc") ?_
      refine ea_nil ?_
      refine ⟨_, rfl, by walk_at "sc", by walk_at "sc", ?_⟩
      refine ⟨fun j G => ∃ (rl : Al Str) (g7 g8 : Sl), G = [.sh (.adr b), .sh (.int m), .sh (.int (lim : Nat)), .ow (.lst ((l ++ [(lim : Int)]).map .int)), .sh (.int (1 + (i : Nat))), .sh (.lst (mn.map .str)), .ow (dA Dt.str rl), g7, g8, .no] ∧ RlOk (cnN i ++ nRow i j) rl ∧ (i + 1 = lim → ∀ z : Nat, z < j → has rl ((z : Int), (lim : Int) - z) = true), ⟨rl, _, _, rfl, by rw [show nRow i 0 = [] from rfl, List.append_nil]; exact hrl, fun _ z hz => by omega⟩, ?_, ?_⟩
      · rintro j d G hd ⟨rl, g7, g8, rfl, hrl, hfl⟩
        obtain ⟨hj, rfl⟩ := rangeD_get hd
        have hlr := rl_lens hrl (by omega) (by omega)
        refine ⟨_, (a_n 7 sc__law_parts.nd), ?_⟩
        show S _ _ _ [_, _, _, _, _, _, _, _, _, _] _
        refine s_cons (s_a 8 sc__law_parts.nd ?_)
        refine e_callX c__law_take hr (by rfl) ?_
        refine ea_cons ?_
        refine e_v 0 ?_
        refine ea_cons ?_
        refine e_int ?_
        refine ea_nil ?_
        refine ⟨_, rfl, rfl, ?_⟩
        refine u_take (by walk_at "sc") ?_
        intro v4 va4 vb4
        show S _ _ _ [_, _, _, _, _, _, _, _, _, _] _
        refine s_one (s_if ?_)
        refine TW.t ?_
        refine' tw_orD ?ha2 (fun hb => ?hb2) ?hc2
        case ha2 =>
          refine t_cmp ?_
          refine e_v 4 ?_
          refine e_v 2 ?_
          first | refine w_eqI ?_ | refine w_eqT ?_ | refine w_eqB ?_ | refine w_eqD hr.units (by walk_at "ok") (by walk_at "ok") ?_
          refine ⟨_, rfl, ?_⟩
          exact rfl
        case hb2 =>
          refine tw_or1 ?_
          refine t_cmp ?_
          refine e_v 8 ?_
          refine e_int ?_
          refine w_lt ?_
          refine ⟨_, rfl, ?_⟩
          exact rfl
        have b0 : 0 ≤ v4 % 3 := by omega
        have b1 : v4 % 3 < ((mn.map Dt.str).length : Nat) := by rw [List.length_map, hmn3]; omega
        have ec : (0 + (j : Nat) : Int) = j := by omega
        refine ite_b (fun h => ?_) (fun h => ?_)
        · refine s_one (s_dputA 6 hr.u1 rfl rfl (by first | exact .inl rfl | exact .inr (.inl rfl) | exact .inr (.inr rfl)) hlr ?_)
          refine e_ix ?_
          refine e_v 5 ?_
          refine e_bin ?_
          refine e_callTy (id := "int") (by rfl) m_int b_int ?_
          refine ea_cons ?_
          refine e_v 8 ?_
          refine ea_nil ?_
          refine wc_int ?_
          refine e_int ?_
          refine w_mod (by decide) ?_
          refine wi_any b0 b1 fun di hdi => ?_
          obtain ⟨x, hx, rfl⟩ := List.mem_map.mp hdi
          refine ⟨_, rfl, ?_⟩
          refine e_kk ?_
          refine ea_cons ?_
          refine e_v 7 ?_
          refine ea_cons ?_
          refine e_bin ?_
          refine e_v 4 ?_
          refine e_v 7 ?_
          refine w_sub ?_
          refine ea_nil ?_
          refine ⟨(_, _), rfl, ?_⟩
          refine ⟨_, rfl, ?_⟩
          have eP : ((0 + (j : Nat) : Int), (1 + (i : Nat) : Int) - (0 + (j : Nat))) = castP (j, i + 1 - j) := Prod.ext ec (by show (1 + (i : Nat) : Int) - (0 + (j : Nat)) = ((i + 1 - j : Nat) : Int); omega)
          rw [eP]
          obtain ⟨r1, r2⟩ := hrl.add (nRow_new (i := i) (j := j) (by omega)) (hmn x hx)
          refine ⟨put rl (castP (j, i + 1 - j)) x, _, _, rfl, by rw [nRow_succ, ← List.append_assoc]; exact r1, fun hL z hz => ?_⟩
          refine has_put ?_
          by_cases e : z = j
          · right
            rw [e]
            exact Prod.ext rfl (by show ((i + 1 - j : Nat) : Int) = (lim : Int) - j; omega)
          · exact .inl (hfl hL z (by omega))
        · refine s_nil ?_
          refine ⟨rl, _, _, rfl, by rw [nRow_succ, ← List.append_assoc]; exact hrl.skip _, fun hL z hz => ?_⟩
          exfalso
          rw [Bool.or_eq_false_iff] at h
          have := of_decide_eq_false h.1
          omega
      · rintro G ⟨rl, g7, g8, rfl, hrl, hfl⟩
        rw [rangeD_length, show (1 + (i : Nat) + 1 : Int).toNat = i + 2 by omega] at hrl hfl
        refine ⟨rl, _, _, _, rfl, by rw [cnN_succ]; exact hrl, fun hL j hj => hfl hL j (by omega)⟩
    · rintro G ⟨rl, g4, g7, g8, rfl, hrl, hfl⟩
      rw [rangeD_length, show ((lim : Nat) + 1 - 1 : Int).toNat = lim by omega] at hrl hfl
      exact ⟨_, _, _, _, rfl, hrl, hfl rfl⟩
  rintro G ⟨rl, g4, g7, g8, rfl, hrl, hfl⟩
  refine s_one (s_ret ?_)
  refine e_tup ?_
  refine ea_cons ?_
  refine e_v 2 ?_
  refine ea_cons ?_
  refine e_v 3 ?_
  refine ea_cons ?_
  refine e_v 6 ?_
  refine ea_nil ?_
  refine ⟨Nat.le_of_ble_eq_true rfl, ?_⟩
  exact hq lim _ rl (vt_of h1 h30 hp hb hll hrl hfl) hml

abbrev s_common_divisor : Stmt := topS 8
abbrev N_common_divisor : List Str := ["first", "second"]
theorem sc_common_divisor : FnScope N_common_divisor ["first", "second"] (defScope s_common_divisor) := ⟨rfl, rfl, rfl, by decide +kernel, rfl, by decide +kernel, by decide +kernel⟩
theorem ok_common_divisor {f : Addr} {fd : FuncData} {k : Nat} {dvs : List V} {kws : List (Str × V)} (F : FD K "common_divisor" "common_divisor" s_common_divisor dvs kws f fd) (m_abs : mg "abs" = none) : FnOk P w K mg base (L2.CX P w) (k + 1) f fd ["first", "second"] (spD K 2 ph_gcd) := by
  refine fn_ok F sc_common_divisor rfl fun X cdv A outer s H E ds q xd hX hr hph hl Fr wf xok => ?_
  subst hX
  obtain ⟨a, b, rfl, hq⟩ := hph
  show S _ _ _ [_, _] _
  refine s_cons (s_a 0 sc_common_divisor.nd ?_)
  refine e_callB (id := "abs") (by rfl) m_abs b_abs ?_
  refine ea_cons ?_
  refine e_v 0 ?_
  refine ea_nil ?_
  refine wc_abs ?_
  show S _ _ _ [_, _] _
  refine s_cons (s_a 1 sc_common_divisor.nd ?_)
  refine e_callB (id := "abs") (by rfl) m_abs b_abs ?_
  refine ea_cons ?_
  refine e_v 1 ?_
  refine ea_nil ?_
  refine wc_abs ?_
  show S _ _ _ [_, _] _
  refine s_cons (s_while (fun m G => ∃ x y : Nat, m = y ∧ G = [.sh (.int (x : Int)), .sh (.int (y : Int))] ∧ Nat.gcd x y = Int.gcd a b) b.natAbs ⟨a.natAbs, b.natAbs, rfl, rfl, rfl⟩ (passes_of rfl) fun m G hI => ?_)
  obtain ⟨x, y, rfl, rfl, hg⟩ := hI
  refine t_cmp ?_
  refine e_v 1 ?_
  refine e_int ?_
  refine w_gt ?_
  refine ⟨_, rfl, ?_⟩
  refine ite_b (fun h => ?_) (fun h => ?_)
  · have h' : (0 : Int) < (m : Int) := of_decide_eq_true h
    refine s_one (s_par 0 1 rfl sc_common_divisor.nd rfl rfl (by decide) rfl rfl ?_ (by rfl))
    refine ea_cons ?_
    refine e_v 1 ?_
    refine ea_cons ?_
    refine e_bin ?_
    refine e_v 0 ?_
    refine e_v 1 ?_
    first | refine w_mod (by decide) ?_ | refine w_mod (by walk_at "sc") ?_ | refine w_modN (by walk_at "sc") ?_
    refine ea_nil ?_
    refine ⟨_, _, rfl, ?_⟩
    refine ⟨x % m, Nat.mod_lt _ (by omega), m, x % m, rfl, rfl, ?_⟩
    rw [← hg, Nat.gcd_comm x m, Nat.gcd_rec m x, Nat.gcd_comm]
  · have h' : ¬ (0 : Int) < (m : Int) := of_decide_eq_false h
    have hm : m = 0 := by omega
    subst hm
    refine s_cons (s_ret ?_)
    refine e_v 0 ?_
    rw [Nat.gcd_zero_right] at hg
    rw [← hg] at hq
    exact hq

abbrev s_is_share : Stmt := topS 11
abbrev N_is_share : List Str := ["value", "num", "den"]
theorem sc_is_share : FnScope N_is_share ["value"] (defScope s_is_share) := ⟨rfl, rfl, rfl, by decide +kernel, rfl, by decide +kernel, by decide +kernel⟩
theorem ok_is_share {f : Addr} {fd : FuncData} {k : Nat} {dvs : List V} {kws : List (Str × V)} (F : FD K "is_share" "is_share" s_is_share dvs kws f fd) (c_common_divisor : Fn P w K mg base k "common_divisor" ["first", "second"] [] (spD K 2 ph_gcd)) : FnOk P w K mg base (L2.CX P w) (k + 1) f fd ["value"] (spD K 1 ph_is_share) := by
  refine fn_ok F sc_is_share rfl fun X cdv A outer s H E ds q xd hX hr hph hl Fr wf xok => ?_
  subst hX
  obtain ⟨n, d, rfl, hq⟩ := hph
  show S _ _ _ [_, _, _] _
  refine s_cons (s_unpack ?_)
  refine e_v 0 ?_
  refine ⟨_, (a_tup rfl (as_cons (a_n 1 sc_is_share.nd) (as_cons (a_n 2 sc_is_share.nd) as_nil))), ?_⟩
  show S _ _ _ [_, _, _] _
  refine s_cons (s_ret ?_)
  refine' e_andD ?ha3 (fun hb => ?hb3) ?hc3
  case ha3 =>
    refine e_cmp ?_
    refine e_v 2 ?_
    refine e_int ?_
    refine w_ge ?_
    exact rfl
  case hb3 =>
    refine' e_andD ?ha4 (fun hb => ?hb4) ?hc4
    case ha4 =>
      refine' e_chainD ?ha5 ?hc5
      case ha5 =>
        refine e_int ?_
        refine e_v 1 ?_
        refine w_le ?_
        refine ⟨rfl, fun hb => ?_⟩
        refine e_v 2 ?_
        refine w_le ?_
        exact rfl
      exact rfl
    case hb4 =>
      refine e_one ?_
      refine e_cmp ?_
      refine e_call (dds := []) c_common_divisor hr (by rfl) (fun _ => .nil) ?_
      refine ea_cons ?_
      refine e_v 1 ?_
      refine ea_cons ?_
      refine e_v 2 ?_
      refine ea_nil ?_
      refine ⟨rfl, ?_⟩
      refine u_gcd (by walk_at "sc") ?_
      refine e_int ?_
      first | refine w_eqI ?_ | refine w_eqT ?_ | refine w_eqB ?_ | refine w_eqD hr.units (by walk_at "ok") (by walk_at "ok") ?_
      exact rfl
    exact rfl
  exact hq

abbrev s_read_number : Stmt := topS 41
abbrev N_read_number : List Str := ["text", "most", "char"]
theorem sc_read_number : FnScope N_read_number ["text", "most"] (defScope s_read_number) := ⟨rfl, rfl, rfl, by decide +kernel, rfl, by decide +kernel, by decide +kernel⟩
theorem ok_read_number {f : Addr} {fd : FuncData} {k : Nat} {dvs : List V} {kws : List (Str × V)} (F : FD K "read_number" "read_number" s_read_number dvs kws f fd) (m_any : mg "any" = none) (m_int : mg "int" = none) (m_len : mg "len" = none) : FnOk P w K mg base (L2.CX P w) (k + 1) f fd ["text", "most"] (spD K 2 ph_read_number) := by
  refine fn_ok F sc_read_number rfl fun X cdv A outer s H E ds q xd hX hr hph hl Fr wf xok => ?_
  subst hX
  obtain ⟨l, most, rfl, ⟨hl1, hm⟩, hq⟩ := hph
  have hlen : (SX.S l).length ≤ sizeLine := by rw [SX.S_len]; exact Nat.le_trans hl1 (by decide)
  show S _ _ _ [_, _, _] _
  refine s_cons (s_if ?_)
  refine TW.t ?_
  refine' tw_orD ?ha6 (fun hb => ?hb6) ?hc6
  case ha6 =>
    refine t_cmp ?_
    refine e_v 0 ?_
    refine e_str ?_
    first | refine w_eqI ?_ | refine w_eqT ?_ | refine w_eqB ?_ | refine w_eqD hr.units (by walk_at "ok") (by walk_at "ok") ?_
    refine ⟨_, rfl, ?_⟩
    exact rfl
  case hb6 =>
    refine' tw_orD ?ha7 (fun hb => ?hb7) ?hc7
    case ha7 =>
      refine t_cmp ?_
      refine e_callB (id := "len") (by rfl) m_len b_len ?_
      refine ea_cons ?_
      refine e_v 0 ?_
      refine ea_nil ?_
      first | refine wc_len_lst ?_ | refine wc_len_tup ?_ | refine wc_len_str (by walk_at "sc") ?_ | refine wc_lenc (fun hn63 => ?_)
      refine e_v 1 ?_
      refine w_gt ?_
      refine ⟨_, rfl, ?_⟩
      exact rfl
    case hb7 =>
      refine tw_or1 ?_
      refine t_val ?_
      refine e_callB (id := "any") (by rfl) m_any b_any ?_
      refine ea_cons ?_
      refine e_lc (own := [("char", 2)]) rfl sc_read_number.nd (blkOk_by (N := N_read_number) (sc := defScope s_read_number) (by decide +kernel)) ?_
      refine i_str ?_
      refine e_v 0 ?_
      refine ⟨_, rfl, ?_⟩
      (refine ⟨by rw [List.length_map, SX.S]; show l.length ≤ 100000; omega, _, lc_boolS (fun c => !decide (c ∈ dg)) 2 (fun c Y bY => by obtain ⟨s', H', C, cl, fp, rfl⟩ := bY; exact a_n 2 sc_read_number.nd) (by simp) (fun c Y bY => by obtain ⟨s', H', C, cl, fp, rfl⟩ := bY; refine e_cmp ?_; refine e_v 2 ?_; refine e_str ?_; refine w_notInS ?_; rfl), fun acc ha => ?_⟩; subst ha)
      refine ea_nil ?_
      refine wc_any rfl ?_
      refine ⟨_, rfl, ?_⟩
      exact rfl
    exact rfl
  rw [SX.S_len]
  have e0 : (SX.S l = Str.ofString "") ↔ l = [] := ⟨fun h => SX.S_inj (b := []) h, fun h => by rw [h]; rfl⟩
  have e1 : (List.take (List.map (fun c => Dt.str { cps := #[c] }) (SX.S l).cps.toList).length (List.map (fun c => !decide (c ∈ dg)) l)) = List.map (fun c => !decide (c ∈ dg)) l := List.take_of_length_le (by rw [List.length_map, List.length_map]; exact Nat.le_refl _)
  rw [e1]
  by_cases hbad : l = [] ∨ most < l.length ∨ (∃ c ∈ l, c ∉ dg)
  · refine ite_t ?_ ?_
    · simp only [Bool.or_eq_true, decide_eq_true_eq, e0, List.any_eq_true, List.mem_map, id]
      rcases hbad with h | h | ⟨c, hc, hd⟩
      · exact .inl h
      · exact .inr (.inl h)
      · exact .inr (.inr ⟨true, ⟨c, hc, by simp [hd]⟩, rfl⟩)
    · unfold rdNum at hq
      rw [if_pos hbad] at hq
      refine s_one (s_ret ?_)
      refine e_un ?_
      refine e_int ?_
      refine w_neg ?_
      exact hq
  · refine ite_f ?_ ?_
    · rw [← Bool.not_eq_true]
      simp only [Bool.or_eq_true, decide_eq_true_eq, e0, List.any_eq_true, List.mem_map, id]
      rintro (h | h | ⟨x, ⟨c, hc, hx⟩, rfl⟩)
      · exact hbad (.inl h)
      · exact hbad (.inr (.inl h))
      · exact hbad (.inr (.inr ⟨c, hc, by simpa using hx⟩))
    · refine s_nil ?_
      have hne : l ≠ [] := fun h => hbad (.inl h)
      have hdig : NumText.AllDigits l := fun c hc => by
        have : c ∈ dg := Classical.byContradiction fun h => hbad (.inr (.inr ⟨c, hc, h⟩))
        unfold dg at this
        simp only [List.mem_cons, List.not_mem_nil, or_false] at this
        omega
      have hlm : (l.length : Int) ≤ most := by
        have := fun h => hbad (.inr (.inl h))
        omega
      obtain ⟨c0, r, rfl⟩ : ∃ c0 r, l = c0 :: r := by
        cases l with
        | nil => exact absurd rfl hne
        | cons c0 r => exact ⟨c0, r, rfl⟩
      unfold rdNum at hq
      rw [if_neg hbad] at hq
      have hint : intText? (SX.S (c0 :: r)) = some ((NumText.digitsVal (c0 :: r) : Nat) : Int) := intText_digits hdig hne (by rw [SX.S_len]; omega)
      have h640 : (SX.S (c0 :: r)).length ≤ 640 := by rw [SX.S_len]; omega
      refine s_cons (s_if ?_)
      refine TW.t ?_
      refine' tw_andD ?ha8 (fun hb => ?hb8) ?hc8
      case ha8 =>
        refine t_cmp ?_
        refine e_ix ?_
        refine e_v 0 ?_
        refine e_int ?_
        refine wi_str hlen (k := c0) (atI_nat (j := 0) rfl) ?_
        refine e_str ?_
        first | refine w_eqI ?_ | refine w_eqT ?_ | refine w_eqB ?_ | refine w_eqD hr.units (by walk_at "ok") (by walk_at "ok") ?_
        refine ⟨_, rfl, ?_⟩
        exact rfl
      case hb8 =>
        refine tw_and1 ?_
        refine t_cmp ?_
        refine e_callB (id := "len") (by rfl) m_len b_len ?_
        refine ea_cons ?_
        refine e_v 0 ?_
        refine ea_nil ?_
        first | refine wc_len_lst ?_ | refine wc_len_tup ?_ | refine wc_len_str (by walk_at "sc") ?_ | refine wc_lenc (fun hn63 => ?_)
        refine e_int ?_
        refine w_gt ?_
        refine ⟨_, rfl, ?_⟩
        exact rfl
      have e3 : ((⟨#[c0]⟩ : Str) = Str.ofString "0") ↔ c0 = 48 := ⟨fun h => by have := SX.S_inj (a := [c0]) (b := [48]) h; exact (List.cons.inj this).1, fun h => by rw [h]; rfl⟩
      rw [SX.S_len]
      by_cases h : (c0 :: r).head? = some 48 ∧ 1 < (c0 :: r).length
      · refine ite_t ?_ ?_
        · have h1 : c0 = 48 := Option.some.inj h.1
          have h2 : (1 : Int) < ((c0 :: r).length : Nat) := by omega
          rw [decide_eq_true (e3.mpr h1), decide_eq_true h2]
          rfl
        · rw [if_pos h] at hq
          refine s_one (s_ret ?_)
          refine e_un ?_
          refine e_int ?_
          refine w_neg ?_
          exact hq
      · refine ite_f ?_ ?_
        · rw [← Bool.not_eq_true, Bool.and_eq_true, decide_eq_true_eq, decide_eq_true_eq, e3]
          rintro ⟨h1, h2⟩
          exact h ⟨by rw [h1]; rfl, by omega⟩
        · refine s_nil ?_
          rw [if_neg h] at hq
          refine s_cons (s_ret ?_)
          refine e_callTy (id := "int") (by rfl) m_int b_int ?_
          refine ea_cons ?_
          refine e_v 0 ?_
          refine ea_nil ?_
          refine wc_intS hint h640 ?_
          exact hq

abbrev s_read_share : Stmt := topS 42
abbrev N_read_share : List Str := ["text", "num", "slash", "den", "share"]
theorem sc_read_share : FnScope N_read_share ["text"] (defScope s_read_share) := ⟨rfl, rfl, rfl, by decide +kernel, rfl, by decide +kernel, by decide +kernel⟩
theorem ok_read_share {f : Addr} {fd : FuncData} {k : Nat} {dvs : List V} {kws : List (Str × V)} {v_MOST_DIGITS : V} {u_MOST_DIGITS : Value} (F : FD K "read_share" "read_share" s_read_share dvs kws f fd) (c_is_share : Fn P w K mg base k "is_share" ["value"] [] (spD K 1 ph_is_share)) (c_read_number : Fn P w K mg base k "read_number" ["text", "most"] [] (spD K 2 ph_read_number)) (g_MOST_DIGITS : mg "MOST_DIGITS" = some u_MOST_DIGITS) (r_MOST_DIGITS : RelV v_MOST_DIGITS u_MOST_DIGITS) (k_MOST_DIGITS : ∀ F, Rp K F d_MOST_DIGITS v_MOST_DIGITS) : FnOk P w K mg base (L2.CX P w) (k + 1) f fd ["text"] (spD K 1 ph_read_share) := by
  refine fn_ok F sc_read_share rfl fun X cdv A outer s H E ds q xd hX hr hph hl Fr wf xok => ?_
  subst hX
  obtain ⟨l, rfl, hl1, hq⟩ := hph
  have hlen : (SX.S l).length ≤ 100000 := by rw [SX.S_len]; omega
  show S _ _ _ [_, _, _, _, _] _
  refine s_cons (s_unpack ?_)
  refine e_partition ?_
  refine e_v 0 ?_
  refine ⟨_, rfl, ?_⟩
  refine e_str ?_
  refine ⟨_, rfl, by walk_at "sc", by walk_at "sc", ?_⟩
  refine ⟨_, (a_tup rfl (as_cons (a_n 1 sc_read_share.nd) (as_cons (a_n 2 sc_read_share.nd) (as_cons (a_n 3 sc_read_share.nd) as_nil)))), ?_⟩
  show S _ _ _ [_, _, _, _, _] _
  cases hp : TL.par [47] [] l with
  | none =>
    have e : Txt.partition (SX.S l) (Str.ofString "/") = (SX.S l, SX.S [], SX.S []) := SX.partition_none (b := [47]) (by simp) hp
    have hq0 : q .non := by
      unfold rdShare at hq
      rw [hp] at hq
      exact hq
    rw [e]
    have pz : ([] : List Nat).length ≤ 90000 ∧ (30 : Int) ≤ 600 := ⟨by decide, by decide⟩
    have pl : l.length ≤ 90000 ∧ (30 : Int) ≤ 600 := ⟨hl1, by decide⟩
    refine s_cons (s_a 4 sc_read_share.nd ?_)
    refine e_tup ?_
    refine ea_cons ?_
    refine e_call (dds := []) c_read_number hr (by rfl) (fun _ => .nil) ?_
    refine ea_cons ?_
    refine e_v 1 ?_
    refine ea_cons ?_
    refine e_glob (by rfl) g_MOST_DIGITS r_MOST_DIGITS k_MOST_DIGITS ?_
    refine ea_nil ?_
    refine ⟨rfl, ?_⟩
    refine u_read_number pl ?_
    refine ea_cons ?_
    refine e_call (dds := []) c_read_number hr (by rfl) (fun _ => .nil) ?_
    refine ea_cons ?_
    refine e_v 3 ?_
    refine ea_cons ?_
    refine e_glob (by rfl) g_MOST_DIGITS r_MOST_DIGITS k_MOST_DIGITS ?_
    refine ea_nil ?_
    refine ⟨rfl, ?_⟩
    refine u_read_number pz ?_
    refine ea_nil ?_
    refine ⟨Nat.le_of_ble_eq_true rfl, ?_⟩
    show S _ _ _ [_, _, _, _, _] _
    refine s_cons (s_if ?_)
    refine TW.t ?_
    refine' tw_orD ?ha9 (fun hb => ?hb9) ?hc9
    case ha9 =>
      refine t_cmp ?_
      refine e_v 2 ?_
      refine e_str ?_
      first | refine w_eqI ?_ | refine w_eqT ?_ | refine w_eqB ?_ | refine w_eqD hr.units (by walk_at "ok") (by walk_at "ok") ?_
      refine ⟨_, rfl, ?_⟩
      exact rfl
    case hb9 =>
      refine' tw_orD ?ha10 (fun hb => ?hb10) ?hc10
      case ha10 =>
        refine t_not ?_
        refine t_val ?_
        refine e_call (dds := []) c_is_share hr (by rfl) (fun _ => .nil) ?_
        refine ea_cons ?_
        refine e_v 4 ?_
        refine ea_nil ?_
        refine ⟨rfl, ?_⟩
        refine u_is_share (by walk_at "sc") ?_
        refine ⟨_, rfl, ?_⟩
        exact rfl
      case hb10 =>
        refine' tw_orD ?ha11 (fun hb => ?hb11) ?hc11
        case ha11 =>
          refine t_cmp ?_
          refine e_ix ?_
          refine e_v 4 ?_
          refine e_int ?_
          first | refine wi_tup0 ?_ | refine wi_tup1 ?_ | refine wi_tup2 ?_ | refine wi_tup (by walk_at "sc") ?_ | refine wi_lst (by walk_at "sc") ?_ | refine wi_str (by walk_at "sc") (by walk_at "sc") ?_
          refine e_int ?_
          first | refine w_eqI ?_ | refine w_eqT ?_ | refine w_eqB ?_ | refine w_eqD hr.units (by walk_at "ok") (by walk_at "ok") ?_
          refine ⟨_, rfl, ?_⟩
          exact rfl
        case hb11 =>
          refine tw_or1 ?_
          refine t_cmp ?_
          refine e_ix ?_
          refine e_v 4 ?_
          refine e_int ?_
          first | refine wi_tup0 ?_ | refine wi_tup1 ?_ | refine wi_tup2 ?_ | refine wi_tup (by walk_at "sc") ?_ | refine wi_lst (by walk_at "sc") ?_ | refine wi_str (by walk_at "sc") (by walk_at "sc") ?_
          refine e_ix ?_
          refine e_v 4 ?_
          refine e_int ?_
          first | refine wi_tup0 ?_ | refine wi_tup1 ?_ | refine wi_tup2 ?_ | refine wi_tup (by walk_at "sc") ?_ | refine wi_lst (by walk_at "sc") ?_ | refine wi_str (by walk_at "sc") (by walk_at "sc") ?_
          first | refine w_eqI ?_ | refine w_eqT ?_ | refine w_eqB ?_ | refine w_eqD hr.units (by walk_at "ok") (by walk_at "ok") ?_
          refine ⟨_, rfl, ?_⟩
          exact rfl
        exact rfl
      exact rfl
    refine ite_t (by rfl) ?_
    refine s_one (s_ret ?_)
    refine e_none ?_
    exact hq0
  | some pq =>
    obtain ⟨p, r⟩ := pq
    have e : Txt.partition (SX.S l) (Str.ofString "/") = (SX.S p, SX.S [47], SX.S r) := SX.partition_some (b := [47]) (by simp) hp
    obtain ⟨lp, lr⟩ := par_len hp
    have pp : p.length ≤ 90000 ∧ (30 : Int) ≤ 600 := ⟨by omega, by decide⟩
    have pr : r.length ≤ 90000 ∧ (30 : Int) ≤ 600 := ⟨by omega, by decide⟩
    unfold rdShare at hq
    rw [hp] at hq
    dsimp only at hq
    rw [e]
    refine s_cons (s_a 4 sc_read_share.nd ?_)
    refine e_tup ?_
    refine ea_cons ?_
    refine e_call (dds := []) c_read_number hr (by rfl) (fun _ => .nil) ?_
    refine ea_cons ?_
    refine e_v 1 ?_
    refine ea_cons ?_
    refine e_glob (by rfl) g_MOST_DIGITS r_MOST_DIGITS k_MOST_DIGITS ?_
    refine ea_nil ?_
    refine ⟨rfl, ?_⟩
    refine u_read_number pp ?_
    refine ea_cons ?_
    refine e_call (dds := []) c_read_number hr (by rfl) (fun _ => .nil) ?_
    refine ea_cons ?_
    refine e_v 3 ?_
    refine ea_cons ?_
    refine e_glob (by rfl) g_MOST_DIGITS r_MOST_DIGITS k_MOST_DIGITS ?_
    refine ea_nil ?_
    refine ⟨rfl, ?_⟩
    refine u_read_number pr ?_
    refine ea_nil ?_
    refine ⟨Nat.le_of_ble_eq_true rfl, ?_⟩
    show S _ _ _ [_, _, _, _, _] _
    generalize rdNum p 30 = n at *
    generalize rdNum r 30 = d at *
    refine s_cons (s_if ?_)
    refine TW.t ?_
    refine' tw_orD ?ha12 (fun hb => ?hb12) ?hc12
    case ha12 =>
      refine t_cmp ?_
      refine e_v 2 ?_
      refine e_str ?_
      first | refine w_eqI ?_ | refine w_eqT ?_ | refine w_eqB ?_ | refine w_eqD hr.units (by walk_at "ok") (by walk_at "ok") ?_
      refine ⟨_, rfl, ?_⟩
      exact rfl
    case hb12 =>
      refine' tw_orD ?ha13 (fun hb => ?hb13) ?hc13
      case ha13 =>
        refine t_not ?_
        refine t_val ?_
        refine e_call (dds := []) c_is_share hr (by rfl) (fun _ => .nil) ?_
        refine ea_cons ?_
        refine e_v 4 ?_
        refine ea_nil ?_
        refine ⟨rfl, ?_⟩
        refine u_is_share (by walk_at "sc") ?_
        refine ⟨_, rfl, ?_⟩
        exact rfl
      case hb13 =>
        refine' tw_orD ?ha14 (fun hb => ?hb14) ?hc14
        case ha14 =>
          refine t_cmp ?_
          refine e_ix ?_
          refine e_v 4 ?_
          refine e_int ?_
          first | refine wi_tup0 ?_ | refine wi_tup1 ?_ | refine wi_tup2 ?_ | refine wi_tup (by walk_at "sc") ?_ | refine wi_lst (by walk_at "sc") ?_ | refine wi_str (by walk_at "sc") (by walk_at "sc") ?_
          refine e_int ?_
          first | refine w_eqI ?_ | refine w_eqT ?_ | refine w_eqB ?_ | refine w_eqD hr.units (by walk_at "ok") (by walk_at "ok") ?_
          refine ⟨_, rfl, ?_⟩
          exact rfl
        case hb14 =>
          refine tw_or1 ?_
          refine t_cmp ?_
          refine e_ix ?_
          refine e_v 4 ?_
          refine e_int ?_
          first | refine wi_tup0 ?_ | refine wi_tup1 ?_ | refine wi_tup2 ?_ | refine wi_tup (by walk_at "sc") ?_ | refine wi_lst (by walk_at "sc") ?_ | refine wi_str (by walk_at "sc") (by walk_at "sc") ?_
          refine e_ix ?_
          refine e_v 4 ?_
          refine e_int ?_
          first | refine wi_tup0 ?_ | refine wi_tup1 ?_ | refine wi_tup2 ?_ | refine wi_tup (by walk_at "sc") ?_ | refine wi_lst (by walk_at "sc") ?_ | refine wi_str (by walk_at "sc") (by walk_at "sc") ?_
          first | refine w_eqI ?_ | refine w_eqT ?_ | refine w_eqB ?_ | refine w_eqD hr.units (by walk_at "ok") (by walk_at "ok") ?_
          refine ⟨_, rfl, ?_⟩
          exact rfl
        exact rfl
      exact rfl
    have e2 : (decide (SX.S [47] = Str.ofString "") || (!isShare n d || (decide (n = 0) || decide (n = d)))) = !okSh n d := by
      rw [decide_eq_false (show ¬ SX.S [47] = Str.ofString "" by decide)]
      unfold okSh
      cases isShare n d <;> cases decide (n = 0) <;> cases decide (n = d) <;> rfl
    rw [e2]
    cases hk : okSh n d
    · refine ite_t rfl ?_
      rw [if_neg (by rw [hk]; decide)] at hq
      refine s_one (s_ret ?_)
      refine e_none ?_
      exact hq
    · refine ite_f rfl ?_
      refine s_nil ?_
      rw [if_pos hk] at hq
      refine s_cons (s_ret ?_)
      refine e_v 4 ?_
      exact hq

abbrev s_read_word : Stmt := topS 43
abbrev N_read_word : List Str := ["word", "kind", "share"]
theorem sc_read_word : FnScope N_read_word ["word"] (defScope s_read_word) := ⟨rfl, rfl, rfl, by decide +kernel, rfl, by decide +kernel, by decide +kernel⟩
theorem ok_read_word {f : Addr} {fd : FuncData} {k : Nat} {dvs : List V} {kws : List (Str × V)} {C_InvalidWord : Addr} {v_KINDS : V} {u_KINDS : Value} {v_SILENT : V} {u_SILENT : Value} (F : FD K "read_word" "read_word" s_read_word dvs kws f fd) (m_len : mg "len" = none) (c_read_share : Fn P w K mg base k "read_share" ["text"] [] (spD K 1 ph_read_share)) (g_InvalidWord : mg "InvalidWord" = some (.ref C_InvalidWord)) (er_InvalidWord : Er P w K mg base 1 "InvalidWord" "word" "word" C_InvalidWord) (hk2 : 2 ≤ k) (g_KINDS : mg "KINDS" = some u_KINDS) (r_KINDS : RelV v_KINDS u_KINDS) (k_KINDS : ∀ F, Rp K F d_KINDS v_KINDS) (g_SILENT : mg "SILENT" = some u_SILENT) (r_SILENT : RelV v_SILENT u_SILENT) (k_SILENT : ∀ F, Rp K F d_SILENT v_SILENT) : FnOk P w K mg base (L2.CX P w) (k + 1) f fd ["word"] (spD K 1 (ph_read_word C_InvalidWord)) := by
  refine fn_okE F sc_read_word rfl fun X cdv A outer s H E ds q xd hX hr hph hl tk => ?_
  subst hX
  obtain ⟨l, rfl, hl1, hq, hx⟩ := hph
  have hlen : (SX.S l).length ≤ 100000 := by rw [SX.S_len]; omega
  show S _ _ _ [_, _, _] _
  refine s_cons (s_if ?_)
  refine t_cmp ?_
  refine e_v 0 ?_
  refine e_glob (by rfl) g_SILENT r_SILENT k_SILENT ?_
  first | refine w_eqI ?_ | refine w_eqT ?_ | refine w_eqB ?_ | refine w_eqD hr.units (by walk_at "ok") (by walk_at "ok") ?_
  refine ⟨_, rfl, ?_⟩
  by_cases h0 : SX.S l = Str.ofString "no word"
  · refine ite_t (decide_eq_true h0) ?_
    refine s_one (s_ret ?_)
    refine e_tup ?_
    refine ea_cons ?_
    refine e_glob (by rfl) g_SILENT r_SILENT k_SILENT ?_
    refine ea_cons ?_
    refine e_none ?_
    refine ea_nil ?_
    refine ⟨Nat.le_of_ble_eq_true rfl, ?_⟩
    exact hq (Str.ofString "no word", none) (by unfold rdWord; rw [if_pos h0])
  · refine ite_f (decide_eq_false h0) ?_
    refine s_nil ?_
    have e1 : rdWord l = match tryK "at least" l with
      | some r => some (Str.ofString "at least", some r)
      | none => match tryK "below" l with
        | some r => some (Str.ofString "below", some r)
        | none => none := by unfold rdWord; exact if_neg h0
    refine s_cons (s_for (passes_of rfl) rfl (i_tup ?_))
    refine e_glob (by rfl) g_KINDS r_KINDS k_KINDS ?_
    refine ⟨_, rfl, ?_⟩
    refine ⟨fun i G => ∃ g h, G = [.sh (.str (SX.S l)), g, h] ∧ (1 ≤ i → tryK "at least" l = none) ∧ (2 ≤ i → tryK "below" l = none), ⟨_, _, rfl, fun z => absurd z (by decide), fun z => absurd z (by decide)⟩, ?_, ?_⟩
    · rintro i d G hd ⟨g, h, rfl, h1, h2⟩
      obtain ⟨kd, rfl, hkd⟩ : ∃ kd : Str, d = .str kd ∧ ((i = 0 ∧ kd = "at least") ∨ (i = 1 ∧ kd = "below")) := by
        match i, hd with
        | 0, hd => exact ⟨_, (Option.some.inj hd).symm, .inl ⟨rfl, rfl⟩⟩
        | 1, hd => exact ⟨_, (Option.some.inj hd).symm, .inr ⟨rfl, rfl⟩⟩
        | i + 2, hd => cases hd
      have hk1 : kd.length ≤ 20 := by rcases hkd with ⟨_, rfl⟩ | ⟨_, rfl⟩ <;> decide
      have hk2 : kd.length ≤ sizeLine := Nat.le_trans hk1 (by decide)
      have fin : tryK kd l = none → ∀ g h, ∃ g' h', ([.sh (.str (SX.S l)), g, h] : List Sl) = [.sh (.str (SX.S l)), g', h'] ∧ (1 ≤ i + 1 → tryK "at least" l = none) ∧ (2 ≤ i + 1 → tryK "below" l = none) := fun hn g h => by
        refine ⟨g, h, rfl, fun _ => ?_, fun z => ?_⟩
        · rcases hkd with ⟨_, rfl⟩ | ⟨rfl, _⟩
          · exact hn
          · exact h1 (by omega)
        · rcases hkd with ⟨rfl, _⟩ | ⟨_, rfl⟩
          · omega
          · exact hn
      refine ⟨_, (a_n 1 sc_read_word.nd), ?_⟩
      show S _ _ _ [_, _, _] _
      refine s_one (s_if ?_)
      have ha : kd.length + (Str.ofString " ").length ≤ sizeLine := Nat.le_trans (Nat.add_le_add hk1 (show (Str.ofString " ").length ≤ 1 by decide)) (by decide)
      refine t_val ?_
      refine e_startswith ?_
      refine e_v 0 ?_
      refine ⟨_, rfl, ?_⟩
      refine e_bin ?_
      refine e_v 1 ?_
      refine e_str ?_
      refine w_addS ha ?_
      refine ⟨_, rfl, ?_⟩
      refine ⟨_, rfl, ?_⟩
      cases hs : Txt.startswith (SX.S l) (kd ++ Str.ofString " ")
      · refine ite_f rfl ?_
        exact s_nil (fin (by unfold tryK; rw [if_neg (by rw [hs]; decide)]) _ _)
      · refine ite_t rfl ?_
        have et : tryK kd l = rdShare (restL kd l) := by unfold tryK; rw [if_pos hs]
        have hrl : (restL kd l).length ≤ 90000 := by
          have h5 := cutS_length (SX.S l) (some ((kd.length : Int) + 1)) none
          have h6 : (SX.S l).length = l.length := SX.S_len l
          have e : (restL kd l).length = (cutS (SX.S l) (some ((kd.length : Int) + 1)) none).length := by unfold restL; rw [Array.length_toList]; rfl
          omega
        refine s_cons (s_a 2 sc_read_word.nd ?_)
        refine e_call (dds := []) c_read_share hr (by rfl) (fun _ => .nil) ?_
        refine ea_cons ?_
        refine e_slice ?_
        refine e_v 0 ?_
        refine eo_some ?_
        refine e_bin ?_
        refine e_callB (id := "len") (by rfl) m_len b_len ?_
        refine ea_cons ?_
        refine e_v 1 ?_
        refine ea_nil ?_
        first | refine wc_len_lst ?_ | refine wc_len_tup ?_ | refine wc_len_str (by walk_at "sc") ?_ | refine wc_lenc (fun hn63 => ?_)
        refine e_int ?_
        first | refine w_add ?_ | refine w_catT (by walk_at "sc") ?_ | refine w_addS (by walk_at "sc") ?_ | refine w_catL (by walk_at "sc") ?_
        refine ⟨_, rfl, ?_⟩
        refine eo_none ?_
        first | refine wsl_lst ?_ | refine wsl_tup ?_ | refine wsl_str (by walk_at "sc") ?_
        refine ea_nil ?_
        refine ⟨rfl, ?_⟩
        refine u_read_share (l := restL kd l) hrl ?_
        show S _ _ _ [_, _, _] _
        rw [← et]
        refine s_one (s_if ?_)
        refine t_cmp ?_
        refine e_v 2 ?_
        refine e_none ?_
        first | refine w_isNN ?_ | refine w_isNB ?_
        refine ⟨_, rfl, ?_⟩
        cases ht : tryK kd l with
        | none =>
          refine ite_f rfl ?_
          exact s_nil (fin ht _ _)
        | some r =>
          refine ite_t rfl ?_
          refine s_one (s_ret ?_)
          refine e_tup ?_
          refine ea_cons ?_
          refine e_v 1 ?_
          refine ea_cons ?_
          refine e_v 2 ?_
          refine ea_nil ?_
          refine ⟨Nat.le_of_ble_eq_true rfl, ?_⟩
          refine hq (kd, some r) ?_
          rw [e1]
          rcases hkd with ⟨_, rfl⟩ | ⟨rfl, rfl⟩
          · rw [ht]
          · rw [h1 (by decide), ht]
    · rintro G ⟨g, h, rfl, h1, h2⟩
      have n1 := h1 (by decide)
      have n2 := h2 (by decide)
      refine s_one (s_raise1 tk er_InvalidWord (hr.mono hk2) (by rfl) ?_)
      refine ea_cons ?_
      refine e_v 0 ?_
      refine ea_nil ?_
      refine ⟨rfl, hx ?_⟩
      rw [e1, n1, n2]

abbrev s_check_table : Stmt := topS 46
abbrev N_check_table : List Str := ["limit", "looks", "rule", "wins", "losses", "tries", "k"]
theorem sc_check_table : FnScope N_check_table ["limit", "looks", "rule"] (defScope s_check_table) := ⟨rfl, rfl, rfl, by decide +kernel, rfl, by decide +kernel, by decide +kernel⟩
theorem ok_check_table {f : Addr} {fd : FuncData} {k : Nat} {dvs : List V} {kws : List (Str × V)} {C_InvalidTable : Addr} {C_InvalidWord : Addr} {v_MOST_TRIES : V} {u_MOST_TRIES : Value} (F : FD K "check_table" "check_table" s_check_table dvs kws f fd) (m_any : mg "any" = none) (m_len : mg "len" = none) (m_range : mg "range" = none) (c_read_word : Fn P w K mg base k "read_word" ["word"] [] (spD K 1 (ph_read_word C_InvalidWord))) (g_InvalidTable : mg "InvalidTable" = some (.ref C_InvalidTable)) (g_MOST_TRIES : mg "MOST_TRIES" = some u_MOST_TRIES) (r_MOST_TRIES : RelV v_MOST_TRIES u_MOST_TRIES) (k_MOST_TRIES : ∀ F, Rp K F d_MOST_TRIES v_MOST_TRIES) : FnOk P w K mg base (L2.CX P w) (k + 1) f fd ["limit", "looks", "rule"] (spD K 3 ph_check_table) := by
  refine fn_ok F sc_check_table rfl fun X cdv A outer s H E ds q xd hX hr hph hl Fr wf xok => ?_
  subst hX
  obtain ⟨lim, looks, rl, rfl, hv, hq⟩ := hph
  have hl1 := hv.l1
  have hl30 := hv.l30
  have hlen := hv.len
  obtain ⟨l', el⟩ := hv.last
  have hpos : 0 < looks.length := by rw [el]; simp
  show S _ _ _ [_, _, _, _, _, _, _] _
  show S _ _ _ [.sh (.int (lim : Nat)), .sh (.lst (looks.map .int)), .sh (dA .str rl), .no, .no, .no, .no] _
  refine s_cons (s_if ?_)
  refine t_not ?_
  refine' t_chainD ?ha15 ?hc15
  case ha15 =>
    refine e_int ?_
    refine e_v 0 ?_
    refine w_le ?_
    refine ⟨rfl, fun hb => ?_⟩
    refine e_glob (by rfl) g_MOST_TRIES r_MOST_TRIES k_MOST_TRIES ?_
    refine w_le ?_
    exact rfl
  refine ite_f ?_ ?_
  · simp only [Bool.not_eq_false', Bool.and_eq_true, decide_eq_true_eq]
    omega
  refine s_nil ?_
  have a0 : atI (looks.map Dt.int) 0 = some (.int (cf looks 0)) := at_cf rfl hpos
  have a1 : atI (looks.map Dt.int) (-1) = some (.int (lim : Nat)) := by rw [el]; exact at_lastC _ _
  have h0 : 1 ≤ cf looks 0 := hv.one _ (List.mem_of_getElem? (cf_lt hpos))
  refine s_cons (s_if ?_)
  refine TW.t ?_
  refine' tw_orD ?ha16 (fun hb => ?hb16) ?hc16
  case ha16 =>
    refine t_cmp ?_
    refine e_callB (id := "len") (by rfl) m_len b_len ?_
    refine ea_cons ?_
    refine e_v 1 ?_
    refine ea_nil ?_
    first | refine wc_len_lst ?_ | refine wc_len_tup ?_ | refine wc_len_str (by walk_at "sc") ?_ | refine wc_lenc (fun hn63 => ?_)
    refine e_int ?_
    first | refine w_eqI ?_ | refine w_eqT ?_ | refine w_eqB ?_ | refine w_eqD hr.units (by walk_at "ok") (by walk_at "ok") ?_
    refine ⟨_, rfl, ?_⟩
    exact rfl
  case hb16 =>
    refine' tw_orD ?ha17 (fun hb => ?hb17) ?hc17
    case ha17 =>
      refine t_cmp ?_
      refine e_ix ?_
      refine e_v 1 ?_
      refine e_int ?_
      refine wi_lst a0 ?_
      refine e_int ?_
      refine w_lt ?_
      refine ⟨_, rfl, ?_⟩
      exact rfl
    case hb17 =>
      refine tw_or1 ?_
      refine t_cmp ?_
      refine e_ix ?_
      refine e_v 1 ?_
      refine e_un ?_
      refine e_int ?_
      refine w_neg ?_
      refine wi_lst a1 ?_
      refine e_v 0 ?_
      first | refine w_neI ?_ | refine w_neT ?_ | refine w_neB ?_ | refine w_neD hr.units (by walk_at "ok") (by walk_at "ok") ?_
      refine ⟨_, rfl, ?_⟩
      exact rfl
    exact rfl
  refine ite_f ?_ ?_
  · rw [List.length_map]
    simp only [Bool.or_eq_false_iff, decide_eq_false_iff_not, Bool.not_eq_false', decide_eq_true_eq]
    exact ⟨by omega, by omega, by simp⟩
  refine s_nil ?_
  have rr : ((looks.map Dt.int).length : Int) - 1 = ((looks.length - 1 : Nat) : Int) := by rw [List.length_map]; omega
  have rb : -(2 ^ 62) ≤ ((looks.map Dt.int).length : Int) - 1 := by rw [rr]; omega
  have rb2 : ((looks.map Dt.int).length : Int) - 1 < 2 ^ 62 := by rw [rr]; omega
  refine s_cons (s_if ?_)
  refine t_val ?_
  refine e_callB (id := "any") (by rfl) m_any b_any ?_
  refine ea_cons ?_
  refine e_lc (own := [("k", 6)]) rfl sc_check_table.nd (blkOk_by (N := N_check_table) (sc := defScope s_check_table) (by decide +kernel)) ?_
  refine i_range1 (by rfl) m_range ?_
  refine ea_cons ?_
  refine e_bin ?_
  refine e_callB (id := "len") (by rfl) m_len b_len ?_
  refine ea_cons ?_
  refine e_v 1 ?_
  refine ea_nil ?_
  first | refine wc_len_lst ?_ | refine wc_len_tup ?_ | refine wc_len_str (by walk_at "sc") ?_ | refine wc_lenc (fun hn63 => ?_)
  refine e_int ?_
  refine w_sub ?_
  refine ea_nil ?_
  refine ⟨_, rfl, by walk_at "sc", by walk_at "sc", ?_⟩
  rw [rr, rangeD_nat]
  refine' ⟨?lcl18, _, lc_of (List.range (looks.length - 1)) (fun i => Dt.int (i : Nat)) (fun i => .bl (decide (cf looks (i + 1) ≤ cf looks i))) (fun i => [(6, Dt.int (i : Nat))]) ?lct18 ?lcm18 ?lce18, ?lcc18⟩
  case lcl18 =>
    rw [List.length_map, List.length_range]; omega
  case lct18 =>
    rintro t ht Y ⟨s', H', C, cl, fp, rfl⟩
    exact (a_n 6 sc_check_table.nd)
  case lcm18 =>
    intro t p hp
    simp at hp
    simp [hp]
  case lce18 =>
    rintro t ht Y ⟨s', H', C, cl, fp, rfl⟩
    have ht2 := List.mem_range.mp ht
    refine e_cmp ?_
    refine e_ix ?_
    refine e_v 1 ?_
    refine e_v 6 ?_
    refine wi_lst (at_cf rfl (by omega)) ?_
    refine e_ix ?_
    refine e_v 1 ?_
    refine e_bin ?_
    refine e_v 6 ?_
    refine e_int ?_
    first | refine w_add ?_ | refine w_catT (by walk_at "sc") ?_ | refine w_addS (by walk_at "sc") ?_ | refine w_catL (by walk_at "sc") ?_
    refine wi_lst (at_cf (j := t + 1) (by omega) (by omega)) ?_
    refine w_ge ?_
    rfl
  rintro acc rfl
  rw [take_map_all]
  rw [map_bl]
  refine ea_nil ?_
  refine wc_any rfl ?_
  refine ⟨_, rfl, ?_⟩
  refine ite_f (any_false fun i hi => ?_) ?_
  · have := List.mem_range.mp hi
    have := pw_cf hv.asc (i := i) (by omega)
    exact decide_eq_false (by omega)
  refine s_nil ?_
  refine s_cons (s_forK 2 (fun _ _ => trivial) (passes_of rfl) rfl rfl ?_)
  refine ⟨fun i G => ∃ g3 g4, G = [.sh (.int (lim : Nat)), .sh (.lst (looks.map .int)), .sh (dA .str rl), g3, g4, .no, .no], ⟨_, _, rfl⟩, ?_, ?_⟩
  · rintro i q2 G hq2 ⟨g3, g4, rfl⟩
    obtain ⟨e, he, rfl⟩ := keys_get hq2
    obtain ⟨b1, b2, b3, b4⟩ := hv.keys e he
    refine ⟨[(3, e.1.1), (4, e.1.2)], (a_tup rfl (as_cons (a_n 3 sc_check_table.nd) (as_cons (a_n 4 sc_check_table.nd) as_nil))), ?_⟩
    show S _ _ _ [_, _, _, _, _, _, _] _
    refine s_one (s_if ?_)
    refine TW.t ?_
    refine' tw_orD ?ha19 (fun hb => ?hb19) ?hc19
    case ha19 =>
      refine t_cmp ?_
      refine e_v 3 ?_
      refine e_int ?_
      refine w_lt ?_
      refine ⟨_, rfl, ?_⟩
      exact rfl
    case hb19 =>
      refine' tw_orD ?ha20 (fun hb => ?hb20) ?hc20
      case ha20 =>
        refine t_cmp ?_
        refine e_v 4 ?_
        refine e_int ?_
        refine w_lt ?_
        refine ⟨_, rfl, ?_⟩
        exact rfl
      case hb20 =>
        refine tw_or1 ?_
        refine t_not ?_
        refine' t_chainD ?ha21 ?hc21
        case ha21 =>
          refine e_int ?_
          refine e_bin ?_
          refine e_v 3 ?_
          refine e_v 4 ?_
          first | refine w_add ?_ | refine w_catT (by walk_at "sc") ?_ | refine w_addS (by walk_at "sc") ?_ | refine w_catL (by walk_at "sc") ?_
          refine w_le ?_
          refine ⟨rfl, fun hb => ?_⟩
          refine e_v 0 ?_
          refine w_le ?_
          exact rfl
        exact rfl
      exact rfl
    refine ite_f ?_ ?_
    · simp only [Bool.or_eq_false_iff, decide_eq_false_iff_not, Bool.not_eq_false', Bool.and_eq_true, decide_eq_true_eq]
      omega
    exact s_nil ⟨_, _, rfl⟩
  rintro G ⟨g3, g4, rfl⟩
  have rr2 : (lim : Int) + 1 = ((lim + 1 : Nat) : Int) := by omega
  refine s_cons (s_if ?_)
  refine t_val ?_
  refine e_callB (id := "any") (by rfl) m_any b_any ?_
  refine ea_cons ?_
  refine e_lc (own := [("wins", 3)]) rfl sc_check_table.nd (blkOk_by (N := N_check_table) (sc := defScope s_check_table) (by decide +kernel)) ?_
  refine i_range1 (by rfl) m_range ?_
  refine ea_cons ?_
  refine e_bin ?_
  refine e_v 0 ?_
  refine e_int ?_
  first | refine w_add ?_ | refine w_catT (by walk_at "sc") ?_ | refine w_addS (by walk_at "sc") ?_ | refine w_catL (by walk_at "sc") ?_
  refine ea_nil ?_
  refine ⟨_, rfl, by walk_at "sc", by walk_at "sc", ?_⟩
  rw [rr2, rangeD_nat]
  refine' ⟨?lcl22, _, lc_of (List.range (lim + 1)) (fun i => Dt.int (i : Nat)) (fun i => .bl (!has rl ((i : Int), (lim : Int) - (i : Int)))) (fun i => [(3, Dt.int (i : Nat))]) ?lct22 ?lcm22 ?lce22, ?lcc22⟩
  case lcl22 =>
    rw [List.length_map, List.length_range]; omega
  case lct22 =>
    rintro t ht Y ⟨s', H', C, cl, fp, rfl⟩
    exact (a_n 3 sc_check_table.nd)
  case lcm22 =>
    intro t p hp
    simp at hp
    simp [hp]
  case lce22 =>
    rintro t ht Y ⟨s', H', C, cl, fp, rfl⟩
    refine e_dnotinA hr.u1 ?_
    refine e_kk ?_
    refine ea_cons ?_
    refine e_v 3 ?_
    refine ea_cons ?_
    refine e_bin ?_
    refine e_v 0 ?_
    refine e_v 3 ?_
    refine w_sub ?_
    refine ea_nil ?_
    refine ⟨(_, _), rfl, ?_⟩
    refine ⟨_, rfl, ?_⟩
    refine e_v 2 ?_
    refine ⟨_, _, _, rfl, ?_⟩
    rfl
  rintro acc rfl
  rw [take_map_all]
  rw [map_bl]
  refine ea_nil ?_
  refine wc_any rfl ?_
  refine ⟨_, rfl, ?_⟩
  refine ite_f (any_false fun i hi => ?_) ?_
  · have := List.mem_range.mp hi
    rw [hv.full i (by omega)]; rfl
  refine s_nil ?_
  refine s_one (s_for (passes_of rfl) rfl ?_)
  refine i_range2 (by rfl) m_range ?_
  refine ea_cons ?_
  refine e_int ?_
  refine ea_cons ?_
  refine e_bin ?_
  refine e_v 0 ?_
  refine e_int ?_
  first | refine w_add ?_ | refine w_catT (by walk_at "sc") ?_ | refine w_addS (by walk_at "sc") ?_ | refine w_catL (by walk_at "sc") ?_
  refine ea_nil ?_
  refine ⟨_, _, rfl, by walk_at "sc", ?_⟩
  refine ⟨fun i G => ∃ g3 g4 g5, G = [.sh (.int (lim : Nat)), .sh (.lst (looks.map .int)), .sh (dA .str rl), g3, g4, g5, .no], ⟨_, _, _, rfl⟩, ?_, ?_⟩
  · rintro i d G hd ⟨g3, g4, g5, rfl⟩
    obtain ⟨hi, rfl⟩ := rangeD_get hd
    refine ⟨_, (a_n 5 sc_check_table.nd), ?_⟩
    show S _ _ _ [_, _, _, _, _, _, _] _
    refine s_one (s_for (passes_of rfl) rfl ?_)
    refine i_range1 (by rfl) m_range ?_
    refine ea_cons ?_
    refine e_bin ?_
    refine e_v 5 ?_
    refine e_int ?_
    first | refine w_add ?_ | refine w_catT (by walk_at "sc") ?_ | refine w_addS (by walk_at "sc") ?_ | refine w_catL (by walk_at "sc") ?_
    refine ea_nil ?_
    refine ⟨_, rfl, by walk_at "sc", by walk_at "sc", ?_⟩
    refine ⟨fun j G => ∃ g3, G = [.sh (.int (lim : Nat)), .sh (.lst (looks.map .int)), .sh (dA .str rl), g3, g4, .sh (.int (1 + (i : Nat))), .no], ⟨_, rfl⟩, ?_, ?_⟩
    · rintro j d G hd ⟨g3, rfl⟩
      obtain ⟨hj, rfl⟩ := rangeD_get hd
      refine ⟨_, (a_n 3 sc_check_table.nd), ?_⟩
      show S _ _ _ [_, _, _, _, _, _, _] _
      refine s_one (s_if ?_)
      refine t_dinA hr.u1 ?_
      refine e_kk ?_
      refine ea_cons ?_
      refine e_v 3 ?_
      refine ea_cons ?_
      refine e_bin ?_
      refine e_v 5 ?_
      refine e_v 3 ?_
      refine w_sub ?_
      refine ea_nil ?_
      refine ⟨(_, _), rfl, ?_⟩
      refine ⟨_, rfl, ?_⟩
      refine e_v 2 ?_
      refine ⟨_, _, _, rfl, ?_⟩
      cases hk : lk rl (0 + (j : Nat), 1 + (i : Nat) - (0 + (j : Nat))) with
      | none =>
        refine ite_f (by unfold has; rw [hk]; rfl) ?_
        exact s_nil ⟨_, rfl⟩
      | some x =>
        refine ite_t (by unfold has; rw [hk]; rfl) ?_
        obtain ⟨l, wd, rfl, hl9, hw⟩ := (hv.words _ (lk_mem hk)).rd
        have hrw : l.length ≤ 90000 ∧ rdWord l = some wd := ⟨hl9, hw⟩
        refine s_one (s_expr ?_)
        refine e_call (dds := []) c_read_word hr (by rfl) (fun _ => .nil) ?_
        refine ea_cons ?_
        refine e_dgetA hr.u1 ?_
        refine e_v 2 ?_
        refine ⟨_, _, _, rfl, ?_⟩
        refine e_kk ?_
        refine ea_cons ?_
        refine e_v 3 ?_
        refine ea_cons ?_
        refine e_bin ?_
        refine e_v 5 ?_
        refine e_v 3 ?_
        refine w_sub ?_
        refine ea_nil ?_
        refine ⟨(_, _), rfl, ?_⟩
        refine ⟨_, _, rfl, by walk_at "sc", ?_⟩
        refine ea_nil ?_
        refine ⟨rfl, ?_⟩
        refine u_read_word hrw ?_
        exact ⟨_, rfl⟩
    · rintro G ⟨g3, rfl⟩
      exact ⟨_, _, _, rfl⟩
  · rintro G ⟨g3, g4, g5, rfl⟩
    exact hq

abbrev s_Table_is_end : Stmt := inClass (topS 47) 5
abbrev N_Table_is_end : List Str := ["self", "wins", "losses"]
theorem sc_Table_is_end : FnScope N_Table_is_end ["self", "wins", "losses"] (defScope s_Table_is_end) := ⟨rfl, rfl, rfl, by decide +kernel, rfl, by decide +kernel, by decide +kernel⟩
theorem ok_Table_is_end {f : Addr} {fd : FuncData} {k : Nat} {dvs : List V} {kws : List (Str × V)} {C_Table : Addr} (F : FD K "is_end" "Table.is_end" s_Table_is_end dvs kws f fd) (pc_Table : TableC K C_Table) : FnOk P w K mg base (L2.CX P w) (k + 1) f fd ["self", "wins", "losses"] (spD K 3 (ph_Table_is_end C_Table)) := by
  refine fn_ok F sc_Table_is_end rfl fun X cdv A outer s H E ds q xd hX hr hph hl Fr wf xok => ?_
  subst hX
  obtain ⟨T, ns, xs, wi, lo, rfl, hq⟩ := hph
  show S _ _ _ [_, _, _] _
  refine s_one (s_ret ?_)
  refine' e_andD ?ha23 (fun hb => ?hb23) ?hc23
  case ha23 =>
    refine e_cmp ?_
    refine e_bin ?_
    refine e_v 1 ?_
    refine e_v 2 ?_
    first | refine w_add ?_ | refine w_catT (by walk_at "sc") ?_ | refine w_addS (by walk_at "sc") ?_ | refine w_catL (by walk_at "sc") ?_
    refine e_fld ?_
    refine e_v 0 ?_
    refine ⟨_, _, _, _, rfl, pc_Table.cl, pc_Table.na_looks, rfl, ?_⟩
    first | refine w_inS ?_ | refine w_inT ?_ | refine w_inL ?_ | refine w_inD hr.u65 (by walk_at "ok") (by walk_at "ok") ?_
    exact rfl
  case hb23 =>
    refine e_one ?_
    refine e_dinA hr.u1 ?_
    refine e_kk ?_
    refine ea_cons ?_
    refine e_v 1 ?_
    refine ea_cons ?_
    refine e_v 2 ?_
    refine ea_nil ?_
    refine ⟨(_, _), rfl, ?_⟩
    refine ⟨_, rfl, ?_⟩
    refine e_fld ?_
    refine e_v 0 ?_
    refine ⟨_, _, _, _, rfl, pc_Table.cl, pc_Table.na_entries, rfl, ?_⟩
    refine ⟨_, _, _, rfl, ?_⟩
    exact rfl
  exact hq

abbrev s_Table_spread : Stmt := inClass (topS 47) 2
abbrev N_Table_spread : List Str := ["self", "wins", "losses", "found", "tries", "won", "here", "after"]
theorem sc_Table_spread : FnScope N_Table_spread ["self", "wins", "losses"] (defScope s_Table_spread) := ⟨rfl, rfl, rfl, by decide +kernel, rfl, by decide +kernel, by decide +kernel⟩
theorem ok_Table_spread {f : Addr} {fd : FuncData} {k : Nat} {dvs : List V} {kws : List (Str × V)} {C_Table : Addr} (F : FD K "spread" "Table.spread" s_Table_spread dvs kws f fd) (m_range : mg "range" = none) (c_Table_is_end : FnM P w K mg base k C_Table "is_end" ["self", "wins", "losses"] [] (spD K 3 (ph_Table_is_end C_Table))) (pc_Table : TableC K C_Table) : FnOk P w K mg base (L2.CX P w) (k + 1) f fd ["self", "wins", "losses"] (spD K 3 (ph_Table_spread C_Table)) := by
  refine fn_ok F sc_Table_spread rfl fun X cdv A outer s H E ds q xd hX hr hph hl Fr wf xok => ?_
  subst hX
  obtain ⟨T, ns, xs, wi, lo, rfl, ⟨hno, hlim, hw0, hl0, hwl⟩, hq⟩ := hph
  have hno2 : ((("limit" : Str) :: "looks" :: "entries" :: ns).any fun z => z == ("is_end" : Str)) = false := hno
  show S _ _ _ [_, _, _, _, _, _, _, _] _
  refine s_cons (s_aO 3 sc_Table_spread.nd (ew_disp1A .int hr.u0 ?_))
  refine e_kk ?_
  refine ea_cons ?_
  refine e_v 1 ?_
  refine ea_cons ?_
  refine e_v 2 ?_
  refine ea_nil ?_
  refine ⟨(_, _), rfl, ?_⟩
  refine ⟨_, rfl, ?_⟩
  refine e_int ?_
  refine ⟨_, rfl, ?_⟩
  show S _ _ _ [_, _, _, _, _, _, _, _] _
  refine s_cons (s_for (passes_of rfl) rfl ?_)
  refine i_range2 (by rfl) m_range ?_
  refine ea_cons ?_
  refine e_bin ?_
  refine e_v 1 ?_
  refine e_v 2 ?_
  first | refine w_add ?_ | refine w_catT (by walk_at "sc") ?_ | refine w_addS (by walk_at "sc") ?_ | refine w_catL (by walk_at "sc") ?_
  refine ea_cons ?_
  refine e_fld ?_
  refine e_v 0 ?_
  refine ⟨_, _, _, _, rfl, pc_Table.cl, pc_Table.na_limit, rfl, ?_⟩
  refine ea_nil ?_
  refine ⟨_, _, rfl, by walk_at "sc", ?_⟩
  refine ⟨fun i G => ∃ g5 g6 g7 g8, G = [.sh (tb3 C_Table T ns xs), .sh (.int wi), .sh (.int lo), .ow (dA .int (sprI (T.go (wi, lo)) wi lo i)), g5, g6, g7, g8], ⟨_, _, _, _, rfl⟩, ?_, ?_⟩
  · rintro i d G hd ⟨g5, g6, g7, g8, rfl⟩
    obtain ⟨hi, rfl⟩ := rangeD_get hd
    refine ⟨_, (a_n 4 sc_Table_spread.nd), ?_⟩
    show S _ _ _ [_, _, _, _, _, _, _, _] _
    refine s_one (s_for (passes_of rfl) rfl ?_)
    refine i_range2 (by rfl) m_range ?_
    refine ea_cons ?_
    refine e_v 1 ?_
    refine ea_cons ?_
    refine e_bin ?_
    refine e_bin ?_
    refine e_v 4 ?_
    refine e_v 2 ?_
    refine w_sub ?_
    refine e_int ?_
    refine w_add ?_
    refine ea_nil ?_
    refine ⟨_, _, rfl, by omega, ?_⟩
    refine ⟨fun j G => ∃ g6 g7 g8, G = [.sh (tb3 C_Table T ns xs), .sh (.int wi), .sh (.int lo), .ow (dA .int ((sRow wi (wi + lo + (i : Nat)) j).foldl (stepM (T.go (wi, lo))) (sprI (T.go (wi, lo)) wi lo i))), .sh (.int (wi + lo + (i : Nat))), g6, g7, g8], ⟨_, _, _, rfl⟩, ?_, ?_⟩
    · rintro j d G hd ⟨g6, g7, g8, rfl⟩
      obtain ⟨hj, rfl⟩ := rangeD_get hd
      have hlen := spr_len (T.go (wi, lo)) (w := wi) (l := lo) (n := i) (j := j) (t := wi + lo + (i : Nat)) (by omega) (by omega)
      have est2 : (sRow wi (wi + lo + (i : Nat)) (j + 1)).foldl (stepM (T.go (wi, lo))) (sprI (T.go (wi, lo)) wi lo i) = stepM (T.go (wi, lo)) ((sRow wi (wi + lo + (i : Nat)) j).foldl (stepM (T.go (wi, lo))) (sprI (T.go (wi, lo)) wi lo i)) (wi + (j : Nat), wi + lo + (i : Nat) - (wi + (j : Nat))) := by rw [sRow_succ, List.foldl_append]; rfl
      have fin : ∀ (m : Al Int) (g6 g7 g8 : Sl), m = stepM (T.go (wi, lo)) ((sRow wi (wi + lo + (i : Nat)) j).foldl (stepM (T.go (wi, lo))) (sprI (T.go (wi, lo)) wi lo i)) (wi + (j : Nat), wi + lo + (i : Nat) - (wi + (j : Nat))) → ∃ g6' g7' g8', ([.sh (tb3 C_Table T ns xs), .sh (.int wi), .sh (.int lo), .ow (dA .int m), .sh (.int (wi + lo + (i : Nat))), g6, g7, g8] : List Sl) = [.sh (tb3 C_Table T ns xs), .sh (.int wi), .sh (.int lo), .ow (dA .int ((sRow wi (wi + lo + (i : Nat)) (j + 1)).foldl (stepM (T.go (wi, lo))) (sprI (T.go (wi, lo)) wi lo i))), .sh (.int (wi + lo + (i : Nat))), g6', g7', g8'] := fun m g6 g7 g8 e => ⟨g6, g7, g8, by rw [est2, e]⟩
      generalize (sRow wi (wi + lo + (i : Nat)) j).foldl (stepM (T.go (wi, lo))) (sprI (T.go (wi, lo)) wi lo i) = M at fin hlen ⊢
      refine ⟨_, (a_n 5 sc_Table_spread.nd), ?_⟩
      show S _ _ _ [_, _, _, _, _, _, _, _] _
      refine s_cons (s_a 6 sc_Table_spread.nd ?_)
      refine e_kk ?_
      refine ea_cons ?_
      refine e_v 5 ?_
      refine ea_cons ?_
      refine e_bin ?_
      refine e_v 4 ?_
      refine e_v 5 ?_
      refine w_sub ?_
      refine ea_nil ?_
      refine ⟨(_, _), rfl, ?_⟩
      show S _ _ _ [_, _, _, _, _, _, _, _] _
      refine s_one (s_if (t_bor 3 rfl ?_))
      show VS.T _ _ [_, _, _, _, _, _, _, _] _ _
      refine TW.t ?_
      refine' tw_andD ?ha24 (fun hb => ?hb24) ?hc24
      case ha24 =>
        refine t_dinA hr.u1 ?_
        refine e_v 6 ?_
        refine ⟨_, rfl, ?_⟩
        refine e_v 3 ?_
        refine ⟨_, _, _, rfl, ?_⟩
        exact rfl
      case hb24 =>
        refine tw_and1 ?_
        refine TW.t ?_
        refine' tw_orD ?ha25 (fun hb => ?hb25) ?hc25
        case ha25 =>
          refine t_cmp ?_
          refine e_asK ?_
          refine e_v 6 ?_
          refine ⟨_, rfl, ?_⟩
          refine e_tup ?_
          refine ea_cons ?_
          refine e_v 1 ?_
          refine ea_cons ?_
          refine e_v 2 ?_
          refine ea_nil ?_
          refine ⟨Nat.le_of_ble_eq_true rfl, ?_⟩
          first | refine w_eqI ?_ | refine w_eqT ?_ | refine w_eqB ?_ | refine w_eqD hr.units (by walk_at "ok") (by walk_at "ok") ?_
          refine ⟨_, rfl, ?_⟩
          exact rfl
        case hb25 =>
          refine tw_or1 ?_
          refine t_not ?_
          refine t_val ?_
          refine e_meth (dds := []) pc_Table.cl c_Table_is_end hr (fun _ => .nil) ?_
          refine e_v 0 ?_
          first | refine ⟨_, _, rfl, rfl, ?_⟩ | refine ⟨_, _, rfl, by assumption, ?_⟩
          refine ea_cons ?_
          refine e_v 5 ?_
          refine ea_cons ?_
          refine e_bin ?_
          refine e_v 4 ?_
          refine e_v 5 ?_
          refine w_sub ?_
          refine ea_nil ?_
          refine ⟨rfl, ?_⟩
          refine u_Table_is_end (by walk_at "sc") ?_
          refine ⟨_, rfl, ?_⟩
          exact rfl
        exact rfl
      have eE : ∀ a b : Int, eqD (.tup [.int (a, b).1, .int (a, b).2]) (.tup [.int wi, .int lo]) = decide ((a, b) = (wi, lo)) := fun a b => eqD_rat (a, b) (wi, lo)
      rw [eE]
      cases hk : lk M (wi + (j : Nat), wi + lo + (i : Nat) - (wi + (j : Nat))) with
      | none =>
        refine ite_f (by unfold has; rw [hk]; rfl) ?_
        exact s_nil (fin _ _ _ _ (by rw [stepM_none hk]))
      | some v =>
        cases hg : T.go (wi, lo) (wi + (j : Nat), wi + lo + (i : Nat) - (wi + (j : Nat)))
        · refine ite_f (by unfold has; rw [hk]; exact hg) ?_
          exact s_nil (fin _ _ _ _ (by rw [stepM_stop hg]))
        · refine ite_t (by unfold has; rw [hk]; exact hg) ?_
          have eG := stepM_go hk hg
          rw [eG] at fin
          clear eG hg
          obtain ⟨a, ha⟩ : ∃ a : Int, a = wi + (j : Nat) := ⟨_, rfl⟩
          obtain ⟨t, ht⟩ : ∃ t : Int, t = wi + lo + (i : Nat) := ⟨_, rfl⟩
          rw [← ha, ← ht] at fin hk ⊢
          refine s_one (s_for (passes_of rfl) rfl ?_)
          refine i_tup ?_
          refine e_tup ?_
          refine ea_cons ?_
          refine e_kk ?_
          refine ea_cons ?_
          refine e_bin ?_
          refine e_v 5 ?_
          refine e_int ?_
          first | refine w_add ?_ | refine w_catT (by walk_at "sc") ?_ | refine w_addS (by walk_at "sc") ?_ | refine w_catL (by walk_at "sc") ?_
          refine ea_cons ?_
          refine e_bin ?_
          refine e_v 4 ?_
          refine e_v 5 ?_
          refine w_sub ?_
          refine ea_nil ?_
          refine ⟨(_, _), rfl, ?_⟩
          refine ea_cons ?_
          refine e_kk ?_
          refine ea_cons ?_
          refine e_v 5 ?_
          refine ea_cons ?_
          refine e_bin ?_
          refine e_bin ?_
          refine e_v 4 ?_
          refine e_v 5 ?_
          refine w_sub ?_
          refine e_int ?_
          first | refine w_add ?_ | refine w_catT (by walk_at "sc") ?_ | refine w_addS (by walk_at "sc") ?_ | refine w_catL (by walk_at "sc") ?_
          refine ea_nil ?_
          refine ⟨(_, _), rfl, ?_⟩
          refine ea_nil ?_
          refine ⟨Nat.le_of_ble_eq_true rfl, ?_⟩
          refine ⟨_, rfl, ?_⟩
          have hne : ¬ ((a + 1, t - a) : Int × Int) = (a, t - a) := fun z => by have : a + 1 = a := congrArg Prod.fst z; omega
          refine ⟨fun n G => ∃ g8, G = [.sh (tb3 C_Table T ns xs), .sh (.int wi), .sh (.int lo), .ow (dA .int (if n = 0 then M else if n = 1 then put M (a + 1, t - a) ((lk M (a + 1, t - a)).getD 0 + v) else put (put M (a + 1, t - a) ((lk M (a + 1, t - a)).getD 0 + v)) (a, t - a + 1) ((lk (put M (a + 1, t - a) ((lk M (a + 1, t - a)).getD 0 + v)) (a, t - a + 1)).getD 0 + v))), .sh (.int t), .sh (.int a), .sh (.key (kk (a, t - a))), g8], ⟨_, rfl⟩, ?_, ?_⟩
          · rintro n d G hd ⟨g8, rfl⟩
            match n, hd with
            | 0, hd =>
              cases hd
              rw [if_pos rfl]
              refine ⟨_, (a_n 7 sc_Table_spread.nd), ?_⟩
              show S _ _ _ [_, _, _, _, _, _, _, _] _
              have hl9 : M.length < 100000 := by omega
              refine s_one (s_dputA 3 hr.u1 rfl rfl (by first | exact .inl rfl | exact .inr (.inl rfl) | exact .inr (.inr rfl)) (by walk_at "sc") ?_)
              refine e_bor 3 rfl ?_
              refine e_bin ?_
              refine e_dget2A hr.u1 ?_
              refine e_v 3 ?_
              refine ⟨_, rfl, ?_⟩
              refine e_v 7 ?_
              refine ⟨_, rfl, ?_⟩
              refine e_int ?_
              refine ⟨_, rfl, ?_⟩
              refine e_dgetA hr.u1 ?_
              refine e_v 3 ?_
              refine ⟨_, _, _, rfl, ?_⟩
              refine e_v 6 ?_
              refine ⟨_, _, rfl, by walk_at "sc", ?_⟩
              first | refine w_add ?_ | refine w_catT (by walk_at "sc") ?_ | refine w_addS (by walk_at "sc") ?_ | refine w_catL (by walk_at "sc") ?_
              refine ⟨rfl, ?_⟩
              refine ⟨_, rfl, ?_⟩
              refine e_v 7 ?_
              refine ⟨_, rfl, ?_⟩
              exact ⟨_, rfl⟩
            | 1, hd =>
              cases hd
              rw [if_neg (by decide), if_pos rfl]
              have hl9 : (put M (a + 1, t - a) ((lk M (a + 1, t - a)).getD 0 + v)).length < 100000 := by have := put_len M (a + 1, t - a) ((lk M (a + 1, t - a)).getD 0 + v); omega
              have hk2 : lk (put M (a + 1, t - a) ((lk M (a + 1, t - a)).getD 0 + v)) (a, t - a) = some v := by rw [lk_put, if_neg hne]; exact hk
              generalize put M (a + 1, t - a) ((lk M (a + 1, t - a)).getD 0 + v) = M1 at *
              refine ⟨_, (a_n 7 sc_Table_spread.nd), ?_⟩
              show S _ _ _ [_, _, _, _, _, _, _, _] _
              refine s_one (s_dputA 3 hr.u1 rfl rfl (by first | exact .inl rfl | exact .inr (.inl rfl) | exact .inr (.inr rfl)) (by walk_at "sc") ?_)
              refine e_bor 3 rfl ?_
              refine e_bin ?_
              refine e_dget2A hr.u1 ?_
              refine e_v 3 ?_
              refine ⟨_, rfl, ?_⟩
              refine e_v 7 ?_
              refine ⟨_, rfl, ?_⟩
              refine e_int ?_
              refine ⟨_, rfl, ?_⟩
              refine e_dgetA hr.u1 ?_
              refine e_v 3 ?_
              refine ⟨_, _, _, rfl, ?_⟩
              refine e_v 6 ?_
              refine ⟨_, _, rfl, by walk_at "sc", ?_⟩
              first | refine w_add ?_ | refine w_catT (by walk_at "sc") ?_ | refine w_addS (by walk_at "sc") ?_ | refine w_catL (by walk_at "sc") ?_
              refine ⟨rfl, ?_⟩
              refine ⟨_, rfl, ?_⟩
              refine e_v 7 ?_
              refine ⟨_, rfl, ?_⟩
              exact ⟨_, rfl⟩
            | n + 2, hd => cases hd
          · rintro G ⟨g8, rfl⟩
            exact fin _ _ _ _ rfl
    · rintro G ⟨g6, g7, g8, rfl⟩
      rw [rangeD_length]
      exact ⟨_, _, _, _, by rw [sprI_succ]⟩
  · rintro G ⟨g5, g6, g7, g8, rfl⟩
    rw [rangeD_length]
    refine s_one (s_ret ?_)
    refine e_v 3 ?_
    exact hq

abbrev s_Table___contains__ : Stmt := inClass (topS 47) 17
abbrev N_Table___contains__ : List Str := ["self", "counts"]
theorem sc_Table___contains__ : FnScope N_Table___contains__ ["self", "counts"] (defScope s_Table___contains__) := ⟨rfl, rfl, rfl, by decide +kernel, rfl, by decide +kernel, by decide +kernel⟩
theorem ok_Table___contains__ {f : Addr} {fd : FuncData} {k : Nat} {dvs : List V} {kws : List (Str × V)} {C_Table : Addr} (F : FD K "__contains__" "Table.__contains__" s_Table___contains__ dvs kws f fd) (c_Table_is_end : FnM P w K mg base k C_Table "is_end" ["self", "wins", "losses"] [] (spD K 3 (ph_Table_is_end C_Table))) (pc_Table : TableC K C_Table) : FnOk P w K mg base (L2.CX P w) (k + 1) f fd ["self", "counts"] (spD K 2 (ph_Table___contains__ C_Table)) := by
  refine fn_ok F sc_Table___contains__ rfl fun X cdv A outer s H E ds q xd hX hr hph hl Fr wf xok => ?_
  subst hX
  obtain ⟨T, ns, xs, c, rfl, hno, hq⟩ := hph
  have hno2 : ((("limit" : Str) :: "looks" :: "entries" :: "reached" :: ns).any fun z => z == ("is_end" : Str)) = false := hno
  show S _ _ _ [_, _] _
  refine s_one (s_ret ?_)
  refine' e_andD ?ha26 (fun hb => ?hb26) ?hc26
  case ha26 =>
    refine e_dinA hr.u1 ?_
    refine e_v 1 ?_
    refine ⟨_, rfl, ?_⟩
    refine e_fld ?_
    refine e_v 0 ?_
    refine ⟨_, _, _, _, rfl, pc_Table.cl, pc_Table.na_reached, rfl, ?_⟩
    refine ⟨_, _, _, rfl, ?_⟩
    exact rfl
  case hb26 =>
    refine e_one ?_
    refine e_meth (dds := []) pc_Table.cl c_Table_is_end hr (fun _ => .nil) ?_
    refine e_v 0 ?_
    first | refine ⟨_, _, rfl, rfl, ?_⟩ | refine ⟨_, _, rfl, by assumption, ?_⟩
    refine ea_cons ?_
    refine e_ix ?_
    refine e_asK ?_
    refine e_v 1 ?_
    refine ⟨_, rfl, ?_⟩
    refine e_int ?_
    first | refine wi_tup0 ?_ | refine wi_tup1 ?_ | refine wi_tup2 ?_ | refine wi_tup (by walk_at "sc") ?_ | refine wi_lst (by walk_at "sc") ?_ | refine wi_str (by walk_at "sc") (by walk_at "sc") ?_
    refine ea_cons ?_
    refine e_ix ?_
    refine e_asK ?_
    refine e_v 1 ?_
    refine ⟨_, rfl, ?_⟩
    refine e_int ?_
    first | refine wi_tup0 ?_ | refine wi_tup1 ?_ | refine wi_tup2 ?_ | refine wi_tup (by walk_at "sc") ?_ | refine wi_lst (by walk_at "sc") ?_ | refine wi_str (by walk_at "sc") (by walk_at "sc") ?_
    refine ea_nil ?_
    refine ⟨rfl, ?_⟩
    refine u_Table_is_end (by walk_at "sc") ?_
    exact rfl
  exact hq

abbrev s_Table___init__ : Stmt := inClass (topS 47) 1
abbrev N_Table___init__ : List Str := ["self", "limit", "looks", "rule", "counts", "tries", "wins", "one"]
theorem sc_Table___init__ : FnScope N_Table___init__ ["self", "limit", "looks", "rule"] (defScope s_Table___init__) := ⟨rfl, rfl, rfl, by decide +kernel, rfl, by decide +kernel, by decide +kernel⟩
theorem ok_Table___init__ {f : Addr} {fd : FuncData} {k : Nat} {dvs : List V} {kws : List (Str × V)} {C_Table : Addr} (F : FD K "__init__" "Table.__init__" s_Table___init__ dvs kws f fd) (m_range : mg "range" = none) (m_tuple : mg "tuple" = none) (c_check_table : Fn P w K mg base k "check_table" ["limit", "looks", "rule"] [] (spD K 3 ph_check_table)) (c_Table_spread : FnM P w K mg base k C_Table "spread" ["self", "wins", "losses"] [] (spD K 3 (ph_Table_spread C_Table))) (c_Table___contains__ : FnM P w K mg base k C_Table "__contains__" ["self", "counts"] [] (spD K 2 (ph_Table___contains__ C_Table))) (pc_Table : TableC K C_Table) : FnOk P w K mg base (L2.CX P w) (k + 1) f fd ["self", "limit", "looks", "rule"] (spIni K C_Table 3 (ph_Table___init__ C_Table)) := by
  refine iniD_ok F sc_Table___init__ rfl fun X cdv A outer s H E a ds q xd hX hr hph hl => ?_
  subst hX
  obtain ⟨lim, looks, rl, rfl, hv, hq⟩ := hph
  have hl1 := hv.l1
  have hl30 := hv.l30
  have hcl := cnt_len hl30
  show S _ _ _ [.ow (.at_ a (.obj C_Table [] [])), .sh (.int (lim : Nat)), .sh (.lst (looks.map .int)), .sh (dA .str rl), .no, .no, .no, .no] _
  refine s_cons (s_expr ?_)
  refine e_call (dds := []) c_check_table hr (by rfl) (fun _ => .nil) ?_
  refine ea_cons ?_
  refine e_v 1 ?_
  refine ea_cons ?_
  refine e_v 2 ?_
  refine ea_cons ?_
  refine e_v 3 ?_
  refine ea_nil ?_
  refine ⟨rfl, ?_⟩
  refine u_check_table (by walk_at "sc") ?_
  show S _ _ _ [.ow (.at_ a (.obj C_Table [] [])), .sh (.int (lim : Nat)), .sh (.lst (looks.map .int)), .sh (dA .str rl), .no, .no, .no, .no] _
  refine s_cons (s_fldO 0 rfl rfl (by first | exact .inl rfl | exact .inr (.inl rfl) | exact .inr (.inr rfl)) pc_Table.cl pc_Table.na_limit (by decide) ?_)
  refine e_v 1 ?_
  show S _ _ _ [.ow (.at_ a (.obj C_Table ["limit"] [.int (lim : Nat)])), .sh (.int (lim : Nat)), .sh (.lst (looks.map .int)), .sh (dA .str rl), .no, .no, .no, .no] _
  refine s_cons (s_fldO 0 rfl rfl (by first | exact .inl rfl | exact .inr (.inl rfl) | exact .inr (.inr rfl)) pc_Table.cl pc_Table.na_looks (by decide) ?_)
  refine e_callTy (id := "tuple") (by rfl) m_tuple b_tuple ?_
  refine ea_cons ?_
  refine e_v 2 ?_
  refine ea_nil ?_
  first | refine wc_tuple_lst ?_ | refine wc_tuple_tup ?_
  show S _ _ _ [.ow (.at_ a (.obj C_Table ["limit", "looks"] [.int (lim : Nat), .tup (looks.map .int)])), .sh (.int (lim : Nat)), .sh (.lst (looks.map .int)), .sh (dA .str rl), .no, .no, .no, .no] _
  refine s_cons (s_lc2 4 (own := [("tries", 5), ("wins", 6)]) (vs1 := [6]) rfl sc_Table___init__.nd rfl rfl (sw_true rfl rfl rfl (by decide +kernel)) (blkOk_by (N := N_Table___init__) (sc := defScope s_Table___init__) (by decide +kernel)) (by decide) ?_)
  refine i_range2 (by rfl) m_range ?_
  refine ea_cons ?_
  refine e_int ?_
  refine ea_cons ?_
  refine e_bin ?_
  refine e_v 1 ?_
  refine e_int ?_
  refine w_add ?_
  refine ea_nil ?_
  refine ⟨_, _, rfl, by omega, ?_⟩
  refine ⟨fun i acc => acc = (cnt i).map fun c => Dt.key (kk c), ⟨rfl, ?_⟩, ?_⟩
  · rintro i d acc hd rfl
    obtain ⟨hi, rfl⟩ := rangeD_get hd
    refine ⟨[(5, .int (1 + (i : Nat)))], fun Y bY => (by obtain ⟨s', H', C, cl, fp, rfl⟩ := bY; exact a_n 5 sc_Table___init__.nd), by simp, ?_⟩
    rintro Y ⟨s', H', C, cl, fp, rfl⟩
    refine i_range1 (by rfl) m_range ?_
    refine ea_cons ?_
    refine e_bin ?_
    refine e_v 5 ?_
    refine e_int ?_
    refine w_add ?_
    refine ea_nil ?_
    refine ⟨_, rfl, by omega, by omega, ?_⟩
    refine ⟨fun j acc => acc = ((cnt i) ++ cRow (1 + (i : Nat)) j).map fun c => Dt.key (kk c), by show _ = List.map _ (cnt i ++ []); rw [List.append_nil], ?_, ?_⟩
    · rintro j d acc hd rfl
      obtain ⟨hj, rfl⟩ := rangeD_get hd
      have hci := cnt_len (n := i) (by omega)
      refine ⟨by rw [List.length_map, List.length_append]; unfold cRow; rw [List.length_map, List.length_range]; omega, [(6, .int (0 + (j : Nat)))], fun Y bY => (by obtain ⟨s', H', C, cl, fp, rfl⟩ := bY; exact a_n 6 sc_Table___init__.nd), by simp, ?_⟩
      rintro Y ⟨s', H', C, cl, fp, rfl⟩
      refine e_kk ?_
      refine ea_cons ?_
      refine e_v 6 ?_
      refine ea_cons ?_
      refine e_bin ?_
      refine e_v 5 ?_
      refine e_v 6 ?_
      refine w_sub ?_
      refine ea_nil ?_
      refine ⟨(_, _), rfl, ?_⟩
      show _ = List.map _ (cnt i ++ cRow (1 + (i : Nat)) (j + 1))
      rw [cRow_succ, ← List.append_assoc, List.map_append, List.map_append, List.map_append, Int.zero_add]
      rfl
    · rintro acc rfl
      rw [rangeD_length, cnt_succ, show (1 + (i : Int) + 1).toNat = i + 2 by omega]
  rintro acc rfl
  rw [rangeD_length, show ((lim : Int) + 1 - 1).toNat = lim by omega]
  show S _ _ _ [.ow (.at_ a (.obj C_Table ["limit", "looks"] [.int (lim : Nat), .tup (looks.map .int)])), .sh (.int (lim : Nat)), .sh (.lst (looks.map .int)), .sh (dA .str rl), .sh (.lst ((cnt lim).map fun c => Dt.key (kk c))), .no, .no, .no] _
  refine s_cons (s_fldO 0 rfl rfl (by first | exact .inl rfl | exact .inr (.inl rfl) | exact .inr (.inr rfl)) pc_Table.cl pc_Table.na_entries (by decide) (e_ofW (ew_dc (own := [("one", 7)]) hr.u0 rfl sc_Table___init__.nd (blkOk_by (N := N_Table___init__) (sc := defScope s_Table___init__) (by decide +kernel)) ?_)))
  refine i_lst ?_
  refine e_v 4 ?_
  refine ⟨_, rfl, by rw [List.length_map]; omega, ?_⟩
  refine ⟨fun i ks xs => ks = keysA (((cnt lim).take i).foldl (entStep rl) []) ∧ xs = (((cnt lim).take i).foldl (entStep rl) []).map fun e => Dt.str e.2, ⟨⟨rfl, rfl⟩, ?_⟩, ?_⟩
  · rintro i d ks xs hd ⟨rfl, rfl⟩ hks
    rw [List.getElem?_map] at hd
    obtain ⟨c, hc, rfl⟩ : ∃ c, (cnt lim)[i]? = some c ∧ Dt.key (kk c) = d := by
      cases z : (cnt lim)[i]? with
      | none => rw [z] at hd; cases hd
      | some c => rw [z] at hd; cases hd; exact ⟨c, rfl, rfl⟩
    have et : ((cnt lim).take (i + 1)).foldl (entStep rl) [] = entStep rl (((cnt lim).take i).foldl (entStep rl) []) c := by rw [take_get hc, List.foldl_append]; rfl
    rw [et]
    generalize ((cnt lim).take i).foldl (entStep rl) [] = m at *
    refine ⟨[(7, .key (kk c))], fun Y bY => (by obtain ⟨s', H', C, cl, fp, rfl⟩ := bY; exact a_n 7 sc_Table___init__.nd), by simp, ?_⟩
    rintro Y ⟨s', H', C, cl, fp, rfl⟩
    refine ts_one ?_
    refine t_dinA hr.u1 ?_
    refine e_v 7 ?_
    refine ⟨_, rfl, ?_⟩
    refine e_v 3 ?_
    refine ⟨_, _, _, rfl, ?_⟩
    cases hk : lk rl c with
    | none =>
      have hh : has rl c = false := by unfold has; rw [hk]; rfl
      rw [hh, if_neg (by decide)]
      unfold entStep
      rw [hk]
      exact ⟨rfl, rfl⟩
    | some x =>
      have hh : has rl c = true := by unfold has; rw [hk]; rfl
      rw [hh, if_pos rfl]
      rintro Z ⟨s', H', C, cl, fp, rfl⟩
      refine e_v 7 ?_
      refine ⟨_, rfl, ?_⟩
      rintro Z2 ⟨s', H', C, cl, fp, rfl⟩
      refine e_dgetA hr.u1 ?_
      refine e_v 3 ?_
      refine ⟨_, _, _, rfl, ?_⟩
      refine e_v 7 ?_
      refine ⟨_, _, rfl, hk, ?_⟩
      have e := put_dA Dt.str m c x
      unfold dA at e
      injection e with e1 e2
      unfold entStep
      rw [hk]
      exact ⟨e1, e2⟩
  rintro ks xs ⟨rfl, rfl⟩
  rw [List.length_map, List.take_length]
  show S _ _ _ [.ow (.at_ a (tb3 C_Table (mkT lim looks rl) [] [])), .sh (.int (lim : Nat)), .sh (.lst (looks.map .int)), .sh (dA .str rl), .sh (.lst ((cnt lim).map fun c => Dt.key (kk c))), .no, .no, .no] _
  have hsp : noE [] ∧ (mkT lim looks rl).lim ≤ 30 ∧ (0 : Int) ≤ 0 ∧ (0 : Int) ≤ 0 ∧ (0 : Int) + 0 ≤ 1000 := ⟨rfl, hl30, by decide, by decide, by decide⟩
  refine s_cons (s_fldO 0 rfl rfl (by first | exact .inl rfl | exact .inr (.inl rfl) | exact .inr (.inr rfl)) pc_Table.cl pc_Table.na_reached (by decide) (e_bor 0 rfl ?_))
  refine e_meth (dds := []) pc_Table.cl c_Table_spread hr (fun _ => .nil) ?_
  refine e_vA 0 ?_
  first | refine ⟨_, _, rfl, rfl, ?_⟩ | refine ⟨_, _, rfl, by assumption, ?_⟩
  refine ea_cons ?_
  refine e_int ?_
  refine ea_cons ?_
  refine e_int ?_
  refine ea_nil ?_
  refine ⟨rfl, ?_⟩
  refine u_Table_spread (T := mkT lim looks rl) hsp ?_
  refine ⟨fre_dA_int, ?_⟩
  rw [show (((mkT lim looks rl).lim : Int) - (0 + 0)).toNat = lim by show ((lim : Int) - (0 + 0)).toNat = lim; omega]
  show S _ _ _ [.ow (.at_ a (tb4 C_Table (mkT lim looks rl) [] [])), .sh (.int (lim : Nat)), .sh (.lst (looks.map .int)), .sh (dA .str rl), .sh (.lst ((cnt lim).map fun c => Dt.key (kk c))), .no, .no, .no] _
  refine s_one (s_fldO 0 rfl rfl (by first | exact .inl rfl | exact .inr (.inl rfl) | exact .inr (.inr rfl)) pc_Table.cl pc_Table.na_stops (by decide) (e_bor 0 rfl ?_))
  refine e_lc (own := [("one", 7)]) rfl sc_Table___init__.nd (blkOk_by (N := N_Table___init__) (sc := defScope s_Table___init__) (by decide +kernel)) ?_
  refine i_lst ?_
  refine e_v 4 ?_
  refine ⟨_, rfl, ?_⟩
  refine' ⟨?lcl27, _, lc_if (cnt lim) (fun c => Dt.key (kk c)) (fun c => stD (c, (mkT lim looks rl).word c)) (fun c => (mkT lim looks rl).isIn c) (fun c => [(7, Dt.key (kk c))]) ?lct27 ?lcm27 ?lcf27 ?lce27, ?lcc27⟩
  case lcl27 =>
    rw [List.length_map]; omega
  case lct27 =>
    rintro t ht Y ⟨s', H', C, cl, fp, rfl⟩
    exact (a_n 7 sc_Table___init__.nd)
  case lcm27 =>
    intro t p hp
    simp at hp
    simp [hp]
  case lcf27 =>
    rintro t ht Y ⟨s', H', C, cl, fp, rfl⟩
    refine t_cmp ?_
    refine e_v 7 ?_
    refine e_vA 0 ?_
    refine w_inO c_Table___contains__ hr ?_
    refine u_Table___contains__ rfl ?_
    refine ⟨_, rfl, ?_⟩
    refine ⟨_, rfl, ?_⟩
    rfl
  case lce27 =>
    rintro t ht hf Y ⟨s', H', C, cl, fp, rfl⟩
    have hw := isIn_word hf
    refine e_bin ?_
    refine e_asK ?_
    refine e_v 7 ?_
    refine ⟨_, rfl, ?_⟩
    refine e_tup ?_
    refine ea_cons ?_
    refine e_dgetA hr.u1 ?_
    refine e_fld ?_
    refine e_vA 0 ?_
    refine ⟨_, _, _, _, rfl, pc_Table.cl, pc_Table.na_entries, rfl, ?_⟩
    refine ⟨_, _, _, rfl, ?_⟩
    refine e_v 7 ?_
    refine ⟨_, _, rfl, by walk_at "sc", ?_⟩
    refine ea_nil ?_
    refine ⟨Nat.le_of_ble_eq_true rfl, ?_⟩
    refine w_catT (Nat.le_of_ble_eq_true rfl) ?_
    rfl
  rintro acc rfl
  rw [take_map_all]
  have es : List.map (fun c => stD (c, (mkT lim looks rl).word c)) ((cnt lim).filter fun c => (mkT lim looks rl).isIn c) = (mkT lim looks rl).stops.map stD := by unfold Tb.stops; rw [List.map_map]; rfl
  rw [es]
  refine ⟨fre_stops 2 _, ?_⟩
  exact ⟨_, _, rfl, hq⟩

abbrev s__law_table : Stmt := topS 55
abbrev N__law_table : List Str := ["_law_parts_here"]
theorem sc__law_table : FnScope N__law_table ["_law_parts_here"] (defScope s__law_table) := ⟨rfl, rfl, rfl, by decide +kernel, rfl, by decide +kernel, by decide +kernel⟩
theorem ok__law_table {f : Addr} {fd : FuncData} {k : Nat} {dvs : List V} {kws : List (Str × V)} {C_Table : Addr} (F : FD K "_law_table" "_law_table" s__law_table dvs kws f fd) (m_dict : mg "dict" = none) (m_list : mg "list" = none) (g_Table : mg "Table" = some (.ref C_Table)) (c_Table : FnC P w K mg base k "Table" 3 (ph_Table___init__ C_Table)) (pc_Table : TableC K C_Table) : FnOk P w K mg base (L2.CX P w) (k + 1) f fd ["_law_parts_here"] (spD K 1 (ph__law_table C_Table)) := by
  refine fn_ok F sc__law_table rfl fun X cdv A outer s H E ds q xd hX hr hph hl Fr wf xok => ?_
  subst hX
  obtain ⟨lim, looks, rl, rfl, hv, hq⟩ := hph
  obtain ⟨ks, hks, ek⟩ := hv.ord
  have hnd : ((keysA rl).map fun q => (tupleKind (mixKind P w)).hash q).Nodup := by
    have e : keysA rl = ks.map fun p => kk (castP p) := by
      unfold keysA
      rw [show (rl.map fun e => kk e.1) = (rl.map (·.1)).map kk by rw [List.map_map]; rfl, ek, List.map_map]
      rfl
    rw [e, List.map_map]
    exact hash_nd P w (hks.trans (cnN_spots hv.l30))
  have hvr := hv.toVr
  show S _ _ _ [_] _
  refine s_one (s_ret ?_)
  refine e_callC c_Table hr (by rfl) ?_
  refine ea_cons ?_
  refine e_ix ?_
  refine e_v 0 ?_
  refine e_int ?_
  refine wi_tup0 ?_
  refine ea_cons ?_
  refine e_callTy (id := "list") (by rfl) m_list b_list ?_
  refine ea_cons ?_
  refine e_ix ?_
  refine e_v 0 ?_
  refine e_int ?_
  refine wi_tup1 ?_
  refine ea_nil ?_
  refine wc_list_lst ?_
  refine ea_cons ?_
  refine e_ofW (ew_dictOf hr.u2 (by rfl) m_dict ?_)
  refine ea_cons ?_
  refine e_ix ?_
  refine e_v 0 ?_
  refine e_int ?_
  refine wi_tup2 ?_
  refine ea_nil ?_
  refine ⟨_, _, rfl, hnd, ?_⟩
  refine ea_nil ?_
  refine ⟨rfl, ?_⟩
  exact u_Table___init__ hvr hq

abbrev s__law_share : Stmt := topS 56
abbrev N__law_share : List Str := ["_law_box_here", "_law_most", "_law_den"]
theorem sc__law_share : FnScope N__law_share ["_law_box_here", "_law_most"] (defScope s__law_share) := ⟨rfl, rfl, rfl, by decide +kernel, rfl, by decide +kernel, by decide +kernel⟩
theorem ok__law_share {f : Addr} {fd : FuncData} {k : Nat} {dvs : List V} {kws : List (Str × V)} (F : FD K "_law_share" "_law_share" s__law_share dvs kws f fd) (c__law_take : Fn P w K mg base k "_law_take" ["_law_box_here", "_law_size"] [] (spB K 2 ph_take)) (c__law_ratio : Fn P w K mg base k "_law_ratio" ["_law_num", "_law_den"] [] (spD K 2 ph_ratio)) : FnOk P w K mg base (L2.CX P w) (k + 1) f fd ["_law_box_here", "_law_most"] (spB K 2 ph__law_share) := by
  refine fn_okX F sc__law_share rfl fun X cdv A outer s H E b c n ds q xd hX hr hph hl Fr wf xok => ?_
  subst hX
  obtain ⟨m, rfl, ⟨hm0, hm1⟩, hq⟩ := hph
  have hlog : 0 < m ∧ m.natAbs.log2 < 9000 := log9 (k := 120) (by omega) (by omega) (by decide) (by decide)
  show S _ _ _ [_, _, _] _
  refine s_cons (s_a 2 sc__law_share.nd ?_)
  refine e_bin ?_
  refine e_int ?_
  refine e_callX c__law_take hr (by rfl) ?_
  refine ea_cons ?_
  refine e_v 0 ?_
  refine ea_cons ?_
  refine e_v 1 ?_
  refine ea_nil ?_
  refine ⟨_, rfl, rfl, ?_⟩
  refine u_take (by walk_at "sc") ?_
  intro v1 va1 vb1
  first | refine w_add ?_ | refine w_catT (by walk_at "sc") ?_ | refine w_addS (by walk_at "sc") ?_ | refine w_catL (by walk_at "sc") ?_
  show S _ _ _ [_, _, _] _
  have hlog2 : 0 < 1 + v1 + 1 ∧ (1 + v1 + 1).natAbs.log2 < 9000 := log9 (k := 120) (by omega) (by omega) (by decide) (by decide)
  refine s_cons (s_ret ?_)
  refine e_call (dds := []) c__law_ratio hr (by rfl) (fun _ => .nil) ?_
  refine ea_cons ?_
  refine e_callX c__law_take hr (by rfl) ?_
  refine ea_cons ?_
  refine e_v 0 ?_
  refine ea_cons ?_
  refine e_bin ?_
  refine e_v 2 ?_
  refine e_int ?_
  first | refine w_add ?_ | refine w_catT (by walk_at "sc") ?_ | refine w_addS (by walk_at "sc") ?_ | refine w_catL (by walk_at "sc") ?_
  refine ea_nil ?_
  refine ⟨_, rfl, rfl, ?_⟩
  refine u_take (by walk_at "sc") ?_
  intro v2 va2 vb2
  refine ea_cons ?_
  refine e_v 2 ?_
  refine ea_nil ?_
  refine ⟨rfl, ?_⟩
  refine u_ratio ⟨by omega, sz_up (a := 110) (by omega) (by decide)⟩ ?_
  obtain ⟨g0, g1⟩ := share_pre (n := v2) (d := 1 + v1) (by omega) (by omega) (by omega)
  refine hq _ (mkR_spec (by omega)).1 ⟨Nat.lt_of_le_of_lt (mkR_le1 (by omega)) ?_, Nat.lt_of_le_of_lt (mkR_le2 (by omega)) ?_⟩ g0 g1 ?_
  · omega
  · omega
  · have h2 := mkR_le2 (n := v2) (d := 1 + v1) (by omega)
    omega

def isIntD : Dt → Bool
  | .int _ => true
  | _ => false
def ph__law_is_integer : Ph := fun ds q _ => ∃ d, ds = [d] ∧ (∃ i, d = .int i) ∧ q (.bl true)
theorem u__law_is_integer {i : Int} {q : Dt → Prop} {x : XD} (_ : True) (p : q (.bl true)) : ph__law_is_integer [.int i] q x := ⟨_, rfl, ⟨i, rfl⟩, p⟩
abbrev s__law_is_integer : Stmt := topS 57
abbrev N__law_is_integer : List Str := ["_law_value"]
theorem sc__law_is_integer : FnScope N__law_is_integer ["_law_value"] (defScope s__law_is_integer) := ⟨rfl, rfl, rfl, by decide +kernel, rfl, by decide +kernel, by decide +kernel⟩
theorem ok__law_is_integer {f : Addr} {fd : FuncData} {k : Nat} {dvs : List V} {kws : List (Str × V)} (F : FD K "_law_is_integer" "_law_is_integer" s__law_is_integer dvs kws f fd) (m_bool : mg "bool" = none) (m_int : mg "int" = none) (m_isinstance : mg "isinstance" = none) : FnOk P w K mg base (L2.CX P w) (k + 1) f fd ["_law_value"] (spD K 1 ph__law_is_integer) := by
  refine fn_ok F sc__law_is_integer rfl fun X cdv A outer s H E ds q xd hX hr hph hl Fr wf xok => ?_
  subst hX
  obtain ⟨d, rfl, ⟨i, rfl⟩, hq⟩ := hph
  show S _ _ _ [_] _
  refine s_cons (s_ret ?_)
  refine' e_andD ?ha28 (fun hb => ?hb28) ?hc28
  case ha28 =>
    refine e_callB (id := "isinstance") (by rfl) m_isinstance b_isinstance ?_
    refine ea_cons ?_
    refine e_v 0 ?_
    refine ea_cons ?_
    refine e_ty (by rfl) m_int b_int ?_
    refine ea_nil ?_
    first | refine wc_isi tyd_int kt_int_int ?_ | refine wc_isi tyd_bl kt_bool_int ?_ | refine wc_isi tyd_tup kt_tuple_int ?_ | refine wc_isi tyd_lst kt_list_int ?_ | refine wc_isi tyd_str kt_str_int ?_ | refine wc_isi tyd_non kt_NoneType_int ?_
    exact rfl
  case hb28 =>
    refine e_one ?_
    refine e_not ?_
    refine e_callB (id := "isinstance") (by rfl) m_isinstance b_isinstance ?_
    refine ea_cons ?_
    refine e_v 0 ?_
    refine ea_cons ?_
    refine e_ty (by rfl) m_bool b_bool ?_
    refine ea_nil ?_
    first | refine wc_isi tyd_int kt_int_bool ?_ | refine wc_isi tyd_bl kt_bool_bool ?_ | refine wc_isi tyd_tup kt_tuple_bool ?_ | refine wc_isi tyd_lst kt_list_bool ?_ | refine wc_isi tyd_str kt_str_bool ?_ | refine wc_isi tyd_non kt_NoneType_bool ?_
    refine ⟨_, rfl, ?_⟩
    exact rfl
  exact hq

def ph__law_is_ratio : Ph := fun ds q _ => ∃ r : Int × Int, ds = [ratD r] ∧ IsR r ∧ q (.bl true)
theorem u__law_is_ratio {r : Int × Int} {q : Dt → Prop} {x : XD} (h : IsR r) (p : q (.bl true)) : ph__law_is_ratio [ratD r] q x := ⟨r, rfl, h, p⟩
abbrev s__law_is_ratio : Stmt := topS 58
abbrev N__law_is_ratio : List Str := ["_law_value"]
theorem sc__law_is_ratio : FnScope N__law_is_ratio ["_law_value"] (defScope s__law_is_ratio) := ⟨rfl, rfl, rfl, by decide +kernel, rfl, by decide +kernel, by decide +kernel⟩
theorem ok__law_is_ratio {f : Addr} {fd : FuncData} {k : Nat} {dvs : List V} {kws : List (Str × V)} (F : FD K "_law_is_ratio" "_law_is_ratio" s__law_is_ratio dvs kws f fd) (m_isinstance : mg "isinstance" = none) (m_len : mg "len" = none) (m_tuple : mg "tuple" = none) (c__law_gcd : Fn P w K mg base k "_law_gcd" ["_law_a", "_law_b"] [] (spD K 2 ph_gcd)) (c__law_is_integer : Fn P w K mg base k "_law_is_integer" ["_law_value"] [] (spD K 1 ph__law_is_integer)) : FnOk P w K mg base (L2.CX P w) (k + 1) f fd ["_law_value"] (spD K 1 ph__law_is_ratio) := by
  refine fn_ok F sc__law_is_ratio rfl fun X cdv A outer s H E ds q xd hX hr hph hl Fr wf xok => ?_
  subst hX
  obtain ⟨r, rfl, ir, hq⟩ := hph
  obtain ⟨r1, r2⟩ := r
  obtain ⟨h1, h2⟩ := ir
  show S _ _ _ [_] _
  show S _ _ _ [.sh (.tup [.int r1, .int r2])] _
  refine s_cons (s_if ?_)
  refine TW.t ?_
  refine' tw_orD ?ha29 (fun hb => ?hb29) ?hc29
  case ha29 =>
    refine t_not ?_
    refine t_val ?_
    refine e_callB (id := "isinstance") (by rfl) m_isinstance b_isinstance ?_
    refine ea_cons ?_
    refine e_v 0 ?_
    refine ea_cons ?_
    refine e_ty (by rfl) m_tuple b_tuple ?_
    refine ea_nil ?_
    first | refine wc_isi tyd_int kt_int_tuple ?_ | refine wc_isi tyd_bl kt_bool_tuple ?_ | refine wc_isi tyd_tup kt_tuple_tuple ?_ | refine wc_isi tyd_lst kt_list_tuple ?_ | refine wc_isi tyd_str kt_str_tuple ?_ | refine wc_isi tyd_non kt_NoneType_tuple ?_
    refine ⟨_, rfl, ?_⟩
    exact rfl
  case hb29 =>
    refine tw_or1 ?_
    refine t_cmp ?_
    refine e_callB (id := "len") (by rfl) m_len b_len ?_
    refine ea_cons ?_
    refine e_v 0 ?_
    refine ea_nil ?_
    first | refine wc_len_lst ?_ | refine wc_len_tup ?_ | refine wc_len_str (by walk_at "sc") ?_ | refine wc_lenc (fun hn63 => ?_)
    refine e_int ?_
    first | refine w_neI ?_ | refine w_neT ?_ | refine w_neB ?_ | refine w_neD hr.units (by walk_at "ok") (by walk_at "ok") ?_
    refine ⟨_, rfl, ?_⟩
    exact rfl
  refine ite_f (by rfl) ?_
  refine s_nil ?_
  refine s_cons (s_if ?_)
  refine TW.t ?_
  refine' tw_orD ?ha30 (fun hb => ?hb30) ?hc30
  case ha30 =>
    refine t_not ?_
    refine t_val ?_
    refine e_call (dds := []) c__law_is_integer hr (by rfl) (fun _ => .nil) ?_
    refine ea_cons ?_
    refine e_ix ?_
    refine e_v 0 ?_
    refine e_int ?_
    first | refine wi_tup0 ?_ | refine wi_tup1 ?_ | refine wi_tup2 ?_ | refine wi_tup (by walk_at "sc") ?_ | refine wi_lst (by walk_at "sc") ?_ | refine wi_str (by walk_at "sc") (by walk_at "sc") ?_
    refine ea_nil ?_
    refine ⟨rfl, ?_⟩
    refine u__law_is_integer (by walk_at "sc") ?_
    refine ⟨_, rfl, ?_⟩
    exact rfl
  case hb30 =>
    refine tw_or1 ?_
    refine t_not ?_
    refine t_val ?_
    refine e_call (dds := []) c__law_is_integer hr (by rfl) (fun _ => .nil) ?_
    refine ea_cons ?_
    refine e_ix ?_
    refine e_v 0 ?_
    refine e_int ?_
    first | refine wi_tup0 ?_ | refine wi_tup1 ?_ | refine wi_tup2 ?_ | refine wi_tup (by walk_at "sc") ?_ | refine wi_lst (by walk_at "sc") ?_ | refine wi_str (by walk_at "sc") (by walk_at "sc") ?_
    refine ea_nil ?_
    refine ⟨rfl, ?_⟩
    refine u__law_is_integer (by walk_at "sc") ?_
    refine ⟨_, rfl, ?_⟩
    exact rfl
  refine ite_f (by rfl) ?_
  refine s_nil ?_
  refine s_cons (s_ret ?_)
  refine' e_andD ?ha31 (fun hb => ?hb31) ?hc31
  case ha31 =>
    refine e_cmp ?_
    refine e_ix ?_
    refine e_v 0 ?_
    refine e_int ?_
    first | refine wi_tup0 ?_ | refine wi_tup1 ?_ | refine wi_tup2 ?_ | refine wi_tup (by walk_at "sc") ?_ | refine wi_lst (by walk_at "sc") ?_ | refine wi_str (by walk_at "sc") (by walk_at "sc") ?_
    refine e_int ?_
    refine w_ge ?_
    exact rfl
  case hb31 =>
    refine e_one ?_
    refine e_cmp ?_
    refine e_call (dds := []) c__law_gcd hr (by rfl) (fun _ => .nil) ?_
    refine ea_cons ?_
    refine e_ix ?_
    refine e_v 0 ?_
    refine e_int ?_
    first | refine wi_tup0 ?_ | refine wi_tup1 ?_ | refine wi_tup2 ?_ | refine wi_tup (by walk_at "sc") ?_ | refine wi_lst (by walk_at "sc") ?_ | refine wi_str (by walk_at "sc") (by walk_at "sc") ?_
    refine ea_cons ?_
    refine e_ix ?_
    refine e_v 0 ?_
    refine e_int ?_
    first | refine wi_tup0 ?_ | refine wi_tup1 ?_ | refine wi_tup2 ?_ | refine wi_tup (by walk_at "sc") ?_ | refine wi_lst (by walk_at "sc") ?_ | refine wi_str (by walk_at "sc") (by walk_at "sc") ?_
    refine ea_nil ?_
    refine ⟨rfl, ?_⟩
    refine u_gcd (by walk_at "sc") ?_
    refine e_int ?_
    first | refine w_eqI ?_ | refine w_eqT ?_ | refine w_eqB ?_ | refine w_eqD hr.units (by walk_at "ok") (by walk_at "ok") ?_
    exact rfl
  have e : (decide (1 ≤ r2) && decide ((Int.gcd r1 r2 : Int) = 1)) = true := by
    have h2' : Int.gcd r1 r2 = 1 := h2
    rw [h2', decide_eq_true (show 1 ≤ r2 from h1)]; rfl
  rw [e]
  exact hq

abbrev s__law_back : Stmt := topS 59
abbrev N__law_back : List Str := ["_law_parts_here", "_law_word_here", "_law_at", "_law_limit", "_law_looks", "_law_rule", "_law_chance", "_law_length", "_law_scale", "_law_tries", "_law_wins", "_law_here", "_law_up", "_law_down"]
theorem sc__law_back : FnScope N__law_back ["_law_parts_here", "_law_word_here", "_law_at"] (defScope s__law_back) := ⟨rfl, rfl, rfl, by decide +kernel, rfl, by decide +kernel, by decide +kernel⟩
theorem ok__law_back {f : Addr} {fd : FuncData} {k : Nat} {dvs : List V} {kws : List (Str × V)} (F : FD K "_law_back" "_law_back" s__law_back dvs kws f fd) (m_int : mg "int" = none) (m_range : mg "range" = none) : FnOk P w K mg base (L2.CX P w) (k + 1) f fd ["_law_parts_here", "_law_word_here", "_law_at"] (spD K 3 ph__law_back) := by
  refine fn_ok F sc__law_back rfl fun X cdv A outer s H E ds q xd hX hr hph hl Fr wf xok => ?_
  subst hX
  obtain ⟨lim, looks, rl, x, p, r, rfl, ⟨hv, hp, hr1, hr2⟩, hq⟩ := hph
  have vr := hv.toVr
  have hl30 := hv.l30
  show S _ _ _ [_, _, _, _, _, _, _, _, _, _, _, _, _, _] _
  refine s_cons (s_unpack ?_)
  refine e_v 0 ?_
  refine ⟨_, (a_tup rfl (as_cons (a_n 3 sc__law_back.nd) (as_cons (a_n 4 sc__law_back.nd) (as_cons (a_n 5 sc__law_back.nd) as_nil)))), ?_⟩
  show S _ _ _ [_, _, _, _, _, _, _, _, _, _, _, _, _, _] _
  refine s_cons (s_aO 6 sc__law_back.nd (ew_dnew ?_))
  show S _ _ _ [_, _, _, _, _, _, _, _, _, _, _, _, _, _] _
  refine s_cons (s_aO 7 sc__law_back.nd (ew_dnew ?_))
  show S _ _ _ [_, _, _, _, _, _, _, _, _, _, _, _, _, _] _
  refine s_cons (s_a 8 sc__law_back.nd ?_)
  refine e_int ?_
  show S _ _ _ [_, _, _, _, _, _, _, _, _, _, _, _, _, _] _
  show S _ _ _ [.sh (ptD lim looks rl), .sh (.str x), .sh (.tup [.int p, .int r]), .sh (.int (lim : Nat)), .sh (.lst (looks.map .int)), .sh (dA .str rl), .ow (dA Dt.int []), .ow (dA Dt.int []), .sh (.int 1), .no, .no, .no, .no, .no] _
  refine s_cons (s_for (passes_of rfl) rfl ?_)
  refine i_range3 (by rfl) m_range ?_
  refine ea_cons ?_
  refine e_v 3 ?_
  refine ea_cons ?_
  refine e_un ?_
  refine e_int ?_
  refine w_neg ?_
  refine ea_cons ?_
  refine e_un ?_
  refine e_int ?_
  refine w_neg ?_
  refine ea_nil ?_
  refine ⟨_, _, rfl, by walk_at "sc", ?_⟩
  refine ⟨fun i G => ∃ (mc ml : Al Int) (g9 g10 g11 g12 g13 : Sl), G = [.sh (ptD lim looks rl), .sh (.str x), .sh (.tup [.int p, .int r]), .sh (.int (lim : Nat)), .sh (.lst (looks.map .int)), .sh (dA .str rl), .ow (dA .int mc), .ow (dA .int ml), .sh (.int (r ^ i)), g9, g10, g11, g12, g13] ∧ BkD lim looks rl x p r mc ml (lim - (i : Nat)) 0 ∧ mc.length ≤ 40 * i ∧ ml.length ≤ 40 * i, ⟨[], [], _, _, _, _, _, by rw [Int.pow_zero], BkD.zero, by simp, by simp⟩, ?_, ?_⟩
  · rintro i d G hd ⟨mc, ml, g9, g10, g11, g12, g13, rfl, hb, hc1, hc2⟩
    obtain ⟨hi, rfl⟩ := downD_get hd
    have hi2 : i ≤ lim := by omega
    refine ⟨_, (a_n 9 sc__law_back.nd), ?_⟩
    show S _ _ _ [_, _, _, _, _, _, _, _, _, _, _, _, _, _] _
    refine s_cons (s_for (passes_of rfl) rfl ?_)
    refine i_range1 (by rfl) m_range ?_
    refine ea_cons ?_
    refine e_bin ?_
    refine e_v 9 ?_
    refine e_int ?_
    first | refine w_add ?_ | refine w_catT (by walk_at "sc") ?_ | refine w_addS (by walk_at "sc") ?_ | refine w_catL (by walk_at "sc") ?_
    refine ea_nil ?_
    refine ⟨_, rfl, by walk_at "sc", by walk_at "sc", ?_⟩
    refine ⟨fun j G => ∃ (mc ml : Al Int) (g10 g11 g12 g13 : Sl), G = [.sh (ptD lim looks rl), .sh (.str x), .sh (.tup [.int p, .int r]), .sh (.int (lim : Nat)), .sh (.lst (looks.map .int)), .sh (dA .str rl), .ow (dA .int mc), .ow (dA .int ml), .sh (.int (r ^ i)), .sh (.int (lim - (i : Nat))), g10, g11, g12, g13] ∧ BkD lim looks rl x p r mc ml (lim - (i : Nat)) j ∧ mc.length ≤ 40 * i + j ∧ ml.length ≤ 40 * i + j, ⟨_, _, _, _, _, _, rfl, hb, hc1, hc2⟩, ?_, ?_⟩
    · clear hb hc1 hc2
      rintro j d G hd ⟨mc, ml, g10, g11, g12, g13, rfl, hb, hc1, hc2⟩
      obtain ⟨hj, rfl⟩ := rangeD_get hd
      have hj2 : (j : Int) ≤ lim - (i : Nat) := by omega
      have hc3 : mc.length < 100000 := by omega
      have hc4 : ml.length < 100000 := by omega
      refine ⟨_, (a_n 10 sc__law_back.nd), ?_⟩
      show S _ _ _ [_, _, _, _, _, _, _, _, _, _, _, _, _, _] _
      refine s_cons (s_a 11 sc__law_back.nd ?_)
      refine e_kk ?_
      refine ea_cons ?_
      refine e_v 10 ?_
      refine ea_cons ?_
      refine e_bin ?_
      refine e_v 9 ?_
      refine e_v 10 ?_
      refine w_sub ?_
      refine ea_nil ?_
      refine ⟨(_, _), rfl, ?_⟩
      show S _ _ _ [_, _, _, _, _, _, _, _, _, _, _, _, _, _] _
      refine s_one (s_if ?_)
      refine TW.t ?_
      refine' tw_andD ?ha32 (fun hb => ?hb32) ?hc32
      case ha32 =>
        refine t_cmp ?_
        refine e_v 9 ?_
        refine e_v 4 ?_
        first | refine w_inS ?_ | refine w_inT ?_ | refine w_inL ?_ | refine w_inD hr.u65 (by walk_at "ok") (by walk_at "ok") ?_
        refine ⟨_, rfl, ?_⟩
        exact rfl
      case hb32 =>
        refine tw_and1 ?_
        refine t_dinA hr.u1 ?_
        refine e_v 11 ?_
        refine ⟨_, rfl, ?_⟩
        refine e_v 5 ?_
        refine ⟨_, _, _, rfl, ?_⟩
        exact rfl
      have eS : (inI looks ((lim : Int) - (i : Nat)) && has rl (0 + (j : Nat), (lim : Int) - (i : Nat) - (0 + (j : Nat)))) = stopL looks rl (0 + (j : Nat), (lim : Int) - (i : Nat) - (0 + (j : Nat))) := by
        unfold stopL
        rw [show (0 + (j : Nat) : Int) + ((lim : Int) - (i : Nat) - (0 + (j : Nat))) = (lim : Int) - (i : Nat) by omega]
      have eN : lim - ((lim : Int) - (i : Nat)).toNat = i := by omega
      have fin : ∀ (u v : Int) (g10 g11 g12 g13 : Sl), u = bkC looks rl x p r i (0 + (j : Nat), (lim : Int) - (i : Nat) - (0 + (j : Nat))) → v = bkL looks rl p r i (0 + (j : Nat), (lim : Int) - (i : Nat) - (0 + (j : Nat))) → ∃ (mc' ml' : Al Int) (g10' g11' g12' g13' : Sl), ([.sh (ptD lim looks rl), .sh (.str x), .sh (.tup [.int p, .int r]), .sh (.int (lim : Nat)), .sh (.lst (looks.map .int)), .sh (dA .str rl), .ow (dA .int (put mc (0 + (j : Nat), (lim : Int) - (i : Nat) - (0 + (j : Nat))) u)), .ow (dA .int (put ml (0 + (j : Nat), (lim : Int) - (i : Nat) - (0 + (j : Nat))) v)), .sh (.int (r ^ i)), .sh (.int (lim - (i : Nat))), g10, g11, g12, g13] : List Sl) = [.sh (ptD lim looks rl), .sh (.str x), .sh (.tup [.int p, .int r]), .sh (.int (lim : Nat)), .sh (.lst (looks.map .int)), .sh (dA .str rl), .ow (dA .int mc'), .ow (dA .int ml'), .sh (.int (r ^ i)), .sh (.int (lim - (i : Nat))), g10', g11', g12', g13'] ∧ BkD lim looks rl x p r mc' ml' (lim - (i : Nat)) (j + 1) ∧ mc'.length ≤ 40 * i + (j + 1) ∧ ml'.length ≤ 40 * i + (j + 1) := fun u v g10 g11 g12 g13 hu hv => ⟨_, _, g10, g11, g12, g13, rfl, hb.put (by omega) (by omega) (by rw [eN]; exact hu) (by rw [eN]; exact hv), by have := put_len mc (0 + (j : Nat), (lim : Int) - (i : Nat) - (0 + (j : Nat))) u; omega, by have := put_len ml (0 + (j : Nat), (lim : Int) - (i : Nat) - (0 + (j : Nat))) v; omega⟩
      cases hs : stopL looks rl (0 + (j : Nat), (lim : Int) - (i : Nat) - (0 + (j : Nat)))
      · refine ite_f (by unfold inI at eS; rw [eS, hs]) ?_
        have hi0 : i ≠ 0 := fun z => by
          subst z
          have := stop_lim vr (0 + (j : Nat), (lim : Int) - ((0 : Nat) : Int) - (0 + (j : Nat))) (by dsimp only; omega) (by dsimp only; omega) (by dsimp only; omega)
          rw [this] at hs
          cases hs
        obtain ⟨i', rfl⟩ : ∃ i', i = i' + 1 := ⟨i - 1, by omega⟩
        have k1 := hb (0 + (j : Nat) + 1, (lim : Int) - ((i' + 1 : Nat) : Int) - (0 + (j : Nat))) (by dsimp only; omega) (by dsimp only; omega) (by dsimp only; omega) (.inl (by dsimp only; omega))
        have k2 := hb (0 + (j : Nat), (lim : Int) - ((i' + 1 : Nat) : Int) - (0 + (j : Nat)) + 1) (by dsimp only; omega) (by dsimp only; omega) (by dsimp only; omega) (.inl (by dsimp only; omega))
        dsimp only at k1 k2
        rw [show lim - (0 + (j : Nat) + 1 + ((lim : Int) - ((i' + 1 : Nat) : Int) - (0 + (j : Nat)))).toNat = i' by omega] at k1
        rw [show lim - (0 + (j : Nat) + ((lim : Int) - ((i' + 1 : Nat) : Int) - (0 + (j : Nat)) + 1)).toNat = i' by omega] at k2
        obtain ⟨k1, k3⟩ := k1
        obtain ⟨k2, k4⟩ := k2
        rw [bkC_go hs, bkL_go hs] at fin
        generalize bkC looks rl x p r i' (0 + (j : Nat) + 1, (lim : Int) - ((i' + 1 : Nat) : Int) - (0 + (j : Nat))) = u1 at *
        generalize bkC looks rl x p r i' (0 + (j : Nat), (lim : Int) - ((i' + 1 : Nat) : Int) - (0 + (j : Nat)) + 1) = u2 at *
        generalize bkL looks rl p r i' (0 + (j : Nat) + 1, (lim : Int) - ((i' + 1 : Nat) : Int) - (0 + (j : Nat))) = v1 at *
        generalize bkL looks rl p r i' (0 + (j : Nat), (lim : Int) - ((i' + 1 : Nat) : Int) - (0 + (j : Nat)) + 1) = v2 at *
        refine s_cons (s_a 12 sc__law_back.nd ?_)
        refine e_kk ?_
        refine ea_cons ?_
        refine e_bin ?_
        refine e_v 10 ?_
        refine e_int ?_
        first | refine w_add ?_ | refine w_catT (by walk_at "sc") ?_ | refine w_addS (by walk_at "sc") ?_ | refine w_catL (by walk_at "sc") ?_
        refine ea_cons ?_
        refine e_bin ?_
        refine e_v 9 ?_
        refine e_v 10 ?_
        refine w_sub ?_
        refine ea_nil ?_
        refine ⟨(_, _), rfl, ?_⟩
        show S _ _ _ [_, _, _, _, _, _, _, _, _, _, _, _, _, _] _
        refine s_cons (s_a 13 sc__law_back.nd ?_)
        refine e_kk ?_
        refine ea_cons ?_
        refine e_v 10 ?_
        refine ea_cons ?_
        refine e_bin ?_
        refine e_bin ?_
        refine e_v 9 ?_
        refine e_v 10 ?_
        refine w_sub ?_
        refine e_int ?_
        first | refine w_add ?_ | refine w_catT (by walk_at "sc") ?_ | refine w_addS (by walk_at "sc") ?_ | refine w_catL (by walk_at "sc") ?_
        refine ea_nil ?_
        refine ⟨(_, _), rfl, ?_⟩
        show S _ _ _ [_, _, _, _, _, _, _, _, _, _, _, _, _, _] _
        have m1 : CMul p u1 := .inl (by omega)
        have m2 : CMul (r - p) u2 := .inl (by omega)
        have m3 : CMul p v1 := .inl (by omega)
        have m4 : CMul (r - p) v2 := .inl (by omega)
        refine s_cons (s_dputA 6 hr.u1 rfl rfl (by first | exact .inl rfl | exact .inr (.inl rfl) | exact .inr (.inr rfl)) (by walk_at "sc") ?_)
        refine e_bor 6 rfl ?_
        refine e_bin ?_
        refine e_bin ?_
        refine e_ix ?_
        refine e_v 2 ?_
        refine e_int ?_
        first | refine wi_tup0 ?_ | refine wi_tup1 ?_ | refine wi_tup2 ?_ | refine wi_tup (by walk_at "sc") ?_ | refine wi_lst (by walk_at "sc") ?_ | refine wi_str (by walk_at "sc") (by walk_at "sc") ?_
        refine e_dgetA hr.u1 ?_
        refine e_v 6 ?_
        refine ⟨_, _, _, rfl, ?_⟩
        refine e_v 12 ?_
        refine ⟨_, _, rfl, by walk_at "sc", ?_⟩
        refine w_mulS m1 ?_
        refine e_bin ?_
        refine e_bin ?_
        refine e_ix ?_
        refine e_v 2 ?_
        refine e_int ?_
        first | refine wi_tup0 ?_ | refine wi_tup1 ?_ | refine wi_tup2 ?_ | refine wi_tup (by walk_at "sc") ?_ | refine wi_lst (by walk_at "sc") ?_ | refine wi_str (by walk_at "sc") (by walk_at "sc") ?_
        refine e_ix ?_
        refine e_v 2 ?_
        refine e_int ?_
        first | refine wi_tup0 ?_ | refine wi_tup1 ?_ | refine wi_tup2 ?_ | refine wi_tup (by walk_at "sc") ?_ | refine wi_lst (by walk_at "sc") ?_ | refine wi_str (by walk_at "sc") (by walk_at "sc") ?_
        refine w_sub ?_
        refine e_dgetA hr.u1 ?_
        refine e_v 6 ?_
        refine ⟨_, _, _, rfl, ?_⟩
        refine e_v 13 ?_
        refine ⟨_, _, rfl, by walk_at "sc", ?_⟩
        refine w_mulS m2 ?_
        first | refine w_add ?_ | refine w_catT (by walk_at "sc") ?_ | refine w_addS (by walk_at "sc") ?_ | refine w_catL (by walk_at "sc") ?_
        refine ⟨rfl, ?_⟩
        refine ⟨_, rfl, ?_⟩
        refine e_v 11 ?_
        refine ⟨_, rfl, ?_⟩
        show S _ _ _ [_, _, _, _, _, _, _, _, _, _, _, _, _, _] _
        refine s_one (s_dputA 7 hr.u1 rfl rfl (by first | exact .inl rfl | exact .inr (.inl rfl) | exact .inr (.inr rfl)) (by walk_at "sc") ?_)
        refine e_bor 7 rfl ?_
        refine e_bin ?_
        refine e_bin ?_
        refine e_bin ?_
        refine e_ix ?_
        refine e_v 2 ?_
        refine e_int ?_
        first | refine wi_tup0 ?_ | refine wi_tup1 ?_ | refine wi_tup2 ?_ | refine wi_tup (by walk_at "sc") ?_ | refine wi_lst (by walk_at "sc") ?_ | refine wi_str (by walk_at "sc") (by walk_at "sc") ?_
        refine e_dgetA hr.u1 ?_
        refine e_v 7 ?_
        refine ⟨_, _, _, rfl, ?_⟩
        refine e_v 12 ?_
        refine ⟨_, _, rfl, by walk_at "sc", ?_⟩
        refine w_mulS m3 ?_
        refine e_bin ?_
        refine e_bin ?_
        refine e_ix ?_
        refine e_v 2 ?_
        refine e_int ?_
        first | refine wi_tup0 ?_ | refine wi_tup1 ?_ | refine wi_tup2 ?_ | refine wi_tup (by walk_at "sc") ?_ | refine wi_lst (by walk_at "sc") ?_ | refine wi_str (by walk_at "sc") (by walk_at "sc") ?_
        refine e_ix ?_
        refine e_v 2 ?_
        refine e_int ?_
        first | refine wi_tup0 ?_ | refine wi_tup1 ?_ | refine wi_tup2 ?_ | refine wi_tup (by walk_at "sc") ?_ | refine wi_lst (by walk_at "sc") ?_ | refine wi_str (by walk_at "sc") (by walk_at "sc") ?_
        refine w_sub ?_
        refine e_dgetA hr.u1 ?_
        refine e_v 7 ?_
        refine ⟨_, _, _, rfl, ?_⟩
        refine e_v 13 ?_
        refine ⟨_, _, rfl, by walk_at "sc", ?_⟩
        refine w_mulS m4 ?_
        first | refine w_add ?_ | refine w_catT (by walk_at "sc") ?_ | refine w_addS (by walk_at "sc") ?_ | refine w_catL (by walk_at "sc") ?_
        refine e_v 8 ?_
        first | refine w_add ?_ | refine w_catT (by walk_at "sc") ?_ | refine w_addS (by walk_at "sc") ?_ | refine w_catL (by walk_at "sc") ?_
        refine ⟨rfl, ?_⟩
        refine ⟨_, rfl, ?_⟩
        refine e_v 11 ?_
        refine ⟨_, rfl, ?_⟩
        exact fin _ _ _ _ _ _ rfl rfl
      · refine ite_t (by unfold inI at eS; rw [eS, hs]) ?_
        rw [bkC_stop hs, bkL_stop hs] at fin
        rw [hs, Bool.and_eq_true] at eS
        obtain ⟨y, hy⟩ := Option.isSome_iff_exists.mp eS.2
        rw [hy] at fin
        have m1 : ∀ b : Bool, CMul (r ^ i) (if b then 1 else 0) := fun b => .inr (by cases b <;> decide)
        refine s_cons (s_dputA 6 hr.u1 rfl rfl (by first | exact .inl rfl | exact .inr (.inl rfl) | exact .inr (.inr rfl)) (by walk_at "sc") ?_)
        refine e_bin ?_
        refine e_v 8 ?_
        refine e_callTy (id := "int") (by rfl) m_int b_int ?_
        refine ea_cons ?_
        refine e_cmp ?_
        refine e_dgetA hr.u1 ?_
        refine e_v 5 ?_
        refine ⟨_, _, _, rfl, ?_⟩
        refine e_v 11 ?_
        refine ⟨_, _, rfl, by walk_at "sc", ?_⟩
        refine e_v 1 ?_
        first | refine w_eqI ?_ | refine w_eqT ?_ | refine w_eqB ?_ | refine w_eqD hr.units (by walk_at "ok") (by walk_at "ok") ?_
        refine ea_nil ?_
        first | refine wc_int ?_ | refine wc_intB ?_ | refine wc_intS (by walk_at "sc") (by walk_at "sc") ?_
        refine w_mulS (m1 _) ?_
        refine ⟨_, rfl, ?_⟩
        refine e_v 11 ?_
        refine ⟨_, rfl, ?_⟩
        show S _ _ _ [_, _, _, _, _, _, _, _, _, _, _, _, _, _] _
        refine s_one (s_dputA 7 hr.u1 rfl rfl (by first | exact .inl rfl | exact .inr (.inl rfl) | exact .inr (.inr rfl)) (by walk_at "sc") ?_)
        refine e_int ?_
        refine ⟨_, rfl, ?_⟩
        refine e_v 11 ?_
        refine ⟨_, rfl, ?_⟩
        refine fin _ _ _ _ _ _ ?_ rfl
        simp
    · rintro G ⟨mc, ml, g10, g11, g12, g13, rfl, hb, hc1, hc2⟩
      rw [rangeD_length] at hb hc1 hc2
      have m1 : CMul (r ^ i) r := .inr (by omega)
      refine s_one (s_a 8 sc__law_back.nd ?_)
      refine e_bin ?_
      refine e_v 8 ?_
      refine e_ix ?_
      refine e_v 2 ?_
      refine e_int ?_
      first | refine wi_tup0 ?_ | refine wi_tup1 ?_ | refine wi_tup2 ?_ | refine wi_tup (by walk_at "sc") ?_ | refine wi_lst (by walk_at "sc") ?_ | refine wi_str (by walk_at "sc") (by walk_at "sc") ?_
      refine w_mulS m1 ?_
      exact ⟨_, _, _, _, _, _, _, by rw [Int.pow_succ]; rfl, hb.next (by omega) (by omega), by omega, by omega⟩
  · rintro G ⟨mc, ml, g9, g10, g11, g12, g13, rfl, hb, hc1, hc2⟩
    rw [downD_length, show ((lim : Int) - -1).toNat = lim + 1 by omega] at *
    obtain ⟨k1, k2⟩ := hb (0, 0) (by decide) (by decide) (by dsimp only; omega) (.inl (by dsimp only; omega))
    have e0 : lim - ((0 : Int) + 0).toNat = lim := by omega
    dsimp only at k1 k2
    rw [e0] at k1 k2
    have hdv : CDivW (r ^ (lim + 1)) r := wide_div (b := 20) (by omega) (by omega) (by decide) (by decide)
    have eq1 : r ^ (lim + 1) / r = r ^ lim := by rw [Int.pow_succ]; exact Int.mul_ediv_cancel _ (by omega)
    refine s_one (s_ret ?_)
    refine e_tup ?_
    refine ea_cons ?_
    refine e_dgetA hr.u1 ?_
    refine e_v 6 ?_
    refine ⟨_, _, _, rfl, ?_⟩
    refine e_kk ?_
    refine ea_cons ?_
    refine e_int ?_
    refine ea_cons ?_
    refine e_int ?_
    refine ea_nil ?_
    refine ⟨(_, _), rfl, ?_⟩
    refine ⟨_, _, rfl, by walk_at "sc", ?_⟩
    refine ea_cons ?_
    refine e_dgetA hr.u1 ?_
    refine e_v 7 ?_
    refine ⟨_, _, _, rfl, ?_⟩
    refine e_kk ?_
    refine ea_cons ?_
    refine e_int ?_
    refine ea_cons ?_
    refine e_int ?_
    refine ea_nil ?_
    refine ⟨(_, _), rfl, ?_⟩
    refine ⟨_, _, rfl, by walk_at "sc", ?_⟩
    refine ea_cons ?_
    refine e_bin ?_
    refine e_v 8 ?_
    refine e_ix ?_
    refine e_v 2 ?_
    refine e_int ?_
    first | refine wi_tup0 ?_ | refine wi_tup1 ?_ | refine wi_tup2 ?_ | refine wi_tup (by walk_at "sc") ?_ | refine wi_lst (by walk_at "sc") ?_ | refine wi_str (by walk_at "sc") (by walk_at "sc") ?_
    refine w_div hdv ?_
    refine ea_nil ?_
    refine ⟨Nat.le_of_ble_eq_true rfl, ?_⟩
    rw [eq1]
    exact hq

abbrev s_Table_words : Stmt := inClass (topS 47) 9
abbrev N_Table_words : List Str := ["self", "found", "stop"]
theorem sc_Table_words : FnScope N_Table_words ["self"] (defScope s_Table_words) := ⟨rfl, rfl, rfl, by decide +kernel, rfl, by decide +kernel, by decide +kernel⟩
theorem ok_Table_words {f : Addr} {fd : FuncData} {k : Nat} {dvs : List V} {kws : List (Str × V)} {C_Table : Addr} (F : FD K "words" "Table.words" s_Table_words dvs kws f fd) (m_tuple : mg "tuple" = none) (pc_Table : TableC K C_Table) : FnOk P w K mg base (L2.CX P w) (k + 1) f fd ["self"] (spD K 1 (ph_Table_words C_Table)) := by
  refine fn_ok F sc_Table_words rfl fun X cdv A outer s H E ds q xd hX hr hph hl Fr wf xok => ?_
  subst hX
  obtain ⟨tb, rfl, ⟨hok, hln⟩, hq⟩ := hph
  show S _ _ _ [_, _, _] _
  refine s_cons (s_aN 1 sc_Table_words.nd (en_lst ?_))
  refine ea_nil ?_
  refine ⟨Nat.le_of_ble_eq_true rfl, ?_⟩
  show S _ _ _ [_, _, _] _
  refine s_cons (s_for (passes_of rfl) rfl ?_)
  refine i_lst ?_
  refine e_fld ?_
  refine e_v 0 ?_
  refine ⟨_, _, _, _, rfl, pc_Table.cl, pc_Table.na_stops, rfl, ?_⟩
  refine ⟨_, rfl, ?_⟩
  refine ⟨fun i G => ∃ g2, G = [.sh (tabD C_Table tb), .ow (.lst ((wordsT (tb.stops.take i)).map .str)), g2], ⟨_, rfl⟩, ?_, ?_⟩
  · rintro i d G hd ⟨g2, rfl⟩
    rw [List.getElem?_map] at hd
    obtain ⟨e, he, rfl⟩ : ∃ e, tb.stops[i]? = some e ∧ stD e = d := by
      cases z : tb.stops[i]? with
      | none => rw [z] at hd; cases hd
      | some e => rw [z] at hd; cases hd; exact ⟨e, rfl, rfl⟩
    have hoke := hok e (List.mem_of_getElem? he)
    have eT : wordsT (tb.stops.take (i + 1)) = addW (wordsT (tb.stops.take i)) e.2 := by unfold wordsT; rw [take_get he, List.foldl_append]; rfl
    obtain ⟨hm, hl9⟩ := words_ok (l := tb.stops.take i) (fun z hz => hok z (List.mem_of_mem_take hz))
    have hl8 : (wordsT (tb.stops.take i)).length ≤ 1000 := by have := List.length_take_le' i tb.stops; omega
    have fin : ∀ (L : List Str) (g2 : Sl), L = addW (wordsT (tb.stops.take i)) e.2 → ∃ g2', ([.sh (tabD C_Table tb), .ow (.lst (L.map .str)), g2] : List Sl) = [.sh (tabD C_Table tb), .ow (.lst ((wordsT (tb.stops.take (i + 1))).map .str)), g2'] := fun L g2 h => ⟨g2, by rw [eT, h]⟩
    clear eT
    generalize wordsT (tb.stops.take i) = L at *
    have okl : okD (.lst (L.map .str)) = true := ok_strs hm
    have oke : okD (.str e.2) = true := hoke
    refine ⟨_, (a_n 2 sc_Table_words.nd), ?_⟩
    show S _ _ _ [_, _, _] _
    refine s_one (s_if (t_bor 1 rfl ?_))
    show VS.T _ _ [_, _, _] _ _
    refine t_cmp ?_
    refine e_ix ?_
    refine e_v 2 ?_
    refine e_int ?_
    first | refine wi_tup0 ?_ | refine wi_tup1 ?_ | refine wi_tup2 ?_ | refine wi_tup (by walk_at "sc") ?_ | refine wi_lst (by walk_at "sc") ?_ | refine wi_str (by walk_at "sc") (by walk_at "sc") ?_
    refine e_v 1 ?_
    first | refine w_notInS ?_ | refine w_notInD hr.u65 (by walk_at "ok") (by walk_at "ok") ?_
    refine ⟨_, rfl, ?_⟩
    rw [any_str]
    unfold addW at fin
    by_cases hin : e.2 ∈ L
    · refine ite_f (by rw [decide_eq_true hin]; rfl) ?_
      exact s_nil (fin _ _ (by rw [if_pos hin]))
    · refine ite_t (by rw [decide_eq_false hin]; rfl) ?_
      have hl7 : (L.map Dt.str).length < 100000 := by rw [List.length_map]; omega
      refine s_one (s_app 1 rfl rfl (by first | exact .inl rfl | exact .inr (.inl rfl) | exact .inr (.inr rfl)) (by walk_at "sc") ?_)
      refine e_ix ?_
      refine e_v 2 ?_
      refine e_int ?_
      first | refine wi_tup0 ?_ | refine wi_tup1 ?_ | refine wi_tup2 ?_ | refine wi_tup (by walk_at "sc") ?_ | refine wi_lst (by walk_at "sc") ?_ | refine wi_str (by walk_at "sc") (by walk_at "sc") ?_
      have e2 : L.map Dt.str ++ [Dt.str e.2] = (L ++ [e.2]).map Dt.str := by rw [List.map_append]; rfl
      rw [e2]
      exact fin _ _ (by rw [if_neg hin])
  · rintro G ⟨g2, rfl⟩
    rw [List.length_map, List.take_length]
    refine s_one (s_ret ?_)
    refine e_callTy (id := "tuple") (by rfl) m_tuple b_tuple ?_
    refine ea_cons ?_
    refine e_v 1 ?_
    refine ea_nil ?_
    first | refine wc_tuple_lst ?_ | refine wc_tuple_tup ?_
    exact hq

abbrev s_trim : Stmt := topS 13
abbrev N_trim : List Str := ["coefs", "size"]
theorem sc_trim : FnScope N_trim ["coefs"] (defScope s_trim) := ⟨rfl, rfl, rfl, by decide +kernel, rfl, by decide +kernel, by decide +kernel⟩
theorem ok_trim {f : Addr} {fd : FuncData} {k : Nat} {dvs : List V} {kws : List (Str × V)} (F : FD K "trim" "trim" s_trim dvs kws f fd) (m_len : mg "len" = none) (m_tuple : mg "tuple" = none) : FnOk P w K mg base (L2.CX P w) (k + 1) f fd ["coefs"] (spD K 1 ph_trim) := by
  refine fn_ok F sc_trim rfl fun X cdv A outer s H E ds q xd hX hr hph hl Fr wf xok => ?_
  subst hX
  obtain ⟨l, d, rfl, hd, hlen, hq⟩ := hph
  rcases hd with rfl | rfl
  · show S _ _ _ [_, _] _
    show S _ _ _ [_, _] _
    refine s_cons (s_a 1 sc_trim.nd ?_)
    refine e_callB (id := "len") (by rfl) m_len b_len ?_
    refine ea_cons ?_
    refine e_v 0 ?_
    refine ea_nil ?_
    first | refine wc_len_lst ?_ | refine wc_len_tup ?_ | refine wc_len_str (by walk_at "sc") ?_ | refine wc_lenc (fun hn63 => ?_)
    show S _ _ _ [_, _] _
    rw [List.length_map]
    refine s_cons (s_while (fun m G => ∃ s : Nat, m = s ∧ G = [_, .sh (.int (s : Int))] ∧ s ≤ l.length ∧ ∀ i, s ≤ i → cf l i = 0) l.length ⟨l.length, rfl, rfl, Nat.le_refl _, fun i hi => cf_ge hi⟩ (passes_of rfl) fun m G hI => ?_)
    obtain ⟨s', rfl, rfl, hs, hz⟩ := hI
    refine TW.t ?_
    refine' tw_andD ?ha33 (fun hb => ?hb33) ?hc33
    case ha33 =>
      refine t_cmp ?_
      refine e_v 1 ?_
      refine e_int ?_
      refine w_gt ?_
      refine ⟨_, rfl, ?_⟩
      exact rfl
    case hb33 =>
      refine tw_and1 ?_
      refine t_cmp ?_
      refine e_ix ?_
      refine e_v 0 ?_
      refine e_bin ?_
      refine e_v 1 ?_
      refine e_int ?_
      refine w_sub ?_
      (have hb' : (0 : Int) < (m : Int) := of_decide_eq_true hb; first | refine wi_lst (at_cf (j := m - 1) (by omega) (by omega)) ?_ | refine wi_tup (at_cf (j := m - 1) (by omega) (by omega)) ?_)
      refine e_int ?_
      first | refine w_eqI ?_ | refine w_eqT ?_ | refine w_eqB ?_ | refine w_eqD hr.units (by walk_at "ok") (by walk_at "ok") ?_
      refine ⟨_, rfl, ?_⟩
      exact rfl
    by_cases hc : 0 < m ∧ cf l (m - 1) = 0
    · refine ite_t (by rw [decide_eq_true (show (0 : Int) < (m : Int) by omega), decide_eq_true hc.2]; rfl) ?_
      have e : (m : Int) - 1 = ((m - 1 : Nat) : Int) := by omega
      refine s_one (s_a 1 sc_trim.nd ?_)
      refine e_bin ?_
      refine e_v 1 ?_
      refine e_int ?_
      refine w_sub ?_
      rw [e]
      refine ⟨m - 1, by omega, m - 1, rfl, rfl, by omega, fun i hi => ?_⟩
      by_cases hi2 : i = m - 1
      · rw [hi2]; exact hc.2
      · exact hz i (by omega)
    · refine ite_f ?_ ?_
      · by_cases h0 : 0 < m
        · rw [decide_eq_false (show ¬ cf l (m - 1) = 0 from fun z => hc ⟨h0, z⟩), Bool.and_false]
        · rw [decide_eq_false (show ¬ (0 : Int) < (m : Int) by omega), Bool.false_and]
      · have et : (l.map Dt.int).take m = (trimL l).map Dt.int := by
          rw [← List.map_take, take_trim hs hz]
          by_cases h0 : 0 < m
          · exact .inr fun z => hc ⟨h0, z⟩
          · exact .inl (by omega)
        refine s_cons (s_ret ?_)
        refine e_callTy (id := "tuple") (by rfl) m_tuple b_tuple ?_
        refine ea_cons ?_
        refine e_slice ?_
        refine e_v 0 ?_
        refine eo_none ?_
        refine eo_some ?_
        refine e_v 1 ?_
        refine ⟨_, rfl, ?_⟩
        first | refine wsl_lst ?_ | refine wsl_tup ?_ | refine wsl_str (by walk_at "sc") ?_
        refine ea_nil ?_
        first | refine wc_tuple_lst ?_ | refine wc_tuple_tup ?_
        rw [cut_to (by rw [List.length_map]; exact hs), et]
        exact hq
  · show S _ _ _ [_, _] _
    show S _ _ _ [_, _] _
    refine s_cons (s_a 1 sc_trim.nd ?_)
    refine e_callB (id := "len") (by rfl) m_len b_len ?_
    refine ea_cons ?_
    refine e_v 0 ?_
    refine ea_nil ?_
    first | refine wc_len_lst ?_ | refine wc_len_tup ?_ | refine wc_len_str (by walk_at "sc") ?_ | refine wc_lenc (fun hn63 => ?_)
    show S _ _ _ [_, _] _
    rw [List.length_map]
    refine s_cons (s_while (fun m G => ∃ s : Nat, m = s ∧ G = [_, .sh (.int (s : Int))] ∧ s ≤ l.length ∧ ∀ i, s ≤ i → cf l i = 0) l.length ⟨l.length, rfl, rfl, Nat.le_refl _, fun i hi => cf_ge hi⟩ (passes_of rfl) fun m G hI => ?_)
    obtain ⟨s', rfl, rfl, hs, hz⟩ := hI
    refine TW.t ?_
    refine' tw_andD ?ha34 (fun hb => ?hb34) ?hc34
    case ha34 =>
      refine t_cmp ?_
      refine e_v 1 ?_
      refine e_int ?_
      refine w_gt ?_
      refine ⟨_, rfl, ?_⟩
      exact rfl
    case hb34 =>
      refine tw_and1 ?_
      refine t_cmp ?_
      refine e_ix ?_
      refine e_v 0 ?_
      refine e_bin ?_
      refine e_v 1 ?_
      refine e_int ?_
      refine w_sub ?_
      (have hb' : (0 : Int) < (m : Int) := of_decide_eq_true hb; first | refine wi_lst (at_cf (j := m - 1) (by omega) (by omega)) ?_ | refine wi_tup (at_cf (j := m - 1) (by omega) (by omega)) ?_)
      refine e_int ?_
      first | refine w_eqI ?_ | refine w_eqT ?_ | refine w_eqB ?_ | refine w_eqD hr.units (by walk_at "ok") (by walk_at "ok") ?_
      refine ⟨_, rfl, ?_⟩
      exact rfl
    by_cases hc : 0 < m ∧ cf l (m - 1) = 0
    · refine ite_t (by rw [decide_eq_true (show (0 : Int) < (m : Int) by omega), decide_eq_true hc.2]; rfl) ?_
      have e : (m : Int) - 1 = ((m - 1 : Nat) : Int) := by omega
      refine s_one (s_a 1 sc_trim.nd ?_)
      refine e_bin ?_
      refine e_v 1 ?_
      refine e_int ?_
      refine w_sub ?_
      rw [e]
      refine ⟨m - 1, by omega, m - 1, rfl, rfl, by omega, fun i hi => ?_⟩
      by_cases hi2 : i = m - 1
      · rw [hi2]; exact hc.2
      · exact hz i (by omega)
    · refine ite_f ?_ ?_
      · by_cases h0 : 0 < m
        · rw [decide_eq_false (show ¬ cf l (m - 1) = 0 from fun z => hc ⟨h0, z⟩), Bool.and_false]
        · rw [decide_eq_false (show ¬ (0 : Int) < (m : Int) by omega), Bool.false_and]
      · have et : (l.map Dt.int).take m = (trimL l).map Dt.int := by
          rw [← List.map_take, take_trim hs hz]
          by_cases h0 : 0 < m
          · exact .inr fun z => hc ⟨h0, z⟩
          · exact .inl (by omega)
        refine s_cons (s_ret ?_)
        refine e_callTy (id := "tuple") (by rfl) m_tuple b_tuple ?_
        refine ea_cons ?_
        refine e_slice ?_
        refine e_v 0 ?_
        refine eo_none ?_
        refine eo_some ?_
        refine e_v 1 ?_
        refine ⟨_, rfl, ?_⟩
        first | refine wsl_lst ?_ | refine wsl_tup ?_ | refine wsl_str (by walk_at "sc") ?_
        refine ea_nil ?_
        first | refine wc_tuple_lst ?_ | refine wc_tuple_tup ?_
        rw [cut_to (by rw [List.length_map]; exact hs), et]
        exact hq

abbrev s_padded : Stmt := topS 14
abbrev N_padded : List Str := ["coefs", "size"]
theorem sc_padded : FnScope N_padded ["coefs", "size"] (defScope s_padded) := ⟨rfl, rfl, rfl, by decide +kernel, rfl, by decide +kernel, by decide +kernel⟩
theorem ok_padded {f : Addr} {fd : FuncData} {k : Nat} {dvs : List V} {kws : List (Str × V)} (F : FD K "padded" "padded" s_padded dvs kws f fd) (m_len : mg "len" = none) (m_tuple : mg "tuple" = none) : FnOk P w K mg base (L2.CX P w) (k + 1) f fd ["coefs", "size"] (spD K 2 ph_padded) := by
  refine fn_ok F sc_padded rfl fun X cdv A outer s H E ds q xd hX hr hph hl Fr wf xok => ?_
  subst hX
  obtain ⟨l, n, rfl, ⟨hlen, hn, hn2⟩, hq⟩ := hph
  show S _ _ _ [_, _] _
  show S _ _ _ [.sh (.tup (l.map .int)), .sh (.int n)] _
  have h1 : ([Dt.int 0] : List Dt) ≠ [] ∧ ([Dt.int 0] : List Dt).length ≤ 1000 ∧ -(2 ^ 62) ≤ n - ((l.map Dt.int).length : Int) ∧ n - ((l.map Dt.int).length : Int) ≤ 1000 := ⟨by simp, by decide, by rw [List.length_map]; omega, by rw [List.length_map]; omega⟩
  have h2 : (l.map Dt.int).length + ((List.replicate (n - ((l.map Dt.int).length : Int)).toNat [Dt.int 0]).flatten).length ≤ 100000 := by rw [rep_ints, List.length_map, List.length_map, List.length_replicate]; omega
  refine s_cons (s_ret ?_)
  refine e_bin ?_
  refine e_callTy (id := "tuple") (by rfl) m_tuple b_tuple ?_
  refine ea_cons ?_
  refine e_v 0 ?_
  refine ea_nil ?_
  first | refine wc_tuple_lst ?_ | refine wc_tuple_tup ?_
  refine e_bin ?_
  refine e_tup ?_
  refine ea_cons ?_
  refine e_int ?_
  refine ea_nil ?_
  refine ⟨Nat.le_of_ble_eq_true rfl, ?_⟩
  refine e_bin ?_
  refine e_v 1 ?_
  refine e_callB (id := "len") (by rfl) m_len b_len ?_
  refine ea_cons ?_
  refine e_v 0 ?_
  refine ea_nil ?_
  first | refine wc_len_lst ?_ | refine wc_len_tup ?_ | refine wc_len_str (by walk_at "sc") ?_ | refine wc_lenc (fun hn63 => ?_)
  refine w_sub ?_
  refine w_repT h1 ?_
  refine w_catT h2 ?_
  rw [rep_ints, ← List.map_append, List.length_map]
  exact hq

abbrev s_plus : Stmt := topS 15
abbrev N_plus : List Str := ["first", "second", "size", "x", "y"]
theorem sc_plus : FnScope N_plus ["first", "second"] (defScope s_plus) := ⟨rfl, rfl, rfl, by decide +kernel, rfl, by decide +kernel, by decide +kernel⟩
theorem ok_plus {f : Addr} {fd : FuncData} {k : Nat} {dvs : List V} {kws : List (Str × V)} (F : FD K "plus" "plus" s_plus dvs kws f fd) (m_len : mg "len" = none) (m_max : mg "max" = none) (m_zip : mg "zip" = none) (c_trim : Fn P w K mg base k "trim" ["coefs"] [] (spD K 1 ph_trim)) (c_padded : Fn P w K mg base k "padded" ["coefs", "size"] [] (spD K 2 ph_padded)) : FnOk P w K mg base (L2.CX P w) (k + 1) f fd ["first", "second"] (spD K 2 ph_plus) := by
  refine fn_ok F sc_plus rfl fun X cdv A outer s H E ds q xd hX hr hph hl Fr wf xok => ?_
  subst hX
  obtain ⟨a, b, rfl, ⟨ha, hb⟩, hq⟩ := hph
  show S _ _ _ [_, _, _, _, _] _
  show S _ _ _ [.sh (.tup (a.map .int)), .sh (.tup (b.map .int)), _, _, _] _
  refine s_cons (s_a 2 sc_plus.nd ?_)
  refine e_callB (id := "max") (by rfl) m_max b_max ?_
  refine ea_cons ?_
  refine e_callB (id := "len") (by rfl) m_len b_len ?_
  refine ea_cons ?_
  refine e_v 0 ?_
  refine ea_nil ?_
  first | refine wc_len_lst ?_ | refine wc_len_tup ?_ | refine wc_len_str (by walk_at "sc") ?_ | refine wc_lenc (fun hn63 => ?_)
  refine ea_cons ?_
  refine e_callB (id := "len") (by rfl) m_len b_len ?_
  refine ea_cons ?_
  refine e_v 1 ?_
  refine ea_nil ?_
  first | refine wc_len_lst ?_ | refine wc_len_tup ?_ | refine wc_len_str (by walk_at "sc") ?_ | refine wc_lenc (fun hn63 => ?_)
  refine ea_nil ?_
  refine wc_max rfl ?_
  show S _ _ _ [_, _, _, _, _] _
  rw [List.length_map, List.length_map, show max (a.length : Int) (b.length : Int) = ((max a.length b.length : Nat) : Int) by omega]
  generalize hn : max a.length b.length = n
  have pa : a.length ≤ 50000 ∧ (n : Int) ≤ 1000 ∧ -1000 ≤ (n : Int) := by omega
  have pb : b.length ≤ 50000 ∧ (n : Int) ≤ 1000 ∧ -1000 ≤ (n : Int) := by omega
  have la : (padL a (n : Int)).length = n := pad_len (by omega)
  have lb : (padL b (n : Int)).length = n := pad_len (by omega)
  have e : trimL (((padL a (n : Int)).zip (padL b (n : Int))).map fun p => p.1 + p.2) = trimL (addL a b) := trim_ext fun i => by rw [cf_zip _ _ (by rw [la, lb]), cf_pad, cf_pad, cf_add]
  have lz : (((padL a (n : Int)).zip (padL b (n : Int))).map fun p => p.1 + p.2).length ≤ 100000 := by rw [List.length_map, List.length_zip]; omega
  refine s_cons (s_ret ?_)
  refine e_call (dds := []) c_trim hr (by rfl) (fun _ => .nil) ?_
  refine ea_cons ?_
  refine e_lc (own := [("x", 3), ("y", 4)]) rfl sc_plus.nd (blkOk_by (N := N_plus) (sc := defScope s_plus) (by decide +kernel)) ?_
  refine i_zip (by rfl) m_zip ?_
  refine ea_cons ?_
  refine e_call (dds := []) c_padded hr (by rfl) (fun _ => .nil) ?_
  refine ea_cons ?_
  refine e_v 0 ?_
  refine ea_cons ?_
  refine e_v 2 ?_
  refine ea_nil ?_
  refine ⟨rfl, ?_⟩
  refine u_padded pa ?_
  refine ea_cons ?_
  refine e_call (dds := []) c_padded hr (by rfl) (fun _ => .nil) ?_
  refine ea_cons ?_
  refine e_v 1 ?_
  refine ea_cons ?_
  refine e_v 2 ?_
  refine ea_nil ?_
  refine ⟨rfl, ?_⟩
  refine u_padded pb ?_
  refine ea_nil ?_
  first | refine ⟨_, _, .inl rfl, ?_⟩ | refine ⟨_, _, .inr rfl, ?_⟩
  rw [zip_ints]
  refine' ⟨?lcl35, _, lc_of ((padL a (n : Int)).zip (padL b (n : Int))) (fun p => .tup [.int p.1, .int p.2]) (fun p => .int (p.1 + p.2)) (fun p => [(3, .int p.1), (4, .int p.2)]) ?lct35 ?lcm35 ?lce35, ?lcc35⟩
  case lcl35 =>
    rw [List.length_map, List.length_zip]; omega
  case lct35 =>
    rintro t ht Y ⟨s', H', C, cl, fp, rfl⟩
    exact (a_tup rfl (as_cons (a_n 3 sc_plus.nd) (as_cons (a_n 4 sc_plus.nd) as_nil)))
  case lcm35 =>
    intro t p hp
    simp at hp
    rcases hp with hp | hp <;> simp [hp]
  case lce35 =>
    rintro t ht Y ⟨s', H', C, cl, fp, rfl⟩
    refine e_bin ?_
    refine e_v 3 ?_
    refine e_v 4 ?_
    first | refine w_add ?_ | refine w_catT (by walk_at "sc") ?_ | refine w_addS (by walk_at "sc") ?_ | refine w_catL (by walk_at "sc") ?_
    rfl
  rintro acc rfl
  rw [take_map_all]
  rw [map_int (fun p : Int × Int => p.1 + p.2)]
  refine ea_nil ?_
  refine ⟨rfl, ?_⟩
  refine u_trim lz ?_
  rw [e]
  exact hq

abbrev s_scaled : Stmt := topS 16
abbrev N_scaled : List Str := ["coefs", "factor", "x"]
theorem sc_scaled : FnScope N_scaled ["coefs", "factor"] (defScope s_scaled) := ⟨rfl, rfl, rfl, by decide +kernel, rfl, by decide +kernel, by decide +kernel⟩
theorem ok_scaled {f : Addr} {fd : FuncData} {k : Nat} {dvs : List V} {kws : List (Str × V)} (F : FD K "scaled" "scaled" s_scaled dvs kws f fd) (c_trim : Fn P w K mg base k "trim" ["coefs"] [] (spD K 1 ph_trim)) : FnOk P w K mg base (L2.CX P w) (k + 1) f fd ["coefs", "factor"] (spD K 2 ph_scaled) := by
  refine fn_ok F sc_scaled rfl fun X cdv A outer s H E ds q xd hX hr hph hl Fr wf xok => ?_
  subst hX
  obtain ⟨l, c, B, C, rfl, ⟨ha, hs, hc, hBC⟩, hq⟩ := hph
  have ll : (scL c l).length ≤ 100000 := by rw [len_sc]; omega
  show S _ _ _ [_, _, _] _
  show S _ _ _ [.sh (.tup (l.map .int)), .sh (.int c), .no] _
  refine s_cons (s_ret ?_)
  refine e_call (dds := []) c_trim hr (by rfl) (fun _ => .nil) ?_
  refine ea_cons ?_
  refine e_lc (own := [("x", 2)]) rfl sc_scaled.nd (blkOk_by (N := N_scaled) (sc := defScope s_scaled) (by decide +kernel)) ?_
  refine i_tup ?_
  refine e_v 0 ?_
  refine ⟨_, rfl, ?_⟩
  refine' ⟨?lcl36, _, lc_of (l) (Dt.int) (fun x => .int (c * x)) (fun x => [(2, .int x)]) ?lct36 ?lcm36 ?lce36, ?lcc36⟩
  case lcl36 =>
    rw [List.length_map]; omega
  case lct36 =>
    rintro t ht Y ⟨s', H', C, cl, fp, rfl⟩
    exact (a_n 2 sc_scaled.nd)
  case lcm36 =>
    intro t p hp
    simp at hp
    simp [hp]
  case lce36 =>
    rintro t ht Y ⟨s', H', C, cl, fp, rfl⟩
    have hm : CMulW c t := mulOk hc (hs t ht) hBC
    refine e_bin ?_
    refine e_v 1 ?_
    refine e_v 2 ?_
    first | refine w_mulS (.inr ⟨by decide, by decide⟩) ?_ | refine w_mulS (.inl ⟨by decide, by decide⟩) ?_ | refine w_mul (by walk_at "sc") ?_ | refine w_repT (by walk_at "sc") ?_ | refine w_repL (by walk_at "sc") ?_
    rfl
  rintro acc rfl
  rw [take_map_all]
  rw [map_int (fun x => c * x)]
  refine ea_nil ?_
  refine ⟨rfl, ?_⟩
  refine u_trim ll ?_
  exact hq

abbrev s_choose : Stmt := topS 25
abbrev N_choose : List Str := ["many", "some", "result", "k"]
theorem sc_choose : FnScope N_choose ["many", "some"] (defScope s_choose) := ⟨rfl, rfl, rfl, by decide +kernel, rfl, by decide +kernel, by decide +kernel⟩
theorem ok_choose {f : Addr} {fd : FuncData} {k : Nat} {dvs : List V} {kws : List (Str × V)} (F : FD K "choose" "choose" s_choose dvs kws f fd) (m_range : mg "range" = none) : FnOk P w K mg base (L2.CX P w) (k + 1) f fd ["many", "some"] (spD K 2 ph_choose) := by
  refine fn_ok F sc_choose rfl fun X cdv A outer s H E ds q xd hX hr hph hl Fr wf xok => ?_
  subst hX
  obtain ⟨n, k, rfl, ⟨hk, hn⟩, hq⟩ := hph
  show S _ _ _ [_, _, _, _] _
  show S _ _ _ [.sh (.int (n : Int)), .sh (.int (k : Int)), .no, .no] _
  refine s_cons (s_a 2 sc_choose.nd ?_)
  refine e_int ?_
  show S _ _ _ [_, _, _, _] _
  refine s_cons (s_for (passes_of rfl) rfl ?_)
  refine i_range1 (by rfl) m_range ?_
  refine ea_cons ?_
  refine e_v 1 ?_
  refine ea_nil ?_
  refine ⟨_, rfl, by walk_at "sc", by walk_at "sc", ?_⟩
  rw [rangeD_nat]
  refine ⟨fun i G => ∃ g, G = [.sh (.int (n : Int)), .sh (.int (k : Int)), .sh (.int (bin n i : Int)), g] ∧ i ≤ k, ⟨_, by rw [bin_0]; rfl, Nat.zero_le _⟩, ?_, ?_⟩
  · rintro i d G hd ⟨g, rfl, hi⟩
    obtain ⟨i', hi0, rfl⟩ := get_map hd
    obtain ⟨hi2, rfl⟩ := range_get hi0
    have hb := bin_le n i'
    have hz : ((bin n i' : Nat) : Int).natAbs < 2 ^ (n + 1) := by rw [Int.natAbs_natCast, Nat.pow_succ]; have := Nat.two_pow_pos n; omega
    have hm : CMulW (bin n i' : Int) ((n : Int) - (i' : Int)) := mulOk (b := 11) hz (by omega) (by omega)
    have hd1 : CDivA ((bin n i' : Int) * ((n : Int) - (i' : Int))) ((i' : Int) + 1) := ⟨by omega, by have := Nat.log2_le_self ((i' : Int) + 1).natAbs; omega⟩
    refine ⟨_, (a_n 3 sc_choose.nd), ?_⟩
    show S _ _ _ [_, _, _, _] _
    refine s_one (s_a 2 sc_choose.nd ?_)
    refine e_bin ?_
    refine e_bin ?_
    refine e_v 2 ?_
    refine e_bin ?_
    refine e_v 0 ?_
    refine e_v 3 ?_
    refine w_sub ?_
    first | refine w_mulS (.inr ⟨by decide, by decide⟩) ?_ | refine w_mulS (.inl ⟨by decide, by decide⟩) ?_ | refine w_mul (by walk_at "sc") ?_ | refine w_repT (by walk_at "sc") ?_ | refine w_repL (by walk_at "sc") ?_
    refine e_bin ?_
    refine e_v 3 ?_
    refine e_int ?_
    first | refine w_add ?_ | refine w_catT (by walk_at "sc") ?_ | refine w_addS (by walk_at "sc") ?_ | refine w_catL (by walk_at "sc") ?_
    refine w_divA hd1 ?_
    refine ⟨.sh (.int (i' : Int)), ?_, hi2⟩
    rw [bin_div]
    rfl
  · rintro G ⟨g, rfl, hi⟩
    rw [List.length_map, List.length_range]
    refine s_cons (s_ret ?_)
    refine e_v 2 ?_
    exact hq

abbrev s_path_coefs : Stmt := topS 26
abbrev N_path_coefs : List Str := ["wins", "losses", "signed", "k"]
theorem sc_path_coefs : FnScope N_path_coefs ["wins", "losses"] (defScope s_path_coefs) := ⟨rfl, rfl, rfl, by decide +kernel, rfl, by decide +kernel, by decide +kernel⟩
theorem ok_path_coefs {f : Addr} {fd : FuncData} {k : Nat} {dvs : List V} {kws : List (Str × V)} (F : FD K "path_coefs" "path_coefs" s_path_coefs dvs kws f fd) (m_range : mg "range" = none) (m_tuple : mg "tuple" = none) (c_choose : Fn P w K mg base k "choose" ["many", "some"] [] (spD K 2 ph_choose)) : FnOk P w K mg base (L2.CX P w) (k + 1) f fd ["wins", "losses"] (spD K 2 ph_path_coefs) := by
  refine fn_ok F sc_path_coefs rfl fun X cdv A outer s H E ds q xd hX hr hph hl Fr wf xok => ?_
  subst hX
  obtain ⟨w, l, rfl, ⟨hw, hl⟩, hq⟩ := hph
  show S _ _ _ [_, _, _, _] _
  show S _ _ _ [.sh (.int (w : Int)), .sh (.int (l : Int)), .no, .no] _
  have rr : (l : Int) + 1 = ((l + 1 : Nat) : Int) := by omega
  refine s_cons (s_lc 2 (own := [("k", 3)]) rfl sc_path_coefs.nd rfl rfl (sw_true rfl rfl rfl (by decide +kernel)) (blkOk_by (N := N_path_coefs) (sc := defScope s_path_coefs) (by decide +kernel)) ?_)
  refine i_range1 (by rfl) m_range ?_
  refine ea_cons ?_
  refine e_bin ?_
  refine e_v 1 ?_
  refine e_int ?_
  first | refine w_add ?_ | refine w_catT (by walk_at "sc") ?_ | refine w_addS (by walk_at "sc") ?_ | refine w_catL (by walk_at "sc") ?_
  refine ea_nil ?_
  refine ⟨_, rfl, by walk_at "sc", by walk_at "sc", ?_⟩
  rw [rr, rangeD_nat]
  refine' ⟨?lcl37, _, lc_of (List.range (l + 1)) (fun i => Dt.int (i : Nat)) (fun i => .int ((bin l i : Int) * sg i)) (fun i => [(3, Dt.int (i : Nat))]) ?lct37 ?lcm37 ?lce37, ?lcc37⟩
  case lcl37 =>
    rw [List.length_map, List.length_range]; omega
  case lct37 =>
    rintro t ht Y ⟨s', H', C, cl, fp, rfl⟩
    exact (a_n 3 sc_path_coefs.nd)
  case lcm37 =>
    intro t p hp
    simp at hp
    simp [hp]
  case lce37 =>
    rintro t ht Y ⟨s', H', C, cl, fp, rfl⟩
    have hi := List.mem_range.mp ht
    have pc : t ≤ l ∧ l ≤ 1000 := ⟨by omega, hl⟩
    have hz : ((bin l t : Nat) : Int).natAbs < 2 ^ (l + 1) := by rw [Int.natAbs_natCast, Nat.pow_succ]; have := Nat.two_pow_pos l; have := bin_le l t; omega
    have hm : CMulW (bin l t : Int) (1 - 2 * ((t : Int) % 2)) := mulOk (b := 2) hz (show (sg t).natAbs < 2 ^ 2 by rcases sg_abs t with h | h <;> rw [h] <;> decide) (by omega)
    refine e_bin ?_
    refine e_call (dds := []) c_choose hr (by rfl) (fun _ => .nil) ?_
    refine ea_cons ?_
    refine e_v 1 ?_
    refine ea_cons ?_
    refine e_v 3 ?_
    refine ea_nil ?_
    refine ⟨rfl, ?_⟩
    refine u_choose pc ?_
    refine e_bin ?_
    refine e_int ?_
    refine e_bin ?_
    refine e_int ?_
    refine e_bin ?_
    refine e_v 3 ?_
    refine e_int ?_
    first | refine w_mod (by decide) ?_ | refine w_mod (by walk_at "sc") ?_ | refine w_modN (by walk_at "sc") ?_
    first | refine w_mulS (.inr ⟨by decide, by decide⟩) ?_ | refine w_mulS (.inl ⟨by decide, by decide⟩) ?_ | refine w_mul (by walk_at "sc") ?_ | refine w_repT (by walk_at "sc") ?_ | refine w_repL (by walk_at "sc") ?_
    refine w_sub ?_
    first | refine w_mulS (.inr ⟨by decide, by decide⟩) ?_ | refine w_mulS (.inl ⟨by decide, by decide⟩) ?_ | refine w_mul (by walk_at "sc") ?_ | refine w_repT (by walk_at "sc") ?_ | refine w_repL (by walk_at "sc") ?_
    rfl
  rintro acc rfl
  rw [take_map_all]
  rw [map_int (fun i : Nat => (bin l i : Int) * sg i)]
  have hw4 : [Dt.int 0] ≠ [] ∧ [Dt.int 0].length ≤ 1000 ∧ -(2 ^ 62) ≤ (w : Int) ∧ (w : Int) ≤ 1000 := ⟨List.cons_ne_nil _ _, by decide, by omega, by omega⟩
  have hlc : (List.replicate (w : Int).toNat [Dt.int 0]).flatten.length + (((List.range (l + 1)).map fun i : Nat => (bin l i : Int) * sg i).map Dt.int).length ≤ 100000 := by rw [rep_ints]; simp; omega
  refine s_cons (s_ret ?_)
  refine e_bin ?_
  refine e_bin ?_
  refine e_tup ?_
  refine ea_cons ?_
  refine e_int ?_
  refine ea_nil ?_
  refine ⟨Nat.le_of_ble_eq_true rfl, ?_⟩
  refine e_v 0 ?_
  refine w_repT hw4 ?_
  refine e_callTy (id := "tuple") (by rfl) m_tuple b_tuple ?_
  refine ea_cons ?_
  refine e_v 2 ?_
  refine ea_nil ?_
  first | refine wc_tuple_lst ?_ | refine wc_tuple_tup ?_
  refine w_catT hlc ?_
  rw [Int.toNat_natCast, rep_ints, ← List.map_append]
  exact hq

abbrev s_Poly___init__ : Stmt := inClass (topS 35) 0
abbrev N_Poly___init__ : List Str := ["self", "coefs"]
theorem sc_Poly___init__ : FnScope N_Poly___init__ ["self", "coefs"] (defScope s_Poly___init__) := ⟨rfl, rfl, rfl, by decide +kernel, rfl, by decide +kernel, by decide +kernel⟩
theorem ok_Poly___init__ {f : Addr} {fd : FuncData} {k : Nat} {kws : List (Str × V)} {C_Poly : Addr} (F : FD K "__init__" "Poly.__init__" s_Poly___init__ [] kws f fd) (c_trim : Fn P w K mg base k "trim" ["coefs"] [] (spD K 1 ph_trim)) (pc_Poly : PolyC K C_Poly) : FnR P w K mg base (L2.CX P w) (k + 1) f (spIniS K C_Poly (ph_Poly___init__ C_Poly)) := by
  refine iniS_ok F sc_Poly___init__ (fun _ _ _ _ _ _ _ rest => by cases rest <;> rfl) fun X cdv A outer s H E a ds q xd hX hr hph hl => ?_
  subst hX
  obtain ⟨l, rfl, hlen, hq⟩ := hph
  show S _ _ _ [.ow (.at_ a (.obj C_Poly [] [])), .sh (.tup (l.map .int))] _
  refine s_one (s_fldO 0 rfl rfl (by first | exact .inl rfl | exact .inr (.inl rfl) | exact .inr (.inr rfl)) pc_Poly.cl pc_Poly.na_coefs (by decide) ?_)
  refine e_call (dds := []) c_trim hr (by rfl) (fun _ => .nil) ?_
  refine ea_cons ?_
  refine e_v 1 ?_
  refine ea_nil ?_
  refine ⟨rfl, ?_⟩
  refine u_trimT hlen ?_
  exact ⟨_, _, rfl, hq⟩

abbrev s_Table_ways : Stmt := inClass (topS 47) 6
abbrev N_Table_ways : List Str := ["self", "wins", "losses"]
theorem sc_Table_ways : FnScope N_Table_ways ["self", "wins", "losses"] (defScope s_Table_ways) := ⟨rfl, rfl, rfl, by decide +kernel, rfl, by decide +kernel, by decide +kernel⟩
theorem ok_Table_ways {f : Addr} {fd : FuncData} {k : Nat} {dvs : List V} {kws : List (Str × V)} {C_Table : Addr} (F : FD K "ways" "Table.ways" s_Table_ways dvs kws f fd) (pc_Table : TableC K C_Table) : FnOk P w K mg base (L2.CX P w) (k + 1) f fd ["self", "wins", "losses"] (spD K 3 (ph_Table_ways C_Table)) := by
  refine fn_ok F sc_Table_ways rfl fun X cdv A outer s H E ds q xd hX hr hph hl Fr wf xok => ?_
  subst hX
  obtain ⟨T, wi, lo, rfl, hq⟩ := hph
  show S _ _ _ [_, _, _] _
  refine s_one (s_ret ?_)
  refine e_dget2A hr.u1 ?_
  refine e_fld ?_
  refine e_v 0 ?_
  refine ⟨_, _, _, _, rfl, pc_Table.cl, pc_Table.na_reached, rfl, ?_⟩
  refine ⟨_, rfl, ?_⟩
  refine e_kk ?_
  refine ea_cons ?_
  refine e_v 1 ?_
  refine ea_cons ?_
  refine e_v 2 ?_
  refine ea_nil ?_
  refine ⟨(_, _), rfl, ?_⟩
  refine ⟨_, rfl, ?_⟩
  refine e_int ?_
  refine ⟨_, rfl, ?_⟩
  exact hq

abbrev s_Table_chance : Stmt := inClass (topS 47) 10
abbrev N_Table_chance : List Str := ["self", "word", "total", "wins", "losses", "said"]
theorem sc_Table_chance : FnScope N_Table_chance ["self", "word"] (defScope s_Table_chance) := ⟨rfl, rfl, rfl, by decide +kernel, rfl, by decide +kernel, by decide +kernel⟩
theorem ok_Table_chance {f : Addr} {fd : FuncData} {k : Nat} {dvs : List V} {kws : List (Str × V)} {C_Poly : Addr} {C_Table : Addr} (F : FD K "chance" "Table.chance" s_Table_chance dvs kws f fd) (c_plus : Fn P w K mg base k "plus" ["first", "second"] [] (spD K 2 ph_plus)) (c_scaled : Fn P w K mg base k "scaled" ["coefs", "factor"] [] (spD K 2 ph_scaled)) (c_path_coefs : Fn P w K mg base k "path_coefs" ["wins", "losses"] [] (spD K 2 ph_path_coefs)) (g_Poly : mg "Poly" = some (.ref C_Poly)) (c_Poly : FnS P w K mg base k "Poly" (ph_Poly___init__ C_Poly)) (c_Table_ways : FnM P w K mg base k C_Table "ways" ["self", "wins", "losses"] [] (spD K 3 (ph_Table_ways C_Table))) (pc_Table : TableC K C_Table) : FnOk P w K mg base (L2.CX P w) (k + 1) f fd ["self", "word"] (spD K 2 (ph_Table_chance C_Table C_Poly)) := by
  refine fn_ok F sc_Table_chance rfl fun X cdv A outer s H E ds q xd hX hr hph hl Fr wf xok => ?_
  subst hX
  obtain ⟨tb, wd, rfl, ok, hq⟩ := hph
  show S _ _ _ [_, _, _, _, _, _] _
  refine s_cons (s_a 2 sc_Table_chance.nd ?_)
  refine e_tup ?_
  refine ea_nil ?_
  refine ⟨Nat.le_of_ble_eq_true rfl, ?_⟩
  show S _ _ _ [_, _, _, _, _, _] _
  show S _ _ _ [.sh (tabD C_Table tb), .sh (.str wd), .sh (.tup []), .no, .no, .no] _
  refine s_cons (s_for (passes_of rfl) rfl ?_)
  refine i_lst ?_
  refine e_fld ?_
  refine e_v 0 ?_
  refine ⟨_, _, _, _, rfl, pc_Table.cl, pc_Table.na_stops, rfl, ?_⟩
  refine ⟨_, rfl, ?_⟩
  refine ⟨fun i G => ∃ g3 g4 g5, G = [.sh (tabD C_Table tb), .sh (.str wd), .sh (iT (accP (wayF tb) (sayN tb.stops wd i))), g3, g4, g5], ⟨_, _, _, rfl⟩, ?_, ?_⟩
  · rintro i d G hd ⟨g3, g4, g5, rfl⟩
    rw [List.getElem?_map] at hd
    obtain ⟨⟨c, sd⟩, he, rfl⟩ : ∃ e, tb.stops[i]? = some e ∧ stD e = d := by
      cases z : tb.stops[i]? with
      | none => rw [z] at hd; cases hd
      | some e => rw [z] at hd; cases hd; exact ⟨e, rfl, rfl⟩
    obtain ⟨c0, c1, c2, w0, w1⟩ := ok.stops _ (List.mem_of_getElem? he)
    have eT := sayN_succ wd he
    have hln : (accP (wayF tb) (sayN tb.stops wd i)).length ≤ 31 := accP_len (N := 30) _ fun x hx => by
      obtain ⟨e, he2, rfl⟩ := List.mem_map.mp hx
      have := ok.stops e (List.mem_of_mem_take (List.mem_filter.mp he2).1)
      exact ⟨this.1, this.2.1, this.2.2.1⟩
    have fin : ∀ (L : List Int) (g3 g4 g5 : Sl), L = accP (wayF tb) (sayN tb.stops wd i ++ if sd = wd then [c] else []) → ∃ g3' g4' g5', ([.sh (tabD C_Table tb), .sh (.str wd), .sh (iT L), g3, g4, g5] : List Sl) = [.sh (tabD C_Table tb), .sh (.str wd), .sh (iT (accP (wayF tb) (sayN tb.stops wd (i + 1)))), g3', g4', g5'] := fun L g3 g4 g5 h => ⟨g3, g4, g5, by rw [eT, h]⟩
    clear eT
    have fin0 := fin (accP (wayF tb) (sayN tb.stops wd i))
    have fin1 := fin (accS (wayF tb) (accP (wayF tb) (sayN tb.stops wd i)) c)
    generalize eM : accP (wayF tb) (sayN tb.stops wd i) = M at *
    obtain ⟨a, b, rfl⟩ := end_nat c0 c1
    have c2' : (a : Int) + b ≤ 30 := c2
    refine ⟨_, (a_tup rfl (as_cons (a_n 3 sc_Table_chance.nd) (as_cons (a_n 4 sc_Table_chance.nd) (as_cons (a_n 5 sc_Table_chance.nd) as_nil)))), ?_⟩
    show S _ _ _ [_, _, _, _, _, _] _
    refine s_one (s_if ?_)
    refine t_cmp ?_
    refine e_v 5 ?_
    refine e_v 1 ?_
    first | refine w_eqI ?_ | refine w_eqT ?_ | refine w_eqB ?_ | refine w_eqD hr.units (by walk_at "ok") (by walk_at "ok") ?_
    refine ⟨_, rfl, ?_⟩
    by_cases hw : sd = wd
    · refine ite_t (by simpa using hw) ?_
      have hpc : a ≤ 1000 ∧ b ≤ 1000 := by omega
      have hsc : (pathL a b).length ≤ 900 ∧ SzL (b + 1) (pathL a b) ∧ ((lk tb.reached ((a : Int), (b : Int))).getD 0).natAbs < 2 ^ 31 ∧ 31 + (b + 1) ≤ 900000 := ⟨by rw [len_path]; omega, sz_path a b, way_lt w0 w1, by omega⟩
      have hpl : M.length ≤ 900 ∧ (trimL (scL ((lk tb.reached ((a : Int), (b : Int))).getD 0) (pathL a b))).length ≤ 900 := ⟨by omega, Nat.le_trans (trim_len _) (by unfold scL; rw [List.length_map, len_path]; omega)⟩
      refine s_one (s_a 2 sc_Table_chance.nd ?_)
      refine e_call (dds := []) c_plus hr (by rfl) (fun _ => .nil) ?_
      refine ea_cons ?_
      refine e_v 2 ?_
      refine ea_cons ?_
      refine e_call (dds := []) c_scaled hr (by rfl) (fun _ => .nil) ?_
      refine ea_cons ?_
      refine e_call (dds := []) c_path_coefs hr (by rfl) (fun _ => .nil) ?_
      refine ea_cons ?_
      refine e_v 3 ?_
      refine ea_cons ?_
      refine e_v 4 ?_
      refine ea_nil ?_
      refine ⟨rfl, ?_⟩
      refine u_path_coefs hpc ?_
      refine ea_cons ?_
      refine e_meth (dds := []) pc_Table.cl c_Table_ways hr (fun _ => .nil) ?_
      refine e_v 0 ?_
      first | refine ⟨_, _, rfl, rfl, ?_⟩ | refine ⟨_, _, rfl, by assumption, ?_⟩
      refine ea_cons ?_
      refine e_v 3 ?_
      refine ea_cons ?_
      refine e_v 4 ?_
      refine ea_nil ?_
      refine ⟨rfl, ?_⟩
      refine u_Table_ways (by walk_at "sc") ?_
      refine ea_nil ?_
      refine ⟨rfl, ?_⟩
      refine u_scaled hsc ?_
      refine ea_nil ?_
      refine ⟨rfl, ?_⟩
      refine u_plus hpl ?_
      exact fin1 _ _ _ (by rw [if_pos hw, accP_snoc, eM])
    · refine ite_f (by simpa using hw) ?_
      exact s_nil (fin0 _ _ _ (by rw [if_neg hw, List.append_nil, eM]))
  · rintro G ⟨g3, g4, g5, rfl⟩
    rw [List.length_map, sayN_all]
    have hln : (accP (wayF tb) (sayL tb wd)).length ≤ 31 := accP_len (N := 30) _ fun x hx => by
      obtain ⟨e, he2, rfl⟩ := List.mem_map.mp hx
      have := ok.stops e (List.mem_filter.mp he2).1
      exact ⟨this.1, this.2.1, this.2.2.1⟩
    have htr := accP_tr (wayF tb) (sayL tb wd)
    have hl5 : ((accP (wayF tb) (sayL tb wd)).map Dt.int).length ≤ 100000 := by rw [List.length_map]; omega
    have hl6 : (accP (wayF tb) (sayL tb wd)).length ≤ 100000 := by omega
    refine s_one (s_ret ?_)
    refine e_callSt1 c_Poly hr (by rfl) ?_
    refine e_v 2 ?_
    first | refine ⟨_, .inr rfl, by walk_at "sc", ?_⟩ | refine ⟨_, .inl rfl, by walk_at "sc", ?_⟩
    refine u_Poly___init__ hl6 ?_
    rw [show trimL (accP (wayF tb) (sayL tb wd)) = accP (wayF tb) (sayL tb wd) from htr]
    exact hq

abbrev s_Table_mean_cost : Stmt := inClass (topS 47) 12
abbrev N_Table_mean_cost : List Str := ["self", "per_try", "per_look", "total", "wins", "losses", "said", "made", "price", "look"]
theorem sc_Table_mean_cost : FnScope N_Table_mean_cost ["self", "per_try", "per_look"] (defScope s_Table_mean_cost) := ⟨rfl, rfl, rfl, by decide +kernel, rfl, by decide +kernel, by decide +kernel⟩
theorem ok_Table_mean_cost {f : Addr} {fd : FuncData} {k : Nat} {dvs : List V} {kws : List (Str × V)} {C_Poly : Addr} {C_Table : Addr} (F : FD K "mean_cost" "Table.mean_cost" s_Table_mean_cost dvs kws f fd) (m_len : mg "len" = none) (c_plus : Fn P w K mg base k "plus" ["first", "second"] [] (spD K 2 ph_plus)) (c_scaled : Fn P w K mg base k "scaled" ["coefs", "factor"] [] (spD K 2 ph_scaled)) (c_path_coefs : Fn P w K mg base k "path_coefs" ["wins", "losses"] [] (spD K 2 ph_path_coefs)) (g_Poly : mg "Poly" = some (.ref C_Poly)) (c_Poly : FnS P w K mg base k "Poly" (ph_Poly___init__ C_Poly)) (c_Table_ways : FnM P w K mg base k C_Table "ways" ["self", "wins", "losses"] [] (spD K 3 (ph_Table_ways C_Table))) (pc_Table : TableC K C_Table) : FnOk P w K mg base (L2.CX P w) (k + 1) f fd ["self", "per_try", "per_look"] (spD K 3 (ph_Table_mean_cost C_Table C_Poly)) := by
  refine fn_ok F sc_Table_mean_cost rfl fun X cdv A outer s H E ds q xd hX hr hph hl Fr wf xok => ?_
  subst hX
  obtain ⟨tb, pa, pb, rfl, ⟨ok, hpa, hpb⟩, hq⟩ := hph
  show S _ _ _ [_, _, _, _, _, _, _, _, _, _] _
  refine s_cons (s_a 3 sc_Table_mean_cost.nd ?_)
  refine e_tup ?_
  refine ea_nil ?_
  refine ⟨Nat.le_of_ble_eq_true rfl, ?_⟩
  show S _ _ _ [_, _, _, _, _, _, _, _, _, _] _
  show S _ _ _ [.sh (tabD C_Table tb), .sh (.int pa), .sh (.int pb), .sh (.tup []), .no, .no, .no, .no, .no, .no] _
  refine s_cons (s_for (passes_of rfl) rfl ?_)
  refine i_lst ?_
  refine e_fld ?_
  refine e_v 0 ?_
  refine ⟨_, _, _, _, rfl, pc_Table.cl, pc_Table.na_stops, rfl, ?_⟩
  refine ⟨_, rfl, ?_⟩
  refine ⟨fun i G => ∃ g4 g5 g6 g7 g8 g9, G = [.sh (tabD C_Table tb), .sh (.int pa), .sh (.int pb), .sh (iT (accP (costF tb pa pb) ((ends_ tb).take i))), g4, g5, g6, g7, g8, g9], ⟨_, _, _, _, _, _, rfl⟩, ?_, ?_⟩
  · rintro i d G hd ⟨g4, g5, g6, g7, g8, g9, rfl⟩
    rw [List.getElem?_map] at hd
    obtain ⟨⟨c, sd⟩, he, rfl⟩ : ∃ e, tb.stops[i]? = some e ∧ stD e = d := by
      cases z : tb.stops[i]? with
      | none => rw [z] at hd; cases hd
      | some e => rw [z] at hd; cases hd; exact ⟨e, rfl, rfl⟩
    have hce : (ends_ tb)[i]? = some c := by rw [List.getElem?_map, he]; rfl
    obtain ⟨c0, c1, c2, w0, w1⟩ := ok.stops _ (List.mem_of_getElem? he)
    have eT := accP_take (f := costF tb pa pb) hce
    have hln : (accP (costF tb pa pb) ((ends_ tb).take i)).length ≤ 31 := accP_len (N := 30) _ fun x hx => by
      obtain ⟨e, he2, rfl⟩ := List.mem_map.mp (List.mem_of_mem_take hx)
      have := ok.stops e he2
      exact ⟨this.1, this.2.1, this.2.2.1⟩
    have fin : ∀ (L : List Int) (g4 g5 g6 g7 g8 g9 : Sl), L = accS (costF tb pa pb) (accP (costF tb pa pb) ((ends_ tb).take i)) c → ∃ g4' g5' g6' g7' g8' g9', ([.sh (tabD C_Table tb), .sh (.int pa), .sh (.int pb), .sh (iT L), g4, g5, g6, g7, g8, g9] : List Sl) = [.sh (tabD C_Table tb), .sh (.int pa), .sh (.int pb), .sh (iT (accP (costF tb pa pb) ((ends_ tb).take (i + 1)))), g4', g5', g6', g7', g8', g9'] := fun L g4 g5 g6 g7 g8 g9 h => ⟨g4, g5, g6, g7, g8, g9, by rw [eT, h]⟩
    clear eT
    generalize accP (costF tb pa pb) ((ends_ tb).take i) = M at *
    obtain ⟨a, b, rfl⟩ := end_nat c0 c1
    have c2' : (a : Int) + b ≤ 30 := c2
    refine ⟨_, (a_tup rfl (as_cons (a_n 4 sc_Table_mean_cost.nd) (as_cons (a_n 5 sc_Table_mean_cost.nd) (as_cons (a_n 6 sc_Table_mean_cost.nd) as_nil)))), ?_⟩
    show S _ _ _ [_, _, _, _, _, _, _, _, _, _] _
    have hcl := cntL_le tb.looks ((a : Int) + b)
    have hlk := ok.looks
    refine s_cons (s_lc 7 (own := [("look", 9)]) rfl sc_Table_mean_cost.nd rfl rfl (sw_true rfl rfl rfl (by decide +kernel)) (blkOk_by (N := N_Table_mean_cost) (sc := defScope s_Table_mean_cost) (by decide +kernel)) ?_)
    refine i_tup ?_
    refine e_fld ?_
    refine e_v 0 ?_
    refine ⟨_, _, _, _, rfl, pc_Table.cl, pc_Table.na_looks, rfl, ?_⟩
    refine ⟨_, rfl, ?_⟩
    refine' ⟨?lcl38, _, lc_if (tb.looks) (Dt.int) (Dt.int) (fun z => decide (z ≤ (a : Int) + b)) (fun z => [(9, Dt.int z)]) ?lct38 ?lcm38 ?lcf38 ?lce38, ?lcc38⟩
    case lcl38 =>
      rw [List.length_map]; omega
    case lct38 =>
      rintro t ht Y ⟨s', H', C, cl, fp, rfl⟩
      exact (a_n 9 sc_Table_mean_cost.nd)
    case lcm38 =>
      intro t p hp
      simp at hp
      simp [hp]
    case lcf38 =>
      rintro t ht Y ⟨s', H', C, cl, fp, rfl⟩
      refine t_cmp ?_
      refine e_v 9 ?_
      refine e_bin ?_
      refine e_v 4 ?_
      refine e_v 5 ?_
      first | refine w_add ?_ | refine w_catT (by walk_at "sc") ?_ | refine w_addS (by walk_at "sc") ?_ | refine w_catL (by walk_at "sc") ?_
      refine w_le ?_
      refine ⟨_, rfl, ?_⟩
      rfl
    case lce38 =>
      rintro t ht hf Y ⟨s', H', C, cl, fp, rfl⟩
      refine e_v 9 ?_
      rfl
    rintro acc rfl
    rw [take_map_all]
    have m1 : CMul pa ((a : Int) + b) := .inr (by omega)
    have eL : ((tb.looks.filter fun z => decide (z ≤ (a : Int) + b)).map Dt.int).length = cntL tb.looks ((a : Int) + b) := by rw [List.length_map]; rfl
    have m2 : CMul pb (((tb.looks.filter fun z => decide (z ≤ (a : Int) + b)).map Dt.int).length : Nat) := .inr (by rw [eL]; omega)
    refine s_cons (s_a 8 sc_Table_mean_cost.nd ?_)
    refine e_bin ?_
    refine e_bin ?_
    refine e_v 1 ?_
    refine e_bin ?_
    refine e_v 4 ?_
    refine e_v 5 ?_
    first | refine w_add ?_ | refine w_catT (by walk_at "sc") ?_ | refine w_addS (by walk_at "sc") ?_ | refine w_catL (by walk_at "sc") ?_
    refine w_mulS m1 ?_
    refine e_bin ?_
    refine e_v 2 ?_
    refine e_callB (id := "len") (by rfl) m_len b_len ?_
    refine ea_cons ?_
    refine e_v 7 ?_
    refine ea_nil ?_
    first | refine wc_len_lst ?_ | refine wc_len_tup ?_ | refine wc_len_str (by walk_at "sc") ?_ | refine wc_lenc (fun hn63 => ?_)
    refine w_mulS m2 ?_
    first | refine w_add ?_ | refine w_catT (by walk_at "sc") ?_ | refine w_addS (by walk_at "sc") ?_ | refine w_catL (by walk_at "sc") ?_
    show S _ _ _ [_, _, _, _, _, _, _, _, _, _] _
    rw [eL]
    have hp := price_le (t := (a : Int) + b) hpa hpb (by omega) c2' (n := cntL tb.looks ((a : Int) + b)) (by omega)
    have m3 : CMul (pa * ((a : Int) + b) + pb * (cntL tb.looks ((a : Int) + b) : Nat)) ((lk tb.reached ((a : Int), (b : Int))).getD 0) := .inl (by omega)
    have hpc : a ≤ 1000 ∧ b ≤ 1000 := by omega
    have hsc : (pathL a b).length ≤ 900 ∧ SzL (b + 1) (pathL a b) ∧ ((pa * ((a : Int) + b) + pb * (cntL tb.looks ((a : Int) + b) : Nat)) * (lk tb.reached ((a : Int), (b : Int))).getD 0).natAbs < 2 ^ 61 ∧ 61 + (b + 1) ≤ 900000 := ⟨by rw [len_path]; omega, sz_path a b, mul_lt61 hp (way_lt w0 w1), by omega⟩
    have hpl : M.length ≤ 900 ∧ (trimL (scL ((pa * ((a : Int) + b) + pb * (cntL tb.looks ((a : Int) + b) : Nat)) * (lk tb.reached ((a : Int), (b : Int))).getD 0) (pathL a b))).length ≤ 900 := ⟨by omega, Nat.le_trans (trim_len _) (by unfold scL; rw [List.length_map, len_path]; omega)⟩
    refine s_one (s_a 3 sc_Table_mean_cost.nd ?_)
    refine e_call (dds := []) c_plus hr (by rfl) (fun _ => .nil) ?_
    refine ea_cons ?_
    refine e_v 3 ?_
    refine ea_cons ?_
    refine e_call (dds := []) c_scaled hr (by rfl) (fun _ => .nil) ?_
    refine ea_cons ?_
    refine e_call (dds := []) c_path_coefs hr (by rfl) (fun _ => .nil) ?_
    refine ea_cons ?_
    refine e_v 4 ?_
    refine ea_cons ?_
    refine e_v 5 ?_
    refine ea_nil ?_
    refine ⟨rfl, ?_⟩
    refine u_path_coefs hpc ?_
    refine ea_cons ?_
    refine e_bin ?_
    refine e_v 8 ?_
    refine e_meth (dds := []) pc_Table.cl c_Table_ways hr (fun _ => .nil) ?_
    refine e_v 0 ?_
    first | refine ⟨_, _, rfl, rfl, ?_⟩ | refine ⟨_, _, rfl, by assumption, ?_⟩
    refine ea_cons ?_
    refine e_v 4 ?_
    refine ea_cons ?_
    refine e_v 5 ?_
    refine ea_nil ?_
    refine ⟨rfl, ?_⟩
    refine u_Table_ways (by walk_at "sc") ?_
    refine w_mulS m3 ?_
    refine ea_nil ?_
    refine ⟨rfl, ?_⟩
    refine u_scaled hsc ?_
    refine ea_nil ?_
    refine ⟨rfl, ?_⟩
    refine u_plus hpl ?_
    exact fin _ _ _ _ _ _ _ rfl
  · rintro G ⟨g4, g5, g6, g7, g8, g9, rfl⟩
    rw [List.length_map]
    have eE : (ends_ tb).take tb.stops.length = ends_ tb := by rw [show tb.stops.length = (ends_ tb).length by rw [List.length_map], List.take_length]
    rw [eE]
    have hln : (accP (costF tb pa pb) (ends_ tb)).length ≤ 31 := accP_len (N := 30) _ fun x hx => by
      obtain ⟨e, he2, rfl⟩ := List.mem_map.mp hx
      have := ok.stops e he2
      exact ⟨this.1, this.2.1, this.2.2.1⟩
    have htr := accP_tr (costF tb pa pb) (ends_ tb)
    have hl5 : ((accP (costF tb pa pb) (ends_ tb)).map Dt.int).length ≤ 100000 := by rw [List.length_map]; omega
    have hl6 : (accP (costF tb pa pb) (ends_ tb)).length ≤ 100000 := by omega
    refine s_one (s_ret ?_)
    refine e_callSt1 c_Poly hr (by rfl) ?_
    refine e_v 3 ?_
    first | refine ⟨_, .inr rfl, by walk_at "sc", ?_⟩ | refine ⟨_, .inl rfl, by walk_at "sc", ?_⟩
    refine u_Poly___init__ hl6 ?_
    rw [show trimL (accP (costF tb pa pb) (ends_ tb)) = accP (costF tb pa pb) (ends_ tb) from htr]
    exact hq

abbrev s_Table_mean_length : Stmt := inClass (topS 47) 13
abbrev N_Table_mean_length : List Str := ["self"]
theorem sc_Table_mean_length : FnScope N_Table_mean_length ["self"] (defScope s_Table_mean_length) := ⟨rfl, rfl, rfl, by decide +kernel, rfl, by decide +kernel, by decide +kernel⟩
theorem ok_Table_mean_length {f : Addr} {fd : FuncData} {k : Nat} {dvs : List V} {kws : List (Str × V)} {C_Poly : Addr} {C_Table : Addr} (F : FD K "mean_length" "Table.mean_length" s_Table_mean_length dvs kws f fd) (c_Table_mean_cost : FnM P w K mg base k C_Table "mean_cost" ["self", "per_try", "per_look"] [.int 1, .int 0] (spD K 3 (ph_Table_mean_cost C_Table C_Poly))) (pc_Table : TableC K C_Table) : FnOk P w K mg base (L2.CX P w) (k + 1) f fd ["self"] (spD K 1 (ph_Table_mean_length C_Table C_Poly)) := by
  refine fn_ok F sc_Table_mean_length rfl fun X cdv A outer s H E ds q xd hX hr hph hl Fr wf xok => ?_
  subst hX
  obtain ⟨tb, rfl, ok, hq⟩ := hph
  have hok : OkT tb ∧ (1 : Int).natAbs ≤ 2 ^ 20 ∧ (0 : Int).natAbs ≤ 2 ^ 20 := ⟨ok, by decide, by decide⟩
  show S _ _ _ [_] _
  refine s_one (s_ret ?_)
  refine e_meth0 (dds := [.int 1, .int 0]) pc_Table.cl c_Table_mean_cost hr (fun _ => .cons (rp_int.mpr rfl) (.cons (rp_int.mpr rfl) (.nil))) ?_
  refine e_v 0 ?_
  refine ⟨_, _, rfl, rfl, rfl, ?_⟩
  refine u_Table_mean_cost (by walk_at "sc") ?_
  exact hq

abbrev s_ratio : Stmt := topS 9
abbrev N_ratio : List Str := ["num", "den", "divisor"]
theorem sc_ratio : FnScope N_ratio ["num", "den"] (defScope s_ratio) := ⟨rfl, rfl, rfl, by decide +kernel, rfl, by decide +kernel, by decide +kernel⟩
theorem ok_ratio {f : Addr} {fd : FuncData} {k : Nat} {dvs : List V} {kws : List (Str × V)} {C_InvalidRatio : Addr} (F : FD K "ratio" "ratio" s_ratio dvs kws f fd) (c_common_divisor : Fn P w K mg base k "common_divisor" ["first", "second"] [] (spD K 2 ph_gcd)) (g_InvalidRatio : mg "InvalidRatio" = some (.ref C_InvalidRatio)) : FnOk P w K mg base (L2.CX P w) (k + 1) f fd ["num", "den"] (spD K 2 ph_ratio) := by
  refine fn_ok F sc_ratio rfl fun X cdv A outer s H E ds q xd hX hr hph hl Fr wf xok => ?_
  subst hX
  obtain ⟨n, d, rfl, ⟨hd, hz⟩, hq⟩ := hph
  obtain ⟨hc1, hc2⟩ := gcd_log (n := n) hd hz (by decide) (by decide)
  show S _ _ _ [_, _, _] _
  refine s_cons (s_if ?_)
  refine t_cmp ?_
  refine e_v 1 ?_
  refine e_int ?_
  first | refine w_eqI ?_ | refine w_eqT ?_ | refine w_eqB ?_ | refine w_eqD hr.units (by walk_at "ok") (by walk_at "ok") ?_
  refine ⟨_, rfl, ?_⟩
  refine ite_f (decide_eq_false hd) ?_
  refine s_nil ?_
  refine s_cons (s_a 2 sc_ratio.nd ?_)
  refine e_call (dds := []) c_common_divisor hr (by rfl) (fun _ => .nil) ?_
  refine ea_cons ?_
  refine e_v 0 ?_
  refine ea_cons ?_
  refine e_v 1 ?_
  refine ea_nil ?_
  refine ⟨rfl, ?_⟩
  refine u_gcd (by walk_at "sc") ?_
  show S _ _ _ [_, _, _] _
  refine s_cut (fun G => G = [.sh (.int n), .sh (.int d), .sh (.int (gcdS n d))]) (s_if ?_) ?_
  · refine t_cmp ?_
    refine e_v 1 ?_
    refine e_int ?_
    refine w_lt ⟨_, rfl, ?_⟩
    refine ite_b (fun h => ?_) (fun h => ?_)
    · refine s_one (s_a 2 sc_ratio.nd ?_)
      refine e_un ?_
      refine e_v 2 ?_
      refine w_neg ?_
      unfold gcdS
      rw [if_pos (of_decide_eq_true h)]
      rfl
    · refine s_nil ?_
      unfold gcdS
      rw [if_neg (of_decide_eq_false h)]
  · rintro G rfl
    refine s_cons (s_ret ?_)
    refine e_tup ?_
    refine ea_cons ?_
    refine e_bin ?_
    refine e_v 0 ?_
    refine e_v 2 ?_
    refine w_divA hc1 ?_
    refine ea_cons ?_
    refine e_bin ?_
    refine e_v 1 ?_
    refine e_v 2 ?_
    refine w_divA hc2 ?_
    refine ea_nil ?_
    refine ⟨Nat.le_of_ble_eq_true rfl, ?_⟩
    exact hq

abbrev s_value_of : Stmt := topS 27
abbrev N_value_of : List Str := ["coefs", "at", "total", "scale", "x"]
theorem sc_value_of : FnScope N_value_of ["coefs", "at"] (defScope s_value_of) := ⟨rfl, rfl, rfl, by decide +kernel, rfl, by decide +kernel, by decide +kernel⟩
theorem ok_value_of {f : Addr} {fd : FuncData} {k : Nat} {dvs : List V} {kws : List (Str × V)} (F : FD K "value_of" "value_of" s_value_of dvs kws f fd)  : FnOk P w K mg base (L2.CX P w) (k + 1) f fd ["coefs", "at"] (spD K 2 ph_value_of) := by
  refine fn_ok F sc_value_of rfl fun X cdv A outer s H E ds q xd hX hr hph hl Fr wf xok => ?_
  subst hX
  obtain ⟨l, r, A', B', rfl, ⟨sl, sr, hz⟩, hq⟩ := hph
  obtain ⟨p, u⟩ := r
  have sp : p.natAbs < 2 ^ B' := sr.1
  have su : u.natAbs < 2 ^ B' := sr.2
  have hz1 : (B' + 2) * (l.length + 1) = (B' + 2) * l.length + (B' + 2) := Nat.mul_succ _ _
  show S _ _ _ [_, _, _, _, _] _
  show S _ _ _ [.sh (.tup (l.map .int)), .sh (.tup [.int p, .int u]), .no, .no, .no] _
  refine s_cons (s_a 2 sc_value_of.nd ?_)
  refine e_int ?_
  show S _ _ _ [_, _, _, _, _] _
  refine s_cons (s_a 3 sc_value_of.nd ?_)
  refine e_int ?_
  show S _ _ _ [_, _, _, _, _] _
  refine s_cons (s_for (passes_of rfl) rfl ?_)
  refine i_tup ?_
  refine e_revT ?_
  refine e_v 0 ?_
  refine ⟨_, rfl, ?_⟩
  refine ⟨_, rfl, ?_⟩
  refine ⟨fun i G => ∃ g, G = [.sh (.tup (l.map .int)), .sh (.tup [.int p, .int u]), .sh (.int (tv p u (l.drop (l.length - i)))), .sh (.int (u ^ i)), g] ∧ i ≤ l.length, ⟨.no, by rw [Nat.sub_zero, List.drop_length, Int.pow_zero]; rfl, Nat.zero_le _⟩, ?_, ?_⟩
  · rintro i d G hd ⟨g, rfl, hi⟩
    have hi2 : i < l.length := by
      have := (List.getElem?_eq_some_iff.mp hd).1
      simpa using this
    have ed : d = .int (cf l (l.length - 1 - i)) := by
      rw [← List.map_reverse, List.getElem?_map, List.getElem?_reverse hi2, cf_lt (by omega)] at hd
      exact (Option.some.inj hd).symm
    subst ed
    have hlen : (l.drop (l.length - i)).length = i := by rw [List.length_drop]; omega
    have ht : (tv p u (l.drop (l.length - i))).natAbs < 2 ^ (A' + (B' + 2) * i + 1) := by
      have := tv_sz (A := A') sp su (l := l.drop (l.length - i)) fun x hx => sl x (List.mem_of_mem_drop hx)
      rw [hlen] at this
      exact this
    have hk : (B' + 2) * i ≤ (B' + 2) * l.length := Nat.mul_le_mul_left _ hi
    have hk2 : B' * i ≤ (B' + 2) * l.length := Nat.mul_le_mul (by omega) hi
    have hs := pow_sz su i
    have hx := sl _ (List.mem_of_getElem? (cf_lt (show l.length - 1 - i < l.length by omega)))
    have m1 := mulOk ht sp (by omega)
    have m2 := mulOk hx hs (by omega)
    have m3 := mulOk hs su (by omega)
    have e1 : l.drop (l.length - (i + 1)) = cf l (l.length - 1 - i) :: l.drop (l.length - i) := by
      rw [show l.length - (i + 1) = l.length - 1 - i by omega, drop_cf (by omega), show l.length - 1 - i + 1 = l.length - i by omega]
    refine ⟨_, (a_n 4 sc_value_of.nd), ?_⟩
    show S _ _ _ [_, _, _, _, _] _
    refine s_cons (s_a 2 sc_value_of.nd ?_)
    refine e_bin ?_
    refine e_bin ?_
    refine e_v 2 ?_
    refine e_ix ?_
    refine e_v 1 ?_
    refine e_int ?_
    first | refine wi_tup0 ?_ | refine wi_tup1 ?_ | refine wi_tup2 ?_ | refine wi_tup (by walk_at "sc") ?_ | refine wi_lst (by walk_at "sc") ?_ | refine wi_str (by walk_at "sc") (by walk_at "sc") ?_
    first | refine w_mulS (.inr ⟨by decide, by decide⟩) ?_ | refine w_mulS (.inl ⟨by decide, by decide⟩) ?_ | refine w_mul (by walk_at "sc") ?_ | refine w_repT (by walk_at "sc") ?_ | refine w_repL (by walk_at "sc") ?_
    refine e_bin ?_
    refine e_v 4 ?_
    refine e_v 3 ?_
    first | refine w_mulS (.inr ⟨by decide, by decide⟩) ?_ | refine w_mulS (.inl ⟨by decide, by decide⟩) ?_ | refine w_mul (by walk_at "sc") ?_ | refine w_repT (by walk_at "sc") ?_ | refine w_repL (by walk_at "sc") ?_
    first | refine w_add ?_ | refine w_catT (by walk_at "sc") ?_ | refine w_addS (by walk_at "sc") ?_ | refine w_catL (by walk_at "sc") ?_
    show S _ _ _ [_, _, _, _, _] _
    refine s_one (s_a 3 sc_value_of.nd ?_)
    refine e_bin ?_
    refine e_v 3 ?_
    refine e_ix ?_
    refine e_v 1 ?_
    refine e_int ?_
    first | refine wi_tup0 ?_ | refine wi_tup1 ?_ | refine wi_tup2 ?_ | refine wi_tup (by walk_at "sc") ?_ | refine wi_lst (by walk_at "sc") ?_ | refine wi_str (by walk_at "sc") (by walk_at "sc") ?_
    first | refine w_mulS (.inr ⟨by decide, by decide⟩) ?_ | refine w_mulS (.inl ⟨by decide, by decide⟩) ?_ | refine w_mul (by walk_at "sc") ?_ | refine w_repT (by walk_at "sc") ?_ | refine w_repL (by walk_at "sc") ?_
    refine ⟨.sh (.int (cf l (l.length - 1 - i))), ?_, hi2⟩
    rw [e1]
    show (_ : List Sl) = [_, _, Sl.sh (.int (tv p u (l.drop (l.length - i)) * p + cf l (l.length - 1 - i) * u ^ (l.drop (l.length - i)).length)), _, _]
    rw [hlen, Int.pow_succ]
    rfl
  · rintro G ⟨g, rfl, hi⟩
    rw [List.length_reverse, List.length_map, Nat.sub_self, List.drop_zero]
    have m4 := mulOk (tv_sz sp su sl) su (by omega)
    refine s_cons (s_ret ?_)
    refine e_tup ?_
    refine ea_cons ?_
    refine e_bin ?_
    refine e_v 2 ?_
    refine e_ix ?_
    refine e_v 1 ?_
    refine e_int ?_
    first | refine wi_tup0 ?_ | refine wi_tup1 ?_ | refine wi_tup2 ?_ | refine wi_tup (by walk_at "sc") ?_ | refine wi_lst (by walk_at "sc") ?_ | refine wi_str (by walk_at "sc") (by walk_at "sc") ?_
    first | refine w_mulS (.inr ⟨by decide, by decide⟩) ?_ | refine w_mulS (.inl ⟨by decide, by decide⟩) ?_ | refine w_mul (by walk_at "sc") ?_ | refine w_repT (by walk_at "sc") ?_ | refine w_repL (by walk_at "sc") ?_
    refine ea_cons ?_
    refine e_v 3 ?_
    refine ea_nil ?_
    refine ⟨Nat.le_of_ble_eq_true rfl, ?_⟩
    exact hq

abbrev s_Poly___call__ : Stmt := inClass (topS 35) 8
abbrev N_Poly___call__ : List Str := ["self", "at", "num", "den"]
theorem sc_Poly___call__ : FnScope N_Poly___call__ ["self", "at"] (defScope s_Poly___call__) := ⟨rfl, rfl, rfl, by decide +kernel, rfl, by decide +kernel, by decide +kernel⟩
theorem ok_Poly___call__ {f : Addr} {fd : FuncData} {k : Nat} {dvs : List V} {kws : List (Str × V)} {C_Poly : Addr} (F : FD K "__call__" "Poly.__call__" s_Poly___call__ dvs kws f fd) (c_ratio : Fn P w K mg base k "ratio" ["num", "den"] [] (spD K 2 ph_ratio)) (c_value_of : Fn P w K mg base k "value_of" ["coefs", "at"] [] (spD K 2 ph_value_of)) (pc_Poly : PolyC K C_Poly) : FnOk P w K mg base (L2.CX P w) (k + 1) f fd ["self", "at"] (spD K 2 (ph_Poly___call__ C_Poly)) := by
  refine fn_ok F sc_Poly___call__ rfl fun X cdv A outer s H E ds q xd hX hr hph hl Fr wf xok => ?_
  subst hX
  obtain ⟨l, r, A', B', rfl, ⟨sl, sr, h1, hz⟩, hq⟩ := hph
  have pv : SzL A' l ∧ SzR B' r ∧ A' + (B' + 2) * (l.length + 1) ≤ 400000 := ⟨sl, sr, by omega⟩
  have hn : r.2 ^ l.length ≠ 0 := by have := pow_pos' h1 l.length; omega
  have hb : B' * l.length ≤ (B' + 2) * (l.length + 1) := Nat.mul_le_mul (by omega) (by omega)
  have pr : r.2 ^ l.length ≠ 0 ∧ (r.2 ^ l.length).natAbs < 2 ^ 8999 := ⟨hn, sz_up (pow_sz sr.2 _) (by omega)⟩
  show S _ _ _ [_, _, _, _] _
  show S _ _ _ [.sh (.obj C_Poly ["coefs"] [.tup (l.map .int)]), .sh (ratD r), .no, .no] _
  refine s_cons (s_unpack ?_)
  refine e_call (dds := []) c_value_of hr (by rfl) (fun _ => .nil) ?_
  refine ea_cons ?_
  refine e_fld ?_
  refine e_v 0 ?_
  refine ⟨_, _, _, _, rfl, pc_Poly.cl, pc_Poly.na_coefs, rfl, ?_⟩
  refine ea_cons ?_
  refine e_v 1 ?_
  refine ea_nil ?_
  refine ⟨rfl, ?_⟩
  refine u_value_of pv ?_
  refine ⟨_, (a_tup rfl (as_cons (a_n 2 sc_Poly___call__.nd) (as_cons (a_n 3 sc_Poly___call__.nd) as_nil))), ?_⟩
  show S _ _ _ [_, _, _, _] _
  refine s_cons (s_ret ?_)
  refine e_call (dds := []) c_ratio hr (by rfl) (fun _ => .nil) ?_
  refine ea_cons ?_
  refine e_v 2 ?_
  refine ea_cons ?_
  refine e_v 3 ?_
  refine ea_nil ?_
  refine ⟨rfl, ?_⟩
  refine u_ratio pr ?_
  exact hq

abbrev s_law : Stmt := topS 60
abbrev N_law : List Str := ["_law_script", "_law_box_here", "_law_parts_here", "_law_at", "_law_table_here", "_law_word_here", "_law_chance", "_law_length", "_law_scale", "_law_found"]
theorem sc_law : FnScope N_law ["_law_script"] (defScope s_law) := ⟨rfl, rfl, rfl, by decide +kernel, rfl, by decide +kernel, by decide +kernel⟩
theorem ok_law {f : Addr} {fd : FuncData} {k : Nat} {C_Poly : Addr} {C_Table : Addr} (F : FD K "law" "law" s_law [] [] f fd) (m_len : mg "len" = none) (c__law_box : Fn P w K mg base k "_law_box" ["_law_script"] [] (spBox K)) (c__law_take : Fn P w K mg base k "_law_take" ["_law_box_here", "_law_size"] [] (spB K 2 ph_take)) (c__law_parts : Fn P w K mg base k "_law_parts" ["_law_box_here", "_law_most"] [] (spB K 2 ph__law_parts)) (c__law_table : Fn P w K mg base k "_law_table" ["_law_parts_here"] [] (spD K 1 (ph__law_table C_Table))) (c__law_share : Fn P w K mg base k "_law_share" ["_law_box_here", "_law_most"] [] (spB K 2 ph__law_share)) (c__law_is_ratio : Fn P w K mg base k "_law_is_ratio" ["_law_value"] [] (spD K 1 ph__law_is_ratio)) (c__law_back : Fn P w K mg base k "_law_back" ["_law_parts_here", "_law_word_here", "_law_at"] [] (spD K 3 ph__law_back)) (c_Table_words : FnP P w K mg base k C_Table "words" (ph_Table_words C_Table)) (c_Table_chance : FnM P w K mg base k C_Table "chance" ["self", "word"] [] (spD K 2 (ph_Table_chance C_Table C_Poly))) (c_Table_mean_length : FnM P w K mg base k C_Table "mean_length" ["self"] [] (spD K 1 (ph_Table_mean_length C_Table C_Poly))) (c_Poly___call__ : FnM P w K mg base k C_Poly "__call__" ["self", "at"] [] (spD K 2 (ph_Poly___call__ C_Poly))) (pc_Table : TableC K C_Table) (pc_Poly : PolyC K C_Poly) : FnOk P w K mg base (L2.CX P w) (k + 1) f fd ["_law_script"] (spLaw K) := by
  refine law_ok F sc_law c__law_box (by rfl) rfl rfl (by decide) (by first | exact .inl rfl | exact .inr rfl) (by first | exact .inl rfl | exact .inr (.inl rfl)) (by rfl) (by decide) (by decide) (fun _ _ => rfl) (fun _ => rfl) fun X cdv A outer s H E b c n ns hX hr => ?_
  subst hX
  show S _ _ _ [_, _, _, _, _, _, _, _, _, _] _
  have h7 : (0 : Int) < 7 ∧ (7 : Int) ≤ 30 := by decide
  have h30 : (0 : Int) < 30 ∧ (30 : Int) ≤ 10 ^ 31 := by decide
  refine s_cons (s_a 2 sc_law.nd ?_)
  refine e_callX c__law_parts hr (by rfl) ?_
  refine ea_cons ?_
  refine e_v 1 ?_
  refine ea_cons ?_
  refine e_int ?_
  refine ea_nil ?_
  refine ⟨_, rfl, rfl, ?_⟩
  refine u__law_parts (by walk_at "sc") ?_
  intro lim1 lks1 rl1 vt1 ll1
  show S _ _ _ [_, _, _, _, _, _, _, _, _, _] _
  have vr1 := vt1.toVr
  refine s_cons (s_a 3 sc_law.nd ?_)
  refine e_callX c__law_share hr (by rfl) ?_
  refine ea_cons ?_
  refine e_v 1 ?_
  refine ea_cons ?_
  refine e_int ?_
  refine ea_nil ?_
  refine ⟨_, rfl, rfl, ?_⟩
  refine u__law_share (by walk_at "sc") ?_
  intro r2 ir2 zr2 rz2 ro2 rm2
  show S _ _ _ [_, _, _, _, _, _, _, _, _, _] _
  refine s_cons (s_a 4 sc_law.nd ?_)
  refine e_call (dds := []) c__law_table hr (by rfl) (fun _ => .nil) ?_
  refine ea_cons ?_
  refine e_v 2 ?_
  refine ea_nil ?_
  refine ⟨rfl, ?_⟩
  refine u__law_table (by walk_at "sc") ?_
  show S _ _ _ [_, _, _, _, _, _, _, _, _, _] _
  have ok := okT_mk vr1
  have oks := okSt_mk vr1
  have hsl := stops_len vr1
  obtain ⟨hwm, hwl⟩ := words_ok (l := (mkT lim1 lks1 rl1).stops) oks.1
  have hwp := words_ne vr1
  have htk : (0 : Int) < (((wordsT (mkT lim1 lks1 rl1).stops).map Dt.str).length : Nat) ∧ ((((wordsT (mkT lim1 lks1 rl1).stops).map Dt.str).length : Nat) : Int).natAbs.log2 < 9000 := log9 (k := 120) (by rw [List.length_map]; omega) (by rw [List.length_map]; omega) (by decide) (by decide)
  refine s_cons (s_a 5 sc_law.nd ?_)
  refine e_ix ?_
  refine e_prop pc_Table.cl c_Table_words hr ?_
  refine e_v 4 ?_
  refine ⟨_, _, rfl, ?_⟩
  refine u_Table_words (by walk_at "sc") ?_
  refine e_callX c__law_take hr (by rfl) ?_
  refine ea_cons ?_
  refine e_v 1 ?_
  refine ea_cons ?_
  refine e_callB (id := "len") (by rfl) m_len b_len ?_
  refine ea_cons ?_
  refine e_prop pc_Table.cl c_Table_words hr ?_
  refine e_v 4 ?_
  refine ⟨_, _, rfl, ?_⟩
  refine u_Table_words (by walk_at "sc") ?_
  refine ea_nil ?_
  first | refine wc_len_lst ?_ | refine wc_len_tup ?_ | refine wc_len_str (by walk_at "sc") ?_ | refine wc_lenc (fun hn63 => ?_)
  refine ea_nil ?_
  refine ⟨_, rfl, rfl, ?_⟩
  refine u_take (by walk_at "sc") ?_
  intro v3 va3 vb3
  refine wi_anyT (by omega) (by omega) fun di hdi => ?_
  show S _ _ _ [_, _, _, _, _, _, _, _, _, _] _
  obtain ⟨x, hx, rfl⟩ := List.mem_map.mp hdi
  have hbk : Vt lim1 lks1 rl1 ∧ r2.1.natAbs < 2 ^ 20 ∧ 1 ≤ r2.2 ∧ r2.2 < 2 ^ 20 := ⟨vt1, by have := ir2.1; omega, ir2.1, by omega⟩
  refine s_cons (s_unpack ?_)
  refine e_call (dds := []) c__law_back hr (by rfl) (fun _ => .nil) ?_
  refine ea_cons ?_
  refine e_v 2 ?_
  refine ea_cons ?_
  refine e_v 5 ?_
  refine ea_cons ?_
  refine e_v 3 ?_
  refine ea_nil ?_
  refine ⟨rfl, ?_⟩
  refine u__law_back (by walk_at "sc") ?_
  refine ⟨_, (a_tup rfl (as_cons (a_n 6 sc_law.nd) (as_cons (a_n 7 sc_law.nd) (as_cons (a_n 8 sc_law.nd) as_nil)))), ?_⟩
  show S _ _ _ [_, _, _, _, _, _, _, _, _, _] _
  obtain ⟨cz, cl, ct⟩ := chance_ok ok hsl x
  obtain ⟨lz, ll, lt⟩ := cost_ok ok hsl (a := 1) (b := 0) (by decide) (by decide)
  have hlen1 := chance_len vr1 x
  have hlen2 := cost_len vr1 1 0
  have ecb := chance_bk vr1 x r2.1 r2.2
  have elb := length_bk vr1 r2.1 r2.2
  generalize hpc : accP (wayF (mkT lim1 lks1 rl1)) (sayL (mkT lim1 lks1 rl1) x) = pc at *
  generalize hpl : accP (costF (mkT lim1 lks1 rl1) 1 0) (ends_ (mkT lim1 lks1 rl1)) = pl at *
  have c1 : SzL 102 pc ∧ SzR 20 r2 ∧ 1 ≤ r2.2 ∧ 102 + (20 + 2) * (pc.length + 1) ≤ 8000 := ⟨cz, ⟨hbk.2.1, by omega⟩, ir2.1, by omega⟩
  have c2 : SzL 102 pl ∧ SzR 20 r2 ∧ 1 ≤ r2.2 ∧ 102 + (20 + 2) * (pl.length + 1) ≤ 8000 := ⟨lz, ⟨hbk.2.1, by omega⟩, ir2.1, by omega⟩
  refine s_cons (s_a 9 sc_law.nd ?_)
  refine e_callO c_Poly___call__ pc_Poly.call hr ?_
  refine e_meth (dds := []) pc_Table.cl c_Table_chance hr (fun _ => .nil) ?_
  refine e_v 4 ?_
  first | refine ⟨_, _, rfl, rfl, ?_⟩ | refine ⟨_, _, rfl, by assumption, ?_⟩
  refine ea_cons ?_
  refine e_v 5 ?_
  refine ea_nil ?_
  refine ⟨rfl, ?_⟩
  refine u_Table_chance (by walk_at "sc") ?_
  refine ⟨_, _, rfl, ?_⟩
  refine ea_cons ?_
  refine e_v 3 ?_
  refine ea_nil ?_
  refine ⟨rfl, ?_⟩
  (rw [hpc]; refine u_Poly___call__ c1 ?_)
  show S _ _ _ [_, _, _, _, _, _, _, _, _, _] _
  have q5 : r2.2.natAbs < 2 ^ 5 := by have := ir2.1; omega
  have d1 := val_den (l := pc) ir2.1
  have d2 := val_den (l := pl) ir2.1
  have e1 : (r2.2 ^ pc.length).natAbs < 2 ^ 64 := pw_small q5 (by omega)
  have e2 : (r2.2 ^ pl.length).natAbs < 2 ^ 64 := pw_small q5 (by omega)
  have e3 : (r2.2 ^ lim1).natAbs < 2 ^ 64 := pw_small q5 (by omega)
  have ma : CMul (valR pc r2).1 (r2.2 ^ lim1) := cm_r e3
  have mb : CMul (bkC lks1 rl1 x r2.1 r2.2 lim1 (0, 0)) (valR pc r2).2 := cm_r (by omega)
  have mc : CMul (valR pl r2).1 (r2.2 ^ lim1) := cm_r e3
  have md : CMul (bkL lks1 rl1 r2.1 r2.2 lim1 (0, 0)) (valR pl r2).2 := cm_r (by omega)
  have f1 := val_hv ir2.1 hlen1
  have f2 := val_hv ir2.1 hlen2
  rw [ecb] at f1
  rw [elb] at f2
  have i1 : IsR (valR pc r2) := (mkR_spec (by have := pow_pos' ir2.1 pc.length; omega)).1
  have i2 : IsR (valR pl r2) := (mkR_spec (by have := pow_pos' ir2.1 pl.length; omega)).1
  refine s_cons (s_if ?_)
  refine TW.t ?_
  refine' tw_orD ?ha39 (fun hb => ?hb39) ?hc39
  case ha39 =>
    refine t_not ?_
    refine t_val ?_
    refine e_call (dds := []) c__law_is_ratio hr (by rfl) (fun _ => .nil) ?_
    refine ea_cons ?_
    refine e_v 9 ?_
    refine ea_nil ?_
    refine ⟨rfl, ?_⟩
    refine u__law_is_ratio (by walk_at "sc") ?_
    refine ⟨_, rfl, ?_⟩
    exact rfl
  case hb39 =>
    refine tw_or1 ?_
    refine t_cmp ?_
    refine e_bin ?_
    refine e_ix ?_
    refine e_v 9 ?_
    refine e_int ?_
    first | refine wi_tup0 ?_ | refine wi_tup1 ?_ | refine wi_tup2 ?_ | refine wi_tup (by walk_at "sc") ?_ | refine wi_lst (by walk_at "sc") ?_ | refine wi_str (by walk_at "sc") (by walk_at "sc") ?_
    refine e_v 8 ?_
    refine w_mulS ma ?_
    refine e_bin ?_
    refine e_v 6 ?_
    refine e_ix ?_
    refine e_v 9 ?_
    refine e_int ?_
    first | refine wi_tup0 ?_ | refine wi_tup1 ?_ | refine wi_tup2 ?_ | refine wi_tup (by walk_at "sc") ?_ | refine wi_lst (by walk_at "sc") ?_ | refine wi_str (by walk_at "sc") (by walk_at "sc") ?_
    refine w_mulS mb ?_
    first | refine w_neI ?_ | refine w_neT ?_ | refine w_neB ?_ | refine w_neD hr.units (by walk_at "ok") (by walk_at "ok") ?_
    refine ⟨_, rfl, ?_⟩
    exact rfl
  refine ite_f (by rw [f1]; simp) ?_
  refine s_nil ?_
  refine s_cons (s_a 9 sc_law.nd ?_)
  refine e_callO c_Poly___call__ pc_Poly.call hr ?_
  refine e_meth0 (dds := []) pc_Table.cl c_Table_mean_length hr (fun _ => .nil) ?_
  refine e_v 4 ?_
  refine ⟨_, _, rfl, rfl, rfl, ?_⟩
  refine u_Table_mean_length (by walk_at "sc") ?_
  refine ⟨_, _, rfl, ?_⟩
  refine ea_cons ?_
  refine e_v 3 ?_
  refine ea_nil ?_
  refine ⟨rfl, ?_⟩
  (rw [hpl]; refine u_Poly___call__ c2 ?_)
  show S _ _ _ [_, _, _, _, _, _, _, _, _, _] _
  refine s_one (s_ret ?_)
  refine' e_andD ?ha40 (fun hb => ?hb40) ?hc40
  case ha40 =>
    refine e_call (dds := []) c__law_is_ratio hr (by rfl) (fun _ => .nil) ?_
    refine ea_cons ?_
    refine e_v 9 ?_
    refine ea_nil ?_
    refine ⟨rfl, ?_⟩
    refine u__law_is_ratio (by walk_at "sc") ?_
    exact rfl
  case hb40 =>
    refine e_one ?_
    refine e_cmp ?_
    refine e_bin ?_
    refine e_ix ?_
    refine e_v 9 ?_
    refine e_int ?_
    first | refine wi_tup0 ?_ | refine wi_tup1 ?_ | refine wi_tup2 ?_ | refine wi_tup (by walk_at "sc") ?_ | refine wi_lst (by walk_at "sc") ?_ | refine wi_str (by walk_at "sc") (by walk_at "sc") ?_
    refine e_v 8 ?_
    refine w_mulS mc ?_
    refine e_bin ?_
    refine e_v 7 ?_
    refine e_ix ?_
    refine e_v 9 ?_
    refine e_int ?_
    first | refine wi_tup0 ?_ | refine wi_tup1 ?_ | refine wi_tup2 ?_ | refine wi_tup (by walk_at "sc") ?_ | refine wi_lst (by walk_at "sc") ?_ | refine wi_str (by walk_at "sc") (by walk_at "sc") ?_
    refine w_mulS md ?_
    first | refine w_eqI ?_ | refine w_eqT ?_ | refine w_eqB ?_ | refine w_eqD hr.units (by walk_at "ok") (by walk_at "ok") ?_
    exact rfl
  rw [f2]
  simp

end
def d__law_box : He5.DefA := ⟨fun K => He.ga K "_law_box", "_law_box", "_law_box", defArgs s__law_box, defBody s__law_box, defScope s__law_box, [], []⟩
def d__law_take : He5.DefA := ⟨fun K => He.ga K "_law_take", "_law_take", "_law_take", defArgs s__law_take, defBody s__law_take, defScope s__law_take, [], []⟩
def d__law_gcd : He5.DefA := ⟨fun K => He.ga K "_law_gcd", "_law_gcd", "_law_gcd", defArgs s__law_gcd, defBody s__law_gcd, defScope s__law_gcd, [], []⟩
def d__law_ratio : He5.DefA := ⟨fun K => He.ga K "_law_ratio", "_law_ratio", "_law_ratio", defArgs s__law_ratio, defBody s__law_ratio, defScope s__law_ratio, [], []⟩
def d__law_word : He5.DefA := ⟨fun K => He.ga K "_law_word", "_law_word", "_law_word", defArgs s__law_word, defBody s__law_word, defScope s__law_word, [], []⟩
def d__law_parts : He5.DefA := ⟨fun K => He.ga K "_law_parts", "_law_parts", "_law_parts", defArgs s__law_parts, defBody s__law_parts, defScope s__law_parts, [], []⟩
def d_common_divisor : He5.DefA := ⟨fun K => He.ga K "common_divisor", "common_divisor", "common_divisor", defArgs s_common_divisor, defBody s_common_divisor, defScope s_common_divisor, [], []⟩
def d_is_share : He5.DefA := ⟨fun K => He.ga K "is_share", "is_share", "is_share", defArgs s_is_share, defBody s_is_share, defScope s_is_share, [], []⟩
def d_read_number : He5.DefA := ⟨fun K => He.ga K "read_number", "read_number", "read_number", defArgs s_read_number, defBody s_read_number, defScope s_read_number, [], []⟩
def d_read_share : He5.DefA := ⟨fun K => He.ga K "read_share", "read_share", "read_share", defArgs s_read_share, defBody s_read_share, defScope s_read_share, [], []⟩
def d_read_word : He5.DefA := ⟨fun K => He.ga K "read_word", "read_word", "read_word", defArgs s_read_word, defBody s_read_word, defScope s_read_word, [], []⟩
def d_check_table : He5.DefA := ⟨fun K => He.ga K "check_table", "check_table", "check_table", defArgs s_check_table, defBody s_check_table, defScope s_check_table, [], []⟩
def d_Table_is_end : He5.DefA := ⟨fun K => He.ma K (He.ga K "Table") "is_end", "is_end", "Table.is_end", defArgs s_Table_is_end, defBody s_Table_is_end, defScope s_Table_is_end, [], []⟩
def d_Table_spread : He5.DefA := ⟨fun K => He.ma K (He.ga K "Table") "spread", "spread", "Table.spread", defArgs s_Table_spread, defBody s_Table_spread, defScope s_Table_spread, [], []⟩
def d_Table___contains__ : He5.DefA := ⟨fun K => He.ma K (He.ga K "Table") "__contains__", "__contains__", "Table.__contains__", defArgs s_Table___contains__, defBody s_Table___contains__, defScope s_Table___contains__, [], []⟩
def d_Table___init__ : He5.DefA := ⟨fun K => He.ma K (He.ga K "Table") "__init__", "__init__", "Table.__init__", defArgs s_Table___init__, defBody s_Table___init__, defScope s_Table___init__, [], []⟩
def d__law_table : He5.DefA := ⟨fun K => He.ga K "_law_table", "_law_table", "_law_table", defArgs s__law_table, defBody s__law_table, defScope s__law_table, [], []⟩
def d__law_share : He5.DefA := ⟨fun K => He.ga K "_law_share", "_law_share", "_law_share", defArgs s__law_share, defBody s__law_share, defScope s__law_share, [], []⟩
def d__law_is_integer : He5.DefA := ⟨fun K => He.ga K "_law_is_integer", "_law_is_integer", "_law_is_integer", defArgs s__law_is_integer, defBody s__law_is_integer, defScope s__law_is_integer, [], []⟩
def d__law_is_ratio : He5.DefA := ⟨fun K => He.ga K "_law_is_ratio", "_law_is_ratio", "_law_is_ratio", defArgs s__law_is_ratio, defBody s__law_is_ratio, defScope s__law_is_ratio, [], []⟩
def d__law_back : He5.DefA := ⟨fun K => He.ga K "_law_back", "_law_back", "_law_back", defArgs s__law_back, defBody s__law_back, defScope s__law_back, [], []⟩
def d_Table_words : He5.DefA := ⟨fun K => He5.wf K (He.ga K "Table") "property" "words", "words", "Table.words", defArgs s_Table_words, defBody s_Table_words, defScope s_Table_words, [], []⟩
def d_trim : He5.DefA := ⟨fun K => He.ga K "trim", "trim", "trim", defArgs s_trim, defBody s_trim, defScope s_trim, [], []⟩
def d_padded : He5.DefA := ⟨fun K => He.ga K "padded", "padded", "padded", defArgs s_padded, defBody s_padded, defScope s_padded, [], []⟩
def d_plus : He5.DefA := ⟨fun K => He.ga K "plus", "plus", "plus", defArgs s_plus, defBody s_plus, defScope s_plus, [], []⟩
def d_scaled : He5.DefA := ⟨fun K => He.ga K "scaled", "scaled", "scaled", defArgs s_scaled, defBody s_scaled, defScope s_scaled, [], []⟩
def d_choose : He5.DefA := ⟨fun K => He.ga K "choose", "choose", "choose", defArgs s_choose, defBody s_choose, defScope s_choose, [], []⟩
def d_path_coefs : He5.DefA := ⟨fun K => He.ga K "path_coefs", "path_coefs", "path_coefs", defArgs s_path_coefs, defBody s_path_coefs, defScope s_path_coefs, [], []⟩
def d_Poly___init__ : He5.DefA := ⟨fun K => He.ma K (He.ga K "Poly") "__init__", "__init__", "Poly.__init__", defArgs s_Poly___init__, defBody s_Poly___init__, defScope s_Poly___init__, [], []⟩
def d_Table_ways : He5.DefA := ⟨fun K => He.ma K (He.ga K "Table") "ways", "ways", "Table.ways", defArgs s_Table_ways, defBody s_Table_ways, defScope s_Table_ways, [], []⟩
def d_Table_chance : He5.DefA := ⟨fun K => He.ma K (He.ga K "Table") "chance", "chance", "Table.chance", defArgs s_Table_chance, defBody s_Table_chance, defScope s_Table_chance, [], []⟩
def d_Table_mean_cost : He5.DefA := ⟨fun K => He.ma K (He.ga K "Table") "mean_cost", "mean_cost", "Table.mean_cost", defArgs s_Table_mean_cost, defBody s_Table_mean_cost, defScope s_Table_mean_cost, [], [("per_try", .int 1), ("per_look", .int 0)]⟩
def d_Table_mean_length : He5.DefA := ⟨fun K => He.ma K (He.ga K "Table") "mean_length", "mean_length", "Table.mean_length", defArgs s_Table_mean_length, defBody s_Table_mean_length, defScope s_Table_mean_length, [], []⟩
def d_ratio : He5.DefA := ⟨fun K => He.ga K "ratio", "ratio", "ratio", defArgs s_ratio, defBody s_ratio, defScope s_ratio, [.int 1], []⟩
def d_value_of : He5.DefA := ⟨fun K => He.ga K "value_of", "value_of", "value_of", defArgs s_value_of, defBody s_value_of, defScope s_value_of, [], []⟩
def d_Poly___call__ : He5.DefA := ⟨fun K => He.ma K (He.ga K "Poly") "__call__", "__call__", "Poly.__call__", defArgs s_Poly___call__, defBody s_Poly___call__, defScope s_Poly___call__, [], []⟩
def d_law : He5.DefA := ⟨fun K => He.ga K "law", "law", "law", defArgs s_law, defBody s_law, defScope s_law, [], []⟩
def fn : List He5.DefA := [d__law_box, d__law_take, d__law_gcd, d__law_ratio, d__law_word, d__law_parts, d_common_divisor, d_is_share, d_read_number, d_read_share, d_read_word, d_check_table, d_Table_is_end, d_Table_spread, d_Table___contains__, d_Table___init__, d__law_table, d__law_share, d__law_is_integer, d__law_is_ratio, d__law_back, d_Table_words, d_trim, d_padded, d_plus, d_scaled, d_choose, d_path_coefs, d_Poly___init__, d_Table_ways, d_Table_chance, d_Table_mean_cost, d_Table_mean_length, d_ratio, d_value_of, d_Poly___call__, d_law]
def fa : List He.Fa := [.glo "_law_box", .glo "_law_take", .glo "_law_gcd", .glo "_law_ratio", .glo "_law_word", .glo "_law_parts", .glo "common_divisor", .glo "is_share", .glo "read_number", .glo "read_share", .glo "read_word", .glo "check_table", .glo "_law_table", .glo "_law_share", .glo "_law_is_integer", .glo "_law_is_ratio", .glo "_law_back", .glo "trim", .glo "padded", .glo "plus", .glo "scaled", .glo "choose", .glo "path_coefs", .glo "ratio", .glo "value_of", .glo "law", .free "abs", .free "any", .free "bool", .free "dict", .free "int", .free "isinstance", .free "len", .free "list", .free "max", .free "range", .free "str", .free "tuple", .free "zip", .glo "InvalidRatio", .glo "InvalidTable", .glo "InvalidWord", .glo "Poly", .glo "Table", .free "super", .glo "KINDS", .int "MOST_DIGITS" 30, .int "MOST_TRIES" 30, .str "SILENT" "no word"]
abbrev Rw : PySem.W.OpenRow := PySem.W.OpenLaw.row PySem.Challenge.rw_lookstop_k30_chances_at_a_share
abbrev Pg : Program := Rw.prog
abbrev si_InvalidWord : Stmt := inClass (topS 5) 0
def de_InvalidWord : ErD := ⟨"InvalidWord", "InvalidWord.__init__", defArgs si_InvalidWord, defBody si_InvalidWord, defScope si_InvalidWord, ["word"]⟩
def es : List ErD := [de_InvalidWord]
def xs : List Xa := [fun K => polyB K (He.ga K "Poly"), fun K => tableB K (He.ga K "Table"), Xa.tup "KINDS" [.str "at least", .str "below"], fun K => methB K (He.ga K "Table") "is_end", fun K => methB K (He.ga K "Table") "spread", fun K => methB K (He.ga K "Table") "__contains__", fun K => mkB K (He.ga K "Table"), fun K => propB K (He.ga K "Table") "words", fun K => mkB K (He.ga K "Poly"), fun K => methB K (He.ga K "Table") "ways", fun K => methB K (He.ga K "Table") "chance", fun K => methB K (He.ga K "Table") "mean_cost", fun K => methB K (He.ga K "Table") "mean_length", fun K => methB K (He.ga K "Poly") "__call__"]
abbrev hk : PySem.W.Hook := hookV 6 Pg.main.file fa fn es (exOf xs)
def ob (s : PySem.W.SharedT) : AlV := obsVG 6 Pg.main.file fa fn es (exOf xs) (HandSHeadRun.getT s)
theorem ob_eq (s : PySem.W.SharedT) : ob s = hk.obs s.abs := obsVG_eq (HandSHeadRun.getT_eq s)
def loose : List Str := (["_wall", "StopError", "InvalidRatio", "NotExact", "InvalidWord", "InvalidTable", "common_divisor", "ratio", "midpoint", "is_share", "trim", "padded", "plus", "scaled", "minus", "times", "derived", "primitive", "quotient", "remainder"] : List Str) ++ (["common_factor", "split_coefs", "choose", "path_coefs", "value_of", "sign_row_of", "searched", "negative_share", "Poly", "coefs_of", "read_number", "read_share", "read_word", "check_table", "Table", "_law_box", "_law_take", "_law_gcd", "_law_ratio", "_law_word"] : List Str) ++ (["_law_parts", "_law_table", "_law_share", "_law_is_integer", "_law_is_ratio", "_law_back", "NOTHING", "WHOLE", "KINDS", "SILENT", "MOST_DIGITS", "MOST_TRIES"] : List Str)
theorem run (w : World) : HandSHeadRun.RunEq Rw (PySem.W.view Rw.prog [60]) hk ob 8000 loose w := by
  intro os
  kernel_rfl
theorem facts {w : World} {K : PySem.W.Frag} {h : Heap} {mg : Str → Option Value} {f : Addr} (X : K.In h) (G : h.Ns mainGlobals mg) (hfa : mg ("law" : Str) = some (.ref f)) (c : SaysV Pg.main.file fa fn es (exOf xs) K) :
    ∃ fd : FuncData, (∀ (s : Shared) (v : Value), BindsTo s fd ⟨[v], []⟩ [("_law_script", v)]) ∧ ∀ base : Heap, K.In base → base.Ns mainGlobals mg → FnOk Pg w K mg base (L2.CX Pg w) 9 f fd ["_law_script"] (spLaw K) := by
  have cV := c
  replace c := cV.d
  obtain ⟨fd__law_box, F__law_box⟩ := c.def_ 0 (d := d__law_box) rfl
  have g__law_box := He.glo_ok X G (c.fact 0 (f := .glo "_law_box") rfl)
  obtain ⟨fd__law_take, F__law_take⟩ := c.def_ 1 (d := d__law_take) rfl
  have g__law_take := He.glo_ok X G (c.fact 1 (f := .glo "_law_take") rfl)
  obtain ⟨fd__law_gcd, F__law_gcd⟩ := c.def_ 2 (d := d__law_gcd) rfl
  have g__law_gcd := He.glo_ok X G (c.fact 2 (f := .glo "_law_gcd") rfl)
  obtain ⟨fd__law_ratio, F__law_ratio⟩ := c.def_ 3 (d := d__law_ratio) rfl
  have g__law_ratio := He.glo_ok X G (c.fact 3 (f := .glo "_law_ratio") rfl)
  obtain ⟨fd__law_word, F__law_word⟩ := c.def_ 4 (d := d__law_word) rfl
  have g__law_word := He.glo_ok X G (c.fact 4 (f := .glo "_law_word") rfl)
  obtain ⟨fd__law_parts, F__law_parts⟩ := c.def_ 5 (d := d__law_parts) rfl
  have g__law_parts := He.glo_ok X G (c.fact 5 (f := .glo "_law_parts") rfl)
  obtain ⟨fd_common_divisor, F_common_divisor⟩ := c.def_ 6 (d := d_common_divisor) rfl
  have g_common_divisor := He.glo_ok X G (c.fact 6 (f := .glo "common_divisor") rfl)
  obtain ⟨fd_is_share, F_is_share⟩ := c.def_ 7 (d := d_is_share) rfl
  have g_is_share := He.glo_ok X G (c.fact 7 (f := .glo "is_share") rfl)
  obtain ⟨fd_read_number, F_read_number⟩ := c.def_ 8 (d := d_read_number) rfl
  have g_read_number := He.glo_ok X G (c.fact 8 (f := .glo "read_number") rfl)
  obtain ⟨fd_read_share, F_read_share⟩ := c.def_ 9 (d := d_read_share) rfl
  have g_read_share := He.glo_ok X G (c.fact 9 (f := .glo "read_share") rfl)
  obtain ⟨fd_read_word, F_read_word⟩ := c.def_ 10 (d := d_read_word) rfl
  have g_read_word := He.glo_ok X G (c.fact 10 (f := .glo "read_word") rfl)
  obtain ⟨fd_check_table, F_check_table⟩ := c.def_ 11 (d := d_check_table) rfl
  have g_check_table := He.glo_ok X G (c.fact 11 (f := .glo "check_table") rfl)
  obtain ⟨fd_Table_is_end, F_Table_is_end⟩ := c.def_ 12 (d := d_Table_is_end) rfl
  obtain ⟨fd_Table_spread, F_Table_spread⟩ := c.def_ 13 (d := d_Table_spread) rfl
  obtain ⟨fd_Table___contains__, F_Table___contains__⟩ := c.def_ 14 (d := d_Table___contains__) rfl
  obtain ⟨fd_Table___init__, F_Table___init__⟩ := c.def_ 15 (d := d_Table___init__) rfl
  obtain ⟨fd__law_table, F__law_table⟩ := c.def_ 16 (d := d__law_table) rfl
  have g__law_table := He.glo_ok X G (c.fact 12 (f := .glo "_law_table") rfl)
  obtain ⟨fd__law_share, F__law_share⟩ := c.def_ 17 (d := d__law_share) rfl
  have g__law_share := He.glo_ok X G (c.fact 13 (f := .glo "_law_share") rfl)
  obtain ⟨fd__law_is_integer, F__law_is_integer⟩ := c.def_ 18 (d := d__law_is_integer) rfl
  have g__law_is_integer := He.glo_ok X G (c.fact 14 (f := .glo "_law_is_integer") rfl)
  obtain ⟨fd__law_is_ratio, F__law_is_ratio⟩ := c.def_ 19 (d := d__law_is_ratio) rfl
  have g__law_is_ratio := He.glo_ok X G (c.fact 15 (f := .glo "_law_is_ratio") rfl)
  obtain ⟨fd__law_back, F__law_back⟩ := c.def_ 20 (d := d__law_back) rfl
  have g__law_back := He.glo_ok X G (c.fact 16 (f := .glo "_law_back") rfl)
  obtain ⟨fd_Table_words, F_Table_words⟩ := c.def_ 21 (d := d_Table_words) rfl
  obtain ⟨fd_trim, F_trim⟩ := c.def_ 22 (d := d_trim) rfl
  have g_trim := He.glo_ok X G (c.fact 17 (f := .glo "trim") rfl)
  obtain ⟨fd_padded, F_padded⟩ := c.def_ 23 (d := d_padded) rfl
  have g_padded := He.glo_ok X G (c.fact 18 (f := .glo "padded") rfl)
  obtain ⟨fd_plus, F_plus⟩ := c.def_ 24 (d := d_plus) rfl
  have g_plus := He.glo_ok X G (c.fact 19 (f := .glo "plus") rfl)
  obtain ⟨fd_scaled, F_scaled⟩ := c.def_ 25 (d := d_scaled) rfl
  have g_scaled := He.glo_ok X G (c.fact 20 (f := .glo "scaled") rfl)
  obtain ⟨fd_choose, F_choose⟩ := c.def_ 26 (d := d_choose) rfl
  have g_choose := He.glo_ok X G (c.fact 21 (f := .glo "choose") rfl)
  obtain ⟨fd_path_coefs, F_path_coefs⟩ := c.def_ 27 (d := d_path_coefs) rfl
  have g_path_coefs := He.glo_ok X G (c.fact 22 (f := .glo "path_coefs") rfl)
  obtain ⟨fd_Poly___init__, F_Poly___init__⟩ := c.def_ 28 (d := d_Poly___init__) rfl
  obtain ⟨fd_Table_ways, F_Table_ways⟩ := c.def_ 29 (d := d_Table_ways) rfl
  obtain ⟨fd_Table_chance, F_Table_chance⟩ := c.def_ 30 (d := d_Table_chance) rfl
  obtain ⟨fd_Table_mean_cost, F_Table_mean_cost⟩ := c.def_ 31 (d := d_Table_mean_cost) rfl
  obtain ⟨fd_Table_mean_length, F_Table_mean_length⟩ := c.def_ 32 (d := d_Table_mean_length) rfl
  obtain ⟨fd_ratio, F_ratio⟩ := c.def_ 33 (d := d_ratio) rfl
  have g_ratio := He.glo_ok X G (c.fact 23 (f := .glo "ratio") rfl)
  obtain ⟨fd_value_of, F_value_of⟩ := c.def_ 34 (d := d_value_of) rfl
  have g_value_of := He.glo_ok X G (c.fact 24 (f := .glo "value_of") rfl)
  obtain ⟨fd_Poly___call__, F_Poly___call__⟩ := c.def_ 35 (d := d_Poly___call__) rfl
  obtain ⟨fd_law, F_law⟩ := c.def_ 36 (d := d_law) rfl
  have g_law := He.glo_ok X G (c.fact 25 (f := .glo "law") rfl)
  have m_abs := He.free_ok X G (c.fact 26 (f := .free "abs") rfl)
  have m_any := He.free_ok X G (c.fact 27 (f := .free "any") rfl)
  have m_bool := He.free_ok X G (c.fact 28 (f := .free "bool") rfl)
  have m_dict := He.free_ok X G (c.fact 29 (f := .free "dict") rfl)
  have m_int := He.free_ok X G (c.fact 30 (f := .free "int") rfl)
  have m_isinstance := He.free_ok X G (c.fact 31 (f := .free "isinstance") rfl)
  have m_len := He.free_ok X G (c.fact 32 (f := .free "len") rfl)
  have m_list := He.free_ok X G (c.fact 33 (f := .free "list") rfl)
  have m_max := He.free_ok X G (c.fact 34 (f := .free "max") rfl)
  have m_range := He.free_ok X G (c.fact 35 (f := .free "range") rfl)
  have m_str := He.free_ok X G (c.fact 36 (f := .free "str") rfl)
  have m_tuple := He.free_ok X G (c.fact 37 (f := .free "tuple") rfl)
  have m_zip := He.free_ok X G (c.fact 38 (f := .free "zip") rfl)
  have g_InvalidRatio := He.glo_ok X G (c.fact 39 (f := .glo "InvalidRatio") rfl)
  have g_InvalidTable := He.glo_ok X G (c.fact 40 (f := .glo "InvalidTable") rfl)
  have g_InvalidWord := He.glo_ok X G (c.fact 41 (f := .glo "InvalidWord") rfl)
  have g_Poly := He.glo_ok X G (c.fact 42 (f := .glo "Poly") rfl)
  have g_Table := He.glo_ok X G (c.fact 43 (f := .glo "Table") rfl)
  have m_super := He.free_ok X G (c.fact 44 (f := .free "super") rfl)
  have pc_Poly := polyB_ok (cV.xa 0 (x := fun K => polyB K (He.ga K "Poly")) rfl)
  have pc_Table := tableB_ok (cV.xa 1 (x := fun K => tableB K (He.ga K "Table")) rfl)
  have g_KINDS := He.glo_ok X G (c.fact 45 (f := .glo "KINDS") rfl)
  have k_KINDS : ∀ F, Rp K F d_KINDS (.ref (He.ga K "KINDS")) := fun F => rp_tup.mpr ⟨_, _, rfl, cV.tup 2 (x := "KINDS") (vs := [.str "at least", .str "below"]) rfl F, .cons (rp_str.mpr rfl) (.cons (rp_str.mpr rfl) (.nil))⟩
  have r_KINDS : RelV (.ref (He.ga K "KINDS")) (.ref (He.ga K "KINDS")) := rfl
  obtain ⟨t_MOST_DIGITS, g_MOST_DIGITS⟩ := He.int_ok X G (c.fact 46 (f := .int "MOST_DIGITS" 30) rfl)
  have k_MOST_DIGITS : ∀ F, Rp K F d_MOST_DIGITS (.int 30) := fun F => rp_int.mpr rfl
  have r_MOST_DIGITS : RelV (.int 30) (.int 30 t_MOST_DIGITS) := ⟨_, rfl⟩
  obtain ⟨t_MOST_TRIES, g_MOST_TRIES⟩ := He.int_ok X G (c.fact 47 (f := .int "MOST_TRIES" 30) rfl)
  have k_MOST_TRIES : ∀ F, Rp K F d_MOST_TRIES (.int 30) := fun F => rp_int.mpr rfl
  have r_MOST_TRIES : RelV (.int 30) (.int 30 t_MOST_TRIES) := ⟨_, rfl⟩
  obtain ⟨t_SILENT, g_SILENT⟩ := He.str_ok X G (c.fact 48 (f := .str "SILENT" "no word") rfl)
  have k_SILENT : ∀ F, Rp K F d_SILENT (.str "no word") := fun F => rp_str.mpr rfl
  have r_SILENT : RelV (.str "no word") (.str "no word" t_SILENT) := ⟨_, rfl⟩
  have e := hfa.symm.trans g_law
  cases e
  have b_law := FunD.bindsA (ps := ["_law_script"]) F_law fun _ _ _ _ _ _ us hl => match us, hl with | [_], _ => rfl
  refine ⟨fd_law, fun s v => b_law s [v] rfl, fun base _ _ => ?_⟩
  obtain ⟨fdI_InvalidWord, I_InvalidWord, X_InvalidWord, N_InvalidWord⟩ := cV.err (P := Pg) 0 (d := de_InvalidWord) rfl
  have er_InvalidWord : Er Pg w K mg base 1 "InvalidWord" "word" "word" (He.ga K "InvalidWord") := ⟨g_InvalidWord, I_InvalidWord.oc, _, fdI_InvalidWord, I_InvalidWord.iC, I_InvalidWord.tI, binds_ks I_InvalidWord (fun _ _ _ _ _ _ _ us hl => match us, hl with | [_, _], _ => rfl), init_ok1 (k := 0) rfl I_InvalidWord (N_InvalidWord _ (by simp [de_InvalidWord])) m_super (by kernel_rfl) (NdefX.nscope_by (by decide +kernel)) (by kernel_rfl) rfl rfl (fun _ _ => ⟨_, rfl⟩) (fun _ _ => rfl) (fun _ _ => rfl) (by decide) (by decide)⟩
  have n_InvalidWord_word := N_InvalidWord "word" (by simp [de_InvalidWord])
  have c__law_box : Fn Pg w K mg base 1 "_law_box" ["_law_script"] [] (spBox K) := ⟨_, fd__law_box, [], g__law_box, F__law_box.kp, F__law_box.bindsN fun _ _ _ _ _ _ us hl => match us, hl with | [_], _ => rfl, .nil, ok__law_box (k := 0) F__law_box m_abs m_int⟩
  have c__law_take : Fn Pg w K mg base 1 "_law_take" ["_law_box_here", "_law_size"] [] (spB K 2 ph_take) := ⟨_, fd__law_take, [], g__law_take, F__law_take.kp, F__law_take.bindsN fun _ _ _ _ _ _ us hl => match us, hl with | [_, _], _ => rfl, .nil, ok__law_take (k := 0) F__law_take m_int m_len⟩
  have c__law_gcd : Fn Pg w K mg base 1 "_law_gcd" ["_law_a", "_law_b"] [] (spD K 2 ph_gcd) := ⟨_, fd__law_gcd, [], g__law_gcd, F__law_gcd.kp, F__law_gcd.bindsN fun _ _ _ _ _ _ us hl => match us, hl with | [_, _], _ => rfl, .nil, ok__law_gcd (k := 0) F__law_gcd m_abs m_int⟩
  have c__law_ratio : Fn Pg w K mg base 2 "_law_ratio" ["_law_num", "_law_den"] [] (spD K 2 ph_ratio) := ⟨_, fd__law_ratio, [], g__law_ratio, F__law_ratio.kp, F__law_ratio.bindsN fun _ _ _ _ _ _ us hl => match us, hl with | [_, _], _ => rfl, .nil, ok__law_ratio (k := 1) F__law_ratio (c__law_gcd.mono (by decide))⟩
  have c__law_word : Fn Pg w K mg base 3 "_law_word" ["_law_box_here"] [] (spB K 1 ph__law_word) := ⟨_, fd__law_word, [], g__law_word, F__law_word.kp, F__law_word.bindsN fun _ _ _ _ _ _ us hl => match us, hl with | [_], _ => rfl, .nil, ok__law_word (k := 2) F__law_word m_int m_str (c__law_take.mono (by decide)) (c__law_ratio.mono (by decide))⟩
  have c__law_parts : Fn Pg w K mg base 4 "_law_parts" ["_law_box_here", "_law_most"] [] (spB K 2 ph__law_parts) := ⟨_, fd__law_parts, [], g__law_parts, F__law_parts.kp, F__law_parts.bindsN fun _ _ _ _ _ _ us hl => match us, hl with | [_, _], _ => rfl, .nil, ok__law_parts (k := 3) F__law_parts m_int m_range (c__law_take.mono (by decide)) (c__law_word.mono (by decide))⟩
  have c_common_divisor : Fn Pg w K mg base 1 "common_divisor" ["first", "second"] [] (spD K 2 ph_gcd) := ⟨_, fd_common_divisor, [], g_common_divisor, F_common_divisor.kp, F_common_divisor.bindsN fun _ _ _ _ _ _ us hl => match us, hl with | [_, _], _ => rfl, .nil, ok_common_divisor (k := 0) F_common_divisor m_abs⟩
  have c_is_share : Fn Pg w K mg base 2 "is_share" ["value"] [] (spD K 1 ph_is_share) := ⟨_, fd_is_share, [], g_is_share, F_is_share.kp, F_is_share.bindsN fun _ _ _ _ _ _ us hl => match us, hl with | [_], _ => rfl, .nil, ok_is_share (k := 1) F_is_share (c_common_divisor.mono (by decide))⟩
  have c_read_number : Fn Pg w K mg base 1 "read_number" ["text", "most"] [] (spD K 2 ph_read_number) := ⟨_, fd_read_number, [], g_read_number, F_read_number.kp, F_read_number.bindsN fun _ _ _ _ _ _ us hl => match us, hl with | [_, _], _ => rfl, .nil, ok_read_number (k := 0) F_read_number m_any m_int m_len⟩
  have c_read_share : Fn Pg w K mg base 3 "read_share" ["text"] [] (spD K 1 ph_read_share) := ⟨_, fd_read_share, [], g_read_share, F_read_share.kp, F_read_share.bindsN fun _ _ _ _ _ _ us hl => match us, hl with | [_], _ => rfl, .nil, ok_read_share (k := 2) F_read_share (c_is_share.mono (by decide)) (c_read_number.mono (by decide)) g_MOST_DIGITS r_MOST_DIGITS k_MOST_DIGITS⟩
  have c_read_word : Fn Pg w K mg base 4 "read_word" ["word"] [] (spD K 1 (ph_read_word (He.ga K "InvalidWord"))) := ⟨_, fd_read_word, [], g_read_word, F_read_word.kp, F_read_word.bindsN fun _ _ _ _ _ _ us hl => match us, hl with | [_], _ => rfl, .nil, ok_read_word (k := 3) F_read_word m_len (c_read_share.mono (by decide)) g_InvalidWord er_InvalidWord (by decide) g_KINDS r_KINDS k_KINDS g_SILENT r_SILENT k_SILENT⟩
  have c_check_table : Fn Pg w K mg base 5 "check_table" ["limit", "looks", "rule"] [] (spD K 3 ph_check_table) := ⟨_, fd_check_table, [], g_check_table, F_check_table.kp, F_check_table.bindsN fun _ _ _ _ _ _ us hl => match us, hl with | [_, _, _], _ => rfl, .nil, ok_check_table (k := 4) F_check_table m_any m_len m_range (c_read_word.mono (by decide)) g_InvalidTable g_MOST_TRIES r_MOST_TRIES k_MOST_TRIES⟩
  have c_Table_is_end : FnM Pg w K mg base 1 (He.ga K "Table") "is_end" ["self", "wins", "losses"] [] (spD K 3 (ph_Table_is_end (He.ga K "Table"))) := ⟨_, fd_Table_is_end, [], methB_ok (cV.xa 3 (x := fun K => methB K (He.ga K "Table") "is_end") rfl), F_Table_is_end.bindsN fun _ _ _ _ _ _ us hl => match us, hl with | [_, _, _], _ => rfl, .nil, ok_Table_is_end (k := 0) F_Table_is_end pc_Table⟩
  have c_Table_spread : FnM Pg w K mg base 2 (He.ga K "Table") "spread" ["self", "wins", "losses"] [] (spD K 3 (ph_Table_spread (He.ga K "Table"))) := ⟨_, fd_Table_spread, [], methB_ok (cV.xa 4 (x := fun K => methB K (He.ga K "Table") "spread") rfl), F_Table_spread.bindsN fun _ _ _ _ _ _ us hl => match us, hl with | [_, _, _], _ => rfl, .nil, ok_Table_spread (k := 1) F_Table_spread m_range (c_Table_is_end.mono (by decide)) pc_Table⟩
  have c_Table___contains__ : FnM Pg w K mg base 2 (He.ga K "Table") "__contains__" ["self", "counts"] [] (spD K 2 (ph_Table___contains__ (He.ga K "Table"))) := ⟨_, fd_Table___contains__, [], methB_ok (cV.xa 5 (x := fun K => methB K (He.ga K "Table") "__contains__") rfl), F_Table___contains__.bindsN fun _ _ _ _ _ _ us hl => match us, hl with | [_, _], _ => rfl, .nil, ok_Table___contains__ (k := 1) F_Table___contains__ (c_Table_is_end.mono (by decide)) pc_Table⟩
  have mk_Table := mkB_ok (cV.xa 6 (x := fun K => mkB K (He.ga K "Table")) rfl)
  have c_Table : FnC Pg w K mg base 7 "Table" 3 (ph_Table___init__ (He.ga K "Table")) := ⟨_, g_Table, mk_Table.kp, mk_spD mk_Table (raw0 (ok_Table___init__ (k := 5) F_Table___init__ m_range m_tuple (c_check_table.mono (by decide)) (c_Table_spread.mono (by decide)) (c_Table___contains__.mono (by decide)) pc_Table) (F_Table___init__.bindsN fun _ _ _ _ _ _ us hl => match us, hl with | [_, _, _, _], _ => rfl)) StX.cxUp⟩
  have c__law_table : Fn Pg w K mg base 8 "_law_table" ["_law_parts_here"] [] (spD K 1 (ph__law_table (He.ga K "Table"))) := ⟨_, fd__law_table, [], g__law_table, F__law_table.kp, F__law_table.bindsN fun _ _ _ _ _ _ us hl => match us, hl with | [_], _ => rfl, .nil, ok__law_table (k := 7) F__law_table m_dict m_list g_Table (c_Table.mono (by decide)) pc_Table⟩
  have c__law_share : Fn Pg w K mg base 3 "_law_share" ["_law_box_here", "_law_most"] [] (spB K 2 ph__law_share) := ⟨_, fd__law_share, [], g__law_share, F__law_share.kp, F__law_share.bindsN fun _ _ _ _ _ _ us hl => match us, hl with | [_, _], _ => rfl, .nil, ok__law_share (k := 2) F__law_share (c__law_take.mono (by decide)) (c__law_ratio.mono (by decide))⟩
  have c__law_is_integer : Fn Pg w K mg base 1 "_law_is_integer" ["_law_value"] [] (spD K 1 ph__law_is_integer) := ⟨_, fd__law_is_integer, [], g__law_is_integer, F__law_is_integer.kp, F__law_is_integer.bindsN fun _ _ _ _ _ _ us hl => match us, hl with | [_], _ => rfl, .nil, ok__law_is_integer (k := 0) F__law_is_integer m_bool m_int m_isinstance⟩
  have c__law_is_ratio : Fn Pg w K mg base 2 "_law_is_ratio" ["_law_value"] [] (spD K 1 ph__law_is_ratio) := ⟨_, fd__law_is_ratio, [], g__law_is_ratio, F__law_is_ratio.kp, F__law_is_ratio.bindsN fun _ _ _ _ _ _ us hl => match us, hl with | [_], _ => rfl, .nil, ok__law_is_ratio (k := 1) F__law_is_ratio m_isinstance m_len m_tuple (c__law_gcd.mono (by decide)) (c__law_is_integer.mono (by decide))⟩
  have c__law_back : Fn Pg w K mg base 1 "_law_back" ["_law_parts_here", "_law_word_here", "_law_at"] [] (spD K 3 ph__law_back) := ⟨_, fd__law_back, [], g__law_back, F__law_back.kp, F__law_back.bindsN fun _ _ _ _ _ _ us hl => match us, hl with | [_, _, _], _ => rfl, .nil, ok__law_back (k := 0) F__law_back m_int m_range⟩
  have c_Table_words : FnP Pg w K mg base 2 (He.ga K "Table") "words" (ph_Table_words (He.ga K "Table")) := ⟨_, _, _, fd_Table_words, _, Nat.le_refl _, propB_ok (cV.xa 7 (x := fun K => propB K (He.ga K "Table") "words") rfl), F_Table_words.bindsN fun _ _ _ _ _ _ us hl => match us, hl with | [_], _ => rfl, ok_Table_words (k := 0) F_Table_words m_tuple pc_Table⟩
  have c_trim : Fn Pg w K mg base 1 "trim" ["coefs"] [] (spD K 1 ph_trim) := ⟨_, fd_trim, [], g_trim, F_trim.kp, F_trim.bindsN fun _ _ _ _ _ _ us hl => match us, hl with | [_], _ => rfl, .nil, ok_trim (k := 0) F_trim m_len m_tuple⟩
  have c_padded : Fn Pg w K mg base 1 "padded" ["coefs", "size"] [] (spD K 2 ph_padded) := ⟨_, fd_padded, [], g_padded, F_padded.kp, F_padded.bindsN fun _ _ _ _ _ _ us hl => match us, hl with | [_, _], _ => rfl, .nil, ok_padded (k := 0) F_padded m_len m_tuple⟩
  have c_plus : Fn Pg w K mg base 2 "plus" ["first", "second"] [] (spD K 2 ph_plus) := ⟨_, fd_plus, [], g_plus, F_plus.kp, F_plus.bindsN fun _ _ _ _ _ _ us hl => match us, hl with | [_, _], _ => rfl, .nil, ok_plus (k := 1) F_plus m_len m_max m_zip (c_trim.mono (by decide)) (c_padded.mono (by decide))⟩
  have c_scaled : Fn Pg w K mg base 2 "scaled" ["coefs", "factor"] [] (spD K 2 ph_scaled) := ⟨_, fd_scaled, [], g_scaled, F_scaled.kp, F_scaled.bindsN fun _ _ _ _ _ _ us hl => match us, hl with | [_, _], _ => rfl, .nil, ok_scaled (k := 1) F_scaled (c_trim.mono (by decide))⟩
  have c_choose : Fn Pg w K mg base 1 "choose" ["many", "some"] [] (spD K 2 ph_choose) := ⟨_, fd_choose, [], g_choose, F_choose.kp, F_choose.bindsN fun _ _ _ _ _ _ us hl => match us, hl with | [_, _], _ => rfl, .nil, ok_choose (k := 0) F_choose m_range⟩
  have c_path_coefs : Fn Pg w K mg base 2 "path_coefs" ["wins", "losses"] [] (spD K 2 ph_path_coefs) := ⟨_, fd_path_coefs, [], g_path_coefs, F_path_coefs.kp, F_path_coefs.bindsN fun _ _ _ _ _ _ us hl => match us, hl with | [_, _], _ => rfl, .nil, ok_path_coefs (k := 1) F_path_coefs m_range m_tuple (c_choose.mono (by decide))⟩
  have mk_Poly := mkB_ok (cV.xa 8 (x := fun K => mkB K (He.ga K "Poly")) rfl)
  have c_Poly : FnS Pg w K mg base 3 "Poly" (ph_Poly___init__ (He.ga K "Poly")) := ⟨_, g_Poly, mk_Poly.kp, mk_spSt mk_Poly (ok_Poly___init__ (k := 1) F_Poly___init__ (c_trim.mono (by decide)) pc_Poly) StX.cxUp⟩
  have c_Table_ways : FnM Pg w K mg base 1 (He.ga K "Table") "ways" ["self", "wins", "losses"] [] (spD K 3 (ph_Table_ways (He.ga K "Table"))) := ⟨_, fd_Table_ways, [], methB_ok (cV.xa 9 (x := fun K => methB K (He.ga K "Table") "ways") rfl), F_Table_ways.bindsN fun _ _ _ _ _ _ us hl => match us, hl with | [_, _, _], _ => rfl, .nil, ok_Table_ways (k := 0) F_Table_ways pc_Table⟩
  have c_Table_chance : FnM Pg w K mg base 4 (He.ga K "Table") "chance" ["self", "word"] [] (spD K 2 (ph_Table_chance (He.ga K "Table") (He.ga K "Poly"))) := ⟨_, fd_Table_chance, [], methB_ok (cV.xa 10 (x := fun K => methB K (He.ga K "Table") "chance") rfl), F_Table_chance.bindsN fun _ _ _ _ _ _ us hl => match us, hl with | [_, _], _ => rfl, .nil, ok_Table_chance (k := 3) F_Table_chance (c_plus.mono (by decide)) (c_scaled.mono (by decide)) (c_path_coefs.mono (by decide)) g_Poly (c_Poly.mono (by decide)) (c_Table_ways.mono (by decide)) pc_Table⟩
  obtain ⟨ds_Table_mean_cost, v_Table_mean_cost, b_Table_mean_cost⟩ := F_Table_mean_cost.binds0 (ps := ["self", "per_try", "per_look"]) 1 (List.cons_ne_nil _ _) rfl fun _ _ _ _ _ _ us ks h1 h2 => match us, ks, h1, h2 with | [_], [_, _], _, _ => ⟨_, _, _, _, _, _, rfl, rfl, ⟨_, _, _, _, _, _, rfl, rfl, rfl⟩⟩
  have c_Table_mean_cost : FnM Pg w K mg base 4 (He.ga K "Table") "mean_cost" ["self", "per_try", "per_look"] [.int 1, .int 0] (spD K 3 (ph_Table_mean_cost (He.ga K "Table") (He.ga K "Poly"))) := ⟨_, fd_Table_mean_cost, ds_Table_mean_cost, methB_ok (cV.xa 11 (x := fun K => methB K (He.ga K "Table") "mean_cost") rfl), b_Table_mean_cost, v_Table_mean_cost, ok_Table_mean_cost (k := 3) F_Table_mean_cost m_len (c_plus.mono (by decide)) (c_scaled.mono (by decide)) (c_path_coefs.mono (by decide)) g_Poly (c_Poly.mono (by decide)) (c_Table_ways.mono (by decide)) pc_Table⟩
  have c_Table_mean_length : FnM Pg w K mg base 5 (He.ga K "Table") "mean_length" ["self"] [] (spD K 1 (ph_Table_mean_length (He.ga K "Table") (He.ga K "Poly"))) := ⟨_, fd_Table_mean_length, [], methB_ok (cV.xa 12 (x := fun K => methB K (He.ga K "Table") "mean_length") rfl), F_Table_mean_length.bindsN fun _ _ _ _ _ _ us hl => match us, hl with | [_], _ => rfl, .nil, ok_Table_mean_length (k := 4) F_Table_mean_length (c_Table_mean_cost.mono (by decide)) pc_Table⟩
  obtain ⟨ds_ratio, v_ratio, b_ratio⟩ := F_ratio.binds1 (ps := ["num", "den"]) 2 1 (List.cons_ne_nil _ _) rfl fun _ _ _ _ _ _ _ us its h1 h2 => match us, its, h1, h2 with | [_, _], [_], _, _ => ⟨_, rfl, rfl⟩
  cases v_ratio
  have k_ratio := ok_ratio (P := Pg) (w := w) (mg := mg) (base := base) (k := 1) F_ratio (c_common_divisor.mono (by decide)) g_InvalidRatio
  have c_ratio : Fn Pg w K mg base 2 "ratio" ["num", "den"] [] (spD K 2 ph_ratio) := ⟨_, fd_ratio, [], g_ratio, F_ratio.kp, b_ratio, .nil, k_ratio⟩
  have c_value_of : Fn Pg w K mg base 1 "value_of" ["coefs", "at"] [] (spD K 2 ph_value_of) := ⟨_, fd_value_of, [], g_value_of, F_value_of.kp, F_value_of.bindsN fun _ _ _ _ _ _ us hl => match us, hl with | [_, _], _ => rfl, .nil, ok_value_of (k := 0) F_value_of ⟩
  have c_Poly___call__ : FnM Pg w K mg base 3 (He.ga K "Poly") "__call__" ["self", "at"] [] (spD K 2 (ph_Poly___call__ (He.ga K "Poly"))) := ⟨_, fd_Poly___call__, [], methB_ok (cV.xa 13 (x := fun K => methB K (He.ga K "Poly") "__call__") rfl), F_Poly___call__.bindsN fun _ _ _ _ _ _ us hl => match us, hl with | [_, _], _ => rfl, .nil, ok_Poly___call__ (k := 2) F_Poly___call__ (c_ratio.mono (by decide)) (c_value_of.mono (by decide)) pc_Poly⟩
  exact ok_law (k := 8) F_law m_len (c__law_box.mono (by decide)) (c__law_take.mono (by decide)) (c__law_parts.mono (by decide)) (c__law_table.mono (by decide)) (c__law_share.mono (by decide)) (c__law_is_ratio.mono (by decide)) (c__law_back.mono (by decide)) (c_Table_words.mono (by decide)) (c_Table_chance.mono (by decide)) (c_Table_mean_length.mono (by decide)) (c_Poly___call__.mono (by decide)) pc_Table pc_Poly
end Lk
open PySem PySem.W PySem.Calls PyProof.Rows
set_option maxRecDepth 100000 in
set_option maxHeartbeats 0 in
theorem PySem.Challenge.cw_lookstop_k30_chances_at_a_share_holds : PySem.Challenge.rw_lookstop_k30_chances_at_a_share.Holds := by
  w_on; o_law
  refine HandSHeadRun.head_any (r := OpenLaw.row PySem.Challenge.rw_lookstop_k30_chances_at_a_share) (q := view (OpenLaw.row PySem.Challenge.rw_lookstop_k30_chances_at_a_share).prog [60]) (H := Lk.hk) (ob := Lk.ob) (M := 8000) (loose := Lk.loose) (d := HandSHeadRun.topDef (OpenLaw.row PySem.Challenge.rw_lookstop_k30_chances_at_a_share).prog 60) (kwd := []) Lk.ob_eq
    (by kernel_rfl) (fun s => by kernel_rfl) Lk.run (by kernel_rfl) (by kernel_rfl) (by kernel_rfl) (by rfl) (by first | assumption | decide +kernel) (by decide +kernel) ⟨rfl, rfl, rfl, rfl, rfl, by decide +kernel⟩ ?hw ?hc
  case hw => w_witness2
  case hc =>
    refine VS.walk_ofW (l := PySem.Challenge.rw_lookstop_k30_chances_at_a_share) (n := 63) (k := 9) (x := "_law_script") rfl (by decide) (by kernel_rfl) ⟨rfl, by decide, by decide⟩ ?F
    intro w mg fa h Y G hmg0
    obtain ⟨K, KX, c⟩ := Y
    have hmg : mg ("law" : PySem.Str) = some (.ref fa) := by
      have e : (HandSHeadRun.topDef (OpenLaw.row PySem.Challenge.rw_lookstop_k30_chances_at_a_share).prog 60).name = ("law" : PySem.Str) := by kernel_rfl
      rw [← e]
      exact hmg0
    obtain ⟨fd, hb, hF⟩ := Lk.facts (w := w) KX G hmg c
    exact ⟨K, fd, VS.spLaw K, KX, hb, fun H a ns hl _ hS => ⟨a, ns, rfl, hS, hl, fun _ => rfl⟩, hF⟩
