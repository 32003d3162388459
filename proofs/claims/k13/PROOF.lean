import PyProof.Rows.All
import Wide.All
import OpenK.AllK
import Wide.FinOn
import HandS.ForMost
import HandS.ForExc
import HandS.Wide
import HandS.Defaults
import HandS.IsInst
import HandS.TupLe
import HandS.Style
import HandS.Head0
import HandS.Head1
import HandS.Head2
import HandS.HeadEnd
import HandS.HeadHook1
import HandS.HeadHook2
import HandS.TupMul
import HandS.TupAny
import HandS.Zip
import HandS.Star
import HandS.ExcInit
import HandS.Nested
import KE.KExcSuper
import HandS.ExcIs
import HandS.ExcField
import HandS.ExcOwn
import KE.KExcIs
import HandS.HeadNt
import HandS.Text
import HandS.Codes
import HandS.Iter
import HandS.FStr
import KE.GoesMore
import KE.GoesEnum
import HandS.Property
import HandS.ClsMeth
import KE.KOpsOwn
import KE.KCallOwn
import PyProof.InstNe
import PyProof.ExcBaseAll.ValueError
import PySem.Challenge.RW_lookstop_k13_whole_repeated_factors_spli
set_option Elab.async false
set_option linter.all false
set_option maxRecDepth 100000
/-! Values without a heap: data, where they stand, and the program's steps read over data alone. -/
namespace VS
open PySem PySem.Spec L2

/-- data -/
inductive Dt where
  | non | bl (b : Bool) | int (i : Int) | str (x : Str) | ty (n : String) | adr (a : Addr)
  | tup (xs : List Dt) | lst (xs : List Dt) | frl (xs : List Dt)
  | dT (ks : List (List Key)) (xs : List Dt)
  | dK (ks : List Key) (xs : List Dt)
  | obj (C : Addr) (ns : List Str) (xs : List Dt)
  | exv (a : Addr) (ns : List Str) (xs : List Dt) (d : Option Addr)
  | at_ (a : Addr) (d : Dt)
  | key (ks : List Key)

mutual
/-- v is d in the heap F -/
def Rp (K : PySem.W.Frag) (F : Hp) : Dt → V → Prop
  | .non, v => v = .non
  | .bl b, v => v = .bl b
  | .int i, v => v = .int i
  | .str x, v => v = .str x
  | .ty n, v => v = .ty n
  | .adr a, v => v = .ref a
  | .tup xs, v => ∃ a vs, v = .ref a ∧ SqT K F a vs ∧ RpL K F xs vs
  | .lst xs, v => ∃ a vs, v = .ref a ∧ F a = some (.lst vs) ∧ RpL K F xs vs
  | .frl xs, v => ∃ a vs, v = .ref a ∧ SqL K F a vs ∧ RpL K F xs vs
  | .dT ks xs, v => ∃ a vs, v = .ref a ∧ Rd F a (.dT (ks.zip vs)) ∧ ks.length = vs.length ∧ RpL K F xs vs
  | .dK ks xs, v => ∃ a vs, v = .ref a ∧ Rd F a (.dK (ks.zip vs)) ∧ ks.length = vs.length ∧ RpL K F xs vs
  | .obj C ns xs, v => ∃ a dx vs, v = .ref a ∧ F a = some (.ins C dx (ns.zip vs)) ∧ ns.length = vs.length ∧ RpL K F xs vs
  | .exv a ns xs d, v => v = .ref a ∧ ∀ dx, d = some dx → ∃ vs, F dx = some (.xd (ns.zip vs)) ∧ ns.length = vs.length ∧ RpL K F xs vs
  | .at_ a d, v => v = .ref a ∧ Rp K F d v
  | .key ks, v => ∃ a, v = .ref a ∧ F a = some (.tup (ks.map kV))
def RpL (K : PySem.W.Frag) (F : Hp) : List Dt → List V → Prop
  | [], vs => vs = []
  | d :: ds, vs => ∃ v r, vs = v :: r ∧ Rp K F d v ∧ RpL K F ds r
end

theorem sq_t {K : PySem.W.Frag} {F F' : Hp} {a : Addr} {xs : List V} (e : Same F F') (h : SqT K F a xs) : SqT K F' a xs := by
  rcases h with (h | ⟨o, h⟩) | h
  · exact .inl (.inl (e _ _ h))
  · exact .inl (.inr ⟨o, e _ _ h⟩)
  · exact .inr h

theorem rd_mono {F F' : Hp} {a : Addr} {u : HO} (e : Same F F') (h : Rd F a u) : Rd F' a u := by
  rcases h with h | ⟨o, h⟩
  · exact .inl (e _ _ h)
  · exact .inr ⟨o, e _ _ h⟩

mutual
theorem Rp.mono {K : PySem.W.Frag} {F F' : Hp} (e : Same F F') : ∀ {d : Dt} {v : V}, Rp K F d v → Rp K F' d v
  | .non, _, h => by simp only [Rp] at h ⊢; exact h
  | .bl _, _, h => by simp only [Rp] at h ⊢; exact h
  | .int _, _, h => by simp only [Rp] at h ⊢; exact h
  | .str _, _, h => by simp only [Rp] at h ⊢; exact h
  | .ty _, _, h => by simp only [Rp] at h ⊢; exact h
  | .adr _, _, h => by simp only [Rp] at h ⊢; exact h
  | .tup xs, _, h => by
    simp only [Rp] at h ⊢
    obtain ⟨a, vs, h1, h2, h3⟩ := h
    exact ⟨a, vs, h1, sq_t e h2, RpL.mono e h3⟩
  | .lst xs, _, h => by
    simp only [Rp] at h ⊢
    obtain ⟨a, vs, h1, h2, h3⟩ := h
    exact ⟨a, vs, h1, e _ _ h2, RpL.mono e h3⟩
  | .frl xs, _, h => by
    simp only [Rp] at h ⊢
    obtain ⟨a, vs, h1, h2, h3⟩ := h
    exact ⟨a, vs, h1, e.seq h2, RpL.mono e h3⟩
  | .dT ks xs, _, h => by
    simp only [Rp] at h ⊢
    obtain ⟨a, vs, h1, h2, h4, h3⟩ := h
    exact ⟨a, vs, h1, rd_mono e h2, h4, RpL.mono e h3⟩
  | .dK ks xs, _, h => by
    simp only [Rp] at h ⊢
    obtain ⟨a, vs, h1, h2, h4, h3⟩ := h
    exact ⟨a, vs, h1, rd_mono e h2, h4, RpL.mono e h3⟩
  | .key ks, _, h => by
    simp only [Rp] at h ⊢
    obtain ⟨a, h1, h2⟩ := h
    exact ⟨a, h1, e _ _ h2⟩
  | .obj C ns xs, _, h => by
    simp only [Rp] at h ⊢
    obtain ⟨a, dx, vs, h1, h2, h4, h3⟩ := h
    exact ⟨a, dx, vs, h1, e _ _ h2, h4, RpL.mono e h3⟩
  | .exv a ns xs d, _, h => by
    simp only [Rp] at h ⊢
    refine ⟨h.1, fun dx hd => ?_⟩
    obtain ⟨vs, h1, h2, h3⟩ := h.2 dx hd
    exact ⟨vs, e _ _ h1, h2, RpL.mono e h3⟩
  | .at_ a d, _, h => by
    simp only [Rp] at h ⊢
    exact ⟨h.1, Rp.mono e h.2⟩
theorem RpL.mono {K : PySem.W.Frag} {F F' : Hp} (e : Same F F') : ∀ {ds : List Dt} {vs : List V}, RpL K F ds vs → RpL K F' ds vs
  | [], _, h => by simp only [RpL] at h ⊢; exact h
  | d :: ds, _, h => by
    simp only [RpL] at h ⊢
    obtain ⟨v, r, h1, h2, h3⟩ := h
    exact ⟨v, r, h1, Rp.mono e h2, RpL.mono e h3⟩
end

section
variable {K : PySem.W.Frag} {F : Hp}
theorem RpL.nil : RpL K F [] [] := by simp only [RpL]
theorem RpL.cons {d : Dt} {v : V} {ds : List Dt} {vs : List V} (h : Rp K F d v) (t : RpL K F ds vs) : RpL K F (d :: ds) (v :: vs) := by
  simp only [RpL]
  exact ⟨v, vs, rfl, h, t⟩
theorem RpL.of_cons {d : Dt} {ds : List Dt} {vs : List V} (h : RpL K F (d :: ds) vs) : ∃ v r, vs = v :: r ∧ Rp K F d v ∧ RpL K F ds r := by
  simp only [RpL] at h
  exact h
theorem RpL.of_nil {vs : List V} (h : RpL K F [] vs) : vs = [] := by
  simp only [RpL] at h
  exact h
theorem RpL.length : ∀ {ds : List Dt} {vs : List V}, RpL K F ds vs → ds.length = vs.length
  | [], _, h => by rw [h.of_nil]; rfl
  | d :: ds, _, h => by
    obtain ⟨v, r, rfl, _, t⟩ := h.of_cons
    simp only [List.length_cons]
    rw [RpL.length t]
theorem RpL.get : ∀ {ds : List Dt} {vs : List V} {i : Nat} {d : Dt}, RpL K F ds vs → ds[i]? = some d → ∃ v, vs[i]? = some v ∧ Rp K F d v
  | [], _, i, d, _, e => by simp at e
  | d0 :: ds, _, 0, d, h, e => by
    obtain ⟨v, r, rfl, h1, t⟩ := h.of_cons
    have e' : d0 = d := by simpa using e
    exact ⟨v, rfl, e' ▸ h1⟩
  | d0 :: ds, _, i + 1, d, h, e => by
    obtain ⟨v, r, rfl, h1, t⟩ := h.of_cons
    obtain ⟨v', e1, e2⟩ := RpL.get (i := i) (d := d) t (by simpa using e)
    exact ⟨v', by simpa using e1, e2⟩
theorem RpL.getV : ∀ {ds : List Dt} {vs : List V} {i : Nat} {v : V}, RpL K F ds vs → vs[i]? = some v → ∃ d, ds[i]? = some d ∧ Rp K F d v := fun {ds vs i v} h e => by
  have hl := h.length
  have hi : i < ds.length := by rw [hl]; exact (List.getElem?_eq_some_iff.mp e).1
  obtain ⟨v', e1, e2⟩ := h.get (List.getElem?_eq_getElem hi)
  rw [e] at e1
  cases e1
  exact ⟨_, List.getElem?_eq_getElem hi, e2⟩
theorem RpL.append : ∀ {ds es : List Dt} {vs ws : List V}, RpL K F ds vs → RpL K F es ws → RpL K F (ds ++ es) (vs ++ ws)
  | [], _, _, _, h, t => by rw [h.of_nil]; exact t
  | d :: ds, _, _, _, h, t => by
    obtain ⟨v, r, rfl, h1, h2⟩ := h.of_cons
    exact .cons h1 (RpL.append h2 t)
theorem RpL.take : ∀ {ds : List Dt} {vs : List V} (n : Nat), RpL K F ds vs → RpL K F (ds.take n) (vs.take n)
  | _, _, 0, h => by simp only [List.take_zero]; exact .nil
  | [], _, n + 1, h => by rw [h.of_nil]; exact .nil
  | d :: ds, _, n + 1, h => by
    obtain ⟨v, r, rfl, h1, h2⟩ := h.of_cons
    exact .cons h1 (RpL.take n h2)
theorem RpL.drop : ∀ {ds : List Dt} {vs : List V} (n : Nat), RpL K F ds vs → RpL K F (ds.drop n) (vs.drop n)
  | _, _, 0, h => h
  | [], _, n + 1, h => by rw [h.of_nil]; exact .nil
  | d :: ds, _, n + 1, h => by
    obtain ⟨v, r, rfl, h1, h2⟩ := h.of_cons
    exact RpL.drop n h2
theorem RpL.set : ∀ {ds : List Dt} {vs : List V} {d : Dt} {v : V} (n : Nat), RpL K F ds vs → Rp K F d v → RpL K F (ds.set n d) (vs.set n v)
  | [], _, _, _, n, h, q => by rw [h.of_nil]; exact .nil
  | d :: ds, _, _, _, 0, h, q => by
    obtain ⟨v, r, rfl, h1, h2⟩ := h.of_cons
    exact .cons q h2
  | d :: ds, _, _, _, n + 1, h, q => by
    obtain ⟨v, r, rfl, h1, h2⟩ := h.of_cons
    exact .cons h1 (RpL.set n h2 q)
theorem rp_int {i : Int} {v : V} : Rp K F (.int i) v ↔ v = .int i := by simp only [Rp]
theorem rp_bl {i : Bool} {v : V} : Rp K F (.bl i) v ↔ v = .bl i := by simp only [Rp]
theorem rp_str {i : Str} {v : V} : Rp K F (.str i) v ↔ v = .str i := by simp only [Rp]
theorem rp_non {v : V} : Rp K F .non v ↔ v = .non := by simp only [Rp]
theorem rp_adr {a : Addr} {v : V} : Rp K F (.adr a) v ↔ v = .ref a := by simp only [Rp]
theorem rp_ty {n : String} {v : V} : Rp K F (.ty n) v ↔ v = .ty n := by simp only [Rp]
theorem rp_tup {xs : List Dt} {v : V} : Rp K F (.tup xs) v ↔ ∃ a vs, v = .ref a ∧ SqT K F a vs ∧ RpL K F xs vs := by simp only [Rp]
theorem rp_lst {xs : List Dt} {v : V} : Rp K F (.lst xs) v ↔ ∃ a vs, v = .ref a ∧ F a = some (.lst vs) ∧ RpL K F xs vs := by simp only [Rp]
theorem rp_frl {xs : List Dt} {v : V} : Rp K F (.frl xs) v ↔ ∃ a vs, v = .ref a ∧ SqL K F a vs ∧ RpL K F xs vs := by simp only [Rp]
theorem rp_key {ks : List Key} {v : V} : Rp K F (.key ks) v ↔ ∃ a, v = .ref a ∧ F a = some (.tup (ks.map kV)) := by simp only [Rp]
theorem rp_dT {ks : List (List Key)} {xs : List Dt} {v : V} : Rp K F (.dT ks xs) v ↔ ∃ a vs, v = .ref a ∧ Rd F a (.dT (ks.zip vs)) ∧ ks.length = vs.length ∧ RpL K F xs vs := by simp only [Rp]
theorem rp_exv {a : Addr} {ns : List Str} {xs : List Dt} {d : Option Addr} {v : V} : Rp K F (.exv a ns xs d) v ↔ v = .ref a ∧ ∀ dx, d = some dx → ∃ vs, F dx = some (.xd (ns.zip vs)) ∧ ns.length = vs.length ∧ RpL K F xs vs := by simp only [Rp]
theorem rp_obj {C : Addr} {ns : List Str} {xs : List Dt} {v : V} : Rp K F (.obj C ns xs) v ↔ ∃ a dx vs, v = .ref a ∧ F a = some (.ins C dx (ns.zip vs)) ∧ ns.length = vs.length ∧ RpL K F xs vs := by simp only [Rp]
theorem RpL.ints : ∀ {ns : List Int} {vs : List V}, RpL K F (ns.map Dt.int) vs → vs = ns.map V.int
  | [], _, h => h.of_nil
  | n :: ns, _, h => by
    obtain ⟨v, r, rfl, h1, h2⟩ := h.of_cons
    rw [rp_int.mp h1, RpL.ints h2]
    rfl
theorem RpL.of_ints : ∀ {ns : List Int}, RpL K F (ns.map Dt.int) (ns.map V.int)
  | [] => .nil
  | n :: ns => .cons (rp_int.mpr rfl) RpL.of_ints
end

/-! ### what may change besides: a region and its word -/
structure Reg where
  M : Addr → Prop
  B : Hp → Prop
  st : ∀ H H', (∀ a o, M a → H a = some o → H' a = some o) → B H → B H'
  Z : Hp → Hp → Prop
  zs : ∀ F H F', Same F F' → (∀ a, H a ≠ none → F a = none → F' a = none) → Z F H → Z F' H
def Reg.nil : Reg := ⟨fun _ => False, fun _ => True, fun _ _ _ _ => trivial, fun _ _ => True, fun _ _ _ _ _ _ => trivial⟩

structure Wf (R : Reg) (F H : Hp) : Prop where
  fh : Same F H
  off : ∀ a, R.M a → F a = none
  oc : ∀ a, R.M a → H a ≠ none
  b : R.B H
/-- from F, H on: F' is F and what is new, H' is H but for the region -/
structure Ext (R : Reg) (F H F' H' : Hp) : Prop where
  wf : Wf R F' H'
  ff : Same F F'
  hh : ∀ a o, ¬ R.M a → H a = some o → H' a = some o
  fr : ∀ a, H a ≠ none → F a = none → F' a = none
theorem Ext.refl {R : Reg} {F H : Hp} (w : Wf R F H) : Ext R F H F H := ⟨w, .refl _, fun _ _ _ h => h, fun _ _ h => h⟩
theorem Wf.nm {R : Reg} {F H : Hp} (w : Wf R F H) {a : Addr} {o : HO} (h : F a = some o) : ¬ R.M a := fun z => by
  rw [w.off a z] at h
  cases h
theorem Ext.keep {R : Reg} {F H F' H' : Hp} (e : Ext R F H F' H') {a : Addr} (h : H a ≠ none) : H' a ≠ none := by
  by_cases q : R.M a
  · exact e.wf.oc a q
  · cases z : H a with
    | none => exact absurd z h
    | some o => rw [e.hh a o q z]; exact fun z => nomatch z
theorem Ext.trans {R : Reg} {F H F1 H1 F2 H2 : Hp} (a : Ext R F H F1 H1) (b : Ext R F1 H1 F2 H2) : Ext R F H F2 H2 :=
  ⟨b.wf, a.ff.trans b.ff, fun x o n h => b.hh x o n (a.hh x o n h), fun x h n => b.fr x (a.keep h) (a.fr x h n)⟩
theorem Wf.new {R : Reg} {F H : Hp} {p : Addr} (w : Wf R F H) (h : H p = none) : ¬ R.M p := fun z => w.oc p z h
theorem Wf.grow {R : Reg} {F F' H H' : Hp} (w : Wf R F H) (g : Same H H') (ff : Same F F') (fh : Same F' H') (fr : ∀ a, H a ≠ none → F a = none → F' a = none) : Ext R F H F' H' := by
  refine ⟨⟨fh, fun a m => ?_, fun a m z => ?_, R.st H H' (fun a o _ h => g a o h) w.b⟩, ff, fun a o _ h => g a o h, fr⟩
  · exact fr a (w.oc a m) (w.off a m)
  · cases q : H a with
    | none => exact w.oc a m q
    | some o => rw [g a o q] at z; cases z
theorem same_upd {H : Hp} {p : Addr} {o : HO} (h : H p = none) : Same H (upd H p o) := fun b x e => by
  rw [upd_ne (ne_of_none e h)]
  exact e
theorem same_upd2 {F H : Hp} {p : Addr} {o : HO} (s : Same F H) (h : H p = none) : Same (upd F p o) (upd H p o) := fun b x e => by
  by_cases q : b = p
  · subst q; rw [upd_same] at e ⊢; exact e
  · rw [upd_ne q] at e ⊢; exact s b x e
/-- a new thing, known | a new thing, one's own -/
theorem Wf.made {R : Reg} {F H : Hp} {p : Addr} {o : HO} (w : Wf R F H) (h : H p = none) : Ext R F H (upd F p o) (upd H p o) :=
  w.grow (same_upd h) (same_upd (w.fh.free h)) (same_upd2 w.fh h) fun a ha hf => by rw [upd_ne (fun z => ha (by rw [z]; exact h))]; exact hf
theorem Wf.own {R : Reg} {F H : Hp} {p : Addr} {o : HO} (w : Wf R F H) (h : H p = none) : Ext R F H F (upd H p o) :=
  w.grow (same_upd h) (.refl _) (w.fh.trans (same_upd h)) fun a ha hf => hf

/-! ### slots -/
inductive Sl where
  | no | sh (d : Dt) | ow (d : Dt)
/-- the thing at o, one's own, is d -/
def OwO (K : PySem.W.Frag) (F H : Hp) (o : Addr) : Dt → Prop
  | .lst xs => ∃ vs, H o = some (.lst vs) ∧ RpL K F xs vs
  | .dT ks xs => ∃ vs, H o = some (.dT (ks.zip vs)) ∧ ks.length = vs.length ∧ RpL K F xs vs
  | .dK ks xs => ∃ vs, H o = some (.dK (ks.zip vs)) ∧ ks.length = vs.length ∧ RpL K F xs vs
  | .obj C ns xs => ∃ dx vs, H o = some (.ins C dx (ns.zip vs)) ∧ ns.length = vs.length ∧ RpL K F xs vs
  | .at_ a (.obj C ns xs) => o = a ∧ ∃ dx vs, H o = some (.ins C dx (ns.zip vs)) ∧ ns.length = vs.length ∧ RpL K F xs vs
  | _ => False
/-- the kinds of one's own things -/
theorem OwO.kinds {K : PySem.W.Frag} {F H : Hp} {o : Addr} : ∀ {d : Dt}, OwO K F H o d → (∃ xs, d = .lst xs) ∨ (∃ ks xs, d = .dT ks xs) ∨ (∃ ks xs, d = .dK ks xs) ∨ (∃ C ns xs, d = .obj C ns xs) ∨ (∃ a C ns xs, d = .at_ a (.obj C ns xs))
  | .lst xs, _ => .inl ⟨xs, rfl⟩
  | .dT ks xs, _ => .inr (.inl ⟨ks, xs, rfl⟩)
  | .dK ks xs, _ => .inr (.inr (.inl ⟨ks, xs, rfl⟩))
  | .obj C ns xs, _ => .inr (.inr (.inr (.inl ⟨C, ns, xs, rfl⟩)))
  | .at_ a (.obj C ns xs), _ => .inr (.inr (.inr (.inr ⟨a, C, ns, xs, rfl⟩)))
  | .at_ _ .non, h | .at_ _ (.bl _), h | .at_ _ (.int _), h | .at_ _ (.str _), h | .at_ _ (.ty _), h | .at_ _ (.adr _), h | .at_ _ (.tup _), h | .at_ _ (.lst _), h | .at_ _ (.frl _), h | .at_ _ (.dT _ _), h | .at_ _ (.dK _ _), h | .at_ _ (.exv ..), h | .at_ _ (.at_ _ _), h | .at_ _ (.key _), h => (show False from h).elim
  | .non, h | .bl _, h | .int _, h | .str _, h | .ty _, h | .adr _, h | .tup _, h | .frl _, h | .exv .., h | .key _, h => (show False from h).elim
theorem OwO.some {K : PySem.W.Frag} {F H : Hp} {o : Addr} {d : Dt} (h : OwO K F H o d) : H o ≠ none := by
  rcases h.kinds with ⟨xs, rfl⟩ | ⟨ks, xs, rfl⟩ | ⟨ks, xs, rfl⟩ | ⟨C, ns, xs, rfl⟩ | ⟨a, C, ns, xs, rfl⟩
  · obtain ⟨vs, h, _⟩ := h; rw [h]; exact fun z => nomatch z
  · obtain ⟨vs, h, _⟩ := h; rw [h]; exact fun z => nomatch z
  · obtain ⟨vs, h, _⟩ := h; rw [h]; exact fun z => nomatch z
  · obtain ⟨dx, vs, h, _⟩ := h; rw [h]; exact fun z => nomatch z
  · obtain ⟨_, dx, vs, h, _⟩ := h; rw [h]; exact fun z => nomatch z
theorem OwO.mono {K : PySem.W.Frag} {F H F' H' : Hp} {o : Addr} {d : Dt} (ff : Same F F') (ho : ∀ u, H o = Option.some u → H' o = Option.some u) (h : OwO K F H o d) : OwO K F' H' o d := by
  rcases h.kinds with ⟨xs, rfl⟩ | ⟨ks, xs, rfl⟩ | ⟨ks, xs, rfl⟩ | ⟨C, ns, xs, rfl⟩ | ⟨a, C, ns, xs, rfl⟩
  · obtain ⟨vs, h, r⟩ := h; exact ⟨vs, ho _ h, r.mono ff⟩
  · obtain ⟨vs, h, l, r⟩ := h; exact ⟨vs, ho _ h, l, r.mono ff⟩
  · obtain ⟨vs, h, l, r⟩ := h; exact ⟨vs, ho _ h, l, r.mono ff⟩
  · obtain ⟨dx, vs, h, l, r⟩ := h; exact ⟨dx, vs, ho _ h, l, r.mono ff⟩
  · obtain ⟨e, dx, vs, h, l, r⟩ := h; exact ⟨e, dx, vs, ho _ h, l, r.mono ff⟩
def SlOk (K : PySem.W.Frag) (R : Reg) (F H : Hp) : Sl → Option V → Prop
  | .no, _ => True
  | .sh d, v => ∃ x, v = some x ∧ Rp K F d x
  | .ow d, v => ∃ o, v = some (.ref o) ∧ F o = none ∧ ¬ R.M o ∧ OwO K F H o d
inductive SlsOk (K : PySem.W.Frag) (R : Reg) (F H : Hp) : List Sl → List (Option V) → Prop where
  | nil : SlsOk K R F H [] []
  | cons {g : Sl} {v : Option V} {Gs : List Sl} {vs : List (Option V)} (h : SlOk K R F H g v) (t : SlsOk K R F H Gs vs) : SlsOk K R F H (g :: Gs) (v :: vs)
/-- one's own things -/
def owns : List Sl → List (Option V) → List Addr
  | .ow _ :: G, some (.ref o) :: vs => o :: owns G vs
  | _ :: G, _ :: vs => owns G vs
  | _, _ => []
structure Ty (K : PySem.W.Frag) (R : Reg) (G : List Sl) (σ : St) (F H : Hp) : Prop where
  wf : Wf R F H
  sl : SlsOk K R F H G σ
  nd : (owns G σ).Nodup
section
variable {K : PySem.W.Frag} {R : Reg} {F H F' H' : Hp}
theorem SlOk.ext {g : Sl} {v : Option V} (h : SlOk K R F H g v) (e : Ext R F H F' H') : SlOk K R F' H' g v := by
  cases g with
  | no => trivial
  | sh d =>
    obtain ⟨x, h1, h2⟩ := h
    exact ⟨x, h1, h2.mono e.ff⟩
  | ow d =>
    obtain ⟨o, h1, h2, h3, h4⟩ := h
    exact ⟨o, h1, e.fr o h4.some h2, h3, h4.mono e.ff fun u q => e.hh o u h3 q⟩
theorem SlsOk.ext {G : List Sl} {σ : St} (h : SlsOk K R F H G σ) (e : Ext R F H F' H') : SlsOk K R F' H' G σ := by
  induction h with
  | nil => exact .nil
  | cons h _ ih => exact .cons (h.ext e) ih
theorem Ty.ext {G : List Sl} {σ : St} (h : Ty K R G σ F H) (e : Ext R F H F' H') : Ty K R G σ F' H' := ⟨e.wf, h.sl.ext e, h.nd⟩
theorem SlsOk.get {G : List Sl} {σ : St} (h : SlsOk K R F H G σ) {i : Nat} {g : Sl} (e : G[i]? = some g) : ∃ v, σ[i]? = some v ∧ SlOk K R F H g v := by
  induction h generalizing i with
  | nil => simp at e
  | cons h t ih =>
    cases i with
    | zero =>
      have e' := Option.some.inj e
      subst e'
      exact ⟨_, rfl, h⟩
    | succ j => exact ih (i := j) (by simpa using e)
theorem SlsOk.len {G : List Sl} {σ : St} (h : SlsOk K R F H G σ) : G.length = σ.length := by
  induction h with
  | nil => rfl
  | cons _ _ ih => simp [ih]
theorem SlsOk.set {G : List Sl} {σ : St} (h : SlsOk K R F H G σ) (i : Nat) {g : Sl} {v : Option V} (q : SlOk K R F H g v) : SlsOk K R F H (G.set i g) (σ.set i v) := by
  induction h generalizing i with
  | nil => exact .nil
  | cons h t ih =>
    cases i with
    | zero => exact .cons q t
    | succ j => exact .cons h (ih j)
theorem owns_mem {G : List Sl} {σ : St} {o : Addr} (h : o ∈ owns G σ) : ∃ (i : Nat) (d : Dt), G[i]? = some (.ow d) ∧ σ[i]? = some (some (.ref o)) := by
  induction G generalizing σ with
  | nil => simp [owns] at h
  | cons g G ih =>
    cases σ with
    | nil => cases g <;> simp [owns] at h
    | cons v vs =>
      have step : o ∈ owns G vs → ∃ (i : Nat) (d : Dt), (g :: G)[i]? = some (.ow d) ∧ (v :: vs)[i]? = some (some (.ref o)) := fun z => by
        obtain ⟨i, d, h1, h2⟩ := ih z
        exact ⟨i + 1, d, by simpa using h1, by simpa using h2⟩
      cases g with
      | no => exact step (by simpa [owns] using h)
      | sh d => exact step (by simpa [owns] using h)
      | ow d =>
        cases v with
        | none => exact step (by simpa [owns] using h)
        | some x =>
          cases x with
          | ref p =>
            simp only [owns, List.mem_cons] at h
            rcases h with h | h
            · subst h; exact ⟨0, d, rfl, rfl⟩
            · exact step h
          | _ => exact step (by simpa [owns] using h)
theorem mem_owns {G : List Sl} {σ : St} {o : Addr} {i : Nat} {d : Dt} (h1 : G[i]? = some (.ow d)) (h2 : σ[i]? = some (some (.ref o))) : o ∈ owns G σ := by
  induction G generalizing σ i with
  | nil => simp at h1
  | cons g G ih =>
    cases σ with
    | nil => simp at h2
    | cons v vs =>
      cases i with
      | zero =>
        have e1 := Option.some.inj h1
        have e2 := Option.some.inj h2
        subst e1 e2
        simp [owns]
      | succ j =>
        have q : o ∈ owns G vs := ih (i := j) (by simpa using h1) (by simpa using h2)
        cases g with
        | no => simpa [owns] using q
        | sh d => simpa [owns] using q
        | ow d =>
          cases v with
          | none => simpa [owns] using q
          | some x => cases x <;> simp [owns, q]
/-- a slot set to what is not one's own -/
theorem owns_set_sub {G : List Sl} {σ : St} (i : Nat) {g : Sl} {v : Option V} (hg : ∀ d, g ≠ .ow d) : List.Sublist (owns (G.set i g) (σ.set i v)) (owns G σ) := by
  induction G generalizing σ i with
  | nil => simp [owns]
  | cons g0 G ih =>
    cases σ with
    | nil =>
      cases i with
      | zero => simp [owns]
      | succ j => simp [owns]
    | cons v0 vs =>
      cases i with
      | zero =>
        have e : owns (g :: G) (v :: vs) = owns G vs := by
          cases g with
          | no => simp [owns]
          | sh d => simp [owns]
          | ow d => exact absurd rfl (hg d)
        show List.Sublist (owns (g :: G) (v :: vs)) _
        rw [e]
        cases g0 with
        | no => simp [owns]
        | sh d => simp [owns]
        | ow d =>
          cases v0 with
          | none => simp [owns]
          | some x => cases x <;> simp [owns]
      | succ j =>
        have q := ih (σ := vs) (i := j)
        show List.Sublist (owns (g0 :: G.set j g) (v0 :: vs.set j v)) _
        cases g0 with
        | no => simpa [owns] using q
        | sh d => simpa [owns] using q
        | ow d =>
          cases v0 with
          | none => simpa [owns] using q
          | some x => cases x <;> simp [owns, q]
theorem Ty.set {G : List Sl} {σ : St} (h : Ty K R G σ F H) (i : Nat) {d : Dt} {x : V} (q : Rp K F d x) : Ty K R (G.set i (.sh d)) (σ.set i (some x)) F H :=
  ⟨h.wf, h.sl.set i ⟨x, rfl, q⟩, h.nd.sublist (owns_set_sub i fun _ z => nomatch z)⟩
theorem owns_set_own {G : List Sl} {σ : St} (i : Nat) {d : Dt} {o : Addr} : ∀ x ∈ owns (G.set i (.ow d)) (σ.set i (some (.ref o))), x = o ∨ x ∈ owns G σ := fun x hx => by
  obtain ⟨j, d', h1, h2⟩ := owns_mem hx
  by_cases e : j = i
  · subst e
    have hj : j < σ.length := by
      have := (List.getElem?_eq_some_iff.mp h2).1
      simpa using this
    rw [List.getElem?_set_self hj] at h2
    cases h2
    exact .inl rfl
  · rw [List.getElem?_set_ne (Ne.symm e)] at h1 h2
    exact .inr (mem_owns h1 h2)
theorem owns_nodup_set {G : List Sl} {σ : St} (i : Nat) {d : Dt} {o : Addr} (h : (owns G σ).Nodup) (n : o ∉ owns (G.set i .no) (σ.set i none)) : (owns (G.set i (.ow d)) (σ.set i (some (.ref o)))).Nodup := by
  induction G generalizing σ i with
  | nil => simp [owns]
  | cons g0 G ih =>
    cases σ with
    | nil =>
      cases i with
      | zero => simp [owns]
      | succ j => simp [owns]
    | cons v0 vs =>
      have hG : (owns G vs).Nodup := by
        cases g0 with
        | no => simpa [owns] using h
        | sh d => simpa [owns] using h
        | ow d =>
          cases v0 with
          | none => simpa [owns] using h
          | some x =>
            cases x with
            | ref p => simp only [owns, List.nodup_cons] at h; exact h.2
            | _ => simpa [owns] using h
      cases i with
      | zero =>
        show (owns (.ow d :: G) (some (.ref o) :: vs)).Nodup
        simp only [owns, List.nodup_cons]
        exact ⟨by simpa [owns] using n, hG⟩
      | succ j =>
        show (owns (g0 :: G.set j (.ow d)) (v0 :: vs.set j (some (.ref o)))).Nodup
        have n' : o ∉ owns (g0 :: G.set j .no) (v0 :: vs.set j none) := n
        have plain : o ∉ owns (G.set j .no) (vs.set j none) → (owns (G.set j (.ow d)) (vs.set j (some (.ref o)))).Nodup := fun z => ih j hG z
        cases g0 with
        | no => simpa [owns] using plain (by simpa [owns] using n')
        | sh d => simpa [owns] using plain (by simpa [owns] using n')
        | ow d1 =>
          cases v0 with
          | none => simpa [owns] using plain (by simpa [owns] using n')
          | some x =>
            cases x with
            | ref p =>
              simp only [owns, List.mem_cons, not_or] at n'
              simp only [owns, List.nodup_cons] at h ⊢
              refine ⟨fun z => ?_, plain n'.2⟩
              rcases owns_set_own j p z with e | e
              · exact n'.1 e.symm
              · exact h.1 e
            | _ => simpa [owns] using plain (by simpa [owns] using n')
end
end VS
set_option Elab.async false
set_option linter.all false
set_option maxRecDepth 100000
namespace VS
open PySem PySem.Spec L2

/-! ### readings as weak as they can be -/
@[irreducible] def tOf (X : Cx) (e : Expr) : TE := fun σ H Q => ∀ pins s, Inv X pins σ H s → wpAny (model X.prog X.w) X.A (eval e X.env) (EP X pins σ Q) X.xe s
@[irreducible] def ttOf (X : Cx) (e : Expr) : TT := fun σ H Q => ∀ pins s, Inv X pins σ H s → wpAny (model X.prog X.w) X.A (isTrue e X.env (eval e X.env)) (TP X pins σ Q) X.xe s
@[irreducible] def twOf (X : Cx) (e : Expr) : TT := fun σ H Q => ∀ (whole : Sem Value) pins s, Inv X pins σ H s → wpAny (model X.prog X.w) X.A (isTrue e X.env whole) (TP X pins σ Q) X.xe s
@[irreducible] def taOf (X : Cx) (es : List Expr) : TA := fun σ H Q => ∀ (pos : Pos) pins s, Inv X pins σ H s → wpAny (model X.prog X.w) X.A (spliced (backTo pos (starEach es X.env))) (AP X pins σ Q) X.xe s
@[irreducible] def s1Of (X : Cx) (st : Stmt) : TS := fun D σ H => ∀ pins s, Inv X pins σ H s → wpAny (model X.prog X.w) X.A (exec st X.env) (SP X pins D) X.xe s
@[irreducible] def sOf (X : Cx) (ss : List Stmt) : TS := fun D σ H => ∀ pins s, Inv X pins σ H s → wpAny (model X.prog X.w) X.A (execs ss X.env) (SP X pins D) X.xe s
@[irreducible] def opOf (X : Cx) (f : Value → Value → Sem Value) : R2 := fun x y H Q => ∀ pins s σ v u, Inv X pins σ H s → RelV x v → RelV y u → wpAny (model X.prog X.w) X.A (f v u) (EP X pins σ Q) X.xe s
@[irreducible] def unOf (X : Cx) (f : Value → Sem Value) : V → Hp → VK → Prop := fun x H Q => ∀ pins s σ v, Inv X pins σ H s → RelV x v → wpAny (model X.prog X.w) X.A (f v) (EP X pins σ Q) X.xe s
@[irreducible] def crOf (X : Cx) (f : Value) : List V → Hp → VK → Prop := fun xs H Q => ∀ pins s σ us, Inv X pins σ H s → Vals xs us → wpAny (model X.prog X.w) X.A (call f us) (EP X pins σ Q) X.xe s
section
variable {X : Cx}
theorem pe_w {e : Expr} : PE X e (tOf X e) := ⟨fun pins s σ H Q I h => by unfold tOf at h; exact h pins s I⟩
theorem pt_w {e : Expr} : PT X e (ttOf X e) := ⟨fun pins s σ H Q I h => by unfold ttOf at h; exact h pins s I⟩
theorem pw_w {e : Expr} : PW X e (twOf X e) := ⟨fun wh pins s σ H Q I h => by unfold twOf at h; exact h wh pins s I⟩
theorem pa_w {es : List Expr} : PA X es (taOf X es) := ⟨fun pos pins s σ H Q I h => by unfold taOf at h; exact h pos pins s I⟩
theorem ps_w {st : Stmt} : PS X st (s1Of X st) := ⟨fun pins s σ H D I h => by unfold s1Of at h; exact h pins s I⟩
theorem pss_w {ss : List Stmt} : PSs X ss (sOf X ss) := ⟨fun pins s σ H D I h => by unfold sOf at h; exact h pins s I⟩
theorem op_w {f : Value → Value → Sem Value} : OpR X f (opOf X f) := fun pins s σ H x y v u Q I rx ry h => by unfold opOf at h; exact h pins s σ v u I rx ry
theorem un_w {f : Value → Sem Value} : UnR X f (unOf X f) := fun pins s σ H x v Q I rx h => by unfold unOf at h; exact h pins s σ v I rx
theorem cr_w {f : Value} : CallR X f (crOf X f) := fun pins s σ H xs us Q I r h => by unfold crOf at h; exact h pins s σ us I r
theorem tOf.of {e : Expr} {t : TE} {σ : St} {H : Hp} {Q : VK} (h : PE X e t) (q : t σ H Q) : tOf X e σ H Q := by unfold tOf; exact fun pins s I => h.run pins s σ H Q I q
theorem ttOf.of {e : Expr} {t : TT} {σ : St} {H : Hp} {Q : Bool → Hp → Prop} (h : PT X e t) (q : t σ H Q) : ttOf X e σ H Q := by unfold ttOf; exact fun pins s I => h.run pins s σ H Q I q
theorem twOf.of {e : Expr} {t : TT} {σ : St} {H : Hp} {Q : Bool → Hp → Prop} (h : PW X e t) (q : t σ H Q) : twOf X e σ H Q := by unfold twOf; exact fun wh pins s I => h.run wh pins s σ H Q I q
theorem taOf.of {es : List Expr} {t : TA} {σ : St} {H : Hp} {Q : List V → Hp → Prop} (h : PA X es t) (q : t σ H Q) : taOf X es σ H Q := by unfold taOf; exact fun pos pins s I => h.run pos pins s σ H Q I q
theorem s1Of.of {st : Stmt} {t : TS} {σ : St} {H : Hp} {D : Ends} (h : PS X st t) (q : t D σ H) : s1Of X st D σ H := by unfold s1Of; exact fun pins s I => h.run pins s σ H D I q
theorem sOf.of {ss : List Stmt} {t : TS} {σ : St} {H : Hp} {D : Ends} (h : PSs X ss t) (q : t D σ H) : sOf X ss D σ H := by unfold sOf; exact fun pins s I => h.run pins s σ H D I q
theorem opOf.of {f : Value → Value → Sem Value} {r : R2} {x y : V} {H : Hp} {Q : VK} (h : OpR X f r) (q : r x y H Q) : opOf X f x y H Q := by unfold opOf; exact fun pins s σ v u I rx ry => h pins s σ H x y v u Q I rx ry q
theorem unOf.of {f : Value → Sem Value} {r : V → Hp → VK → Prop} {x : V} {H : Hp} {Q : VK} (h : UnR X f r) (q : r x H Q) : unOf X f x H Q := by unfold unOf; exact fun pins s σ v I rx => h pins s σ H x v Q I rx q
theorem crOf.of {f : Value} {r : List V → Hp → VK → Prop} {xs : List V} {H : Hp} {Q : VK} (h : CallR X f r) (q : r xs H Q) : crOf X f xs H Q := by unfold crOf; exact fun pins s σ us I rx => h pins s σ H xs us Q I rx q
end

/-! ### over data -/
/-- what follows, given the value's data -/
def Ct (K : PySem.W.Frag) (R : Reg) (F H : Hp) (P : Dt → Prop) (Q : VK) : Prop := ∀ v F' H' d, Ext R F H F' H' → Rp K F' d v → P d → Q v H'
def CtB (R : Reg) (F H : Hp) (P : Bool → Prop) (Q : Bool → Hp → Prop) : Prop := ∀ b F' H', Ext R F H F' H' → P b → Q b H'
def CtA (K : PySem.W.Frag) (R : Reg) (F H : Hp) (P : List Dt → Prop) (Q : List V → Hp → Prop) : Prop := ∀ vs F' H' ds, Ext R F H F' H' → RpL K F' ds vs → P ds → Q vs H'
def E (X : Cx) (R : Reg) (G : List Sl) (e : Expr) (P : Dt → Prop) : Prop := ∀ σ F H Q, Ty X.K R G σ F H → Ct X.K R F H P Q → tOf X e σ H Q
def T (X : Cx) (R : Reg) (G : List Sl) (e : Expr) (P : Bool → Prop) : Prop := ∀ σ F H Q, Ty X.K R G σ F H → CtB R F H P Q → ttOf X e σ H Q
def TW (X : Cx) (R : Reg) (G : List Sl) (e : Expr) (P : Bool → Prop) : Prop := ∀ σ F H Q, Ty X.K R G σ F H → CtB R F H P Q → twOf X e σ H Q
def EA (X : Cx) (R : Reg) (G : List Sl) (es : List Expr) (P : List Dt → Prop) : Prop := ∀ σ F H Q, Ty X.K R G σ F H → CtA X.K R F H P Q → taOf X es σ H Q
/-- operations on data -/
def W2 (X : Cx) (R : Reg) (f : Value → Value → Sem Value) (a b : Dt) (P : Dt → Prop) : Prop := ∀ F H x y Q, Wf R F H → Rp X.K F a x → Rp X.K F b y → Ct X.K R F H P Q → opOf X f x y H Q
def W1 (X : Cx) (R : Reg) (f : Value → Sem Value) (a : Dt) (P : Dt → Prop) : Prop := ∀ F H x Q, Wf R F H → Rp X.K F a x → Ct X.K R F H P Q → unOf X f x H Q
def WC (X : Cx) (R : Reg) (f : Value) (ds : List Dt) (P : Dt → Prop) : Prop := ∀ F H xs Q, Wf R F H → RpL X.K F ds xs → Ct X.K R F H P Q → crOf X f xs H Q
section
variable {X : Cx} {R : Reg} {G : List Sl} {pos : Pos}
theorem Ct.step {K : PySem.W.Frag} {F H F1 H1 : Hp} {P : Dt → Prop} {Q : VK} (c : Ct K R F H P Q) (e : Ext R F H F1 H1) : Ct K R F1 H1 P Q := fun v F' H' d ex r p => c v F' H' d (e.trans ex) r p
theorem CtB.step {F H F1 H1 : Hp} {P : Bool → Prop} {Q : Bool → Hp → Prop} (c : CtB R F H P Q) (e : Ext R F H F1 H1) : CtB R F1 H1 P Q := fun b F' H' ex p => c b F' H' (e.trans ex) p
theorem Ct.here {K : PySem.W.Frag} {F H : Hp} {P : Dt → Prop} {Q : VK} {v : V} {d : Dt} (c : Ct K R F H P Q) (w : Wf R F H) (r : Rp K F d v) (p : P d) : Q v H := c v F H d (.refl w) r p
theorem CtB.here {F H : Hp} {P : Bool → Prop} {Q : Bool → Hp → Prop} {b : Bool} (c : CtB R F H P Q) (w : Wf R F H) (p : P b) : Q b H := c b F H (.refl w) p
theorem E.imp {e : Expr} {P P' : Dt → Prop} (h : E X R G e P) (i : ∀ d, P d → P' d) : E X R G e P' := fun σ F H Q ty c => h σ F H Q ty fun v F' H' d ex r p => c v F' H' d ex r (i d p)
theorem T.imp {e : Expr} {P P' : Bool → Prop} (h : T X R G e P) (i : ∀ b, P b → P' b) : T X R G e P' := fun σ F H Q ty c => h σ F H Q ty fun b F' H' ex p => c b F' H' ex (i b p)

/-! ### names, constants -/
theorem e_var (i : Nat) {x : Str} {d : Dt} {P : Dt → Prop} (hg : G[i]? = some (.sh d)) (hN : X.N[i]? = some x) (hv : Vis X.env.scope x) (p : P d) (hd : (x == ("__debug__" : Str)) = false := by decide) (hcd : (x == ("__classdict__" : Str)) = false := by decide) :
    E X R G (.Name x pos) P := fun σ F H Q ty c => by
  obtain ⟨v, e1, y, e2, r⟩ := ty.sl.get hg
  exact tOf.of (pe_var hN hv hd hcd) ⟨y, by rw [e1, e2], c.here ty.wf r p⟩
theorem e_int {i : Int} {j} {P : Dt → Prop} (p : P (.int i)) : E X R G (.Constant (.int i) j pos) P := fun σ F H Q ty c => tOf.of pe_int (c.here ty.wf (rp_int.mpr rfl) p)
theorem e_bool {i : Bool} {j} {P : Dt → Prop} (p : P (.bl i)) : E X R G (.Constant (.bool i) j pos) P := fun σ F H Q ty c => tOf.of pe_bl (c.here ty.wf (rp_bl.mpr rfl) p)
theorem e_none {j} {P : Dt → Prop} (p : P .non) : E X R G (.Constant .none j pos) P := fun σ F H Q ty c => tOf.of pe_non (c.here ty.wf (rp_non.mpr rfl) p)
theorem e_str {i : Str} {j} {P : Dt → Prop} (p : P (.str i)) : E X R G (.Constant (.str i) j pos) P := fun σ F H Q ty c => tOf.of pe_str (c.here ty.wf (rp_str.mpr rfl) p)
/-- a module's constant that is no object -/
theorem e_glob {x : Str} {d : Dt} {v : V} {u : Value} {P : Dt → Prop} (hg : Gl X x) (hm : X.mg x = some u) (r : RelV v u) (rd : ∀ F, Rp X.K F d v) (p : P d) (hd : (x == ("__debug__" : Str)) = false := by decide) : E X R G (.Name x pos) P :=
  fun σ F H Q ty c => tOf.of (pe_glob hg hm r hd) (c.here ty.wf (rd F) p)

/-! ### operators -/
theorem e_bin {a b : Expr} {op : Operator} {P : Dt → Prop} (h : E X R G a fun d1 => E X R G b fun d2 => W2 X R (binaryOp op) d1 d2 P) : E X R G (.BinOp a op b pos) P := fun σ F H Q ty c =>
  tOf.of (pe_op op_w pe_w pe_w) (h σ F H _ ty fun v F1 H1 d1 ex1 r1 h2 => h2 σ F1 H1 _ (ty.ext ex1) fun w F2 H2 d2 ex2 r2 h3 => h3 F2 H2 v w Q ex2.wf (r1.mono ex2.ff) r2 (c.step (ex1.trans ex2)))
theorem e_un {a : Expr} {op : UnaryOp} {P : Dt → Prop} (h : E X R G a fun d1 => W1 X R (unaryOp op) d1 P) : E X R G (.UnaryOp op a pos) P := fun σ F H Q ty c =>
  tOf.of (pe_un un_w pe_w) (h σ F H _ ty fun v F1 H1 d1 ex1 r1 h2 => h2 F1 H1 v Q ex1.wf r1 (c.step ex1))
theorem e_cmp {a b : Expr} {op : CmpOp} {P : Dt → Prop} (h : E X R G a fun d1 => E X R G b fun d2 => W2 X R (compareOp op) d1 d2 P) (hm : behindInMarks op b = false := by first | exact nomark _ | rfl) : E X R G (.Compare a [op] [b] pos) P := fun σ F H Q ty c =>
  tOf.of (pe_cmpR op_w pe_w pe_w hm) (h σ F H _ ty fun v F1 H1 d1 ex1 r1 h2 => h2 σ F1 H1 _ (ty.ext ex1) fun w F2 H2 d2 ex2 r2 h3 => h3 F2 H2 v w Q ex2.wf (r1.mono ex2.ff) r2 (c.step (ex1.trans ex2)))
theorem t_cmp {a b : Expr} {op : CmpOp} {P : Bool → Prop} (h : E X R G a fun d1 => E X R G b fun d2 => W2 X R (compareOp op) d1 d2 fun d => ∃ k, d = .bl k ∧ P k) (hm : behindInMarks op b = false := by first | exact nomark _ | rfl) : T X R G (.Compare a [op] [b] pos) P := fun σ F H Q ty c =>
  ttOf.of (pt_cmpR op_w pe_w pe_w hm) (h σ F H _ ty fun v F1 H1 d1 ex1 r1 h2 => h2 σ F1 H1 _ (ty.ext ex1) fun w F2 H2 d2 ex2 r2 h3 => h3 F2 H2 v w _ ex2.wf (r1.mono ex2.ff) r2 fun z F3 H3 d3 ex3 r3 ⟨k, e, p⟩ => by
    subst e
    exact ⟨k, rp_bl.mp r3, c k F3 H3 ((ex1.trans ex2).trans ex3) p⟩)
/-- a op1 b op2 c -/
theorem e_chain {a b c : Expr} {op op' : CmpOp} {P : Dt → Prop} (h : E X R G a fun d1 => E X R G b fun d2 => W2 X R (compareOp op) d1 d2 fun d => ∃ k, d = .bl k ∧ if k = true then E X R G c fun d3 => W2 X R (compareOp op') d2 d3 P else P (.bl false))
    (hm : lastMarks [op, op'] [b, c] = false := by with_unfolding_all rfl) : E X R G (.Compare a [op, op'] [b, c] pos) P := fun σ F H Q ty cc =>
  tOf.of (pe_chain op_w op_w pe_w pe_w pe_w hm) (h σ F H _ ty fun v F1 H1 d1 ex1 r1 h2 => h2 σ F1 H1 _ (ty.ext ex1) fun w F2 H2 d2 ex2 r2 h3 => h3 F2 H2 v w _ ex2.wf (r1.mono ex2.ff) r2 fun z F3 H3 d3 ex3 r3 ⟨k, e, p⟩ => by
    subst e
    have e12 := ex1.trans ex2
    have e123 := e12.trans ex3
    refine ⟨k, rp_bl.mp r3, ?_⟩
    cases k with
    | false =>
      rw [if_neg (by decide)] at p ⊢
      exact cc _ F3 H3 _ e123 (rp_bl.mpr rfl) p
    | true =>
      rw [if_pos rfl] at p ⊢
      exact p σ F3 H3 _ (ty.ext e123) fun u F4 H4 d4 ex4 r4 p4 => p4 F4 H4 w u Q ex4.wf ((r2.mono ex3.ff).mono ex4.ff) r4 (cc.step (e123.trans ex4)))
theorem t_chain {a b c : Expr} {op op' : CmpOp} {P : Bool → Prop} (h : E X R G a fun d1 => E X R G b fun d2 => W2 X R (compareOp op) d1 d2 fun d => ∃ k, d = .bl k ∧ if k = true then E X R G c fun d3 => W2 X R (compareOp op') d2 d3 fun d => ∃ k, d = .bl k ∧ P k else P false)
    (hm : lastMarks [op, op'] [b, c] = false := by with_unfolding_all rfl) : T X R G (.Compare a [op, op'] [b, c] pos) P := fun σ F H Q ty cc =>
  ttOf.of (pt_chain op_w op_w pe_w pe_w pe_w hm) (h σ F H _ ty fun v F1 H1 d1 ex1 r1 h2 => h2 σ F1 H1 _ (ty.ext ex1) fun w F2 H2 d2 ex2 r2 h3 => h3 F2 H2 v w _ ex2.wf (r1.mono ex2.ff) r2 fun z F3 H3 d3 ex3 r3 ⟨k, e, p⟩ => by
    subst e
    have e12 := ex1.trans ex2
    have e123 := e12.trans ex3
    refine ⟨k, rp_bl.mp r3, ?_⟩
    cases k with
    | false =>
      rw [if_neg (by decide)] at p ⊢
      exact ⟨false, rfl, cc false F3 H3 e123 p⟩
    | true =>
      rw [if_pos rfl] at p ⊢
      exact p σ F3 H3 _ (ty.ext e123) fun u F4 H4 d4 ex4 r4 p4 => p4 F4 H4 w u _ ex4.wf ((r2.mono ex3.ff).mono ex4.ff) r4 fun z F5 H5 d5 ex5 r5 ⟨k, e, p⟩ => by
        subst e
        exact ⟨k, rp_bl.mp r5, cc k F5 H5 ((e123.trans ex4).trans ex5) p⟩)

/-! ### tests -/
theorem t_val {e : Expr} {P : Bool → Prop} (h : E X R G e fun d => ∃ k, d = .bl k ∧ P k) (he : ∀ whole, isTrue e X.env whole = (do let v ← whole; standAt e.pos; holding [v] (truthy v)) := by intro _; rfl) : T X R G e P := fun σ F H Q ty c =>
  ttOf.of (pt_val pe_w he) (h σ F H _ ty fun v F1 H1 d1 ex1 r1 ⟨k, e, p⟩ => by
    subst e
    exact ⟨k, rp_bl.mp r1, c k F1 H1 ex1 p⟩)
theorem TW.t {e : Expr} {P : Bool → Prop} (h : TW X R G e P) : T X R G e P := fun σ F H Q ty c => by
  have z := h σ F H Q ty c
  unfold twOf at z
  unfold ttOf
  exact fun pins s I => z _ pins s I
theorem tw_and1 {a : Expr} {P : Bool → Prop} (h : T X R G a P) : TW X R G (.BoolOp .And [a] pos) P := fun σ F H Q ty c => twOf.of (pw_and1 pt_w) (h σ F H Q ty c)
theorem tw_or1 {a : Expr} {P : Bool → Prop} (h : T X R G a P) : TW X R G (.BoolOp .Or [a] pos) P := fun σ F H Q ty c => twOf.of (pw_or1 pt_w) (h σ F H Q ty c)
theorem tw_and {a b : Expr} {es : List Expr} {P : Bool → Prop} (h : T X R G a fun k => if k = true then TW X R G (.BoolOp .And (b :: es) pos) P else P false) : TW X R G (.BoolOp .And (a :: b :: es) pos) P := fun σ F H Q ty c =>
  twOf.of (pw_and pt_w pw_w) (h σ F H _ ty fun k F1 H1 ex1 p => by
    cases k with
    | false => rw [if_neg (by decide)] at p ⊢; exact c false F1 H1 ex1 p
    | true => rw [if_pos rfl] at p ⊢; exact p σ F1 H1 Q (ty.ext ex1) (c.step ex1))
theorem tw_or {a b : Expr} {es : List Expr} {P : Bool → Prop} (h : T X R G a fun k => if k = true then P true else TW X R G (.BoolOp .Or (b :: es) pos) P) : TW X R G (.BoolOp .Or (a :: b :: es) pos) P := fun σ F H Q ty c =>
  twOf.of (pw_or pt_w pw_w) (h σ F H _ ty fun k F1 H1 ex1 p => by
    cases k with
    | true => rw [if_pos rfl] at p ⊢; exact c true F1 H1 ex1 p
    | false => rw [if_neg (by decide)] at p ⊢; exact p σ F1 H1 Q (ty.ext ex1) (c.step ex1))
theorem t_not {a : Expr} {P : Bool → Prop} (h : T X R G a fun k => P (!k)) : T X R G (.UnaryOp .Not a pos) P := fun σ F H Q ty c =>
  ttOf.of (pt_not pt_w) (h σ F H _ ty fun k F1 H1 ex1 p => c _ F1 H1 ex1 p)
/-- and, or, not as values -/
theorem e_and {a b : Expr} {es : List Expr} {P : Dt → Prop} (h : E X R G a fun d => ∃ k, d = .bl k ∧ if k = true then E X R G (.BoolOp .And (b :: es) pos) P else P (.bl false)) : E X R G (.BoolOp .And (a :: b :: es) pos) P := fun σ F H Q ty c =>
  tOf.of (pe_and pe_w pe_w) (h σ F H _ ty fun v F1 H1 d1 ex1 r1 ⟨k, e, p⟩ => by
    subst e
    refine ⟨k, rp_bl.mp r1, ?_⟩
    cases k with
    | false => rw [if_neg (by decide)] at p ⊢; exact c _ F1 H1 _ ex1 (rp_bl.mpr rfl) p
    | true => rw [if_pos rfl] at p ⊢; exact p σ F1 H1 Q (ty.ext ex1) (c.step ex1))
theorem e_or {a b : Expr} {es : List Expr} {P : Dt → Prop} (h : E X R G a fun d => ∃ k, d = .bl k ∧ if k = true then P (.bl true) else E X R G (.BoolOp .Or (b :: es) pos) P) : E X R G (.BoolOp .Or (a :: b :: es) pos) P := fun σ F H Q ty c =>
  tOf.of (pe_or pe_w pe_w) (h σ F H _ ty fun v F1 H1 d1 ex1 r1 ⟨k, e, p⟩ => by
    subst e
    refine ⟨k, rp_bl.mp r1, ?_⟩
    cases k with
    | true => rw [if_pos rfl] at p ⊢; exact c _ F1 H1 _ ex1 (rp_bl.mpr rfl) p
    | false => rw [if_neg (by decide)] at p ⊢; exact p σ F1 H1 Q (ty.ext ex1) (c.step ex1))
theorem e_one {op} {a : Expr} {P : Dt → Prop} (h : E X R G a P) : E X R G (.BoolOp op [a] pos) P := fun σ F H Q ty c => tOf.of (pe_one pe_w) (h σ F H Q ty c)
theorem e_not {a : Expr} {P : Dt → Prop} (h : E X R G a fun d => ∃ k, d = .bl k ∧ P (.bl (!k))) : E X R G (.UnaryOp .Not a pos) P := fun σ F H Q ty c =>
  tOf.of (pe_not pe_w) (h σ F H _ ty fun v F1 H1 d1 ex1 r1 ⟨k, e, p⟩ => by
    subst e
    exact ⟨k, rp_bl.mp r1, c _ F1 H1 _ ex1 (rp_bl.mpr rfl) p⟩)
theorem e_if {t a b : Expr} {P : Dt → Prop} (h : T X R G t fun k => if k = true then E X R G a P else E X R G b P) : E X R G (.IfExp t a b pos) P := fun σ F H Q ty c =>
  tOf.of (pe_ifExp pt_w pe_w pe_w) (h σ F H _ ty fun k F1 H1 ex1 p => by
    cases k with
    | true => rw [if_pos rfl] at p ⊢; exact p σ F1 H1 Q (ty.ext ex1) (c.step ex1)
    | false => rw [if_neg (by decide)] at p ⊢; exact p σ F1 H1 Q (ty.ext ex1) (c.step ex1))

/-! ### arguments, displays -/
theorem ea_nil {P : List Dt → Prop} (p : P []) : EA X R G [] P := fun σ F H Q ty c => taOf.of pa_nil (c [] F H [] (.refl ty.wf) .nil p)
theorem ea_cons {e : Expr} {es : List Expr} {P : List Dt → Prop} (h : E X R G e fun d => EA X R G es fun ds => P (d :: ds)) (hs : starEach (e :: es) X.env = (false, eval e X.env) :: starEach es X.env := by rfl) : EA X R G (e :: es) P := fun σ F H Q ty c =>
  taOf.of (pa_cons pe_w pa_w hs) (h σ F H _ ty fun v F1 H1 d1 ex1 r1 h2 => h2 σ F1 H1 _ (ty.ext ex1) fun vs F2 H2 ds ex2 r2 p => c _ F2 H2 _ (ex1.trans ex2) (.cons (r1.mono ex2.ff) r2) p)
theorem rp_tup_new {K : PySem.W.Frag} {F : Hp} {p : Addr} {ds : List Dt} {vs : List V} (hn : F p = none) (r : RpL K F ds vs) : Rp K (upd F p (.tup vs)) (.tup ds) (.ref p) :=
  rp_tup.mpr ⟨p, vs, rfl, SqT.of upd_same, r.mono (same_upd hn)⟩
theorem rp_lst_new {K : PySem.W.Frag} {F : Hp} {p : Addr} {ds : List Dt} {vs : List V} (hn : F p = none) (r : RpL K F ds vs) : Rp K (upd F p (.lst vs)) (.lst ds) (.ref p) :=
  rp_lst.mpr ⟨p, vs, rfl, upd_same, r.mono (same_upd hn)⟩
theorem e_tup {es : List Expr} {x1} {P : Dt → Prop} (h : EA X R G es fun ds => ds.length ≤ 100000 ∧ P (.tup ds)) : E X R G (.Tuple es x1 pos) P := fun σ F H Q ty c =>
  tOf.of (pe_tup pa_w) (h σ F H _ ty fun vs F1 H1 ds ex1 r1 ⟨hl, p⟩ => ⟨by rw [← r1.length]; exact Nat.le_trans hl (by decide), fun q hq => c _ _ _ _ (ex1.trans (ex1.wf.made hq)) (rp_tup_new (ex1.wf.fh.free hq) r1) p⟩)
theorem e_lst {es : List Expr} {P : Dt → Prop} (h : EA X R G es fun ds => ds.length ≤ 100000 ∧ P (.lst ds)) : E X R G (.List es pos) P := fun σ F H Q ty c =>
  tOf.of (pe_lst pa_w) (h σ F H _ ty fun vs F1 H1 ds ex1 r1 ⟨hl, p⟩ => ⟨by rw [← r1.length]; exact Nat.le_trans hl (by decide), fun q hq => c _ _ _ _ (ex1.trans (ex1.wf.made hq)) (rp_lst_new (ex1.wf.fh.free hq) r1) p⟩)

/-! ### the operations -/
theorem w2_int {f : Value → Value → Sem Value} {C : Int → Int → Prop} {g : Int → Int → Int} {i j : Int} {P : Dt → Prop} (ho : OpR X f (rI C fun i j => .int (g i j))) (hc : C i j) (p : P (.int (g i j))) : W2 X R f (.int i) (.int j) P := fun F H x y Q w rx ry c =>
  opOf.of ho ⟨i, j, rp_int.mp rx, rp_int.mp ry, hc, c.here w (rp_int.mpr rfl) p⟩
theorem w2_int0 {f : Value → Value → Sem Value} {g : Int → Int → Int} {i j : Int} {P : Dt → Prop} (ho : OpR X f (rI0 fun i j => .int (g i j))) (p : P (.int (g i j))) : W2 X R f (.int i) (.int j) P := fun F H x y Q w rx ry c =>
  opOf.of ho ⟨i, j, rp_int.mp rx, rp_int.mp ry, c.here w (rp_int.mpr rfl) p⟩
theorem w2_bl0 {f : Value → Value → Sem Value} {g : Int → Int → Bool} {i j : Int} {P : Dt → Prop} (ho : OpR X f (rI0 fun i j => .bl (g i j))) (p : P (.bl (g i j))) : W2 X R f (.int i) (.int j) P := fun F H x y Q w rx ry c =>
  opOf.of ho ⟨i, j, rp_int.mp rx, rp_int.mp ry, c.here w (rp_bl.mpr rfl) p⟩
theorem w_add {i j : Int} {P : Dt → Prop} (p : P (.int (i + j))) : W2 X R (binaryOp .Add) (.int i) (.int j) P := w2_int0 op_add p
theorem w_sub {i j : Int} {P : Dt → Prop} (p : P (.int (i - j))) : W2 X R (binaryOp .Sub) (.int i) (.int j) P := w2_int0 op_sub p
/-- the sizes of ints: below 2 ^ 400000 -/
def Sm (n : Nat) (i : Int) : Prop := i.natAbs < 2 ^ n
theorem Sm.mul_ok {a b : Nat} {i j : Int} (ha : Sm a i) (hb : Sm b j) (h : a + b ≤ 900000) : CMulW i j := by
  refine wide_mul (a := a + 1) (b := b + 1) ?_ ?_ (by omega) (by omega) (by omega)
  · exact Nat.lt_of_lt_of_le ha (Nat.pow_le_pow_right (by decide) (by omega))
  · exact Nat.lt_of_lt_of_le hb (Nat.pow_le_pow_right (by decide) (by omega))
theorem w_mul {i j : Int} {P : Dt → Prop} (hc : CMulW i j) (p : P (.int (i * j))) : W2 X R (binaryOp .Mult) (.int i) (.int j) P := w2_int op_mulW hc p
theorem w_mulS {i j : Int} {P : Dt → Prop} (hc : CMul i j) (p : P (.int (i * j))) : W2 X R (binaryOp .Mult) (.int i) (.int j) P := w2_int op_mul hc p
theorem w_mod {i j : Int} {P : Dt → Prop} (hc : 0 < j) (p : P (.int (i % j))) : W2 X R (binaryOp .Mod) (.int i) (.int j) P := w2_int op_mod hc p
theorem w_modN {i j : Int} {P : Dt → Prop} (hc : j ≠ 0) (p : P (.int (i.fmod j))) : W2 X R (binaryOp .Mod) (.int i) (.int j) P := w2_int op_modN hc p
theorem w_div {i j : Int} {P : Dt → Prop} (hc : CDivW i j) (p : P (.int (i / j))) : W2 X R (binaryOp .FloorDiv) (.int i) (.int j) P := w2_int op_fdivW hc p
/-- // by any divisor but 0 below 2 ^ 9000 -/
def CDivA (_ j : Int) : Prop := j ≠ 0 ∧ j.natAbs.log2 < 9000
theorem op_fdivA : OpR X (binaryOp .FloorDiv) (rI CDivA fun i j => .int (i.fdiv j)) := opI fun i j _ _ _ _ _ hc q => PyProof.Rows.floordiv_int hc.1 q (.inl (PyProof.noPylong_of_log2 hc.2))
theorem w_divA {i j : Int} {P : Dt → Prop} (hc : CDivA i j) (p : P (.int (i.fdiv j))) : W2 X R (binaryOp .FloorDiv) (.int i) (.int j) P := w2_int op_fdivA hc p
theorem w_pow {i j : Int} {P : Dt → Prop} (hc : CPow i j) (p : P (.int (i ^ j.toNat))) : W2 X R (binaryOp .Pow) (.int i) (.int j) P := w2_int op_pow hc p
theorem w_neg {i : Int} {P : Dt → Prop} (p : P (.int (-i))) : W1 X R (unaryOp .USub) (.int i) P := fun F H x Q w rx c => unOf.of un_neg ⟨i, rp_int.mp rx, c.here w (rp_int.mpr rfl) p⟩
theorem w_lt {i j : Int} {P : Dt → Prop} (p : P (.bl (decide (i < j)))) : W2 X R (compareOp .Lt) (.int i) (.int j) P := w2_bl0 op_lt p
theorem w_le {i j : Int} {P : Dt → Prop} (p : P (.bl (decide (i ≤ j)))) : W2 X R (compareOp .LtE) (.int i) (.int j) P := w2_bl0 op_le p
theorem w_gt {i j : Int} {P : Dt → Prop} (p : P (.bl (decide (j < i)))) : W2 X R (compareOp .Gt) (.int i) (.int j) P := w2_bl0 op_gt p
theorem w_ge {i j : Int} {P : Dt → Prop} (p : P (.bl (decide (j ≤ i)))) : W2 X R (compareOp .GtE) (.int i) (.int j) P := w2_bl0 op_ge p
/-- the scalars -/
def scV : Dt → Option V
  | .non => some .non | .bl b => some (.bl b) | .int i => some (.int i) | .str x => some (.str x) | _ => none
theorem rp_sc {K : PySem.W.Frag} {F : Hp} {d : Dt} {v x : V} (h : scV d = some v) (r : Rp K F d x) : x = v := by
  cases d with
  | non => cases h; exact rp_non.mp r
  | bl b => cases h; exact rp_bl.mp r
  | int i => cases h; exact rp_int.mp r
  | str s => cases h; exact rp_str.mp r
  | _ => cases h
theorem w_eqS {a b : Dt} {u v : V} {P : Dt → Prop} (ha : scV a = some u) (hb : scV b = some v) (hs : scal u v = true) (p : P (.bl (decide (u = v)))) : W2 X R (compareOp .Eq) a b P := fun F H x y Q w rx ry c => by
  rw [rp_sc ha rx, rp_sc hb ry]
  exact opOf.of op_eq ⟨hs, c.here w (rp_bl.mpr rfl) p⟩
theorem w_neS {a b : Dt} {u v : V} {P : Dt → Prop} (ha : scV a = some u) (hb : scV b = some v) (hs : scal u v = true) (p : P (.bl (!decide (u = v)))) : W2 X R (compareOp .NotEq) a b P := fun F H x y Q w rx ry c => by
  rw [rp_sc ha rx, rp_sc hb ry]
  exact opOf.of op_ne ⟨hs, c.here w (rp_bl.mpr rfl) p⟩
theorem vint_eq {i j : Int} : decide (V.int i = V.int j) = decide (i = j) := by
  rw [Bool.eq_iff_iff]
  simp
theorem vstr_eq {i j : Str} : decide (V.str i = V.str j) = decide (i = j) := by
  rw [Bool.eq_iff_iff]
  simp
theorem vbl_eq {i j : Bool} : decide (V.bl i = V.bl j) = (i == j) := by
  rw [Bool.eq_iff_iff]
  simp
theorem w_eqI {i j : Int} {P : Dt → Prop} (p : P (.bl (decide (i = j)))) : W2 X R (compareOp .Eq) (.int i) (.int j) P := w_eqS (u := .int i) (v := .int j) rfl rfl rfl (by rw [vint_eq]; exact p)
theorem w_neI {i j : Int} {P : Dt → Prop} (p : P (.bl (!decide (i = j)))) : W2 X R (compareOp .NotEq) (.int i) (.int j) P := w_neS (u := .int i) (v := .int j) rfl rfl rfl (by rw [vint_eq]; exact p)
theorem w_eqT {i j : Str} {P : Dt → Prop} (p : P (.bl (decide (i = j)))) : W2 X R (compareOp .Eq) (.str i) (.str j) P := w_eqS (u := .str i) (v := .str j) rfl rfl rfl (by rw [vstr_eq]; exact p)
theorem w_neT {i j : Str} {P : Dt → Prop} (p : P (.bl (!decide (i = j)))) : W2 X R (compareOp .NotEq) (.str i) (.str j) P := w_neS (u := .str i) (v := .str j) rfl rfl rfl (by rw [vstr_eq]; exact p)
theorem w_eqB {i j : Bool} {P : Dt → Prop} (p : P (.bl (i == j))) : W2 X R (compareOp .Eq) (.bl i) (.bl j) P := w_eqS (u := .bl i) (v := .bl j) rfl rfl rfl (by rw [vbl_eq]; exact p)
theorem w_neB {i j : Bool} {P : Dt → Prop} (p : P (.bl (!(i == j)))) : W2 X R (compareOp .NotEq) (.bl i) (.bl j) P := w_neS (u := .bl i) (v := .bl j) rfl rfl rfl (by rw [vbl_eq]; exact p)

/-! ### subscripts -/
@[irreducible] def ixOf (X : Cx) : R2 := fun x y H Q => ∀ (value slice : Expr) pins s σ v u, Inv X pins σ H s → RelV x v → RelV y u → subscripted slice false v u = operate [v, u] (getItem v u) → wpAny (model X.prog X.w) X.A (PyProof.Rows.subscriptTail value slice v u) (EP X pins σ Q) X.xe s
theorem ix_w : IxR X (ixOf X) := fun value slice pins s σ H x y v u Q I rx ry h hs => by unfold ixOf at h; exact h value slice pins s σ v u I rx ry hs
theorem ixOf.of {r : R2} {x y : V} {H : Hp} {Q : VK} (h : IxR X r) (q : r x y H Q) : ixOf X x y H Q := by unfold ixOf; exact fun value slice pins s σ v u I rx ry hs => h value slice pins s σ H x y v u Q I rx ry q hs
def WI (X : Cx) (R : Reg) (a b : Dt) (P : Dt → Prop) : Prop := ∀ F H x y Q, Wf R F H → Rp X.K F a x → Rp X.K F b y → Ct X.K R F H P Q → ixOf X x y H Q
theorem e_ix {a b : Expr} {P : Dt → Prop} (h : E X R G a fun d1 => E X R G b fun d2 => WI X R d1 d2 P) (hs : PlainIx b := by intro _ _; rfl) : E X R G (.Subscript a b pos) P := fun σ F H Q ty c =>
  tOf.of (pe_ix ix_w pe_w pe_w hs) (h σ F H _ ty fun v F1 H1 d1 ex1 r1 h2 => h2 σ F1 H1 _ (ty.ext ex1) fun w F2 H2 d2 ex2 r2 h3 => h3 F2 H2 v w Q ex2.wf (r1.mono ex2.ff) r2 (c.step (ex1.trans ex2)))
theorem atI_map {α β : Type} {f : α → β} {xs : List α} {i : Int} {v : α} (h : atI xs i = some v) : atI (xs.map f) i = some (f v) := by
  unfold atI at h ⊢
  rw [List.length_map]
  cases q : ixN xs.length i with
  | none => rw [q] at h; simp at h
  | some j =>
    rw [q] at h
    simp only [Option.bind_some] at h ⊢
    rw [List.getElem?_map, h]
    rfl
theorem RpL.at {K : PySem.W.Frag} {F : Hp} {ds : List Dt} {vs : List V} {i : Int} {d : Dt} (r : RpL K F ds vs) (h : atI ds i = some d) : ∃ v, atI vs i = some v ∧ Rp K F d v := by
  unfold atI at h ⊢
  rw [← r.length]
  cases q : ixN ds.length i with
  | none => rw [q] at h; simp at h
  | some j =>
    rw [q] at h
    simp only [Option.bind_some] at h ⊢
    exact r.get h
theorem wi_tup {ds : List Dt} {i : Int} {d : Dt} {P : Dt → Prop} (h : atI ds i = some d) (p : P d) : WI X R (.tup ds) (.int i) P := fun F H x y Q w rx ry c => by
  obtain ⟨a, vs, rfl, sq, rl⟩ := rp_tup.mp rx
  obtain ⟨v, e, r⟩ := rl.at h
  exact ixOf.of ix_tup ⟨a, vs, i, v, rfl, rp_int.mp ry, sq_t w.fh sq, e, c.here w r p⟩
theorem wi_lst {ds : List Dt} {i : Int} {d : Dt} {P : Dt → Prop} (h : atI ds i = some d) (p : P d) : WI X R (.lst ds) (.int i) P := fun F H x y Q w rx ry c => by
  obtain ⟨a, vs, rfl, sq, rl⟩ := rp_lst.mp rx
  obtain ⟨v, e, r⟩ := rl.at h
  exact ixOf.of ix_list ⟨a, vs, i, v, rfl, rp_int.mp ry, SqL.of (w.fh _ _ sq), e, c.here w r p⟩
theorem wi_str {z : Str} {i : Int} {k : Nat} {P : Dt → Prop} (hz : z.length ≤ sizeLine) (h : atI z.cps.toList i = some k) (p : P (.str ⟨#[k]⟩)) : WI X R (.str z) (.int i) P := fun F H x y Q w rx ry c =>
  ixOf.of ix_str ⟨z, i, k, rp_str.mp rx, rp_int.mp ry, hz, h, c.here w (rp_str.mpr rfl) p⟩
theorem wi_tup0 {d : Dt} {ds : List Dt} {P : Dt → Prop} (p : P d) : WI X R (.tup (d :: ds)) (.int 0) P := wi_tup (atI_nat (j := 0) rfl) p
theorem wi_tup1 {d e : Dt} {ds : List Dt} {P : Dt → Prop} (p : P e) : WI X R (.tup (d :: e :: ds)) (.int 1) P := wi_tup (atI_nat (j := 1) rfl) p
theorem wi_tup2 {d e f : Dt} {ds : List Dt} {P : Dt → Prop} (p : P f) : WI X R (.tup (d :: e :: f :: ds)) (.int 2) P := wi_tup (atI_nat (j := 2) rfl) p

/-! ### calls of what the machine brings -/
theorem e_callB {x : Str} {id : String} {e : Expr} {es : List Expr} {p : Pos} {P : Dt → Prop} (hg : Gl X x) (hm : X.mg x = none) (hv : bootBuiltins x = some (.builtin id)) (h : EA X R G (e :: es) fun ds => WC X R (.builtin id) ds P)
    (hn : x ≠ "__name__" := by decide) (hdb : (x == ("__debug__" : Str)) = false := by decide) (he : starEach (e :: es) X.env = (false, eval e X.env) :: starEach es X.env := by rfl) (hpl : (backTo pos (starEach es X.env)).any (·.1) = false := by rfl) : E X R G (.Call (.Name x p) (e :: es) [] pos) P := fun σ F H Q ty c =>
  tOf.of (pe_callB cr_w hg hm hv pa_w hn hdb he hpl) (h σ F H _ ty fun vs F1 H1 ds ex1 r1 h2 => h2 F1 H1 vs Q ex1.wf r1 (c.step ex1))
theorem e_callTy {x : Str} {id : String} {e : Expr} {es : List Expr} {p : Pos} {P : Dt → Prop} (hg : Gl X x) (hm : X.mg x = none) (hv : bootBuiltins x = some (.type id)) (h : EA X R G (e :: es) fun ds => WC X R (.type id) ds P)
    (hn : x ≠ "__name__" := by decide) (hdb : (x == ("__debug__" : Str)) = false := by decide) (he : starEach (e :: es) X.env = (false, eval e X.env) :: starEach es X.env := by rfl) (hpl : (backTo pos (starEach es X.env)).any (·.1) = false := by rfl) : E X R G (.Call (.Name x p) (e :: es) [] pos) P := fun σ F H Q ty c =>
  tOf.of (pe_callTy cr_w hg hm hv pa_w hn hdb he hpl) (h σ F H _ ty fun vs F1 H1 ds ex1 r1 h2 => h2 F1 H1 vs Q ex1.wf r1 (c.step ex1))
theorem RpL.one {K : PySem.W.Frag} {F : Hp} {d : Dt} {vs : List V} (h : RpL K F [d] vs) : ∃ v, vs = [v] ∧ Rp K F d v := by
  obtain ⟨v, r, rfl, h1, h2⟩ := h.of_cons
  rw [h2.of_nil]
  exact ⟨v, rfl, h1⟩
theorem RpL.two {K : PySem.W.Frag} {F : Hp} {d e : Dt} {vs : List V} (h : RpL K F [d, e] vs) : ∃ v w, vs = [v, w] ∧ Rp K F d v ∧ Rp K F e w := by
  obtain ⟨v, r, rfl, h1, h2⟩ := h.of_cons
  obtain ⟨w, rfl, h3⟩ := h2.one
  exact ⟨v, w, rfl, h1, h3⟩
def iabs (i : Int) : Int := if i < 0 then -i else i
theorem iabs_eq (i : Int) : iabs i = (i.natAbs : Int) := by
  unfold iabs
  split <;> omega
theorem wc_abs {i : Int} {P : Dt → Prop} (p : P (.int (i.natAbs : Int))) : WC X R (.builtin "abs") [.int i] P := fun F H xs Q w r c => by
  obtain ⟨v, rfl, h1⟩ := r.one
  rw [rp_int.mp h1]
  refine crOf.of call_abs ⟨i, rfl, ?_⟩
  have q := c.here w (rp_int.mpr rfl) (v := .int (iabs i)) (d := .int (iabs i)) (by rw [iabs_eq]; exact p)
  exact q
theorem wc_int {i : Int} {P : Dt → Prop} (p : P (.int i)) : WC X R (.type "int") [.int i] P := fun F H xs Q w r c => by
  obtain ⟨v, rfl, h1⟩ := r.one
  rw [rp_int.mp h1]
  exact crOf.of call_int1 (.inl ⟨i, rfl, c.here w (rp_int.mpr rfl) p⟩)
theorem wc_len_lst {ds : List Dt} {P : Dt → Prop} (p : P (.int (ds.length : Int))) : WC X R (.builtin "len") [.lst ds] P := fun F H xs Q w r c => by
  obtain ⟨v, rfl, h1⟩ := r.one
  obtain ⟨a, vs, rfl, sq, rl⟩ := rp_lst.mp h1
  refine crOf.of call_len_seq ⟨a, vs, rfl, .inl (SqL.of (w.fh _ _ sq)), ?_⟩
  exact c.here w (d := .int (ds.length : Int)) (rp_int.mpr (by rw [rl.length])) p
theorem wc_len_tup {ds : List Dt} {P : Dt → Prop} (p : P (.int (ds.length : Int))) : WC X R (.builtin "len") [.tup ds] P := fun F H xs Q w r c => by
  obtain ⟨v, rfl, h1⟩ := r.one
  obtain ⟨a, vs, rfl, sq, rl⟩ := rp_tup.mp h1
  refine crOf.of call_len_seq ⟨a, vs, rfl, .inr (sq_t w.fh sq), ?_⟩
  exact c.here w (d := .int (ds.length : Int)) (rp_int.mpr (by rw [rl.length])) p
end
end VS
set_option Elab.async false
set_option linter.all false
set_option maxRecDepth 100000
namespace VS
open PySem PySem.Spec L2

/-! ### statements over data -/
structure Kt where
  nx : List Sl → Prop
  rt : Dt → Prop
  rn : Dt → Prop := fun _ => False
  bk : List Sl → Prop := fun _ => False
  ct : List Sl → Prop := fun _ => False
/-- from the entry F0, H0 on -/
structure Bs (R : Reg) (F0 H0 : Hp) (G : List Sl) (σ : St) (F H : Hp) : Prop where
  ext : Ext R F0 H0 F H
  fresh : ∀ o ∈ owns G σ, H0 o = none
  z : R.Z F0 H0
structure KOk (K : PySem.W.Frag) (R : Reg) (F0 H0 : Hp) (k : Kt) (D : Ends) : Prop where
  nx : ∀ G σ F H, k.nx G → Ty K R G σ F H → Bs R F0 H0 G σ F H → D.nx σ H
  rt : ∀ d v F H, k.rt d → Ext R F0 H0 F H → Rp K F d v → D.rt v H
  rn : ∀ d p F H, k.rn d → Ext R F0 H0 F H → H0 p = none → F p = none → OwO K F H p d → D.rt (.ref p) H
  bk : ∀ G σ F H, k.bk G → Ty K R G σ F H → Bs R F0 H0 G σ F H → D.bk σ H
  ct : ∀ G σ F H, k.ct G → Ty K R G σ F H → Bs R F0 H0 G σ F H → D.ct σ H
def S (X : Cx) (R : Reg) (ss : List Stmt) (G : List Sl) (k : Kt) : Prop := ∀ F0 H0 σ F H D, Ty X.K R G σ F H → Bs R F0 H0 G σ F H → KOk X.K R F0 H0 k D → sOf X ss D σ H
def S1 (X : Cx) (R : Reg) (st : Stmt) (G : List Sl) (k : Kt) : Prop := ∀ F0 H0 σ F H D, Ty X.K R G σ F H → Bs R F0 H0 G σ F H → KOk X.K R F0 H0 k D → s1Of X st D σ H
section
variable {X : Cx} {R : Reg} {G : List Sl} {pos : Pos} {k : Kt} {F0 H0 F H F1 H1 : Hp} {σ : St}
theorem Bs.step (b : Bs R F0 H0 G σ F H) (e : Ext R F H F1 H1) : Bs R F0 H0 G σ F1 H1 := ⟨b.ext.trans e, b.fresh, b.z⟩
/-- the entry moved on to where F stands -/
theorem Bs.here (b : Bs R F0 H0 G σ F H) : Bs R F H0 G σ F H := ⟨⟨b.ext.wf, .refl _, b.ext.hh, fun _ _ h => h⟩, b.fresh, R.zs _ _ _ b.ext.ff b.ext.fr b.z⟩
theorem Ext.back (a : Ext R F0 H0 F H) (b : Ext R F H0 F1 H1) : Ext R F0 H0 F1 H1 := ⟨b.wf, a.ff.trans b.ff, b.hh, fun x h n => b.fr x h (a.fr x h n)⟩
theorem Bs.back {G1 : List Sl} {σ1 : St} (a : Ext R F0 H0 F H) (b : Bs R F H0 G1 σ1 F1 H1) (hz : R.Z F0 H0) : Bs R F0 H0 G1 σ1 F1 H1 := ⟨a.back b.ext, b.fresh, hz⟩
theorem KOk.here {D : Ends} (c : KOk X.K R F0 H0 k D) (a : Ext R F0 H0 F H) (hz : R.Z F0 H0) : KOk X.K R F H0 k D :=
  ⟨fun G σ F1 H1 h ty b => c.nx G σ F1 H1 h ty (b.back a hz), fun d v F1 H1 h e r => c.rt d v F1 H1 h (a.back e) r, fun d p F1 H1 h e => c.rn d p F1 H1 h (a.back e), fun G σ F1 H1 h ty b => c.bk G σ F1 H1 h ty (b.back a hz), fun G σ F1 H1 h ty b => c.ct G σ F1 H1 h ty (b.back a hz)⟩

theorem s_nil (h : k.nx G) : S X R [] G k := fun F0 H0 σ F H D ty b c => sOf.of pss_nil (c.nx G σ F H h ty b)
theorem s_cons {st : Stmt} {ss : List Stmt} (h : S1 X R st G { k with nx := fun G' => S X R ss G' k }) : S X R (st :: ss) G k := fun F0 H0 σ F H D ty b c =>
  sOf.of (pss_cons ps_w pss_w) (h F0 H0 σ F H _ ty b ⟨fun G' σ' F' H' h' ty' b' => h' F0 H0 σ' F' H' D ty' b' c, c.rt, c.rn, c.bk, c.ct⟩)
theorem s_one {st : Stmt} (h : S1 X R st G k) : S X R [st] G k := fun F0 H0 σ F H D ty b c => sOf.of (pss_one ps_w) (h F0 H0 σ F H D ty b c)
/-- a word between a statement and the rest -/
theorem s_cut {st : Stmt} {ss : List Stmt} (M : List Sl → Prop) (h : S1 X R st G { k with nx := M }) (h2 : ∀ G', M G' → S X R ss G' k) : S X R (st :: ss) G k := fun F0 H0 σ F H D ty b c =>
  sOf.of (pss_cons ps_w pss_w) (h F0 H0 σ F H _ ty b ⟨fun G' σ' F' H' h' ty' b' => h2 G' h' F0 H0 σ' F' H' D ty' b' c, c.rt, c.rn, c.bk, c.ct⟩)
theorem S.imp {ss : List Stmt} {k' : Kt} (h : S X R ss G k) (h1 : ∀ G, k.nx G → k'.nx G) (h2 : ∀ d, k.rt d → k'.rt d) (h2n : ∀ d, k.rn d → k'.rn d) (h3 : ∀ G, k.bk G → k'.bk G) (h4 : ∀ G, k.ct G → k'.ct G) : S X R ss G k' := fun F0 H0 σ F H D ty b c =>
  h F0 H0 σ F H D ty b ⟨fun G σ F H z => c.nx G σ F H (h1 G z), fun d v F H z => c.rt d v F H (h2 d z), fun d p F H z => c.rn d p F H (h2n d z), fun G σ F H z => c.bk G σ F H (h3 G z), fun G σ F H z => c.ct G σ F H (h4 G z)⟩
theorem Bs.set (b : Bs R F0 H0 G σ F H) (i : Nat) {d : Dt} {x : V} : Bs R F0 H0 (G.set i (.sh d)) (σ.set i (some x)) F H := ⟨b.ext, fun o ho => b.fresh o ((owns_set_sub (g := .sh d) (v := some x) i (fun _ z => nomatch z)).subset ho), b.z⟩

/-- name = e -/
theorem s_asg (i : Nat) {x : Str} {e : Expr} {pos' : Pos} (hN : X.N.Nodup) (hi : X.N[i]? = some x) (hx : Loc X.env.scope x) (h : E X R G e fun d => k.nx (G.set i (.sh d)))
    (hs : swapsWith e (some (.Name x pos')) pos.line X.env = pure false := by rfl) (hf : X.fn x = true ∨ X.env.scope.names.lookup x = some .local := by first | exact .inl rfl | exact .inr rfl | assumption) : S1 X R (.Assign [.Name x pos'] e pos) G k := fun F0 H0 σ F H D ty b c =>
  s1Of.of (ps_set hN hi hx pe_w hs hf) (h σ F H _ ty fun v F1 H1 d ex r p => c.nx _ _ F1 H1 p ((ty.ext ex).set i r) ((b.step ex).set i))
theorem s_expr {e : Expr} (h : E X R G e fun _ => k.nx G) (hs : swapsWith e none pos.line X.env = pure false := by rfl) : S1 X R (.Expr e pos) G k := fun F0 H0 σ F H D ty b c =>
  s1Of.of (ps_expr pe_w hs) (h σ F H _ ty fun v F1 H1 d ex r p => c.nx _ _ F1 H1 p (ty.ext ex) (b.step ex))
theorem s_pass (h : k.nx G) : S1 X R (.Pass pos) G k := fun F0 H0 σ F H D ty b c => s1Of.of ps_pass (c.nx G σ F H h ty b)
theorem s_brk (h : k.bk G) : S1 X R (.Break pos) G k := fun F0 H0 σ F H D ty b c => s1Of.of ps_break (c.bk G σ F H h ty b)
theorem s_cont (h : k.ct G) : S1 X R (.Continue pos) G k := fun F0 H0 σ F H D ty b c => s1Of.of ps_continue (c.ct G σ F H h ty b)
theorem s_if {t : Expr} {a b : List Stmt} (h : T X R G t fun c => if c = true then S X R a G k else S X R b G k) : S1 X R (.If t a b pos) G k := fun F0 H0 σ F H D ty bs c =>
  s1Of.of (ps_if pt_w pss_w pss_w) (h σ F H _ ty fun q F1 H1 ex p => by
    cases q with
    | true => rw [if_pos rfl] at p ⊢; exact p F0 H0 σ F1 H1 D (ty.ext ex) (bs.step ex) c
    | false => rw [if_neg (by decide)] at p ⊢; exact p F0 H0 σ F1 H1 D (ty.ext ex) (bs.step ex) c)

/-! ### one's own things given away -/
def vis : Sl → Sl
  | .ow d => .sh d
  | g => g
theorem owo_rp {K : PySem.W.Frag} {F H F1 : Hp} {o : Addr} {d : Dt} (h : OwO K F H o d) (ff : Same F F1) (ho : F1 o = H o) : Rp K F1 d (.ref o) := by
  rcases h.kinds with ⟨xs, rfl⟩ | ⟨ks, xs, rfl⟩ | ⟨ks, xs, rfl⟩ | ⟨C, ns, xs, rfl⟩ | ⟨a, C, ns, xs, rfl⟩
  · obtain ⟨vs, h1, r⟩ := h
    exact rp_lst.mpr ⟨o, vs, rfl, by rw [ho]; exact h1, r.mono ff⟩
  · obtain ⟨vs, h1, l, r⟩ := h
    exact rp_dT.mpr ⟨o, vs, rfl, .inl (by rw [ho]; exact h1), l, r.mono ff⟩
  · obtain ⟨vs, h1, l, r⟩ := h
    simp only [Rp]
    exact ⟨o, vs, rfl, .inl (by rw [ho]; exact h1), l, r.mono ff⟩
  · obtain ⟨dx, vs, h1, l, r⟩ := h
    exact rp_obj.mpr ⟨o, dx, vs, rfl, by rw [ho]; exact h1, l, r.mono ff⟩
  · obtain ⟨e, dx, vs, h1, l, r⟩ := h
    simp only [Rp]
    exact ⟨by rw [e], o, dx, vs, rfl, by rw [ho]; exact h1, l, r.mono ff⟩
theorem slsOk_vis {K : PySem.W.Frag} {F H F1 : Hp} {G : List Sl} {σ : St} (h : SlsOk K R F H G σ) (ff : Same F F1) (ho : ∀ o ∈ owns G σ, F1 o = H o) : SlsOk K R F1 H (G.map vis) σ := by
  induction h with
  | nil => exact .nil
  | @cons g v Gs vs h t ih =>
    refine .cons ?_ (ih fun o q => ho o ?_)
    · cases g with
      | no => trivial
      | sh d => obtain ⟨x, e, r⟩ := h; exact ⟨x, e, r.mono ff⟩
      | ow d =>
        obtain ⟨o, e, h1, h2, h3⟩ := h
        subst e
        exact ⟨.ref o, rfl, owo_rp h3 ff (ho o (by simp [owns]))⟩
    · cases g with
      | no => simpa [owns] using q
      | sh d => simpa [owns] using q
      | ow d =>
        cases v with
        | none => simpa [owns] using q
        | some x => cases x <;> simp [owns, q]
theorem owns_vis (G : List Sl) (σ : St) : owns (G.map vis) σ = [] := by
  induction G generalizing σ with
  | nil => simp [owns]
  | cons g G ih =>
    cases σ with
    | nil => cases g <;> simp [owns, vis]
    | cons v vs => cases g <;> simp [owns, vis, ih]
theorem Ty.frz {K : PySem.W.Frag} (ty : Ty K R G σ F H) (b : Bs R F0 H0 G σ F H) : ∃ F1, Ty K R (G.map vis) σ F1 H ∧ Bs R F0 H0 (G.map vis) σ F1 H ∧ Same F F1 := by
  have hno : ∀ o ∈ owns G σ, F o = none ∧ ¬ R.M o ∧ H o ≠ none := fun o ho => by
    obtain ⟨i, d, e1, e2⟩ := owns_mem ho
    obtain ⟨v, e3, p, e4, h1, h2, h3⟩ := ty.sl.get e1
    rw [e2] at e3
    cases e3
    cases e4
    exact ⟨h1, h2, h3.some⟩
  have ff : Same F (fun a => if a ∈ owns G σ then H a else F a) := fun a o h => by
    show (if a ∈ owns G σ then H a else F a) = some o
    by_cases q : a ∈ owns G σ
    · rw [(hno a q).1] at h; cases h
    · rw [if_neg q]; exact h
  have wf : Wf R (fun a => if a ∈ owns G σ then H a else F a) H := by
    refine ⟨fun a o h => ?_, fun a m => ?_, ty.wf.oc, ty.wf.b⟩
    · by_cases q : a ∈ owns G σ
      · have h' : (if a ∈ owns G σ then H a else F a) = some o := h
        rw [if_pos q] at h'; exact h'
      · have h' : (if a ∈ owns G σ then H a else F a) = some o := h
        rw [if_neg q] at h'; exact ty.wf.fh a o h'
    · show (if a ∈ owns G σ then H a else F a) = none
      by_cases q : a ∈ owns G σ
      · exact absurd m (hno a q).2.1
      · rw [if_neg q]; exact ty.wf.off a m
  refine ⟨_, ⟨wf, slsOk_vis ty.sl ff fun o ho => if_pos ho, by rw [owns_vis]; exact .nil⟩, ⟨⟨wf, b.ext.ff.trans ff, b.ext.hh, fun a h n => ?_⟩, (by rw [owns_vis]; intro o ho; cases ho), b.z⟩, ff⟩
  show (if a ∈ owns G σ then H a else F a) = none
  by_cases q : a ∈ owns G σ
  · exact absurd (b.fresh a q) h
  · rw [if_neg q]; exact b.ext.fr a h n
/-- from here on nothing is one's own -/
theorem s_frz {ss : List Stmt} (h : S X R ss (G.map vis) k) : S X R ss G k := fun F0 H0 σ F H D ty b c => by
  obtain ⟨F1, ty1, b1, ff⟩ := ty.frz b
  exact h F0 H0 σ F1 H D ty1 b1 c
theorem s1_frz {st : Stmt} (h : S1 X R st (G.map vis) k) : S1 X R st G k := fun F0 H0 σ F H D ty b c => by
  obtain ⟨F1, ty1, b1, ff⟩ := ty.frz b
  exact h F0 H0 σ F1 H D ty1 b1 c
theorem s_ret {e : Expr} (h : E X R (G.map vis) e k.rt) : S1 X R (.Return (some e) pos) G k := s1_frz fun F0 H0 σ F H D ty b c =>
  s1Of.of (ps_ret pe_w) (h σ F H _ ty fun v F1 H1 d ex r p => c.rt d v F1 H1 p (b.ext.trans ex) r)
theorem s_retN (h : k.rt .non) : S1 X R (.Return none pos) G k := fun F0 H0 σ F H D ty b c => s1Of.of ps_retN (c.rt .non .non F H h b.ext (rp_non.mpr rfl))

/-! ### while -/
theorem s_while {t : Expr} {body : List Stmt} (I : Nat → List Sl → Prop) (m0 : Nat) (h0 : I m0 G) (hp : PassesOwn (model X.prog X.w) X.A X.env X.xe)
    (hs : ∀ m G, I m G → T X R G t fun c => if c = true then S X R body G { k with nx := fun G' => ∃ m', m' < m ∧ I m' G', ct := fun G' => ∃ m', m' < m ∧ I m' G', bk := k.nx } else k.nx G) : S1 X R (.While t body [] pos) G k := fun F0 H0 σ F H D ty b c =>
  s1Of.of (ps_while hp pt_w pss_w) ⟨fun m σ H => ∃ G F, I m G ∧ Ty X.K R G σ F H ∧ Bs R F0 H0 G σ F H, ⟨m0, G, F, h0, ty, b⟩, fun m σ H ⟨G, F, hI, ty, b⟩ => by
    refine hs m G hI σ F H _ ty fun q F1 H1 ex p => ?_
    cases q with
    | false => rw [if_neg (by decide)] at p ⊢; exact c.nx G σ F1 H1 p (ty.ext ex) (b.step ex)
    | true =>
      rw [if_pos rfl] at p ⊢
      refine ⟨_, fun σ' H' z => z, p F0 H0 σ F1 H1 _ (ty.ext ex) (b.step ex) ⟨fun G' σ' F' H' ⟨m', hm, z⟩ ty' b' => ⟨m', hm, G', F', z, ty', b'⟩, c.rt, c.rn, c.nx, fun G' σ' F' H' ⟨m', hm, z⟩ ty' b' => ⟨m', hm, G', F', z, ty', b'⟩⟩⟩⟩
/-- a, b = x, y -/
theorem s_par (i j : Nat) {x y : Str} {a b : Expr} {px py pt : Pos} {kt k2 pt2} (hc : X.calm = true) (hN : X.N.Nodup) (hi : X.N[i]? = some x) (hj : X.N[j]? = some y) (hij : i ≠ j)
    (hx : X.env.scope.names.lookup x = some .local) (hy : X.env.scope.names.lookup y = some .local) (h : EA X R G [a, b] fun ds => ∃ d e, ds = [d, e] ∧ k.nx ((G.set i (.sh d)).set j (.sh e)))
    (hw : swappedStores [.Tuple [.Name x px, .Name y py] kt pt] (.Tuple [a, b] k2 pt2) X.env = pure (some [x, y]))
    (hs : swapsWithSole [.Tuple [.Name x px, .Name y py] kt pt] (.Tuple [a, b] k2 pt2) pos.line X.env = pure false := by rfl) :
    S1 X R (.Assign [.Tuple [.Name x px, .Name y py] kt pt] (.Tuple [a, b] k2 pt2) pos) G k := fun F0 H0 σ F H D ty bs c =>
  s1Of.of (ps_par hc hN hi hj hij hx hy pa_w hw hs) (h σ F H _ ty fun vs F1 H1 ds ex r ⟨d, e, q, p⟩ => by
    subst q
    obtain ⟨v, w, rfl, r1, r2⟩ := r.two
    exact ⟨v, w, rfl, c.nx _ _ F1 H1 p (((ty.ext ex).set i r1).set j r2) (((bs.step ex).set i).set j)⟩)
end

/-! ### defs -/
/-- an error that leaves: its class, its own attributes -/
abbrev XD := Addr → List Str → List Dt → Prop
/-- a def's promise over data: the arguments, what is wanted of the value, of an error -/
abbrev Ph := List Dt → (Dt → Prop) → XD → Prop
def XOk (K : PySem.W.Frag) (R : Reg) (F H : Hp) (x : XD) (E : XK) : Prop := (∀ C ns ds dx vs F' H', x C ns ds → Ext R F H F' H' → H' dx = some (.xd (ns.zip vs)) → ns.length = vs.length → RpL K F' ds vs → H dx = none → E (.ref C) (some dx) H') ∧ (∀ C F' H', x C [] [] → Ext R F H F' H' → E (.ref C) none H')
def spD (K : PySem.W.Frag) (n : Nat) (φ : Ph) : Sp := fun vs H Q E => vs.length = n ∧ ∃ F ds q x, Same F H ∧ RpL K F ds vs ∧ φ ds q x ∧ (∀ v F' H' d, Ext .nil F H F' H' → Rp K F' d v → q d → Q v H') ∧ XOk K .nil F H x E
structure Fn (P : Program) (w : World) (K : PySem.W.Frag) (mg : Str → Option Value) (base : Heap) (k : Nat) (x : Str) (ps : List Str) (dvs : List V) (sp : Sp) : Prop where
  ex : ∃ (f : Addr) (fd : FuncData) (ds : List Value), mg x = some (.ref f) ∧ PySem.W.keepIn K (.ref f) = true ∧ Binds K fd ps ds ∧ Vals dvs ds ∧ FnOk P w K mg base (L2.CX P w) k f fd ps sp
theorem Fn.mono {P : Program} {w : World} {K : PySem.W.Frag} {mg : Str → Option Value} {base : Heap} {j k : Nat} {x : Str} {ps : List Str} {dvs : List V} {sp : Sp} (F : Fn P w K mg base j x ps dvs sp) (h : j ≤ k) : Fn P w K mg base k x ps dvs sp := by
  obtain ⟨f, fd, ds, a, b, c, d, e⟩ := F.ex
  exact ⟨f, fd, ds, a, b, c, d, e.mono h⟩
theorem wf_nil {F H : Hp} (s : Same F H) : Wf .nil F H := ⟨s, fun _ z => z.elim, fun _ z => z.elim, trivial⟩
theorem Ext.of_nil {R : Reg} {F H F' H' : Hp} (w : Wf R F H) (e : Ext .nil F H F' H') : Ext R F H F' H' := w.grow (fun a o h => e.hh a o (fun z => z) h) e.ff e.wf.fh e.fr
section
variable {X : Cx} {R : Reg} {G : List Sl} {pos : Pos}
/-- f(e, ..): nothing is raised -/
theorem e_call {x : Str} {ps : List Str} {dvs : List V} {dds : List Dt} {φ : Ph} {n j : Nat} {e : Expr} {es : List Expr} {p : Pos} {P : Dt → Prop} (F : Fn X.prog X.w X.K X.mg X.base j x ps dvs (spD X.K n φ)) (hr : Room j X.A) (hg : Gl X x) (hd : ∀ F, RpL X.K F dds dvs)
    (h : EA X R G (e :: es) fun ds => (ds ++ dds).length = n ∧ φ (ds ++ dds) P fun _ _ _ => False)
    (hdb : (x == ("__debug__" : Str)) = false := by decide) (he : starEach (e :: es) X.env = (false, eval e X.env) :: starEach es X.env := by rfl) (hpl : (backTo pos (starEach es X.env)).any (·.1) = false := by rfl) : E X R G (.Call (.Name x p) (e :: es) [] pos) P := fun σ F' H Q ty c => by
  obtain ⟨f, fd, ds, a1, a2, a3, a4, a5⟩ := F.ex
  refine tOf.of (pe_call a5 hr hg a1 a2 a3 a4 passL pa_w hdb he hpl) (h σ F' H _ ty fun vs F1 H1 ds ex r ⟨hl, hφ⟩ => ?_)
  have rr : RpL X.K F1 (ds ++ dds) (vs ++ dvs) := r.append (hd F1)
  exact ⟨by rw [← hl]; exact rr.length.symm, F1, _, P, fun _ _ _ => False, ex.wf.fh, rr, hφ, fun v F2 H2 d ex2 r2 p => c v F2 H2 d (ex.trans (Ext.of_nil ex.wf ex2)) r2 p, ⟨fun _ _ _ _ _ _ _ z => z.elim, fun _ _ _ z => z.elim⟩⟩
theorem e_call0 {x : Str} {ps : List Str} {φ : Ph} {n j : Nat} {p : Pos} {P : Dt → Prop} (F : Fn X.prog X.w X.K X.mg X.base j x ps [] (spD X.K n φ)) (hr : Room j X.A) (hg : Gl X x) (hl : n = 0) (h : φ [] P fun _ _ _ => False)
    (hdb : (x == ("__debug__" : Str)) = false := by decide) : E X R G (.Call (.Name x p) [] [] pos) P := fun σ F' H Q ty c => by
  obtain ⟨f, fd, ds, a1, a2, a3, a4, a5⟩ := F.ex
  refine tOf.of (pe_call0 a5 hr hg a1 a2 a3 a4 passL hdb) ?_
  exact ⟨by rw [hl]; rfl, F', _, P, fun _ _ _ => False, ty.wf.fh, .nil, h, fun v F2 H2 d ex2 r2 p => c v F2 H2 d (Ext.of_nil ty.wf ex2) r2 p, ⟨fun _ _ _ _ _ _ _ z => z.elim, fun _ _ _ z => z.elim⟩⟩
end

/-! ### a def keeps its promise -/
def st0 (N : List Str) (ds : List Dt) : List Sl := ds.map .sh ++ List.replicate (N.length - ds.length) .no
theorem sls0 {K : PySem.W.Frag} {R : Reg} {F H : Hp} : ∀ {ds : List Dt} {vs : List V} (n : Nat), RpL K F ds vs → SlsOk K R F H (ds.map .sh ++ List.replicate n .no) (vs.map some ++ List.replicate n none)
  | [], _, n, r => by
    rw [r.of_nil]
    simp only [List.map_nil, List.nil_append]
    induction n with
    | zero => exact .nil
    | succ n ih => exact .cons trivial ih
  | d :: ds, _, n, r => by
    obtain ⟨v, t, rfl, h1, h2⟩ := r.of_cons
    exact .cons ⟨v, rfl, h1⟩ (sls0 n h2)
theorem owns0 : ∀ (ds : List Dt) (σ : St) (n : Nat), owns (ds.map Sl.sh ++ List.replicate n .no) σ = []
  | [], σ, n => by
    simp only [List.map_nil, List.nil_append]
    induction n generalizing σ with
    | zero => simp [owns]
    | succ n ih =>
      cases σ with
      | nil => simp [owns, List.replicate_succ]
      | cons v vs => simp [owns, List.replicate_succ, ih]
  | d :: ds, [], n => by simp [owns]
  | d :: ds, v :: vs, n => by simp [owns, owns0 ds vs n]
section
variable {P : Program} {w : World} {K : PySem.W.Frag} {mg : Str → Option Value} {base : Heap}
/-- a def of the text as it stands behind the top -/
abbrev FD (K : PySem.W.Frag) (x qual : Str) (st : Stmt) (dvs : List V) (kws : List (Str × V)) (f : Addr) (fd : FuncData) : Prop := FunD K x qual (defArgs st) (defBody st) (defScope st) dvs kws f fd
theorem fn_ok {x qual : Str} {st : Stmt} {f : Addr} {fd : FuncData} {dvs : List V} {kws : List (Str × V)} {N ps : List Str} {k n : Nat} {φ : Ph} (F : FD K x qual st dvs kws f fd) (Sc : FnScope N ps (defScope st)) (hn : n = ps.length)
    (h : ∀ (X : Cx) (cdv : Value) (A : Around) (outer : List Env) (s : Shared) (H : Hp) (E : XK) (ds : List Dt) (q : Dt → Prop) (xd : XD), X = cxOf (L2.CX P w) P w K mg base N qual (defScope st) f cdv A outer s H E → Room k X.A → φ ds q xd → ds.length = n →
      (∀ F, Wf .nil F H → XOk K .nil F H xd E → S X .nil (defBody st) (st0 N ds) { nx := fun _ => q .non, rt := q })) : FnOk P w K mg base (L2.CX P w) (k + 1) f fd ps (spD K n φ) := by
  refine FunD.ok F Sc (fun vs H Q E hh => by rw [hh.1, hn]) fun cdv A outer s H vs Q E hr hh => ?_
  obtain ⟨hl, F0, ds, q, xd, sf, r, hφ, hq, hx⟩ := hh
  have hS := h _ cdv A outer s H E ds q xd rfl hr hφ (by rw [r.length, hl]) F0 (wf_nil sf) hx
  refine ⟨_, pss_w, hS F0 H _ F0 H _ ⟨wf_nil sf, ?_, by unfold st0; rw [owns0]; exact .nil⟩ ⟨.refl (wf_nil sf), (by unfold st0; rw [owns0]; intro o ho; cases ho), trivial⟩ ⟨fun G σ F1 H1 z _ b => hq .non F1 H1 .non b.ext (rp_non.mpr rfl) z, fun d v F1 H1 z e rd => hq v F1 H1 d e rd z, fun _ _ _ _ z => z.elim, fun _ _ _ _ z => z.elim, fun _ _ _ _ z => z.elim⟩⟩
  unfold st0 L2.start
  rw [r.length]
  exact sls0 _ r
end
end VS
set_option Elab.async false
set_option linter.all false
set_option maxRecDepth 100000
namespace VS
open PySem PySem.Spec L2

/-! ### what is walked, over data -/
@[irreducible] def tiOf (X : Cx) (tg iter : Expr) : TI := fun σ H R => ∀ pins s, Inv X pins σ H s → wpAny (model X.prog X.w) X.A (eval iter X.env) (fun v s1 => wpAny (model X.prog X.w) X.A (pyIter v) (PIE X pins σ tg R) X.xe s1) X.xe s
@[irreducible] def tgOf (X : Cx) (tg : Expr) : TG := fun v σ H Q => ∀ pins s u, Inv X pins σ H s → RelV v u → wpAny (model X.prog X.w) X.A (assign tg X.env u) (fun _ s' => ∃ σ' H', Inv X pins σ' H' s' ∧ Q σ' H') X.xe s
theorem pi_w {X : Cx} {tg iter : Expr} : PI X tg iter (tiOf X tg iter) := ⟨fun pins s σ H R I h => by unfold tiOf at h; exact h pins s I⟩
theorem pg_w {X : Cx} {tg : Expr} : PG X tg (tgOf X tg) := ⟨fun pins s σ H v u Q I r h => by unfold tgOf at h; exact h pins s u I r⟩
theorem tiOf.of {X : Cx} {tg iter : Expr} {t : TI} {σ : St} {H : Hp} {R : It → Hp → Prop} (h : PI X tg iter t) (q : t σ H R) : tiOf X tg iter σ H R := by unfold tiOf; exact fun pins s I => h.run pins s σ H R I q
theorem tgOf.of {X : Cx} {tg : Expr} {t : TG} {v : V} {σ : St} {H : Hp} {Q : St → Hp → Prop} (h : PG X tg t) (q : t v σ H Q) : tgOf X tg v σ H Q := by unfold tgOf; exact fun pins s u I r => h.run pins s σ H v u Q I r q
/-- the iterator J gives out the data ds, where F1 is known -/
def Itd (K : PySem.W.Frag) (R : Reg) (F1 : Hp) (J : It) (ds : List Dt) : Prop := ∀ F H, Same F1 F → Wf R F H → (∀ i, ds.length ≤ i → J.stop i H) ∧
  ∀ i d, ds[i]? = some d → J.go i H ∧ ∀ x H', J.yld i H x H' → ∃ F', Ext R F H F' H' ∧ Rp K F' d x
def I (X : Cx) (R : Reg) (G : List Sl) (tg iter : Expr) (P : List Dt → Prop) : Prop := ∀ σ F H Q, Ty X.K R G σ F H → (∀ J F' H' ds, Ext R F H F' H' → Itd X.K R F' J ds → P ds → Q J H') → tiOf X tg iter σ H Q
/-- slots set, one after another -/
def setsV (σ : St) (l : List (Nat × V)) : St := l.foldl (fun σ p => σ.set p.1 (some p.2)) σ
def setsD (G : List Sl) (l : List (Nat × Dt)) : List Sl := l.foldl (fun G p => G.set p.1 (.sh p.2)) G
/-- a target takes d: the slots js hold what ds tells -/
def A (X : Cx) (tg : Expr) (d : Dt) (js : List (Nat × Dt)) : Prop := ∀ σ F H v (Q : St → Hp → Prop), Same F H → Rp X.K F d v → (∀ vs, js.length = vs.length → RpL X.K F (js.map (·.2)) vs → Q (setsV σ ((js.map (·.1)).zip vs)) H) → tgOf X tg v σ H Q
section
variable {X : Cx} {R : Reg} {G : List Sl} {pos : Pos} {k : Kt}
theorem Ty.sets {K : PySem.W.Frag} {F H : Hp} : ∀ {js : List (Nat × Dt)} {vs : List V} {G : List Sl} {σ : St}, Ty K R G σ F H → RpL K F (js.map (·.2)) vs → Ty K R (setsD G js) (setsV σ ((js.map (·.1)).zip vs)) F H
  | [], vs, G, σ, ty, r => ty
  | (j, d) :: js, _, G, σ, ty, r => by
    obtain ⟨v, t, rfl, h1, h2⟩ := r.of_cons
    exact Ty.sets (js := js) (ty.set j h1) h2
theorem owns_sets : ∀ {js : List (Nat × Dt)} {vs : List V} {G : List Sl} {σ : St} {o : Addr}, js.length = vs.length → o ∈ owns (setsD G js) (setsV σ ((js.map (·.1)).zip vs)) → o ∈ owns G σ
  | [], vs, G, σ, o, _, h => h
  | (j, d) :: js, [], G, σ, o, hl, h => by simp at hl
  | (j, d) :: js, v :: vs, G, σ, o, hl, h => (owns_set_sub (g := .sh d) (v := some v) j (fun _ z => nomatch z)).subset (owns_sets (js := js) (vs := vs) (by simpa using hl) h)
theorem a_name (j : Nat) {x : Str} {d : Dt} (hN : X.N.Nodup) (hi : X.N[j]? = some x) (hx : Loc X.env.scope x) (hf : X.fn x = true ∨ X.env.scope.names.lookup x = some .local := by first | exact .inl rfl | exact .inr rfl | assumption) : A X (.Name x pos) d [(j, d)] := fun σ F H v Q _ r c =>
  tgOf.of (pg_name hN hi hx hf) (c [v] rfl (.cons r .nil))
/-- several targets take several data -/
def As (X : Cx) (ts : List Expr) (ds : List Dt) (js : List (Nat × Dt)) : Prop := ∃ t, PGs X ts t ∧ ∀ σ F H vs (Q : St → Hp → Prop), Same F H → RpL X.K F ds vs → (∀ ws, js.length = ws.length → RpL X.K F (js.map (·.2)) ws → Q (setsV σ ((js.map (·.1)).zip ws)) H) → t vs σ H Q
theorem as_nil : As X [] [] [] := ⟨_, pgs_nil, fun σ F H vs Q _ r c => ⟨r.of_nil, c [] rfl .nil⟩⟩
theorem zip_app {α β : Type} : ∀ {l1 : List α} {m1 : List β} {l2 : List α} {m2 : List β}, l1.length = m1.length → (l1 ++ l2).zip (m1 ++ m2) = l1.zip m1 ++ l2.zip m2
  | [], [], _, _, _ => rfl
  | [], _ :: _, _, _, h => by simp at h
  | _ :: _, [], _, _, h => by simp at h
  | a :: l1, b :: m1, l2, m2, h => by
    simp only [List.cons_append, List.zip_cons_cons]
    rw [zip_app (by simpa using h)]
theorem as_cons {t : Expr} {ts : List Expr} {d : Dt} {ds : List Dt} {js ls : List (Nat × Dt)} (h : A X t d js) (hr : As X ts ds ls) (hs : (assignEach (t :: ts) X.env).map (·.2) = assign t X.env :: (assignEach ts X.env).map (·.2) := by rfl) : As X (t :: ts) (d :: ds) (js ++ ls) := by
  obtain ⟨u, hu, hq⟩ := hr
  refine ⟨_, pgs_cons pg_w hu hs, fun σ F H vs Q sf r c => ?_⟩
  obtain ⟨v, w, rfl, r1, r2⟩ := r.of_cons
  refine ⟨v, w, rfl, h σ F H v _ sf r1 fun ws hw rw1 => hq _ F H w _ sf r2 fun zs hz rz => ?_⟩
  have e := c (ws ++ zs) (by simp [hw, hz]) (by rw [List.map_append]; exact rw1.append rz)
  rw [List.map_append, zip_app (by simpa using hw)] at e
  unfold setsV at e ⊢
  rw [List.foldl_append] at e
  exact e
theorem a_tup {es : List Expr} {kk : Nat} {ds : List Dt} {js : List (Nat × Dt)} (hc : X.calm = true) (h : As X es ds js) (hn : (assignEach es X.env).length = ds.length := by rfl) (hst : (assignEach es X.env).findIdx? (·.1) = none := by rfl) : A X (.Tuple es kk pos) (.tup ds) js := fun σ F H v Q sf r c => by
  obtain ⟨t, ht, hq⟩ := h
  obtain ⟨a, vs, rfl, sq, rl⟩ := rp_tup.mp r
  exact tgOf.of (pg_tup hc ht hn hst) ⟨a, vs, rfl, sq_t sf sq, rl.length.symm, hq σ F H vs Q sf rl c⟩
/-- a, b = e -/
theorem s_unpack {tg e : Expr} (h : E X R G e fun d => ∃ js, A X tg d js ∧ k.nx (setsD G js)) (hs : swapsWithSole [tg] e pos.line X.env = pure false := by rfl) (hw : swappedStores [tg] e X.env = pure none := by rfl)
    (h1 : (assignEach [tg] X.env).map (·.2) = [assign tg X.env] := by rfl) : S1 X R (.Assign [tg] e pos) G k := fun F0 H0 σ F H D ty b c =>
  s1Of.of (ps_asg pe_w pg_w hs hw h1) (h σ F H _ ty fun v F1 H1 d ex r ⟨js, ha, p⟩ => ha σ F1 H1 v _ ex.wf.fh r fun vs hl rv => c.nx _ _ F1 H1 p ((ty.ext ex).sets rv) ⟨(b.step ex).ext, fun o ho => b.fresh o (owns_sets hl ho), b.z⟩)

/-! ### for -/
theorem s_for {tg iter : Expr} {body : List Stmt} (hp : PassesOwn (model X.prog X.w) X.A X.env X.xe) (hc : X.calm = true)
    (h : I X R G tg iter fun ds => ∃ J : Nat → List Sl → Prop, J 0 G ∧ (∀ i d G, ds[i]? = some d → J i G → ∃ js, A X tg d js ∧ S X R body (setsD G js) { k with nx := J (i + 1), ct := J (i + 1), bk := k.nx }) ∧ ∀ G, J ds.length G → k.nx G)
    (hs : ∀ x, foldedSetIterable iter X.env x = pure x := by intro _; rfl) : S1 X R (.For tg iter body [] pos) G k := fun F0 H0 σ F H D ty b c => by
  refine s1Of.of (ps_for hp hc pi_w pg_w pss_w hs) (h σ F H _ ty fun Jt F1 H1 ds ex it ⟨J, j0, jt, jd⟩ => ?_)
  refine ⟨fun i m σ H => m = ds.length - i ∧ i ≤ ds.length ∧ ∃ G F, J i G ∧ Ty X.K R G σ F H ∧ Bs R F0 H0 G σ F H ∧ Same F1 F, ⟨_, rfl, Nat.zero_le _, G, F1, j0, ty.ext ex, b.step ex, .refl _⟩, ?_⟩
  rintro i m σ2 H2 ⟨rfl, hi, G2, F2, jg, ty2, b2, s2⟩
  obtain ⟨hstop, hgo⟩ := it F2 H2 s2 ty2.wf
  by_cases hlt : i < ds.length
  · obtain ⟨g1, g2⟩ := hgo i ds[i] (List.getElem?_eq_getElem hlt)
    refine .inr ⟨g1, _, fun σ' H' z => z, fun x H' y => ?_⟩
    obtain ⟨F3, ex3, r3⟩ := g2 x H' y
    obtain ⟨js, ha, hS⟩ := jt i ds[i] G2 (List.getElem?_eq_getElem hlt) jg
    refine ha σ2 F3 H' x _ ex3.wf.fh r3 fun vs hl rv => ?_
    have b3 := b2.step ex3
    have b4 : Bs R F0 H0 (setsD G2 js) (setsV σ2 ((js.map (·.1)).zip vs)) F3 H' := ⟨b3.ext, fun o ho => b3.fresh o (owns_sets hl ho), b3.z⟩
    have nxt : ∀ G' σ' F' H'', J (i + 1) G' → Ty X.K R G' σ' F' H'' → Bs R F3 H0 G' σ' F' H'' → ∃ m', m' < ds.length - i ∧ m' = ds.length - (i + 1) ∧ i + 1 ≤ ds.length ∧ ∃ G F, J (i + 1) G ∧ Ty X.K R G σ' F H'' ∧ Bs R F0 H0 G σ' F H'' ∧ Same F1 F :=
      fun G' σ' F' H'' z tz bz => ⟨_, by omega, rfl, hlt, G', F', z, tz, Bs.back b3.ext bz b3.z, (s2.trans ex3.ff).trans bz.ext.ff⟩
    have c2 := c.here b3.ext b3.z
    exact hS F3 H0 _ F3 H' _ ((ty2.ext ex3).sets rv) b4.here ⟨nxt, c2.rt, c2.rn, c2.nx, nxt⟩
  · have e : i = ds.length := by omega
    subst e
    exact .inl ⟨hstop _ (Nat.le_refl _), c.nx G2 σ2 F2 H2 (jd G2 jg) ty2 b2⟩
theorem i_lst {tg e : Expr} {P : List Dt → Prop} (h : E X R G e fun d => ∃ ds, d = .lst ds ∧ P ds) : I X R G tg e P := fun σ F H Q ty c =>
  tiOf.of (pi_list pe_w) (h σ F H _ ty fun v F1 H1 d ex r ⟨ds, e, p⟩ => by
    subst e
    obtain ⟨a, vs, rfl, sq, rl⟩ := rp_lst.mp r
    refine ⟨a, rfl, ⟨vs, SqL.of (ex.wf.fh _ _ sq)⟩, c _ F1 H1 ds ex (fun F2 H2 sf wf => ?_) p⟩
    have sq2 : SqL X.K H2 a vs := SqL.of (wf.fh _ _ (sf _ _ sq))
    refine ⟨fun i hi => ⟨vs, sq2, by rw [← rl.length]; exact hi⟩, fun i d hd => ?_⟩
    obtain ⟨v, hv, rv⟩ := rl.get hd
    refine ⟨⟨vs, v, sq2, hv⟩, fun x H' y => ?_⟩
    obtain ⟨rfl, y⟩ := y
    have e := y vs sq2
    rw [hv] at e
    cases e
    exact ⟨F2, .refl wf, rv.mono sf⟩)
theorem i_tup {tg e : Expr} {P : List Dt → Prop} (h : E X R G e fun d => ∃ ds, d = .tup ds ∧ P ds) : I X R G tg e P := fun σ F H Q ty c =>
  tiOf.of (pi_tup pe_w) (h σ F H _ ty fun v F1 H1 d ex r ⟨ds, e, p⟩ => by
    subst e
    obtain ⟨a, vs, rfl, sq, rl⟩ := rp_tup.mp r
    refine ⟨a, rfl, ⟨vs, sq_t ex.wf.fh sq⟩, c _ F1 H1 ds ex (fun F2 H2 sf wf => ?_) p⟩
    have sq2 : SqT X.K H2 a vs := sq_t wf.fh (sq_t sf sq)
    refine ⟨fun i hi => ⟨vs, sq2, by rw [← rl.length]; exact hi⟩, fun i d hd => ?_⟩
    obtain ⟨v, hv, rv⟩ := rl.get hd
    refine ⟨⟨vs, v, sq2, hv⟩, fun x H' y => ?_⟩
    obtain ⟨rfl, y⟩ := y
    have e := y vs sq2
    rw [hv] at e
    cases e
    exact ⟨F2, .refl wf, rv.mono sf⟩)
/-- lo, lo + 1, .. n of them -/
def rangeD (lo : Int) (n : Nat) : List Dt := (List.range n).map fun i => .int (lo + (i : Nat))
theorem rangeD_length (lo : Int) (n : Nat) : (rangeD lo n).length = n := by simp [rangeD]
theorem rangeD_get {lo : Int} {n i : Nat} {d : Dt} (h : (rangeD lo n)[i]? = some d) : i < n ∧ d = .int (lo + (i : Nat)) := by
  unfold rangeD at h
  rw [List.getElem?_map] at h
  by_cases hi : i < n
  · rw [List.getElem?_range hi] at h
    exact ⟨hi, (Option.some.inj h).symm⟩
  · rw [List.getElem?_eq_none (by simpa using hi)] at h
    cases h
theorem itd_range {F1 : Hp} {lo : Int} {n : Nat} : Itd X.K R F1 (Itr lo n) (rangeD lo n) := fun F H sf wf => ⟨fun i hi => by rw [rangeD_length] at hi; exact hi, fun i d hd => by
  obtain ⟨h1, h2⟩ := rangeD_get hd
  refine ⟨h1, fun x H' y => ?_⟩
  obtain ⟨rfl, rfl⟩ := y
  exact ⟨F, .refl wf, by rw [h2]; exact rp_int.mpr rfl⟩⟩
theorem i_range1 {tg a : Expr} {p : Pos} {P : List Dt → Prop} (hg : Gl X "range") (hm : X.mg "range" = none) (h : EA X R G [a] fun ds => ∃ n : Int, ds = [.int n] ∧ -(2 ^ 62) ≤ n ∧ n < 2 ^ 62 ∧ P (rangeD 0 n.toNat)) (hs : starEach [a] X.env = [(false, eval a X.env)] := by rfl) : I X R G tg (.Call (.Name "range" p) [a] [] pos) P := fun σ F H Q ty c =>
  tiOf.of (pi_range1 hg hm pa_w hs) (h σ F H _ ty fun v F1 H1 d ex r ⟨n, e, h1, h2, p⟩ => by
    subst e
    obtain ⟨v, rfl, r1⟩ := r.one
    exact ⟨n, by rw [rp_int.mp r1], h1, h2, c _ F1 H1 _ ex itd_range p⟩)
theorem i_range2 {tg a b : Expr} {p : Pos} {P : List Dt → Prop} (hg : Gl X "range") (hm : X.mg "range" = none) (h : EA X R G [a, b] fun ds => ∃ lo n : Int, ds = [.int lo, .int n] ∧ (-(2 ^ 62) ≤ lo ∧ lo < 2 ^ 62 ∧ -(2 ^ 62) ≤ n ∧ n < 2 ^ 62) ∧ P (rangeD lo (n - lo).toNat))
    (hs : starEach [a, b] X.env = [(false, eval a X.env), (false, eval b X.env)] := by rfl) (hs2 : starEach [b] X.env = [(false, eval b X.env)] := by rfl) : I X R G tg (.Call (.Name "range" p) [a, b] [] pos) P := fun σ F H Q ty c =>
  tiOf.of (pi_range2 hg hm pa_w hs hs2) (h σ F H _ ty fun v F1 H1 d ex r ⟨lo, n, e, h3, p⟩ => by
    subst e
    obtain ⟨v, w, rfl, r1, r2⟩ := r.two
    exact ⟨lo, n, by rw [rp_int.mp r1, rp_int.mp r2], h3, c _ F1 H1 _ ex itd_range p⟩)

/-! ### comprehensions -/
theorem wipe_set (σ : St) (j : Nat) (v : Option V) : ∀ {vs : List Nat}, j ∈ vs → wipe (σ.set j v) vs = wipe σ vs
  | [], h => by simp at h
  | u :: vs, h => by
    show (wipe (σ.set j v) vs).set u none = (wipe σ vs).set u none
    by_cases q : j ∈ vs
    · rw [wipe_set σ j v q]
    · have e : j = u := by
        rcases List.mem_cons.mp h with z | z
        · exact z
        · exact absurd z q
      subst e
      have w : ∀ (us : List Nat) (τ : St), j ∉ us → wipe (τ.set j v) us = (wipe τ us).set j v := fun us => by
        induction us with
        | nil => intro τ _; rfl
        | cons a us ih =>
          intro τ hn
          simp only [List.mem_cons, not_or] at hn
          show (wipe (τ.set j v) us).set a none = ((wipe τ us).set a none).set j v
          rw [ih τ hn.2, List.set_comm _ _ hn.1]
      rw [w vs σ q, List.set_set]
theorem wipe_sets {vs : List Nat} : ∀ {js : List (Nat × V)} {σ : St}, (∀ p ∈ js, p.1 ∈ vs) → wipe (setsV σ js) vs = wipe σ vs
  | [], σ, _ => rfl
  | (j, v) :: js, σ, h => by
    show wipe (setsV (σ.set j (some v)) js) vs = wipe σ vs
    rw [wipe_sets (js := js) fun p hp => h p (List.mem_cons_of_mem _ hp), wipe_set σ j (some v) (h (j, v) (List.mem_cons_self ..))]
theorem wipe_wipe (σ : St) (vs : List Nat) : wipe (wipe σ vs) vs = wipe σ vs := by
  have w : ∀ (us : List Nat) (τ : St), (∀ u ∈ us, u ∈ vs) → wipe (wipe τ us) vs = wipe τ vs := fun us => by
    induction us with
    | nil => intro τ _; rfl
    | cons a us ih =>
      intro τ hn
      show wipe ((wipe τ us).set a none) vs = wipe τ vs
      rw [wipe_set _ a none (hn a (List.mem_cons_self ..)), ih τ fun u hu => hn u (List.mem_cons_of_mem _ hu)]
  exact w vs σ fun u hu => hu
def wipeD (G : List Sl) : List Nat → List Sl
  | [] => G
  | v :: vs => (wipeD G vs).set v .no
theorem Ty.no {K : PySem.W.Frag} {F H : Hp} {σ : St} (h : Ty K R G σ F H) (i : Nat) {v : Option V} : Ty K R (G.set i .no) (σ.set i v) F H := ⟨h.wf, h.sl.set i trivial, h.nd.sublist (owns_set_sub i fun _ z => nomatch z)⟩
theorem Ty.wipe {K : PySem.W.Frag} {F H : Hp} {σ : St} (h : Ty K R G σ F H) : ∀ vs : List Nat, Ty K R (wipeD G vs) (L2.wipe σ vs) F H
  | [] => h
  | v :: vs => (Ty.wipe h vs).no v
/-- a block's context -/
def Blk (X : Cx) (scope : Scope) (Y : Cx) : Prop := ∃ s H C cl fp, Y = X.blk s H scope (compEnvC scope cl C X.env) fp
theorem Blk.K {scope : Scope} {Y : Cx} (b : Blk X scope Y) : Y.K = X.K := by
  obtain ⟨s, H, C, cl, fp, rfl⟩ := b
  rfl
@[irreducible] def tsOf (X : Cx) (ifs : List Expr) : TT := fun σ H Q => ∀ pins s, Inv X pins σ H s → wpAny (model X.prog X.w) X.A (forIn ifs true fun c r => if r = true then do let ok ← isTrue c X.env (eval c X.env); pure (ForInStep.yield ok) else pure (ForInStep.yield r)) (TP X pins σ Q) X.xe s
theorem tsOf.of {ifs : List Expr} {t : TT} {σ : St} {H : Hp} {Q : Bool → Hp → Prop} (h : PTs X ifs t) (q : t σ H Q) : tsOf X ifs σ H Q := by unfold tsOf; exact fun pins s I => h.run pins s σ H Q I q
def Ts (X : Cx) (R : Reg) (G : List Sl) (ifs : List Expr) (P : Bool → Prop) : Prop := ∀ σ F H Q, Ty X.K R G σ F H → CtB R F H P Q → tsOf X ifs σ H Q
theorem ts_nil {P : Bool → Prop} (p : P true) : Ts X R G [] P := fun σ F H Q ty c => tsOf.of pts_nil (c.here ty.wf p)
theorem ts_one {t : Expr} {P : Bool → Prop} (h : T X R G t P) : Ts X R G [t] P := fun σ F H Q ty c => tsOf.of (pts_one pt_w) (h σ F H Q ty c)
def tgB (X : Cx) (scope : Scope) (tg : Expr) : TG := fun v σ H Q => ∀ Y, Blk X scope Y → tgOf Y tg v σ H Q
def ttB (X : Cx) (scope : Scope) (ifs : List Expr) : TT := fun σ H Q => ∀ Y, Blk X scope Y → tsOf Y ifs σ H Q
def teB (X : Cx) (scope : Scope) (e : Expr) : TE := fun σ H Q => ∀ Y, Blk X scope Y → tOf Y e σ H Q
/-- what a comprehension's turns give: J turn (what is gathered) -/
structure Lc (X : Cx) (R : Reg) (G : List Sl) (tg elt : Expr) (ifs : List Expr) (scope : Scope) (vs : List Nat) (ds : List Dt) (J : Nat → List Dt → Prop) : Prop where
  start : J 0 []
  step : ∀ i d acc, ds[i]? = some d → J i acc → acc.length ≤ i → ∃ js, (∀ Y, Blk X scope Y → A Y tg d js) ∧ (∀ p ∈ js, p.1 ∈ vs) ∧
    ∀ Y, Blk X scope Y → Ts Y R (setsD (wipeD G vs) js) ifs fun b => if b = true then ∀ Z, Blk X scope Z → E Z R (setsD (wipeD G vs) js) elt fun y => J (i + 1) (acc ++ [y]) else J (i + 1) acc
theorem lc_run {tg iter elt : Expr} {ifs : List Expr} {scope : Scope} {vs : List Nat} {σ : St} {F H : Hp} {Q : VK} (ty : Ty X.K R G σ F H) (h : I X R G tg iter fun ds => ds.length ≤ 100000 ∧ ∃ J, Lc X R G tg elt ifs scope vs ds J ∧
      ∀ acc, J ds.length acc → ∀ D F' H' vacc, Ext R F H F' H' → H D = none → ¬ R.M D → H' D = some (.lst vacc) → F' D = none → RpL X.K F' acc vacc → Q (.ref D) H') : tLc (tiOf X tg iter) (tgB X scope tg) (ttB X scope ifs) (teB X scope elt) vs σ H Q := by
  refine h σ F H _ ty fun Jt F1 H1 ds ex it ⟨hl, J, lc, fin⟩ => fun D hD => ?_
  have hD0 : H D = none := by
    cases q : H D with
    | none => rfl
    | some o => exact absurd hD (ex.keep (by rw [q]; exact fun z => nomatch z))
  have nM : ¬ R.M D := ex.wf.new hD
  refine ⟨fun i m H2 => m = ds.length - i ∧ i ≤ ds.length ∧ ∃ F2 acc vacc, J i acc ∧ acc.length ≤ i ∧ H2 D = some (.lst vacc) ∧ F2 D = none ∧ RpL X.K F2 acc vacc ∧ Ext R F1 H1 F2 H2, ⟨_, rfl, Nat.zero_le _, F1, [], [], lc.start, Nat.le_refl _, upd_same, ex.wf.fh.free hD, .nil, ex.wf.own hD⟩, ?_⟩
  rintro i m H2 ⟨rfl, hi, F2, acc, vacc, j, hla, hD2, fD2, ra, ex2⟩
  obtain ⟨hstop, hgo⟩ := it F2 H2 ex2.ff ex2.wf
  by_cases hlt : i < ds.length
  · obtain ⟨g1, g2⟩ := hgo i ds[i] (List.getElem?_eq_getElem hlt)
    refine .inr ⟨g1, _, fun H' z => z, fun x H' y => ?_⟩
    obtain ⟨F3, ex3, r3⟩ := g2 x H' y
    obtain ⟨js, ha, hjs, hS⟩ := lc.step i ds[i] acc (List.getElem?_eq_getElem hlt) j hla
    intro Y bY
    refine ha Y bY (wipe σ vs) F3 H' x _ ex3.wf.fh (by rw [bY.K]; exact r3) fun ws hw rw1 => ⟨?_, ?_⟩
    · rw [wipe_sets fun p hp => ?_, wipe_wipe]
      have q := (List.of_mem_zip hp).1
      obtain ⟨z, hz, e⟩ := List.mem_map.mp q
      rw [← e]
      exact hjs z hz
    · intro Y2 bY2
      have tyW : Ty X.K R (setsD (wipeD G vs) js) (setsV (wipe σ vs) ((js.map (·.1)).zip ws)) F3 H' := Ty.sets (((ty.ext ((ex.trans ex2).trans ex3))).wipe vs) (by rw [← bY.K]; exact rw1)
      have hD3 : H' D = some (.lst vacc) := ex3.hh D _ nM hD2
      have fD3 : F3 D = none := ex3.fr D (by rw [hD2]; exact fun z => nomatch z) fD2
      refine hS Y2 bY2 _ F3 H' _ (by rw [bY2.K]; exact tyW) fun b F4 H4 ex4 p => ?_
      have hD4 : H4 D = some (.lst vacc) := ex4.hh D _ nM hD3
      have fD4 : F4 D = none := ex4.fr D (by rw [hD3]; exact fun z => nomatch z) fD3
      cases b with
      | false =>
        rw [if_neg (by decide)] at p ⊢
        exact ⟨_, by omega, rfl, hlt, F4, acc, vacc, p, Nat.le_succ_of_le hla, hD4, fD4, ra.mono (ex3.ff.trans ex4.ff), (ex2.trans ex3).trans ex4⟩
      | true =>
        rw [if_pos rfl] at p ⊢
        intro Y3 bY3
        refine p Y3 bY3 _ F4 H4 _ (by rw [bY3.K]; exact tyW.ext ex4) fun y F5 H5 d ex5 r5 pj => ?_
        have hD5 : H5 D = some (.lst vacc) := ex5.hh D _ nM hD4
        have fD5 : F5 D = none := ex5.fr D (by rw [hD4]; exact fun z => nomatch z) fD4
        have ra5 := ra.mono ((ex3.ff.trans ex4.ff).trans ex5.ff)
        have e5 := ((ex2.trans ex3).trans ex4).trans ex5
        have mk : Ext R F1 H1 F5 (upd H5 D (.lst (vacc ++ [y]))) := by
          refine ⟨⟨fun a o h => ?_, e5.wf.off, fun a m z => ?_, ?_⟩, e5.ff, fun a o n h => ?_, e5.fr⟩
          · rw [upd_ne (fun z => by rw [z, fD5] at h; cases h)]
            exact e5.wf.fh a o h
          · have nz : a ≠ D := fun z => nM (z ▸ m)
            rw [upd_ne nz] at z
            exact e5.wf.oc a m z
          · exact R.st H5 _ (fun a o m h => by
              have nz : a ≠ D := fun z => nM (z ▸ m)
              rw [upd_ne nz]
              exact h) e5.wf.b
          · rw [upd_ne (ne_of_none h hD)]
            exact e5.hh a o n h
        refine ⟨vacc, hD5, ?_, ⟨_, by omega, rfl, hlt, F5, acc ++ [d], vacc ++ [y], pj, by simp; omega, upd_same, fD5, ra5.append (.cons (by rw [← bY3.K]; exact r5) .nil), mk⟩⟩
        rw [← ra5.length]
        exact Nat.lt_of_le_of_lt hla (Nat.lt_of_lt_of_le hlt (Nat.le_trans hl (by decide)))
  · have e : i = ds.length := by omega
    subst e
    exact .inl ⟨hstop _ (Nat.le_refl _), fin acc j D F2 H2 vacc (ex.trans ex2) hD0 nM hD2 fD2 ra⟩
/-- [elt for tg in iter if ..] -/
theorem e_lc {tg iter elt : Expr} {ifs : List Expr} {scope : Scope} {own : List (Str × Nat)} {P : Dt → Prop} (hc : X.calm = true) (hN : X.N.Nodup) (ok : BlkOk X.N X.env.scope scope own)
    (h : I X R G tg iter fun ds => ds.length ≤ 100000 ∧ ∃ J, Lc X R G tg elt ifs scope (own.map (·.2)) ds J ∧ ∀ acc, J ds.length acc → P (.lst acc)) (hs : ∀ x, foldedSetIterable iter X.env x = pure x := by intro _; rfl) : E X R G (.ListComp elt [⟨tg, iter, ifs, 0⟩] scope pos) P := fun σ F H Q ty c => by
  refine tOf.of (pe_lc (g := tgB X scope tg) (tt := ttB X scope ifs) (te := teB X scope elt) hc hN pi_w ok (fun s H C cl fp => ⟨fun pins s' σ H' v u Q I r h => by have z := h _ ⟨s, H, C, cl, fp, rfl⟩; unfold tgOf at z; exact z pins s' u I r⟩) (fun s H C cl fp => ⟨fun pins s' σ H' Q I h => by have z := h _ ⟨s, H, C, cl, fp, rfl⟩; unfold tsOf at z; exact z pins s' I⟩) (fun s H C cl fp => ⟨fun pins s' σ H' Q I h => by have z := h _ ⟨s, H, C, cl, fp, rfl⟩; unfold tOf at z; exact z pins s' I⟩) hs) (lc_run ty ?_)
  intro σ1 F1 H1 Q1 ty1 c1
  refine h σ1 F1 H1 Q1 ty1 fun J F2 H2 ds ex it ⟨hl, Jd, lc, fin⟩ => c1 J F2 H2 ds ex it ⟨hl, Jd, lc, fun acc ja D F' H' vacc ex' hD nM hD' fD' ra => ?_⟩
  refine c (.ref D) (upd F' D (.lst vacc)) H' (.lst acc) ⟨⟨fun a o h => ?_, fun a m => ?_, ex'.wf.oc, ex'.wf.b⟩, ex'.ff.trans (same_upd fD'), ex'.hh, fun a h n => ?_⟩ (rp_lst_new fD' ra) (fin acc ja)
  · by_cases q : a = D
    · subst q; rw [upd_same] at h; rw [hD']; exact h
    · rw [upd_ne q] at h; exact ex'.wf.fh a o h
  · rw [upd_ne (fun z => nM (by rw [← z]; exact m))]
    exact ex'.wf.off a m
  · rw [upd_ne (fun z => h (by rw [z]; exact hD))]
    exact ex'.fr a h n
end
end VS
set_option Elab.async false
set_option linter.all false
set_option maxRecDepth 100000
namespace VS
open PySem PySem.Spec L2
section
variable {X : Cx} {R : Reg} {G : List Sl} {pos : Pos} {k : Kt}

/-! ### is, isinstance -/
theorem w_isB {i j : Bool} {P : Dt → Prop} (p : P (.bl (i == j))) : W2 X R (compareOp .Is) (.bl i) (.bl j) P := fun F H x y Q w rx ry c => by
  rw [rp_bl.mp rx, rp_bl.mp ry]
  refine opOf.of op_is_bl ⟨i, j, rfl, rfl, ?_⟩
  have e : decide (i = j) = (i == j) := by rw [Bool.eq_iff_iff]; simp
  rw [e]
  exact c.here w (rp_bl.mpr rfl) p
theorem w_isNB {i j : Bool} {P : Dt → Prop} (p : P (.bl (!(i == j)))) : W2 X R (compareOp .IsNot) (.bl i) (.bl j) P := fun F H x y Q w rx ry c => by
  rw [rp_bl.mp rx, rp_bl.mp ry]
  refine opOf.of op_isnot_bl ⟨i, j, rfl, rfl, ?_⟩
  have e : decide (i = j) = (i == j) := by rw [Bool.eq_iff_iff]; simp
  rw [e]
  exact c.here w (rp_bl.mpr rfl) p
def isNon : Dt → Bool
  | .non => true
  | _ => false
theorem rp_isNon {K : PySem.W.Frag} {F : Hp} {d : Dt} {v : V} (r : Rp K F d v) : decide (v = .non) = isNon d := by
  cases d with
  | non => rw [rp_non.mp r]; rfl
  | bl b => rw [rp_bl.mp r]; rfl
  | int b => rw [rp_int.mp r]; rfl
  | str b => rw [rp_str.mp r]; rfl
  | ty b => rw [rp_ty.mp r]; rfl
  | adr b => rw [rp_adr.mp r]; rfl
  | tup xs => obtain ⟨a, vs, rfl, _⟩ := rp_tup.mp r; rfl
  | lst xs => obtain ⟨a, vs, rfl, _⟩ := rp_lst.mp r; rfl
  | frl xs => obtain ⟨a, vs, rfl, _⟩ := rp_frl.mp r; rfl
  | dT ks xs => obtain ⟨a, vs, rfl, _⟩ := rp_dT.mp r; rfl
  | dK ks xs => simp only [Rp] at r; obtain ⟨a, vs, rfl, _⟩ := r; rfl
  | at_ a d => simp only [Rp] at r; obtain ⟨rfl, _⟩ := r; rfl
  | obj C ns xs => obtain ⟨a, dx, vs, rfl, _⟩ := rp_obj.mp r; rfl
  | exv a ns xs d => rw [(rp_exv.mp r).1]; rfl
  | key ks => obtain ⟨a, rfl, _⟩ := rp_key.mp r; rfl
theorem w_isN {d : Dt} {P : Dt → Prop} (p : P (.bl (isNon d))) : W2 X R (compareOp .Is) d .non P := fun F H x y Q w rx ry c => by
  refine opOf.of op_isN ⟨rp_non.mp ry, ?_⟩
  rw [rp_isNon rx]
  exact c.here w (rp_bl.mpr rfl) p
theorem w_isNN {d : Dt} {P : Dt → Prop} (p : P (.bl (!isNon d))) : W2 X R (compareOp .IsNot) d .non P := fun F H x y Q w rx ry c => by
  refine opOf.of op_notN ⟨rp_non.mp ry, ?_⟩
  rw [rp_isNon rx]
  exact c.here w (rp_bl.mpr rfl) p
/-- a datum's type -/
def TyD (K : PySem.W.Frag) (d : Dt) (t : Value) : Prop := ∀ F H x, Same F H → Rp K F d x → TyX K H x t
theorem tyd_int {K : PySem.W.Frag} {i : Int} : TyD K (.int i) (.type "int") := fun F H x s r => by rw [rp_int.mp r]; exact .base (.int i)
theorem tyd_bl {K : PySem.W.Frag} {i : Bool} : TyD K (.bl i) (.type "bool") := fun F H x s r => by rw [rp_bl.mp r]; exact .base (.bl i)
theorem tyd_str {K : PySem.W.Frag} {i : Str} : TyD K (.str i) (.type "str") := fun F H x s r => by rw [rp_str.mp r]; exact .base (.str i)
theorem tyd_non {K : PySem.W.Frag} : TyD K .non (.type "NoneType") := fun F H x s r => by rw [rp_non.mp r]; exact .base .non
theorem tyd_tup {K : PySem.W.Frag} {xs : List Dt} : TyD K (.tup xs) (.type "tuple") := fun F H x s r => by
  obtain ⟨a, vs, rfl, h, _⟩ := rp_tup.mp r
  rcases h with (h | ⟨o, h⟩) | ⟨o, its, n, h1, h2, _⟩
  · exact .base (.tup (s _ _ h))
  · exact .fTuple (s _ _ h)
  · exact .kTuple h1 h2
theorem tyd_lst {K : PySem.W.Frag} {xs : List Dt} : TyD K (.lst xs) (.type "list") := fun F H x s r => by
  obtain ⟨a, vs, rfl, h, _⟩ := rp_lst.mp r
  exact .base (.lst (s _ _ h))
/-- isinstance(x, T), T a built-in type | an own class -/
theorem wc_isi {d : Dt} {t : Value} {n : String} {b : Bool} {P : Dt → Prop} (ty : TyD X.K d t) (hk : PySem.W.kitOne X.K t (.type n) = some b) (p : P (.bl b)) : WC X R (.builtin "isinstance") [d, .ty n] P := fun F H xs Q w r c => by
  obtain ⟨v, u, rfl, h1, h2⟩ := r.two
  rw [rp_ty.mp h2]
  exact crOf.of call_isi ⟨v, _, t, _, b, rfl, .ty n, ty F H v w.fh h1, hk, c.here w (rp_bl.mpr rfl) p⟩
theorem wc_isiC {d : Dt} {t : Value} {C : Addr} {b : Bool} {P : Dt → Prop} (ty : TyD X.K d t) (hk : PySem.W.kitOne X.K t (.ref C) = some b) (p : P (.bl b)) : WC X R (.builtin "isinstance") [d, .adr C] P := fun F H xs Q w r c => by
  obtain ⟨v, u, rfl, h1, h2⟩ := r.two
  rw [rp_adr.mp h2]
  exact crOf.of call_isi ⟨v, _, t, _, b, rfl, .own C, ty F H v w.fh h1, hk, c.here w (rp_bl.mpr rfl) p⟩
/-- a built-in's name as a value -/
theorem e_ty {x : Str} {n : String} {P : Dt → Prop} (hg : Gl X x) (hm : X.mg x = none) (hv : bootBuiltins x = some (.type n)) (p : P (.ty n)) (hn : x ≠ "__name__" := by decide) (hd : (x == ("__debug__" : Str)) = false := by decide) : E X R G (.Name x pos) P := fun σ F H Q ty c =>
  tOf.of (pe_bltn (v := .ty n) hg hm hv rfl hn hd) (c.here ty.wf (rp_ty.mpr rfl) p)
/-- an own class's name -/
theorem e_cls {x : Str} {C : Addr} {P : Dt → Prop} (hg : Gl X x) (hm : X.mg x = some (.ref C)) (p : P (.adr C)) (hd : (x == ("__debug__" : Str)) = false := by decide) : E X R G (.Name x pos) P := fun σ F H Q ty c =>
  tOf.of (pe_glob (v := .ref C) hg hm rfl hd) (c.here ty.wf (rp_adr.mpr rfl) p)

/-! ### slices -/
def cutD (xs : List Dt) (lo hi : Option Int) : List Dt := (xs.drop (HT.sIx xs.length 0 lo)).take (HT.sIx xs.length xs.length hi - HT.sIx xs.length 0 lo)
theorem RpL.cut {K : PySem.W.Frag} {F : Hp} {ds : List Dt} {vs : List V} (r : RpL K F ds vs) (lo hi : Option Int) : RpL K F (cutD ds lo hi) (cutV vs lo hi) := by
  unfold cutD cutV
  rw [r.length]
  exact (r.drop _).take _
@[irreducible] def slOf (X : Cx) : V → Option Int → Option Int → Hp → VK → Prop := fun x lo hi H Q => ∀ pins s σ v vl vu sl, Inv X pins σ H s → RelV x v → s.heap.IsSliceOf sl vl vu .none → IsPart vl lo → IsPart vu hi → ∃ T id, typeLookup (.type T) "__getitem__" = pure (some (.builtin id)) ∧ s.TypeIs v T ∧ wpAny (model X.prog X.w) X.A (getItem v (.ref sl)) (EP X pins σ Q) X.xe s
theorem sl_w : SlR X (slOf X) := fun pins s σ H x v vl vu lo hi sl Q I rx h1 h2 h3 h => by unfold slOf at h; exact h pins s σ v vl vu sl I rx h1 h2 h3
theorem slOf.of {r : V → Option Int → Option Int → Hp → VK → Prop} {x : V} {lo hi : Option Int} {H : Hp} {Q : VK} (h : SlR X r) (q : r x lo hi H Q) : slOf X x lo hi H Q := by unfold slOf; exact fun pins s σ v vl vu sl I rx h1 h2 h3 => h pins s σ H x v vl vu lo hi sl Q I rx h1 h2 h3 q
def WSl (X : Cx) (R : Reg) (d : Dt) (lo hi : Option Int) (P : Dt → Prop) : Prop := ∀ F H x Q, Wf R F H → Rp X.K F d x → Ct X.K R F H P Q → slOf X x lo hi H Q
def EO (X : Cx) (R : Reg) (G : List Sl) (e : Option Expr) (P : Option Int → Prop) : Prop := match e with
  | none => P none
  | some e => E X R G e fun d => ∃ i, d = .int i ∧ P (some i)
def toOf (X : Cx) : Option Expr → TO
  | none => tNoPart
  | some e => tPart (tOf X e)
theorem po_w {e : Option Expr} : PO X e (toOf X e) := by
  cases e with
  | none => exact po_none
  | some e => exact po_some pe_w
theorem EO.run {e : Option Expr} {P : Option Int → Prop} {σ : St} {F H : Hp} {Q : Option Int → Hp → Prop} (h : EO X R G e P) (ty : Ty X.K R G σ F H) (c : ∀ o F' H', Ext R F H F' H' → P o → Q o H') : toOf X e σ H Q := by
  cases e with
  | none => exact c none F H (.refl ty.wf) h
  | some e =>
    refine (show E X R G e _ from h) σ F H _ ty fun v F1 H1 d ex r hh => ?_
    obtain ⟨i, e, p⟩ := hh
    subst e
    exact ⟨i, rp_int.mp r, c _ F1 H1 ex p⟩
theorem e_slice {e : Expr} {lo hi : Option Expr} {p2 : Pos} {P : Dt → Prop} (h : E X R G e fun d => EO X R G lo fun l => EO X R G hi fun u => WSl X R d l u P) : E X R G (.Subscript e (.Slice lo hi none p2) pos) P := fun σ F H Q ty c =>
  tOf.of (pe_slice sl_w pe_w po_w po_w) (h σ F H _ ty fun v F1 H1 d ex r h2 => h2.run (ty.ext ex) fun l F2 H2 ex2 h3 => h3.run ((ty.ext ex).ext ex2) fun u F3 H3 ex3 h4 => h4 F3 H3 v Q ex3.wf ((r.mono ex2.ff).mono ex3.ff) (c.step ((ex.trans ex2).trans ex3)))
theorem wsl_lst {ds : List Dt} {lo hi : Option Int} {P : Dt → Prop} (p : P (.lst (cutD ds lo hi))) : WSl X R (.lst ds) lo hi P := fun F H x Q w r c => by
  obtain ⟨a, vs, rfl, sq, rl⟩ := rp_lst.mp r
  exact slOf.of sl_list ⟨a, vs, rfl, SqL.of (w.fh _ _ sq), fun q hq => c _ _ _ _ (w.made hq) (rp_lst_new (w.fh.free hq) (rl.cut lo hi)) p⟩
theorem wsl_frl {ds : List Dt} {lo hi : Option Int} {P : Dt → Prop} (p : P (.lst (cutD ds lo hi))) : WSl X R (.frl ds) lo hi P := fun F H x Q w r c => by
  obtain ⟨a, vs, rfl, sq, rl⟩ := rp_frl.mp r
  exact slOf.of sl_list ⟨a, vs, rfl, w.fh.seq sq, fun q hq => c _ _ _ _ (w.made hq) (rp_lst_new (w.fh.free hq) (rl.cut lo hi)) p⟩

/-! ### one's own lists -/
theorem Ty.own {K : PySem.W.Frag} {σ : St} {F H : Hp} (ty : Ty K R G σ F H) {i : Nat} {d : Dt} (hg : G[i]? = some (.ow d)) : ∃ o, σ[i]? = some (some (.ref o)) ∧ F o = none ∧ ¬ R.M o ∧ OwO K F H o d := by
  obtain ⟨v, e, o, e2, h1, h2, h3⟩ := ty.sl.get hg
  exact ⟨o, by rw [e, e2], h1, h2, h3⟩
theorem slsOk_mut {K : PySem.W.Frag} {F H : Hp} {o : Addr} {u : HO} {d' : Dt} (fo : F o = none) (nM : ¬ R.M o) (hd : OwO K F (upd H o u) o d') : ∀ {G : List Sl} {σ : St} {i : Nat}, SlsOk K R F H G σ → (owns G σ).Nodup → (∃ d, G[i]? = some (.ow d)) → σ[i]? = some (some (.ref o)) → SlsOk K R F (upd H o u) (G.set i (.ow d')) σ := by
  have keep : ∀ {g : Sl} {v : Option V}, SlOk K R F H g v → (∀ d, g = .ow d → v ≠ some (.ref o)) → SlOk K R F (upd H o u) g v := fun {g v} h hn => by
    cases g with
    | no => trivial
    | sh d => exact h
    | ow d =>
      obtain ⟨p, e, h1, h2, h3⟩ := h
      have ne : p ≠ o := fun z => hn d rfl (by rw [e, z])
      exact ⟨p, e, h1, h2, h3.mono (.refl _) fun u' q => by rw [upd_ne ne]; exact q⟩
  intro G σ i h
  induction h generalizing i with
  | nil => intro _ hg _; obtain ⟨d, hg⟩ := hg; simp at hg
  | @cons g v Gs vs h t ih =>
    intro nd hg hs
    obtain ⟨d, hg⟩ := hg
    cases i with
    | zero =>
      have e1 := Option.some.inj hg
      have e2 := Option.some.inj hs
      subst e1 e2
      simp only [owns, List.nodup_cons] at nd
      refine .cons ⟨o, rfl, fo, nM, hd⟩ ?_
      have all : ∀ {Gs : List Sl} {vs : List (Option V)}, SlsOk K R F H Gs vs → o ∉ owns Gs vs → SlsOk K R F (upd H o u) Gs vs := fun {Gs vs} t => by
        induction t with
        | nil => intro _; exact .nil
        | @cons g v Gs vs h t ih2 =>
          intro hn
          have hn2 : o ∉ owns Gs vs ∧ ∀ d, g = .ow d → v ≠ some (.ref o) := by
            cases g with
            | no => exact ⟨by simpa [owns] using hn, fun d z => nomatch z⟩
            | sh d => exact ⟨by simpa [owns] using hn, fun d z => nomatch z⟩
            | ow d =>
              cases v with
              | none => exact ⟨by simpa [owns] using hn, fun d _ z => nomatch z⟩
              | some x =>
                cases x with
                | ref p =>
                  simp only [owns, List.mem_cons, not_or] at hn
                  exact ⟨hn.2, fun d _ z => hn.1 (by injection z with z; injection z with z; exact z.symm)⟩
                | _ => exact ⟨by simpa [owns] using hn, fun d _ z => nomatch z⟩
          exact .cons (keep h hn2.2) (ih2 hn2.1)
      exact all t nd.1
    | succ j =>
      have hg' : Gs[j]? = some (.ow d) := by simpa using hg
      have hs' : vs[j]? = some (some (.ref o)) := by simpa using hs
      have mo := mem_owns hg' hs'
      have nd2 : (owns Gs vs).Nodup ∧ ∀ d, g = .ow d → v ≠ some (.ref o) := by
        cases g with
        | no => exact ⟨by simpa [owns] using nd, fun d z => nomatch z⟩
        | sh d => exact ⟨by simpa [owns] using nd, fun d z => nomatch z⟩
        | ow d =>
          cases v with
          | none => exact ⟨by simpa [owns] using nd, fun d _ z => nomatch z⟩
          | some x =>
            cases x with
            | ref p =>
              simp only [owns, List.nodup_cons] at nd
              exact ⟨nd.2, fun d _ z => nd.1 (by injection z with z; injection z with z; rw [z]; exact mo)⟩
            | _ => exact ⟨by simpa [owns] using nd, fun d _ z => nomatch z⟩
      exact .cons (keep h nd2.2) (ih nd2.1 ⟨d, hg'⟩ hs')
theorem owns_same {G : List Sl} {σ : St} {i : Nat} {d d' : Dt} (hg : G[i]? = some (.ow d)) : owns (G.set i (.ow d')) σ = owns G σ := by
  induction G generalizing σ i with
  | nil => simp
  | cons g G ih =>
    cases σ with
    | nil =>
      cases i with
      | zero => simp [owns]
      | succ j => simp [owns]
    | cons v vs =>
      cases i with
      | zero =>
        have e1 := Option.some.inj hg
        subst e1
        show owns (.ow d' :: G) (v :: vs) = owns (.ow d :: G) (v :: vs)
        cases v with
        | none => simp [owns]
        | some x => cases x <;> simp [owns]
      | succ j =>
        have q := ih (σ := vs) (i := j) (by simpa using hg)
        show owns (g :: G.set j (.ow d')) (v :: vs) = owns (g :: G) (v :: vs)
        cases g with
        | no => simpa [owns] using q
        | sh d => simpa [owns] using q
        | ow d =>
          cases v with
          | none => simpa [owns] using q
          | some x => cases x <;> simp [owns, q]
theorem Ty.mut {K : PySem.W.Frag} {σ : St} {F H : Hp} (ty : Ty K R G σ F H) {i : Nat} {d d' : Dt} {o : Addr} {u : HO} (hg : G[i]? = some (.ow d)) (hs : σ[i]? = some (some (.ref o))) (hd : OwO K F (upd H o u) o d') : Ty K R (G.set i (.ow d')) σ F (upd H o u) := by
  obtain ⟨o2, e, fo, nM, ho⟩ := ty.own hg
  rw [hs] at e
  cases e
  refine ⟨⟨fun a z h => ?_, ty.wf.off, fun a m z => ?_, R.st H _ (fun a z m h => ?_) ty.wf.b⟩, slsOk_mut fo nM hd ty.sl ty.nd ⟨d, hg⟩ hs, by rw [owns_same hg]; exact ty.nd⟩
  · rw [upd_ne (fun z => by rw [z, fo] at h; cases h)]
    exact ty.wf.fh a z h
  · have nz : a ≠ o := fun z => nM (z ▸ m)
    rw [upd_ne nz] at z
    exact ty.wf.oc a m z
  · have nz : a ≠ o := fun z => nM (z ▸ m)
    rw [upd_ne nz]
    exact h
theorem Bs.mut {F0 H0 F H : Hp} {σ : St} (b : Bs R F0 H0 G σ F H) {K : PySem.W.Frag} {i : Nat} {d d' : Dt} {o : Addr} {u : HO} (ty : Ty K R (G.set i (.ow d')) σ F (upd H o u)) (hg : G[i]? = some (.ow d)) (hs : σ[i]? = some (some (.ref o))) : Bs R F0 H0 (G.set i (.ow d')) σ F (upd H o u) := by
  have fo := b.fresh o (mem_owns hg hs)
  exact ⟨⟨ty.wf, b.ext.ff, fun a z n h => by rw [upd_ne (ne_of_none h fo)]; exact b.ext.hh a z n h, b.ext.fr⟩, (by rw [owns_same hg]; exact b.fresh), b.z⟩
/-- xs.append(e), xs one's own -/
theorem s_app (i : Nat) {x : Str} {e : Expr} {ds : List Dt} {apos cpos p : Pos} (hg : G[i]? = some (.ow (.lst ds))) (hN : X.N[i]? = some x) (hv : Vis X.env.scope x) (hl : ds.length < 100000) (h : E X R G e fun d => k.nx (G.set i (.ow (.lst (ds ++ [d])))))
    (hd : (x == ("__debug__" : Str)) = false := by decide) (hcd : (x == ("__classdict__" : Str)) = false := by decide)
    (hbase : attributeBase (.Name x p) "append" X.env (eval (.Name x p) X.env) = eval (.Name x p) X.env := by rfl)
    (hfew : ((backTo cpos (starEach [e] X.env)).all (fun x => !x.1) && (backToKw cpos (keywordEach [] X.env)).all (fun x => x.1.isSome) && decide ([e].length + ([] : List Keyword).length + (if ([] : List Keyword).isEmpty then 0 else 1) < 30)) = true := by rfl)
    (hline : (apos.endLine == cpos.line) = true := by rfl) (hs : starEach [e] X.env = (false, eval e X.env) :: starEach [] X.env := by rfl) (hplain : (backTo cpos (starEach [] X.env)).any (·.1) = false := by rfl)
    (hsw : swapsWith (.Call (.Attribute (.Name x p) "append" apos) [e] [] cpos) none pos.line X.env = pure false := by rfl) :
    S1 X R (.Expr (.Call (.Attribute (.Name x p) "append" apos) [e] [] cpos) pos) G k := fun F0 H0 σ F H D ty b c => by
  obtain ⟨o, so, fo, nM, vs, ho, rl⟩ := ty.own hg
  refine s1Of.of (ps_expr (pe_bm PySem.F.plainAttrs_list PySem.F.slot_list_append PySem.F.type_list_append mt_append (pe_var hN hv hd hcd) (pa_cons pe_w pa_nil hs) hbase hfew hline hs hplain) hsw) ?_
  refine ⟨.ref o, so, .inl ⟨rfl, vs, SqL.of ho⟩, h σ F H _ ty fun v F1 H1 d ex r p => ?_⟩
  have ho1 := ex.hh o _ nM ho
  refine ⟨o, vs, v, rfl, rfl, ho1, ?_, ?_⟩
  · rw [← rl.length]
    exact Nat.lt_of_lt_of_le hl (by decide)
  · have ty1 := (ty.ext ex).mut (d' := .lst (ds ++ [d])) (u := .lst (vs ++ [v])) hg so ⟨_, upd_same, (rl.mono ex.ff).append (.cons r .nil)⟩
    exact c.nx _ _ _ _ p ty1 ((b.step ex).mut ty1 hg so)
/-- xs[i] = e, xs one's own -/
theorem s_setL (i : Nat) {x : Str} {e ix : Expr} {ds : List Dt} {p spos : Pos} (hg : G[i]? = some (.ow (.lst ds))) (hN : X.N[i]? = some x) (hv : Vis X.env.scope x)
    (h : E X R G e fun d => E X R G ix fun di => ∃ (z : Int) (j : Nat), di = .int z ∧ ixN ds.length z = some j ∧ k.nx (G.set i (.ow (.lst (ds.set j d)))))
    (hd : (x == ("__debug__" : Str)) = false := by decide) (hcd : (x == ("__classdict__" : Str)) = false := by decide)
    (ha : ∀ v, assign (.Subscript (.Name x p) ix spos) X.env v = (do
      let ov ← holding [v] (eval (.Name x p) X.env)
      let iv ← holding [v, ov] (eval ix X.env)
      standAt spos
      holding [v, ov, iv] (setItem ov iv v)
      release [v, ov, iv] []) := by intro _; rfl)
    (hs : swapsWithSole [.Subscript (.Name x p) ix spos] e pos.line X.env = pure false := by rfl) (hw : swappedStores [.Subscript (.Name x p) ix spos] e X.env = pure none := by rfl)
    (h1 : (assignEach [.Subscript (.Name x p) ix spos] X.env).map (·.2) = [assign (.Subscript (.Name x p) ix spos) X.env] := by rfl) : S1 X R (.Assign [.Subscript (.Name x p) ix spos] e pos) G k := fun F0 H0 σ F H D ty b c => by
  obtain ⟨o, so, fo, nM, vs, ho, rl⟩ := ty.own hg
  refine s1Of.of (ps_asg pe_w (pg_sub (pe_var hN hv hd hcd) pe_w set_list ha) hs hw h1) (h σ F H _ ty fun v F1 H1 d ex r h2 => ⟨.ref o, so, h2 σ F1 H1 _ (ty.ext ex) fun w F2 H2 di ex2 r2 ⟨z, j, e1, hj, p⟩ => ?_⟩)
  subst e1
  have ho2 := ex2.hh o _ nM (ex.hh o _ nM ho)
  refine ⟨o, vs, z, j, rfl, rp_int.mp r2, ho2, by rw [← rl.length]; exact hj, ?_⟩
  have e12 := ex.trans ex2
  have ty1 := (ty.ext e12).mut (d' := .lst (ds.set j d)) (u := .lst (vs.set j v)) hg so ⟨_, upd_same, (rl.mono e12.ff).set j (r.mono ex2.ff)⟩
  exact c.nx _ _ _ _ p ty1 ((b.step e12).mut ty1 hg so)
/-- xs[i], xs one's own -/
theorem e_ixO (i : Nat) {x : Str} {ix : Expr} {ds : List Dt} {p : Pos} {P : Dt → Prop} (hg : G[i]? = some (.ow (.lst ds))) (hN : X.N[i]? = some x) (hv : Vis X.env.scope x) (h : E X R G ix fun di => ∃ z d, di = .int z ∧ atI ds z = some d ∧ P d)
    (hs : PlainIx ix := by intro _ _; rfl) (hd : (x == ("__debug__" : Str)) = false := by decide) (hcd : (x == ("__classdict__" : Str)) = false := by decide) : E X R G (.Subscript (.Name x p) ix pos) P := fun σ F H Q ty c => by
  obtain ⟨o, so, fo, nM, vs, ho, rl⟩ := ty.own hg
  refine tOf.of (pe_ix ix_list (pe_var hN hv hd hcd) pe_w hs) ⟨.ref o, so, h σ F H _ ty fun w F1 H1 di ex r ⟨z, d, e1, hz, p⟩ => ?_⟩
  subst e1
  obtain ⟨v, hv1, rv⟩ := rl.at hz
  exact ⟨o, vs, z, v, rfl, rp_int.mp r, SqL.of (ex.hh o _ nM ho), hv1, c v F1 H1 d ex (rv.mono ex.ff) p⟩
/-- len(xs), xs one's own -/
theorem e_lenO (i : Nat) {x : Str} {ds : List Dt} {p p2 : Pos} {P : Dt → Prop} (hg : G[i]? = some (.ow (.lst ds))) (hN : X.N[i]? = some x) (hv : Vis X.env.scope x) (hgl : Gl X "len") (hm : X.mg "len" = none) (q : P (.int (ds.length : Int)))
    (hd : (x == ("__debug__" : Str)) = false := by decide) (hcd : (x == ("__classdict__" : Str)) = false := by decide) (hs : starEach [.Name x p2] X.env = (false, eval (.Name x p2) X.env) :: starEach [] X.env := by rfl) (hpl : (backTo pos (starEach [] X.env)).any (·.1) = false := by rfl) : E X R G (.Call (.Name "len" p) [.Name x p2] [] pos) P := fun σ F H Q ty c => by
  obtain ⟨o, so, fo, nM, vs, ho, rl⟩ := ty.own hg
  refine tOf.of (pe_callB call_len_seq hgl hm PySem.boot_len (pa_cons (pe_var hN hv hd hcd) pa_nil hs) (by decide) (by decide) hs hpl) ⟨.ref o, so, o, vs, rfl, .inl (SqL.of ho), ?_⟩
  exact c.here ty.wf (d := .int (ds.length : Int)) (rp_int.mpr (by rw [rl.length])) q
end
end VS
set_option Elab.async false
set_option linter.all false
set_option maxRecDepth 100000
namespace VS
open PySem PySem.Spec L2
section
variable {X : Cx} {R : Reg} {G : List Sl} {pos : Pos} {k : Kt}

/-! ### a new list, one's own -/
def CtN (K : PySem.W.Frag) (R : Reg) (F H : Hp) (P : List Dt → Prop) (Q : VK) : Prop := ∀ p F' H' ds vs, Ext R F H F' H' → H p = none → ¬ R.M p → H' p = some (.lst vs) → F' p = none → RpL K F' ds vs → P ds → Q (.ref p) H'
def EN (X : Cx) (R : Reg) (G : List Sl) (e : Expr) (P : List Dt → Prop) : Prop := ∀ σ F H Q, Ty X.K R G σ F H → CtN X.K R F H P Q → tOf X e σ H Q
theorem Ext.free {F H F1 H1 : Hp} (e : Ext R F H F1 H1) {p : Addr} (h : H1 p = none) : H p = none := by
  cases q : H p with
  | none => rfl
  | some o => exact absurd h (e.keep (by rw [q]; exact fun z => nomatch z))
theorem en_lst {es : List Expr} {P : List Dt → Prop} (h : EA X R G es fun ds => ds.length ≤ 100000 ∧ P ds) : EN X R G (.List es pos) P := fun σ F H Q ty c =>
  tOf.of (pe_lst pa_w) (h σ F H _ ty fun vs F1 H1 ds ex1 r1 ⟨hl, p⟩ => ⟨by rw [← r1.length]; exact Nat.le_trans hl (by decide), fun q hq => c q F1 _ ds vs (ex1.trans (ex1.wf.own hq)) (ex1.free hq) (ex1.wf.new hq) upd_same (ex1.wf.fh.free hq) r1 p⟩)
theorem Ty.setOwn {K : PySem.W.Frag} {σ : St} {F H F' H' : Hp} (ty : Ty K R G σ F H) (ex : Ext R F H F' H') (i : Nat) {p : Addr} {d : Dt} (hp : H p = none) (nM : ¬ R.M p) (fp : F' p = none) (ho : OwO K F' H' p d) : Ty K R (G.set i (.ow d)) (σ.set i (some (.ref p))) F' H' := by
  refine ⟨ex.wf, (ty.sl.ext ex).set i ⟨p, rfl, fp, nM, ho⟩, owns_nodup_set i ty.nd fun z => ?_⟩
  have z2 := (owns_set_sub (g := .no) (v := none) i (fun _ z => nomatch z)).subset z
  obtain ⟨j, d', h1, h2⟩ := owns_mem z2
  obtain ⟨o, so, _, _, oo⟩ := ty.own h1
  rw [h2] at so
  cases so
  exact oo.some hp
theorem Bs.setOwn {F0 H0 F H F' H' : Hp} {σ : St} (b : Bs R F0 H0 G σ F H) (ex : Ext R F H F' H') (i : Nat) {p : Addr} {d : Dt} (hp : H p = none) : Bs R F0 H0 (G.set i (.ow d)) (σ.set i (some (.ref p))) F' H' := by
  refine ⟨(b.step ex).ext, fun o ho => ?_, b.z⟩
  rcases owns_set_own i o ho with e | e
  · rw [e]; exact b.ext.free hp
  · exact b.fresh o e
theorem s_asgN (i : Nat) {x : Str} {e : Expr} {pos' : Pos} (hN : X.N.Nodup) (hi : X.N[i]? = some x) (hx : Loc X.env.scope x) (h : EN X R G e fun ds => k.nx (G.set i (.ow (.lst ds))))
    (hs : swapsWith e (some (.Name x pos')) pos.line X.env = pure false := by rfl) (hf : X.fn x = true ∨ X.env.scope.names.lookup x = some .local := by first | exact .inl rfl | exact .inr rfl | assumption) : S1 X R (.Assign [.Name x pos'] e pos) G k := fun F0 H0 σ F H D ty b c =>
  s1Of.of (ps_set hN hi hx pe_w hs hf) (h σ F H _ ty fun p F1 H1 ds vs ex hp nM ho fp rl q => c.nx _ _ F1 H1 q (ty.setOwn ex i hp nM fp ⟨vs, ho, rl⟩) (b.setOwn ex i hp))
theorem blk_pe {scope : Scope} {e : Expr} (s : Shared) (H : Hp) (C : Addr) (cl : List (Str × Addr)) (fp : List Addr) : PE (X.blk s H scope (compEnvC scope cl C X.env) fp) e (teB X scope e) := ⟨fun pins s' σ H' Q I h => by have z := h _ ⟨s, H, C, cl, fp, rfl⟩; unfold tOf at z; exact z pins s' I⟩
theorem blk_pts {scope : Scope} {ifs : List Expr} (s : Shared) (H : Hp) (C : Addr) (cl : List (Str × Addr)) (fp : List Addr) : PTs (X.blk s H scope (compEnvC scope cl C X.env) fp) ifs (ttB X scope ifs) := ⟨fun pins s' σ H' Q I h => by have z := h _ ⟨s, H, C, cl, fp, rfl⟩; unfold tsOf at z; exact z pins s' I⟩
theorem blk_pg {scope : Scope} {tg : Expr} (s : Shared) (H : Hp) (C : Addr) (cl : List (Str × Addr)) (fp : List Addr) : PG (X.blk s H scope (compEnvC scope cl C X.env) fp) tg (tgB X scope tg) := ⟨fun pins s' σ H' v u Q I r h => by have z := h _ ⟨s, H, C, cl, fp, rfl⟩; unfold tgOf at z; exact z pins s' u I r⟩
theorem en_lc {tg iter elt : Expr} {ifs : List Expr} {scope : Scope} {own : List (Str × Nat)} {P : List Dt → Prop} (hc : X.calm = true) (hN : X.N.Nodup) (ok : BlkOk X.N X.env.scope scope own)
    (h : I X R G tg iter fun ds => ds.length ≤ 100000 ∧ ∃ J, Lc X R G tg elt ifs scope (own.map (·.2)) ds J ∧ ∀ acc, J ds.length acc → P acc) (hs : ∀ x, foldedSetIterable iter X.env x = pure x := by intro _; rfl) : EN X R G (.ListComp elt [⟨tg, iter, ifs, 0⟩] scope pos) P := fun σ F H Q ty c => by
  refine tOf.of (pe_lc hc hN pi_w ok blk_pg blk_pts blk_pe hs) (lc_run ty ?_)
  intro σ1 F1 H1 Q1 ty1 c1
  exact h σ1 F1 H1 Q1 ty1 fun J F2 H2 ds ex it ⟨hl, Jd, lc, fin⟩ => c1 J F2 H2 ds ex it ⟨hl, Jd, lc, fun acc ja D F' H' vacc ex' hD nM hD' fD' ra => c D F' H' acc vacc ex' hD nM hD' fD' ra (fin acc ja)⟩
/-- y = [.. for ..]: y one's own -/
theorem s_lcN (i : Nat) {y : Str} {py cpos : Pos} {tg iter elt : Expr} {ifs : List Expr} {scope : Scope} {own : List (Str × Nat)} (hc : X.calm = true) (hN : X.N.Nodup) (hy : X.N[i]? = some y) (hyl : X.env.scope.names.lookup y = some .local)
    (hsw : swapsWith (.ListComp elt [⟨tg, iter, ifs, 0⟩] scope cpos) (some (.Name y py)) pos.line X.env = pure true) (ok : BlkOk X.N X.env.scope scope own)
    (h : I X R G tg iter fun ds => ds.length ≤ 100000 ∧ ∃ J, Lc X R G tg elt ifs scope (own.map (·.2)) ds J ∧ ∀ acc, J ds.length acc → k.nx (G.set i (.ow (.lst acc)))) (hs : ∀ x, foldedSetIterable iter X.env x = pure x := by intro _; rfl) :
    S1 X R (.Assign [.Name y py] (.ListComp elt [⟨tg, iter, ifs, 0⟩] scope cpos) pos) G k := fun F0 H0 σ F H D ty b c => by
  refine s1Of.of (ps_setLc hc hN hy hyl hsw pi_w ok blk_pg blk_pts blk_pe hs) (lc_run ty ?_)
  intro σ1 F1 H1 Q1 ty1 c1
  exact h σ1 F1 H1 Q1 ty1 fun J F2 H2 ds ex it ⟨hl, Jd, lc, fin⟩ => c1 J F2 H2 ds ex it ⟨hl, Jd, lc, fun acc ja D' F' H' vacc ex' hD nM hD' fD' ra => c.nx _ _ F' H' (fin acc ja) (ty.setOwn ex' i hD nM fD' ⟨vacc, hD', ra⟩) (b.setOwn ex' i hD)⟩
/-- .. y shared -/
theorem s_lc (i : Nat) {y : Str} {py cpos : Pos} {tg iter elt : Expr} {ifs : List Expr} {scope : Scope} {own : List (Str × Nat)} (hc : X.calm = true) (hN : X.N.Nodup) (hy : X.N[i]? = some y) (hyl : X.env.scope.names.lookup y = some .local)
    (hsw : swapsWith (.ListComp elt [⟨tg, iter, ifs, 0⟩] scope cpos) (some (.Name y py)) pos.line X.env = pure true) (ok : BlkOk X.N X.env.scope scope own)
    (h : I X R G tg iter fun ds => ds.length ≤ 100000 ∧ ∃ J, Lc X R G tg elt ifs scope (own.map (·.2)) ds J ∧ ∀ acc, J ds.length acc → k.nx (G.set i (.sh (.lst acc)))) (hs : ∀ x, foldedSetIterable iter X.env x = pure x := by intro _; rfl) :
    S1 X R (.Assign [.Name y py] (.ListComp elt [⟨tg, iter, ifs, 0⟩] scope cpos) pos) G k := fun F0 H0 σ F H D ty b c => by
  refine s1Of.of (ps_setLc hc hN hy hyl hsw pi_w ok blk_pg blk_pts blk_pe hs) (lc_run ty ?_)
  intro σ1 F1 H1 Q1 ty1 c1
  refine h σ1 F1 H1 Q1 ty1 fun J F2 H2 ds ex it ⟨hl, Jd, lc, fin⟩ => c1 J F2 H2 ds ex it ⟨hl, Jd, lc, fun acc ja D' F' H' vacc ex' hD nM hD' fD' ra => ?_⟩
  have ex2 : Ext R F H (upd F' D' (.lst vacc)) H' := by
    refine ⟨⟨fun a o h => ?_, fun a m => ?_, ex'.wf.oc, ex'.wf.b⟩, ex'.ff.trans (same_upd fD'), ex'.hh, fun a h n => ?_⟩
    · by_cases q : a = D'
      · subst q; rw [upd_same] at h; rw [hD']; exact h
      · rw [upd_ne q] at h; exact ex'.wf.fh a o h
    · rw [upd_ne (fun z => nM (by rw [← z]; exact m))]
      exact ex'.wf.off a m
    · rw [upd_ne (fun z => h (by rw [z]; exact hD))]
      exact ex'.fr a h n
  exact c.nx _ _ _ H' (fin acc ja) ((ty.ext ex2).set i (rp_lst_new fD' ra)) ((b.step ex2).set i)
end

/-! ### the box of a law: [[cells], place, seed] -/
def boxB (b c : Addr) (n : Nat) (H : Hp) : Prop := ∃ (cells : List Int) (p s : Int), H b = some (.lst [.ref c, .int p, .int s]) ∧ H c = some (.lst (cells.map .int)) ∧ cells.length = n ∧ (∀ x ∈ cells, 0 ≤ x) ∧ 0 ≤ s ∧ s < 2147483647
def boxR (b c : Addr) (n : Nat) : Reg := ⟨fun a => a = b ∨ a = c, fun H => b ≠ c ∧ n ≤ 63 ∧ boxB b c n H, fun H H' h ⟨nb, hn, cells, p, s, h1, h2, h3⟩ => ⟨nb, hn, cells, p, s, h b _ (.inl rfl) h1, h c _ (.inr rfl) h2, h3⟩, fun _ _ => True, fun _ _ _ _ _ _ => trivial⟩
/-- stores by values -/
@[irreducible] def seOf (X : Cx) : TSet := fun o i v H Q => ∀ pins s σ ov iv u, Inv X pins σ H s → RelV o ov → RelV i iv → RelV v u → wpAny (model X.prog X.w) X.A (setItem ov iv u) (fun _ s' => ∃ H', Inv X pins σ H' s' ∧ Q H') X.xe s
theorem se_w {X : Cx} : PSet X (seOf X) := fun pins s σ H o i v ov iv u Q I ro ri rv h => by unfold seOf at h; exact h pins s σ ov iv u I ro ri rv
theorem seOf.of {X : Cx} {t : TSet} {o i v : V} {H : Hp} {Q : Hp → Prop} (h : PSet X t) (q : t o i v H Q) : seOf X o i v H Q := by unfold seOf; exact fun pins s σ ov iv u I ro ri rv => h pins s σ H o i v ov iv u Q I ro ri rv q
def WS (X : Cx) (R : Reg) (o i v : Dt) (P : Prop) : Prop := ∀ F H x y z Q, Wf R F H → Rp X.K F o x → Rp X.K F i y → Rp X.K F v z → (∀ H', Ext R F H F H' → P → Q H') → seOf X x y z H Q
section
variable {X : Cx} {R : Reg} {G : List Sl} {pos : Pos} {k : Kt} {b c : Addr} {n : Nat}
theorem s_set {o ix e : Expr} {spos : Pos} (h : E X R G e fun dv => E X R G o fun d => E X R G ix fun di => WS X R d di dv (k.nx G))
    (ha : ∀ v, assign (.Subscript o ix spos) X.env v = (do
      let ov ← holding [v] (eval o X.env)
      let iv ← holding [v, ov] (eval ix X.env)
      standAt spos
      holding [v, ov, iv] (setItem ov iv v)
      release [v, ov, iv] []) := by intro _; rfl)
    (hs : swapsWithSole [.Subscript o ix spos] e pos.line X.env = pure false := by rfl) (hw : swappedStores [.Subscript o ix spos] e X.env = pure none := by rfl)
    (h1 : (assignEach [.Subscript o ix spos] X.env).map (·.2) = [assign (.Subscript o ix spos) X.env] := by rfl) : S1 X R (.Assign [.Subscript o ix spos] e pos) G k := fun F0 H0 σ F H D ty b c =>
  s1Of.of (ps_asg pe_w (pg_sub pe_w pe_w se_w ha) hs hw h1) (h σ F H _ ty fun v F1 H1 d ex r h2 => h2 σ F1 H1 _ (ty.ext ex) fun w F2 H2 d2 ex2 r2 h3 => h3 σ F2 H2 _ ((ty.ext ex).ext ex2) fun u F3 H3 d3 ex3 r3 h4 =>
    h4 F3 H3 w u v _ ex3.wf (r2.mono ex3.ff) r3 ((r.mono ex2.ff).mono ex3.ff) fun H' exn p => c.nx _ _ F3 H' p ((((ty.ext ex).ext ex2).ext ex3).ext exn) ((((b.step ex).step ex2).step ex3).step exn))
theorem wi_box0 {P : Dt → Prop} (p : P (.adr c)) : WI X (boxR b c n) (.adr b) (.int 0) P := fun F H x y Q w rx ry ct => by
  obtain ⟨nb, hn, cells, pl, s, h1, h2, h3⟩ := w.b
  rw [rp_adr.mp rx, rp_int.mp ry]
  exact ixOf.of ix_list ⟨b, _, 0, .ref c, rfl, rfl, SqL.of h1, atI_nat (j := 0) rfl, ct.here w (rp_adr.mpr rfl) p⟩
theorem wi_box1 {P : Dt → Prop} (p : ∀ i, P (.int i)) : WI X (boxR b c n) (.adr b) (.int 1) P := fun F H x y Q w rx ry ct => by
  obtain ⟨nb, hn, cells, pl, s, h1, h2, h3⟩ := w.b
  rw [rp_adr.mp rx, rp_int.mp ry]
  exact ixOf.of ix_list ⟨b, _, 1, .int pl, rfl, rfl, SqL.of h1, atI_nat (j := 1) rfl, ct.here w (rp_int.mpr rfl) (p pl)⟩
theorem wi_box2 {P : Dt → Prop} (p : ∀ i : Int, 0 ≤ i → i < 2147483647 → P (.int i)) : WI X (boxR b c n) (.adr b) (.int 2) P := fun F H x y Q w rx ry ct => by
  obtain ⟨nb, hn, cells, pl, s, h1, h2, h3, h4, h5, h6⟩ := w.b
  rw [rp_adr.mp rx, rp_int.mp ry]
  exact ixOf.of ix_list ⟨b, _, 2, .int s, rfl, rfl, SqL.of h1, atI_nat (j := 2) rfl, ct.here w (rp_int.mpr rfl) (p s h5 h6)⟩
theorem wi_cell {i : Int} {P : Dt → Prop} (h0 : 0 ≤ i) (hi : i < n) (p : ∀ x : Int, 0 ≤ x → P (.int x)) : WI X (boxR b c n) (.adr c) (.int i) P := fun F H x y Q w rx ry ct => by
  obtain ⟨nb, hn, cells, pl, s, h1, h2, h3, h4, h5, h6⟩ := w.b
  rw [rp_adr.mp rx, rp_int.mp ry]
  obtain ⟨j, rfl⟩ : ∃ j : Nat, i = (j : Int) := ⟨i.toNat, by omega⟩
  have hj : j < cells.length := by omega
  refine ixOf.of ix_list ⟨c, _, j, .int cells[j], rfl, rfl, SqL.of h2, atI_nat (j := j) (by rw [List.getElem?_map, List.getElem?_eq_getElem hj]; rfl), ct.here w (rp_int.mpr rfl) (p _ (h4 _ (List.getElem_mem hj)))⟩
theorem wc_lenc {P : Dt → Prop} (p : n ≤ 63 → P (.int (n : Int))) : WC X (boxR b c n) (.builtin "len") [.adr c] P := fun F H xs Q w r ct => by
  obtain ⟨nb, hn, cells, pl, s, h1, h2, h3, h4, h5, h6⟩ := w.b
  obtain ⟨v, rfl, r1⟩ := r.one
  rw [rp_adr.mp r1]
  refine crOf.of call_len_seq ⟨c, _, rfl, .inl (SqL.of h2), ?_⟩
  exact ct.here w (d := .int (n : Int)) (rp_int.mpr (by simp [h3])) (p hn)
theorem box_ext {F H : Hp} {a : Addr} {o : HO} (w : Wf (boxR b c n) F H) (ha : a = b ∨ a = c) (hb : boxB b c n (upd H a o)) : Ext (boxR b c n) F H F (upd H a o) := by
  have fa : F a = none := w.off a ha
  refine ⟨⟨fun x u h => ?_, w.off, fun x m z => ?_, w.b.1, w.b.2.1, hb⟩, .refl _, fun x u nm h => ?_, fun _ _ h => h⟩
  · rw [upd_ne (fun z => by rw [z, fa] at h; cases h)]
    exact w.fh x u h
  · by_cases q : x = a
    · rw [q, upd_same] at z; cases z
    · rw [upd_ne q] at z; exact w.oc x m z
  · rw [upd_ne (fun z => nm (by rw [z]; exact ha))]
    exact h
theorem ws_cell {i v : Int} {P : Prop} (h0 : 0 ≤ i) (hi : i < n) (hv : 0 ≤ v) (p : P) : WS X (boxR b c n) (.adr c) (.int i) (.int v) P := fun F H x y z Q w rx ry rz ct => by
  obtain ⟨nb, hn, cells, pl, s, h1, h2, h3, h4, h5, h6⟩ := id w.b
  rw [rp_adr.mp rx, rp_int.mp ry, rp_int.mp rz]
  obtain ⟨j, rfl⟩ : ∃ j : Nat, i = (j : Int) := ⟨i.toNat, by omega⟩
  have hj : j < cells.length := by omega
  refine seOf.of set_list ⟨c, _, j, j, rfl, rfl, h2, ?_, ct _ (box_ext w (.inr rfl) ⟨cells.set j v, pl, s, ?_, ?_, ?_, ?_, h5, h6⟩) p⟩
  · unfold ixN
    rw [List.length_map, if_pos (by omega), if_pos (by omega)]
    simp
  · rw [upd_ne nb]; exact h1
  · rw [upd_same, List.map_set]
  · simp [h3]
  · intro u hu
    rcases List.mem_or_eq_of_mem_set hu with z | z
    · exact h4 u z
    · rw [z]; exact hv
theorem ws_box1 {v : Int} {P : Prop} (p : P) : WS X (boxR b c n) (.adr b) (.int 1) (.int v) P := fun F H x y z Q w rx ry rz ct => by
  obtain ⟨nb, hn, cells, pl, s, h1, h2, h3, h4, h5, h6⟩ := id w.b
  rw [rp_adr.mp rx, rp_int.mp ry, rp_int.mp rz]
  exact seOf.of set_list ⟨b, _, 1, 1, rfl, rfl, h1, rfl, ct _ (box_ext w (.inl rfl) ⟨cells, v, s, upd_same, by rw [upd_ne (Ne.symm nb)]; exact h2, h3, h4, h5, h6⟩) p⟩
theorem ws_box2 {v : Int} {P : Prop} (hv : 0 ≤ v) (hv2 : v < 2147483647) (p : P) : WS X (boxR b c n) (.adr b) (.int 2) (.int v) P := fun F H x y z Q w rx ry rz ct => by
  obtain ⟨nb, hn, cells, pl, s, h1, h2, h3, h4, h5, h6⟩ := id w.b
  rw [rp_adr.mp rx, rp_int.mp ry, rp_int.mp rz]
  exact seOf.of set_list ⟨b, _, 2, 2, rfl, rfl, h1, rfl, ct _ (box_ext w (.inl rfl) ⟨cells, pl, v, upd_same, by rw [upd_ne (Ne.symm nb)]; exact h2, h3, h4, hv, hv2⟩) p⟩
end
/-- a def's promise whose first argument is the box -/
def spB (K : PySem.W.Frag) (m : Nat) (φ : Ph) : Sp := fun vs H Q E => vs.length = m ∧ ∃ b c n F ds q x, Wf (boxR b c n) F H ∧ RpL K F (.adr b :: ds) vs ∧ φ ds q x ∧ (∀ v F' H' d, Ext (boxR b c n) F H F' H' → Rp K F' d v → q d → Q v H') ∧ XOk K (boxR b c n) F H x E
section
variable {X : Cx} {G : List Sl} {pos : Pos} {b c : Addr} {n : Nat}
theorem e_callX {x : Str} {ps : List Str} {φ : Ph} {m j : Nat} {e : Expr} {es : List Expr} {p : Pos} {P : Dt → Prop} (F : Fn X.prog X.w X.K X.mg X.base j x ps [] (spB X.K m φ)) (hr : Room j X.A) (hg : Gl X x)
    (h : EA X (boxR b c n) G (e :: es) fun ds => ∃ ds', ds = .adr b :: ds' ∧ ds.length = m ∧ φ ds' P fun _ _ _ => False)
    (hdb : (x == ("__debug__" : Str)) = false := by decide) (he : starEach (e :: es) X.env = (false, eval e X.env) :: starEach es X.env := by rfl) (hpl : (backTo pos (starEach es X.env)).any (·.1) = false := by rfl) : E X (boxR b c n) G (.Call (.Name x p) (e :: es) [] pos) P := fun σ F' H Q ty ct => by
  obtain ⟨f, fd, ds, a1, a2, a3, a4, a5⟩ := F.ex
  cases a4
  refine tOf.of (pe_call a5 hr hg a1 a2 a3 .nil passL pa_w hdb he hpl) (h σ F' H _ ty fun vs F1 H1 ds ex r ⟨ds', e1, hl, hφ⟩ => ?_)
  subst e1
  rw [List.append_nil]
  exact ⟨by rw [← hl]; exact r.length.symm, b, c, n, F1, ds', P, fun _ _ _ => False, ex.wf, r, hφ, fun v F2 H2 d ex2 r2 p => ct v F2 H2 d (ex.trans ex2) r2 p, ⟨fun _ _ _ _ _ _ _ z => z.elim, fun _ _ _ z => z.elim⟩⟩
end
section
variable {P : Program} {w : World} {K : PySem.W.Frag} {mg : Str → Option Value} {base : Heap}
theorem fn_okX {x qual : Str} {st : Stmt} {f : Addr} {fd : FuncData} {dvs : List V} {kws : List (Str × V)} {N ps : List Str} {k m : Nat} {φ : Ph} (F : FD K x qual st dvs kws f fd) (Sc : FnScope N ps (defScope st)) (hn : m = ps.length)
    (h : ∀ (X : Cx) (cdv : Value) (A : Around) (outer : List Env) (s : Shared) (H : Hp) (E : XK) (b c : Addr) (n : Nat) (ds : List Dt) (q : Dt → Prop) (xd : XD), X = cxOf (L2.CX P w) P w K mg base N qual (defScope st) f cdv A outer s H E → Room k X.A → φ ds q xd → ds.length + 1 = m →
      (∀ F, Wf (boxR b c n) F H → XOk K (boxR b c n) F H xd E → S X (boxR b c n) (defBody st) (st0 N (.adr b :: ds)) { nx := fun _ => q .non, rt := q })) : FnOk P w K mg base (L2.CX P w) (k + 1) f fd ps (spB K m φ) := by
  refine FunD.ok F Sc (fun vs H Q E hh => by rw [hh.1, hn]) fun cdv A outer s H vs Q E hr hh => ?_
  obtain ⟨hl, b, c, n, F0, ds, q, xd, wf, r, hφ, hq, hx⟩ := hh
  have hS := h _ cdv A outer s H E b c n ds q xd rfl hr hφ (by rw [← hl, ← r.length]; rfl) F0 wf hx
  refine ⟨_, pss_w, hS F0 H _ F0 H _ ⟨wf, ?_, by unfold st0; rw [owns0]; exact .nil⟩ ⟨.refl wf, (by unfold st0; rw [owns0]; intro o ho; cases ho), trivial⟩ ⟨fun G σ F1 H1 z _ b => hq .non F1 H1 .non b.ext (rp_non.mpr rfl) z, fun d v F1 H1 z e rd => hq v F1 H1 d e rd z, fun _ _ _ _ z => z.elim, fun _ _ _ _ z => z.elim, fun _ _ _ _ z => z.elim⟩⟩
  unfold st0 L2.start
  rw [r.length]
  exact sls0 _ r
end
end VS
set_option Elab.async false
set_option linter.all false
set_option maxRecDepth 100000
namespace VS
open PySem PySem.Spec L2
section
variable {X : Cx} {R : Reg} {G : List Sl} {pos : Pos} {k : Kt}
/-- the name in slot i -/
theorem e_v (i : Nat) {x : Str} {d : Dt} {P : Dt → Prop} (p : P d) (hg : G[i]? = some (.sh d) := by rfl) (hN : X.N[i]? = some x := by rfl) (hv : Vis X.env.scope x := by first | exact Or.inl rfl | exact Or.inr (Or.inl rfl) | exact Or.inr (Or.inr rfl))
    (hd : (x == ("__debug__" : Str)) = false := by decide) (hcd : (x == ("__classdict__" : Str)) = false := by decide) : E X R G (.Name x pos) P := e_var i hg hN hv p hd hcd
theorem s_a (i : Nat) {x : Str} {e : Expr} {pos' : Pos} (hN : X.N.Nodup) (h : E X R G e fun d => k.nx (G.set i (.sh d))) (hi : X.N[i]? = some x := by rfl) (hx : Loc X.env.scope x := by first | exact Or.inl rfl | exact Or.inr rfl)
    (hs : swapsWith e (some (.Name x pos')) pos.line X.env = pure false := by rfl) (hf : X.fn x = true ∨ X.env.scope.names.lookup x = some .local := by first | exact .inl rfl | exact .inr rfl | assumption) : S1 X R (.Assign [.Name x pos'] e pos) G k := s_asg i hN hi hx h hs hf
theorem s_aN (i : Nat) {x : Str} {e : Expr} {pos' : Pos} (hN : X.N.Nodup) (h : EN X R G e fun ds => k.nx (G.set i (.ow (.lst ds)))) (hi : X.N[i]? = some x := by rfl) (hx : Loc X.env.scope x := by first | exact Or.inl rfl | exact Or.inr rfl)
    (hs : swapsWith e (some (.Name x pos')) pos.line X.env = pure false := by rfl) (hf : X.fn x = true ∨ X.env.scope.names.lookup x = some .local := by first | exact .inl rfl | exact .inr rfl | assumption) : S1 X R (.Assign [.Name x pos'] e pos) G k := s_asgN i hN hi hx h hs hf
theorem a_n (j : Nat) {x : Str} {d : Dt} (hN : X.N.Nodup) (hi : X.N[j]? = some x := by rfl) (hx : Loc X.env.scope x := by first | exact Or.inl rfl | exact Or.inr rfl) (hf : X.fn x = true ∨ X.env.scope.names.lookup x = some .local := by first | exact .inl rfl | exact .inr rfl | assumption) : A X (.Name x pos) d [(j, d)] := a_name j hN hi hx hf

/-! ### tests with an answer that is known -/
theorem ite_b {b : Bool} {A B : Prop} (h1 : b = true → A) (h2 : b = false → B) : if b = true then A else B := by
  cases b with
  | true => rw [if_pos rfl]; exact h1 rfl
  | false => rw [if_neg (by decide)]; exact h2 rfl
theorem ite_t {b : Bool} {A B : Prop} (h : b = true) (h1 : A) : if b = true then A else B := by rw [if_pos h]; exact h1
theorem ite_f {b : Bool} {A B : Prop} (h : b = false) (h1 : B) : if b = true then A else B := by rw [if_neg (by rw [h]; decide)]; exact h1
theorem tw_andD {a b : Expr} {es : List Expr} {u v : Bool} {P : Bool → Prop} (h1 : T X R G a fun k => k = u) (h2 : u = true → TW X R G (.BoolOp .And (b :: es) pos) fun k => k = v) (p : P (u && v)) : TW X R G (.BoolOp .And (a :: b :: es) pos) P := tw_and (h1.imp fun k e => by
  subst e
  cases k with
  | true => rw [if_pos rfl]; exact fun σ F H Q ty c => h2 rfl σ F H Q ty fun b F' H' ex e => c b F' H' ex (by rw [e]; exact p)
  | false => rw [if_neg (by decide)]; exact p)
theorem tw_orD {a b : Expr} {es : List Expr} {u v : Bool} {P : Bool → Prop} (h1 : T X R G a fun k => k = u) (h2 : u = false → TW X R G (.BoolOp .Or (b :: es) pos) fun k => k = v) (p : P (u || v)) : TW X R G (.BoolOp .Or (a :: b :: es) pos) P := tw_or (h1.imp fun k e => by
  subst e
  cases k with
  | false => rw [if_neg (by decide)]; exact fun σ F H Q ty c => h2 rfl σ F H Q ty fun b F' H' ex e => c b F' H' ex (by rw [e]; exact p)
  | true => rw [if_pos rfl]; exact p)
theorem e_andD {a b : Expr} {es : List Expr} {u v : Bool} {P : Dt → Prop} (h1 : E X R G a fun d => d = .bl u) (h2 : u = true → E X R G (.BoolOp .And (b :: es) pos) fun d => d = .bl v) (p : P (.bl (u && v))) : E X R G (.BoolOp .And (a :: b :: es) pos) P := e_and (h1.imp fun d e => ⟨u, e, by
  cases u with
  | true => rw [if_pos rfl]; exact (h2 rfl).imp fun d e => by rw [e]; exact p
  | false => rw [if_neg (by decide)]; exact p⟩)
theorem e_orD {a b : Expr} {es : List Expr} {u v : Bool} {P : Dt → Prop} (h1 : E X R G a fun d => d = .bl u) (h2 : u = false → E X R G (.BoolOp .Or (b :: es) pos) fun d => d = .bl v) (p : P (.bl (u || v))) : E X R G (.BoolOp .Or (a :: b :: es) pos) P := e_or (h1.imp fun d e => ⟨u, e, by
  cases u with
  | false => rw [if_neg (by decide)]; exact (h2 rfl).imp fun d e => by rw [e]; exact p
  | true => rw [if_pos rfl]; exact p⟩)
/-- a op1 b op2 c, with answers that are known -/
theorem e_chainD {a b c : Expr} {op op' : CmpOp} {u v : Bool} {P : Dt → Prop} (h : E X R G a fun d1 => E X R G b fun d2 => W2 X R (compareOp op) d1 d2 fun d => d = .bl u ∧ (u = true → E X R G c fun d3 => W2 X R (compareOp op') d2 d3 fun d => d = .bl v)) (p : P (.bl (u && v)))
    (hm : lastMarks [op, op'] [b, c] = false := by with_unfolding_all rfl) : E X R G (.Compare a [op, op'] [b, c] pos) P := by
  refine e_chain ?_ hm
  refine h.imp fun d1 h1 => h1.imp fun d2 h2 => fun F H x y Q w rx ry ct => h2 F H x y Q w rx ry fun z F' H' d ex r hh => ct z F' H' d ex r ⟨u, hh.1, ?_⟩
  cases u with
  | true => rw [if_pos rfl]; exact (hh.2 rfl).imp fun d3 h3 => fun F H x y Q w rx ry ct => h3 F H x y Q w rx ry fun z F' H' d ex r e => ct z F' H' d ex r (by rw [e]; exact p)
  | false => rw [if_neg (by decide)]; exact p
theorem t_chainD {a b c : Expr} {op op' : CmpOp} {u v : Bool} {P : Bool → Prop} (h : E X R G a fun d1 => E X R G b fun d2 => W2 X R (compareOp op) d1 d2 fun d => d = .bl u ∧ (u = true → E X R G c fun d3 => W2 X R (compareOp op') d2 d3 fun d => d = .bl v)) (p : P (u && v))
    (hm : lastMarks [op, op'] [b, c] = false := by with_unfolding_all rfl) : T X R G (.Compare a [op, op'] [b, c] pos) P := by
  refine t_chain ?_ hm
  refine h.imp fun d1 h1 => h1.imp fun d2 h2 => fun F H x y Q w rx ry ct => h2 F H x y Q w rx ry fun z F' H' d ex r hh => ct z F' H' d ex r ⟨u, hh.1, ?_⟩
  cases u with
  | true => rw [if_pos rfl]; exact (hh.2 rfl).imp fun d3 h3 => fun F H x y Q w rx ry ct => h3 F H x y Q w rx ry fun z F' H' d ex r e => ct z F' H' d ex r ⟨v, e, p⟩
  | false => rw [if_neg (by decide)]; exact p

/-! ### a comprehension that maps, that filters and maps -/
theorem lc_map {tg elt : Expr} {scope : Scope} {vs : List Nat} {ds : List Dt} (g : Nat → Dt → Dt) (js : Dt → List (Nat × Dt)) (ha : ∀ (i : Nat) d, ds[i]? = some d → ∀ Y, Blk X scope Y → A Y tg d (js d)) (hj : ∀ d, ∀ p ∈ js d, p.1 ∈ vs)
    (he : ∀ (i : Nat) d, ds[i]? = some d → ∀ Y, Blk X scope Y → E Y R (setsD (wipeD G vs) (js d)) elt fun y => y = g i d) : Lc X R G tg elt [] scope vs ds fun i acc => acc = (ds.take i).mapIdx g := by
  refine ⟨rfl, fun i d acc hd hacc hl => ⟨js d, ha i d hd, hj d, fun Y bY => ts_nil ?_⟩⟩
  rw [if_pos rfl]
  intro Z bZ
  refine (he i d hd Z bZ).imp fun y hy => ?_
  have hi : i < ds.length := (List.getElem?_eq_some_iff.mp hd).1
  have e2 : ds.take (i + 1) = ds.take i ++ [d] := by rw [List.take_add_one, hd]; rfl
  show acc ++ [y] = (ds.take (i + 1)).mapIdx g
  rw [e2, List.mapIdx_append, hacc, hy]
  simp [List.length_take, Nat.min_eq_left (Nat.le_of_lt hi)]
/-- an item of a written list at a drawn place -/
theorem wi_any {ds : List Dt} {i : Int} {P : Dt → Prop} (h0 : 0 ≤ i) (h1 : i < (ds.length : Nat)) (p : ∀ d ∈ ds, P d) : WI X R (.lst ds) (.int i) P := by
  obtain ⟨j, rfl⟩ : ∃ j : Nat, i = (j : Int) := ⟨i.toNat, by omega⟩
  have hj : j < ds.length := by omega
  exact wi_lst (atI_nat (j := j) (List.getElem?_eq_getElem hj)) (p _ (List.getElem_mem hj))
theorem wi_anyT {ds : List Dt} {i : Int} {P : Dt → Prop} (h0 : 0 ≤ i) (h1 : i < (ds.length : Nat)) (p : ∀ d ∈ ds, P d) : WI X R (.tup ds) (.int i) P := by
  obtain ⟨j, rfl⟩ : ∃ j : Nat, i = (j : Int) := ⟨i.toNat, by omega⟩
  have hj : j < ds.length := by omega
  exact wi_tup (atI_nat (j := j) (List.getElem?_eq_getElem hj)) (p _ (List.getElem_mem hj))
theorem kt_int_int {K : PySem.W.Frag} : PySem.W.kitOne K (.type "int") (.type "int") = some true := kit_ty (by decide +kernel)
theorem kt_int_bool {K : PySem.W.Frag} : PySem.W.kitOne K (.type "int") (.type "bool") = some false := kit_ty (by decide +kernel)
theorem kt_int_str {K : PySem.W.Frag} : PySem.W.kitOne K (.type "int") (.type "str") = some false := kit_ty (by decide +kernel)
theorem kt_int_tuple {K : PySem.W.Frag} : PySem.W.kitOne K (.type "int") (.type "tuple") = some false := kit_ty (by decide +kernel)
theorem kt_int_list {K : PySem.W.Frag} : PySem.W.kitOne K (.type "int") (.type "list") = some false := kit_ty (by decide +kernel)
theorem kt_int_dict {K : PySem.W.Frag} : PySem.W.kitOne K (.type "int") (.type "dict") = some false := kit_ty (by decide +kernel)
theorem kt_bool_int {K : PySem.W.Frag} : PySem.W.kitOne K (.type "bool") (.type "int") = some true := kit_ty (by decide +kernel)
theorem kt_bool_bool {K : PySem.W.Frag} : PySem.W.kitOne K (.type "bool") (.type "bool") = some true := kit_ty (by decide +kernel)
theorem kt_bool_str {K : PySem.W.Frag} : PySem.W.kitOne K (.type "bool") (.type "str") = some false := kit_ty (by decide +kernel)
theorem kt_bool_tuple {K : PySem.W.Frag} : PySem.W.kitOne K (.type "bool") (.type "tuple") = some false := kit_ty (by decide +kernel)
theorem kt_bool_list {K : PySem.W.Frag} : PySem.W.kitOne K (.type "bool") (.type "list") = some false := kit_ty (by decide +kernel)
theorem kt_bool_dict {K : PySem.W.Frag} : PySem.W.kitOne K (.type "bool") (.type "dict") = some false := kit_ty (by decide +kernel)
theorem kt_str_int {K : PySem.W.Frag} : PySem.W.kitOne K (.type "str") (.type "int") = some false := kit_ty (by decide +kernel)
theorem kt_str_bool {K : PySem.W.Frag} : PySem.W.kitOne K (.type "str") (.type "bool") = some false := kit_ty (by decide +kernel)
theorem kt_str_str {K : PySem.W.Frag} : PySem.W.kitOne K (.type "str") (.type "str") = some true := kit_ty (by decide +kernel)
theorem kt_str_tuple {K : PySem.W.Frag} : PySem.W.kitOne K (.type "str") (.type "tuple") = some false := kit_ty (by decide +kernel)
theorem kt_str_list {K : PySem.W.Frag} : PySem.W.kitOne K (.type "str") (.type "list") = some false := kit_ty (by decide +kernel)
theorem kt_str_dict {K : PySem.W.Frag} : PySem.W.kitOne K (.type "str") (.type "dict") = some false := kit_ty (by decide +kernel)
theorem kt_tuple_int {K : PySem.W.Frag} : PySem.W.kitOne K (.type "tuple") (.type "int") = some false := kit_ty (by decide +kernel)
theorem kt_tuple_bool {K : PySem.W.Frag} : PySem.W.kitOne K (.type "tuple") (.type "bool") = some false := kit_ty (by decide +kernel)
theorem kt_tuple_str {K : PySem.W.Frag} : PySem.W.kitOne K (.type "tuple") (.type "str") = some false := kit_ty (by decide +kernel)
theorem kt_tuple_tuple {K : PySem.W.Frag} : PySem.W.kitOne K (.type "tuple") (.type "tuple") = some true := kit_ty (by decide +kernel)
theorem kt_tuple_list {K : PySem.W.Frag} : PySem.W.kitOne K (.type "tuple") (.type "list") = some false := kit_ty (by decide +kernel)
theorem kt_tuple_dict {K : PySem.W.Frag} : PySem.W.kitOne K (.type "tuple") (.type "dict") = some false := kit_ty (by decide +kernel)
theorem kt_list_int {K : PySem.W.Frag} : PySem.W.kitOne K (.type "list") (.type "int") = some false := kit_ty (by decide +kernel)
theorem kt_list_bool {K : PySem.W.Frag} : PySem.W.kitOne K (.type "list") (.type "bool") = some false := kit_ty (by decide +kernel)
theorem kt_list_str {K : PySem.W.Frag} : PySem.W.kitOne K (.type "list") (.type "str") = some false := kit_ty (by decide +kernel)
theorem kt_list_tuple {K : PySem.W.Frag} : PySem.W.kitOne K (.type "list") (.type "tuple") = some false := kit_ty (by decide +kernel)
theorem kt_list_list {K : PySem.W.Frag} : PySem.W.kitOne K (.type "list") (.type "list") = some true := kit_ty (by decide +kernel)
theorem kt_list_dict {K : PySem.W.Frag} : PySem.W.kitOne K (.type "list") (.type "dict") = some false := kit_ty (by decide +kernel)
theorem kt_dict_int {K : PySem.W.Frag} : PySem.W.kitOne K (.type "dict") (.type "int") = some false := kit_ty (by decide +kernel)
theorem kt_dict_bool {K : PySem.W.Frag} : PySem.W.kitOne K (.type "dict") (.type "bool") = some false := kit_ty (by decide +kernel)
theorem kt_dict_str {K : PySem.W.Frag} : PySem.W.kitOne K (.type "dict") (.type "str") = some false := kit_ty (by decide +kernel)
theorem kt_dict_tuple {K : PySem.W.Frag} : PySem.W.kitOne K (.type "dict") (.type "tuple") = some false := kit_ty (by decide +kernel)
theorem kt_dict_list {K : PySem.W.Frag} : PySem.W.kitOne K (.type "dict") (.type "list") = some false := kit_ty (by decide +kernel)
theorem kt_dict_dict {K : PySem.W.Frag} : PySem.W.kitOne K (.type "dict") (.type "dict") = some true := kit_ty (by decide +kernel)
theorem kt_NoneType_int {K : PySem.W.Frag} : PySem.W.kitOne K (.type "NoneType") (.type "int") = some false := kit_ty (by decide +kernel)
theorem kt_NoneType_bool {K : PySem.W.Frag} : PySem.W.kitOne K (.type "NoneType") (.type "bool") = some false := kit_ty (by decide +kernel)
theorem kt_NoneType_str {K : PySem.W.Frag} : PySem.W.kitOne K (.type "NoneType") (.type "str") = some false := kit_ty (by decide +kernel)
theorem kt_NoneType_tuple {K : PySem.W.Frag} : PySem.W.kitOne K (.type "NoneType") (.type "tuple") = some false := kit_ty (by decide +kernel)
theorem kt_NoneType_list {K : PySem.W.Frag} : PySem.W.kitOne K (.type "NoneType") (.type "list") = some false := kit_ty (by decide +kernel)
theorem kt_NoneType_dict {K : PySem.W.Frag} : PySem.W.kitOne K (.type "NoneType") (.type "dict") = some false := kit_ty (by decide +kernel)
theorem eo_none {P : Option Int → Prop} (p : P none) : EO X R G none P := p
theorem eo_some {e : Expr} {P : Option Int → Prop} (h : E X R G e fun d => ∃ i, d = .int i ∧ P (some i)) : EO X R G (some e) P := h
theorem b_abs : bootBuiltins "abs" = some (.builtin "abs") := by decide +kernel
theorem b_len : bootBuiltins "len" = some (.builtin "len") := by decide +kernel
theorem b_int : bootBuiltins "int" = some (.type "int") := by decide +kernel
theorem b_bool : bootBuiltins "bool" = some (.type "bool") := by decide +kernel
theorem b_str : bootBuiltins "str" = some (.type "str") := by decide +kernel
theorem b_list : bootBuiltins "list" = some (.type "list") := by decide +kernel
theorem b_tuple : bootBuiltins "tuple" = some (.type "tuple") := by decide +kernel
theorem b_dict : bootBuiltins "dict" = some (.type "dict") := by decide +kernel
theorem b_isinstance : bootBuiltins "isinstance" = some (.builtin "isinstance") := by decide +kernel
theorem b_max : bootBuiltins "max" = some (.builtin "max") := by decide +kernel
theorem b_min : bootBuiltins "min" = some (.builtin "min") := by decide +kernel
theorem b_sum : bootBuiltins "sum" = some (.builtin "sum") := by decide +kernel
theorem b_any : bootBuiltins "any" = some (.builtin "any") := by decide +kernel
theorem b_all : bootBuiltins "all" = some (.builtin "all") := by decide +kernel
theorem b_ValueError : bootBuiltins "ValueError" = some (.type "ValueError") := by decide +kernel
end
end VS
set_option Elab.async false
set_option linter.all false
set_option maxRecDepth 100000
namespace VS
open PySem PySem.Spec L2

/-! ### the box made -/
def spBox (K : PySem.W.Frag) : Sp := fun vs H Q _ => vs.length = 1 ∧ ∃ (F : Hp) (ns : List Int) (v : V), Same F H ∧ vs = [v] ∧ Rp K F (.frl (ns.map .int)) v ∧ ns.length ≤ 63 ∧
  ∀ (b c : Addr) (H' : Hp) (cells : List Int), b ≠ c → H b = none → H c = none → Same H H' → H' b = some (.lst [.ref c, .int 0, .int 1]) → H' c = some (.lst (cells.map .int)) → cells.length ≤ 63 → (∀ x ∈ cells, 0 ≤ x) → Q (.ref b) H'
section
variable {X : Cx} {G : List Sl} {pos : Pos}
theorem s_retBox {e : Expr} {j1 j2 p1 p2 lp} {D : Ends} {σ : St} {F H : Hp} {i0 i1 : Int} (ty : Ty X.K .nil G σ F H) (h : EN X .nil G e fun ds => ∃ cells : List Int, ds = cells.map .int ∧ cells.length ≤ 63 ∧ ∀ x ∈ cells, 0 ≤ x)
    (q : ∀ (b c : Addr) (H' : Hp) (cells : List Int), b ≠ c → H b = none → H c = none → Same H H' → H' b = some (.lst [.ref c, .int i0, .int i1]) → H' c = some (.lst (cells.map .int)) → cells.length ≤ 63 → (∀ x ∈ cells, 0 ≤ x) → D.rt (.ref b) H')
    (hs : starEach [e, .Constant (.int i0) j1 p1, .Constant (.int i1) j2 p2] X.env = (false, eval e X.env) :: starEach [.Constant (.int i0) j1 p1, .Constant (.int i1) j2 p2] X.env := by rfl)
    (hs2 : starEach [.Constant (.int i0) j1 p1, .Constant (.int i1) j2 p2] X.env = (false, eval (.Constant (.int i0) j1 p1) X.env) :: starEach [.Constant (.int i1) j2 p2] X.env := by rfl)
    (hs3 : starEach [.Constant (.int i1) j2 p2] X.env = (false, eval (.Constant (.int i1) j2 p2) X.env) :: starEach [] X.env := by rfl) :
    s1Of X (.Return (some (.List [e, .Constant (.int i0) j1 p1, .Constant (.int i1) j2 p2] lp)) pos) D σ H := by
  refine s1Of.of (ps_ret (pe_lst (pa_cons pe_w (pa_cons pe_int (pa_cons pe_int pa_nil hs3) hs2) hs))) (h σ F H _ ty fun c F1 H1 ds vs ex hc nM hc1 fc rl hh => ?_)
  obtain ⟨cells, rfl, hl, hp⟩ := hh
  refine ⟨by show 3 ≤ sizeLine; decide, fun b hb => ?_⟩
  have ne : b ≠ c := fun z => by rw [z, hc1] at hb; cases hb
  have sm : Same H H1 := fun a o h => ex.hh a o (fun z => z) h
  refine q b c _ cells ne (sm.free hb) hc (sm.trans (same_upd hb)) upd_same ?_ hl hp
  rw [upd_ne (Ne.symm ne), hc1, rl.ints]
end
/-- the law's promise -/
def spLaw (K : PySem.W.Frag) : Sp := fun vs H Q _ => ∃ (a : Addr) (ns : List Int), vs = [.ref a] ∧ SqL K H a (ns.map V.int) ∧ ns.length ≤ 63 ∧ ∀ H', Q (.bl true) H'
section
variable {P : Program} {w : World} {K : PySem.W.Frag} {mg : Str → Option Value} {base : Heap}
theorem box_ok {x qual : Str} {st : Stmt} {f : Addr} {fd : FuncData} {N : List Str} {p : Str} {k : Nat} (F : FD K x qual st [] [] f fd) (Sc : FnScope N [p] (defScope st))
    (h : ∀ (X : Cx) (cdv : Value) (A : Around) (outer : List Env) (s : Shared) (H : Hp) (E : XK) (ns : List Int) (F : Hp) (σ : St) (D : Ends), X = cxOf (L2.CX P w) P w K mg base N qual (defScope st) f cdv A outer s H E → ns.length ≤ 63 → Ty K .nil (st0 N [.frl (ns.map .int)]) σ F H →
      (∀ (b c : Addr) (H' : Hp) (cells : List Int), b ≠ c → H b = none → H c = none → Same H H' → H' b = some (.lst [.ref c, .int 0, .int 1]) → H' c = some (.lst (cells.map .int)) → cells.length ≤ 63 → (∀ x ∈ cells, 0 ≤ x) → D.rt (.ref b) H') → sOf X (defBody st) D σ H) :
    FnOk P w K mg base (L2.CX P w) (k + 1) f fd [p] (spBox K) := by
  refine FunD.ok F Sc (fun vs H Q E hh => by rw [hh.1]; rfl) fun cdv A outer s H vs Q E hr hh => ?_
  obtain ⟨hl, F0, ns, v, sf, rfl, r, hn, q⟩ := hh
  refine ⟨_, pss_w, h _ cdv A outer s H E ns F0 _ _ rfl hn ⟨wf_nil sf, ?_, by unfold st0; rw [owns0]; exact .nil⟩ q⟩
  have r1 : RpL K F0 [.frl (ns.map .int)] [v] := .cons r .nil
  unfold st0 L2.start
  exact sls0 _ r1
/-- the law's own body: the box is made, then the rest is shown for any box -/
theorem law_ok {st : Stmt} {f : Addr} {fd : FuncData} {N : List Str} {p bx : Str} {k : Nat} {p1 p2 p3 p4 pos : Pos} {rest : List Stmt} (F : FD K "law" "law" st [] [] f fd) (Sc : FnScope N [p] (defScope st)) (B : Fn P w K mg base k "_law_box" ["_law_script"] [] (spBox K))
    (hbody : defBody st = .Assign [.Name bx p1] (.Call (.Name "_law_box" p2) [.Name p p3] [] p4) pos :: rest)
    (hN0 : N[0]? = some p) (hN1 : N[1]? = some bx) (hn2 : 2 ≤ N.length) (hl : Loc (defScope st) bx) (hv : Vis (defScope st) p) (hgl : (defScope st).names.lookup ("_law_box" : Str) = some .globalImplicit) (hpd : (p == ("__debug__" : Str)) = false) (hpd2 : (p == ("__classdict__" : Str)) = false)
    (hsw : ∀ env : Env, env.scope = defScope st → swapsWith (.Call (.Name "_law_box" p2) [.Name p p3] [] p4) (some (.Name bx p1)) pos.line env = pure false)
    (hse : ∀ env : Env, starEach [.Name p p3] env = (false, eval (.Name p p3) env) :: starEach [] env)
    (h : ∀ (X : Cx) (cdv : Value) (A : Around) (outer : List Env) (s : Shared) (H : Hp) (E : XK) (b c : Addr) (n : Nat) (ns : List Int), X = cxOf (L2.CX P w) P w K mg base N "law" (defScope st) f cdv A outer s H E → Room k X.A →
      S X (boxR b c n) rest (.sh (.frl (ns.map .int)) :: .sh (.adr b) :: List.replicate (N.length - 2) .no) { nx := fun _ => False, rt := fun d => d = .bl true }) :
    FnOk P w K mg base (L2.CX P w) (k + 1) f fd [p] (spLaw K) := by
  refine FunD.ok F Sc (fun vs H Q E hh => by obtain ⟨a, ns, rfl, _⟩ := hh; rfl) fun cdv A outer s H vs Q E hr hh => ?_
  obtain ⟨a, ns, rfl, hS, hn, q⟩ := hh
  obtain ⟨f2, fd2, ds2, a1, a2, a3, a4, a5⟩ := B.ex
  cases a4
  generalize hX : cxOf (L2.CX P w) P w K mg base N "law" (defScope st) f cdv A outer s H E = X
  have hXN : X.N = N := by rw [← hX]; rfl
  have hXs : X.env.scope = defScope st := by rw [← hX]; rfl
  have hXK : X.K = K := by rw [← hX]; rfl
  have hXm : X.mg = mg := by rw [← hX]; rfl
  have a5' : FnOk X.prog X.w X.K X.mg X.base (L2.CX X.prog X.w) k f2 fd2 ["_law_script"] (spBox X.K) := by rw [← hX]; exact a5
  have hr' : Room k X.A := by rw [← hX]; exact hr
  have nd : X.N.Nodup := by rw [hXN]; exact Sc.nd
  refine ⟨_, pss_w, ?_⟩
  rw [hbody]
  refine sOf.of (pss_cons (ps_set (i := 1) nd (by rw [hXN]; exact hN1) (by rw [hXs]; exact hl) (pe_call a5' hr' (show X.env.kindOf _ = _ by show X.env.scope.names.lookup _ = _; rw [hXs]; exact hgl) (by rw [hXm]; exact a1) (by rw [hXK]; exact a2) (by rw [hXK]; exact a3) .nil passL (pa_cons (pe_var (i := 0) (by rw [hXN]; exact hN0) (by rw [hXs]; exact hv) hpd hpd2) pa_nil (hse _)) (by decide) (hse _) rfl) (hsw _ hXs) (by rw [← hX]; exact .inl rfl)) pss_w) ?_
  have hs0 : ∃ r, L2.start N [V.ref a] = some (V.ref a) :: r ∧ r.length = N.length - 1 := ⟨List.replicate (N.length - 1) none, rfl, List.length_replicate⟩
  obtain ⟨r, e0, hr0⟩ := hs0
  refine ⟨.ref a, by rw [e0]; rfl, rfl, H, ns, .ref a, .refl _, rfl, rp_frl.mpr ⟨a, ns.map V.int, rfl, by rw [hXK]; exact hS, RpL.of_ints⟩, hn, fun b c H' cells ne hb hc sm hb' hc' hl' hp' => ?_⟩
  obtain ⟨g, r2, e2⟩ : ∃ g r2, r = g :: r2 := by
    cases r with
    | nil => simp at hr0; omega
    | cons g r2 => exact ⟨g, r2, rfl⟩
  subst e2
  have wf : Wf (boxR b c cells.length) H H' := by
    refine ⟨sm, fun x m => ?_, fun x m z => ?_, ne, hl', cells, 0, 1, hb', hc', rfl, hp', by decide, by decide⟩
    · rcases m with m | m
      · rw [m]; exact hb
      · rw [m]; exact hc
    · rcases m with m | m
      · rw [m, hb'] at z; cases z
      · rw [m, hc'] at z; cases z
  have hst : (L2.start N [V.ref a]).set 1 (some (V.ref b)) = some (V.ref a) :: some (V.ref b) :: r2 := by rw [e0]; rfl
  show sOf X rest _ ((L2.start N [V.ref a]).set 1 (some (V.ref b))) H'
  rw [hst]
  have sl : SlsOk X.K (boxR b c cells.length) H H' (.sh (.frl (ns.map .int)) :: .sh (.adr b) :: List.replicate (N.length - 2) .no) (some (V.ref a) :: some (V.ref b) :: r2) := by
    refine .cons ⟨.ref a, rfl, rp_frl.mpr ⟨a, ns.map V.int, rfl, by rw [hXK]; exact hS, RpL.of_ints⟩⟩ (.cons ⟨.ref b, rfl, rp_adr.mpr rfl⟩ ?_)
    have hlen : N.length - 2 = r2.length := by
      have := hr0
      simp only [List.length_cons] at this
      omega
    rw [hlen]
    clear hst hr0 e0 hlen
    induction r2 with
    | nil => exact .nil
    | cons g r ih => exact .cons trivial ih
  have ow : owns (.sh (.frl (ns.map .int)) :: .sh (.adr b) :: List.replicate (N.length - 2) Sl.no) (some (V.ref a) :: some (V.ref b) :: r2) = [] := owns0 [.frl (ns.map .int), .adr b] _ _
  refine h X cdv A outer s H E b c cells.length ns hX.symm hr' H H' _ H H' _ ⟨wf, sl, by rw [ow]; exact .nil⟩ ⟨.refl wf, (by rw [ow]; intro o ho; cases ho), trivial⟩ ⟨fun _ _ _ _ z => z.elim, fun d v F1 H1 z _ rd => ?_, fun _ _ _ _ z => z.elim, fun _ _ _ _ z => z.elim, fun _ _ _ _ z => z.elim⟩
  subst z
  rw [rp_bl.mp rd]
  exact q H1
end
/-- a law's end over a head by facts, where errors may fly -/
theorem walk_ofW {l : PySem.W.OpenLaw} {n k : Nat} {q : Program} {loose : List Str} {XP : (Str → Option Value) → Heap → Prop} {YP : World → Heap → Prop} {d : DefRec} {x : Str}
    (hn : l.most = some n) (hn2 : n ≤ sizeLine) (hdf : d.params.defaults = []) (hr : Room k callerA)
    (F : ∀ (w : World) (mg : Str → Option Value) (fa : Addr) (h : Heap), YP w h → h.Ns mainGlobals mg → mg d.name = some (.ref fa) →
      ∃ (K : PySem.W.Frag) (fd : FuncData) (sp : Sp), K.In h ∧ (∀ (s : Shared) (u : Value), BindsTo s fd ⟨[u], []⟩ [(x, u)]) ∧
        (∀ (H : Hp) (a : Addr) (ns : List Int), ns.length ≤ n → Only H → SqL K H a (ns.map V.int) → sp [.ref a] H (fun v _ => v = .bl true) fun _ _ _ => False) ∧
        ∀ base : Heap, K.In base → base.Ns mainGlobals mg → FnOk l.prog w K mg base (L2.CX l.prog w) k fa fd [x] sp) :
    PySem.W.WalkO q loose XP YP l.row.toRowW d [] (fun f vs => PySem.call f vs) := by
  refine Att.attach_call hn hdf fun w s₀ s₁ mg mb fa o pm cd doc a vs ns G Y ho hd hcd hmg hobj hints hlen hg => ?_
  obtain ⟨K, fd, sp, KX, hb, hsp, hF⟩ := F w mg fa _ Y G.T.g hmg
  refine law_call KX G.T.g G.T.b G.T.builtins G.T.nolimit hg hobj hints (Nat.le_trans hlen hn2) hr hF hb (fun H hO hS => hsp H a ns hlen hO hS) fun H e s' hx => ?_
  obtain ⟨_, _, _, _, _, _, _, _, _, _, _, _, z⟩ := hx
  exact z
end VS
set_option Elab.async false
set_option linter.all false
set_option maxRecDepth 100000
namespace VS
open PySem PySem.Spec L2

/-! ### equality of data -/
mutual
def toP : Dt → PyData
  | .non => .none
  | .bl b => .bool b
  | .int i => .int i
  | .str x => .str x
  | .tup xs => .tuple (toPs xs)
  | .lst xs => .list (toPs xs)
  | .ty _ | .adr _ | .frl _ | .dT _ _ | .dK _ _ | .obj _ _ _ | .exv _ _ _ _ | .at_ _ _ | .key _ => .none
def toPs : List Dt → List PyData
  | [] => []
  | x :: xs => toP x :: toPs xs
end
/-- plain data of depth n -/
def okN : Nat → Dt → Bool
  | _, .non => true
  | _, .bl _ => true
  | _, .int _ => true
  | _, .str x => PyData.strOk x
  | n + 1, .tup xs => xs.all (okN n)
  | n + 1, .lst xs => xs.all (okN n)
  | _, _ => false
abbrev okD (d : Dt) : Bool := okN 12 d
def eqD (a b : Dt) : Bool := PyData.eqv (toP a) (toP b)
theorem okN_list {K : PySem.W.Frag} {F H : Hp} {n : Nat} (sf : Same F H) (ih : ∀ d v, okN n d = true → Rp K F d v → Dp K H v (toP d) ∧ (toP d).canLay0 = true ∧ (toP d).depth ≤ n) : ∀ {xs : List Dt} {vs : List V}, xs.all (okN n) = true → RpL K F xs vs → DpAll K H vs (toPs xs) ∧ PyData.canLayAll0 (toPs xs) = true ∧ PyData.depthAll (toPs xs) ≤ n
  | [], vs, _, r => by
    rw [r.of_nil]
    exact ⟨.nil, by simp [toPs, PyData.canLayAll0], by simp [toPs, PyData.depthAll]⟩
  | x :: xs, vs, h, r => by
    obtain ⟨v, t, rfl, r1, r2⟩ := r.of_cons
    rw [List.all_cons, Bool.and_eq_true] at h
    obtain ⟨a1, a2, a3⟩ := ih x v h.1 r1
    obtain ⟨b1, b2, b3⟩ := okN_list sf ih h.2 r2
    refine ⟨.cons a1 b1, ?_, ?_⟩
    · simp only [toPs, PyData.canLayAll0, a2, b2, Bool.and_self]
    · simp only [toPs, PyData.depthAll]
      omega
theorem okN_dp {K : PySem.W.Frag} {F H : Hp} (sf : Same F H) : ∀ (n : Nat) (d : Dt) (v : V), okN n d = true → Rp K F d v → Dp K H v (toP d) ∧ (toP d).canLay0 = true ∧ (toP d).depth ≤ n
  | n, .non, v, h, r => by rw [rp_non.mp r]; exact ⟨.non, by simp [toP, PyData.canLay0], by simp [toP, PyData.depth]⟩
  | n, .bl b, v, h, r => by rw [rp_bl.mp r]; exact ⟨.bl b, by simp [toP, PyData.canLay0], by simp [toP, PyData.depth]⟩
  | n, .int b, v, h, r => by rw [rp_int.mp r]; exact ⟨.int b, by simp [toP, PyData.canLay0], by simp [toP, PyData.depth]⟩
  | n, .str b, v, h, r => by
    rw [rp_str.mp r]
    have h' : PyData.strOk b = true := by
      cases n with
      | zero => simpa [okN] using h
      | succ n => simpa [okN] using h
    exact ⟨.str b, by simp only [toP, PyData.canLay0]; exact h', by simp [toP, PyData.depth]⟩
  | n + 1, .tup xs, v, h, r => by
    obtain ⟨a, vs, rfl, sq, rl⟩ := rp_tup.mp r
    have h' : xs.all (okN n) = true := by simpa [okN] using h
    obtain ⟨b1, b2, b3⟩ := okN_list sf (fun d v => okN_dp sf n d v) h' rl
    exact ⟨by simp only [toP]; exact .tup (sq_t sf sq) b1, by simp only [toP, PyData.canLay0]; exact b2, by simp only [toP, PyData.depth]; omega⟩
  | n + 1, .lst xs, v, h, r => by
    obtain ⟨a, vs, rfl, sq, rl⟩ := rp_lst.mp r
    have h' : xs.all (okN n) = true := by simpa [okN] using h
    obtain ⟨b1, b2, b3⟩ := okN_list sf (fun d v => okN_dp sf n d v) h' rl
    exact ⟨by simp only [toP]; exact .lst (SqL.of (sf _ _ sq)) b1, by simp only [toP, PyData.canLay0]; exact b2, by simp only [toP, PyData.depth]; omega⟩
  | 0, .tup _, v, h, _ => by simp [okN] at h
  | 0, .lst _, v, h, _ => by simp [okN] at h
  | 0, .ty _, v, h, _ => by simp [okN] at h
  | 0, .adr _, v, h, _ => by simp [okN] at h
  | 0, .frl _, v, h, _ => by simp [okN] at h
  | 0, .dT _ _, v, h, _ => by simp [okN] at h
  | 0, .key _, v, h, _ => by simp [okN] at h
  | 0, .dK _ _, v, h, _ => by simp [okN] at h
  | 0, .obj _ _ _, v, h, _ => by simp [okN] at h
  | 0, .exv _ _ _ _, v, h, _ => by simp [okN] at h
  | 0, .at_ _ _, v, h, _ => by simp [okN] at h
  | n + 1, .ty _, v, h, _ => by simp [okN] at h
  | n + 1, .adr _, v, h, _ => by simp [okN] at h
  | n + 1, .frl _, v, h, _ => by simp [okN] at h
  | n + 1, .dT _ _, v, h, _ => by simp [okN] at h
  | n + 1, .key _, v, h, _ => by simp [okN] at h
  | n + 1, .dK _ _, v, h, _ => by simp [okN] at h
  | n + 1, .obj _ _ _, v, h, _ => by simp [okN] at h
  | n + 1, .exv _ _ _ _, v, h, _ => by simp [okN] at h
  | n + 1, .at_ _ _, v, h, _ => by simp [okN] at h
theorem ok_shaped {K : PySem.W.Frag} {F H : Hp} {d : Dt} {v : V} (sf : Same F H) (h : okD d = true) (r : Rp K F d v) : Dp K H v (toP d) ∧ SeqAt.shaped (toP d) = true := by
  obtain ⟨a, b, c⟩ := okN_dp sf 12 d v h r
  refine ⟨a, ?_⟩
  unfold SeqAt.shaped
  rw [b, decide_eq_true (Nat.le_trans c (by decide))]
  rfl
section
variable {X : Cx} {R : Reg} {G : List Sl} {pos : Pos} {k : Kt}
theorem w_eqD {a b : Dt} {P : Dt → Prop} (hu : X.A.units + 64 < cLine) (ha : okD a = true) (hb : okD b = true) (p : P (.bl (eqD a b))) : W2 X R (compareOp .Eq) a b P := fun F H x y Q w rx ry c => by
  obtain ⟨a1, a2⟩ := ok_shaped w.fh ha rx
  obtain ⟨b1, b2⟩ := ok_shaped w.fh hb ry
  exact opOf.of (op_eqD hu) ⟨_, _, a1, b1, a2, b2, c.here w (rp_bl.mpr rfl) p⟩
theorem w_neD {a b : Dt} {P : Dt → Prop} (hu : X.A.units + 64 < cLine) (ha : okD a = true) (hb : okD b = true) (p : P (.bl (!eqD a b))) : W2 X R (compareOp .NotEq) a b P := fun F H x y Q w rx ry c => by
  obtain ⟨a1, a2⟩ := ok_shaped w.fh ha rx
  obtain ⟨b1, b2⟩ := ok_shaped w.fh hb ry
  exact opOf.of (op_neD hu) ⟨_, _, a1, b1, a2, b2, c.here w (rp_bl.mpr rfl) p⟩
end
theorem canLay_of_ok {n : Nat} {d : Dt} (h : okN n d = true) : (toP d).canLay0 = true := by
  have go : ∀ (n : Nat) (d : Dt), okN n d = true → (toP d).canLay0 = true := fun n => by
    induction n with
    | zero =>
      intro d h
      cases d <;> simp_all [okN, toP, PyData.canLay0]
    | succ n ih =>
      have all : ∀ xs : List Dt, xs.all (okN n) = true → PyData.canLayAll0 (toPs xs) = true := fun xs => by
        induction xs with
        | nil => intro _; simp [toPs, PyData.canLayAll0]
        | cons x xs ih2 =>
          intro h
          rw [List.all_cons, Bool.and_eq_true] at h
          simp only [toPs, PyData.canLayAll0, ih x h.1, ih2 h.2, Bool.and_self]
      intro d h
      cases d with
      | tup xs => simp only [toP, PyData.canLay0]; exact all xs (by simpa [okN] using h)
      | lst xs => simp only [toP, PyData.canLay0]; exact all xs (by simpa [okN] using h)
      | _ => simp_all [okN, toP, PyData.canLay0]
  exact go n d h
theorem eqD_refl {d : Dt} (h : okD d = true) : eqD d d = true := SeqAt.eqv_refl _ (canLay_of_ok h)
theorem eqD_of {a b : Dt} (e : a = b) (h : okD a = true) : eqD a b = true := by rw [← e]; exact eqD_refl h
theorem eqvAll_ints : ∀ xs ys : List Int, PyData.eqvAll (toPs (xs.map .int)) (toPs (ys.map .int)) = decide (xs = ys)
  | [], [] => by simp [toPs, PyData.eqvAll]
  | [], y :: ys => by simp [toPs, PyData.eqvAll]
  | x :: xs, [] => by simp [toPs, PyData.eqvAll]
  | x :: xs, y :: ys => by
    simp only [List.map_cons, toPs, toP, PyData.eqvAll, PyData.eqv]
    rw [eqvAll_ints xs ys]
    by_cases h : x = y <;> by_cases h2 : xs = ys <;> simp [h, h2]
theorem eqD_ints (xs ys : List Int) : eqD (.lst (xs.map .int)) (.lst (ys.map .int)) = decide (xs = ys) := by
  unfold eqD
  simp only [toP, PyData.eqv]
  exact eqvAll_ints xs ys
theorem eqD_intsT (xs ys : List Int) : eqD (.tup (xs.map .int)) (.tup (ys.map .int)) = decide (xs = ys) := by
  unfold eqD
  simp only [toP, PyData.eqv]
  exact eqvAll_ints xs ys
theorem ok_ints (xs : List Int) : okD (.lst (xs.map .int)) = true := by
  simp [okN, List.all_map, List.all_eq_true]
theorem ok_intsT (xs : List Int) : okD (.tup (xs.map .int)) = true := by
  simp [okN, List.all_map, List.all_eq_true]
theorem ok_pair (a b : Int) : okD (.tup [.int a, .int b]) = true := rfl
section
variable {X : Cx} {R : Reg} {G : List Sl} {pos : Pos} {k : Kt}
/-! ### more operations -/
theorem w_catL {xs ys : List Dt} {P : Dt → Prop} (hl : xs.length + ys.length ≤ 100000) (p : P (.lst (xs ++ ys))) : W2 X R (binaryOp .Add) (.lst xs) (.lst ys) P := fun F H x y Q w rx ry c => by
  obtain ⟨a, vs, rfl, h1, r1⟩ := rp_lst.mp rx
  obtain ⟨b, ws, rfl, h2, r2⟩ := rp_lst.mp ry
  exact opOf.of op_cat ⟨a, b, vs, ws, rfl, rfl, w.fh _ _ h1, w.fh _ _ h2, by rw [← r1.length, ← r2.length]; exact Nat.le_trans hl (by decide), fun q hq => c _ _ _ _ (w.made hq) (rp_lst_new (w.fh.free hq) (r1.append r2)) p⟩
theorem e_rev {e : Expr} {j : Nat} {p1 p2 p3 : Pos} {P : Dt → Prop} (h : E X R G e fun d => ∃ xs, d = .lst xs ∧ P (.lst xs.reverse)) : E X R G (.Subscript e (.Slice none none (some (.UnaryOp .USub (.Constant (.int 1) j p1) p2)) p3) pos) P := fun σ F H Q ty c =>
  tOf.of (pe_revL pe_w) (h σ F H _ ty fun v F1 H1 d ex r ⟨xs, e, p⟩ => by
    subst e
    obtain ⟨a, vs, rfl, h1, r1⟩ := rp_lst.mp r
    refine ⟨a, vs, rfl, SqL.of (ex.wf.fh _ _ h1), fun q hq => c _ _ _ _ (ex.trans (ex.wf.made hq)) (rp_lst_new (ex.wf.fh.free hq) ?_) p⟩
    have rev : ∀ {ds : List Dt} {ws : List V}, RpL X.K F1 ds ws → RpL X.K F1 ds.reverse ws.reverse := fun {ds ws} => by
      induction ds generalizing ws with
      | nil => intro r; rw [r.of_nil]; exact .nil
      | cons d ds ih =>
        intro r
        obtain ⟨v, t, rfl, q1, q2⟩ := r.of_cons
        rw [List.reverse_cons, List.reverse_cons]
        exact (ih q2).append (.cons q1 .nil)
    exact rev r1)
theorem wc_list_lst {xs : List Dt} {P : Dt → Prop} (p : P (.lst xs)) : WC X R (.type "list") [.lst xs] P := fun F H vs Q w r c => by
  obtain ⟨v, rfl, r1⟩ := r.one
  obtain ⟨a, ws, rfl, h1, rl⟩ := rp_lst.mp r1
  exact crOf.of call_list_of ⟨a, ws, rfl, .inl (SqL.of (w.fh _ _ h1)), fun q hq => c _ _ _ _ (w.made hq) (rp_lst_new (w.fh.free hq) rl) p⟩
theorem wc_list_tup {xs : List Dt} {P : Dt → Prop} (p : P (.lst xs)) : WC X R (.type "list") [.tup xs] P := fun F H vs Q w r c => by
  obtain ⟨v, rfl, r1⟩ := r.one
  obtain ⟨a, ws, rfl, h1, rl⟩ := rp_tup.mp r1
  exact crOf.of call_list_of ⟨a, ws, rfl, .inr (sq_t w.fh h1), fun q hq => c _ _ _ _ (w.made hq) (rp_lst_new (w.fh.free hq) rl) p⟩
theorem wc_tuple_lst {xs : List Dt} {P : Dt → Prop} (p : P (.tup xs)) : WC X R (.type "tuple") [.lst xs] P := fun F H vs Q w r c => by
  obtain ⟨v, rfl, r1⟩ := r.one
  obtain ⟨a, ws, rfl, h1, rl⟩ := rp_lst.mp r1
  exact crOf.of call_tuple_of ⟨a, ws, rfl, .inl ⟨SqL.of (w.fh _ _ h1), fun q hq => c _ _ _ _ (w.made hq) (rp_tup_new (w.fh.free hq) rl) p⟩⟩
theorem wc_tuple_tup {xs : List Dt} {P : Dt → Prop} (p : P (.tup xs)) : WC X R (.type "tuple") [.tup xs] P := fun F H vs Q w r c => by
  obtain ⟨v, rfl, r1⟩ := r.one
  obtain ⟨a, ws, rfl, h1, rl⟩ := rp_tup.mp r1
  exact crOf.of call_tuple_of ⟨a, ws, rfl, .inr ⟨sq_t w.fh h1, c.here w r1 p⟩⟩
theorem wc_intB {b : Bool} {P : Dt → Prop} (p : P (.int (if b then 1 else 0))) : WC X R (.type "int") [.bl b] P := fun F H xs Q w r c => by
  obtain ⟨v, rfl, h1⟩ := r.one
  rw [rp_bl.mp h1]
  exact crOf.of call_int1 (.inr ⟨b, rfl, c.here w (rp_int.mpr rfl) p⟩)
theorem wc_max {i j : Int} {P : Dt → Prop} (hc : X.calm = true) (p : P (.int (max i j))) : WC X R (.builtin "max") [.int i, .int j] P := fun F H xs Q w r c => by
  obtain ⟨v, u, rfl, h1, h2⟩ := r.two
  rw [rp_int.mp h1, rp_int.mp h2]
  refine crOf.of (call_max2 hc) ⟨i, j, rfl, ?_⟩
  have e : (if j > i then j else i) = max i j := by split <;> omega
  rw [e]
  exact c.here w (rp_int.mpr rfl) p
theorem wc_min {i j : Int} {P : Dt → Prop} (hc : X.calm = true) (p : P (.int (min i j))) : WC X R (.builtin "min") [.int i, .int j] P := fun F H xs Q w r c => by
  obtain ⟨v, u, rfl, h1, h2⟩ := r.two
  rw [rp_int.mp h1, rp_int.mp h2]
  refine crOf.of (call_min2 hc) ⟨i, j, rfl, ?_⟩
  have e : (if j < i then j else i) = min i j := by split <;> omega
  rw [e]
  exact c.here w (rp_int.mpr rfl) p
theorem wc_sum {ns : List Int} {P : Dt → Prop} (hc : X.calm = true) (p : P (.int ns.sum)) : WC X R (.builtin "sum") [.lst (ns.map .int)] P := fun F H xs Q w r c => by
  obtain ⟨v, rfl, r1⟩ := r.one
  obtain ⟨a, ws, rfl, h1, rl⟩ := rp_lst.mp r1
  have e := rl.ints
  subst e
  exact crOf.of (cr_sum hc) ⟨a, ns, rfl, SqL.of (w.fh _ _ h1), c.here w (rp_int.mpr rfl) p⟩
theorem RpL.bools {K : PySem.W.Frag} {F : Hp} : ∀ {ns : List Bool} {vs : List V}, RpL K F (ns.map Dt.bl) vs → vs = ns.map V.bl
  | [], _, h => h.of_nil
  | n :: ns, _, h => by
    obtain ⟨v, r, rfl, h1, h2⟩ := h.of_cons
    rw [rp_bl.mp h1, RpL.bools h2]
    rfl
theorem wc_any {bs : List Bool} {P : Dt → Prop} (hc : X.calm = true) (p : P (.bl (bs.any id))) : WC X R (.builtin "any") [.lst (bs.map .bl)] P := fun F H xs Q w r c => by
  obtain ⟨v, rfl, r1⟩ := r.one
  obtain ⟨a, ws, rfl, h1, rl⟩ := rp_lst.mp r1
  have e := rl.bools
  subst e
  exact crOf.of (cr_any hc) ⟨a, bs, rfl, SqL.of (w.fh _ _ h1), c.here w (rp_bl.mpr rfl) p⟩
theorem wc_all {bs : List Bool} {P : Dt → Prop} (hc : X.calm = true) (p : P (.bl (bs.all id))) : WC X R (.builtin "all") [.lst (bs.map .bl)] P := fun F H xs Q w r c => by
  obtain ⟨v, rfl, r1⟩ := r.one
  obtain ⟨a, ws, rfl, h1, rl⟩ := rp_lst.mp r1
  have e := rl.bools
  subst e
  exact crOf.of (cr_all hc) ⟨a, bs, rfl, SqL.of (w.fh _ _ h1), c.here w (rp_bl.mpr rfl) p⟩
theorem log9 {n : Int} {k : Nat} (h : 0 < n) (hb : n.natAbs < 2 ^ k) (h0 : 0 < k) (hk : k ≤ 9000) : 0 < n ∧ n.natAbs.log2 < 9000 := ⟨h, Nat.lt_of_lt_of_le (PySem.Flt.log2_lt_of h0 hb) hk⟩
theorem wc_len_str {z : Str} {P : Dt → Prop} (hz : z.length ≤ sizeLine) (p : P (.int (z.length : Int))) : WC X R (.builtin "len") [.str z] P := fun F H xs Q w r c => by
  obtain ⟨v, rfl, h1⟩ := r.one
  rw [rp_str.mp h1]
  exact crOf.of call_len_str ⟨z, rfl, hz, c.here w (rp_int.mpr rfl) p⟩
theorem w_addS {y z : Str} {P : Dt → Prop} (h : y.length + z.length ≤ sizeLine) (p : P (.str (y ++ z))) : W2 X R (binaryOp .Add) (.str y) (.str z) P := fun F H a b Q w rx ry c => by
  rw [rp_str.mp rx, rp_str.mp ry]
  exact opOf.of op_add_str ⟨y, z, rfl, rfl, h, c.here w (rp_str.mpr rfl) p⟩
theorem w_repL {xs : List Dt} {j : Int} {P : Dt → Prop} (h : -100000 ≤ j ∧ j ≤ 100000 ∧ xs.length * j.toNat ≤ 100000) (p : P (.lst (List.replicate j.toNat xs).flatten)) : W2 X R (binaryOp .Mult) (.lst xs) (.int j) P := fun F H a b Q w rx ry c => by
  obtain ⟨o, vs, rfl, h1, rl⟩ := rp_lst.mp rx
  rw [rp_int.mp ry]
  refine opOf.of op_rep ⟨o, j, vs, rfl, rfl, w.fh _ _ h1, by omega, by omega, ?_, fun q hq => c _ _ _ _ (w.made hq) (rp_lst_new (w.fh.free hq) ?_) p⟩
  · rw [← rl.length]; exact Nat.le_trans h.2.2 (by decide)
  · generalize j.toNat = m
    induction m with
    | zero => exact .nil
    | succ m ih =>
      rw [List.replicate_succ, List.replicate_succ, List.flatten_cons, List.flatten_cons]
      exact rl.append ih
/-- a comprehension that filters and maps -/
theorem lc_fm {tg elt t : Expr} {scope : Scope} {vs : List Nat} {ds : List Dt} (f : Dt → Bool) (g : Dt → Dt) (js : Dt → List (Nat × Dt)) (ha : ∀ (i : Nat) d, ds[i]? = some d → ∀ Y, Blk X scope Y → A Y tg d (js d)) (hj : ∀ d, ∀ p ∈ js d, p.1 ∈ vs)
    (ht : ∀ (i : Nat) d, ds[i]? = some d → ∀ Y, Blk X scope Y → T Y R (setsD (wipeD G vs) (js d)) t fun b => b = f d)
    (he : ∀ (i : Nat) d, ds[i]? = some d → f d = true → ∀ Y, Blk X scope Y → E Y R (setsD (wipeD G vs) (js d)) elt fun y => y = g d) : Lc X R G tg elt [t] scope vs ds fun i acc => acc = ((ds.take i).filter f).map g := by
  refine ⟨rfl, fun i d acc hd hacc hl => ⟨js d, ha i d hd, hj d, fun Y bY => ts_one ((ht i d hd Y bY).imp fun b hb => ?_)⟩⟩
  have hi : i < ds.length := (List.getElem?_eq_some_iff.mp hd).1
  have e2 : ds.take (i + 1) = ds.take i ++ [d] := by rw [List.take_add_one, hd]; rfl
  subst hb
  rw [e2, List.filter_append, List.map_append]
  cases hf : f d with
  | true =>
    rw [if_pos rfl]
    intro Z bZ
    refine (he i d hd hf Z bZ).imp fun y hy => ?_
    rw [hy, hacc]
    simp [hf]
  | false =>
    rw [if_neg (by decide), hacc]
    simp [hf]
end
end VS
set_option Elab.async false
set_option linter.all false
set_option maxRecDepth 100000
set_option maxHeartbeats 2000000
/-! tuples: cut, joined, repeated; zip -/
namespace VS
open PySem PySem.Spec L2 PyProof.Rows
theorem tup_once (l : Addr) (items : Array Value) (n : Nat) (dd : Option Addr) (sl : Array (Option Value)) (u : Tok) (x : Int) (hx : x = 1) :
    Meets (Builtin.«tuple.__mul__» ⟨[.ref l, .int x u], []⟩) (fun _ R s => s.heap.get? l = some { cls := .type "tuple", dict := dd, data := .seq items n, slots := sl } ∧ R (.ok (.ret (Value.ref l))) s) :=
  .of_wp fun prog w A R s h => by
    obtain ⟨hp, g, d, tk, os⟩ := s
    obtain ⟨hl, h⟩ := h
    subst hx
    have i1 := AutoSeq1.idx_int
    have c0 : (decide ((1 : Int) < -(2 ^ 63)) || decide ((1 : Int) ≥ 2 ^ 63)) = false := by decide
    have c1 : (items.isEmpty || (1 : Int) == 1) = true := by simp
    wp_walk using wpAny_loadPart' hl
    exact ⟨_, rfl, h⟩
theorem tup_never (l : Addr) (items : Array Value) (n : Nat) (dd : Option Addr) (sl : Array (Option Value)) (u : Tok) (x : Int) (hx : x ≤ 0) (hx2 : -(2 ^ 62) ≤ x) (hi : items.isEmpty = false) :
    Meets (Builtin.«tuple.__mul__» ⟨[.ref l, .int x u], []⟩) (fun _ R s => s.heap.get? l = some { cls := .type "tuple", dict := dd, data := .seq items n, slots := sl } ∧
      R (.ok (.ret (Value.ref s.heap.objs.size))) { s with heap := s.heap.push { cls := Value.type "tuple", data := Data.seq #[] }, toks := s.toks }) :=
  .of_wp fun prog w A R s h => by
    obtain ⟨hp, g, d, tk, os⟩ := s
    obtain ⟨hl, h⟩ := h
    have i1 := AutoSeq1.idx_int
    have c0 : (decide (x < -(2 ^ 63)) || decide (x ≥ 2 ^ 63)) = false := by
      rw [decide_eq_false (by omega), decide_eq_false (by omega)]
      rfl
    have c1 : (items.isEmpty || x == 1) = false := by
      rw [hi, Bool.false_or]
      exact beq_eq_false_iff_ne.mpr (by omega)
    have c2 : (decide (x ≤ 0) || items.isEmpty) = true := by rw [decide_eq_true hx]; rfl
    wp_walk using wpAny_loadPart' hl
    repeat (first
      | (refine wpAny_ite_false (decide_eq_false (by rw [c0]; exact Bool.false_ne_true)) ?_; wp_walk using wpAny_loadPart' hl)
      | (refine wpAny_ite_false (decide_eq_false (by rw [c1]; exact Bool.false_ne_true)) ?_; wp_walk using wpAny_loadPart' hl)
      | (refine wpAny_ite_true (decide_eq_true c2) ?_; wp_walk using wpAny_loadPart' hl))
    exact ⟨_, rfl, h⟩
section
variable {X : Cx} {R : Reg}
/-- t * k, k at most 1 -/
theorem op_repT0 {pins : List (Addr × Obj)} {σ : L2.St} {H : Hp} {s : Shared} {l : Addr} {xs : List V} {k : Int} {t : Tok} {Q : VK} (I : Inv X pins σ H s) (hT : SqT X.K H l xs) (hne : xs ≠ []) (h1 : k ≤ 1) (h2 : -(2 ^ 62) ≤ k)
    (q1 : k = 1 → Q (.ref l) H) (q0 : k ≤ 0 → ∀ p, H p = none → Q (.ref p) (upd H p (.tup []))) : wpAny (model X.prog X.w) X.A (binaryOp .Mult (.ref l) (.int k t)) (EP X pins σ Q) X.xe s := by
  obtain ⟨its, r, ⟨⟨cls, dd, data, sl⟩, ho, hc, n, hd⟩, hs⟩ := I.tuple hT
  simp only at hc hd
  subst hc hd
  have hle : its.length = xs.length := r.length.symm
  have hi : its.toArray.isEmpty = false := by
    cases its with
    | nil => exact absurd (List.eq_nil_of_length_eq_zero hle.symm) hne
    | cons a b => rfl
  refine wpAny_binaryOp_repeat_ref (T := "tuple") (U := "int") (by decide) ⟨_, ho, rfl⟩ (fun s' => typeIs_int s' k t) noFill_tuple_mul F.fills_int_mul F.slot_int_rmul repeat_tuple F.slot_int_index.lookup
    (call_meets F.slot_int_rmul (typeIs_int s k t) F.entry_int_rmul (F.args_int_rmul_2 _ _) (int_rmul_tuple k t l its.toArray n dd sl) ⟨ho, rfl, ⟨_, ho, rfl⟩, ?_⟩)
  by_cases e : k = 1
  · exact call_meets F.slot_tuple_mul ⟨_, ho, rfl⟩ F.entry_tuple_mul (F.args_tuple_mul_2 _ _) (tup_once l its.toArray n dd sl t k e) ⟨ho, ⟨.ref l, H, I, rfl, q1 e⟩⟩
  · refine call_meets F.slot_tuple_mul ⟨_, ho, rfl⟩ F.entry_tuple_mul (F.args_tuple_mul_2 _ _) (tup_never l its.toArray n dd sl t k (by omega) h2 hi) ⟨ho, ?_⟩
    refine ⟨.ref s.heap.objs.size, _, I.laid (t' := s.toks) (o := .tup []) (fun b ob q => Heap.get?_push_of_some _ q) (Nat.le_refl _) ?_, rfl, q0 (by omega) _ (I.hok.fresh (Nat.le_refl _))⟩
    exact ⟨Nat.zero_le _, [], .nil, IsTup.new _ _⟩
theorem RpL.rep {K : PySem.W.Frag} {F : Hp} {ds : List Dt} {vs : List V} (r : RpL K F ds vs) : ∀ m, RpL K F (List.replicate m ds).flatten (List.replicate m vs).flatten
  | 0 => .nil
  | m + 1 => by
    rw [List.replicate_succ, List.replicate_succ, List.flatten_cons, List.flatten_cons]
    exact r.append (RpL.rep r m)
theorem w_repT {xs : List Dt} {j : Int} {P : Dt → Prop} (h : xs ≠ [] ∧ xs.length ≤ 1000 ∧ -(2 ^ 62) ≤ j ∧ j ≤ 1000) (p : P (.tup (List.replicate j.toNat xs).flatten)) : W2 X R (binaryOp .Mult) (.tup xs) (.int j) P := fun F H a b Q w rx ry c => by
  obtain ⟨o, vs, rfl, h1, rl⟩ := rp_tup.mp rx
  rw [rp_int.mp ry]
  have hv : vs ≠ [] := fun z => h.1 (List.eq_nil_of_length_eq_zero (by rw [rl.length, z]; rfl))
  have sq := sq_t w.fh h1
  by_cases hj : 2 ≤ j
  · refine opOf.of op_repT ⟨o, j, vs, rfl, rfl, sq, hv, hj, h.2.2.2, by rw [← rl.length]; exact h.2.1, fun q hq => c _ _ _ _ (w.made hq) (rp_tup_new (w.fh.free hq) (rl.rep _)) p⟩
  · unfold opOf
    intro pins s σ v u I rv ru
    cases rv
    obtain ⟨t, rfl⟩ := ru
    refine op_repT0 I sq hv (by omega) h.2.2.1 (fun e => ?_) fun e q hq => ?_
    · refine c.here w rx ?_
      have : (List.replicate j.toNat xs).flatten = xs := by rw [e]; simp
      rw [this] at p
      exact p
    · refine c _ _ _ _ (w.made hq) (rp_tup_new (w.fh.free hq) .nil) ?_
      have : (List.replicate j.toNat xs).flatten = [] := by rw [show j.toNat = 0 by omega]; simp
      rw [this] at p
      exact p
theorem w_catT {xs ys : List Dt} {P : Dt → Prop} (hl : xs.length + ys.length ≤ 100000) (p : P (.tup (xs ++ ys))) : W2 X R (binaryOp .Add) (.tup xs) (.tup ys) P := fun F H x y Q w rx ry c => by
  have rx0 := rx
  have ry0 := ry
  obtain ⟨a, vs, rfl, h1, r1⟩ := rp_tup.mp rx
  obtain ⟨b, ws, rfl, h2, r2⟩ := rp_tup.mp ry
  refine opOf.of op_catA ⟨a, b, vs, ws, rfl, rfl, sq_t w.fh h1, sq_t w.fh h2, by rw [← r1.length, ← r2.length]; exact Nat.le_trans hl (by decide), fun e => ?_, fun _ e => ?_, fun _ _ q hq => ?_⟩
  · have : xs = [] := List.eq_nil_of_length_eq_zero (by rw [r1.length, e]; rfl)
    rw [this] at p
    exact c.here w ry0 p
  · have : ys = [] := List.eq_nil_of_length_eq_zero (by rw [r2.length, e]; rfl)
    rw [this, List.append_nil] at p
    exact c.here w rx0 p
  · exact c _ _ _ _ (w.made hq) (rp_tup_new (w.fh.free hq) (r1.append r2)) p
theorem wsl_tup {ds : List Dt} {lo hi : Option Int} {P : Dt → Prop} (p : P (.tup (cutD ds lo hi))) : WSl X R (.tup ds) lo hi P := fun F H x Q w r c => by
  have r0 := r
  obtain ⟨a, vs, rfl, sq, rl⟩ := rp_tup.mp r
  refine slOf.of sl_tupA ⟨a, vs, rfl, sq_t w.fh sq, fun e => ?_, fun _ q hq => c _ _ _ _ (w.made hq) (rp_tup_new (w.fh.free hq) (rl.cut lo hi)) p⟩
  have : cutD ds lo hi = ds := by
    unfold cutD
    rw [rl.length, e.1, e.2, List.drop_zero, Nat.sub_zero, ← rl.length, List.take_length]
  rw [this] at p
  exact c.here w r0 p
def zipD (xs ys : List Dt) : List Dt := (xs.zip ys).map fun p => .tup [p.1, p.2]
theorem zipD_get {xs ys : List Dt} {i : Nat} {d : Dt} (h : (zipD xs ys)[i]? = some d) : ∃ x y, xs[i]? = some x ∧ ys[i]? = some y ∧ d = .tup [x, y] := by
  unfold zipD at h
  rw [List.getElem?_map] at h
  cases e : (xs.zip ys)[i]? with
  | none => rw [e] at h; cases h
  | some p =>
    rw [e] at h
    obtain ⟨h1, h2⟩ := List.getElem?_zip_eq_some.mp e
    exact ⟨p.1, p.2, h1, h2, (Option.some.inj h).symm⟩
theorem i_zip {G : List Sl} {pos : Pos} {e e2 : Expr} {p tpos : Pos} {elts : List Expr} {kk : Nat} {P : List Dt → Prop} (hg : Gl X "zip") (hm : X.mg "zip" = none) (h : EA X R G [e, e2] fun ds => ∃ xs ys, (ds = [.lst xs, .lst ys] ∨ ds = [.tup xs, .tup ys]) ∧ P (zipD xs ys))
    (hs : starEach [e, e2] X.env = (false, eval e X.env) :: starEach [e2] X.env := by rfl) (hpl : (backTo pos (starEach [e2] X.env)).any (·.1) = false := by rfl) : I X R G (.Tuple elts kk tpos) (.Call (.Name "zip" p) [e, e2] [] pos) P := fun σ F H Q ty c => by
  refine tiOf.of (RZ.pi_zipA hg hm pa_w hs hpl) (h σ F H _ ty fun vs F1 H1 ds ex r ⟨xs, ys, hd, pp⟩ => ?_)
  rcases hd with rfl | rfl
  · obtain ⟨v1, t1, rfl, q1, q2⟩ := r.of_cons
    obtain ⟨v2, t2, rfl, q3, q4⟩ := q2.of_cons
    obtain rfl := q4.of_nil
    obtain ⟨a, us, rfl, h1, r1⟩ := rp_lst.mp q1
    obtain ⟨b, ws, rfl, h2, r2⟩ := rp_lst.mp q3
    refine ⟨a, b, us, ws, rfl, .inl ⟨SqL.of (ex.wf.fh _ _ h1), SqL.of (ex.wf.fh _ _ h2), c _ F1 H1 (zipD xs ys) ex (fun F2 H2 sf wf => ?_) pp⟩⟩
    have a2 : SqL X.K H2 a us := SqL.of (wf.fh _ _ (sf _ _ h1))
    have b2 : SqL X.K H2 b ws := SqL.of (wf.fh _ _ (sf _ _ h2))
    refine ⟨fun i hi => ⟨us, ws, a2, b2, ?_⟩, fun i d hd => ?_⟩
    · have hl : (zipD xs ys).length = min xs.length ys.length := by simp [zipD]
      rw [hl, r1.length, r2.length] at hi
      omega
    · obtain ⟨dx, dy, hx, hy, rfl⟩ := zipD_get hd
      obtain ⟨vx, ex1, rx⟩ := r1.get hx
      obtain ⟨vy, ey1, ry⟩ := r2.get hy
      refine ⟨⟨us, ws, vx, vy, a2, b2, ex1, ey1⟩, fun x H' y => ?_⟩
      obtain ⟨T, x', y', rfl, hT, rfl, g1, g2⟩ := y
      have e1 := g1 us a2
      have e2 := g2 ws b2
      rw [ex1] at e1
      rw [ey1] at e2
      cases e1
      cases e2
      exact ⟨_, wf.made hT, rp_tup_new (wf.fh.free hT) (.cons (rx.mono sf) (.cons (ry.mono sf) .nil))⟩
  · obtain ⟨v1, t1, rfl, q1, q2⟩ := r.of_cons
    obtain ⟨v2, t2, rfl, q3, q4⟩ := q2.of_cons
    obtain rfl := q4.of_nil
    obtain ⟨a, us, rfl, h1, r1⟩ := rp_tup.mp q1
    obtain ⟨b, ws, rfl, h2, r2⟩ := rp_tup.mp q3
    refine ⟨a, b, us, ws, rfl, .inr ⟨sq_t ex.wf.fh h1, sq_t ex.wf.fh h2, c _ F1 H1 (zipD xs ys) ex (fun F2 H2 sf wf => ?_) pp⟩⟩
    have a2 : SqT X.K H2 a us := sq_t wf.fh (sq_t sf h1)
    have b2 : SqT X.K H2 b ws := sq_t wf.fh (sq_t sf h2)
    refine ⟨fun i hi => ⟨us, ws, a2, b2, ?_⟩, fun i d hd => ?_⟩
    · have hl : (zipD xs ys).length = min xs.length ys.length := by simp [zipD]
      rw [hl, r1.length, r2.length] at hi
      omega
    · obtain ⟨dx, dy, hx, hy, rfl⟩ := zipD_get hd
      obtain ⟨vx, ex1, rx⟩ := r1.get hx
      obtain ⟨vy, ey1, ry⟩ := r2.get hy
      refine ⟨⟨us, ws, vx, vy, a2, b2, ex1, ey1⟩, fun x H' y => ?_⟩
      obtain ⟨T, x', y', rfl, hT, rfl, g1, g2⟩ := y
      have e1 := g1 us a2
      have e2 := g2 ws b2
      rw [ex1] at e1
      rw [ey1] at e2
      cases e1
      cases e2
      exact ⟨_, wf.made hT, rp_tup_new (wf.fh.free hT) (.cons (rx.mono sf) (.cons (ry.mono sf) .nil))⟩
theorem take_map_all {τ υ : Type} (ts : List τ) (f : τ → υ) : ts.take (ts.map f).length = ts := by rw [List.length_map, List.take_length]
/-- a comprehension over what is known item by item -/
theorem lc_of {G : List Sl} {τ : Type} (ts : List τ) (inj out : τ → Dt) (js : τ → List (Nat × Dt)) {tg elt : Expr} {scope : Scope} {vs : List Nat} (ha : ∀ t ∈ ts, ∀ Y, Blk X scope Y → A Y tg (inj t) (js t)) (hj : ∀ t, ∀ p ∈ js t, p.1 ∈ vs)
    (he : ∀ t ∈ ts, ∀ Y, Blk X scope Y → E Y R (setsD (wipeD G vs) (js t)) elt fun y => y = out t) : Lc X R G tg elt [] scope vs (ts.map inj) fun i acc => acc = (ts.take i).map out := by
  refine ⟨rfl, fun i d acc hd hacc hl => ?_⟩
  rw [List.getElem?_map] at hd
  cases e : ts[i]? with
  | none => rw [e] at hd; cases hd
  | some t =>
    rw [e] at hd
    have ed : d = inj t := (Option.some.inj hd).symm
    subst ed
    have ht := List.mem_of_getElem? e
    refine ⟨js t, ha t ht, hj t, fun Y bY => ts_nil ?_⟩
    rw [if_pos rfl]
    intro Z bZ
    refine (he t ht Z bZ).imp fun y hy => ?_
    have e2 : ts.take (i + 1) = ts.take i ++ [t] := by rw [List.take_add_one, e]; rfl
    show acc ++ [y] = (ts.take (i + 1)).map out
    rw [e2, List.map_append, hacc, hy]
    rfl
/-- .. with a test -/
theorem lc_if {G : List Sl} {τ : Type} (ts : List τ) (inj out : τ → Dt) (f : τ → Bool) (js : τ → List (Nat × Dt)) {tg elt tst : Expr} {scope : Scope} {vs : List Nat} (ha : ∀ t ∈ ts, ∀ Y, Blk X scope Y → A Y tg (inj t) (js t)) (hj : ∀ t, ∀ p ∈ js t, p.1 ∈ vs)
    (ht : ∀ t ∈ ts, ∀ Y, Blk X scope Y → T Y R (setsD (wipeD G vs) (js t)) tst fun b => b = f t) (he : ∀ t ∈ ts, f t = true → ∀ Y, Blk X scope Y → E Y R (setsD (wipeD G vs) (js t)) elt fun y => y = out t) : Lc X R G tg elt [tst] scope vs (ts.map inj) fun i acc => acc = ((ts.take i).filter f).map out := by
  refine ⟨rfl, fun i d acc hd hacc hl => ?_⟩
  rw [List.getElem?_map] at hd
  cases e : ts[i]? with
  | none => rw [e] at hd; cases hd
  | some t =>
    rw [e] at hd
    have ed : d = inj t := (Option.some.inj hd).symm
    subst ed
    have hm := List.mem_of_getElem? e
    have e2 : ts.take (i + 1) = ts.take i ++ [t] := by rw [List.take_add_one, e]; rfl
    refine ⟨js t, ha t hm, hj t, fun Y bY => ts_one ((ht t hm Y bY).imp fun b hb => ?_)⟩
    subst hb
    by_cases hf : f t = true
    · rw [if_pos hf]
      intro Z bZ
      refine (he t hm hf Z bZ).imp fun y hy => ?_
      show acc ++ [y] = ((ts.take (i + 1)).filter f).map out
      rw [e2, List.filter_append, List.filter_cons_of_pos hf, List.map_append, hacc, hy]
      rfl
    · rw [if_neg hf]
      show acc = ((ts.take (i + 1)).filter f).map out
      rw [e2, List.filter_append, List.filter_cons_of_neg hf, List.filter_nil, List.append_nil, hacc]
/-- .. of which only a word is known of each item -/
theorem lc_all {G : List Sl} {ds : List Dt} (Pd : Dt → Prop) (js : Dt → List (Nat × Dt)) {tg elt : Expr} {scope : Scope} {vs : List Nat} (ha : ∀ d ∈ ds, ∀ Y, Blk X scope Y → A Y tg d (js d)) (hj : ∀ t, ∀ p ∈ js t, p.1 ∈ vs)
    (he : ∀ d ∈ ds, ∀ Y, Blk X scope Y → E Y R (setsD (wipeD G vs) (js d)) elt Pd) : Lc X R G tg elt [] scope vs ds fun i acc => acc.length = i ∧ ∀ y ∈ acc, Pd y := by
  refine ⟨⟨rfl, fun y hy => nomatch hy⟩, fun i d acc hd hacc hl => ?_⟩
  have hm := List.mem_of_getElem? hd
  refine ⟨js d, ha d hm, hj d, fun Y bY => ts_nil ?_⟩
  rw [if_pos rfl]
  intro Z bZ
  refine (he d hm Z bZ).imp fun y hy => ?_
  refine ⟨by rw [List.length_append, hacc.1]; rfl, fun z hz => ?_⟩
  rcases List.mem_append.mp hz with h | h
  · exact hacc.2 z h
  · rw [List.mem_singleton.mp h]; exact hy
end
end VS
set_option Elab.async false
set_option linter.all false
set_option maxRecDepth 100000
set_option maxHeartbeats 2000000
/-! t[::-1] of a tuple -/
namespace VS
open PySem PySem.Spec L2 PyProof.Rows
section
variable {prog : Program} {w : World} {A : Around} {E : Value → Shared → Prop} {s : Shared}
theorem places_back (n : Nat) : Builtin.Slice.slicePlaces ((n : Int) - 1) (-1) (-1) = n := by
  unfold Builtin.Slice.slicePlaces
  simp
  omega
theorem applied_back {sl : Addr} {vl vu vk : Value} {n : Nat} {Q : Int × Int × Nat → Shared → Prop} (hs : s.heap.IsSliceOf sl vl vu vk) (pl : IsPart vl none) (pu : IsPart vu none) (pk : IsPart vk (some (-1)))
    (h : Q ((n : Int) - 1, -1, n) s) : wpAny (model prog w) A (Builtin.Slice.sliceApplied (.ref sl) (pure (n : Int))) Q E s := by
  obtain ⟨ob, o1, o2, o3⟩ := id hs
  unfold Builtin.Slice.sliceApplied Builtin.Slice.sliceFields
  refine wpAny_bind (wpAny_bind (wpAny_field o1 o3 (x := vl) rfl (wpAny_bind (wpAny_field o1 o3 (x := vu) rfl (wpAny_bind (wpAny_field o1 o3 (x := vk) rfl (wpAny_pure ?_)))))))
  refine wpAny_bind (HT.slicePart_ pk ?_)
  show wpAny _ _ (if ((-1 : Int) == 0) = true then _ else _) _ _ s
  rw [if_neg (by decide)]
  refine wpAny_bind (HT.slicePart_ pl (wpAny_bind (HT.slicePart_ pu (wpAny_bind (wpAny_pure ?_)))))
  show wpAny _ _ (pure ((n : Int) - 1, (-1 : Int), Builtin.Slice.slicePlaces ((n : Int) - 1) (-1) (-1))) _ _ s
  rw [places_back]
  exact wpAny_pure h
theorem pick_back (xs : Array Value) : ((List.range xs.size).filterMap fun (m : Nat) => xs[(((xs.size : Int) - 1) + (m : Int) * (-1)).toNat]?).toArray = xs.toList.reverse.toArray := by
  have e : (fun (m : Nat) => xs[(((xs.size : Int) - 1) + (m : Int) * (-1)).toNat]?) = (fun m => xs[m]?) ∘ fun m => xs.size - 1 - m := by
    funext m
    have : (((xs.size : Int) - 1) + (m : Int) * (-1)).toNat = xs.size - 1 - m := by omega
    rw [this]
    rfl
  rw [e, ← List.filterMap_map, PySem.W.krv_range, List.filterMap_reverse, PySem.W.krv_all]
theorem tuple_back {t sl : Addr} {items : Array Value} {vl vu vk : Value} {Q : Value → Shared → Prop} (ht : IsTup s.heap t items) (hs : s.heap.IsSliceOf sl vl vu vk) (pl : IsPart vl none) (pu : IsPart vu none) (pk : IsPart vk (some (-1)))
    (h : Q (.ref s.heap.objs.size) { s with heap := s.heap.push { cls := .type "tuple", data := .seq items.toList.reverse.toArray } }) (hz : items.size ≤ sizeLine) : wpAny (model prog w) A (getItem (.ref t) (.ref sl)) Q E s := by
  have ok : sizeOk (.seq items.toList.reverse.toArray) := by
    show items.toList.reverse.toArray.size ≤ sizeLine
    simpa using hz
  obtain ⟨ob, o1, o2, o3⟩ := id hs
  have hTy : s.TypeIs (.ref sl) "slice" := ⟨ob, o1, o2⟩
  unfold getItem
  try with_reducible refine wpAny_holding ?_
  first | refine wpAny_bind (wpAny_pure ?_) | skip
  refine wpAny_bind (wpAny_sequenceKey ht.typeIs (by decide) ?_)
  refine wpAny_bind (wpAny_callSpecial?_slot (name := Str.ofString "__getitem__") ht.typeIs PyProof.Rows.slot_tuple_getitem (wpAny_call_entry PyProof.Rows.slot_tuple_getitem ht.typeIs entry_tuple_getitem ?_ (args_tuple_getitem _ _)))
  show wpAny _ _ (Builtin.Tuple.tupleItemsOf (.ref t) >>= _) _ _ s
  refine wpAny_bind (tupleItemsOf_ ht ?_)
  refine wpAny_bind (wpAny_typeOf hTy ?_)
  rw [if_pos (by decide)]
  refine wpAny_bind (applied_back hs pl pu pk ?_)
  show wpAny _ _ (if (((items.size : Int) - 1) == 0 && (-1 : Int) == 1 && items.size == items.size) = true then _ else _) _ _ s
  rw [if_neg (by simp), pick_back]
  exact wpAny_bind (m := Builtin.Tuple.tupleExact _) (wpAny_newObj_type (by first | exact wpAny_pure ⟨_, rfl, wpAny_pure h⟩ | exact wpAny_bind (wpAny_pure (wpAny_pure ⟨_, rfl, wpAny_pure h⟩))) ok)
end
section
variable {X : Cx} {R : Reg} {G : List Sl} {pos : Pos}
theorem RpL.rev {K : PySem.W.Frag} {F : Hp} : ∀ {ds : List Dt} {ws : List V}, RpL K F ds ws → RpL K F ds.reverse ws.reverse
  | [], _, r => by rw [r.of_nil]; exact .nil
  | d :: ds, _, r => by
    obtain ⟨v, t, rfl, q1, q2⟩ := r.of_cons
    rw [List.reverse_cons, List.reverse_cons]
    exact (RpL.rev q2).append (.cons q1 .nil)
theorem e_revT {e : Expr} {j : Nat} {p1 p2 p3 : Pos} {P : Dt → Prop} (h : E X R G e fun d => ∃ xs, d = .tup xs ∧ P (.tup xs.reverse)) : E X R G (.Subscript e (.Slice none none (some (.UnaryOp .USub (.Constant (.int 1) j p1) p2)) p3) pos) P := fun σ F H Q ty c => by
  have ht := h σ F H (fun v H1 => ∃ a xs, v = .ref a ∧ SqT X.K H1 a xs ∧ ∀ p, H1 p = none → Q (.ref p) (upd H1 p (.tup xs.reverse))) ty fun v F1 H1 d ex r ⟨xs, ed, pp⟩ => by
    subst ed
    obtain ⟨a, vs, rfl, h1, r1⟩ := rp_tup.mp r
    exact ⟨a, vs, rfl, sq_t ex.wf.fh h1, fun q hq => c _ _ _ _ (ex.trans (ex.wf.made hq)) (rp_tup_new (ex.wf.fh.free hq) r1.rev) pp⟩
  unfold tOf
  intro pins s I
  refine Subscript_ (thn (pe_w.run pins s σ H _ I ht) fun v s1 ⟨x, H1, I1, r1, q1⟩ => ?_)
  obtain ⟨a, xs, rfl, hx, q⟩ := q1
  cases r1
  have hst : PO X (some (.UnaryOp .USub (.Constant (.int 1) j p1) p2)) (tPart (tUn (rU fun i => .int (-i)) (tC (.int 1)))) := po_some (pe_un un_neg pe_int)
  refine wpAny_Slice (thn (po_none.run pins s1 σ H1 (fun o H2 => o = none ∧ H2 = H1) I1 ⟨rfl, rfl⟩) fun vl s2 ⟨l, H2, I2, pl, el, e2⟩ => ?_)
  subst el e2
  refine thn (po_none.run pins s2 σ H2 (fun o H3 => o = none ∧ H3 = H2) I2 ⟨rfl, rfl⟩) fun vu s3 ⟨u, H3, I3, pu, eu, e3⟩ => ?_
  subst eu e3
  refine thn (hst.run pins s3 σ H3 (fun o H4 => o = some (-1) ∧ H4 = H3) I3 ⟨1, rfl, -1, rfl, rfl, rfl⟩) fun vk s4 ⟨o, H4, I4, pk, eo, e4⟩ => ?_
  subst eo e4
  have I5 : Inv X pins σ H4 { s4 with heap := s4.heap.push { cls := .type "slice", data := .fields #[vl, vu, vk] } } := I4.kept (t' := s4.toks) fun b ob q => Heap.get?_push_of_some _ q
  obtain ⟨its, rv, tp, hz⟩ := I5.tuple hx
  have hlen := rv.length
  show wpAny (model X.prog X.w) X.A (subscriptTail e (.Slice none none (some (.UnaryOp .USub (.Constant (.int 1) j p1) p2)) p3) (.ref a) (.ref s4.heap.objs.size)) (EP X pins σ Q) X.xe _
  refine tail_any (ops := [.ref a, .ref s4.heap.objs.size]) tp.typeIs (PyProof.Rows.slot_tuple_getitem.lookup) ?_ (by with_unfolding_all rfl)
  refine tuple_back tp (Heap.IsSliceOf.new _ vl vu vk) pl pu pk ?_ (by rw [List.size_toArray]; omega)
  refine ⟨.ref _, _, I5.laid (t' := s4.toks) (o := .tup xs.reverse) (fun b ob q => Heap.get?_push_of_some _ q) (Nat.le_refl _) ?_, rfl, q _ (I5.hok.fresh (Nat.le_refl _))⟩
  exact ⟨by rw [List.length_reverse]; exact hz, _, rv.reverse, IsTup.new _ _⟩
end
end VS
set_option Elab.async false
set_option linter.all false
set_option maxRecDepth 100000
namespace VS
open PySem PySem.Spec L2

/-! ### defs with a star parameter -/
/-- def f(*v) -/
def spSt (K : PySem.W.Frag) (φ : Ph) : Sp := fun vs H Q E => vs.length ≤ sizeLine ∧ ∀ p, H p = none → spD K 1 φ [.ref p] (upd H p (.tup vs)) Q E
structure FnS (P : Program) (w : World) (K : PySem.W.Frag) (mg : Str → Option Value) (base : Heap) (k : Nat) (x : Str) (φ : Ph) : Prop where
  ex : ∃ f : Addr, mg x = some (.ref f) ∧ PySem.W.keepIn K (.ref f) = true ∧ FnR P w K mg base (L2.CX P w) k f (spSt K φ)
theorem FnS.mono {P : Program} {w : World} {K : PySem.W.Frag} {mg : Str → Option Value} {base : Heap} {j k : Nat} {x : Str} {φ : Ph} (F : FnS P w K mg base j x φ) (h : j ≤ k) : FnS P w K mg base k x φ := by
  obtain ⟨f, a, b, c⟩ := F.ex
  exact ⟨f, a, b, c.mono h⟩
section
variable {X : Cx} {R : Reg} {G : List Sl} {pos : Pos} {k : Kt}
theorem pe_callR {CX : CXT} {j : Nat} {f : Addr} {sp : Sp} {E : XK} {x : Str} {e : Expr} {es : List Expr} {t : TA} {p : Pos} (F : FnR X.prog X.w X.K X.mg X.base CX j f sp) (hr : Room j X.A) (hg : Gl X x) (hm : X.mg x = some (.ref f)) (hk : PySem.W.keepIn X.K (.ref f) = true) (hx : Passes CX X E)
    (ha : PA X (e :: es) t) (hdb : (x == ("__debug__" : Str)) = false := by decide) (he : starEach (e :: es) X.env = (false, eval e X.env) :: starEach es X.env := by rfl) (hpl : (backTo pos (starEach es X.env)).any (·.1) = false := by rfl) :
    PE X (.Call (.Name x p) (e :: es) [] pos) (fun σ H Q => t σ H fun vs H1 => sp vs H1 Q E) := by
  refine ⟨fun pins s σ H Q I h => ?_⟩
  refine wpAny_Call_Name_kw (ld_glob I hg hm ?_ hdb)
  refine PySem.W.callWith_K (h₀ := X.base) I.ok.mod.kin hk (thn (ha.run pos pins s σ H _ I h) fun us s1 ⟨vs, H1, I1, r, q⟩ => ⟨I1.kIn, ?_⟩) he hpl
  exact wpAny_call (run_fnR F hr hx I1 r q)
theorem pe_callR0 {CX : CXT} {j : Nat} {f : Addr} {sp : Sp} {E : XK} {x : Str} {p : Pos} (F : FnR X.prog X.w X.K X.mg X.base CX j f sp) (hr : Room j X.A) (hg : Gl X x) (hm : X.mg x = some (.ref f)) (hk : PySem.W.keepIn X.K (.ref f) = true) (hx : Passes CX X E)
    (hdb : (x == ("__debug__" : Str)) = false := by decide) : PE X (.Call (.Name x p) [] [] pos) (fun σ H Q => sp [] H Q E) := by
  refine ⟨fun pins s σ H Q I h => ?_⟩
  refine wpAny_Call_Name_kw (ld_glob I hg hm ?_ hdb)
  exact PySem.W.callWith_K0 I.kIn hk (wpAny_call (run_fnR F hr hx I .nil h))
theorem spSt_of {K : PySem.W.Frag} {φ : Ph} {F H : Hp} {ds : List Dt} {vs : List V} {P : Dt → Prop} {Q : VK} {E : XK} (wf : Wf R F H) (r : RpL K F ds vs) (hl : ds.length ≤ 100000) (hφ : φ [.tup ds] P fun _ _ _ => False) (c : Ct K R F H P Q) : spSt K φ vs H Q E := by
  refine ⟨by rw [← r.length]; exact Nat.le_trans hl (by decide), fun p hp => ?_⟩
  have ex := wf.made (o := .tup vs) hp
  exact ⟨rfl, upd F p (.tup vs), [.tup ds], P, fun _ _ _ => False, ex.wf.fh, .cons (rp_tup_new (wf.fh.free hp) r) .nil, hφ, fun v F2 H2 d ex2 r2 q => c v F2 H2 d (ex.trans (Ext.of_nil ex.wf ex2)) r2 q, ⟨fun _ _ _ _ _ _ _ z => z.elim, fun _ _ _ z => z.elim⟩⟩
theorem e_callSt {x : Str} {φ : Ph} {j : Nat} {e : Expr} {es : List Expr} {p : Pos} {P : Dt → Prop} (F : FnS X.prog X.w X.K X.mg X.base j x φ) (hr : Room j X.A) (hg : Gl X x) (h : EA X R G (e :: es) fun ds => ds.length ≤ 100000 ∧ φ [.tup ds] P fun _ _ _ => False)
    (hdb : (x == ("__debug__" : Str)) = false := by decide) (he : starEach (e :: es) X.env = (false, eval e X.env) :: starEach es X.env := by rfl) (hpl : (backTo pos (starEach es X.env)).any (·.1) = false := by rfl) : E X R G (.Call (.Name x p) (e :: es) [] pos) P := fun σ F' H Q ty c => by
  obtain ⟨f, a1, a2, a3⟩ := F.ex
  exact tOf.of (pe_callR a3 hr hg a1 a2 passL pa_w hdb he hpl) (h σ F' H _ ty fun vs F1 H1 ds ex r ⟨hl, hφ⟩ => spSt_of ex.wf r hl hφ (c.step ex))
theorem e_callSt0 {x : Str} {φ : Ph} {j : Nat} {p : Pos} {P : Dt → Prop} (F : FnS X.prog X.w X.K X.mg X.base j x φ) (hr : Room j X.A) (hg : Gl X x) (h : φ [.tup []] P fun _ _ _ => False) (hdb : (x == ("__debug__" : Str)) = false := by decide) : E X R G (.Call (.Name x p) [] [] pos) P := fun σ F' H Q ty c => by
  obtain ⟨f, a1, a2, a3⟩ := F.ex
  exact tOf.of (pe_callR0 a3 hr hg a1 a2 passL hdb) (spSt_of ty.wf .nil (by decide) h c)
/-- f(*e): a list or a tuple -/
theorem e_callSt1 {x : Str} {φ : Ph} {j : Nat} {e : Expr} {p p2 : Pos} {P : Dt → Prop} (F : FnS X.prog X.w X.K X.mg X.base j x φ) (hr : Room j X.A) (hg : Gl X x) (h : E X R G e fun d => ∃ ds, (d = .lst ds ∨ d = .tup ds) ∧ ds.length ≤ 100000 ∧ φ [.tup ds] P fun _ _ _ => False)
    (hdb : (x == ("__debug__" : Str)) = false := by decide) (hst : starEach [.Starred e p2] X.env = [(true, eval e X.env)] := by rfl) : E X R G (.Call (.Name x p) [.Starred e p2] [] pos) P := fun σ F' H Q ty c => by
  obtain ⟨f, a1, a2, a3⟩ := F.ex
  refine tOf.of (StX.pe_callS1 a3 hr a2 hg a1 passL pe_w hdb hst) (h σ F' H _ ty fun v F1 H1 d ex r ⟨ds, hd, hl, hφ⟩ => ?_)
  rcases hd with rfl | rfl
  · obtain ⟨a, vs, rfl, h1, rl⟩ := rp_lst.mp r
    exact ⟨a, vs, rfl, .inr (SqL.of (ex.wf.fh _ _ h1)), spSt_of ex.wf rl hl hφ (c.step ex)⟩
  · obtain ⟨a, vs, rfl, h1, rl⟩ := rp_tup.mp r
    exact ⟨a, vs, rfl, .inl (sq_t ex.wf.fh h1), spSt_of ex.wf rl hl hφ (c.step ex)⟩
end
section
variable {P : Program} {w : World} {K : PySem.W.Frag} {mg : Str → Option Value} {base : Heap}
theorem fnS_ok {x qual : Str} {st : Stmt} {f : Addr} {fd : FuncData} {kws : List (Str × V)} {N : List Str} {pv : Str} {k : Nat} {φ : Ph} (F : FD K x qual st [] kws f fd) (Sc : FnScope N [pv] (defScope st))
    (hb : ∀ (kV doc pm : Value) (an : Option Addr) (cdv ct : Value) (rest : List Value), bindArgs (PySem.W.fnOf x qual (defArgs st) (defBody st) (defScope st) .none kV doc pm an cdv ct) ⟨rest, []⟩ = (newTuple rest >>= fun t => pure [(pv, t)]))
    (h : ∀ (X : Cx) (cdv : Value) (A : Around) (outer : List Env) (s : Shared) (H : Hp) (E : XK) (ds : List Dt) (q : Dt → Prop) (xd : XD), X = cxOf (L2.CX P w) P w K mg base N qual (defScope st) f cdv A outer s H E → Room k X.A → φ ds q xd → ds.length = 1 →
      (∀ F, Wf .nil F H → XOk K .nil F H xd E → S X .nil (defBody st) (st0 N ds) { nx := fun _ => q .non, rt := q })) : FnR P w K mg base (L2.CX P w) (k + 1) f (spSt K φ) := by
  obtain ⟨oc, od, dV, kV, doc, pm, an, cdv, ct, osl, rfl, lk, hcd, hD, _⟩ := F.ex
  have hdn : dV = .none := by
    rcases hD with ⟨_, h0⟩ | ⟨h0, _⟩
    · exact h0
    · exact (h0 rfl).elim
  subst hdn
  have z := StX.fn_star (k := k) (P := P) (w := w) (mg := mg) (base := base) (CX := L2.CX P w) (ps := []) (pv := pv) (sp := spD K 1 φ) lk hcd Sc StX.cxUp (fun us rest hl => by
    have e : us = [] := List.length_eq_zero_iff.mp hl
    subst e
    exact hb kV doc pm an cdv ct rest) (fun A outer s H vs Q E hr hh => ?_)
  · refine z.imp fun vs H Q E hs => ⟨[], vs, rfl, rfl, hs.1, fun p hp => hs.2 p hp⟩
  · obtain ⟨hl, F0, ds, q, xd, sf, r, hφ, hq, hx⟩ := hh
    have hS := h _ cdv A outer s H E ds q xd rfl hr hφ (by rw [r.length, hl]) F0 (wf_nil sf) hx
    refine ⟨_, pss_w, hS F0 H _ F0 H _ ⟨wf_nil sf, ?_, by unfold st0; rw [owns0]; exact .nil⟩ ⟨.refl (wf_nil sf), (by unfold st0; rw [owns0]; intro o ho; cases ho), trivial⟩ ⟨fun G σ F1 H1 z _ b => hq .non F1 H1 .non b.ext (rp_non.mpr rfl) z, fun d v F1 H1 z e rd => hq v F1 H1 d e rd z, fun _ _ _ _ z => z.elim, fun _ _ _ _ z => z.elim, fun _ _ _ _ z => z.elim⟩⟩
    unfold st0 L2.start
    rw [r.length]
    exact sls0 _ r
end
end VS
set_option Elab.async false
set_option linter.all false
set_option maxRecDepth 100000
/-! Fractions in lowest terms, in plain Lean. -/
namespace VS
open PySem PySem.Spec L2

def gcdS (n d : Int) : Int := if d < 0 then -(Int.gcd n d : Int) else (Int.gcd n d : Int)
def mkR (n d : Int) : Int × Int := (n.fdiv (gcdS n d), d.fdiv (gcdS n d))
def IsR (r : Int × Int) : Prop := 1 ≤ r.2 ∧ Int.gcd r.1 r.2 = 1
def ratD (r : Int × Int) : Dt := .tup [.int r.1, .int r.2]
theorem gcdS_ne {n d : Int} (hd : d ≠ 0) : gcdS n d ≠ 0 := by
  have h : 0 < Int.gcd n d := Int.gcd_pos_of_ne_zero_right n hd
  unfold gcdS
  split <;> omega
theorem gcdS_abs (n d : Int) : (gcdS n d).natAbs = Int.gcd n d := by
  unfold gcdS
  split <;> omega
theorem mkR_ex {n d : Int} (hd : d ≠ 0) : ∃ k l : Int, n = gcdS n d * k ∧ d = gcdS n d * l ∧ mkR n d = (k, l) := by
  have h1 : gcdS n d ∣ n := by
    have : (Int.gcd n d : Int) ∣ n := Int.gcd_dvd_left n d
    unfold gcdS
    split
    · exact (Int.neg_dvd).mpr this
    · exact this
  have h2 : gcdS n d ∣ d := by
    have : (Int.gcd n d : Int) ∣ d := Int.gcd_dvd_right n d
    unfold gcdS
    split
    · exact (Int.neg_dvd).mpr this
    · exact this
  obtain ⟨k, hk⟩ := h1
  obtain ⟨l, hl⟩ := h2
  refine ⟨k, l, hk, hl, ?_⟩
  have hg := gcdS_ne (n := n) hd
  unfold mkR
  generalize gcdS n d = g at *
  rw [hk, hl, Int.mul_fdiv_cancel_left k hg, Int.mul_fdiv_cancel_left l hg]
theorem mkR_spec {n d : Int} (hd : d ≠ 0) : IsR (mkR n d) ∧ (mkR n d).1 * d = n * (mkR n d).2 := by
  obtain ⟨k, l, hk, hl, e⟩ := mkR_ex (n := n) hd
  rw [e]
  have hg := gcdS_ne (n := n) hd
  have ha := gcdS_abs n d
  have hs : (gcdS n d < 0 ∧ d < 0) ∨ (0 < gcdS n d ∧ 0 < d) := by
    have h : 0 < Int.gcd n d := Int.gcd_pos_of_ne_zero_right n hd
    by_cases q : d < 0
    · left; unfold gcdS; rw [if_pos q]; omega
    · right; unfold gcdS; rw [if_neg q]; omega
  generalize hG : gcdS n d = g at *
  refine ⟨⟨?_, ?_⟩, ?_⟩
  · show 1 ≤ l
    rcases hs with ⟨h1, h2⟩ | ⟨h1, h2⟩
    · have : 0 < l := by
        rcases Int.lt_trichotomy l 0 with h | h | h
        · have := Int.mul_pos_of_neg_of_neg h1 h
          omega
        · rw [h, Int.mul_zero] at hl; omega
        · exact h
      omega
    · have : 0 < l := by
        rcases Int.lt_trichotomy l 0 with h | h | h
        · have := Int.mul_neg_of_pos_of_neg h1 h
          omega
        · rw [h, Int.mul_zero] at hl; omega
        · exact h
      omega
  · show Int.gcd k l = 1
    have e1 : Int.gcd n d = Int.gcd (g * k) (g * l) := by rw [← hk, ← hl]
    rw [Int.gcd_mul_left] at e1
    rw [ha] at e1
    have h : 0 < Int.gcd n d := Int.gcd_pos_of_ne_zero_right n hd
    have e2 : Int.gcd n d * 1 = Int.gcd n d * Int.gcd k l := by rw [Nat.mul_one]; exact e1
    exact (Nat.eq_of_mul_eq_mul_left h e2).symm
  · show k * d = n * l
    have : k * (g * l) = g * k * l := by rw [← Int.mul_assoc, Int.mul_comm k g]
    rw [← hl, ← hk] at this
    exact this
theorem mkR_le1 {n d : Int} (hd : d ≠ 0) : (mkR n d).1.natAbs ≤ n.natAbs := by
  obtain ⟨k, l, hk, hl, e⟩ := mkR_ex (n := n) hd
  rw [e]
  have hg := gcdS_ne (n := n) hd
  have : n.natAbs = (gcdS n d).natAbs * k.natAbs := by rw [← Int.natAbs_mul, ← hk]
  rw [this]
  exact Nat.le_mul_of_pos_left _ (by omega)
theorem mkR_le2 {n d : Int} (hd : d ≠ 0) : (mkR n d).2.natAbs ≤ d.natAbs := by
  obtain ⟨k, l, hk, hl, e⟩ := mkR_ex (n := n) hd
  rw [e]
  have hg := gcdS_ne (n := n) hd
  have : d.natAbs = (gcdS n d).natAbs * l.natAbs := by rw [← Int.natAbs_mul, ← hl]
  rw [this]
  exact Nat.le_mul_of_pos_left _ (by omega)
theorem IsR.ne {r : Int × Int} (h : IsR r) : r.2 ≠ 0 := by have := h.1; omega
theorem dvd_cop {x y z : Int} (h : x ∣ y * z) (g : Int.gcd y x = 1) : x ∣ z := by
  rw [← Int.natAbs_dvd_natAbs] at h ⊢
  rw [Int.natAbs_mul] at h
  have g' : Nat.Coprime x.natAbs y.natAbs := by
    have : Nat.gcd y.natAbs x.natAbs = 1 := g
    rw [Nat.gcd_comm] at this
    exact this
  exact g'.dvd_of_dvd_mul_left h
theorem IsR.uniq {a b : Int × Int} (ha : IsR a) (hb : IsR b) (h : a.1 * b.2 = b.1 * a.2) : a = b := by
  obtain ⟨a1, a2⟩ := a
  obtain ⟨b1, b2⟩ := b
  obtain ⟨p1, p2⟩ := ha
  obtain ⟨q1, q2⟩ := hb
  dsimp only at *
  have d1 : a2 ∣ b2 := by
    have : a2 ∣ a1 * b2 := ⟨b1, by rw [h, Int.mul_comm]⟩
    exact dvd_cop this p2
  have d2 : b2 ∣ a2 := by
    have : b2 ∣ b1 * a2 := ⟨a1, by rw [← h, Int.mul_comm]⟩
    exact dvd_cop this q2
  have e2 : a2 = b2 := Int.dvd_antisymm (by omega) (by omega) d1 d2
  subst e2
  have e1 : a1 = b1 := Int.eq_of_mul_eq_mul_right (by omega) h
  rw [e1]
theorem mkR_self {r : Int × Int} (h : IsR r) : mkR r.1 r.2 = r := by
  obtain ⟨s1, s2⟩ := mkR_spec (n := r.1) h.ne
  exact s1.uniq h s2
theorem mkR_eq {n d : Int} {r : Int × Int} (hd : d ≠ 0) (hr : IsR r) (h : r.1 * d = n * r.2) : mkR n d = r := by
  obtain ⟨s1, s2⟩ := mkR_spec (n := n) hd
  refine s1.uniq hr ?_
  have e : ((mkR n d).1 * r.2) * d = (r.1 * (mkR n d).2) * d := by
    calc ((mkR n d).1 * r.2) * d = ((mkR n d).1 * d) * r.2 := by rw [Int.mul_assoc, Int.mul_comm r.2 d, ← Int.mul_assoc]
      _ = n * (mkR n d).2 * r.2 := by rw [s2]
      _ = (n * r.2) * (mkR n d).2 := by rw [Int.mul_assoc, Int.mul_comm (mkR n d).2 r.2, ← Int.mul_assoc]
      _ = (r.1 * d) * (mkR n d).2 := by rw [h]
      _ = (r.1 * (mkR n d).2) * d := by rw [Int.mul_assoc, Int.mul_comm d, ← Int.mul_assoc]
  exact Int.eq_of_mul_eq_mul_right hd e
theorem gcd_log {n d : Int} {k : Nat} (hd : d ≠ 0) (h : d.natAbs < 2 ^ k) (h0 : 0 < k) (hk : k ≤ 9000) : CDivA n (gcdS n d) ∧ CDivA d (gcdS n d) := by
  have hg := gcdS_ne (n := n) hd
  have ha := gcdS_abs n d
  have hle : Int.gcd n d ≤ d.natAbs := Int.gcd_le_natAbs_right n hd
  have l : (gcdS n d).natAbs.log2 < 9000 := Nat.lt_of_lt_of_le (PySem.Flt.log2_lt_of h0 (by rw [ha]; exact Nat.lt_of_le_of_lt hle h)) hk
  exact ⟨⟨hg, l⟩, ⟨hg, l⟩⟩
/-- sizes -/
theorem sz_mul {a b : Nat} {i j : Int} (ha : i.natAbs < 2 ^ a) (hb : j.natAbs < 2 ^ b) : (i * j).natAbs < 2 ^ (a + b) := wide_lt ha hb
theorem sz_add {a : Nat} {i j : Int} (ha : i.natAbs < 2 ^ a) (hb : j.natAbs < 2 ^ a) : (i + j).natAbs < 2 ^ (a + 1) := by
  rw [Nat.pow_succ]
  omega
theorem sz_sub {a : Nat} {i j : Int} (ha : i.natAbs < 2 ^ a) (hb : j.natAbs < 2 ^ a) : (i - j).natAbs < 2 ^ (a + 1) := by
  rw [Nat.pow_succ]
  omega
theorem sz_neg {a : Nat} {i : Int} (ha : i.natAbs < 2 ^ a) : (-i).natAbs < 2 ^ a := by rw [Int.natAbs_neg]; exact ha
theorem sz_up {a b : Nat} {i : Int} (ha : i.natAbs < 2 ^ a) (h : a ≤ b) : i.natAbs < 2 ^ b := Nat.lt_of_lt_of_le ha (Nat.pow_le_pow_right (by decide) h)
theorem mulOk {a b : Nat} {i j : Int} (ha : i.natAbs < 2 ^ a) (hb : j.natAbs < 2 ^ b) (h : a + b ≤ 900000) : CMulW i j := Sm.mul_ok ha hb h
def addR (t u : Int × Int) : Int × Int := mkR (t.1 * u.2 + u.1 * t.2) (t.2 * u.2)
def sumR (ts : List (Int × Int)) : Int × Int := ts.foldl addR (0, 1)
/-- a fraction below 2 ^ B -/
def SzR (B : Nat) (r : Int × Int) : Prop := r.1.natAbs < 2 ^ B ∧ r.2.natAbs < 2 ^ B
theorem SzR.up {B C : Nat} {r : Int × Int} (h : SzR B r) (hl : B ≤ C) : SzR C r := ⟨sz_up h.1 hl, sz_up h.2 hl⟩
theorem addR_num {A B : Nat} {t u : Int × Int} (ht : SzR A t) (hu : SzR B u) : (t.1 * u.2 + u.1 * t.2).natAbs < 2 ^ (A + B + 1) := by
  have h2 := sz_mul hu.1 ht.2
  rw [Nat.add_comm B A] at h2
  exact sz_add (sz_mul ht.1 hu.2) h2
theorem addR_den {A B : Nat} {t u : Int × Int} (ht : SzR A t) (hu : SzR B u) : (t.2 * u.2).natAbs < 2 ^ (A + B + 1) := sz_up (sz_mul ht.2 hu.2) (by omega)
theorem addR_sz {A B : Nat} {t u : Int × Int} (ht : SzR A t) (hu : SzR B u) (h1 : 1 ≤ t.2) (h2 : 1 ≤ u.2) : SzR (A + B + 1) (addR t u) := by
  have hd : t.2 * u.2 ≠ 0 := Int.mul_ne_zero (by omega) (by omega)
  exact ⟨Nat.lt_of_le_of_lt (mkR_le1 hd) (addR_num ht hu), Nat.lt_of_le_of_lt (mkR_le2 hd) (addR_den ht hu)⟩
theorem addR_is {t u : Int × Int} (h1 : 1 ≤ t.2) (h2 : 1 ≤ u.2) : IsR (addR t u) := (mkR_spec (Int.mul_ne_zero (by omega) (by omega))).1
theorem get_map {α : Type} {f : α → Dt} {ts : List α} {i : Nat} {d : Dt} (h : (ts.map f)[i]? = some d) : ∃ z, ts[i]? = some z ∧ d = f z := by
  rw [List.getElem?_map] at h
  cases e : ts[i]? with
  | none => rw [e] at h; cases h
  | some z => rw [e] at h; exact ⟨z, rfl, (Option.some.inj h).symm⟩
theorem take_succ' {α : Type} {ts : List α} {i : Nat} {z : α} (h : ts[i]? = some z) : ts.take (i + 1) = ts.take i ++ [z] := by rw [List.take_add_one, h]; rfl
def mulR (t u : Int × Int) : Int × Int := mkR (t.1 * u.1) (t.2 * u.2)
def prodR (ts : List (Int × Int)) : Int × Int := ts.foldl mulR (1, 1)
theorem mulR_num {A B : Nat} {t u : Int × Int} (ht : SzR A t) (hu : SzR B u) : (t.1 * u.1).natAbs < 2 ^ (A + B + 1) := sz_up (sz_mul ht.1 hu.1) (by omega)
theorem mulR_den {A B : Nat} {t u : Int × Int} (ht : SzR A t) (hu : SzR B u) : (t.2 * u.2).natAbs < 2 ^ (A + B + 1) := sz_up (sz_mul ht.2 hu.2) (by omega)
theorem mulR_sz {A B : Nat} {t u : Int × Int} (ht : SzR A t) (hu : SzR B u) (h1 : 1 ≤ t.2) (h2 : 1 ≤ u.2) : SzR (A + B + 1) (mulR t u) := by
  have hd : t.2 * u.2 ≠ 0 := Int.mul_ne_zero (by omega) (by omega)
  exact ⟨Nat.lt_of_le_of_lt (mkR_le1 hd) (mulR_num ht hu), Nat.lt_of_le_of_lt (mkR_le2 hd) (mulR_den ht hu)⟩
theorem mulR_is {t u : Int × Int} (h1 : 1 ≤ t.2) (h2 : 1 ≤ u.2) : IsR (mulR t u) := (mkR_spec (Int.mul_ne_zero (by omega) (by omega))).1
/-- the sum with no lowering -/
def ndA (s t : Int × Int) : Int × Int := (s.1 * t.2 + t.1 * s.2, s.2 * t.2)
def ndM (s t : Int × Int) : Int × Int := (s.1 * t.1, s.2 * t.2)
theorem ndA_step {r s t : Int × Int} (hr : 1 ≤ r.2) (ht : 1 ≤ t.2) (h : r.1 * s.2 = s.1 * r.2) : (addR r t).1 * (ndA s t).2 = (ndA s t).1 * (addR r t).2 := by
  have hs := (mkR_spec (n := r.1 * t.2 + t.1 * r.2) (d := r.2 * t.2) (Int.mul_ne_zero (by omega) (by omega))).2
  change (addR r t).1 * (r.2 * t.2) = (r.1 * t.2 + t.1 * r.2) * (addR r t).2 at hs
  show (addR r t).1 * (s.2 * t.2) = (s.1 * t.2 + t.1 * s.2) * (addR r t).2
  generalize addR r t = X at *
  refine Int.eq_of_mul_eq_mul_left (a := r.2) (by omega) ?_
  grind
theorem ndM_step {r s t : Int × Int} (hr : 1 ≤ r.2) (ht : 1 ≤ t.2) (h : r.1 * s.2 = s.1 * r.2) : (mulR r t).1 * (ndM s t).2 = (ndM s t).1 * (mulR r t).2 := by
  have hs := (mkR_spec (n := r.1 * t.1) (d := r.2 * t.2) (Int.mul_ne_zero (by omega) (by omega))).2
  change (mulR r t).1 * (r.2 * t.2) = (r.1 * t.1) * (mulR r t).2 at hs
  show (mulR r t).1 * (s.2 * t.2) = (s.1 * t.1) * (mulR r t).2
  generalize mulR r t = X at *
  refine Int.eq_of_mul_eq_mul_left (a := r.2) (by omega) ?_
  grind
theorem ndA_comm (s x y : Int × Int) : ndA (ndA s x) y = ndA (ndA s y) x := by
  unfold ndA; ext <;> dsimp only <;> grind
theorem ndM_comm (s x y : Int × Int) : ndM (ndM s x) y = ndM (ndM s y) x := by
  unfold ndM; ext <;> dsimp only <;> grind
theorem sum_ex : ∀ (ts : List (Int × Int)) (r s : Int × Int), (∀ t ∈ ts, 1 ≤ t.2) → IsR r → r.1 * s.2 = s.1 * r.2 → IsR (ts.foldl addR r) ∧ (ts.foldl addR r).1 * (ts.foldl ndA s).2 = (ts.foldl ndA s).1 * (ts.foldl addR r).2
  | [], r, s, _, ir, h => ⟨ir, h⟩
  | t :: ts, r, s, ht, ir, h => by
    have h1 := ht t (List.mem_cons_self ..)
    exact sum_ex ts (addR r t) (ndA s t) (fun z hz => ht z (List.mem_cons_of_mem _ hz)) (addR_is ir.1 h1) (ndA_step ir.1 h1 h)
theorem prod_ex : ∀ (ts : List (Int × Int)) (r s : Int × Int), (∀ t ∈ ts, 1 ≤ t.2) → IsR r → r.1 * s.2 = s.1 * r.2 → IsR (ts.foldl mulR r) ∧ (ts.foldl mulR r).1 * (ts.foldl ndM s).2 = (ts.foldl ndM s).1 * (ts.foldl mulR r).2
  | [], r, s, _, ir, h => ⟨ir, h⟩
  | t :: ts, r, s, ht, ir, h => by
    have h1 := ht t (List.mem_cons_self ..)
    exact prod_ex ts (mulR r t) (ndM s t) (fun z hz => ht z (List.mem_cons_of_mem _ hz)) (mulR_is ir.1 h1) (ndM_step ir.1 h1 h)
theorem IsR01 : IsR (0, 1) := ⟨by decide, by decide⟩
theorem IsR11 : IsR (1, 1) := ⟨by decide, by decide⟩
theorem sum_perm {ts us : List (Int × Int)} (p : ts.Perm us) (ht : ∀ t ∈ ts, 1 ≤ t.2) : IsR (sumR ts) ∧ (sumR ts).1 * (us.foldl ndA (0, 1)).2 = (us.foldl ndA (0, 1)).1 * (sumR ts).2 := by
  rw [← p.foldl_eq' (f := ndA) (fun x _ y _ z => ndA_comm z x y)]
  exact sum_ex ts (0, 1) (0, 1) ht IsR01 rfl
theorem prod_perm {ts us : List (Int × Int)} (p : ts.Perm us) (ht : ∀ t ∈ ts, 1 ≤ t.2) : IsR (prodR ts) ∧ (prodR ts).1 * (us.foldl ndM (1, 1)).2 = (us.foldl ndM (1, 1)).1 * (prodR ts).2 := by
  rw [← p.foldl_eq' (f := ndM) (fun x _ y _ z => ndM_comm z x y)]
  exact prod_ex ts (1, 1) (1, 1) ht IsR11 rfl
theorem sz1 (B : Nat) : SzR (B + 1) (1, 1) := ⟨by show 1 < 2 ^ (B + 1); exact Nat.one_lt_two_pow (by omega), by show 1 < 2 ^ (B + 1); exact Nat.one_lt_two_pow (by omega)⟩
theorem sz0 (B : Nat) : SzR (B + 1) (0, 1) := ⟨Nat.pow_pos (by decide), (sz1 B).2⟩
theorem sum_sz : ∀ (ts : List (Int × Int)) (r : Int × Int) (A B : Nat), (∀ t ∈ ts, 1 ≤ t.2 ∧ SzR B t) → 1 ≤ r.2 → SzR A r → SzR (A + (B + 1) * ts.length) (ts.foldl addR r)
  | [], r, A, B, _, _, h => h
  | t :: ts, r, A, B, ht, h1, h => by
    obtain ⟨t1, tz⟩ := ht t (List.mem_cons_self ..)
    have := sum_sz ts (addR r t) (A + B + 1) B (fun z hz => ht z (List.mem_cons_of_mem _ hz)) (addR_is h1 t1).1 (addR_sz h tz h1 t1)
    refine this.up ?_
    rw [List.length_cons, Nat.mul_succ]; omega
theorem prod_sz : ∀ (ts : List (Int × Int)) (r : Int × Int) (A B : Nat), (∀ t ∈ ts, 1 ≤ t.2 ∧ SzR B t) → 1 ≤ r.2 → SzR A r → SzR (A + (B + 1) * ts.length) (ts.foldl mulR r)
  | [], r, A, B, _, _, h => h
  | t :: ts, r, A, B, ht, h1, h => by
    obtain ⟨t1, tz⟩ := ht t (List.mem_cons_self ..)
    have := prod_sz ts (mulR r t) (A + B + 1) B (fun z hz => ht z (List.mem_cons_of_mem _ hz)) (mulR_is h1 t1).1 (mulR_sz h tz h1 t1)
    refine this.up ?_
    rw [List.length_cons, Nat.mul_succ]; omega
theorem sum1 {a : Int × Int} (h : IsR a) : sumR [a] = a := by
  show mkR (0 * a.2 + a.1 * 1) (1 * a.2) = a
  rw [Int.zero_mul, Int.zero_add, Int.mul_one, Int.one_mul, mkR_self h]
theorem prod1 {a : Int × Int} (h : IsR a) : prodR [a] = a := by
  show mkR (1 * a.1) (1 * a.2) = a
  rw [Int.one_mul, Int.one_mul, mkR_self h]
theorem ok_rat (r : Int × Int) : okD (ratD r) = true := ok_intsT [r.1, r.2]
theorem eqD_rat (a b : Int × Int) : eqD (ratD a) (ratD b) = decide (a = b) := by
  have h := eqD_intsT [a.1, a.2] [b.1, b.2]
  have e : ([a.1, a.2] = [b.1, b.2]) ↔ a = b := by
    constructor
    · intro h
      injection h with h1 h2
      injection h2 with h2 _
      exact Prod.ext h1 h2
    · rintro rfl; rfl
  rw [decide_eq_decide.mpr e] at h
  exact h
theorem eqD_rat0 (a : Int × Int) : eqD (ratD a) (ratD a) = true := by rw [eqD_rat]; simp
def ph_gcd : Ph := fun ds q _ => ∃ a b, ds = [.int a, .int b] ∧ q (.int (Int.gcd a b : Nat))
theorem u_gcd {a b : Int} {q : Dt → Prop} {x : XD} (_ : True) (p : q (.int (Int.gcd a b : Nat))) : ph_gcd [.int a, .int b] q x := ⟨a, b, rfl, p⟩
def ph_ratio : Ph := fun ds q _ => ∃ n d : Int, ds = [.int n, .int d] ∧ (d ≠ 0 ∧ d.natAbs < 2 ^ 8999) ∧ q (ratD (mkR n d))
theorem u_ratio {n d : Int} {q : Dt → Prop} {x : XD} (h : d ≠ 0 ∧ d.natAbs < 2 ^ 8999) (p : q (ratD (mkR n d))) : ph_ratio [.int n, .int d] q x := ⟨n, d, rfl, h, p⟩
end VS
set_option Elab.async false
set_option linter.all false
set_option maxRecDepth 100000
set_option maxHeartbeats 2000000
/-! own error classes: super().__init__(text) in their __init__, raise, try .. except .. as e -/
namespace VS
open PySem PySem.Spec L2

/-! ### the __init__ -/
/-- what K says of an own error class and its __init__ -/
structure IniD (P : Program) (K : PySem.W.Frag) (C fI : Addr) (qual : Str) (params : Arguments) (body : List Stmt) (scope : Scope) (fd : FuncData) : Prop where
  oc : OexC K C
  iC : PySem.W.findIn K (.ref C) "__init__" = some (some (.ref fI))
  tI : PySem.W.typeIn K (.ref fI) = some (.type "function")
  fn : ∃ (oc : Value) (od : Option Addr) (kV doc pm : Value) (an : Option Addr) (ct : Value) (osl : Array (Option Value)) (cda cc : Addr),
    fd = PySem.W.ksFn "__init__" qual params body scope .none kV doc pm an (.ref cda) ct cc ∧ K.lookup fI = some ⟨oc, od, .func fd, osl⟩ ∧ PySem.W.codeIn K (.ref cda) qual = true ∧
    (∃ ccl cdd vs ccs file tf, K.lookup cda = some ⟨ccl, cdd, .fields vs, ccs⟩ ∧ vs[2]? = some (.str file tf) ∧ ((P.main.file : Str) == file) = true) ∧ ∃ cl cld csl, K.lookup cc = some ⟨cl, cld, .cell (some (.ref C)), csl⟩
  cD : ∃ cd, PySem.W.clsIn K C = some cd
  sub : PySem.W.mroIn K C (.ref C) = some true
  any : PySem.W.nsIn K cStatics "thirdparty.any" = some none
  si : PySem.W.ks_superIn K C C "__init__" = some (some (.builtin "ValueError.__init__"))
  sV : PySem.W.subIn K (.ref C) (.type "ValueError") = some true
/-- self, value: the one field f is laid -/
def spI1 (C : Addr) (f : Str) : Sp := fun vs H Q _ => ∃ a y, vs = [.ref a, y] ∧ H a = some (exo a C none) ∧ ∀ dx, H dx = none → dx ≠ a → Q .non (upd (upd H dx (exd dx [(f, y)])) a (exo a C (some dx)))
section
variable {P : Program} {w : World} {K : PySem.W.Frag} {mg : Str → Option Value} {base : Heap}
theorem init_run {CX : CXT} {C fI : Addr} {qual : Str} {params : Arguments} {scope : Scope} {fd : FuncData} {ps N : List Str} {k : Nat} {sp : Sp} {rest : List Stmt} {txt : Str} {p0 p1 p2 p3 p4 p5 : Pos} {j0 : Nat} {ar : Arg}
    {body : List Stmt} (hbody : body = .Expr (.Call (.Attribute (.Call (.Name "super" p0) [] [] p1) "__init__" p2) [.Constant (.str txt) j0 p3] [] p4) p5 :: rest)
    (D : IniD P K C fI qual params body scope fd) (hsup : mg "super" = none) (htop : (P.main.scope.names.lookup ("super" : Str)).isSome = false)
    (Sc : NdefX.NScope N ps ["__class__"] scope) (hks : scope.names.lookup ("super" : Str) = some .globalImplicit) (har : (params.posonlyargs ++ params.args).head? = some ar) (hps : ps.head? = some ar.arg)
    (hev : ∀ env : Env, env.scope = scope → ∃ pl : Sem Bool, eval (.Call (.Attribute (.Call (.Name "super" p0) [] [] p1) "__init__" p2) [.Constant (.str txt) j0 p3] [] p4) env = (do
      let ov ← attributeBase (.Call (.Name "super" p0) [] [] p1) "__init__" env (eval (.Call (.Name "super" p0) [] [] p1) env)
      standAt p2.atName
      let (f, first) ← holding [ov] (getMethod ov "__init__" pl)
      callWith p4 f first (backTo p4 (starEach [.Constant (.str txt) j0 p3] env)) []))
    (hsw : ∀ env : Env, env.scope = scope → swapsWith (.Call (.Attribute (.Call (.Name "super" p0) [] [] p1) "__init__" p2) [.Constant (.str txt) j0 p3] [] p4) none p5.line env = pure false)
    (len : ∀ vs H Q E, sp vs H Q E → vs.length = ps.length)
    (hself : ∀ vs H Q E, sp vs H Q E → ∃ a r, vs = .ref a :: r ∧ H a = some (exo a C none))
    (hrest : ∀ (X : Cx) (H : Hp) (vs : List V) (Q : VK) (E : XK), X.prog = P → X.w = w → X.K = K → X.N = N → X.env.scope = scope → sp vs H Q E → ∃ t, PSs X rest t ∧ t { nx := fun _ H' => Q .non H', rt := Q } (NdefX.startF N vs [none]) H) :
    FnOk P w K mg base CX (k + 1) fI fd ps sp := by
  subst hbody
  refine ⟨len, fun A outer s H args us vs Q E hr e0 hb r hsp => ?_⟩
  obtain ⟨oc, od, kV, doc, pm, an, ct, osl, cda, cc, rfl, lk, hcd, ⟨ccl, cdd, cvs, ccs, file, tf, lcd, hvs, hfile⟩, cl, cld, csl, lcc⟩ := D.fn
  have kpB : ∀ b o, base.get? b = some o → s.heap.get? b = some o := fun b o e => (e0.bs b o e).1
  have KX : K.In s.heap := e0.mod.kin.keeps kpB
  have lim : s.heap.NoLimit := e0.mod.nolimit.keeps kpB
  have hl := len _ _ _ _ hsp
  obtain ⟨a, vr, hvs1, ha⟩ := hself _ _ _ _ hsp
  have hlu : us.length = ps.length := by rw [← r.length]; exact hl
  refine PySem.ks_codeAny_call_defAt (binds := ps.zip us) (body := _) hr.depth (KX _ _ lk) rfl lim (PySem.W.codeRec_of KX hcd) rfl hb Sc.nocell (fun x hx => Sc.par _ (List.of_mem_zip hx).1) (fun h₁ hns kp => ?_) Sc.co Sc.gen Sc.kind
  have hH : H cc = none := (e0.bs _ _ (e0.mod.kin _ _ lcc)).2
  have cellC : s.heap.IsCell cc (some (.ref C)) := ⟨_, KX _ _ lcc, rfl⟩
  have CA : NdefX.CellsAt [("__class__", cc)] ["__class__"] [none] s.heap H := by
    have key : ∀ y c, ([("__class__", cc)] : List (Str × Addr)).lookup y = some c → y = "__class__" ∧ c = cc := fun y c e => by
      rw [List.lookup_cons] at e
      split at e
      · rename_i h
        exact ⟨eq_of_beq h, (Option.some.inj e).symm⟩
      · cases e
    refine ⟨rfl, fun y c e => ?_, fun x y c e1 e2 => (key _ _ e1).1.trans (key _ _ e2).1.symm, fun i y e => ?_⟩
    · obtain ⟨_, rfl⟩ := key y c e
      exact ⟨hH, _, cellC⟩
    · cases i with
      | zero =>
        cases e
        exact ⟨cc, rfl, fun v z => by cases z⟩
      | succ i => cases e
  have I0 := NdefX.inv_startN (CX := CX) (F := ⟨"__init__", qual, params, [], scope, [("__class__", cc)], cda⟩) (f := fI) (tk := s.toks + (ps.zip us).length) (E := E) Sc hr.hd e0 hl r CA hns kp
  obtain ⟨t, ht, hq⟩ := hrest (NdefX.ncx CX P w K mg base N ⟨"__init__", qual, params, [], scope, [("__class__", cc)], cda⟩ fI A outer s H E) H vs Q E rfl rfl rfl rfl rfl hsp
  obtain ⟨t1, ho⟩ := exo_at I0.hok ha
  have KX1 : K.In h₁ := KX.keeps kp
  obtain ⟨cdC, hcC⟩ := D.cD
  obtain ⟨oC, hC1, hC2⟩ : ∃ oC, h₁.get? C = some oC ∧ oC.data = .cls cdC := by
    have hD := hcC
    unfold PySem.W.clsIn at hD
    split at hD
    · rename_i c d cd' sl ho
      cases hD
      exact ⟨_, KX1 _ _ ho, rfl⟩
    · cases hD
  have IA : PySem.W.InstAt h₁ a { cls := .ref C, dict := none, data := .fields #[.ref t1, .none, .none, .none, .bool false, .none] } C none := ⟨ho, rfl, rfl, trivial⟩
  have hmself : (ps.zip us).reverse.lookup ar.arg = some (.ref a) := by
    subst hvs1
    cases r with
    | @cons _ u0 _ ur ra rw' =>
      obtain rfl : u0 = Value.ref a := ra
      obtain ⟨p0', pr, rfl⟩ : ∃ p0' pr, ps = p0' :: pr := by
        cases ps with
        | nil => cases hps
        | cons x y => exact ⟨x, y, rfl⟩
      have e : p0' = ar.arg := Option.some.inj hps
      subst e
      have ndP : (ar.arg :: pr).Nodup := by
        have q := Sc.nd.sublist (List.take_sublist ((ar.arg :: pr).length + 1) N)
        have e2 : N.take ((ar.arg :: pr).length + 1) = (ar.arg :: pr) ++ ([("__class__" : Str)] : List Str) := Sc.pre
        rw [e2] at q
        exact (List.nodup_append.mp q).1
      exact NdefX.zip_look (i := 0) ndP rfl rfl
  obtain ⟨pl, hpl⟩ := hev (PySem.W.ksEnv qual scope s.heap.objs.size fI (.ref cda) cc) rfl
  refine PySem.ks_wpAt_execs_cons (PySem.ks_wpAt_Expr_any (PySem.ks_wpAt_MethodCall (pl := pl) ?_ hpl) (by show (scope.kind == .module && _) = false; rw [Sc.kind]; rfl) (hsw _ rfl))
  have hkc : scope.names.lookup ("__class__" : Str) = some .free := Sc.frk _ (List.mem_singleton.mpr rfl)
  have hka : scope.names.lookup ar.arg = some .local := Sc.par _ (List.mem_of_head? hps)
  refine PySem.ks_wpAt_super_base hks hkc (by decide) rfl (KX1 _ _ lk) rfl har rfl (KX1 _ _ lcd) rfl hvs hfile htop ?_
  obtain ⟨mb, hb1, hb2⟩ := e0.mod.blt
  have kpB1 : ∀ b o, base.get? b = some o → h₁.get? b = some o := fun b o e => kp b o (kpB b o e)
  refine PySem.W.ks_loadName_global Sc.kind hks (Calls.loadGlobal_builtin (e0.mod.glob.keeps kpB1) hsup (hb1.keeps kpB1) ((hb2 _ (by decide)).trans PyProof.Rows.Boot.«super») ⟨rfl, ?_⟩)
  refine wpAny_loadName_free Sc.kind hkc rfl (cellC.keeps kp) ?_
  refine wpAny_loadName_local Sc.kind hka hns hmself ?_
  refine PySem.ks_wpAny_isType_cls hC1 hC2 ⟨rfl, ?_⟩
  refine PySem.ks_wpAny_call_super hC1 hC2 ho rfl (fun c e => by cases e) (PySem.W.looks_mroIn KX1 D.sub) (fun h2 hso kp2 => ?_)
  have KX2 : K.In h2 := KX1.keeps kp2
  have ho2 := kp2 _ _ ho
  have hne : a ≠ C := fun z => by
    rw [z, hC1] at ho
    cases ho
    cases hC2
  refine PySem.W.kxs_getMethod PySem.W.kxs_ValueError hso (PySem.W.looks_opaque KX2 D.any) (l₀ := cdC.mro) ((PySem.W.looks_clsIn KX2 hcC).andThen .now) rfl KX2 (by
    have q := D.si
    unfold PySem.W.ks_superIn at q
    rw [hcC] at q
    exact q) ((show PySem.W.InstAt h2 a { cls := .ref C, dict := none, data := .fields #[.ref t1, .none, .none, .none, .bool false, .none] } C none from ⟨ho2, rfl, rfl, trivial⟩).type.andThen (PySem.W.looks_subIn KX2 D.sV)) hne (by decide) ?_
  have sz12 : h₁.objs.size < h2.objs.size := Heap.lt_size hso
  have szL : s.heap.objs.size < h₁.objs.size := by
    obtain ⟨oL, _, _, e, _⟩ := hns
    exact Heap.lt_size e
  have kp3 : ∀ b o, h₁.get? b = some o → (h2.push (PySem.W.kxs_mw "ValueError.__init__" a)).get? b = some o := fun b o e => Heap.get?_push_of_some _ (kp2 b o e)
  have ho3 := kp3 _ _ ho
  have eu : upd H a (exo a C none) = H := by
    funext b
    by_cases hb : b = a
    · rw [hb, upd_same, ha]
    · rw [upd_ne hb]
  have I3 := I0.write (t' := s.toks + (ps.zip us).length + 1) (x := a) (e := a) (o := exo a C none) (h' := h2.push (PySem.W.kxs_mw "ValueError.__init__" a)) (by rw [ha]; exact True.intro) (.inl rfl) (fun b u _ e => kp3 b u e) ⟨_, ho3⟩ (exo_ok ho3)
  rw [eu] at I3
  have I4 := I3.pins_of (pins' := [(h2.objs.size, PySem.W.kxs_mw "ValueError.__init__" a)]) (fun p hp => by
    rw [List.mem_singleton] at hp
    subst hp
    refine ⟨Heap.get?_push_size _ rfl, I0.hok.fresh (Nat.le_of_lt sz12), ?_, ?_, fun v => by intro z; cases z⟩
    · intro z
      have z : h2.objs.size = s.heap.objs.size := z
      omega
    · intro z
      obtain ⟨_, o, ho', _⟩ := e0.funs.mem z
      have q : h2.objs.size < s.heap.objs.size := Heap.lt_size ho'
      omega)
  refine PySem.W.kxs_callWith (i := "ValueError.__init__") (x := a) rfl (PySem.Calls.evalArgs_plain (thn ((pa_cons pe_str pa_nil).run p4 [(h2.objs.size, PySem.W.kxs_mw "ValueError.__init__" a)] _ (NdefX.startF N vs [none]) H (fun vs' H1 => H1 = H ∧ vs'.length ≤ 10) I4 ⟨rfl, Nat.le_of_ble_eq_true rfl⟩) fun us' s1 hap => ?_))
  obtain ⟨vs', H1, I5, rv, hH1, hlen⟩ := hap
  subst hH1
  have hu := (I5.pin _ (List.mem_append_right _ (List.mem_singleton.mpr rfl))).1
  refine ⟨hu, ?_⟩
  obtain ⟨t5, ho5⟩ := exo_at I5.hok ha
  obtain ⟨nm, q0, N0, bs, bm, sn, sub, ab, col, dd, k0, k1, k2, k3, k5, lC, hbm⟩ := D.oc.cls
  have hCC := I5.kIn _ _ lC
  have hlus : us'.length ≤ sizeLine := by rw [← rv.length, sizeLine_eq]; omega
  obtain ⟨hp, g5, d5, tk5, os5⟩ := s1
  refine wpAny_call (codeAny_of_tree ?_)
  show wpAny _ _ (callAny (.ref h2.objs.size) ⟨[] ++ us', []⟩) _ _ _
  simp only [callAny, List.nil_append]
  refine wpAny_bind (wpAny_load hu ?_)
  simp only [PySem.W.kxs_mw, show (Value.type "method-wrapper" == Value.type "method" || Value.type "method-wrapper" == Value.type "builtin_function_or_method" || Value.type "method-wrapper" == Value.type "method-wrapper") = true by decide, if_true]
  refine PySem.W.KFB.if_so (by decide) ?_
  refine wpAny_bind (PySem.W.check_bound_init F.excBase_ValueError.toExcCallFacts hCC ho5 rfl ?_)
  refine wpAny_bind (wpAny_pure (wpAny_pure ?_))
  refine ⟨plainId_quiet F.excBase_ValueError.init.plain _, codeAny_builtin F.excBase_ValueError.initEntry ?_⟩
  refine PySem.W.exc_init_tree (cls := .ref C) (t0 := t5) (dv := none) (c2 := .none) (c3 := .none) (b4 := .bool false) ho5 hlus (fun h' k6 e6 _ => ?_)
  have J := I5.write (t' := tk5) (x := a) (e := a) (o := exo a C none) (h' := h') (by rw [ha]; exact True.intro) (.inl rfl) (fun b u hb e => k6 b u hb e) ⟨_, e6⟩ (exo_ok e6)
  rw [eu] at J
  refine wpAt_of_wpAny (wpAny_mono (ht.run _ _ _ _ _ J hq) (fun fl s' hs => ?_) fun e s' hs => hs)
  cases fl with
  | ret u =>
    obtain ⟨v, σ', H', J', rv', q'⟩ := hs
    exact ⟨v, H', J'.os, J'.bare, J'.base, J'.hok, rv', q'⟩
  | next =>
    obtain ⟨σ', H', J', q'⟩ := hs
    exact ⟨V.non, H', J'.os, J'.bare, J'.base, J'.hok, rfl, q'⟩
  | brk =>
    obtain ⟨_, _, _, q'⟩ := hs
    exact False.elim q'
  | cont =>
    obtain ⟨_, _, _, q'⟩ := hs
    exact False.elim q'
/-- __init__(self, v): super().__init__(text); self.f = v -/
theorem init_ok1 {CX : CXT} {C fI : Addr} {qual : Str} {params : Arguments} {scope : Scope} {fd : FuncData} {k : Nat} {f v : Str} {txt : Str} {p0 p1 p2 p3 p4 p5 r0 r1 r2 r3 : Pos} {j0 : Nat} {ar : Arg}
    {body : List Stmt} (hbody : body = [.Expr (.Call (.Attribute (.Call (.Name "super" p0) [] [] p1) "__init__" p2) [.Constant (.str txt) j0 p3] [] p4) p5, .Assign [.Attribute (.Name "self" r0) f r1] (.Name v r2) r3])
    (D : IniD P K C fI qual params body scope fd) (hf : PySem.W.findIn K (.ref C) f = some none) (hsup : mg "super" = none) (htop : (P.main.scope.names.lookup ("super" : Str)).isSome = false)
    (Sc : NdefX.NScope ["self", v, "__class__"] ["self", v] ["__class__"] scope) (hks : scope.names.lookup ("super" : Str) = some .globalImplicit) (har : (params.posonlyargs ++ params.args).head? = some ar) (hps : ar.arg = "self")
    (hev : ∀ env : Env, env.scope = scope → ∃ pl : Sem Bool, eval (.Call (.Attribute (.Call (.Name "super" p0) [] [] p1) "__init__" p2) [.Constant (.str txt) j0 p3] [] p4) env = (do
      let ov ← attributeBase (.Call (.Name "super" p0) [] [] p1) "__init__" env (eval (.Call (.Name "super" p0) [] [] p1) env)
      standAt p2.atName
      let (f, first) ← holding [ov] (getMethod ov "__init__" pl)
      callWith p4 f first (backTo p4 (starEach [.Constant (.str txt) j0 p3] env)) []))
    (hsw : ∀ env : Env, env.scope = scope → swapsWith (.Call (.Attribute (.Call (.Name "super" p0) [] [] p1) "__init__" p2) [.Constant (.str txt) j0 p3] [] p4) none p5.line env = pure false)
    (hsw2 : ∀ env : Env, env.scope = scope → swapsWith (.Name v r2) (some (.Attribute (.Name "self" r0) f r1)) r3.line env = pure false)
    (hdv : (v == ("__debug__" : Str)) = false) (hcv : (v == ("__classdict__" : Str)) = false) : FnOk P w K mg base CX (k + 1) fI fd ["self", v] (spI1 C f) := by
  refine init_run hbody D hsup htop Sc hks har (by rw [hps]; rfl) hev hsw (fun vs H Q E ⟨a, y, e, _⟩ => by rw [e]; rfl) (fun vs H Q E ⟨a, y, e, h, _⟩ => ⟨a, [y], e, h⟩) fun X H vs Q E e1 e2 e3 e4 e5 ⟨a, y, ev, ha, hq⟩ => ?_
  subst ev
  refine ⟨_, pss_one (ps_ost (pe_var (i := 0) (x := "self") (by rw [e4]; rfl) (.inl (by rw [e5]; exact Sc.par _ (by simp)))) (pe_var (i := 1) (x := v) (by rw [e4]; rfl) (.inl (by rw [e5]; exact Sc.par _ (by simp))) hdv hcv) (hsw2 _ e5)), ?_⟩
  refine ⟨y, rfl, .ref a, rfl, a, C, rfl, by rw [e3]; exact D.oc, by rw [e3]; exact hf, .inl ⟨ha, fun dx hd hn => hq dx hd hn⟩⟩
end
end VS
set_option Elab.async false
set_option linter.all false
set_option maxRecDepth 100000
set_option maxHeartbeats 2000000
namespace VS
open PySem PySem.Spec L2

/-! ### a region with a word on errors -/
/-- how the error's own fields lie -/
def XDat (K : PySem.W.Frag) (R : Reg) (H0 F H : Hp) (ns : List Str) (ds : List Dt) (d : Option Addr) : Prop :=
  (∃ dx vs, d = some dx ∧ H0 dx = none ∧ ¬ R.M dx ∧ H dx = some (.xd (ns.zip vs)) ∧ ns.length = vs.length ∧ RpL K F ds vs) ∨ (d = none ∧ ns = [] ∧ ds = [])
/-- from the base F0, H0 on: an error that xq allows at the slots G is taken -/
def XKOk (K : PySem.W.Frag) (R : Reg) (F0 H0 : Hp) (xq : List Sl → XD) (W : WX) : Prop :=
  ∀ G σ F H C ns ds d, xq G C ns ds → Ty K R G σ F H → Ext R F0 H0 F H → (∀ o ∈ owns G σ, H0 o = none) → XDat K R H0 F H ns ds d → W (.ref C) d σ H
def Reg.wX (R : Reg) (K : PySem.W.Frag) (xq : List Sl → XD) (W : WX) : Reg := { R with
  Z := fun F0 H0 => XKOk K R F0 H0 xq W
  zs := fun F H F' ff fr z G σ F1 H1 C ns ds d hx ty ex fo dat => z G σ F1 H1 C ns ds d hx ty ⟨ex.wf, ff.trans ex.ff, ex.hh, fun a h n => ex.fr a h (fr a h n)⟩ fo dat }
section
variable {R : Reg} {K : PySem.W.Frag} {xq : List Sl → XD} {W : WX} {F H F' H' : Hp} {G : List Sl} {σ : St}
theorem Wf.un (w : Wf (R.wX K xq W) F H) : Wf R F H := ⟨w.fh, w.off, w.oc, w.b⟩
theorem Wf.wX (w : Wf R F H) : Wf (R.wX K xq W) F H := ⟨w.fh, w.off, w.oc, w.b⟩
theorem Ext.un (e : Ext (R.wX K xq W) F H F' H') : Ext R F H F' H' := ⟨e.wf.un, e.ff, e.hh, e.fr⟩
theorem Ext.wX (e : Ext R F H F' H') : Ext (R.wX K xq W) F H F' H' := ⟨e.wf.wX, e.ff, e.hh, e.fr⟩
theorem SlsOk.un {K' : PySem.W.Frag} {vs : List (Option V)} (h : SlsOk K' (R.wX K xq W) F H G vs) : SlsOk K' R F H G vs := by
  induction h with
  | nil => exact .nil
  | cons h _ ih => exact .cons (by rename_i g v _ _; cases g <;> exact h) ih
theorem SlsOk.wX {K' : PySem.W.Frag} {vs : List (Option V)} (h : SlsOk K' R F H G vs) : SlsOk K' (R.wX K xq W) F H G vs := by
  induction h with
  | nil => exact .nil
  | cons h _ ih => exact .cons (by rename_i g v _ _; cases g <;> exact h) ih
theorem Ty.un {K' : PySem.W.Frag} (t : Ty K' (R.wX K xq W) G σ F H) : Ty K' R G σ F H := ⟨t.wf.un, t.sl.un, t.nd⟩
theorem Ty.wX {K' : PySem.W.Frag} (t : Ty K' R G σ F H) : Ty K' (R.wX K xq W) G σ F H := ⟨t.wf.wX, t.sl.wX, t.nd⟩
end

/-! ### a def that may raise -/
section
variable {P : Program} {w : World} {K : PySem.W.Frag} {mg : Str → Option Value} {base : Heap}
theorem fn_okE {x qual : Str} {st : Stmt} {f : Addr} {fd : FuncData} {dvs : List V} {kws : List (Str × V)} {N ps : List Str} {k n : Nat} {φ : Ph} (F : FD K x qual st dvs kws f fd) (Sc : FnScope N ps (defScope st)) (hn : n = ps.length)
    (h : ∀ (X : Cx) (cdv : Value) (A : Around) (outer : List Env) (s : Shared) (H : Hp) (E : XK) (ds : List Dt) (q : Dt → Prop) (xd : XD), X = cxOf (L2.CX P w) P w K mg base N qual (defScope st) f cdv A outer s H E → Room k X.A → φ ds q xd → ds.length = n →
      Takes X (fun cls d _ H => E cls d H) → S X (Reg.nil.wX K (fun _ => xd) (fun cls d _ H => E cls d H)) (defBody st) (st0 N ds) { nx := fun _ => q .non, rt := q }) : FnOk P w K mg base (L2.CX P w) (k + 1) f fd ps (spD K n φ) := by
  refine FunD.ok F Sc (fun vs H Q E hh => by rw [hh.1, hn]) fun cdv A outer s H vs Q E hr hh => ?_
  obtain ⟨hl, F0, ds, q, xd, sf, r, hφ, hq, hx⟩ := hh
  have hS := h _ cdv A outer s H E ds q xd rfl hr hφ (by rw [r.length, hl]) (takes_of rfl rfl rfl rfl)
  refine ⟨_, pss_w, hS F0 H _ F0 H _ ⟨(wf_nil sf).wX, ?_, by unfold st0; rw [owns0]; exact .nil⟩ ⟨.refl (wf_nil sf).wX, (by unfold st0; rw [owns0]; intro o ho; cases ho), ?_⟩ ⟨fun G σ F1 H1 z _ b => hq .non F1 H1 .non b.ext.un (rp_non.mpr rfl) z, fun d v F1 H1 z e rd => hq v F1 H1 d e.un rd z, fun _ _ _ _ z => z.elim, fun _ _ _ _ z => z.elim, fun _ _ _ _ z => z.elim⟩⟩
  · unfold st0 L2.start
    rw [r.length]
    exact sls0 _ r
  · intro G σ F1 H1 C ns ds' d hxd ty ex fo dat
    rcases dat with ⟨dx, vs', rfl, e0, _, e1, e2, e3⟩ | ⟨rfl, rfl, rfl⟩
    · exact hx.1 C ns ds' dx vs' F1 H1 hxd ex e1 e2 e3 e0
    · exact hx.2 C F1 H1 hxd ex
end

/-! ### raise -/
/-- an own error class of one field -/
structure Er (P : Program) (w : World) (K : PySem.W.Frag) (mg : Str → Option Value) (base : Heap) (k : Nat) (x f v : Str) (C : Addr) : Prop where
  gl : mg x = some (.ref C)
  oc : OexC K C
  ini : ∃ fI fd, PySem.W.findIn K (.ref C) "__init__" = some (some (.ref fI)) ∧ PySem.W.typeIn K (.ref fI) = some (.type "function") ∧ Binds K fd ["self", v] [] ∧ FnOk P w K mg base (L2.CX P w) k fI fd ["self", v] (spI1 C f)
theorem Er.mono {P : Program} {w : World} {K : PySem.W.Frag} {mg : Str → Option Value} {base : Heap} {j k : Nat} {x f v : Str} {C : Addr} (E : Er P w K mg base j x f v C) (h : j ≤ k) : Er P w K mg base k x f v C := by
  obtain ⟨a, b, fI, fd, c, d, e, g⟩ := E
  exact ⟨a, b, fI, fd, c, d, e, g.mono h⟩
section
variable {X : Cx} {R : Reg} {G : List Sl} {pos : Pos} {k : Kt} {xq : List Sl → XD} {W : WX}
theorem mk_heap {H1 : Hp} {a dx C : Addr} {y : V} {f : Str} (ha : H1 a = none) (hd : dx ≠ a) : upd (del (upd (upd (upd H1 a (exo a C none)) dx (exd dx [(f, y)])) a (exo a C (some dx))) a) dx (.xd [(f, y)]) = upd H1 dx (.xd [(f, y)]) := by
  funext b
  by_cases h1 : b = dx
  · rw [h1, upd_same, upd_same]
  · rw [upd_ne h1, upd_ne h1]
    by_cases h2 : b = a
    · rw [h2, del_same, ha]
    · rw [del_ne h2, upd_ne h2, upd_ne h1, upd_ne h2]
theorem s_raise1 {j : Nat} {x f v : Str} {C : Addr} {e : Expr} {p pos' : Pos} (tk : Takes X W) (Er1 : Er X.prog X.w X.K X.mg X.base j x f v C) (hr : Room (j + 1) X.A) (hg : Gl X x) (h : EA X (R.wX X.K xq W) G [e] fun ds => ds.length = 1 ∧ xq G C [f] ds)
    (hc : X.calm = true := by rfl) (hdb : (x == ("__debug__" : Str)) = false := by decide) (he : starEach [e] X.env = (false, eval e X.env) :: starEach [] X.env := by rfl) (hpl : (backTo pos (starEach [] X.env)).any (·.1) = false := by rfl) :
    S1 X (R.wX X.K xq W) (.Raise (some (.Call (.Name x p) [e] [] pos)) none pos') G k := fun F0 H0 σ F H D ty b c => by
  obtain ⟨fI, fd, a1, a2, a3, a4⟩ := Er1.ini
  refine s1Of.of (ps_raise hc tk (pmk_oex (dvs := []) Er1.oc a1 a2 a4 hr a3 .nil passL hg Er1.gl pa_w hdb he hpl)) ?_
  refine h σ F H _ ty fun vs F1 H1 ds ex r ⟨hl, hx⟩ => ?_
  have hl2 : vs.length = 1 := by rw [← r.length]; exact hl
  obtain ⟨y, rfl⟩ : ∃ y, vs = [y] := by
    match vs, hl2 with
    | [y], _ => exact ⟨y, rfl⟩
  refine ⟨by rw [hl2]; decide, fun a ha => ⟨a, y, rfl, upd_same .., fun dx hd hne => ⟨rfl, dx, [(f, y)], upd_same .., ?_, ?_, ?_⟩⟩⟩
  · rw [upd_ne hne, upd_same]
  · have q : upd H1 a (exo a C none) dx = none := hd
    rw [upd_ne hne] at q
    exact q
  · have q : H1 dx = none := by
      have q : upd H1 a (exo a C none) dx = none := hd
      rw [upd_ne hne] at q
      exact q
    rw [mk_heap ha hne]
    have ex2 := ex.trans (ex.wf.own (o := .xd [(f, y)]) q)
    exact b.z G σ F1 _ C [f] ds (some dx) hx (ty.ext ex2).un (b.ext.trans ex2).un b.fresh (.inl ⟨dx, [y], rfl, (b.ext.trans ex).free q, ex.wf.new q, upd_same .., rfl, r⟩)
/-! ### expressions that may raise -/
def EX (X : Cx) (R : Reg) (G : List Sl) (W : WX) (e : Expr) (P : Dt → Prop) (xd : XD) : Prop := ∀ σ F H Q, Ty X.K R G σ F H → Ct X.K R F H P Q →
  (∀ F' H' C ns ds d, xd C ns ds → Ext R F H F' H' → XDat X.K R H F' H' ns ds d → W (.ref C) d σ H') → tOf X e σ H Q
theorem ex_of {e : Expr} {P : Dt → Prop} {xd : XD} (h : E X R G e P) : EX X R G W e P xd := fun σ F H Q ty c _ => h σ F H Q ty c
theorem ex_call {x : Str} {ps : List Str} {φ : Ph} {n j : Nat} {e : Expr} {es : List Expr} {p : Pos} {P : Dt → Prop} {xd : XD} (tk : Takes X W) (F : Fn X.prog X.w X.K X.mg X.base j x ps [] (spD X.K n φ)) (hr : Room j X.A) (hg : Gl X x)
    (h : EA X R G (e :: es) fun ds => ds.length = n ∧ φ ds P xd)
    (hdb : (x == ("__debug__" : Str)) = false := by decide) (he : starEach (e :: es) X.env = (false, eval e X.env) :: starEach es X.env := by rfl) (hpl : (backTo pos (starEach es X.env)).any (·.1) = false := by rfl) : EX X R G W (.Call (.Name x p) (e :: es) [] pos) P xd := fun σ F' H Q ty c cx => by
  obtain ⟨f, fd, ds, a1, a2, a3, a4, a5⟩ := F.ex
  cases a4
  refine tOf.of (pe_callS (E := WE W) a5 hr hg a1 a2 a3 (fun σ => passAt tk σ) pa_w hdb he hpl) (h σ F' H _ ty fun vs F1 H1 ds ex r ⟨hl, hφ⟩ => ?_)
  refine ⟨by rw [← hl]; exact r.length.symm, F1, _, P, xd, ex.wf.fh, r, hφ, fun v F2 H2 d ex2 r2 p => c v F2 H2 d (ex.trans (Ext.of_nil ex.wf ex2)) r2 p, ⟨fun C ns ds dx vs F2 H2 hx ex2 e1 e2 e3 e4 => ?_, fun C F2 H2 hx ex2 => ?_⟩⟩
  · exact cx F2 H2 C ns ds (some dx) hx (ex.trans (Ext.of_nil ex.wf ex2)) (.inl ⟨dx, vs, rfl, ex.free e4, ex.wf.new e4, e1, e2, e3⟩)
  · exact cx F2 H2 C [] [] none hx (ex.trans (Ext.of_nil ex.wf ex2)) (.inr ⟨rfl, rfl, rfl⟩)
theorem XDat.free {K : PySem.W.Frag} {H0 H F F' H' : Hp} {F0 : Hp} {ns : List Str} {ds : List Dt} {d : Option Addr} {R : Reg} (ex : Ext R F0 H0 F H) (x : XDat K R H F' H' ns ds d) : XDat K R H0 F' H' ns ds d := by
  rcases x with ⟨dx, vs, a, b, c⟩ | h
  · exact .inl ⟨dx, vs, a, ex.free b, c⟩
  · exact .inr h
theorem XDat.un {K K' : PySem.W.Frag} {H F H' : Hp} {ns : List Str} {ds : List Dt} {d : Option Addr} (x : XDat K' (R.wX K xq W) H F H' ns ds d) : XDat K' R H F H' ns ds d := x
theorem z_of {F0 H0 F H : Hp} {σ : St} (ty : Ty X.K (R.wX X.K xq W) G σ F H) (b : Bs (R.wX X.K xq W) F0 H0 G σ F H) : ∀ F' H' C ns ds d, xq G C ns ds → Ext (R.wX X.K xq W) F H F' H' → XDat X.K (R.wX X.K xq W) H F' H' ns ds d → W (.ref C) d σ H' := fun F' H' C ns ds d hx ex dat =>
  b.z G σ F' H' C ns ds d hx (ty.ext ex).un (b.ext.trans ex).un b.fresh (XDat.free b.ext dat).un
/-- name = e | e | return e, where e may raise -/
theorem s_asgX (i : Nat) {x : Str} {e : Expr} {pos' : Pos} (hN : X.N.Nodup) (hi : X.N[i]? = some x) (hx : Loc X.env.scope x) (h : EX X (R.wX X.K xq W) G W e (fun d => k.nx (G.set i (.sh d))) (xq G))
    (hs : swapsWith e (some (.Name x pos')) pos.line X.env = pure false := by rfl) (hf : X.fn x = true ∨ X.env.scope.names.lookup x = some .local := by first | exact .inl rfl | exact .inr rfl | assumption) : S1 X (R.wX X.K xq W) (.Assign [.Name x pos'] e pos) G k := fun F0 H0 σ F H D ty b c =>
  s1Of.of (ps_set hN hi hx pe_w hs hf) (h σ F H _ ty (fun v F1 H1 d ex r p => c.nx _ _ F1 H1 p ((ty.ext ex).set i r) ((b.step ex).set i)) (z_of ty b))
theorem s_exprX {e : Expr} (h : EX X (R.wX X.K xq W) G W e (fun _ => k.nx G) (xq G)) (hs : swapsWith e none pos.line X.env = pure false := by rfl) : S1 X (R.wX X.K xq W) (.Expr e pos) G k := fun F0 H0 σ F H D ty b c =>
  s1Of.of (ps_expr pe_w hs) (h σ F H _ ty (fun v F1 H1 d ex r p => c.nx _ _ F1 H1 p (ty.ext ex) (b.step ex)) (z_of ty b))
theorem s_retX {e : Expr} (h : EX X (R.wX X.K xq W) G W e (fun d => k.rt d) (xq G)) : S1 X (R.wX X.K xq W) (.Return (some e) pos) G k := fun F0 H0 σ F H D ty b c =>
  s1Of.of (ps_ret pe_w) (h σ F H _ ty (fun v F1 H1 d ex r p => c.rt d v F1 H1 p (b.ext.trans ex) r) (z_of ty b))

/-! ### try .. except x as n -/
theorem slOk_frz {K : PySem.W.Frag} {F H : Hp} {dx : Addr} {fs : List (Str × V)} (hd : H dx = some (.xd fs)) (ff : Same F (upd F dx (.xd fs))) {g : Sl} {v : Option V} (h : SlOk K R F H g v) : SlOk K R (upd F dx (.xd fs)) H g v := by
  cases g with
  | no => exact trivial
  | sh d => obtain ⟨x, e, r⟩ := h; exact ⟨x, e, r.mono ff⟩
  | ow d =>
    obtain ⟨o, e, fo, nM, ow⟩ := h
    have hne : o ≠ dx := fun z => by
      subst z
      rcases ow.kinds with ⟨xs, rfl⟩ | ⟨ks, xs, rfl⟩ | ⟨ks, xs, rfl⟩ | ⟨C, ns, xs, rfl⟩ | ⟨a, C, ns, xs, rfl⟩
      · obtain ⟨vs, h, _⟩ := ow; rw [hd] at h; cases h
      · obtain ⟨vs, h, _⟩ := ow; rw [hd] at h; cases h
      · obtain ⟨vs, h, _⟩ := ow; rw [hd] at h; cases h
      · obtain ⟨dx2, vs, h, _⟩ := ow; rw [hd] at h; cases h
      · obtain ⟨_, dx2, vs, h, _⟩ := ow; rw [hd] at h; cases h
    exact ⟨o, e, by rw [upd_ne hne]; exact fo, nM, ow.mono ff fun u h => h⟩
theorem slsOk_frz {K : PySem.W.Frag} {F H : Hp} {dx : Addr} {fs : List (Str × V)} (hd : H dx = some (.xd fs)) (ff : Same F (upd F dx (.xd fs))) {vs : List (Option V)} (h : SlsOk K R F H G vs) : SlsOk K R (upd F dx (.xd fs)) H G vs := by
  induction h with
  | nil => exact .nil
  | cons h _ ih => exact .cons (slOk_frz hd ff h) ih
theorem s_try {x n : Str} {c : Value} {i : Nat} {body suite : List Stmt} {b₀ : Stmt} {np pos' : Pos} {xq : List Sl → XD} (hN : X.N.Nodup) (hi : X.N[i]? = some n) (hln : X.env.kindOf n = some .local) (hc : Names X x c)
    (hno : ∀ G C ns ds, xq G C ns ds → PySem.W.exmOne X.K (.ref C) c = some true)
    (hb : ∀ W pn xe, Takes (X.tr pn xe) W → PassesOwn (model X.prog X.w) X.A X.env xe → S (X.tr pn xe) (R.wX X.K xq W) body G k)
    (hsu : ∀ G' C ns ds a oe d pn, xq G' C ns ds → Zc (.ref C) d oe → (∃ vs, oe.data = .fields vs) → (d = none → ns = [] ∧ ds = []) →
      S (X.suite a ((a, oe) :: pn)) R (b₀ :: suite) (G'.set i (.sh (.exv a ns ds d))) { nx := fun G => k.nx (G.set i .no), rt := k.rt, bk := fun G => k.bk (G.set i .no), ct := fun G => k.ct (G.set i .no) })
    (hs : X.stack = X.env :: X.outer := by rfl) (hf : X.env.frame = some X.env.locals := by rfl) :
    S1 X R (.Try body [.ExceptHandler (some (.Name x np)) (some n) (b₀ :: suite) pos'] [] [] pos) G k := fun F0 H0 σ F H D ty b ck => by
  refine s1Of.of (ps_try_as (tb := fun W D σ H => ∀ pn xe, Takes (X.tr pn xe) W → PassesOwn (model X.prog X.w) X.A X.env xe → sOf (X.tr pn xe) body D σ H) (ts := fun a cls d D σ H => ∀ oe pn, Zc cls d oe → (∃ vs, oe.data = .fields vs) → sOf (X.suite a ((a, oe) :: pn)) (b₀ :: suite) D σ H)
    (Wout := fun _ _ _ _ => False) hs hf hN hi hln hc (fun u s' ⟨_, _, _, _, _, _, _, _, _, _, _, _, _, _, _, _, z⟩ => z.elim) (fun W pn xe tk ps => ⟨fun pins s σ H D I h => (by have z := h pn xe tk ps; unfold sOf at z; exact z pins s I)⟩) (fun a oe cls d pn hz hf => ⟨fun pins s σ H D I h => (by have z := h oe pn hz hf; unfold sOf at z; exact z pins s I)⟩)) ?_
  intro pn xe tk pso
  refine hb _ pn xe tk pso F0 H0 σ F H D ty.wX ⟨b.ext.wX, b.fresh, ?_⟩ ⟨fun G σ F H z ty' b' => ck.nx G σ F H z ty'.un ⟨b'.ext.un, b'.fresh, b.z⟩, fun d v F H z e r => ck.rt d v F H z e.un r, fun d p F H z e => ck.rn d p F H z e.un, fun G σ F H z ty' b' => ck.bk G σ F H z ty'.un ⟨b'.ext.un, b'.fresh, b.z⟩, fun G σ F H z ty' b' => ck.ct G σ F H z ty'.un ⟨b'.ext.un, b'.fresh, b.z⟩⟩
  intro G' σ' F' H' C ns ds d hx ty' ex' fo dat
  refine ⟨true, hno _ _ _ _ hx, fun _ a ha oe pn' hz hf => ?_, fun z => nomatch z⟩
  have setNo : ∀ {G σ F H}, Ty X.K R G σ F H → Ty X.K R (G.set i .no) (σ.set i none) F H := fun ty => ⟨ty.wf, ty.sl.set i (g := .no) trivial, ty.nd.sublist (owns_set_sub i fun _ z => nomatch z)⟩
  have bsNo : ∀ {G σ F H}, Bs R F0 H0 G σ F H → Bs R F0 H0 (G.set i .no) (σ.set i none) F H := fun b => ⟨b.ext, fun o ho => b.fresh o ((owns_set_sub (g := .no) (v := none) i (fun _ z => nomatch z)).subset ho), b.z⟩
  have kk : KOk X.K R F0 H0 { nx := fun G => k.nx (G.set i .no), rt := k.rt, bk := fun G => k.bk (G.set i .no), ct := fun G => k.ct (G.set i .no) } { nx := fun σ' H' => D.nx (σ'.set i none) H', rt := D.rt, bk := fun σ' H' => D.bk (σ'.set i none) H', ct := fun σ' H' => D.ct (σ'.set i none) H' } :=
    ⟨fun G σ F H z ty b => ck.nx _ _ F H z (setNo ty) (bsNo b), ck.rt, fun _ _ _ _ z => z.elim, fun G σ F H z ty b => ck.bk _ _ F H z (setNo ty) (bsNo b), fun G σ F H z ty b => ck.ct _ _ F H z (setNo ty) (bsNo b)⟩
  rcases dat with ⟨dx, vs, rfl, e0, nM, e1, e2, e3⟩ | ⟨rfl, rfl, rfl⟩
  · have ff : Same F' (upd F' dx (.xd (ns.zip vs))) := fun z o h => by
      by_cases q : z = dx
      · subst q
        rw [upd_same]
        exact e1.symm.trans (ty'.wf.fh _ _ h)
      · rw [upd_ne q]; exact h
    have wf2 : Wf R (upd F' dx (.xd (ns.zip vs))) H' := ⟨fun z o h => by
      by_cases q : z = dx
      · subst q
        rw [upd_same] at h
        exact e1.trans h
      · rw [upd_ne q] at h; exact ty'.wf.fh z o h, fun z m => by
      rw [upd_ne (show z ≠ dx from fun q => nM (by rw [← q]; exact m))]
      exact ty'.wf.off z m, ty'.wf.oc, ty'.wf.b⟩
    have ty2 : Ty X.K R G' σ' (upd F' dx (.xd (ns.zip vs))) H' := ⟨wf2, slsOk_frz e1 ff ty'.sl, ty'.nd⟩
    have rE : Rp X.K (upd F' dx (.xd (ns.zip vs))) (.exv a ns ds (some dx)) (.ref a) := rp_exv.mpr ⟨rfl, fun dx' hd => by
      cases hd
      exact ⟨vs, upd_same .., e2, e3.mono ff⟩⟩
    have b2 : Bs R F0 H0 G' σ' (upd F' dx (.xd (ns.zip vs))) H' := ⟨⟨wf2, ex'.ff.trans ff, ex'.hh, fun z h n => by
      rw [upd_ne (show z ≠ dx from fun q => h (by rw [q]; exact e0))]
      exact ex'.fr z h n⟩, fo, b.z⟩
    exact hsu G' C ns ds a oe (some dx) pn' hx hz hf (fun z => nomatch z) F0 H0 _ _ H' _ (ty2.set i rE) (b2.set i) kk
  · have rE : Rp X.K F' (.exv a [] [] none) (.ref a) := rp_exv.mpr ⟨rfl, fun dx' hd => by cases hd⟩
    exact hsu G' C [] [] a oe none pn' hx hz hf (fun _ => ⟨rfl, rfl⟩) F0 H0 _ _ H' _ (ty'.set i rE) (Bs.set ⟨ex', fo, b.z⟩ i) kk
/-! ### in the suite: isinstance(e, C), e.f -/
theorem wc_isE {a D : Addr} {oe : Obj} {od : Option Addr} {pn : List (Addr × Obj)} {C : Value} {b : Bool} {P : Dt → Prop} {dc : Dt} {ns : List Str} {ds : List Dt} (EC : ExcC X.K D) (hz : Zc (.ref D) od oe) (hf : ∃ vs, oe.data = .fields vs)
    (hc : (∃ n, dc = .ty n ∧ C = .type n) ∨ (∃ c, dc = .adr c ∧ C = .ref c)) (hk : PySem.W.kitOne X.K (.ref D) C = some b) (p : P (.bl b)) : WC (X.suite a ((a, oe) :: pn)) R (.builtin "isinstance") [.exv a ns ds od, dc] P := fun F H xs Q w r c => by
  obtain ⟨v, u, rfl, h1, h2⟩ := r.two
  obtain ⟨rfl, hdx⟩ := rp_exv.mp h1
  unfold crOf
  intro pins s σ us I rv
  cases rv with
  | cons rx rr =>
    cases rr with
    | cons rt rr =>
      cases rr
      cases rx
      rename_i uc
      have ec : uc = C := by
        rcases hc with ⟨n, rfl, rfl⟩ | ⟨c, rfl, rfl⟩
        · rw [rp_ty.mp h2] at rt; exact rt
        · rw [rp_adr.mp h2] at rt; exact rt
      subst ec
      obtain ⟨hget, _⟩ := I.pin (a, oe) (List.mem_append.mpr (.inl List.mem_cons_self))
      obtain ⟨vs, hv⟩ := hf
      have J : ∃ oo, PySem.W.InstAt s.heap a oe D oo := by
        cases od with
        | none =>
          refine ⟨none, hget, hz.1, by unfold PySem.W.notCls; rw [hv] <;> rfl, by rw [hz.2]; trivial⟩
        | some dx =>
          obtain ⟨vs', e1, _, _⟩ := hdx dx rfl
          obtain ⟨mA, hns, hr⟩ := I.hok dx _ (w.fh _ _ e1)
          obtain ⟨oo, ho, hl⟩ := lookIn_ns hns
          exact ⟨some oo, hget, hz.1, by unfold PySem.W.notCls; rw [hv] <;> rfl, by rw [hz.2]; exact ho⟩
      obtain ⟨oo, J⟩ := J
      obtain ⟨cdD, hcD, _⟩ := PySem.W.any_some EC.hd
      exact PySem.W.kia_one (PySem.W.kitx_exc (by rw [hcD]; rfl) EC.hg EC.hk EC.hs EC.ha EC.hn EC.ht EC.hm) I.kIn J hk (fun z => nomatch z) fun tk => ⟨.bl b, H, I.kept (t' := tk) fun _ _ z => z, rfl, c.here w (rp_bl.mpr rfl) p⟩
/-- e.f -/
theorem e_xf {a C : Addr} {oe : Obj} {od : Option Addr} {pn : List (Addr × Obj)} {e : Expr} {n : Str} {d : Dt} {P : Dt → Prop} (T : XfC X.K C) (hno : PySem.W.findIn X.K (.ref C) n = some none) (hz : Zc (.ref C) od oe) (hf : ∃ vs, oe.data = .fields vs) (hod : od ≠ none)
    (h : E (X.suite a ((a, oe) :: pn)) R G e fun d' => d' = .exv a [n] [d] od) (p : P d) (hb : attributeBase e n X.env (eval e X.env) = eval e X.env := by rfl) : E (X.suite a ((a, oe) :: pn)) R G (.Attribute e n pos) P := fun σ F H Q ty c => by
  refine tOf.of (pe_xf T hno hz hf pe_w hb) (h σ F H _ ty fun v F1 H1 d' ex r hd' => ?_)
  subst hd'
  obtain ⟨rfl, hdx⟩ := rp_exv.mp r
  obtain ⟨dx, rfl⟩ : ∃ dx, od = some dx := Option.ne_none_iff_exists'.mp hod
  obtain ⟨vs, e1, e2, e3⟩ := hdx dx rfl
  obtain ⟨y, t, rfl, ry, rt⟩ := e3.of_cons
  exact ⟨rfl, rfl, dx, _, y, rfl, ex.wf.fh _ _ e1, by simp [List.lookup], c.step ex y F1 H1 d (.refl ex.wf) ry p⟩
end
end VS
set_option Elab.async false
set_option linter.all false
set_option maxRecDepth 100000
set_option maxHeartbeats 2000000
/-! the head's facts, own error classes among them -/
namespace VS
open PySem PySem.Spec L2

/-! which objects are looked at: a set of addresses as the bits of a number -/
def hasB (s a : Nat) : Bool := Nat.beq (Nat.land (Nat.shiftRight s a) 1) 1
def addB (s a : Nat) : Nat := Nat.lor s (Nat.shiftLeft 1 a)
def frN {α : Type} (n : Nat) (k : Nat → α) : α := match n with
  | 0 => k 0
  | m + 1 => k (m + 1)
def colR {α : Type} (k : Nat → List Addr → α) : List Addr → Nat → List Addr → α
  | [], seen, nx => k seen nx
  | r :: rs, seen, nx => match hasB seen r with
    | true => colR k rs seen nx
    | false => frN (addB seen r) fun s => colR k rs s (r :: nx)
def colA {α : Type} (g : Addr → Option Obj) (k : Nat → List Addr → α) : List Addr → Nat → List Addr → α
  | [], seen, nx => k seen nx
  | a :: as, seen, nx => match g a with
    | some o => colR (fun s n => colA g k as s n) (He.refsD o) seen nx
    | none => colA g k as seen nx
def rnd (g : Addr → Option Obj) : Nat → Nat → List Addr → List Addr → List Addr
  | 0, _, _, acc => acc
  | n + 1, seen, front, acc => colA g (fun s nx => rnd g n s nx (nx ++ acc)) front seen []
def asV (g : Addr → Option Obj) (n : Nat) : List Addr := rnd g n (addB (addB 0 mainGlobals) cStatics) [mainGlobals] [mainGlobals, cStatics]
/-- one error class with an __init__ of its own: name, the __init__, the fields -/
structure ErD where
  x : Str
  qual : Str
  params : Arguments
  body : List Stmt
  scope : Scope
  fs : List Str
abbrev InW : Type := Option (Str × Str × Arguments × FuncBody × Scope × Addr × List Str × Addr)
def iniW (K : PySem.W.Frag) (x : Str) : InW := match K.lookup (He.ma K (He.ga K x) "__init__") with
  | some ⟨_, _, .func fd, _⟩ => some (fd.name, fd.qualname, fd.params, fd.body, fd.scope, fd.globals, fd.closure.map (·.1), fd.builtins)
  | _ => none
def ErD.val (d : ErD) : InW := some ("__init__", d.qual, d.params, .stmts d.body, d.scope, mainGlobals, ["__class__"], builtinsNs)
def clsB (K : PySem.W.Frag) (C : Addr) : Bool := match K.lookup C with
  | some ⟨.type "type", _, .cls cd, sl⟩ => (match cd.mro, sl.toList with
    | .ref C' :: bm, [_, _, _, _, some (.builtin n), _] => C' == C && n == "ValueError.__new__" && !cd.hasDel && cd.hasDict && PySem.HandSPX.refsVE bm
    | _, _ => false)
  | _ => false
theorem clsB_ok {K : PySem.W.Frag} {C : Addr} (q : clsB K C = true) : ∃ nm q N bs bm sn sub ab col dd k0 k1 k2 k3 k5, K.lookup C = some (excClassObj nm q C N bs bm true sn sub ab col dd k0 k1 k2 k3 k5 "ValueError.__new__") ∧ PySem.HandSPX.refsVE bm = true := by
  unfold clsB at q
  split at q
  · rename_i dd cd sl ho
    split at q
    · rename_i C' bm k0 k1 k2 k3 n k5 hm hs
      simp only [Bool.and_eq_true, beq_iff_eq, Bool.not_eq_true'] at q
      obtain ⟨⟨⟨⟨rfl, rfl⟩, hdel⟩, hdc⟩, ht⟩ := q
      obtain ⟨nm, bs, mro, ns, qn, hd, sn, sub, ab, col, del⟩ := cd
      dsimp only at hm hdel hdc
      subst hm hdel hdc
      have hsl : sl = #[k0, k1, k2, k3, some (.builtin "ValueError.__new__"), k5] := by
        obtain ⟨l⟩ := sl
        simp only at hs
        rw [hs]
      subst hsl
      exact ⟨nm, qn, ns, bs, bm, sn, sub, ab, col, dd, k0, k1, k2, k3, k5, ho, ht⟩
    · cases q
  · cases q
/-- what every error class must say -/
def excB (K : PySem.W.Frag) (C : Addr) : Bool := clsB K C && (He.eqO (PySem.W.findIn K (.ref C) "__setattr__") (some (some (.builtin "object.__setattr__"))) && (decide (PySem.W.subIn K (.ref C) (.type "BaseException") = some true) && (decide (PySem.W.typeIn K (.ref C) = some (.type "type")) && (PySem.W.keepIn K (.ref C) &&
  (He.eqO (PySem.W.findIn K (.ref C) "__getattribute__") (some (some (.builtin "BaseException.__getattribute__"))) && (He.eqO (PySem.W.findIn K (.ref C) "__getattr__") (some none) && (PySem.W.hasDictIn K C && (He.eqO (PySem.W.findIn K (.ref C) "__class__") (some (some (.builtin "object.__class__"))) &&
  (He.eqO (PySem.W.specialIn K (.builtin "object.__class__") "__get__") (some (some (.builtin "getset_descriptor.__get__"))) && (decide (PySem.W.takesIn K (.builtin "object.__class__") = some true) && decide (PySem.W.mroIn K C (.type "object") = some true)))))))))))
structure ExC (K : PySem.W.Frag) (C : Addr) : Prop where
  oc : OexC K C
  ec : ExcC K C
  xf : XfC K C
theorem excB_ok {K : PySem.W.Frag} {C : Addr} (h : excB K C = true) : ExC K C := by
  unfold excB at h
  obtain ⟨h1, h⟩ := He.ba h
  obtain ⟨h2, h⟩ := He.ba h
  obtain ⟨h3, h⟩ := He.ba h
  obtain ⟨h4, h⟩ := He.ba h
  obtain ⟨h5, h⟩ := He.ba h
  obtain ⟨h6, h⟩ := He.ba h
  obtain ⟨h7, h⟩ := He.ba h
  obtain ⟨h8, h⟩ := He.ba h
  obtain ⟨h9, h⟩ := He.ba h
  obtain ⟨h10, h⟩ := He.ba h
  obtain ⟨h11, h12⟩ := He.ba h
  exact ⟨⟨clsB_ok h1, He.eqO_ok h2, of_decide_eq_true h3, of_decide_eq_true h4, h5⟩, ⟨He.eqO_ok h6, He.eqO_ok h7, of_decide_eq_true h3, h8, He.eqO_ok h9, He.eqO_ok h10, of_decide_eq_true h11, of_decide_eq_true h12⟩, ⟨He.eqO_ok h6, He.eqO_ok h7, of_decide_eq_true h3, h8⟩⟩
def codeB (file : Str) (K : PySem.W.Frag) (C : Addr) (qual : Str) (fd : FuncData) : Bool := match fd.code, fd.closure, fd.defaults with
  | .ref cda, [(_, cc)], .none => PySem.W.codeIn K (.ref cda) qual && ((match K.lookup cda with
      | some ⟨_, _, .fields vs, _⟩ => (match (vs[2]? : Option Value) with | some (Value.str f _) => file == f | _ => false)
      | _ => false) && (match K.lookup cc with
      | some ⟨_, _, .cell (some (.ref C')), _⟩ => C' == C
      | _ => false))
  | _, _, _ => false
def iniB (file : Str) (K : PySem.W.Frag) (d : ErD) : Bool := excB K (He.ga K d.x) && (He.eqO (PySem.W.findIn K (.ref (He.ga K d.x)) "__init__") (some (some (.ref (He.ma K (He.ga K d.x) "__init__")))) && (decide (PySem.W.typeIn K (.ref (He.ma K (He.ga K d.x) "__init__")) = some (.type "function")) &&
  ((PySem.W.clsIn K (He.ga K d.x)).isSome && (decide (PySem.W.mroIn K (He.ga K d.x) (.ref (He.ga K d.x)) = some true) && (He.eqO (PySem.W.nsIn K cStatics "thirdparty.any") (some none) && (He.eqO (PySem.W.ks_superIn K (He.ga K d.x) (He.ga K d.x) "__init__") (some (some (.builtin "ValueError.__init__"))) &&
  (decide (PySem.W.subIn K (.ref (He.ga K d.x)) (.type "ValueError") = some true) && (d.fs.all (fun f => He.eqO (PySem.W.findIn K (.ref (He.ga K d.x)) f) (some none)) && (match K.lookup (He.ma K (He.ga K d.x) "__init__") with
    | some ⟨_, _, .func fd, _⟩ => codeB file K (He.ga K d.x) d.qual fd
    | _ => false)))))))))
theorem iniB_ok {P : Program} {K : PySem.W.Frag} {d : ErD} (h : iniB P.main.file K d = true) (e : iniW K d.x = d.val) : ∃ fd, IniD P K (He.ga K d.x) (He.ma K (He.ga K d.x) "__init__") d.qual d.params d.body d.scope fd ∧ ExC K (He.ga K d.x) ∧ (∀ f ∈ d.fs, PySem.W.findIn K (.ref (He.ga K d.x)) f = some none) := by
  unfold iniB at h
  obtain ⟨h1, h⟩ := He.ba h
  obtain ⟨h2, h⟩ := He.ba h
  obtain ⟨h3, h⟩ := He.ba h
  obtain ⟨h4, h⟩ := He.ba h
  obtain ⟨h5, h⟩ := He.ba h
  obtain ⟨h6, h⟩ := He.ba h
  obtain ⟨h7, h⟩ := He.ba h
  obtain ⟨h8, h⟩ := He.ba h
  obtain ⟨h9, h10⟩ := He.ba h
  have E := excB_ok h1
  unfold iniW at e
  cases q : K.lookup (He.ma K (He.ga K d.x) "__init__") with
  | none => rw [q] at h10; cases h10
  | some o =>
    obtain ⟨oc, od, dt, osl⟩ := o
    rw [q] at h10 e
    cases dt with
    | func fd =>
      obtain ⟨n1, n2, n3, n4, n5, n6, n7, n8, n9, n10, n11, n12, n13, n14, n15⟩ := fd
      have e2 : (some (n1, n2, n3, n4, n5, n6, n7.map (·.1), n15) : InW) = some (("__init__" : Str), d.qual, d.params, FuncBody.stmts d.body, d.scope, mainGlobals, [("__class__" : Str)], builtinsNs) := e
      simp only [Option.some.injEq, Prod.mk.injEq] at e2
      obtain ⟨g1, g2, g3, g4, g5, g6, g7, g8⟩ := e2
      subst g1 g2 g3 g4 g5 g6 g8
      have hc : codeB P.main.file K (He.ga K d.x) d.qual ⟨"__init__", d.qual, d.params, .stmts d.body, d.scope, mainGlobals, n7, n8, n9, n10, n11, n12, n13, n14, builtinsNs⟩ = true := h10
      unfold codeB at hc
      dsimp only at hc
      split at hc
      · rename_i cda nm cc
        obtain ⟨k1, k2⟩ := He.ba hc
        obtain ⟨k2, k3⟩ := He.ba k2
        have en : nm = "__class__" := by
          have : [nm] = [("__class__" : Str)] := g7
          injection this
        subst en
        split at k2
        · rename_i ccl cdd cvs ccs lcd
          split at k2
          · rename_i f tf hv
            split at k3
            · rename_i cl cld C' csl lcc
              have eC : C' = He.ga K d.x := eq_of_beq k3
              subst eC
              refine ⟨_, ⟨E.oc, He.eqO_ok h2, of_decide_eq_true h3, ⟨oc, od, n9, n10, n11, n12, n14, osl, cda, cc, rfl, q, k1, ⟨ccl, cdd, cvs, ccs, f, tf, lcd, hv, k2⟩, cl, cld, csl, lcc⟩, Option.isSome_iff_exists.mp h4, of_decide_eq_true h5, He.eqO_ok h6, He.eqO_ok h7, of_decide_eq_true h8⟩, E, fun f hf => He.eqO_ok (List.all_eq_true.mp h9 f hf)⟩
            · cases k3
          · cases k2
        · cases k2
      · cases hc
    | _ => cases h10
/-! ### the hook -/
abbrev AlV : Type := He.AlD × (Bool × List InW)
def obsV (file : Str) (fa : List He.Fa) (fn : List He5.DefA) (es : List ErD) (ex : PySem.W.Frag → Bool) (K : PySem.W.Frag) : AlV := (He5.obsA fa fn K, ((es.all fun d => iniB file K d) && ex K, es.map fun d => iniW K d.x))
def valV (fn : List He5.DefA) (es : List ErD) : AlV := (He5.valA fn, (true, es.map ErD.val))
def SaysV (file : Str) (fa : List He.Fa) (fn : List He5.DefA) (es : List ErD) (ex : PySem.W.Frag → Bool) (K : PySem.W.Frag) : Prop := obsV file fa fn es ex K = valV fn es
def obsVG (n : Nat) (file : Str) (fa : List He.Fa) (fn : List He5.DefA) (es : List ErD) (ex : PySem.W.Frag → Bool) (g : Addr → Option Obj) : AlV := obsV file fa fn es ex (He.frG g (asV g n))
def hookV (n : Nat) (file : Str) (fa : List He.Fa) (fn : List He5.DefA) (es : List ErD) (ex : PySem.W.Frag → Bool) : PySem.W.Hook where
  α := AlV
  obs := fun s => obsVG n file fa fn es ex s.heap.get?
  val := fun _ => valV fn es
  says := fun _ h => ∃ K : PySem.W.Frag, K.In h ∧ SaysV file fa fn es ex K
  of := fun _ _ e => ⟨_, He.frG_in, e⟩
  keeps := fun _ _ _ ⟨K, hK, c⟩ k => ⟨K, PySem.W.Frag.In.keeps hK k, c⟩
theorem obsVG_eq {n : Nat} {file : Str} {fa : List He.Fa} {fn : List He5.DefA} {es : List ErD} {ex : PySem.W.Frag → Bool} {g : Addr → Option Obj} {s : Shared} (h : ∀ a, g a = s.heap.get? a) : obsVG n file fa fn es ex g = (hookV n file fa fn es ex).obs s := by
  have e : g = s.heap.get? := funext h
  rw [e] <;> rfl
section
variable {P : Program} {fa : List He.Fa} {fn : List He5.DefA} {es : List ErD} {ex : PySem.W.Frag → Bool} {K : PySem.W.Frag}
theorem SaysV.d {file : Str} (c : SaysV file fa fn es ex K) : He5.SaysA fa fn K := congrArg (fun z : AlV => z.1) c
theorem SaysV.more {file : Str} (c : SaysV file fa fn es ex K) : ex K = true := (He.ba (show ((es.all fun d => iniB file K d) && ex K) = true from congrArg (fun z : AlV => z.2.1) c)).2
theorem SaysV.err (c : SaysV P.main.file fa fn es ex K) (i : Nat) {d : ErD} (h : es[i]? = some d := by rfl) : ∃ fd, IniD P K (He.ga K d.x) (He.ma K (He.ga K d.x) "__init__") d.qual d.params d.body d.scope fd ∧ ExC K (He.ga K d.x) ∧ (∀ f ∈ d.fs, PySem.W.findIn K (.ref (He.ga K d.x)) f = some none) := by
  have c1 := (He.ba (show ((es.all fun d => iniB P.main.file K d) && ex K) = true from congrArg (fun z : AlV => z.2.1) c)).1
  have c2 : es.map (fun d => iniW K d.x) = es.map ErD.val := congrArg (fun z : AlV => z.2.2) c
  have hm := List.mem_of_getElem? h
  refine iniB_ok (List.all_eq_true.mp c1 d hm) ?_
  have e := congrArg (fun l => l[i]?) c2
  simp only [List.getElem?_map, h, Option.map_some, Option.some.injEq] at e
  exact e
end
end VS
namespace VS
open PySem PySem.Spec L2
theorem binds_ks {P : Program} {K : PySem.W.Frag} {C fI : Addr} {qual : Str} {params : Arguments} {body : List Stmt} {scope : Scope} {fd : FuncData} {ps : List Str} (D : IniD P K C fI qual params body scope fd)
    (h : ∀ (kV doc pm : Value) (an : Option Addr) (cdv ct : Value) (cc : Addr) (us : List Value), us.length = ps.length → bindArgs (PySem.W.ksFn "__init__" qual params body scope .none kV doc pm an cdv ct cc) ⟨us, []⟩ = pure (ps.zip us)) : Binds K fd ps [] := by
  obtain ⟨oc, od, kV, doc, pm, an, ct, osl, cda, cc, rfl, _⟩ := D.fn
  exact .all (h kV doc pm an (.ref cda) ct cc)
/-- further words on the classes -/
abbrev Xa : Type := PySem.W.Frag → Bool
def Xa.exm (x y : Str) (b : Bool) : Xa := fun K => decide (PySem.W.exmOne K (.ref (He.ga K x)) (.ref (He.ga K y)) = some b)
def Xa.kit (x y : Str) (b : Bool) : Xa := fun K => decide (PySem.W.kitOne K (.ref (He.ga K x)) (.ref (He.ga K y)) = some b)
def Xa.kitT (x : Str) (T : String) (b : Bool) : Xa := fun K => decide (PySem.W.kitOne K (.ref (He.ga K x)) (.type T) = some b)
def Xa.exc (x : Str) : Xa := fun K => excB K (He.ga K x)
def Xa.tup (x : Str) (vs : List He.Dv) : Xa := fun K => He.tupB K x vs
def exOf (xs : List Xa) (K : PySem.W.Frag) : Bool := xs.all fun x => x K
section
variable {fa : List He.Fa} {fn : List He5.DefA} {es : List ErD} {xs : List Xa} {K : PySem.W.Frag} {file : Str}
theorem SaysV.xa (c : SaysV file fa fn es (exOf xs) K) (i : Nat) {x : Xa} (h : xs[i]? = some x) : x K = true := List.all_eq_true.mp c.more x (List.mem_of_getElem? h)
theorem SaysV.exm (c : SaysV file fa fn es (exOf xs) K) (i : Nat) {x y : Str} {b : Bool} (h : xs[i]? = some (Xa.exm x y b)) : PySem.W.exmOne K (.ref (He.ga K x)) (.ref (He.ga K y)) = some b := of_decide_eq_true (c.xa i h)
theorem SaysV.kit (c : SaysV file fa fn es (exOf xs) K) (i : Nat) {x y : Str} {b : Bool} (h : xs[i]? = some (Xa.kit x y b)) : PySem.W.kitOne K (.ref (He.ga K x)) (.ref (He.ga K y)) = some b := of_decide_eq_true (c.xa i h)
theorem SaysV.kitT (c : SaysV file fa fn es (exOf xs) K) (i : Nat) {x : Str} {T : String} {b : Bool} (h : xs[i]? = some (Xa.kitT x T b)) : PySem.W.kitOne K (.ref (He.ga K x)) (.type T) = some b := of_decide_eq_true (c.xa i h)
theorem SaysV.tup (c : SaysV file fa fn es (exOf xs) K) (i : Nat) {x : Str} {vs : List He.Dv} (h : xs[i]? = some (Xa.tup x vs)) (F : Hp) : SqT K F (He.ga K x) (vs.map (He.Dv.v K)) := He.tupB_ok (c.xa i h) F
theorem SaysV.exc (c : SaysV file fa fn es (exOf xs) K) (i : Nat) {x : Str} (h : xs[i]? = some (Xa.exc x)) : ExC K (He.ga K x) := excB_ok (c.xa i h)
end
end VS
set_option Elab.async false
set_option linter.all false
set_option maxRecDepth 100000
set_option maxHeartbeats 2000000
/-! calls with keywords -/
namespace VS
open PySem PySem.Spec L2
/-- a def called with n values and the keywords ks: g says how they stand in the parameters' order -/
structure FnK (P : Program) (w : World) (K : PySem.W.Frag) (mg : Str → Option Value) (base : Heap) (k : Nat) (x : Str) (n : Nat) (ks : List Str) (g : {α : Type} → List α → List α → List α) (dvs : List V) (sp : Sp) : Prop where
  ex : ∃ (f : Addr) (fd : FuncData) (ps : List Str) (ds : List Value), mg x = some (.ref f) ∧ PySem.W.keepIn K (.ref f) = true ∧ KBn K fd ps n ks (fun us ws => g us ws ++ ds) (fun vs zs => g vs zs ++ dvs) ∧ FnOk P w K mg base (L2.CX P w) k f fd ps sp
theorem FnK.mono {P : Program} {w : World} {K : PySem.W.Frag} {mg : Str → Option Value} {base : Heap} {j k : Nat} {x : Str} {n : Nat} {ks : List Str} {g : {α : Type} → List α → List α → List α} {dvs : List V} {sp : Sp} (F : FnK P w K mg base j x n ks g dvs sp) (h : j ≤ k) : FnK P w K mg base k x n ks g dvs sp := by
  obtain ⟨f, fd, ps, ds, a, b, c, d⟩ := F.ex
  exact ⟨f, fd, ps, ds, a, b, c, d.mono h⟩
theorem kb_of {K : PySem.W.Frag} {x qual : Str} {params : Arguments} {body : List Stmt} {scope : Scope} {dvs : List V} {kws : List (Str × V)} {f : Addr} {fd : FuncData} {ps : List Str} (F : FunD K x qual params body scope dvs kws f fd) (n : Nat) (ks : List Str) (hd : dvs ≠ [])
    (h : ∀ (T : Addr) (kV doc pm : Value) (an : Option Addr) (cdv ct : Value) (us its ws : List Value), us.length = n → its.length = dvs.length → ws.length = ks.length →
      ∃ k, bindArgs (PySem.W.fnOf x qual params body scope (.ref T) kV doc pm an cdv ct) ⟨us, ks.zip ws⟩ = seqItems? (.ref T) >>= k ∧ k (some its.toArray) = pure (ps.zip (us ++ ws ++ []))) : KBn K fd ps n ks (fun us ws => us ++ ws ++ []) (fun vs zs => vs ++ zs ++ []) := by
  obtain ⟨oc, od, dV, kV, doc, pm, an, cdv, ct, osl, rfl, lk, hcd, hD, hK⟩ := F.ex
  rcases hD with ⟨e, _⟩ | ⟨_, T, o, its, m, rfl, lT, oT, rT⟩
  · exact absurd e hd
  · refine ⟨fun s us ws X h1 h2 => ?_, fun r1 r2 => (r1.append r2).append .nil⟩
    obtain ⟨k, e1, e2⟩ := h T kV doc pm an cdv ct us its ws h1 rT.length.symm h2
    refine BindsTo.of_looks fun M => ?_
    rw [e1]
    exact looks_items X lT oT (.of_pure e2)
section
variable {X : Cx} {R : Reg} {G : List Sl} {pos : Pos} {k : Kt}
/-- f(e, .., k = v) -/
theorem e_callK1 {x : Str} {φ : Ph} {m n j : Nat} {e : Expr} {es : List Expr} {p : Pos} {P : Dt → Prop} {kn : Str} {ke : Expr} {kp : Pos} (F : FnK X.prog X.w X.K X.mg X.base j x n [kn] (fun us ws => us ++ ws) [] (spD X.K m φ)) (hr : Room j X.A) (hg : Gl X x)
    (h : EA X R G (e :: es) fun ds => E X R G ke fun dk => ds.length = n ∧ (ds ++ [dk]).length = m ∧ φ (ds ++ [dk]) P fun _ _ _ => False)
    (hall : (backToKw pos (keywordEach [⟨some kn, ke, kp⟩] X.env)).all (·.1.isSome) = true := by rfl) (hks : (backToKw pos (keywordEach [⟨some kn, ke, kp⟩] X.env)).filterMap (·.1) = [kn] := by rfl)
    (hdb : (x == ("__debug__" : Str)) = false := by decide) (he : starEach (e :: es) X.env = (false, eval e X.env) :: starEach es X.env := by rfl)
    (hpl : ((backTo pos (starEach (e :: es) X.env)).any (·.1) || (backToKw pos (keywordEach [⟨some kn, ke, kp⟩] X.env)).any (·.1.isNone)) = false := by rfl) : E X R G (.Call (.Name x p) (e :: es) [⟨some kn, ke, kp⟩] pos) P := fun σ F' H Q ty c => by
  obtain ⟨f, fd, ps, dvv, a1, a2, a3, a4⟩ := F.ex
  refine tOf.of (pe_callN a4 hr hg a1 a2 a3 passL pa_w (pk_cons pe_w pk_nil) hall hks hdb he hpl) (h σ F' H _ ty fun vs F1 H1 ds ex r hk => ?_)
  refine hk σ F1 H1 _ (ty.ext ex) fun v F2 H2 dk ex2 rk ⟨hl, hm, hφ⟩ => ?_
  have rr : RpL X.K F2 (ds ++ [dk]) (vs ++ [v]) := (r.mono ex2.ff).append (.cons rk .nil)
  have e12 := ex.trans ex2
  refine ⟨by rw [← r.length]; exact hl, rfl, ?_⟩
  show spD X.K m φ (vs ++ [v] ++ []) H2 Q _
  rw [List.append_nil]
  exact ⟨by rw [← hm]; exact rr.length.symm, F2, _, P, fun _ _ _ => False, ex2.wf.fh, rr, hφ, fun v F3 H3 d ex3 r3 p => c v F3 H3 d (e12.trans (Ext.of_nil ex2.wf ex3)) r3 p, ⟨fun _ _ _ _ _ _ _ z => z.elim, fun _ _ _ z => z.elim⟩⟩
end
end VS
set_option Elab.async false
set_option linter.all false
set_option maxRecDepth 100000
set_option maxHeartbeats 2000000
/-! texts as lists of code points -/
namespace VS
open PySem PySem.Spec L2
abbrev St' := SX.S
section
variable {X : Cx} {R : Reg} {G : List Sl} {pos : Pos} {k : Kt}
/-- o.partition(e) -/
theorem e_partition {o e : Expr} {apos : Pos} {P : Dt → Prop} (h : E X R G o fun d => ∃ a, d = .str a ∧ E X R G e fun d' => ∃ b, d' = .str b ∧ (b.length == 0) = false ∧ a.length ≤ 100000 ∧ P (.tup [.str (Txt.partition a b).1, .str (Txt.partition a b).2.1, .str (Txt.partition a b).2.2]))
    (hs : starEach [e] X.env = [(false, eval e X.env)] := by rfl) (hbase : attributeBase o "partition" X.env (eval o X.env) = eval o X.env := by rfl) (hline : (apos.endLine == pos.line) = true := by rfl) : E X R G (.Call (.Attribute o "partition" apos) [e] [] pos) P := fun σ F H Q ty c => by
  refine tOf.of (pe_partition pe_w pe_w hs hbase hline) (h σ F H _ ty fun v F1 H1 d ex r ⟨a, ed, h2⟩ => ?_)
  subst ed
  refine ⟨⟨a, rp_str.mp r⟩, ?_⟩
  refine h2 σ F1 H1 _ (ty.ext ex) fun v2 F2 H2 d2 ex2 r2 ⟨b, eb, hb, hl, p⟩ => ?_
  subst eb
  refine ⟨a, b, rp_str.mp r, by rw [rp_str.mp r2], hb, Nat.le_trans hl (by decide), fun q hq => ?_⟩
  have ex3 := ex2.wf.made (o := .tup [.str (Txt.partition a b).1, .str (Txt.partition a b).2.1, .str (Txt.partition a b).2.2]) hq
  exact c _ _ _ _ ((ex.trans ex2).trans ex3) (rp_tup_new (ex2.wf.fh.free hq) (.cons (rp_str.mpr rfl) (.cons (rp_str.mpr rfl) (.cons (rp_str.mpr rfl) .nil)))) p
/-- o.startswith(e) -/
theorem e_startswith {o e : Expr} {apos : Pos} {P : Dt → Prop} (h : E X R G o fun d => ∃ a, d = .str a ∧ E X R G e fun d' => ∃ b, d' = .str b ∧ P (.bl (Txt.startswith a b)))
    (hs : starEach [e] X.env = [(false, eval e X.env)] := by rfl) (hbase : attributeBase o "startswith" X.env (eval o X.env) = eval o X.env := by rfl) (hline : (apos.endLine == pos.line) = true := by rfl) : E X R G (.Call (.Attribute o "startswith" apos) [e] [] pos) P := fun σ F H Q ty c => by
  refine tOf.of (pe_m1 PySem.F.slot_str_startswith PySem.F.type_str_startswith mt_startswith pe_w pe_w hs hbase hline) (h σ F H _ ty fun v F1 H1 d ex r ⟨a, ed, h2⟩ => ?_)
  subst ed
  refine ⟨⟨a, rp_str.mp r⟩, ?_⟩
  refine h2 σ F1 H1 _ (ty.ext ex) fun v2 F2 H2 d2 ex2 r2 ⟨b, eb, p⟩ => ?_
  subst eb
  exact ⟨a, b, rp_str.mp r, by rw [rp_str.mp r2], c _ _ _ _ (ex.trans ex2) (rp_bl.mpr rfl) p⟩
theorem w_notInS {c : Nat} {z : Str} {P : Dt → Prop} (p : P (.bl (!decide (c ∈ z.cps.toList)))) : W2 X R (compareOp .NotIn) (.str ⟨#[c]⟩) (.str z) P := fun F H x y Q w rx ry ct =>
  opOf.of op_notIn_sign ⟨c, z, rp_str.mp rx, rp_str.mp ry, ct.here w (rp_bl.mpr rfl) p⟩
theorem w_inS {c : Nat} {z : Str} {P : Dt → Prop} (p : P (.bl (decide (c ∈ z.cps.toList)))) : W2 X R (compareOp .In) (.str ⟨#[c]⟩) (.str z) P := fun F H x y Q w rx ry ct =>
  opOf.of op_in_sign ⟨c, z, rp_str.mp rx, rp_str.mp ry, ct.here w (rp_bl.mpr rfl) p⟩
theorem wc_intS {a : Str} {n : Int} {P : Dt → Prop} (hn : intText? a = some n) (hl : a.length ≤ 640) (p : P (.int n)) : WC X R (.type "int") [.str a] P := fun F H xs Q w r c => by
  obtain ⟨v, rfl, h1⟩ := r.one
  rw [rp_str.mp h1]
  exact crOf.of call_int_str ⟨a, n, rfl, hn, hl, c.here w (rp_int.mpr rfl) p⟩
theorem wc_strI {i : Int} {P : Dt → Prop} (hl : i.natAbs.log2 < 1920) (p : P (.str (toString i))) : WC X R (.type "str") [.int i] P := fun F H xs Q w r c => by
  obtain ⟨v, rfl, h1⟩ := r.one
  rw [rp_int.mp h1]
  exact crOf.of call_str_int ⟨i, rfl, hl, c.here w (rp_str.mpr rfl) p⟩
theorem wsl_str {z : Str} {lo hi : Option Int} {P : Dt → Prop} (hz : z.length ≤ 100000) (p : P (.str (cutS z lo hi))) : WSl X R (.str z) lo hi P := fun F H x Q w r c => by
  rw [rp_str.mp r]
  exact slOf.of sl_str ⟨z, rfl, Nat.le_trans hz (by decide), c.here w (rp_str.mpr rfl) p⟩
/-- for c in text -/
theorem i_str {tg e : Expr} {P : List Dt → Prop} (h : E X R G e fun d => ∃ z : Str, d = .str z ∧ P (z.cps.toList.map fun c => .str ⟨#[c]⟩)) : I X R G tg e P := fun σ F H Q ty c =>
  tiOf.of (pi_str pe_w) (h σ F H _ ty fun v F1 H1 d ex r ⟨z, e, p⟩ => by
    subst e
    refine ⟨z, rp_str.mp r, c _ F1 H1 _ ex (fun F2 H2 sf wf => ?_) p⟩
    refine ⟨fun i hi => ?_, fun i d hd => ?_⟩
    · rw [List.length_map, Array.length_toList] at hi
      exact hi
    · rw [List.getElem?_map] at hd
      cases e : z.cps.toList[i]? with
      | none => rw [e] at hd; cases hd
      | some c0 =>
        rw [e] at hd
        cases hd
        rw [Array.getElem?_toList] at e
        refine ⟨(Array.getElem?_eq_some_iff.mp e).1, fun x H' y => ?_⟩
        obtain ⟨rfl, c1, e1, rfl⟩ := y
        rw [e] at e1
        cases e1
        exact ⟨F2, .refl wf, rp_str.mpr rfl⟩)
/-- [.. for c in text], a row of Bools -/
theorem lc_boolS {tg elt : Expr} {scope : Scope} {vs : List Nat} {l : List Nat} (f : Nat → Bool) (j : Nat) (ha : ∀ c Y, Blk X scope Y → A Y tg (.str ⟨#[c]⟩) [(j, .str ⟨#[c]⟩)]) (hj : j ∈ vs)
    (he : ∀ c Y, Blk X scope Y → E Y R (setsD (wipeD G vs) [(j, .str ⟨#[c]⟩)]) elt fun y => y = .bl (f c)) : Lc X R G tg elt [] scope vs (l.map fun c => .str ⟨#[c]⟩) fun i acc => acc = ((l.map f).take i).map .bl := by
  refine ⟨rfl, fun i d acc hd hacc hl => ?_⟩
  rw [List.getElem?_map] at hd
  cases e : l[i]? with
  | none => rw [e] at hd; cases hd
  | some c =>
    rw [e] at hd
    cases hd
    refine ⟨[(j, .str ⟨#[c]⟩)], ha c, fun p hp => by rw [List.mem_singleton] at hp; rw [hp]; exact hj, fun Y bY => ts_nil ?_⟩
    rw [if_pos rfl]
    intro Z bZ
    refine (he c Z bZ).imp fun y hy => ?_
    rw [hy, hacc, List.take_add_one, List.getElem?_map, e, List.map_append]
    rfl
/-! ### f-strings -/
def EJ (X : Cx) (R : Reg) (G : List Sl) (es : List Expr) (acc : Str) (P : Str → Prop) : Prop := ∀ σ F H (Q : Str → Hp → Prop), Ty X.K R G σ F H → (∀ out F' H', Ext R F H F' H' → P out → Q out H') → tJs (es.map (tOf X)) acc σ H Q
theorem ej_nil {acc : Str} {P : Str → Prop} (p : P acc) : EJ X R G [] acc P := fun σ F H Q ty c => c acc F H (.refl ty.wf) p
theorem ej_cons {e : Expr} {es : List Expr} {acc : Str} {P : Str → Prop} (h : E X R G e fun d => ∃ y, d = .str y ∧ (acc ++ y).length ≤ sizeLine ∧ EJ X R G es (acc ++ y) P) : EJ X R G (e :: es) acc P := fun σ F H Q ty c =>
  h σ F H _ ty fun v F1 H1 d ex r ⟨y, ed, hl, h2⟩ => by
    subst ed
    exact ⟨y, rp_str.mp r, hl, h2 σ F1 H1 Q (ty.ext ex) fun out F2 H2 ex2 p => c out F2 H2 (ex.trans ex2) p⟩
theorem e_fmt {e : Expr} {P : Dt → Prop} (h : E X R G e fun d => (∃ y : Str, d = .str y ∧ y.length ≤ sizeLine ∧ P (.str y)) ∨ ∃ i : Int, d = .int i ∧ i.natAbs.log2 < 1920 ∧ P (.str (toString i))) : E X R G (.FormattedValue e (-1) none pos) P := fun σ F H Q ty c =>
  tOf.of (pe_fmt pe_w) (h σ F H _ ty fun v F1 H1 d ex r h2 => by
    rcases h2 with ⟨y, ed, hl, p⟩ | ⟨i, ed, hl, p⟩
    · subst ed
      exact .inl ⟨y, rp_str.mp r, hl, c _ F1 H1 _ ex (rp_str.mpr rfl) p⟩
    · subst ed
      exact .inr ⟨i, rp_int.mp r, hl, c _ F1 H1 _ ex (rp_str.mpr rfl) p⟩)
theorem pj_w : ∀ {es : List Expr}, PJ X es (es.map (tOf X))
  | [] => .nil
  | _ :: _ => .cons pe_w pj_w
theorem e_joined {v1 v2 : Expr} {rest : List Expr} {P : Dt → Prop} (h : EJ X R G (v1 :: v2 :: rest) Str.empty fun out => P (.str out)) : E X R G (.JoinedStr (v1 :: v2 :: rest) pos) P := fun σ F H Q ty c =>
  tOf.of (pe_joined pj_w) (h σ F H _ ty fun out F1 H1 ex p => c _ F1 H1 _ ex (rp_str.mpr rfl) p)
end
end VS
set_option Elab.async false
set_option linter.all false
set_option maxRecDepth 100000
set_option maxHeartbeats 2000000
/-! enumerate over lists, tuples and texts, from a count on. -/
namespace VS
open PySem PySem.Spec L2 PyProof.Rows
section
variable {prog : Program} {w : World} {A : Around} {E : Value → Shared → Prop} {s : Shared}
theorem enum1_new {v : Value} {o : Obj} {H : Heap → Prop} (B : Begins v o H) :
    Meets (Builtin.«enumerate.__new__» ⟨[.type "enumerate", v], []⟩) (fun _ R s => H s.heap ∧
      R (.ok (.ret (.ref (s.heap.push o).objs.size))) { s with heap := (s.heap.push o).push { cls := .type "enumerate", data := .fields #[.none, .bool false, .ref s.heap.objs.size, rawInt 0, .none, .none] } }) :=
  .of_wp fun prog w A R s h => by
    obtain ⟨hp, g, d, tk, os⟩ := s
    obtain ⟨h1, h⟩ := h
    have hsu := sub_enumerate
    have go : ∀ {A' : Around} {E : Value → Shared → Prop} {Q : Value → Shared → Prop}, Q (.ref hp.objs.size) ⟨hp.push o, g, d, tk, os⟩ → wpAny (model prog w) A' (pyIter v) Q E ⟨hp, g, d, tk, os⟩ := fun q => B.iter prog w _ _ ⟨hp, g, d, tk, os⟩ _ h1 q
    wp_walk using go
    refine wpAny_stack_any fun st => wpAny_pure ?_
    split
    · rename_i c _ _ _ _ _
      cases (c == Value.type "enumerate") <;> (wp_walk using go; exact ⟨_, rfl, h⟩)
    · wp_walk using go
      exact ⟨_, rfl, h⟩
theorem enum1_begins {v : Value} {o : Obj} {H : Heap → Prop} {Q : Value → Shared → Prop} (B : Begins v o H) (h1 : H s.heap)
    (h : ∀ h', IsEnum h' (s.heap.objs.size + 1) s.heap.objs.size 0 .none → h'.get? s.heap.objs.size = some o → h'.objs.size = s.heap.objs.size + 2 →
      (∀ b o, s.heap.get? b = some o → h'.get? b = some o) → Q (.ref (s.heap.objs.size + 1)) { s with heap := h' }) :
    wpAny (model prog w) A (call (.type "enumerate") [v]) Q E s := by
  refine callType_new F.called_enumerate (by decide) (F.typeCall_enumerate_1 _) (F.newCall_enumerate_1 _) (fun obj => F.args_object_init_2 obj _) F.entry_enumerate_new (enum1_new B) ⟨h1, ?_⟩
  have sz : (s.heap.push o).objs.size = s.heap.objs.size + 1 := Heap.size_push ..
  show _ ∧ _
  rw [sz]
  have hen : IsEnum ((s.heap.push o).push { cls := .type "enumerate", data := .fields #[.none, .bool false, .ref s.heap.objs.size, rawInt 0, .none, .none] }) (s.heap.objs.size + 1) s.heap.objs.size 0 .none := by
    have z := Heap.get?_push_size (s.heap.push o) (o := { cls := .type "enumerate", data := .fields #[.none, .bool false, .ref s.heap.objs.size, rawInt 0, .none, .none] }) rfl
    rw [sz] at z
    exact z
  exact ⟨⟨_, hen, rfl⟩, h _ hen (Heap.get?_push_of_some _ (Heap.get?_push_size _ B.free)) (by rw [Heap.size_push, sz]) fun b o x => Heap.get?_push_of_some _ (Heap.get?_push_of_some _ x)⟩
end
/-- pairs of a count and an item -/
def ItE (k0 : Int) (xs : List V) (Src : Hp → Prop) : It :=
  ⟨fun i H => i < xs.length ∧ Src H, fun i H v H' => ∃ T x, v = .ref T ∧ H T = none ∧ H' = upd H T (.tup [.int (k0 + (i : Nat)), x]) ∧ xs[i]? = some x, fun i H => xs.length ≤ i ∧ Src H⟩
theorem turn_enumT {P : Program} {w : World} {K : PySem.W.Frag} {elts : List Expr} {kk : Nat} {tpos : Pos} (k0 : Int) (a e it : Addr) (xs : List V) :
    Turn P w K (.Tuple elts kk tpos) (ItE k0 xs (fun H => SqT K H a xs)) [e, it] e (fun i h => (∃ old, IsEnum h e it (k0 + ((i : Nat) : Int)) old) ∧ h.IsTupleIter it a i ∧ e ≠ it ∧ e ≠ a ∧ a ≠ it ∧ i ≤ xs.length) where
  mem := by simp
  obj := fun i h st b hb => by
    obtain ⟨⟨old, he⟩, ⟨ob, ho, hc, hd⟩, _⟩ := st
    have cs : b = e ∨ b = it := by simpa using hb
    rcases cs with rfl | rfl
    · exact ⟨_, he, fun v q => nomatch q⟩
    · exact ⟨ob, ho, fun v q => by rw [hd] at q; cases q⟩
  keep := fun i h h' st k => by
    obtain ⟨⟨old, he⟩, hi, r⟩ := st
    exact ⟨⟨old, k e (by simp) _ he⟩, (let ⟨ob, q1, q2⟩ := hi; ⟨ob, k it (by simp) ob q1, q2⟩), r⟩
  item := by
    intro X hP hw hK hc i pins s σ H E I hf st hg
    subst hP hw hK
    obtain ⟨⟨old, he⟩, hit, hne, nea, nai, hin⟩ := st
    obtain ⟨hlt, hq⟩ := hg
    obtain ⟨its, rv, p, hz⟩ := I.tuple hq
    obtain ⟨x0, hgx⟩ : ∃ x0, xs[i]? = some x0 := ⟨_, List.getElem?_eq_getElem hlt⟩
    obtain ⟨u0, hu, ru⟩ := rv.get hgx
    have hsz : i < its.toArray.size := by rw [List.size_toArray, ← rv.length]; exact hlt
    have hh : X.A.in1.in1.handled = none := I.ok.hd hc
    have hh : X.A.in1.handled = none := hh
    have hel : e < s.heap.objs.size := Heap.lt_size he
    have hil : it < s.heap.objs.size := by obtain ⟨_, q, _⟩ := hit; exact Heap.lt_size q
    refine wpAny_pyNext_enum_itemC (Draws.tuple (prog := X.prog) (w := X.w) (A := X.A.in1) hh it a nai its.toArray) he ⟨hit, p⟩ hsz hne (by simp [hne, nea]) fun x h' tk hPx ho hs' hT hsz' hk => ?_
    have exu : x = u0 := by
      have h1 : its.toArray[i]? = some u0 := by simpa using hu
      rw [h1] at hPx
      exact (Option.some.inj hPx).symm
    subst exu
    have rx := ru
    have hit' := hs'.1
    refine ⟨_, rfl, wpAny_letOwnedTupleGo_enum (s := { s with heap := h', toks := tk + 1 }) ho fun h'' he' sb => ?_⟩
    have hT2 : h''.get? s.heap.objs.size = some _ := (sb.2 _ (Nat.ne_of_gt hel)).trans hT
    have new : ObjOk X.prog X.w (upd H s.heap.objs.size (.tup [.int (k0 + (i : Nat)), x0])) h'' s.heap.objs.size (.tup [.int (k0 + (i : Nat)), x0]) := ⟨by show 2 ≤ sizeLine; decide, _, .cons ⟨_, rfl⟩ (.cons rx .nil), ⟨_, hT2, rfl, _, rfl⟩⟩
    have I1 : Inv X pins σ (upd H s.heap.objs.size (.tup [.int (k0 + (i : Nat)), x0])) { s with heap := h'', toks := tk + 1 } :=
      I.turnedNew (ch := [e, it]) (fun b ob hb q => (sb.2 b (fun z' => hb (by simp [z']))).trans (hk b ob (fun z' => hb (by simp [z'])) (fun z' => hb (by simp [z'])) q)) hf (Nat.le_refl _) new
    refine ⟨.ref s.heap.objs.size, _, I1, rfl, ⟨_, x0, rfl, I.hok.fresh (Nat.le_refl _), rfl, hgx⟩, ⟨⟨x, ?_⟩, (let ⟨ob, q1, q2⟩ := hit'; ⟨ob, (sb.2 it (Ne.symm hne)).trans q1, q2⟩), hne, nea, nai, hlt⟩, fun b hb => ?_⟩
    · have e1 : k0 + ((i + 1 : Nat) : Int) = k0 + (i : Int) + 1 := by omega
      rw [e1]
      exact he'
    · have cs : b = e ∨ b = it := by simpa using hb
      have hlb : b < s.heap.objs.size := by rcases cs with rfl | rfl <;> assumption
      rw [upd_ne (Nat.ne_of_lt hlb)]
      exact (hf b hb).1
  done := by
    intro X hP hw hK hc i pins s σ H E I hf st hg
    subst hP hw hK
    obtain ⟨⟨old, he⟩, hit, hne, nea, nai, hin⟩ := st
    obtain ⟨hge, hq⟩ := hg
    obtain ⟨its, rv, p, hz⟩ := I.tuple hq
    have ei : i = its.toArray.size := by rw [List.size_toArray, ← rv.length]; omega
    subst ei
    have hh : X.A.in1.handled = none := I.ok.hd hc
    obtain ⟨f0, f1, f2, f3, f4, f5⟩ := hf it (by simp)
    exact wpAny_pyNext_enum_endD (Draws.tuple (prog := X.prog) (w := X.w) (A := X.A.in1) hh it a nai its.toArray) he ⟨hit, p⟩ fun h' eb => ⟨rfl, I.turned (t' := s.toks) (fun b ob hb q => eb b ob hb q) f0 f1 f3 f4 f5⟩
  self := fun A i s Q E st h => let ⟨⟨_, he⟩, _⟩ := st; wpAny_pyIter_enum he h
theorem turn_enumL {P : Program} {w : World} {K : PySem.W.Frag} {elts : List Expr} {kk : Nat} {tpos : Pos} (k0 : Int) (a e it : Addr) (xs : List V) :
    Turn P w K (.Tuple elts kk tpos) (ItE k0 xs (fun H => SqL K H a xs)) [e, it] e (fun i h => (∃ old, IsEnum h e it (k0 + ((i : Nat) : Int)) old) ∧ h.IsListIter it a i ∧ e ≠ it ∧ e ≠ a ∧ a ≠ it ∧ i ≤ xs.length) where
  mem := by simp
  obj := fun i h st b hb => by
    obtain ⟨⟨old, he⟩, ⟨ob, ho, hc, hd⟩, _⟩ := st
    have cs : b = e ∨ b = it := by simpa using hb
    rcases cs with rfl | rfl
    · exact ⟨_, he, fun v q => nomatch q⟩
    · exact ⟨ob, ho, fun v q => by rw [hd] at q; cases q⟩
  keep := fun i h h' st k => by
    obtain ⟨⟨old, he⟩, hi, r⟩ := st
    exact ⟨⟨old, k e (by simp) _ he⟩, (let ⟨ob, q1, q2⟩ := hi; ⟨ob, k it (by simp) ob q1, q2⟩), r⟩
  item := by
    intro X hP hw hK hc i pins s σ H E I hf st hg
    subst hP hw hK
    obtain ⟨⟨old, he⟩, hit, hne, nea, nai, hin⟩ := st
    obtain ⟨hlt, hq⟩ := hg
    obtain ⟨its, rv, p0, hz⟩ := I.list hq
    have p := p0.isList
    obtain ⟨x0, hgx⟩ : ∃ x0, xs[i]? = some x0 := ⟨_, List.getElem?_eq_getElem hlt⟩
    obtain ⟨u0, hu, ru⟩ := rv.get hgx
    have hsz : i < its.toArray.size := by rw [List.size_toArray, ← rv.length]; exact hlt
    have hh : X.A.in1.in1.handled = none := I.ok.hd hc
    have hh : X.A.in1.handled = none := hh
    have hel : e < s.heap.objs.size := Heap.lt_size he
    have hil : it < s.heap.objs.size := by obtain ⟨_, q, _⟩ := hit; exact Heap.lt_size q
    refine wpAny_pyNext_enum_itemC (Draws.list (prog := X.prog) (w := X.w) (A := X.A.in1) hh it a nai its.toArray) he ⟨hit, p⟩ hsz hne (by simp [hne, nea]) fun x h' tk hPx ho hs' hT hsz' hk => ?_
    have exu : x = u0 := by
      have h1 : its.toArray[i]? = some u0 := by simpa using hu
      rw [h1] at hPx
      exact (Option.some.inj hPx).symm
    subst exu
    have rx := ru
    have hit' := hs'.1
    refine ⟨_, rfl, wpAny_letOwnedTupleGo_enum (s := { s with heap := h', toks := tk + 1 }) ho fun h'' he' sb => ?_⟩
    have hT2 : h''.get? s.heap.objs.size = some _ := (sb.2 _ (Nat.ne_of_gt hel)).trans hT
    have new : ObjOk X.prog X.w (upd H s.heap.objs.size (.tup [.int (k0 + (i : Nat)), x0])) h'' s.heap.objs.size (.tup [.int (k0 + (i : Nat)), x0]) := ⟨by show 2 ≤ sizeLine; decide, _, .cons ⟨_, rfl⟩ (.cons rx .nil), ⟨_, hT2, rfl, _, rfl⟩⟩
    have I1 : Inv X pins σ (upd H s.heap.objs.size (.tup [.int (k0 + (i : Nat)), x0])) { s with heap := h'', toks := tk + 1 } :=
      I.turnedNew (ch := [e, it]) (fun b ob hb q => (sb.2 b (fun z' => hb (by simp [z']))).trans (hk b ob (fun z' => hb (by simp [z'])) (fun z' => hb (by simp [z'])) q)) hf (Nat.le_refl _) new
    refine ⟨.ref s.heap.objs.size, _, I1, rfl, ⟨_, x0, rfl, I.hok.fresh (Nat.le_refl _), rfl, hgx⟩, ⟨⟨x, ?_⟩, (let ⟨ob, q1, q2⟩ := hit'; ⟨ob, (sb.2 it (Ne.symm hne)).trans q1, q2⟩), hne, nea, nai, hlt⟩, fun b hb => ?_⟩
    · have e1 : k0 + ((i + 1 : Nat) : Int) = k0 + (i : Int) + 1 := by omega
      rw [e1]
      exact he'
    · have cs : b = e ∨ b = it := by simpa using hb
      have hlb : b < s.heap.objs.size := by rcases cs with rfl | rfl <;> assumption
      rw [upd_ne (Nat.ne_of_lt hlb)]
      exact (hf b hb).1
  done := by
    intro X hP hw hK hc i pins s σ H E I hf st hg
    subst hP hw hK
    obtain ⟨⟨old, he⟩, hit, hne, nea, nai, hin⟩ := st
    obtain ⟨hge, hq⟩ := hg
    obtain ⟨its, rv, p0, hz⟩ := I.list hq
    have p := p0.isList
    have ei : i = its.toArray.size := by rw [List.size_toArray, ← rv.length]; omega
    subst ei
    have hh : X.A.in1.handled = none := I.ok.hd hc
    obtain ⟨f0, f1, f2, f3, f4, f5⟩ := hf it (by simp)
    exact wpAny_pyNext_enum_endD (Draws.list (prog := X.prog) (w := X.w) (A := X.A.in1) hh it a nai its.toArray) he ⟨hit, p⟩ fun h' eb => ⟨rfl, I.turned (t' := s.toks) (fun b ob hb q => eb b ob hb q) f0 f1 f3 f4 f5⟩
  self := fun A i s Q E st h => let ⟨⟨_, he⟩, _⟩ := st; wpAny_pyIter_enum he h
theorem turn_enumS {P : Program} {w : World} {K : PySem.W.Frag} {elts : List Expr} {kk : Nat} {tpos : Pos} (k0 : Int) (z : Str) (tz : Tok) (e it : Addr) :
    Turn P w K (.Tuple elts kk tpos) (ItE k0 (z.cps.toList.map fun c => V.str ⟨#[c]⟩) (fun _ => True)) [e, it] e (fun i h => (∃ old, IsEnum h e it (k0 + ((i : Nat) : Int)) old) ∧ h.IsStrIter it (strIterType z) z tz i ∧ e ≠ it ∧ i ≤ z.cps.size) where
  mem := by simp
  obj := fun i h st b hb => by
    obtain ⟨⟨old, he⟩, ⟨ob, ho, hc, hd⟩, _⟩ := st
    have cs : b = e ∨ b = it := by simpa using hb
    rcases cs with rfl | rfl
    · exact ⟨_, he, fun v q => nomatch q⟩
    · exact ⟨ob, ho, fun v q => by rw [hd] at q; cases q⟩
  keep := fun i h h' st k => by
    obtain ⟨⟨old, he⟩, hi, r⟩ := st
    exact ⟨⟨old, k e (by simp) _ he⟩, (let ⟨ob, q1, q2⟩ := hi; ⟨ob, k it (by simp) ob q1, q2⟩), r⟩
  item := by
    intro X hP hw hK hc i pins s σ H E I hf st hg
    subst hP hw hK
    obtain ⟨⟨old, he⟩, hit, hne, hin⟩ := st
    obtain ⟨hlt, hq⟩ := hg
    have hcl : i < z.cps.size := by simpa using hlt
    have hcx : z.cps.toList[i]? = some z.cps[i] := by simp [hcl]
    have hgx : (z.cps.toList.map fun c => V.str ⟨#[c]⟩)[i]? = some (V.str ⟨#[z.cps[i]]⟩) := by rw [List.getElem?_map, hcx]; rfl
    have hh : X.A.in1.in1.handled = none := I.ok.hd hc
    have hh : X.A.in1.handled = none := hh
    have hel : e < s.heap.objs.size := Heap.lt_size he
    have hil : it < s.heap.objs.size := by obtain ⟨_, q, _⟩ := hit; exact Heap.lt_size q
    refine wpAny_pyNext_enum_itemC (Draws.text (prog := X.prog) (w := X.w) (A := X.A.in1) hh it z tz) he hit hcl hne (by simp [hne]) fun x h' tk hPx ho hs' hT hsz' hk => ?_
    obtain ⟨cc, uu, hcc, rfl⟩ := hPx
    have ecc : cc = z.cps[i] := by
      rw [Array.getElem?_eq_getElem hcl] at hcc
      exact (Option.some.inj hcc).symm
    subst ecc
    have rx : RelV (V.str ⟨#[z.cps[i]]⟩) (Value.str ⟨#[z.cps[i]]⟩ uu) := ⟨_, rfl⟩
    have hit' := hs'
    refine ⟨_, rfl, wpAny_letOwnedTupleGo_enum (s := { s with heap := h', toks := tk + 1 }) ho fun h'' he' sb => ?_⟩
    have hT2 : h''.get? s.heap.objs.size = some _ := (sb.2 _ (Nat.ne_of_gt hel)).trans hT
    have new : ObjOk X.prog X.w (upd H s.heap.objs.size (.tup [.int (k0 + (i : Nat)), (V.str ⟨#[z.cps[i]]⟩)])) h'' s.heap.objs.size (.tup [.int (k0 + (i : Nat)), (V.str ⟨#[z.cps[i]]⟩)]) := ⟨by show 2 ≤ sizeLine; decide, _, .cons ⟨_, rfl⟩ (.cons rx .nil), ⟨_, hT2, rfl, _, rfl⟩⟩
    have I1 : Inv X pins σ (upd H s.heap.objs.size (.tup [.int (k0 + (i : Nat)), (V.str ⟨#[z.cps[i]]⟩)])) { s with heap := h'', toks := tk + 1 } :=
      I.turnedNew (ch := [e, it]) (fun b ob hb q => (sb.2 b (fun z' => hb (by simp [z']))).trans (hk b ob (fun z' => hb (by simp [z'])) (fun z' => hb (by simp [z'])) q)) hf (Nat.le_refl _) new
    refine ⟨.ref s.heap.objs.size, _, I1, rfl, ⟨_, (V.str ⟨#[z.cps[i]]⟩), rfl, I.hok.fresh (Nat.le_refl _), rfl, hgx⟩, ⟨⟨(Value.str ⟨#[z.cps[i]]⟩ uu), ?_⟩, (let ⟨ob, q1, q2⟩ := hit'; ⟨ob, (sb.2 it (Ne.symm hne)).trans q1, q2⟩), hne, hcl⟩, fun b hb => ?_⟩
    · have e1 : k0 + ((i + 1 : Nat) : Int) = k0 + (i : Int) + 1 := by omega
      rw [e1]
      exact he'
    · have cs : b = e ∨ b = it := by simpa using hb
      have hlb : b < s.heap.objs.size := by rcases cs with rfl | rfl <;> assumption
      rw [upd_ne (Nat.ne_of_lt hlb)]
      exact (hf b hb).1
  done := by
    intro X hP hw hK hc i pins s σ H E I hf st hg
    subst hP hw hK
    obtain ⟨⟨old, he⟩, hit, hne, hin⟩ := st
    obtain ⟨hge, hq⟩ := hg
    have ei : i = z.cps.size := by simp at hge; omega
    subst ei
    have hh : X.A.in1.handled = none := I.ok.hd hc
    obtain ⟨f0, f1, f2, f3, f4, f5⟩ := hf it (by simp)
    exact wpAny_pyNext_enum_endD (Draws.text (prog := X.prog) (w := X.w) (A := X.A.in1) hh it z tz) he hit fun h' eb => ⟨rfl, I.turned (t' := s.toks) (fun b ob hb q => eb b ob hb q) f0 f1 f3 f4 f5⟩
  self := fun A i s Q E st h => let ⟨⟨_, he⟩, _⟩ := st; wpAny_pyIter_enum he h
section
variable {X : Cx} {R : Reg} {G : List Sl} {pos : Pos}
def enumD (k0 : Int) (ds : List Dt) : List Dt := ds.mapIdx fun i d => .tup [.int (k0 + (i : Nat)), d]
theorem enumD_get {k0 : Int} {ds : List Dt} {i : Nat} {d : Dt} (h : (enumD k0 ds)[i]? = some d) : ∃ x, ds[i]? = some x ∧ d = .tup [.int (k0 + (i : Nat)), x] := by
  unfold enumD at h
  rw [List.getElem?_mapIdx] at h
  cases e : ds[i]? with
  | none => rw [e] at h; cases h
  | some x => rw [e] at h; exact ⟨x, rfl, (Option.some.inj h).symm⟩
theorem enumD_len (k0 : Int) (ds : List Dt) : (enumD k0 ds).length = ds.length := by simp [enumD]
/-- what is walked, as data -/
def WkD : Dt → Option (List Dt)
  | .lst ds => some ds
  | .tup ds => some ds
  | .str z => some (z.cps.toList.map fun c => .str ⟨#[c]⟩)
  | _ => none
theorem itd_enum {F1 : Hp} {k0 : Int} {ds : List Dt} {vs : List V} {Src : Hp → Prop} (rl : RpL X.K F1 ds vs) (hs : ∀ F H, Same F1 F → Wf R F H → Src H) : Itd X.K R F1 (ItE k0 vs Src) (enumD k0 ds) := fun F2 H2 sf wf => by
  have hS := hs F2 H2 sf wf
  refine ⟨fun i hi => ⟨by rw [enumD_len] at hi; rw [← rl.length]; exact hi, hS⟩, fun i d hd => ?_⟩
  obtain ⟨x, hx, rfl⟩ := enumD_get hd
  obtain ⟨v, hv, rv⟩ := rl.get hx
  refine ⟨⟨(List.getElem?_eq_some_iff.mp hv).1, hS⟩, fun y H' hy => ?_⟩
  obtain ⟨T, x', rfl, hT, rfl, g⟩ := hy
  rw [hv] at g
  cases g
  exact ⟨_, wf.made hT, rp_tup_new (wf.fh.free hT) (.cons (rp_int.mpr rfl) (.cons (rv.mono sf) .nil))⟩
theorem fp_new {pins : List (Addr × Obj)} {σ : L2.St} {H : Hp} {s : Shared} (I : Inv X pins σ H s) {b : Addr} (hb : b ∈ [s.heap.objs.size + 1, s.heap.objs.size]) : FpOk X pins H b := by
  have cs : b = s.heap.objs.size + 1 ∨ b = s.heap.objs.size := by simpa using hb
  have hle : s.heap.objs.size ≤ b := by rcases cs with rfl | rfl <;> omega
  exact I.fpOk hle (I.hok.fresh hle)
/-- the head of a walk: enumerate's new cells -/
theorem enum_pie {pins : List (Addr × Obj)} {σ : L2.St} {F H : Hp} {s : Shared} {elts : List Expr} {kk : Nat} {tpos : Pos} {Q : It → Hp → Prop} {k0 : Int} {v : V} {u : Value} {d : Dt} {ds : List Dt} (I : Inv X pins σ H s) (wf : Wf R F H) (r : Rp X.K F d v) (ru : RelV v u) (hd : WkD d = some ds)
    (call1 : ∀ {o : Obj} {Hs : Heap → Prop} {Q' : Value → Shared → Prop}, Begins u o Hs → Hs s.heap → (∀ h', IsEnum h' (s.heap.objs.size + 1) s.heap.objs.size k0 .none → h'.get? s.heap.objs.size = some o → h'.objs.size = s.heap.objs.size + 2 → (∀ b o, s.heap.get? b = some o → h'.get? b = some o) → Q' (.ref (s.heap.objs.size + 1)) { s with heap := h' }) → wpAny (model X.prog X.w) X.A (call (.type "enumerate") (u :: args)) Q' X.xe s)
    (c : ∀ J, Itd X.K R F J (enumD k0 ds) → Q J H) : wpAny (model X.prog X.w) X.A (call (.type "enumerate") (u :: args)) (fun v s1 => wpAny (model X.prog X.w) X.A (pyIter v) (PIE X pins σ (.Tuple elts kk tpos) Q) X.xe s1) X.xe s := by
  cases d with
  | lst xs =>
    cases hd
    obtain ⟨a, vs, rfl, sq, rl⟩ := rp_lst.mp r
    cases ru
    have sq1 : SqL X.K H a vs := SqL.of (wf.fh _ _ sq)
    obtain ⟨its, rv, p, hz⟩ := I.list sq1
    refine call1 (begins_list a its.toArray) p.isList fun h' he hit hsz hk => wpAny_pyIter_enum he ?_
    have I2 : Inv X pins σ H { s with heap := h' } := I.kept (t' := s.toks) hk
    have hal : a < s.heap.objs.size := by obtain ⟨o, q, _⟩ := p.isList; exact Heap.lt_size q
    exact ⟨s.heap.objs.size + 1, [s.heap.objs.size + 1, s.heap.objs.size], _, _, H, rfl, I2, turn_enumL k0 a (s.heap.objs.size + 1) s.heap.objs.size vs, ⟨⟨.none, by simpa using he⟩, ⟨_, hit, rfl, rfl⟩, Nat.succ_ne_self _, Nat.ne_of_gt (Nat.lt_succ_of_lt hal), Nat.ne_of_lt hal, Nat.zero_le _⟩, fun b hb => fp_new I hb, c _ (itd_enum rl fun F2 H2 sf w2 => SqL.of (w2.fh _ _ (sf _ _ sq)))⟩
  | tup xs =>
    cases hd
    obtain ⟨a, vs, rfl, sq, rl⟩ := rp_tup.mp r
    cases ru
    have sq1 : SqT X.K H a vs := sq_t wf.fh sq
    obtain ⟨its, rv, p, hz⟩ := I.tuple sq1
    refine call1 (begins_tuple a its.toArray) p fun h' he hit hsz hk => wpAny_pyIter_enum he ?_
    have I2 : Inv X pins σ H { s with heap := h' } := I.kept (t' := s.toks) hk
    have hal : a < s.heap.objs.size := p.lt
    exact ⟨s.heap.objs.size + 1, [s.heap.objs.size + 1, s.heap.objs.size], _, _, H, rfl, I2, turn_enumT k0 a (s.heap.objs.size + 1) s.heap.objs.size vs, ⟨⟨.none, by simpa using he⟩, ⟨_, hit, rfl, rfl⟩, Nat.succ_ne_self _, Nat.ne_of_gt (Nat.lt_succ_of_lt hal), Nat.ne_of_lt hal, Nat.zero_le _⟩, fun b hb => fp_new I hb, c _ (itd_enum rl fun F2 H2 sf w2 => sq_t w2.fh (sq_t sf sq))⟩
  | str z =>
    cases hd
    have ev := rp_str.mp r
    subst ev
    obtain ⟨tz, rfl⟩ := ru
    refine call1 (begins_text z tz) trivial fun h' he hit hsz hk => wpAny_pyIter_enum he ?_
    have I2 : Inv X pins σ H { s with heap := h' } := I.kept (t' := s.toks) hk
    have rl : ∀ l : List Nat, RpL X.K F (l.map fun c => Dt.str ⟨#[c]⟩) (l.map fun c => V.str ⟨#[c]⟩) := fun l => by
      induction l with
      | nil => exact .nil
      | cons c l ih => exact .cons (rp_str.mpr rfl) ih
    exact ⟨s.heap.objs.size + 1, [s.heap.objs.size + 1, s.heap.objs.size], _, _, H, rfl, I2, turn_enumS k0 z tz (s.heap.objs.size + 1) s.heap.objs.size, ⟨⟨.none, by simpa using he⟩, ⟨_, hit, rfl, rfl⟩, Nat.succ_ne_self _, Nat.zero_le _⟩, fun b hb => fp_new I hb, c _ (itd_enum (rl _) fun F2 H2 sf w2 => trivial)⟩
  | _ => cases hd
/-- for i, x in enumerate(e) -/
theorem i_enum {e : Expr} {p tpos : Pos} {elts : List Expr} {kk : Nat} {P : List Dt → Prop} (hg : Gl X "enumerate") (hm : X.mg "enumerate" = none) (h : EA X R G [e] fun ds => ∃ d xs, ds = [d] ∧ WkD d = some xs ∧ P (enumD 0 xs))
    (hs : starEach [e] X.env = [(false, eval e X.env)] := by rfl) : I X R G (.Tuple elts kk tpos) (.Call (.Name "enumerate" p) [e] [] pos) P := fun σ F H Q ty c => by
  have ht := h σ F H (fun vs H1 => ∃ v d xs F1, vs = [v] ∧ Ext R F H F1 H1 ∧ Rp X.K F1 d v ∧ WkD d = some xs ∧ P (enumD 0 xs)) ty fun vs F1 H1 ds ex r ⟨d, xs, ed, hd, pp⟩ => by
    subst ed
    obtain ⟨v, t, rfl, r1, r2⟩ := r.of_cons
    obtain rfl := r2.of_nil
    exact ⟨v, d, xs, F1, rfl, ex, r1, hd, pp⟩
  unfold tiOf
  intro pins s I
  refine Call_ (ld_blt I hg hm boot_enumerate (PyProof.Rows.callWith_type1 (thn (pa_w.run pos pins s σ H _ I ht) fun us s1 ⟨vs, H1, I1, r1, q1⟩ => ?_) hs rfl))
  obtain ⟨v, d, xs, F1, rfl, ex, rd, hd, pp⟩ := q1
  obtain ⟨u, rest, rfl, ru, rr⟩ : ∃ u rest, us = u :: rest ∧ RelV v u ∧ rest = [] := by
    cases r1 with
    | cons a b => cases b; exact ⟨_, _, rfl, a, rfl⟩
  subst rr
  exact enum_pie (args := []) I1 ex.wf rd ru hd (fun B h1 k => enum1_begins B h1 k) fun J it => c J F1 H1 _ ex it pp
/-- for i, x in enumerate(e, n) -/
theorem i_enumK {e e2 : Expr} {p tpos : Pos} {elts : List Expr} {kk : Nat} {P : List Dt → Prop} (hg : Gl X "enumerate") (hm : X.mg "enumerate" = none) (h : EA X R G [e, e2] fun ds => ∃ d xs k0, ds = [d, .int k0] ∧ WkD d = some xs ∧ (-(2 ^ 62) ≤ k0 ∧ k0 < 2 ^ 62) ∧ P (enumD k0 xs))
    (hs : starEach [e, e2] X.env = (false, eval e X.env) :: starEach [e2] X.env := by rfl) (hpl : (backTo pos (starEach [e2] X.env)).any (·.1) = false := by rfl) : I X R G (.Tuple elts kk tpos) (.Call (.Name "enumerate" p) [e, e2] [] pos) P := fun σ F H Q ty c => by
  have ht := h σ F H (fun vs H1 => ∃ v d xs k0 F1, vs = [v, .int k0] ∧ Ext R F H F1 H1 ∧ Rp X.K F1 d v ∧ WkD d = some xs ∧ (-(2 ^ 62) ≤ k0 ∧ k0 < 2 ^ 62) ∧ P (enumD k0 xs)) ty fun vs F1 H1 ds ex r ⟨d, xs, k0, ed, hd, hk, pp⟩ => by
    subst ed
    obtain ⟨v, t, rfl, r1, r2⟩ := r.of_cons
    obtain ⟨v2, t2, rfl, r3, r4⟩ := r2.of_cons
    obtain rfl := r4.of_nil
    obtain rfl := rp_int.mp r3
    exact ⟨v, d, xs, k0, F1, rfl, ex, r1, hd, hk, pp⟩
  unfold tiOf
  intro pins s I
  refine Call_ (ld_blt I hg hm boot_enumerate (PyProof.Rows.callWith_type1 (thn (pa_w.run pos pins s σ H _ I ht) fun us s1 ⟨vs, H1, I1, r1, q1⟩ => ?_) hs hpl))
  obtain ⟨v, d, xs, k0, F1, rfl, ex, rd, hd, hk, pp⟩ := q1
  obtain ⟨u, t, rfl, ru⟩ : ∃ u t, us = [u, .int k0 t] ∧ RelV v u := by
    cases r1 with
    | cons a b =>
      cases b with
      | cons a2 b2 =>
        cases b2
        obtain ⟨t, rfl⟩ := a2
        exact ⟨_, t, rfl, a⟩
  exact enum_pie (args := [.int k0 t]) I1 ex.wf rd ru hd (fun B h1 k => enum_begins B h1 (by omega) (by omega) k) fun J it => c J F1 H1 _ ex it pp
end
end VS
set_option Elab.async false
set_option linter.all false
namespace VS
open PySem PySem.Spec L2
theorem starts_pre {l p : List Nat} : Txt.startswith (SX.S l) (SX.S p) = decide (l.take p.length = p) := by
  unfold Txt.startswith
  rw [StrLaws.subAt_eq, List.drop_zero, SX.S_len, SX.S_len]
  show (decide (0 + p.length ≤ l.length) && (l.take p.length == p)) = _
  by_cases h : l.take p.length = p
  · have hl : p.length ≤ l.length := by
      have := congrArg List.length h
      rw [List.length_take] at this
      omega
    rw [decide_eq_true h, decide_eq_true (by omega), h]
    simp
  · rw [decide_eq_false h]
    have : (l.take p.length == p) = false := by
      cases hb : l.take p.length == p
      · rfl
      · exact absurd (eq_of_beq hb) h
    rw [this, Bool.and_false]
theorem numL_head {n : Nat} (h : 0 < n) : (TL.numL n).head? ≠ some 48 := by
  induction n using Nat.strongRecOn with
  | _ n ih =>
    by_cases hn : n < 10
    · rw [TL.numL_lt hn]
      intro e
      have := Option.some.inj e
      omega
    · rw [TL.numL_step (by omega), List.head?_append]
      have hd := ih (n / 10) (by omega) (by omega)
      have hne := TL.numL_ne (n / 10)
      cases e : (TL.numL (n / 10)).head? with
      | none => exact absurd (List.head?_eq_none_iff.mp e) hne
      | some c =>
        rw [e] at hd
        exact hd
end VS
set_option Elab.async false
set_option linter.all false
set_option maxRecDepth 100000
/-! small tactics: sizes of ints, preconditions. -/
namespace VS
open PySem PySem.Spec L2
theorem sz_lit (i : Int) : i.natAbs < 2 ^ (i.natAbs.log2 + 1) := Nat.lt_log2_self
theorem SzR.one {B : Nat} {r : Int × Int} (h : SzR B r) : r.1.natAbs < 2 ^ B := h.1
theorem SzR.two {B : Nat} {r : Int × Int} (h : SzR B r) : r.2.natAbs < 2 ^ B := h.2
theorem sz_mkR1 {n d : Int} {B : Nat} (hd : d ≠ 0) (h : n.natAbs < 2 ^ B) : (mkR n d).1.natAbs < 2 ^ B := Nat.lt_of_le_of_lt (mkR_le1 hd) h
theorem sz_mkR2 {n d : Int} {B : Nat} (hd : d ≠ 0) (h : d.natAbs < 2 ^ B) : (mkR n d).2.natAbs < 2 ^ B := Nat.lt_of_le_of_lt (mkR_le2 hd) h
theorem sz_add2 {a b : Nat} {i j : Int} (ha : i.natAbs < 2 ^ a) (hb : j.natAbs < 2 ^ b) : (i + j).natAbs < 2 ^ (max a b + 1) := sz_add (sz_up ha (Nat.le_max_left a b)) (sz_up hb (Nat.le_max_right a b))
theorem sz_sub2 {a b : Nat} {i j : Int} (ha : i.natAbs < 2 ^ a) (hb : j.natAbs < 2 ^ b) : (i - j).natAbs < 2 ^ (max a b + 1) := sz_sub (sz_up ha (Nat.le_max_left a b)) (sz_up hb (Nat.le_max_right a b))
theorem mulOk' {a b : Nat} {i j : Int} (ha : i.natAbs < 2 ^ a) (hb : j.natAbs < 2 ^ b) (h : Nat.ble (a + b) 900000 = true) : CMulW i j := mulOk ha hb (Nat.le_of_ble_eq_true h)
theorem sz_up' {a b : Nat} {i : Int} (ha : i.natAbs < 2 ^ a) (h : Nat.ble a b = true) : i.natAbs < 2 ^ b := sz_up ha (Nat.le_of_ble_eq_true h)
theorem szr_mk {B : Nat} {x y : Int} (h1 : x.natAbs < 2 ^ B) (h2 : y.natAbs < 2 ^ B) : SzR B (x, y) := ⟨h1, h2⟩
theorem divA_ok {a : Nat} {i j : Int} (h0 : j ≠ 0) (h : j.natAbs < 2 ^ a) (ha : Nat.ble a 9000 = true) : CDivA i j := by
  refine ⟨h0, ?_⟩
  have h2 := Nat.le_of_ble_eq_true ha
  have h1 : j.natAbs < 2 ^ 9000 := Nat.lt_of_lt_of_le h (Nat.pow_le_pow_right (by decide) h2)
  exact PySem.Flt.log2_lt_of (by decide) h1
end VS
set_option Elab.async false
set_option linter.all false
set_option maxRecDepth 100000
/-! plain: words and their shares. -/
namespace VS
open PySem PySem.Spec L2
def ph_take : Ph := fun ds q _ => ∃ n : Int, ds = [.int n] ∧ (0 < n ∧ n.natAbs.log2 < 9000) ∧ ∀ v : Int, 0 ≤ v → v < n → q (.int v)
theorem u_take {n : Int} {q : Dt → Prop} {x : XD} (h : 0 < n ∧ n.natAbs.log2 < 9000) (p : ∀ v : Int, 0 ≤ v → v < n → q (.int v)) : ph_take [.int n] q x := ⟨n, rfl, h, p⟩
/-! compare -/
def cmpR (a b : Int × Int) : Int := if a.1 * b.2 - b.1 * a.2 = 0 then 0 else if 0 < a.1 * b.2 - b.1 * a.2 then 1 else -1
def ph_compare : Ph := fun ds q _ => ∃ (a b : Int × Int) (B : Nat), ds = [ratD a, ratD b] ∧ (SzR B a ∧ SzR B b ∧ B ≤ 100000) ∧ q (.int (cmpR a b))
theorem u_compare {a b : Int × Int} {B : Nat} {q : Dt → Prop} {x : XD} (h : SzR B a ∧ SzR B b ∧ B ≤ 100000) (p : q (.int (cmpR a b))) : ph_compare [ratD a, ratD b] q x := ⟨a, b, B, rfl, h, p⟩
/-! is_share -/
def isShare (n d : Int) : Bool := decide (1 ≤ d) && ((decide (0 ≤ n) && decide (n ≤ d)) && decide ((Int.gcd n d : Int) = 1))
def ph_is_share : Ph := fun ds q _ => ∃ n d, ds = [.tup [.int n, .int d]] ∧ q (.bl (isShare n d))
theorem u_is_share {n d : Int} {q : Dt → Prop} {x : XD} (_ : True) (p : q (.bl (isShare n d))) : ph_is_share [.tup [.int n, .int d]] q x := ⟨n, d, rfl, p⟩
/-! _law_less -/
def lessR (a b : Int × Int) : Bool := decide (a.1 * b.2 < b.1 * a.2)
def ph__law_less : Ph := fun ds q _ => ∃ (a b : Int × Int) (B : Nat), ds = [ratD a, ratD b] ∧ (SzR B a ∧ SzR B b ∧ B ≤ 100000) ∧ q (.bl (lessR a b))
theorem u__law_less {a b : Int × Int} {B : Nat} {q : Dt → Prop} {x : XD} (h : SzR B a ∧ SzR B b ∧ B ≤ 100000) (p : q (.bl (lessR a b))) : ph__law_less [ratD a, ratD b] q x := ⟨a, b, B, rfl, h, p⟩
/-! _law_share -/
def ph__law_share : Ph := fun ds q _ => ∃ m : Int, ds = [.int m] ∧ (0 < m ∧ m ≤ 10 ^ 31) ∧ ∀ r : Int × Int, IsR r → SzR 110 r → 0 ≤ r.1 → r.1 ≤ r.2 → r.2 ≤ m → q (ratD r)
theorem u__law_share {m : Int} {q : Dt → Prop} {x : XD} (h : 0 < m ∧ m ≤ 10 ^ 31) (p : ∀ r : Int × Int, IsR r → SzR 110 r → 0 ≤ r.1 → r.1 ≤ r.2 → r.2 ≤ m → q (ratD r)) : ph__law_share [.int m] q x := ⟨m, rfl, h, p⟩
theorem share_pre {n d : Int} (h0 : 0 ≤ n) (h1 : n ≤ d) (h2 : 1 ≤ d) : 0 ≤ (mkR n d).1 ∧ (mkR n d).1 ≤ (mkR n d).2 := by
  obtain ⟨ir, e⟩ := mkR_spec (n := n) (d := d) (by omega)
  generalize mkR n d = r at *
  have p := ir.1
  constructor
  · have h : 0 ≤ r.1 * d := by rw [e]; exact Int.mul_nonneg h0 (by omega)
    exact Int.nonneg_of_mul_nonneg_left h (by omega)
  · have h : r.1 * d ≤ r.2 * d := by rw [e, Int.mul_comm n]; exact Int.mul_le_mul_of_nonneg_left h1 (by omega)
    exact Int.le_of_mul_le_mul_right h (by omega)
/-! read_number -/
def dg : List Nat := [48, 49, 50, 51, 52, 53, 54, 55, 56, 57]
def rdNum (l : List Nat) (most : Int) : Int := if l = [] ∨ most < l.length ∨ (∃ c ∈ l, c ∉ dg) then -1 else if l.head? = some 48 ∧ 1 < l.length then -1 else ((NumText.digitsVal l : Nat) : Int)
def ph_read_number : Ph := fun ds q _ => ∃ (l : List Nat) (most : Int), ds = [.str (SX.S l), .int most] ∧ (l.length ≤ 90000 ∧ most ≤ 600) ∧ q (.int (rdNum l most))
theorem u_read_number {l : List Nat} {most : Int} {q : Dt → Prop} {x : XD} (h : l.length ≤ 90000 ∧ most ≤ 600) (p : q (.int (rdNum l most))) : ph_read_number [.str (SX.S l), .int most] q x := ⟨l, most, rfl, h, p⟩
/-! read_share -/
def okSh (n d : Int) : Bool := isShare n d && (!decide (n = 0) && !decide (n = d))
/-- the share that a text tells -/
def rdShare (l : List Nat) : Option (Int × Int) := match TL.par [47] [] l with
  | some (p, q) => if okSh (rdNum p 30) (rdNum q 30) = true then some (rdNum p 30, rdNum q 30) else none
  | none => none
def shD : Option (Int × Int) → Dt
  | some r => ratD r
  | none => .non
theorem par_len0 : ∀ (l acc : List Nat) {p q : List Nat}, TL.par [47] acc l = some (p, q) → p.length ≤ acc.length + l.length ∧ q.length ≤ l.length
  | [], acc, p, q, h => by cases h
  | c :: r, acc, p, q, h => by
    unfold TL.par at h
    split at h
    · cases h
      exact ⟨by omega, by simp⟩
    · have := par_len0 r (acc ++ [c]) h
      simp only [List.length_append, List.length_cons, List.length_nil] at this ⊢
      omega
theorem par_len {l p q : List Nat} (h : TL.par [47] [] l = some (p, q)) : p.length ≤ l.length ∧ q.length ≤ l.length := by
  have := par_len0 l [] h
  simpa using this
def ph_read_share : Ph := fun ds q _ => ∃ l : List Nat, ds = [.str (SX.S l)] ∧ l.length ≤ 90000 ∧ q (shD (rdShare l))
theorem u_read_share {l : List Nat} {q : Dt → Prop} {x : XD} (h : l.length ≤ 90000) (p : q (shD (rdShare l))) : ph_read_share [.str (SX.S l)] q x := ⟨l, rfl, h, p⟩
/-! read_word -/
def restL (k : Str) (l : List Nat) : List Nat := (cutS (SX.S l) (some ((k.length : Int) + 1)) none).cps.toList
def tryK (k : Str) (l : List Nat) : Option (Int × Int) := if Txt.startswith (SX.S l) (k ++ Str.ofString " ") = true then rdShare (restL k l) else none
def rdWord (l : List Nat) : Option (Str × Option (Int × Int)) := if SX.S l = Str.ofString "no word" then some (Str.ofString "no word", none) else match tryK "at least" l with
  | some r => some (Str.ofString "at least", some r)
  | none => match tryK "below" l with
    | some r => some (Str.ofString "below", some r)
    | none => none
def wdD (w : Str × Option (Int × Int)) : Dt := .tup [.str w.1, shD w.2]
theorem rdNum_num {n : Nat} (h0 : 0 < n) (h : n < 10 ^ 30) : rdNum (TL.numL n) 30 = (n : Int) := by
  unfold rdNum
  have hl := TL.numL_len (k := 30) (by decide) h
  rw [if_neg, if_neg, TL.numL_val]
  · rintro ⟨h1, _⟩
    exact numL_head h0 h1
  · rintro (h1 | h1 | ⟨c, hc, hd⟩)
    · exact TL.numL_ne n h1
    · omega
    · have := TL.numL_digits n c hc
      apply hd
      unfold dg
      simp only [List.mem_cons, List.not_mem_nil, or_false]
      omega
theorem rdShare_num {n d : Nat} (hn : 0 < n) (hnd : n < d) (hd : d < 10 ^ 30) (hg : Nat.gcd n d = 1) : rdShare (TL.numL n ++ 47 :: TL.numL d) = some ((n : Int), (d : Int)) := by
  unfold rdShare
  have e : TL.par [47] [] (TL.numL n ++ 47 :: TL.numL d) = some (TL.numL n, TL.numL d) := SX.par_head (sep := []) (TL.numL d) (TL.numL_free (by omega))
  rw [e]
  dsimp only
  rw [rdNum_num hn (by omega), rdNum_num (by omega) hd, if_pos]
  unfold okSh isShare
  have hg2 : Int.gcd (n : Int) (d : Int) = 1 := hg
  rw [hg2, decide_eq_true (show (1 : Int) ≤ (d : Int) by omega), decide_eq_true (show (0 : Int) ≤ (n : Int) by omega), decide_eq_true (show (n : Int) ≤ (d : Int) by omega), decide_eq_false (show ¬ (n : Int) = 0 by omega), decide_eq_false (show ¬ (n : Int) = (d : Int) by omega)]
  rfl
theorem rest_app (k : Str) (r : List Nat) : restL k (k.cps.toList ++ 32 :: r) = r := by
  unfold restL
  rw [C8.cutS_slice, SX.slice_from (by omega)]
  show (k.cps.toList ++ 32 :: r).drop ((k.length : Int) + 1).toNat = r
  have e : ((k.length : Int) + 1).toNat = k.cps.toList.length + 1 := by rw [Array.length_toList]; show _ = k.length + 1; omega
  rw [e, List.drop_append]
  simp
theorem tryK_app (k : Str) (r : List Nat) : tryK k (k.cps.toList ++ 32 :: r) = rdShare r := by
  unfold tryK
  have e : k ++ Str.ofString " " = SX.S (k.cps.toList ++ [32]) := by
    have := SX.S_cat k.cps.toList [32]
    rw [SX.S_tl] at this
    exact this
  rw [e, starts_pre, if_pos, rest_app]
  refine decide_eq_true ?_
  rw [show k.cps.toList ++ 32 :: r = (k.cps.toList ++ [32]) ++ r by simp, List.take_left]
theorem rdWord_at {n d : Nat} (hn : 0 < n) (hnd : n < d) (hd : d < 10 ^ 30) (hg : Nat.gcd n d = 1) : rdWord ((Str.ofString "at least").cps.toList ++ 32 :: (TL.numL n ++ 47 :: TL.numL d)) = some (Str.ofString "at least", some ((n : Int), (d : Int))) := by
  unfold rdWord
  rw [if_neg, tryK_app, rdShare_num hn hnd hd hg]
  intro h
  have := SX.S_inj (b := (Str.ofString "no word").cps.toList) h
  cases this
theorem rdWord_below {n d : Nat} (hn : 0 < n) (hnd : n < d) (hd : d < 10 ^ 30) (hg : Nat.gcd n d = 1) : rdWord ((Str.ofString "below").cps.toList ++ 32 :: (TL.numL n ++ 47 :: TL.numL d)) = some (Str.ofString "below", some ((n : Int), (d : Int))) := by
  unfold rdWord
  have e1 : tryK "at least" ((Str.ofString "below").cps.toList ++ 32 :: (TL.numL n ++ 47 :: TL.numL d)) = none := by
    unfold tryK
    rw [show ("at least" : Str) ++ Str.ofString " " = SX.S (Str.ofString "at least ").cps.toList by decide, starts_pre, if_neg]
    rw [decide_eq_true_eq]
    intro h
    cases h
  rw [if_neg, e1, tryK_app, rdShare_num hn hnd hd hg]
  intro h
  have := SX.S_inj (b := (Str.ofString "no word").cps.toList) h
  cases this
def ph_read_word (C : Addr) : Ph := fun ds q x => ∃ l : List Nat, ds = [.str (SX.S l)] ∧ l.length ≤ 90000 ∧ (∀ w, rdWord l = some w → q (wdD w)) ∧ (rdWord l = none → x C ["word"] [.str (SX.S l)])
theorem u_read_word {C : Addr} {l : List Nat} {w : Str × Option (Int × Int)} {q : Dt → Prop} {x : XD} (h : l.length ≤ 90000 ∧ rdWord l = some w) (p : q (wdD w)) : ph_read_word C [.str (SX.S l)] q x :=
  ⟨l, rfl, h.1, fun w' e => by rw [h.2] at e; cases e; exact p, fun e => by rw [h.2] at e; cases e⟩
/-! is_wrong -/
def wrongW (w : Str × Option (Int × Int)) (s : Int × Int) : Bool := match w.2 with
  | none => false
  | some a => if w.1 = Str.ofString "at least" then decide (cmpR s a < 0) else decide (0 ≤ cmpR s a)
def ph_is_wrong : Ph := fun ds q _ => ∃ (l : List Nat) (w : Str × Option (Int × Int)) (s : Int × Int) (B : Nat), ds = [.str (SX.S l), ratD s] ∧ (l.length ≤ 90000 ∧ rdWord l = some w ∧ SzR B s ∧ (∀ a, w.2 = some a → SzR B a) ∧ B ≤ 100000) ∧ q (.bl (wrongW w s))
theorem u_is_wrong {l : List Nat} {w : Str × Option (Int × Int)} {s : Int × Int} {B : Nat} {q : Dt → Prop} {x : XD} (h : l.length ≤ 90000 ∧ rdWord l = some w ∧ SzR B s ∧ (∀ a, w.2 = some a → SzR B a) ∧ B ≤ 100000) (p : q (.bl (wrongW w s))) : ph_is_wrong [.str (SX.S l), ratD s] q x := ⟨l, w, s, B, rfl, h, p⟩
/-! words written -/
theorem num_S (n : Nat) : Str.ofString (toString (n : Int)) = SX.S (TL.numL n) := by
  have := SX.S_tl (Str.ofString (toString (n : Int)))
  rw [← this]
  exact congrArg SX.S (TL.tl_num n)
theorem text_S (k : Str) (n d : Nat) : (k ++ Str.ofString " ") ++ (Str.ofString (toString (n : Int)) ++ Str.ofString "/" ++ Str.ofString (toString (d : Int))) = SX.S (k.cps.toList ++ 32 :: (TL.numL n ++ 47 :: TL.numL d)) := by
  have ek : k = SX.S k.cps.toList := (SX.S_tl k).symm
  rw [num_S, num_S, show Str.ofString "/" = SX.S [47] by decide, show Str.ofString " " = SX.S [32] by decide]
  conv => lhs; rw [ek]
  rw [SX.S_cat, SX.S_cat, SX.S_cat, SX.S_cat]
  simp
theorem text_at (n d : Nat) : Str.ofString "at least " ++ (Str.ofString (toString (n : Int)) ++ Str.ofString "/" ++ Str.ofString (toString (d : Int))) = SX.S ((Str.ofString "at least").cps.toList ++ 32 :: (TL.numL n ++ 47 :: TL.numL d)) := by
  rw [← text_S, show Str.ofString "at least" ++ Str.ofString " " = Str.ofString "at least " by decide]
theorem text_be (n d : Nat) : Str.ofString "below " ++ (Str.ofString (toString (n : Int)) ++ Str.ofString "/" ++ Str.ofString (toString (d : Int))) = SX.S ((Str.ofString "below").cps.toList ++ 32 :: (TL.numL n ++ 47 :: TL.numL d)) := by
  rw [← text_S, show Str.ofString "below" ++ Str.ofString " " = Str.ofString "below " by decide]
theorem len_num {n : Nat} (h : n < 10 ^ 32) : (TL.numL n).length ≤ 32 := TL.numL_len (k := 32) (by decide) h
theorem sh_nat {r : Int × Int} (ir : IsR r) (h0 : 0 < r.1) (h1 : r.1 < r.2) (h2 : r.2 ≤ 10 ^ 20) : ∃ n d : Nat, r = ((n : Int), (d : Int)) ∧ 0 < n ∧ n < d ∧ d < 10 ^ 21 ∧ Nat.gcd n d = 1 := by
  refine ⟨r.1.toNat, r.2.toNat, ?_, by omega, by omega, by omega, ?_⟩
  · have e1 : ((r.1.toNat : Nat) : Int) = r.1 := by omega
    have e2 : ((r.2.toNat : Nat) : Int) = r.2 := by omega
    rw [e1, e2]
  · have := ir.2
    rw [← this]
    show _ = r.1.natAbs.gcd r.2.natAbs
    congr 1 <;> omega
theorem wrong_at (t a : Int × Int) : wrongW (Str.ofString "at least", some a) t = lessR t a := by
  unfold wrongW lessR cmpR
  dsimp only
  rw [if_pos rfl]
  refine decide_eq_decide.mpr ?_
  repeat' split
  all_goals omega
theorem wrong_be (t a : Int × Int) : wrongW (Str.ofString "below", some a) t = !lessR t a := by
  unfold wrongW lessR cmpR
  dsimp only
  rw [if_neg (by decide), ← decide_not]
  refine decide_eq_decide.mpr ?_
  repeat' split
  all_goals omega
theorem numL_ge : ∀ {k n : Nat}, 10 ^ k ≤ n → k < (TL.numL n).length
  | 0, n, _ => by
    have := TL.numL_ne n
    exact List.length_pos_iff.mpr this
  | k + 1, n, h => by
    have h10 : 10 ≤ n := Nat.le_trans (by rw [Nat.pow_succ]; exact Nat.le_mul_of_pos_left 10 (Nat.pow_pos (by decide))) h
    rw [TL.numL_step h10, List.length_append]
    have := numL_ge (k := k) (n := n / 10) (by rw [Nat.pow_succ] at h; exact (Nat.le_div_iff_mul_le (by decide)).mpr h)
    simp only [List.length_cons, List.length_nil]
    omega
theorem rdNum_0 : rdNum (TL.numL 0) 30 = 0 := by
  rw [TL.numL_lt (by decide)]
  decide
theorem rdNum_big {n : Nat} (h : 10 ^ 30 ≤ n) : rdNum (TL.numL n) 30 = -1 := by
  unfold rdNum
  rw [if_pos]
  refine .inr (.inl ?_)
  have := numL_ge h
  omega
theorem rdNum_all {n : Nat} (h : n < 10 ^ 30) : rdNum (TL.numL n) 30 = (n : Int) := by
  rcases Nat.eq_zero_or_pos n with rfl | h0
  · exact rdNum_0
  · exact rdNum_num h0 h
/-- the share of a text that tells n/d -/
theorem rdShare_bad {n d : Nat} (hnd : n ≤ d) (hb : ¬ (0 < n ∧ n < d ∧ d < 10 ^ 30)) : rdShare (TL.numL n ++ 47 :: TL.numL d) = none := by
  unfold rdShare
  have e : TL.par [47] [] (TL.numL n ++ 47 :: TL.numL d) = some (TL.numL n, TL.numL d) := SX.par_head (sep := []) (TL.numL d) (TL.numL_free (by omega))
  rw [e]
  dsimp only
  rw [if_neg]
  by_cases h : d < 10 ^ 30
  · rw [rdNum_all (n := n) (by omega), rdNum_all h]
    unfold okSh
    intro hz
    rw [Bool.and_eq_true, Bool.and_eq_true] at hz
    have h1 := hz.2.1
    have h2 := hz.2.2
    simp only [Bool.not_eq_eq_eq_not, Bool.not_true, decide_eq_false_iff_not] at h1 h2
    omega
  · rw [rdNum_big (n := d) (by omega)]
    unfold okSh isShare
    rw [decide_eq_false (show ¬ (1 : Int) ≤ -1 by decide)]
    simp
theorem rdWord_kat (r : List Nat) : rdWord ((Str.ofString "at least").cps.toList ++ 32 :: r) = (rdShare r).map fun s => (Str.ofString "at least", some s) := by
  unfold rdWord
  have e1 : tryK "below" ((Str.ofString "at least").cps.toList ++ 32 :: r) = none := by
    unfold tryK
    rw [show ("below" : Str) ++ Str.ofString " " = SX.S (Str.ofString "below ").cps.toList by decide, starts_pre, if_neg]
    rw [decide_eq_true_eq]
    intro h
    cases h
  rw [if_neg, tryK_app, e1]
  · cases rdShare r <;> rfl
  intro h
  have := SX.S_inj (b := (Str.ofString "no word").cps.toList) h
  cases this
theorem rdWord_kbe (r : List Nat) : rdWord ((Str.ofString "below").cps.toList ++ 32 :: r) = (rdShare r).map fun s => (Str.ofString "below", some s) := by
  unfold rdWord
  have e1 : tryK "at least" ((Str.ofString "below").cps.toList ++ 32 :: r) = none := by
    unfold tryK
    rw [show ("at least" : Str) ++ Str.ofString " " = SX.S (Str.ofString "at least ").cps.toList by decide, starts_pre, if_neg]
    rw [decide_eq_true_eq]
    intro h
    cases h
  rw [if_neg, e1, tryK_app]
  · cases rdShare r <;> rfl
  intro h
  have := SX.S_inj (b := (Str.ofString "no word").cps.toList) h
  cases this
/-- the two kinds of words -/
def IsKind (k : Str) : Prop := k = Str.ofString "at least" ∨ k = Str.ofString "below"
def wordL (k : Str) (n d : Nat) : List Nat := k.cps.toList ++ 32 :: (TL.numL n ++ 47 :: TL.numL d)
theorem rdWord_k {k : Str} (hk : IsKind k) (n d : Nat) : rdWord (wordL k n d) = (rdShare (TL.numL n ++ 47 :: TL.numL d)).map fun s => (k, some s) := by
  rcases hk with rfl | rfl
  · exact rdWord_kat _
  · exact rdWord_kbe _
theorem wordL_S (k : Str) (n d : Nat) : SX.S (wordL k n d) = k ++ Str.ofString " " ++ Str.ofString (toString (n : Int)) ++ Str.ofString "/" ++ Str.ofString (toString (d : Int)) := by
  unfold wordL
  have ek : k = SX.S k.cps.toList := (SX.S_tl k).symm
  rw [num_S, num_S, show Str.ofString "/" = SX.S [47] by decide, show Str.ofString " " = SX.S [32] by decide]
  conv => rhs; rw [ek]
  rw [SX.S_cat, SX.S_cat, SX.S_cat, SX.S_cat]
  simp
theorem IsKind.len {k : Str} (h : IsKind k) : k.length ≤ 8 := by rcases h with rfl | rfl <;> decide
theorem wordL_len {k : Str} (hk : IsKind k) {n d : Nat} (hn : n < 10 ^ 32) (hd : d < 10 ^ 32) : (wordL k n d).length ≤ 90 := by
  unfold wordL
  have h1 := len_num hn
  have h2 := len_num hd
  have h3 := hk.len
  have h4 : k.cps.toList.length = k.length := Array.length_toList
  simp only [List.length_append, List.length_cons]
  omega
theorem wordL_E (k : Str) (n d : Nat) : Str.empty ++ k ++ Str.ofString " " ++ Str.ofString (toString (n : Int)) ++ Str.ofString "/" ++ Str.ofString (toString (d : Int)) = SX.S (wordL k n d) := by
  have e : Str.empty ++ k = k := by
    have := SX.S_cat [] k.cps.toList
    rw [SX.S_tl, List.nil_append, SX.S_tl] at this
    exact this
  rw [e, wordL_S]
theorem num_len {n : Nat} (h : n < 10 ^ 32) : (Str.ofString (toString (n : Int))).length ≤ 32 := by rw [num_S, SX.S_len]; exact len_num h
theorem num_log {n : Nat} (h : n < 10 ^ 32) : (n : Int).natAbs.log2 < 1920 := Nat.lt_of_lt_of_le (PySem.Flt.log2_lt_of (k := 120) (by decide) (show n < 2 ^ 120 by omega)) (by decide)
def ph_made_word (C : Addr) : Ph := fun ds q x => ∃ (k : Str) (n d : Nat), ds = [.str k, ratD ((n : Int), (d : Int))] ∧ (IsKind k ∧ n < 10 ^ 32 ∧ d < 10 ^ 32) ∧ (rdShare (TL.numL n ++ 47 :: TL.numL d) ≠ none → q (.str (SX.S (wordL k n d)))) ∧ (rdShare (TL.numL n ++ 47 :: TL.numL d) = none → x C ["word"] [.str (SX.S (wordL k n d))])
abbrev kAt : Str := Str.ofString "at least"
abbrev kBe : Str := Str.ofString "below"
def ph_made_k (k : Str) (C : Addr) : Ph := fun ds q x => ph_made_word C (.str k :: ds) q x
theorem u_made_word {C : Addr} {k : Str} {n d : Nat} {q : Dt → Prop} {x : XD} (h : IsKind k ∧ n < 10 ^ 32 ∧ d < 10 ^ 32 ∧ rdShare (TL.numL n ++ 47 :: TL.numL d) ≠ none) (p : q (.str (SX.S (wordL k n d)))) : ph_made_word C [.str k, ratD ((n : Int), (d : Int))] q x :=
  ⟨k, n, d, rfl, ⟨h.1, h.2.1, h.2.2.1⟩, fun _ => p, fun z => absurd z h.2.2.2⟩
theorem eqD_true {a b : Dt} (h : okD a = true) (e : a = b) : (!eqD a b) = false := by rw [eqD_of e h]; rfl
theorem ok_wd {k : Str} (h : PyData.strOk k = true) (r : Option (Int × Int)) : okD (wdD (k, r)) = true := by
  cases r with
  | none => simp [okD, okN, wdD, shD, h]
  | some r => simp [okD, okN, wdD, shD, h, ratD]
theorem IsKind.ok {k : Str} (h : IsKind k) : PyData.strOk k = true := by rcases h with rfl | rfl <;> decide +kernel
end VS
set_option Elab.async false
set_option linter.all false
set_option maxRecDepth 100000
/-! own classes: instances as data. -/
namespace VS
open PySem PySem.Spec L2
def fldO (f : Str) : List Str → List Dt → Option Dt
  | n :: ns, x :: xs => if n == f then some x else fldO f ns xs
  | _, _ => none
def putO (f : Str) (d : Dt) : List Str → List Dt → List Str × List Dt
  | n :: ns, x :: xs => if n == f then (n :: ns, d :: xs) else (n :: (putO f d ns xs).1, x :: (putO f d ns xs).2)
  | _, _ => ([f], [d])
section
variable {K : PySem.W.Frag} {F : Hp}
theorem fld_get {f : Str} : ∀ {ns : List Str} {xs : List Dt} {vs : List V} {d : Dt}, RpL K F xs vs → ns.length = vs.length → fldO f ns xs = some d → ∃ v, (ns.zip vs).lookup f = some v ∧ Rp K F d v
  | [], _, vs, d, r, hl, h => by cases h
  | n :: ns, [], vs, d, r, hl, h => by cases h
  | n :: ns, x :: xs, vs, d, r, hl, h => by
    obtain ⟨v, t, rfl, r1, r2⟩ := r.of_cons
    unfold fldO at h
    by_cases e : (n == f) = true
    · rw [if_pos e] at h
      cases h
      have e' : (f == n) = true := by rw [beq_iff_eq] at e ⊢; exact e.symm
      exact ⟨v, by simp [List.zip_cons_cons, List.lookup, e'], r1⟩
    · rw [if_neg e] at h
      obtain ⟨v', h1, h2⟩ := fld_get (ns := ns) (xs := xs) r2 (by simpa using hl) h
      have e' : (f == n) = false := by rw [Bool.eq_false_iff]; intro z; apply e; rw [beq_iff_eq] at z ⊢; exact z.symm
      exact ⟨v', by simp [List.zip_cons_cons, List.lookup, e', h1], h2⟩
theorem fld_none {f : Str} : ∀ {ns : List Str} {vs : List V}, (ns.any fun n => n == f) = false → (ns.zip vs).lookup f = none
  | [], _, _ => by simp
  | n :: ns, [], _ => by simp
  | n :: ns, v :: vs, h => by
    simp only [List.any_cons, Bool.or_eq_false_iff] at h
    have e' : (f == n) = false := by rw [Bool.eq_false_iff]; intro z; have := h.1; rw [Bool.eq_false_iff] at this; apply this; rw [beq_iff_eq] at z ⊢; exact z.symm
    simp [List.zip_cons_cons, List.lookup, e', fld_none h.2]
theorem put_zip {f : Str} {y : V} {d : Dt} : ∀ {ns : List Str} {xs : List Dt} {vs : List V}, RpL K F xs vs → ns.length = vs.length → Rp K F d y → ∃ vs', putF f y (ns.zip vs) = (putO f d ns xs).1.zip vs' ∧ (putO f d ns xs).1.length = vs'.length ∧ RpL K F (putO f d ns xs).2 vs' ∧ vs'.length ≤ vs.length + 1
  | [], xs, vs, r, hl, ry => by
    have e : vs = [] := List.length_eq_zero_iff.mp (by simpa using hl.symm)
    subst e
    refine ⟨[y], ?_, ?_, ?_, by simp⟩
    · cases xs <;> rfl
    · cases xs <;> rfl
    · cases xs <;> exact .cons ry .nil
  | n :: ns, xs, vs, r, hl, ry => by
    cases xs with
    | nil => have e := r.of_nil; subst e; simp at hl
    | cons x xs =>
      obtain ⟨v, t, rfl, r1, r2⟩ := r.of_cons
      by_cases e : (n == f) = true
      · refine ⟨y :: t, ?_, ?_, ?_, by simp⟩
        · unfold putO
          rw [if_pos e]
          have e' := beq_iff_eq.mp e
          subst e'
          simp [List.zip_cons_cons, putF]
        · unfold putO; rw [if_pos e]; simpa using hl
        · unfold putO; rw [if_pos e]; exact .cons ry r2
      · obtain ⟨vs', h1, h2, h3, h4⟩ := put_zip (f := f) (y := y) (d := d) (ns := ns) (xs := xs) (vs := t) r2 (by simpa using hl) ry
        refine ⟨v :: vs', ?_, ?_, ?_, by simp; omega⟩
        · unfold putO
          rw [if_neg e]
          have e' : n ≠ f := fun z => e (beq_iff_eq.mpr z)
          simp [List.zip_cons_cons, putF, h1, e']
        · unfold putO; rw [if_neg e]; simp [h2]
        · unfold putO; rw [if_neg e]; exact .cons r1 h3
end
section
variable {X : Cx} {R : Reg} {G : List Sl} {pos : Pos} {k : Kt}
/-- e.f -/
theorem e_fld {e : Expr} {f : Str} {P : Dt → Prop} (h : E X R G e fun d => ∃ C ns xs r, d = .obj C ns xs ∧ Cls X.K C ∧ NoAttr X.K C f ∧ fldO f ns xs = some r ∧ P r) (hb : attributeBase e f X.env (eval e X.env) = eval e X.env := by rfl) : E X R G (.Attribute e f pos) P := fun σ F H Q ty c =>
  tOf.of (pe_fld pe_w hb) (h σ F H _ ty fun v F1 H1 d ex r ⟨C, ns, xs, r', ed, cl, na, hf, p⟩ => by
    subst ed
    obtain ⟨a, dx, vs, rfl, h1, hl, rl⟩ := rp_obj.mp r
    obtain ⟨v, h2, rv⟩ := fld_get rl hl hf
    exact ⟨a, C, dx, _, v, rfl, ex.wf.fh _ _ h1, cl, na, h2, c v F1 H1 r' ex rv p⟩)
/-- the same, of one's own object -/
theorem e_fldO (i : Nat) {x : Str} {f : Str} {p : Pos} {C a0 : Addr} {ns : List Str} {xs : List Dt} {r : Dt} {P : Dt → Prop} (hg : G[i]? = some (.ow (.at_ a0 (.obj C ns xs)))) (hN : X.N[i]? = some x) (hv : Vis X.env.scope x) (cl : Cls X.K C) (na : NoAttr X.K C f) (hf : fldO f ns xs = some r) (q : P r)
    (hd : (x == ("__debug__" : Str)) = false := by decide) (hcd : (x == ("__classdict__" : Str)) = false := by decide) (hb : attributeBase (.Name x p) f X.env (eval (.Name x p) X.env) = eval (.Name x p) X.env := by rfl) : E X R G (.Attribute (.Name x p) f pos) P := fun σ F H Q ty c => by
  obtain ⟨o, hs, fo, nM, ea, dx, vs, h1, hl, rl⟩ := ty.own hg
  obtain ⟨v, h2, rv⟩ := fld_get rl hl hf
  exact tOf.of (pe_fld (pe_var hN hv hd hcd) hb) ⟨.ref o, by rw [hs], o, C, dx, _, v, rfl, h1, cl, na, h2, c.here ty.wf rv q⟩
/-- o.f = e, o one's own object -/
theorem s_fldO (i : Nat) {x : Str} {f : Str} {e : Expr} {p pos' : Pos} {C a0 : Addr} {ns : List Str} {xs : List Dt} (hg : G[i]? = some (.ow (.at_ a0 (.obj C ns xs)))) (hN : X.N[i]? = some x) (hv : Vis X.env.scope x) (cl : Cls X.K C) (na : NoAttr X.K C f) (hn : ns.length < 900)
    (h : E X R G e fun d => k.nx (G.set i (.ow (.at_ a0 (.obj C (putO f d ns xs).1 (putO f d ns xs).2)))))
    (hd : (x == ("__debug__" : Str)) = false := by decide) (hcd : (x == ("__classdict__" : Str)) = false := by decide) (hs : swapsWith e (some (.Attribute (.Name x p) f pos')) pos.line X.env = pure false := by rfl) : S1 X R (.Assign [.Attribute (.Name x p) f pos'] e pos) G k := fun F0 H0 σ F H D ty b c =>
  s1Of.of (ps_fld (pe_var hN hv hd hcd) pe_w hs) (h σ F H _ ty fun y F1 H1 d ex r q => by
    have ty1 := ty.ext ex
    obtain ⟨o, ho, fo, nM, ea, dx, vs, h1, hl, rl⟩ := ty1.own hg
    refine ⟨.ref o, by rw [ho], o, C, dx, _, rfl, h1, cl, na, by rw [List.length_zip]; omega, ?_⟩
    obtain ⟨vs', e1, e2, e3, _⟩ := put_zip (f := f) (y := y) (d := d) rl hl r
    have ty2 := ty1.mut (d' := .at_ a0 (.obj C (putO f d ns xs).1 (putO f d ns xs).2)) (u := .ins C dx (putF f y (ns.zip vs))) hg ho ⟨ea, dx, vs', by rw [upd_same, e1], e2, e3⟩
    exact c.nx _ _ _ _ q ty2 ((b.step ex).mut ty2 hg ho))
/-- a borrowed thing -/
def lfree : Dt → Bool
  | .lst _ => false
  | .frl _ => false
  | .tup xs => lfreeL xs
  | .dT _ xs => lfreeL xs
  | .dK _ xs => lfreeL xs
  | .obj _ _ xs => lfreeL xs
  | .exv .. => false
  | .at_ .. => false
  | _ => true
where lfreeL : List Dt → Bool
  | [] => true
  | x :: xs => lfree x && lfreeL xs
end
end VS
set_option Elab.async false
set_option linter.all false
set_option maxRecDepth 100000
/-! own classes: making, methods. -/
namespace VS
open PySem PySem.Spec L2
section
variable {P : Program} {w : World} {K : PySem.W.Frag} {mg : Str → Option Value} {base : Heap}
/-- C(..): a class called, by its __init__ -/
theorem mk_fnR {CX : CXT} {C fI : Addr} {k : Nat} {sp : Sp} (M : Mk K C fI) (F : FnR P w K mg base CX k fI sp) (hup : StX.CXUp CX) :
    FnR P w K mg base CX (k + 1) C (fun vs H Q E => ∀ x dx, H x = none → H dx = none → dx ≠ x → sp (.ref x :: vs) (upd (upd H dx (.own x)) x (.ins C dx [])) (fun v H2 => v = .non ∧ Q (.ref x) H2) E) := by
  intro A outer s H us vs Q E hr e0 r h
  have hn0 : H s.heap.objs.size = none := e0.hok.fresh (Nat.le_refl _)
  have hn1 : H (s.heap.objs.size + 1) = none := e0.hok.fresh (Nat.le_succ _)
  have nn : s.heap.objs.size ≠ s.heap.objs.size + 1 := by omega
  have hq := h (s.heap.objs.size + 1) s.heap.objs.size hn1 hn0 nn
  have KX : K.In s.heap := e0.mod.kin.keeps fun b o e => (e0.bs b o e).1
  have sz1 : (s.heap.push PySem.W.emptyDict).objs.size = s.heap.objs.size + 1 := Heap.size_push _ _
  have g1 : (s.heap.push PySem.W.emptyDict).get? s.heap.objs.size = some PySem.W.emptyDict := Heap.get?_push_size s.heap rfl
  have g2 : ((s.heap.push PySem.W.emptyDict).push (PySem.W.instObj C s.heap.objs.size)).get? (s.heap.objs.size + 1) = some (PySem.W.instObj C s.heap.objs.size) := by
    rw [← sz1]
    exact Heap.get?_push_size _ rfl
  have n3 : (s.heap.push PySem.W.emptyDict).Ns s.heap.objs.size (fun _ => none) := ⟨_, #[], _, g1, rfl, (fun e he => absurd he (by simp)), fun _ => rfl⟩
  have e1 := StX.env0_laid (o := PySem.W.emptyDict) (u := .own (s.heap.objs.size + 1)) e0 ⟨_, g1⟩
  have hn2 : (upd H s.heap.objs.size (.own (s.heap.objs.size + 1))) (s.heap.push PySem.W.emptyDict).objs.size = none := by
    rw [sz1, upd_ne (Ne.symm nn)]
    exact hn1
  have e2 := StX.env0_laid (s := { s with heap := s.heap.push PySem.W.emptyDict }) (o := PySem.W.instObj C s.heap.objs.size) (u := .ins C s.heap.objs.size []) e1 (by
    show ObjOk P w (upd _ (s.heap.push PySem.W.emptyDict).objs.size _) _ (s.heap.push PySem.W.emptyDict).objs.size _
    rw [sz1]
    exact ⟨by rw [upd_ne nn, upd_same], Nat.zero_le _, nn, g2, fun _ => none, (Heap.Ns1.of_empty n3).at fun o q => Heap.get?_push_of_some _ q, fun _ => True.intro, fun y hy => absurd rfl hy⟩)
  have u1 := StX.un_laid (fs := frs outer) (s := s) (o := PySem.W.emptyDict) (u := .own (s.heap.objs.size + 1)) hn0
  have u2 := StX.un_laid (fs := frs outer) (s := { s with heap := s.heap.push PySem.W.emptyDict }) (o := PySem.W.instObj C s.heap.objs.size) (u := .ins C s.heap.objs.size []) hn2
  have e2' : Env0 P w K mg base A outer { s with heap := (s.heap.push PySem.W.emptyDict).push (PySem.W.instObj C s.heap.objs.size) } (upd (upd H s.heap.objs.size (.own (s.heap.objs.size + 1))) (s.heap.objs.size + 1) (.ins C s.heap.objs.size [])) := by
    have := e2
    simp only [sz1] at this
    exact this
  have u3 : Un (frs outer) [] H (upd (upd H s.heap.objs.size (.own (s.heap.objs.size + 1))) (s.heap.objs.size + 1) (.ins C s.heap.objs.size [])) s.heap ((s.heap.push PySem.W.emptyDict).push (PySem.W.instObj C s.heap.objs.size)) := by
    have := u1.trans u2
    simp only [sz1] at this
    exact this
  refine make_map (f := fI) KX M.makes M.init (beq_iff_eq.mp M.fn) (codeAny_mono (F _ outer _ _ (Value.ref (s.heap.objs.size + 1) :: us) (V.ref (s.heap.objs.size + 1) :: vs) _ E (hr.make C us []) (e2'.make C us []) (.cons rfl r) hq) fun r' s' hq' => ?_)
  cases r' with
  | error e => exact hup outer s H { s with heap := (s.heap.push PySem.W.emptyDict).push (PySem.W.instObj C s.heap.objs.size) } _ E e s' u3 (fun b o q => Heap.get?_push_of_some _ (Heap.get?_push_of_some _ q)) rfl hq'
  | ok fl =>
    cases fl with
    | ret u =>
      obtain ⟨v, H', ho, hb, un, hok, rv, ev, q3⟩ := hq'
      subst ev
      exact ⟨rv, ⟨V.ref (s.heap.objs.size + 1), H', ho, hb, u3.trans un, hok, rfl, q3⟩⟩
    | next => exact False.elim hq'
    | brk => exact False.elim hq'
    | cont => exact False.elim hq'
/-- the promise of an __init__ -/
def spIni (K : PySem.W.Frag) (C : Addr) (m : Nat) (φ : Ph) : Sp := fun vs H Q E => vs.length = m + 1 ∧ ∃ (x dx : Addr) (args : List V) (F0 H0 F : Hp) (ds : List Dt) (q : Dt → Prop) (xd : XD), vs = .ref x :: args ∧ Same F0 H0 ∧ Ext .nil F0 H0 F H ∧ H0 x = none ∧ F x = none ∧ H x = some (.ins C dx []) ∧ RpL K F ds args ∧ φ ds q xd ∧
  (∀ F' H' d, Ext .nil F0 H0 F' H' → Rp K F' d (.ref x) → q d → Q .non H') ∧ XOk K .nil F0 H0 xd E
def stI (N : List Str) (x C : Addr) (ds : List Dt) : List Sl := .ow (.at_ x (.obj C [] [])) :: (ds.map .sh ++ List.replicate (N.length - (ds.length + 1)) .no)
theorem ini_run {CX : CXT} {N : List Str} {C : Addr} {m : Nat} {φ : Ph} {vs : List V} {H : Hp} {Q : VK} {E : XK} {X : Cx} {body : List Stmt} (hh : spIni K C m φ vs H Q E) (hK : X.K = K)
    (h : ∀ (x : Addr) (ds : List Dt) (q : Dt → Prop) (xd : XD), φ ds q xd → ds.length = m → ∀ F H0, Wf .nil F H0 → XOk K .nil F H0 xd E → S X .nil body (stI N x C ds) { nx := fun G => ∃ d G', G = .ow (.at_ x d) :: G' ∧ q d, rt := fun _ => False }) :
    ∃ t, PSs X body t ∧ t { nx := fun _ H' => Q .non H', rt := Q } (L2.start N vs) H := by
  obtain ⟨hl, x, dx, args, F0, H0, F, ds, q, xd, rfl, sf, ex, h0, fx, hx, r, hφ, hq, hxo⟩ := hh
  subst hK
  have hl' : args.length = m := by simpa using hl
  have hS := h x ds q xd hφ (by rw [r.length, hl']) F0 H0 (wf_nil sf) hxo
  refine ⟨_, pss_w, hS F0 H0 _ F H _ ⟨ex.wf, ?_, ?_⟩ ⟨ex, ?_, trivial⟩ ⟨fun G σ F1 H1 z ty b => ?_, fun d v F1 H1 z e rd => z.elim, fun _ _ _ _ z => z.elim, fun _ _ _ _ z => z.elim, fun _ _ _ _ z => z.elim⟩⟩
  · unfold stI L2.start
    show SlsOk _ _ _ _ _ (some (V.ref x) :: (args.map some ++ List.replicate (N.length - (args.length + 1)) none))
    refine .cons ⟨x, rfl, fx, fun z => z.elim, rfl, dx, [], hx, rfl, .nil⟩ ?_
    rw [r.length]
    exact sls0 _ r
  · unfold stI L2.start
    show (owns (_ :: _) (some (V.ref x) :: _)).Nodup
    simp only [owns, owns0]
    simp
  · unfold stI L2.start
    show ∀ o ∈ owns (_ :: _) (some (V.ref x) :: _), _
    simp only [owns, owns0]
    intro o ho
    simp at ho
    rw [ho]
    exact h0
  · obtain ⟨d, G', rfl, hd⟩ := z
    obtain ⟨F2, ty2, b2, sf2⟩ := ty.frz b
    obtain ⟨v0, e0, y, ey, ry⟩ := ty2.sl.get (i := 0) (g := .sh (.at_ x d)) rfl
    simp only [Rp] at ry
    exact hq F2 H1 d b2.ext (by rw [← ry.1]; exact ry.2) hd
end
section
variable {X : Cx} {R : Reg} {G : List Sl} {pos : Pos} {k : Kt}
theorem spD_of {K : PySem.W.Frag} {φ : Ph} {n : Nat} {F H : Hp} {ds : List Dt} {vs : List V} {P : Dt → Prop} {Q : VK} {E : XK} (wf : Wf R F H) (r : RpL K F ds vs) (hl : ds.length = n) (hφ : φ ds P fun _ _ _ => False) (c : Ct K R F H P Q) : spD K n φ vs H Q E :=
  ⟨by rw [← r.length, hl], F, ds, P, fun _ _ _ => False, wf.fh, r, hφ, fun v F2 H2 d ex2 r2 p => c v F2 H2 d (Ext.of_nil wf ex2) r2 p, ⟨fun _ _ _ _ _ _ _ z => z.elim, fun _ _ _ z => z.elim⟩⟩
/-- a method of a class -/
structure FnM (P : Program) (w : World) (K : PySem.W.Frag) (mg : Str → Option Value) (base : Heap) (k : Nat) (C : Addr) (m : Str) (ps : List Str) (dvs : List V) (sp : Sp) : Prop where
  ex : ∃ f fd ds, Meth K C m f ∧ Binds K fd ps ds ∧ Vals dvs ds ∧ FnOk P w K mg base (L2.CX P w) k f fd ps sp
theorem FnM.mono {P : Program} {w : World} {K : PySem.W.Frag} {mg : Str → Option Value} {base : Heap} {j k : Nat} {C : Addr} {m : Str} {ps : List Str} {dvs : List V} {sp : Sp} (F : FnM P w K mg base j C m ps dvs sp) (h : j ≤ k) : FnM P w K mg base k C m ps dvs sp := by
  obtain ⟨f, fd, ds, a, b, c, d⟩ := F.ex
  exact ⟨f, fd, ds, a, b, c, d.mono h⟩
/-- o.m(e, ..) -/
theorem e_meth {C : Addr} {m : Str} {ps : List Str} {dvs : List V} {dds : List Dt} {φ : Ph} {n j : Nat} {o e : Expr} {es : List Expr} {apos : Pos} {pl : Sem Bool} {P : Dt → Prop} (cl : Cls X.K C) (F : FnM X.prog X.w X.K X.mg X.base j C m ps dvs (spD X.K n φ)) (hr : Room j X.A) (hd : ∀ F, RpL X.K F dds dvs)
    (h : E X R G o fun d => ∃ ns xs, d = .obj C ns xs ∧ (ns.any fun z => z == m) = false ∧ EA X R G (e :: es) fun ds => (d :: (ds ++ dds)).length = n ∧ φ (d :: (ds ++ dds)) P fun _ _ _ => False)
    (hst : starEach (e :: es) X.env = (false, eval e X.env) :: starEach es X.env := by rfl) (hpl : (backTo pos (starEach es X.env)).any (·.1) = false := by rfl)
    (ht : eval (.Call (.Attribute o m apos) (e :: es) [] pos) X.env = (do
      let ov ← eval o X.env
      standAt apos.atName
      let (f, first) ← holding [ov] (getMethod ov m pl)
      callWith pos f first (backTo pos (starEach (e :: es) X.env)) (backToKw pos (keywordEach [] X.env))) := by rfl) : E X R G (.Call (.Attribute o m apos) (e :: es) [] pos) P := fun σ F' H Q ty c => by
  obtain ⟨f, fd, ds, a1, a3, a4, a5⟩ := F.ex
  refine tOf.of (pe_meth (pl := pl) pe_w cl a1 a5 hr a3 a4 passL pa_w hst hpl ht) (h σ F' H _ ty fun v F1 H1 d ex r ⟨ns, xs, ed, hno, h2⟩ => ?_)
  have r0 := r
  subst ed
  obtain ⟨a, dx, vs, rfl, h1, hl, rl⟩ := rp_obj.mp r
  refine ⟨a, dx, _, rfl, ex.wf.fh _ _ h1, fld_none hno, h2 σ F1 H1 _ (ty.ext ex) fun ws F2 H2 ds' ex2 r2 ⟨hl2, hφ⟩ => ?_⟩
  exact spD_of ex2.wf (.cons (r0.mono ex2.ff) (r2.append (hd F2))) hl2 hφ (c.step (ex.trans ex2))
theorem e_meth0 {C : Addr} {m : Str} {ps : List Str} {dvs : List V} {dds : List Dt} {φ : Ph} {n j : Nat} {o : Expr} {apos : Pos} {pl : Sem Bool} {P : Dt → Prop} (cl : Cls X.K C) (F : FnM X.prog X.w X.K X.mg X.base j C m ps dvs (spD X.K n φ)) (hr : Room j X.A) (hd : ∀ F, RpL X.K F dds dvs)
    (h : E X R G o fun d => ∃ ns xs, d = .obj C ns xs ∧ (ns.any fun z => z == m) = false ∧ (d :: dds).length = n ∧ φ (d :: dds) P fun _ _ _ => False)
    (ht : eval (.Call (.Attribute o m apos) [] [] pos) X.env = (do
      let ov ← eval o X.env
      standAt apos.atName
      let (f, first) ← holding [ov] (getMethod ov m pl)
      callWith pos f first (backTo pos (starEach [] X.env)) (backToKw pos (keywordEach [] X.env))) := by rfl) : E X R G (.Call (.Attribute o m apos) [] [] pos) P := fun σ F' H Q ty c => by
  obtain ⟨f, fd, ds, a1, a3, a4, a5⟩ := F.ex
  refine tOf.of (pe_meth0 (pl := pl) pe_w cl a1 a5 hr a3 a4 passL ht) (h σ F' H _ ty fun v F1 H1 d ex r ⟨ns, xs, ed, hno, hl2, hφ⟩ => ?_)
  have r0 := r
  subst ed
  obtain ⟨a, dx, vs, rfl, h1, hl, rl⟩ := rp_obj.mp r
  refine ⟨a, dx, _, rfl, ex.wf.fh _ _ h1, fld_none hno, ?_⟩
  exact spD_of ex.wf (.cons r0 (hd F1)) hl2 hφ (c.step ex)
/-- e.f, a property -/
structure FnP (P : Program) (w : World) (K : PySem.W.Frag) (mg : Str → Option Value) (base : Heap) (k : Nat) (C : Addr) (m : Str) (φ : Ph) : Prop where
  ex : ∃ j p g fd ps, j + 1 ≤ k ∧ PropOf K C m p g ∧ Binds K fd ps [] ∧ FnOk P w K mg base (L2.CX P w) j g fd ps (spD K 1 φ)
theorem FnP.mono {P : Program} {w : World} {K : PySem.W.Frag} {mg : Str → Option Value} {base : Heap} {j k : Nat} {C : Addr} {m : Str} {φ : Ph} (F : FnP P w K mg base j C m φ) (h : j ≤ k) : FnP P w K mg base k C m φ := by
  obtain ⟨i, p, g, fd, ps, a, b, c, d⟩ := F.ex
  exact ⟨i, p, g, fd, ps, Nat.le_trans a h, b, c, d⟩
theorem e_prop {C : Addr} {f : Str} {φ : Ph} {j : Nat} {e : Expr} {P : Dt → Prop} (cl : Cls X.K C) (F : FnP X.prog X.w X.K X.mg X.base j C f φ) (hr : Room j X.A) (h : E X R G e fun d => ∃ ns xs, d = .obj C ns xs ∧ φ [d] P fun _ _ _ => False)
    (hb : attributeBase e f X.env (eval e X.env) = eval e X.env := by rfl) : E X R G (.Attribute e f pos) P := fun σ F' H Q ty c => by
  obtain ⟨i, p, g, fd, ps, a0, a1, a3, a5⟩ := F.ex
  refine tOf.of (pe_prop pe_w cl a1 a5 (hr.mono a0) a3 .nil passL hb) (h σ F' H _ ty fun v F1 H1 d ex r ⟨ns, xs, ed, hφ⟩ => ?_)
  have r0 := r
  subst ed
  obtain ⟨a, dx, vs, rfl, h1, hl, rl⟩ := rp_obj.mp r
  exact ⟨a, dx, _, rfl, ex.wf.fh _ _ h1, spD_of ex.wf (.cons r0 .nil) rfl hφ (c.step ex)⟩
/-- C.m(e, ..), a classmethod -/
structure FnCm (P : Program) (w : World) (K : PySem.W.Frag) (mg : Str → Option Value) (base : Heap) (k : Nat) (C : Addr) (m : Str) (n : Nat) (φ : Ph) : Prop where
  ex : ∃ mc p g, ClX.CRead K C mc ∧ ClX.CMet K C mc m p g ∧ FnR P w K mg base (L2.CX P w) k g (spD K n φ)
theorem FnCm.mono {P : Program} {w : World} {K : PySem.W.Frag} {mg : Str → Option Value} {base : Heap} {j k : Nat} {C : Addr} {m : Str} {n : Nat} {φ : Ph} (F : FnCm P w K mg base j C m n φ) (h : j ≤ k) : FnCm P w K mg base k C m n φ := by
  obtain ⟨mc, p, g, a, b, c⟩ := F.ex
  exact ⟨mc, p, g, a, b, c.mono h⟩
theorem e_cmeth {C : Addr} {m : Str} {φ : Ph} {n j : Nat} {o e : Expr} {es : List Expr} {apos : Pos} {pl : Sem Bool} {P : Dt → Prop} (F : FnCm X.prog X.w X.K X.mg X.base j C m n φ) (hr : Room j X.A)
    (h : E X R G o fun d => d = .adr C ∧ EA X R G (e :: es) fun ds => (d :: ds).length = n ∧ φ (d :: ds) P fun _ _ _ => False)
    (hst : starEach (e :: es) X.env = (false, eval e X.env) :: starEach es X.env := by rfl) (hpl : (backTo pos (starEach es X.env)).any (·.1) = false := by rfl)
    (ht : eval (.Call (.Attribute o m apos) (e :: es) [] pos) X.env = (do
      let ov ← eval o X.env
      standAt apos.atName
      let (f, first) ← holding [ov] (getMethod ov m pl)
      callWith pos f first (backTo pos (starEach (e :: es) X.env)) (backToKw pos (keywordEach [] X.env))) := by rfl) : E X R G (.Call (.Attribute o m apos) (e :: es) [] pos) P := fun σ F' H Q ty c => by
  obtain ⟨mc, p, g, a1, a2, a3⟩ := F.ex
  refine tOf.of (ClX.pe_cmeth (pl := pl) pe_w a1 a2 a3 hr passL pa_w hst hpl ht) (h σ F' H _ ty fun v F1 H1 d ex r ⟨ed, h2⟩ => ?_)
  subst ed
  refine ⟨rp_adr.mp r, h2 σ F1 H1 _ (ty.ext ex) fun ws F2 H2 ds' ex2 r2 ⟨hl2, hφ⟩ => ?_⟩
  exact spD_of ex2.wf (.cons (rp_adr.mpr rfl) r2) hl2 hφ (c.step (ex.trans ex2))
/-! ### special methods -/
theorem FnM.run {C : Addr} {m : Str} {ps : List Str} {φ : Ph} {n j : Nat} (F : FnM X.prog X.w X.K X.mg X.base j C m ps [] (spD X.K n φ)) : ∃ f, Meth X.K C m f ∧
    (∀ {pins : List (Addr × Obj)} {σ : St} {H : Hp} {s : Shared} {Q : VK} {us : List Value} {vs : List V}, Room j X.A → Inv X pins σ H s → Vals vs us → spD X.K n φ vs H Q E0 → wpAny (model X.prog X.w) X.A (call (.ref f) us) (EP X pins σ Q) X.xe s) ∧
    (∀ {pins : List (Addr × Obj)} {σ : St} {H : Hp} {s : Shared} {Q : VK} {us : List Value} {vs : List V} {E' : Value → Shared → Prop}, Room (j + 1) X.A → Inv X pins σ H s → Vals vs us → spD X.K n φ vs H Q E0 → wpAny (model X.prog X.w) X.A.in1 (call (.ref f) us) (EP X pins σ Q) E' s) := by
  obtain ⟨f, fd, ds, a1, a3, a4, a5⟩ := F.ex
  have e : ds = [] := by cases a4; rfl
  subst e
  refine ⟨f, a1, fun hr I r h => run_fn a5 hr a3 .nil passL I r (by rw [List.append_nil]; exact h), fun {pins σ H s Q us vs E'} hr I r h => ?_⟩
  have hl : (us ++ []).length = ps.length := by rw [List.append_nil, ← r.length]; exact a5.len _ _ _ _ h
  refine wpAny_call (codeAny_mono (a5.run X.A.in1 X.stack s H ⟨us, []⟩ (us ++ []) vs Q E0 hr.in1 I.env0.in1 (a3 s us I.kIn hl) (by rw [List.append_nil]; exact r) h) fun r s' hq => ?_)
  cases r with
  | error er => exact (passL (X := X.nox) pins σ H s er s' (I.wish _) hq).elim
  | ok fl =>
    cases fl with
    | ret u => exact I.after hq
    | next => exact False.elim hq
    | brk => exact False.elim hq
    | cont => exact False.elim hq
theorem back_of {pins : List (Addr × Obj)} {σ : St} {Q : VK} {v : Value} {s : Shared} (h : EP X pins σ Q v s) : PySem.W.CmpBack (EP X pins σ Q) v s := by
  have h0 := h
  obtain ⟨x, H, I, r, q⟩ := h
  cases v <;> first | exact h0 | (cases x <;> first | exact absurd r (fun z => nomatch z) | (obtain ⟨_, z⟩ := r; cases z) | cases r)
end
end VS
set_option Elab.async false
set_option linter.all false
set_option maxRecDepth 100000
/-! own classes: operators. -/
namespace VS
open PySem PySem.Spec L2
section
open PySem.W (InstAt Looks)
variable {prog : Program} {w : World} {A : Around} {E : Value → Shared → Prop} {s : Shared} {K : PySem.W.Frag} {x C f : Addr} {ox : Obj} {od : Option Obj} {nm : String}
/-- one of C and one of C -/
theorem bin1_O {b : Value} {Q : Value → Shared → Prop} (KX : K.In s.heap) (J : InstAt s.heap x ox C od) (hb : Looks (model prog w) s.heap (typeOf b) (.ref C)) (sf : PySem.W.selfFirst K C = true)
    (hs : PySem.W.findIn K (.ref C) (PySem.dunder nm) = some (some (.ref f))) (hf : PySem.W.isFn K (.ref f) = true) (h : wpAny (model prog w) A (call (.ref f) [.ref x, b]) (PySem.W.CmpBack Q) E s) :
    wpAny (model prog w) A (binaryOp1 nm (.ref x) b) (fun r s' => ∃ v, r = some v ∧ Q v s') E s := by
  obtain ⟨cd, rest, c1, c2⟩ := PySem.W.ksp_first sf
  have one := PySem.W.ksp_try KX J hs hf h
  obtain ⟨hh, g, d, tt, os⟩ := s
  have t1 : Looks (model prog w) hh (typeOf (.ref x)) (.ref C) := J.type
  have t2 : Looks (model prog w) hh (fillsNumberSlot (.ref C) nm) true := PySem.W.fills_K KX c1 c2 hs
  have ee : (Value.ref C == Value.ref C) = true := by simp
  unfold binaryOp1
  refine wpAny_bind (t1.at (wpAny_bind (hb.at (wpAny_bind (t2.at ?_)))))
  simp only [ee, if_true, Bool.and_false, Bool.false_and, Bool.false_eq_true, if_false]
  ksp_lk
  refine wpAny_mono one (fun r s' z => ?_) fun _ _ z => z
  obtain ⟨v, rfl, hq⟩ := z
  ksp_lk
  exact ⟨v, rfl, hq⟩
/-- one of C and an int -/
theorem bin1_I {i : Int} {t : Tok} {fo ro rc : Option Value} {Q : Value → Shared → Prop} (KX : K.In s.heap) (J : InstAt s.heap x ox C od) (sf : PySem.W.selfFirst K C = true)
    (hs : PySem.W.findIn K (.ref C) (PySem.dunder nm) = some (some (.ref f))) (hf : PySem.W.isFn K (.ref f) = true) (k1 : PySem.W.findIn K (.ref C) (dunderR nm) = some rc) (k2 : rc = none ∨ ∃ g : Addr, rc = some (.ref g))
    (k3 : PySem.W.findIn K (.type "int") (PySem.dunder nm) = some fo) (k4 : PySem.W.findIn K (.type "int") (dunderR nm) = some ro) (k5 : PySem.W.subIn K (.type "int") (.ref C) = some false)
    (h : wpAny (model prog w) A (call (.ref f) [.ref x, .int i t]) (PySem.W.CmpBack Q) E s) : wpAny (model prog w) A (binaryOp1 nm (.ref x) (.int i t)) (fun r s' => ∃ v, r = some v ∧ Q v s') E s := by
  obtain ⟨cd, rest, c1, c2⟩ := PySem.W.ksp_first sf
  have one := PySem.W.ksp_try KX J hs hf h
  obtain ⟨hh, g, d, tt, os⟩ := s
  have t1 : Looks (model prog w) hh (typeOf (.ref x)) (.ref C) := J.type
  have t2 : Looks (model prog w) hh (typeOf (.int i t)) (.type "int") := Looks.of_pure rfl
  have t3 : Looks (model prog w) hh (fillsNumberSlot (.ref C) nm) true := PySem.W.fills_K KX c1 c2 hs
  have t4 := PySem.W.ksp_fillsT (M := model prog w) (T := "int") (nm := nm) KX k3 k4
  have t5 : Looks (model prog w) hh (isSubtype (.type "int") (.ref C)) false := PySem.W.looks_subIn KX k5
  have t6 : Looks (model prog w) hh (numberSlotInPython (.ref C) nm) true := PySem.W.ksp_inPy KX hs k1 k2
  have t7 : Looks (model prog w) hh (numberSlotInPython (.type "int") nm) false := Looks.of_pure rfl
  have t8 : Looks (model prog w) hh (typeLookup (.type "int") (dunderR nm)) ro := PySem.W.looks_findIn KX k4
  generalize ((fo.isSome && !isSeqSlot fo) || (ro.isSome && !isSeqSlot ro)) = right at t4
  have ee : (Value.ref C == Value.type "int") = false := by simp
  unfold binaryOp1
  refine wpAny_bind (t1.at (wpAny_bind (t2.at (wpAny_bind (t3.at ?_)))))
  simp only [ee, Bool.false_eq_true, if_false]
  cases right with
  | false =>
    ksp_lk
    refine wpAny_mono one (fun r s' z => ?_) fun _ _ z => z
    obtain ⟨v, rfl, hq⟩ := z
    ksp_lk
    exact ⟨v, rfl, hq⟩
  | true =>
    ksp_lk
    refine wpAny_mono one (fun r s' z => ?_) fun _ _ z => z
    obtain ⟨v, rfl, hq⟩ := z
    ksp_lk
    exact ⟨v, rfl, hq⟩
/-- int's own method declines -/
theorem int_declines {id : String} {name : Str} {i : Int} {t : Tok} {fn : String} {op : Int → Int → Sem Fin} {Q : Option Value → Shared → Prop} (J : InstAt s.heap x ox C od) (hd : ox.data = .plain) (sl : Slot "int" name id) (en : entryFor table id = some (Builtin.Int.intBinary fn op)) (ar : argsOk id ⟨[.int i t, .ref x], []⟩)
    (h : Q none s) : wpAny (model prog w) A (tryMethod (.int i t) name (.ref x)) Q E s := by
  refine wpAny_tryMethod_declines rfl sl (wpAny_call (codeAny_call_builtin sl.plain en (sl.check _ _ _ _ _ _ _ _ rfl ar ?_)))
  unfold Builtin.Int.intBinary
  have ho := J.at_
  obtain ⟨hh, g, d, tt, os⟩ := s
  wp_walk using wpAny_load ho
  simp only [hd]
  wp_walk
  exact ⟨rfl, h⟩
/-- an int and one of C -/
theorem bin1_R {id fn : String} {op : Int → Int → Sem Fin} {i : Int} {t : Tok} {fL : Addr} {Q : Value → Shared → Prop} (KX : K.In s.heap) (J : InstAt s.heap x ox C od) (hd : ox.data = .plain) (sf : PySem.W.selfFirst K C = true)
    (hs : PySem.W.findIn K (.ref C) (PySem.dunder nm) = some (some (.ref fL))) (hR : PySem.W.findIn K (.ref C) (dunderR nm) = some (some (.ref f))) (hf : PySem.W.isFn K (.ref f) = true) (k5 : PySem.W.subIn K (.ref C) (.type "int") = some false)
    (fl : fillsNumberSlot (.type "int") nm = pure true) (sl : Slot "int" (PySem.dunder nm) id) (en : entryFor table id = some (Builtin.Int.intBinary fn op)) (ar : argsOk id ⟨[.int i t, .ref x], []⟩)
    (h : wpAny (model prog w) A (call (.ref f) [.ref x, .int i t]) (PySem.W.CmpBack Q) E s) : wpAny (model prog w) A (binaryOp1 nm (.int i t) (.ref x)) (fun r s' => ∃ v, r = some v ∧ Q v s') E s := by
  obtain ⟨cd, rest, c1, c2⟩ := PySem.W.ksp_first sf
  have one := PySem.W.ksp_try KX J hR hf h
  have no : ∀ {Q' : Option Value → Shared → Prop}, Q' none s → wpAny (model prog w) A (tryMethod (.int i t) (PySem.dunder nm) (.ref x)) Q' E s := fun q => int_declines J hd sl en ar q
  obtain ⟨hh, g, d, tt, os⟩ := s
  have t1 : Looks (model prog w) hh (typeOf (.ref x)) (.ref C) := J.type
  have t2 : Looks (model prog w) hh (typeOf (.int i t)) (.type "int") := Looks.of_pure rfl
  have t3 : Looks (model prog w) hh (fillsNumberSlot (.ref C) nm) true := PySem.W.fills_K KX c1 c2 hs
  have t4 : Looks (model prog w) hh (fillsNumberSlot (.type "int") nm) true := Looks.of_pure fl
  have t5 : Looks (model prog w) hh (isSubtype (.ref C) (.type "int")) false := PySem.W.looks_subIn KX k5
  have t7 : Looks (model prog w) hh (numberSlotInPython (.type "int") nm) false := Looks.of_pure rfl
  have ee : (Value.type "int" == Value.ref C) = false := by simp
  unfold binaryOp1
  refine wpAny_bind (t2.at (wpAny_bind (t1.at (wpAny_bind (t4.at ?_)))))
  simp only [ee, Bool.false_eq_true, if_false]
  ksp_lk
  refine no ?_
  ksp_lk
  refine wpAny_mono one (fun r s' z => ?_) fun _ _ z => z
  obtain ⟨v, rfl, hq⟩ := z
  ksp_lk
  exact ⟨v, rfl, hq⟩
theorem bin_of1 {op : Operator} {a b : Value} {Q : Value → Shared → Prop} (h : wpAny (model prog w) A (binaryOp1 op.info.2 a b) (fun r s' => ∃ v, r = some v ∧ Q v s') E s) : wpAny (model prog w) A (binaryOp op a b) Q E s := by
  rcases hi : op.info with ⟨sym, nm'⟩
  rw [hi] at h
  simp only [binaryOp, hi]
  refine wpAny_holding (wpAny_bind (wpAny_mono h (fun r s' z => ?_) fun _ _ z => z))
  obtain ⟨v, rfl, hq⟩ := z
  exact wpAny_pure hq
/-- C has no op= of its own -/
theorem inp_no {M : Model} {h : Heap} {cd : ClassData} {add : Bool} (KX : K.In h) (c1 : PySem.W.clsIn K C = some cd) (c2 : cd.mro = [.ref C, .type "object"]) (h1 : PySem.W.findIn K (.ref C) (dunderI nm) = some none) (h2 : PySem.W.findIn K (.type "object") (dunderI nm) = some none) :
    Looks M h (fillsInplaceSlot (.ref C) nm add) false := by
  intro A Q E s k q
  have Lm : Looks M h (mroOf (.ref C)) cd.mro := (PySem.W.looks_clsIn KX c1).andThen (f := fun cd => pure cd.mro) .now
  have Lm' := Lm.keeps k
  obtain ⟨hh, g, d, tt, os⟩ := s
  have KY : K.In hh := KX.keeps k
  have l1 : Looks M hh (typeLookup (.ref C) (dunderI nm)) none := PySem.W.looks_findIn KY h1
  have l2 : Looks M hh (typeLookup (.type "object") (dunderI nm)) none := PySem.W.looks_findIn KY h2
  unfold fillsInplaceSlot
  refine wpAny_bind (Lm'.at ?_)
  rw [c2, List.anyM_cons, List.anyM_cons, List.anyM_nil]
  repeat lk
  exact q
theorem inp_of1 {op : Operator} {b : Value} {Q : Value → Shared → Prop} (J : InstAt s.heap x ox C od) (hn : ∀ add, Looks (model prog w) s.heap (fillsInplaceSlot (.ref C) op.info.2 add) false)
    (h : wpAny (model prog w) A (binaryOp1 op.info.2 (.ref x) b) (fun r s' => ∃ v, r = some v ∧ Q v s') E s) : wpAny (model prog w) A (inplaceOp op (.ref x) b) Q E s := by
  have one := h
  obtain ⟨hh, g, d, tt, os⟩ := s
  have t1 : Looks (model prog w) hh (typeOf (.ref x)) (.ref C) := J.type
  have t2 := hn (op == .Add)
  unfold inplaceOp
  refine wpAny_holding (wpAny_bind (t1.at (wpAny_bind (t2.at ?_))))
  simp only [Bool.false_eq_true, if_false]
  refine wpAny_bind (wpAny_mono one (fun r s' z => ?_) fun _ _ z => z)
  obtain ⟨v, rfl, hq⟩ := z
  exact wpAny_pure hq
end
section
variable {X : Cx} {R : Reg} {G : List Sl} {pos : Pos} {k : Kt}
/-- where an instance lies -/
theorem inst_at {pins : List (Addr × Obj)} {σ : St} {F H : Hp} {s : Shared} {a C dx : Addr} {fs : List (Str × V)} (I : Inv X pins σ H s) (w : Wf R F H) (h : F a = some (.ins C dx fs)) : ∃ od, PySem.W.InstAt s.heap a (PySem.W.instObj C dx) C (some od) := by
  obtain ⟨mA, O, _⟩ := ins_get I.hok (w.fh _ _ h)
  obtain ⟨od, J, _⟩ := O.look
  exact ⟨od, J⟩
/-- p op q, both of C -/
theorem w_binO {op : Operator} {C : Addr} {m : Str} {ps : List Str} {φ : Ph} {j : Nat} {ns ms : List Str} {xs ys : List Dt} {P : Dt → Prop} (F : FnM X.prog X.w X.K X.mg X.base j C m ps [] (spD X.K 2 φ)) (hm : PySem.dunder op.info.2 = m) (hr : Room j X.A) (sf : PySem.W.selfFirst X.K C = true)
    (hφ : φ [.obj C ns xs, .obj C ms ys] P fun _ _ _ => False) : W2 X R (binaryOp op) (.obj C ns xs) (.obj C ms ys) P := fun F0 H x y Q w rx ry c => by
  have rx0 := rx
  have ry0 := ry
  obtain ⟨a, dx, vs, rfl, h1, _, _⟩ := rp_obj.mp rx
  obtain ⟨b, dy, us, rfl, h2, _, _⟩ := rp_obj.mp ry
  obtain ⟨f, hM, run, _⟩ := F.run
  unfold opOf
  intro pins s σ v u I rv ru
  cases rv
  cases ru
  obtain ⟨od, J⟩ := inst_at I w h1
  obtain ⟨od', J'⟩ := inst_at I w h2
  obtain ⟨m', hF⟩ := I.fr
  subst hm
  exact PySem.W.binop_K hF I.ok.mod.kin J J'.type sf hM.at_ hM.fn (wpAny_mono (run (vs := [.ref a, .ref b]) hr I (.cons rfl (.cons rfl .nil)) (spD_of w (.cons rx0 (.cons ry0 .nil)) rfl hφ c)) (fun _ _ h => back_of h) fun _ _ h => h)
/-- what C and int tell of an operator -/
structure NumC (K : PySem.W.Frag) (C : Addr) (nm : String) : Prop where
  first : PySem.W.selfFirst K C = true
  r : ∃ rc, PySem.W.findIn K (.ref C) (dunderR nm) = some rc ∧ (rc = none ∨ ∃ g : Addr, rc = some (.ref g))
  l : ∃ fo, PySem.W.findIn K (.type "int") (PySem.dunder nm) = some fo
  rr : ∃ ro, PySem.W.findIn K (.type "int") (dunderR nm) = some ro
  sub : PySem.W.subIn K (.type "int") (.ref C) = some false
  sub2 : PySem.W.subIn K (.ref C) (.type "int") = some false
/-- p op n -/
theorem w_binI {op : Operator} {C : Addr} {m : Str} {ps : List Str} {φ : Ph} {j : Nat} {ns : List Str} {xs : List Dt} {i : Int} {P : Dt → Prop} (F : FnM X.prog X.w X.K X.mg X.base j C m ps [] (spD X.K 2 φ)) (hm : PySem.dunder op.info.2 = m) (hr : Room j X.A) (nc : NumC X.K C op.info.2)
    (hφ : φ [.obj C ns xs, .int i] P fun _ _ _ => False) : W2 X R (binaryOp op) (.obj C ns xs) (.int i) P := fun F0 H x y Q w rx ry c => by
  have rx0 := rx
  have ry0 := ry
  obtain ⟨a, dx, vs, rfl, h1, _, _⟩ := rp_obj.mp rx
  obtain rfl := rp_int.mp ry
  obtain ⟨f, hM, run, _⟩ := F.run
  unfold opOf
  intro pins s σ v u I rv ru
  cases rv
  obtain ⟨t, rfl⟩ := ru
  obtain ⟨od, J⟩ := inst_at I w h1
  obtain ⟨m', hF⟩ := I.fr
  obtain ⟨rc, e1, e2⟩ := nc.r
  obtain ⟨fo, e3⟩ := nc.l
  obtain ⟨ro, e4⟩ := nc.rr
  subst hm
  exact PySem.W.ksp_binT hF I.ok.mod.kin J rfl nc.first hM.at_ hM.fn e1 e2 e3 e4 nc.sub (wpAny_mono (run (vs := [.ref a, .int i]) hr I (.cons rfl (.cons ⟨t, rfl⟩ .nil)) (spD_of w (.cons rx0 (.cons ry0 .nil)) rfl hφ c)) (fun _ _ h => back_of h) fun _ _ h => h)
/-- -p -/
theorem w_negO {C : Addr} {ps : List Str} {φ : Ph} {j : Nat} {ns : List Str} {xs : List Dt} {P : Dt → Prop} (F : FnM X.prog X.w X.K X.mg X.base j C "__neg__" ps [] (spD X.K 1 φ)) (hr : Room j X.A)
    (hφ : φ [.obj C ns xs] P fun _ _ _ => False) : W1 X R (unaryOp .USub) (.obj C ns xs) P := fun F0 H x Q w rx c => by
  have rx0 := rx
  obtain ⟨a, dx, vs, rfl, h1, _, _⟩ := rp_obj.mp rx
  obtain ⟨f, hM, run, _⟩ := F.run
  unfold unOf
  intro pins s σ v I rv
  cases rv
  obtain ⟨od, J⟩ := inst_at I w h1
  obtain ⟨m', hF⟩ := I.fr
  exact PySem.W.ksp_neg hF I.ok.mod.kin J hM.at_ hM.fn (run (vs := [.ref a]) hr I (.cons rfl .nil) (spD_of w (.cons rx0 .nil) rfl hφ c))
/-- p == d -/
theorem w_eqO {C : Addr} {ps : List Str} {φ : Ph} {j : Nat} {ns : List Str} {xs : List Dt} {d : Dt} {t : Value} {P : Dt → Prop} (F : FnM X.prog X.w X.K X.mg X.base j C "__eq__" ps [] (spD X.K 2 φ)) (hr : Room j X.A) (hu : X.A.units < cLine) (ht : TyD X.K d t) (hn : PySem.W.notFirst X.K C t = true)
    (hφ : φ [.obj C ns xs, d] P fun _ _ _ => False) : W2 X R (compareOp .Eq) (.obj C ns xs) d P := fun F0 H x y Q w rx ry c => by
  have rx0 := rx
  obtain ⟨a, dx, vs, rfl, h1, _, _⟩ := rp_obj.mp rx
  obtain ⟨f, hM, run, _⟩ := F.run
  unfold opOf
  intro pins s σ v u I rv ru
  cases rv
  obtain ⟨od, J⟩ := inst_at I w h1
  obtain ⟨m', hF⟩ := I.fr
  have hty := ht F0 H y w.fh ry
  refine PySem.W.cmp_K (op := .Eq) hu hF I.ok.mod.kin J ?_ hn hM.at_ hM.fn (wpAny_mono (run (vs := [.ref a, y]) hr I (.cons rfl (.cons ru .nil)) (spD_of w (.cons rx0 (.cons ry .nil)) rfl hφ c)) (fun _ _ h => back_of h) fun _ _ h => h)
  obtain ⟨P', kx, hp⟩ := kit_of I ru hty
  exact kx.ty _ _ I.kIn hp.1
end
end VS
set_option Elab.async false
set_option linter.all false
set_option maxRecDepth 100000
/-! own classes: making; reflected and op= -/
namespace VS
open PySem PySem.Spec L2
section
variable {X : Cx} {R : Reg} {G : List Sl} {pos : Pos} {k : Kt}
/-- int's own method of an operator -/
structure IntOp (nm : String) : Prop where
  ex : ∃ (id fn : String) (f : Int → Int → Sem Fin), fillsNumberSlot (.type "int") nm = pure true ∧ Slot "int" (PySem.dunder nm) id ∧ entryFor table id = some (Builtin.Int.intBinary fn f) ∧ ∀ a b, argsOk id ⟨[a, b], []⟩
theorem io_add : IntOp "add" := ⟨_, _, _, F.fills_int_add, F.slot_int_add, F.entry_int_add, fun a b => F.args_int_add_2 a b⟩
theorem io_sub : IntOp "sub" := ⟨_, _, _, F.fills_int_sub, F.slot_int_sub, F.entry_int_sub, fun a b => F.args_int_sub_2 a b⟩
theorem io_mul : IntOp "mul" := ⟨_, _, _, F.fills_int_mul, F.slot_int_mul, F.entry_int_mul, fun a b => F.args_int_mul_2 a b⟩
/-- n op p -/
theorem w_binR {op : Operator} {C : Addr} {m mL : Str} {ps psL : List Str} {spL : Sp} {φ : Ph} {j jL : Nat} {ns : List Str} {xs : List Dt} {i : Int} {P : Dt → Prop} (F : FnM X.prog X.w X.K X.mg X.base j C m ps [] (spD X.K 2 φ)) (hm : dunderR op.info.2 = m) (hr : Room j X.A) (nc : NumC X.K C op.info.2) (io : IntOp op.info.2)
    (FL : FnM X.prog X.w X.K X.mg X.base jL C mL psL [] spL) (hmL : PySem.dunder op.info.2 = mL) (hφ : φ [.obj C ns xs, .int i] P fun _ _ _ => False) : W2 X R (binaryOp op) (.int i) (.obj C ns xs) P := fun F0 H y x Q w ry rx c => by
  have rx0 := rx
  have ry0 := ry
  obtain ⟨a, dx, vs, rfl, h1, _, _⟩ := rp_obj.mp rx
  obtain rfl := rp_int.mp ry
  obtain ⟨f, hM, run, _⟩ := F.run
  unfold opOf
  intro pins s σ v u I rv ru
  cases ru
  obtain ⟨t, rfl⟩ := rv
  obtain ⟨od, J⟩ := inst_at I w h1
  obtain ⟨id, fn, fo, e1, e2, e3, e4⟩ := io.ex
  obtain ⟨fL, _, _, hML, _⟩ := FL.ex
  have hL := hML.at_
  rw [← hmL] at hL
  subst hm
  exact bin_of1 (bin1_R I.kIn J rfl nc.first hL hM.at_ hM.fn nc.sub2 e1 e2 e3 (e4 _ _) (wpAny_mono (run (vs := [.ref a, .int i]) hr I (.cons rfl (.cons ⟨t, rfl⟩ .nil)) (spD_of w (.cons rx0 (.cons ry0 .nil)) rfl hφ c)) (fun _ _ h => back_of h) fun _ _ h => h))
/-! ### op= -/
@[irreducible] def ipOf (X : Cx) (op : Operator) : TIp := fun x y H Q => ∀ pins s σ v u, Inv X pins σ H s → RelV x v → RelV y u → wpAny (model X.prog X.w) X.A (inplaceOp op v u) (EP X pins σ Q) X.xe s
def WA (X : Cx) (R : Reg) (op : Operator) (a b : Dt) (P : Dt → Prop) : Prop := ∀ F H x y Q, Wf R F H → Rp X.K F a x → Rp X.K F b y → Ct X.K R F H P Q → ipOf X op x y H Q
theorem ip_w {op : Operator} : PIp X op (ipOf X op) := fun pins s σ H x y v u Q I rx ry h => by unfold ipOf at h; exact h pins s σ v u I rx ry
/-- x op= e -/
theorem s_aug (i : Nat) {x : Str} {e : Expr} {op : Operator} {pos' : Pos} {d : Dt} (hN : X.N.Nodup) (hg : G[i]? = some (.sh d) := by rfl) (h : E X R G e fun d2 => WA X R op d d2 fun r => k.nx (G.set i (.sh r))) (hi : X.N[i]? = some x := by rfl) (hx : Loc X.env.scope x := by first | exact Or.inl rfl | exact Or.inr rfl)
    (hf : X.fn x = true ∨ X.env.scope.names.lookup x = some .local := by first | exact .inl rfl | exact .inr rfl | assumption) : S1 X R (.AugAssign (.Name x pos') op e pos) G k := fun F0 H0 σ F H D ty b c => by
  obtain ⟨v, e1, y, e2, r⟩ := ty.sl.get hg
  refine s1Of.of (ps_aug hN hi hx pe_w ip_w hf) ⟨y, by rw [e1, e2], h σ F H _ ty fun z F1 H1 d2 ex r2 h2 => h2 F1 H1 y z _ ex.wf (r.mono ex.ff) r2 fun v2 F2 H2 d3 ex2 r3 p => ?_⟩
  exact c.nx _ _ F2 H2 p ((ty.ext (ex.trans ex2)).set i r3) ((b.step (ex.trans ex2)).set i)
/-- C has no op= of its own -/
structure NoInp (K : PySem.W.Frag) (C : Addr) (nm : String) : Prop where
  ex : ∃ cd, PySem.W.clsIn K C = some cd ∧ cd.mro = [.ref C, .type "object"] ∧ PySem.W.findIn K (.ref C) (dunderI nm) = some none ∧ PySem.W.findIn K (.type "object") (dunderI nm) = some none
theorem wa_O {op : Operator} {C : Addr} {m : Str} {ps : List Str} {φ : Ph} {j : Nat} {ns ms : List Str} {xs ys : List Dt} {P : Dt → Prop} (F : FnM X.prog X.w X.K X.mg X.base j C m ps [] (spD X.K 2 φ)) (hm : PySem.dunder op.info.2 = m) (hr : Room j X.A) (sf : PySem.W.selfFirst X.K C = true) (ni : NoInp X.K C op.info.2)
    (hφ : φ [.obj C ns xs, .obj C ms ys] P fun _ _ _ => False) : WA X R op (.obj C ns xs) (.obj C ms ys) P := fun F0 H x y Q w rx ry c => by
  have rx0 := rx
  have ry0 := ry
  obtain ⟨a, dx, vs, rfl, h1, _, _⟩ := rp_obj.mp rx
  obtain ⟨b, dy, us, rfl, h2, _, _⟩ := rp_obj.mp ry
  obtain ⟨f, hM, run, _⟩ := F.run
  unfold ipOf
  intro pins s σ v u I rv ru
  cases rv
  cases ru
  obtain ⟨od, J⟩ := inst_at I w h1
  obtain ⟨od', J'⟩ := inst_at I w h2
  obtain ⟨cd, c1, c2, c3, c4⟩ := ni.ex
  subst hm
  exact inp_of1 J (fun add => inp_no I.kIn c1 c2 c3 c4) (bin1_O I.kIn J J'.type sf hM.at_ hM.fn (wpAny_mono (run (vs := [.ref a, .ref b]) hr I (.cons rfl (.cons rfl .nil)) (spD_of w (.cons rx0 (.cons ry0 .nil)) rfl hφ c)) (fun _ _ h => back_of h) fun _ _ h => h))
theorem wa_I {op : Operator} {C : Addr} {m : Str} {ps : List Str} {φ : Ph} {j : Nat} {ns : List Str} {xs : List Dt} {i : Int} {P : Dt → Prop} (F : FnM X.prog X.w X.K X.mg X.base j C m ps [] (spD X.K 2 φ)) (hm : PySem.dunder op.info.2 = m) (hr : Room j X.A) (nc : NumC X.K C op.info.2) (ni : NoInp X.K C op.info.2)
    (hφ : φ [.obj C ns xs, .int i] P fun _ _ _ => False) : WA X R op (.obj C ns xs) (.int i) P := fun F0 H x y Q w rx ry c => by
  have rx0 := rx
  have ry0 := ry
  obtain ⟨a, dx, vs, rfl, h1, _, _⟩ := rp_obj.mp rx
  obtain rfl := rp_int.mp ry
  obtain ⟨f, hM, run, _⟩ := F.run
  unfold ipOf
  intro pins s σ v u I rv ru
  cases rv
  obtain ⟨t, rfl⟩ := ru
  obtain ⟨od, J⟩ := inst_at I w h1
  obtain ⟨rc, e1, e2⟩ := nc.r
  obtain ⟨fo, e3⟩ := nc.l
  obtain ⟨ro, e4⟩ := nc.rr
  obtain ⟨cd, c1, c2, c3, c4⟩ := ni.ex
  subst hm
  exact inp_of1 J (fun add => inp_no I.kIn c1 c2 c3 c4) (bin1_I I.kIn J nc.first hM.at_ hM.fn e1 e2 e3 e4 nc.sub (wpAny_mono (run (vs := [.ref a, .int i]) hr I (.cons rfl (.cons ⟨t, rfl⟩ .nil)) (spD_of w (.cons rx0 (.cons ry0 .nil)) rfl hφ c)) (fun _ _ h => back_of h) fun _ _ h => h))
end
/-! ### making -/
section
variable {P : Program} {w : World} {K : PySem.W.Frag} {mg : Str → Option Value} {base : Heap}
/-- from an __init__'s promise to the class's: given arguments one by one -/
theorem mk_spD {CX : CXT} {C fI : Addr} {k m : Nat} {φ : Ph} (M : Mk K C fI) (F : FnR P w K mg base CX k fI (spIni K C m φ)) (hup : StX.CXUp CX) : FnR P w K mg base CX (k + 1) C (spD K m φ) := by
  refine (mk_fnR M F hup).imp fun vs H Q E hs x dx hx hdx ne => ?_
  obtain ⟨hl, F0, ds, q, xd, sf, r, hφ, hq, hxo⟩ := hs
  have ex1 := (wf_nil sf).own (o := .own x) hdx
  have hx' : (upd H dx (.own x)) x = none := by rw [upd_ne (Ne.symm ne)]; exact hx
  have ex2 := ex1.wf.own (o := .ins C dx []) hx'
  exact ⟨by rw [List.length_cons, hl], x, dx, vs, F0, H, F0, ds, q, xd, rfl, sf, ex1.trans ex2, hx, sf.free hx, upd_same, r, hφ, fun F' H' d ex rd qd => ⟨rfl, hq _ F' H' d ex rd qd⟩, hxo⟩
theorem upd_comm {H : Hp} {a b : Addr} {u v : HO} (h : a ≠ b) : upd (upd H a u) b v = upd (upd H b v) a u := by
  funext c
  by_cases e1 : c = a
  · subst e1
    rw [upd_ne h, upd_same, upd_same]
  · by_cases e2 : c = b
    · subst e2
      rw [upd_same, upd_ne e1, upd_same]
    · rw [upd_ne e2, upd_ne e1, upd_ne e1, upd_ne e2]
def spIniS (K : PySem.W.Frag) (C : Addr) (φ : Ph) : Sp := fun vs H Q E => ∃ ws rest, vs = ws ++ rest ∧ ws.length = 1 ∧ rest.length ≤ sizeLine ∧ ∀ p, H p = Option.none → spIni K C 1 φ (ws ++ [V.ref p]) (upd H p (.tup rest)) Q E
/-- .. given a star -/
theorem mk_spSt {CX : CXT} {C fI : Addr} {k : Nat} {φ : Ph} (M : Mk K C fI) (F : FnR P w K mg base CX k fI (spIniS K C φ)) (hup : StX.CXUp CX) : FnR P w K mg base CX (k + 1) C (spSt K φ) := by
  refine (mk_fnR M F hup).imp fun vs H Q E hs x dx hx hdx ne => ?_
  obtain ⟨hz, hs⟩ := hs
  refine ⟨[.ref x], vs, rfl, rfl, hz, fun p hp => ?_⟩
  have px : p ≠ x := fun z => by rw [z, upd_same] at hp; cases hp
  have hp1 : (upd H dx (.own x)) p = none := by rw [upd_ne px] at hp; exact hp
  have pdx : p ≠ dx := fun z => by rw [z, upd_same] at hp1; cases hp1
  have hp0 : H p = none := by rw [upd_ne pdx] at hp1; exact hp1
  obtain ⟨hl, F0, ds, q, xd, sf, r, hφ, hq, hxo⟩ := hs p hp0
  have eH : upd (upd (upd H dx (.own x)) x (.ins C dx [])) p (.tup vs) = upd (upd (upd H p (.tup vs)) dx (.own x)) x (.ins C dx []) := by
    rw [upd_comm (Ne.symm px), upd_comm (H := H) (Ne.symm pdx)]
  rw [eH]
  have hdx' : (upd H p (.tup vs)) dx = none := by rw [upd_ne (Ne.symm pdx)]; exact hdx
  have hx0 : (upd H p (.tup vs)) x = none := by rw [upd_ne (Ne.symm px)]; exact hx
  have ex1 := (wf_nil sf).own (o := .own x) hdx'
  have hx' : (upd (upd H p (.tup vs)) dx (.own x)) x = none := by rw [upd_ne (Ne.symm ne)]; exact hx0
  have ex2 := ex1.wf.own (o := .ins C dx []) hx'
  exact ⟨rfl, x, dx, [.ref p], F0, _, F0, ds, q, xd, rfl, sf, ex1.trans ex2, hx0, sf.free hx0, upd_same, r, hφ, fun F' H' d ex rd qd => ⟨rfl, hq _ F' H' d ex rd qd⟩, hxo⟩
/-- __init__(self, *v) -/
theorem iniS_ok {x qual : Str} {st : Stmt} {f C : Addr} {fd : FuncData} {kws : List (Str × V)} {N : List Str} {ps pv : Str} {k : Nat} {φ : Ph} (F : FD K x qual st [] kws f fd) (Sc : FnScope N [ps, pv] (defScope st))
    (hb : ∀ (kV doc pm : Value) (an : Option Addr) (cdv ct : Value) (u : Value) (rest : List Value), bindArgs (PySem.W.fnOf x qual (defArgs st) (defBody st) (defScope st) .none kV doc pm an cdv ct) ⟨u :: rest, []⟩ = (newTuple rest >>= fun t => pure [(ps, u), (pv, t)]))
    (h : ∀ (X : Cx) (cdv : Value) (A : Around) (outer : List Env) (s : Shared) (H : Hp) (E : XK) (a : Addr) (ds : List Dt) (q : Dt → Prop) (xd : XD), X = cxOf (L2.CX P w) P w K mg base N qual (defScope st) f cdv A outer s H E → Room k X.A → φ ds q xd → ds.length = 1 →
      S X .nil (defBody st) (stI N a C ds) { nx := fun G => ∃ d G', G = .ow (.at_ a d) :: G' ∧ q d, rt := fun _ => False }) : FnR P w K mg base (L2.CX P w) (k + 1) f (spIniS K C φ) := by
  obtain ⟨oc, od, dV, kV, doc, pm, an, cdv, ct, osl, rfl, lk, hcd, hD, _⟩ := F.ex
  have hdn : dV = .none := by
    rcases hD with ⟨_, h0⟩ | ⟨h0, _⟩
    · exact h0
    · exact (h0 rfl).elim
  subst hdn
  exact StX.fn_star (k := k) (P := P) (w := w) (mg := mg) (base := base) (CX := L2.CX P w) (ps := [ps]) (pv := pv) (sp := spIni K C 1 φ) lk hcd Sc StX.cxUp (fun us rest hl => by
    match us, hl with
    | [u], _ => exact hb kV doc pm an cdv ct u rest) (fun A outer s H vs Q E hr hh => ini_run (CX := L2.CX P w) hh rfl fun a ds q xd hφ hl F1 H0 _ _ => h _ cdv A outer s H E a ds q xd rfl hr hφ hl)
/-- __init__(self, a, ..) -/
theorem iniD_ok {x qual : Str} {st : Stmt} {f C : Addr} {fd : FuncData} {dvs : List V} {kws : List (Str × V)} {N ps : List Str} {k m : Nat} {φ : Ph} (F : FD K x qual st dvs kws f fd) (Sc : FnScope N ps (defScope st)) (hn : m + 1 = ps.length)
    (h : ∀ (X : Cx) (cdv : Value) (A : Around) (outer : List Env) (s : Shared) (H : Hp) (E : XK) (a : Addr) (ds : List Dt) (q : Dt → Prop) (xd : XD), X = cxOf (L2.CX P w) P w K mg base N qual (defScope st) f cdv A outer s H E → Room k X.A → φ ds q xd → ds.length = m →
      S X .nil (defBody st) (stI N a C ds) { nx := fun G => ∃ d G', G = .ow (.at_ a d) :: G' ∧ q d, rt := fun _ => False }) : FnOk P w K mg base (L2.CX P w) (k + 1) f fd ps (spIni K C m φ) := by
  refine FunD.ok F Sc (fun vs H Q E hh => by rw [hh.1, hn]) fun cdv A outer s H vs Q E hr hh => ?_
  exact ini_run (CX := L2.CX P w) hh rfl fun a ds q xd hφ hl F1 H0 _ _ => h _ cdv A outer s H E a ds q xd rfl hr hφ hl
theorem raw0 {CX : CXT} {f : Addr} {fd : FuncData} {ps : List Str} {k : Nat} {sp : Sp} (F : FnOk P w K mg base CX k f fd ps sp) (hb : Binds K fd ps []) : FnR P w K mg base CX k f sp := (F.raw hb .nil).imp fun vs H Q E h => by rw [List.append_nil]; exact h
/-- a class called with so many arguments -/
structure FnC (P : Program) (w : World) (K : PySem.W.Frag) (mg : Str → Option Value) (base : Heap) (k : Nat) (x : Str) (n : Nat) (φ : Ph) : Prop where
  ex : ∃ f : Addr, mg x = some (.ref f) ∧ PySem.W.keepIn K (.ref f) = true ∧ FnR P w K mg base (L2.CX P w) k f (spD K n φ)
theorem FnC.mono {P : Program} {w : World} {K : PySem.W.Frag} {mg : Str → Option Value} {base : Heap} {j k : Nat} {x : Str} {n : Nat} {φ : Ph} (F : FnC P w K mg base j x n φ) (h : j ≤ k) : FnC P w K mg base k x n φ := by
  obtain ⟨f, a, b, c⟩ := F.ex
  exact ⟨f, a, b, c.mono h⟩
/-- a method that is called one unit deeper -/
structure FnI (P : Program) (w : World) (K : PySem.W.Frag) (mg : Str → Option Value) (base : Heap) (k : Nat) (C : Addr) (m : Str) (ps : List Str) (dvs : List V) (sp : Sp) : Prop where
  ex : ∃ j, j + 1 ≤ k ∧ FnM P w K mg base j C m ps dvs sp
theorem FnI.mono {P : Program} {w : World} {K : PySem.W.Frag} {mg : Str → Option Value} {base : Heap} {j k : Nat} {C : Addr} {m : Str} {ps : List Str} {dvs : List V} {sp : Sp} (F : FnI P w K mg base j C m ps dvs sp) (h : j ≤ k) : FnI P w K mg base k C m ps dvs sp := by
  obtain ⟨i, a, b⟩ := F.ex
  exact ⟨i, Nat.le_trans a h, b⟩
end
end VS
set_option Elab.async false
set_option linter.all false
set_option maxRecDepth 100000
/-! own classes: instances called. -/
namespace VS
open PySem PySem.Spec L2
section
variable {M : Model} {A : Around} {E : Value → Shared → Prop} {s : Shared} {env : Env} {pos : Pos} {x C : Addr} {Q : Value → Shared → Prop}
theorem call_inst {as : List (Bool × Sem Value)} (hp : (as.any (·.1) || ([] : List (Option Str × Sem Value)).any (·.1.isNone)) = false)
    (h : wpAny M A (evalArgs (.ref x) true as []) (fun r s1 => (∃ ob od, PySem.W.InstAt s1.heap x ob C od ∧ ob.data = .plain) ∧ wpAny M A (call (.ref x) ([] ++ r.pos) r.kw) Q E s1) E s) : wpAny M A (callWith pos (.ref x) [] as []) Q E s := by
  unfold callWith
  refine wpAny_bind (wpAny_holding (wpAny_mono h (fun r s1 z => wpAny_bind (wpAny_standAt ?_)) fun _ _ z => z))
  obtain ⟨⟨ob, od, J, hd⟩, z⟩ := z
  have kp := PySem.W.kco_keeper (M := M) J hd
  simp only [hp]
  refine wpAny_bind (kp.here ?_)
  have fin : ∀ {t : Sem Value}, wpAny M A t Q E s1 → wpAny M A (t >>= fun r => holding [r] point >>= fun _ => pure r) Q E s1 := fun q =>
    wpAny_bind (wpAny_mono q (fun r s2 z2 => wpAny_bind (wpAny_holding (wpAny_point (wpAny_pure z2)))) fun _ _ z2 => z2)
  exact fin (wpAny_operateT z)
end
section
variable {X : Cx} {R : Reg} {G : List Sl} {pos : Pos} {k : Kt}
/-- o(e, ..), o of C -/
theorem e_callO {C : Addr} {ps : List Str} {φ : Ph} {n j : Nat} {o e : Expr} {es : List Expr} {P : Dt → Prop} (F : FnM X.prog X.w X.K X.mg X.base j C "__call__" ps [] (spD X.K n φ)) (hfi : ∀ f, PySem.W.findIn X.K (.ref C) "__call__" = some (some (.ref f)) → PySem.W.fnIn X.K f = true) (hr : Room j X.A)
    (h : E X R G o fun d => ∃ ns xs, d = .obj C ns xs ∧ EA X R G (e :: es) fun ds => (d :: ds).length = n ∧ φ (d :: ds) P fun _ _ _ => False)
    (hst : starEach (e :: es) X.env = (false, eval e X.env) :: starEach es X.env := by rfl) (hpl : (backTo pos (starEach es X.env)).any (·.1) = false := by rfl)
    (he : eval (.Call o (e :: es) [] pos) X.env = (do callWith pos (← eval o X.env) [] (backTo pos (starEach (e :: es) X.env)) (backToKw pos (keywordEach [] X.env))) := by rfl) : E X R G (.Call o (e :: es) [] pos) P := fun σ F' H Q ty c => by
  obtain ⟨f, fd, dv, hM, hb, hv, hF⟩ := F.ex
  have ed : dv = [] := by cases hv; rfl
  subst ed
  have ht := h σ F' H (fun v H1 => ∃ F1 d ns xs, Ext R F' H F1 H1 ∧ Rp X.K F1 d v ∧ d = .obj C ns xs ∧ EA X R G (e :: es) fun ds => (d :: ds).length = n ∧ φ (d :: ds) P fun _ _ _ => False) ty fun v F1 H1 d ex r ⟨ns, xs, e1, e2⟩ => ⟨F1, d, ns, xs, ex, r, e1, e2⟩
  unfold tOf
  intro pins s I
  refine PyProof.Rows.Call_ (thn (pe_w.run pins s σ H _ I ht) fun u s1 ⟨v, H1, I1, rv, F1, d, ns, xs, ex, r, e1, e2⟩ => ?_) he
  have r0 := r
  subst e1
  obtain ⟨a, dx, vs, rfl, h1, _, _⟩ := rp_obj.mp r
  cases rv
  have hta := e2 σ F1 H1 (fun ws H2 => ∃ F2, Ext R F1 H1 F2 H2 ∧ spD X.K n φ (.ref a :: ws) H2 Q E0) (ty.ext ex) fun ws F2 H2 ds ex2 r2 ⟨hl, hφ⟩ => ⟨F2, ex2, spD_of ex2.wf (.cons (r0.mono ex2.ff) r2) hl hφ (c.step (ex.trans ex2))⟩
  have hpa : wpAny (model X.prog X.w) X.A (spliced (backTo pos (starEach (e :: es) X.env))) (fun us s2 => (∃ ob od, PySem.W.InstAt s2.heap a ob C od ∧ ob.data = .plain) ∧ wpAny (model X.prog X.w) X.A (call (.ref a) ([] ++ us)) (EP X pins σ Q) X.xe s2) X.xe s1 := by
    refine thn (pa_w.run pos pins s1 σ H1 _ I1 hta) fun us s2 ⟨ws, H2, I2, r2, F2, ex2, q2⟩ => ?_
    obtain ⟨od, J⟩ := inst_at I2 ex2.wf (ex2.ff _ _ h1)
    refine ⟨⟨_, _, J, rfl⟩, ?_⟩
    have r3 : Vals (.ref a :: ws) (Value.ref a :: us) := .cons rfl r2
    have hl : ((Value.ref a :: us) ++ []).length = ps.length := by rw [List.append_nil, ← r3.length]; exact hF.len _ _ _ _ q2
    refine wpAny_call (PySem.W.kco_code I2.kIn J rfl hM.at_ hM.fn (hfi f hM.at_) (codeAny_mono (hF.run X.A X.stack s2 H2 ⟨Value.ref a :: us, []⟩ ((Value.ref a :: us) ++ []) (.ref a :: ws) Q E0 hr I2.env0 (hb s2 (Value.ref a :: us) I2.kIn hl) (by rw [List.append_nil]; exact r3) q2) fun rr s' hq => ?_))
    cases rr with
    | error er => exact passL pins σ H2 s2 er s' I2 hq
    | ok fl =>
      cases fl with
      | ret u => exact I2.after hq
      | next => exact False.elim hq
      | brk => exact False.elim hq
      | cont => exact False.elim hq
  rw [hst] at hpa ⊢
  exact call_inst (C := C) (by show ((false || (backTo pos (starEach es X.env)).any (·.1)) || false) = false; rw [hpl]; rfl) (PySem.Calls.evalArgs_plain hpa)
end
end VS
set_option Elab.async false
set_option linter.all false
set_option maxRecDepth 100000
/-! the class Poly: what its text tells. -/
namespace VS
open PySem PySem.Spec L2
def numB (K : PySem.W.Frag) (C : Addr) (nm : String) : Bool := PySem.W.selfFirst K C && ((match PySem.W.findIn K (.ref C) (dunderR nm) with
    | some none => true
    | some (some (.ref _)) => true
    | _ => false) && ((PySem.W.findIn K (.type "int") (PySem.dunder nm)).isSome && ((PySem.W.findIn K (.type "int") (dunderR nm)).isSome && (decide (PySem.W.subIn K (.type "int") (.ref C) = some false) && decide (PySem.W.subIn K (.ref C) (.type "int") = some false)))))
theorem numB_ok {K : PySem.W.Frag} {C : Addr} {nm : String} (h : numB K C nm = true) : NumC K C nm := by
  obtain ⟨h1, h⟩ := He.ba h
  obtain ⟨h2, h⟩ := He.ba h
  obtain ⟨h3, h⟩ := He.ba h
  obtain ⟨h4, h⟩ := He.ba h
  obtain ⟨h5, h6⟩ := He.ba h
  refine ⟨h1, ?_, Option.isSome_iff_exists.mp h3, Option.isSome_iff_exists.mp h4, of_decide_eq_true h5, of_decide_eq_true h6⟩
  split at h2
  · rename_i e
    exact ⟨none, e, .inl rfl⟩
  · rename_i g e
    exact ⟨_, e, .inr ⟨g, rfl⟩⟩
  · cases h2
def inpB (K : PySem.W.Frag) (C : Addr) (nm : String) : Bool := (match PySem.W.clsIn K C with
    | some cd => decide (cd.mro = [.ref C, .type "object"])
    | none => false) && (decide (PySem.W.findIn K (.ref C) (dunderI nm) = some none) && decide (PySem.W.findIn K (.type "object") (dunderI nm) = some none))
theorem inpB_ok {K : PySem.W.Frag} {C : Addr} {nm : String} (h : inpB K C nm = true) : NoInp K C nm := by
  obtain ⟨h1, h⟩ := He.ba h
  obtain ⟨h2, h3⟩ := He.ba h
  cases e : PySem.W.clsIn K C with
  | none => rw [e] at h1; cases h1
  | some cd =>
    rw [e] at h1
    exact ⟨cd, e, of_decide_eq_true h1, of_decide_eq_true h2, of_decide_eq_true h3⟩
/-- the type of an instance -/
def tyB (K : PySem.W.Frag) (C : Addr) : Bool := decide (PySem.W.findIn K (.ref C) "__class__" = some (some (.builtin "object.__class__"))) && (decide (PySem.W.specialIn K (.builtin "object.__class__") "__get__" = some (some (.builtin "getset_descriptor.__get__"))) && (decide (PySem.W.takesIn K (.builtin "object.__class__") = some true) && decide (PySem.W.mroIn K C (.type "object") = some true)))
theorem tyB_ok {K : PySem.W.Frag} {C : Addr} (h : tyB K C = true) (cl : Cls K C) (ns : List Str) (xs : List Dt) : TyD K (.obj C ns xs) (.ref C) := fun F H x s r => by
  obtain ⟨h1, h⟩ := He.ba h
  obtain ⟨h2, h⟩ := He.ba h
  obtain ⟨h3, h4⟩ := He.ba h
  obtain ⟨a, dx, vs, rfl, e, _⟩ := rp_obj.mp r
  exact .base (.ins (s _ _ e) cl (of_decide_eq_true h1) (of_decide_eq_true h2) (of_decide_eq_true h3) (of_decide_eq_true h4))
def clsC (K : PySem.W.Frag) (C : Addr) : Bool := PySem.W.plainGet K C Str.empty && (PySem.W.hasDictIn K C && (PySem.W.plainOver K C && decide (PySem.W.findIn K (.ref C) "__setattr__" = some (some (.builtin "object.__setattr__")))))
theorem clsC_ok {K : PySem.W.Frag} {C : Addr} (h : clsC K C = true) : Cls K C := by
  obtain ⟨h1, h⟩ := He.ba h
  obtain ⟨h2, h⟩ := He.ba h
  obtain ⟨h3, h4⟩ := He.ba h
  exact ⟨h1, h2, h3, of_decide_eq_true h4⟩
def mkB (K : PySem.W.Frag) (C : Addr) : Bool := PySem.W.makesIn K C && (decide (PySem.W.findIn K (.ref C) "__init__" = some (some (.ref (He.ma K C "__init__")))) && (PySem.W.isFn K (.ref (He.ma K C "__init__")) && PySem.W.keepIn K (.ref C)))
theorem mkB_ok {K : PySem.W.Frag} {C : Addr} (h : mkB K C = true) : Mk K C (He.ma K C "__init__") := by
  obtain ⟨h1, h⟩ := He.ba h
  obtain ⟨h2, h⟩ := He.ba h
  obtain ⟨h3, h4⟩ := He.ba h
  exact ⟨h1, of_decide_eq_true h2, h3, h4⟩
def methB (K : PySem.W.Frag) (C : Addr) (m : Str) : Bool := decide (PySem.W.findIn K (.ref C) m = some (some (.ref (He.ma K C m)))) && (PySem.W.isFn K (.ref (He.ma K C m)) && PySem.W.keepIn K (.ref (He.ma K C m)))
theorem methB_ok {K : PySem.W.Frag} {C : Addr} {m : Str} (h : methB K C m = true) : Meth K C m (He.ma K C m) := by
  obtain ⟨h1, h⟩ := He.ba h
  obtain ⟨h2, h3⟩ := He.ba h
  exact ⟨of_decide_eq_true h1, h2, h3⟩
def propB (K : PySem.W.Frag) (C : Addr) (m : Str) : Bool := decide (PySem.W.findIn K (.ref C) m = some (some (.ref (He.ma K C m)))) && (decide (PySem.W.specialIn K (.ref (He.ma K C m)) "__get__" = some (some (.builtin "property.__get__"))) && (decide (PySem.W.takesIn K (.ref (He.ma K C m)) = some true) && (match PySem.W.recIn K (He.ma K C m) "property" with
    | some (.ref _ :: _) => true
    | _ => false)))
theorem propB_ok {K : PySem.W.Frag} {C : Addr} {m : Str} (h : propB K C m = true) : PropOf K C m (He.ma K C m) (He5.wf K C "property" m) := by
  obtain ⟨h1, h⟩ := He.ba h
  obtain ⟨h2, h⟩ := He.ba h
  obtain ⟨h3, h4⟩ := He.ba h
  refine ⟨of_decide_eq_true h1, of_decide_eq_true h2, of_decide_eq_true h3, ?_⟩
  unfold He5.wf
  split at h4
  · rename_i f r e
    exact ⟨r, by rw [e]⟩
  · cases h4
def creadB (K : PySem.W.Frag) (C : Addr) : Bool := PySem.W.readsIn K C (.type "type") && decide (PySem.W.specialIn K (.ref C) "__getattribute__" = some (some (.builtin "type.__getattribute__")))
theorem creadB_ok {K : PySem.W.Frag} {C : Addr} (h : creadB K C = true) : ClX.CRead K C (.type "type") := by
  obtain ⟨h1, h2⟩ := He.ba h
  exact ⟨h1, of_decide_eq_true h2⟩
def cmetB (K : PySem.W.Frag) (C : Addr) (m : Str) : Bool := He5.wrapB K C "classmethod" "classmethod.__get__" m && PySem.W.fnIn K (He5.wf K C "classmethod" m)
theorem cmetB_ok {K : PySem.W.Frag} {C : Addr} {m : Str} (h : cmetB K C m = true) : ClX.CMet K C (.type "type") m (He.ma K C m) (He5.wf K C "classmethod" m) := by
  obtain ⟨h1, h2⟩ := He.ba h
  exact He5.cmet_of h1 h2
/-- the plain types that are no Poly -/
def plainT : List String := ["int", "bool", "tuple", "list", "str", "NoneType", "dict"]
def notB (K : PySem.W.Frag) (C : Addr) : Bool := plainT.all fun T => decide (PySem.W.kitOne K (.type T) (.ref C) = some false) && PySem.W.notFirst K C (.type T)
theorem notB_ok {K : PySem.W.Frag} {C : Addr} (h : notB K C = true) {T : String} (hT : T ∈ plainT) : PySem.W.kitOne K (.type T) (.ref C) = some false ∧ PySem.W.notFirst K C (.type T) = true := by
  obtain ⟨h1, h2⟩ := He.ba (List.all_eq_true.mp h T hT)
  exact ⟨of_decide_eq_true h1, h2⟩
structure PolyC (K : PySem.W.Frag) (C : Addr) : Prop where
  cl : Cls K C
  na_coefs : NoAttr K C "coefs"
  ty : ∀ ns xs, TyD K (.obj C ns xs) (.ref C)
  add : NumC K C "add"
  sub : NumC K C "sub"
  mul : NumC K C "mul"
  fdiv : NumC K C "floordiv"
  pow : NumC K C "pow"
  iadd : NoInp K C "add"
  isub : NoInp K C "sub"
  imul : NoInp K C "mul"
  self : PySem.W.kitOne K (.ref C) (.ref C) = some true
  no : ∀ T, T ∈ plainT → PySem.W.kitOne K (.type T) (.ref C) = some false ∧ PySem.W.notFirst K C (.type T) = true
  seq : PySem.W.noSeq K C = true
  call : ∀ f, PySem.W.findIn K (.ref C) "__call__" = some (some (.ref f)) → PySem.W.fnIn K f = true
def polyB (K : PySem.W.Frag) (C : Addr) : Bool := clsC K C && (decide (PySem.W.findIn K (.ref C) "coefs" = some none) && (tyB K C && (numB K C "add" && (numB K C "sub" && (numB K C "mul" && (numB K C "floordiv" && (numB K C "pow" && (inpB K C "add" && (inpB K C "sub" && (inpB K C "mul" && (decide (PySem.W.kitOne K (.ref C) (.ref C) = some true) && (notB K C && (PySem.W.noSeq K C && PySem.W.fnIn K (He.ma K C "__call__"))))))))))))))
theorem polyB_ok {K : PySem.W.Frag} {C : Addr} (h : polyB K C = true) : PolyC K C := by
  obtain ⟨h1, h⟩ := He.ba h
  obtain ⟨h2, h⟩ := He.ba h
  obtain ⟨h3, h⟩ := He.ba h
  obtain ⟨h4, h⟩ := He.ba h
  obtain ⟨h5, h⟩ := He.ba h
  obtain ⟨h6, h⟩ := He.ba h
  obtain ⟨h7, h⟩ := He.ba h
  obtain ⟨h8, h⟩ := He.ba h
  obtain ⟨h9, h⟩ := He.ba h
  obtain ⟨h10, h⟩ := He.ba h
  obtain ⟨h11, h⟩ := He.ba h
  obtain ⟨h12, h⟩ := He.ba h
  obtain ⟨h13, h⟩ := He.ba h
  obtain ⟨h14, h15⟩ := He.ba h
  exact ⟨clsC_ok h1, (show PySem.W.findIn K (.ref C) "coefs" = some none from of_decide_eq_true h2), tyB_ok h3 (clsC_ok h1), numB_ok h4, numB_ok h5, numB_ok h6, numB_ok h7, numB_ok h8, inpB_ok h9, inpB_ok h10, inpB_ok h11, of_decide_eq_true h12, fun T hT => notB_ok h13 hT, h14, fun f hf => by unfold He.ma at h15; rw [hf] at h15; exact h15⟩
section
variable {X : Cx} {R : Reg} {G : List Sl} {pos : Pos} {k : Kt}
/-- c(*e), c a local name of a class -/
theorem e_callSt1V (i : Nat) {x y : Str} {φ : Ph} {j : Nat} {C : Addr} {e : Expr} {p p2 : Pos} {P : Dt → Prop} (F : FnS X.prog X.w X.K X.mg X.base j y φ) (hm : X.mg y = some (.ref C)) (hr : Room j X.A) (h : E X R G e fun d => ∃ ds, (d = .lst ds ∨ d = .tup ds) ∧ ds.length ≤ 100000 ∧ φ [.tup ds] P fun _ _ _ => False)
    (hg : G[i]? = some (.sh (.adr C)) := by rfl) (hN : X.N[i]? = some x := by rfl) (hv : Vis X.env.scope x := by first | exact Or.inl rfl | exact Or.inr (Or.inl rfl) | exact Or.inr (Or.inr rfl))
    (hdb : (x == ("__debug__" : Str)) = false := by decide) (hcd : (x == ("__classdict__" : Str)) = false := by decide) (hst : starEach [.Starred e p2] X.env = [(true, eval e X.env)] := by rfl) : E X R G (.Call (.Name x p) [.Starred e p2] [] pos) P := fun σ F' H Q ty c => by
  obtain ⟨f, a1, a2, a3⟩ := F.ex
  rw [hm] at a1
  cases a1
  obtain ⟨v0, e1, y0, e2, r0⟩ := ty.sl.get hg
  have ey := rp_adr.mp r0
  subst ey
  have ht : tOf X e σ H _ := h σ F' H _ ty fun v F1 H1 d ex r ⟨ds, hd, hl, hφ⟩ => (show ∃ a xs, v = V.ref a ∧ (SqT X.K H1 a xs ∨ SqL X.K H1 a xs) ∧ spSt X.K φ xs H1 Q E0 from by
    rcases hd with rfl | rfl
    · obtain ⟨a, vs, rfl, h1, rl⟩ := rp_lst.mp r
      exact ⟨a, vs, rfl, .inr (SqL.of (ex.wf.fh _ _ h1)), spSt_of ex.wf rl hl hφ (c.step ex)⟩
    · obtain ⟨a, vs, rfl, h1, rl⟩ := rp_tup.mp r
      exact ⟨a, vs, rfl, .inl (sq_t ex.wf.fh h1), spSt_of ex.wf rl hl hφ (c.step ex)⟩)
  unfold tOf
  intro pins s I
  refine wpAny_Call_Name_kw (thn ((pe_var hN hv hdb hcd).run pins s σ H (fun y H1 => y = .ref C ∧ H1 = H) I ⟨.ref C, by rw [e1, e2], rfl, rfl⟩) fun u s1 ⟨y, H1, I1, ry, ey, eH⟩ => ?_)
  subst ey eH
  obtain rfl : u = Value.ref C := ry
  refine PySem.W.callWith_S (h₀ := X.base) I1.ok.mod.kin a2 (thn (pe_w.run pins s1 σ _ _ I1 ht) fun v s2 ⟨y, H2, I2, ry, a, xs, ey, hxs, q⟩ => ?_) hst
  subst ey
  obtain rfl : v = Value.ref a := ry
  exact StX.star_any I2 hxs fun us s3 I3 rv => ⟨I3.kIn, wpAny_call (run_fnR a3 hr passL I3 rv q)⟩
end
/-! ### names of the operators -/
theorem dn_add : PySem.dunder (Operator.info .Add).2 = "__add__" := by decide +kernel
theorem dn_sub : PySem.dunder (Operator.info .Sub).2 = "__sub__" := by decide +kernel
theorem dn_mul : PySem.dunder (Operator.info .Mult).2 = "__mul__" := by decide +kernel
theorem dn_fdiv : PySem.dunder (Operator.info .FloorDiv).2 = "__floordiv__" := by decide +kernel
theorem dn_pow : PySem.dunder (Operator.info .Pow).2 = "__pow__" := by decide +kernel
theorem dr_add : dunderR (Operator.info .Add).2 = "__radd__" := by decide +kernel
theorem dr_sub : dunderR (Operator.info .Sub).2 = "__rsub__" := by decide +kernel
theorem dr_mul : dunderR (Operator.info .Mult).2 = "__rmul__" := by decide +kernel
end VS
set_option Elab.async false
set_option linter.all false
set_option maxRecDepth 100000
/-! operators that may raise; an error without a field; text.split. -/
namespace VS
open PySem PySem.Spec L2
section
variable {X : Cx} {R : Reg} {G : List Sl} {pos : Pos} {k : Kt} {xq : List Sl → XD} {W : WX}
@[irreducible] def opAt (X : Cx) (f : Value → Value → Sem Value) (σ : St) : R2 := fun x y H Q => ∀ pins s v u, Inv X pins σ H s → RelV x v → RelV y u → wpAny (model X.prog X.w) X.A (f v u) (EP X pins σ Q) X.xe s
theorem tOf_op {a b : Expr} {op : Operator} {σ : St} {H : Hp} {Q : VK} (h : tOf X a σ H fun x H1 => tOf X b σ H1 fun y H2 => opAt X (binaryOp op) σ x y H2 Q) : tOf X (.BinOp a op b pos) σ H Q := by
  unfold tOf
  intro pins s I
  exact wpAny_BinOp (binT pe_w pe_w I h fun v u s2 x y H2 I2 rx ry q => by unfold opAt at q; exact q pins s2 v u I2 rx ry)
theorem FnM.runX {C : Addr} {m : Str} {ps : List Str} {φ : Ph} {n j : Nat} (tk : Takes X W) (F : FnM X.prog X.w X.K X.mg X.base j C m ps [] (spD X.K n φ)) : ∃ f, Meth X.K C m f ∧
    (∀ {pins : List (Addr × Obj)} {σ : St} {H : Hp} {s : Shared} {Q : VK} {us : List Value} {vs : List V}, Room j X.A → Inv X pins σ H s → Vals vs us → spD X.K n φ vs H Q (WE W σ) → wpAny (model X.prog X.w) X.A (call (.ref f) us) (EP X pins σ Q) X.xe s) := by
  obtain ⟨f, fd, ds, a1, a3, a4, a5⟩ := F.ex
  have e : ds = [] := by cases a4; rfl
  subst e
  exact ⟨f, a1, fun {pins σ H s Q us vs} hr I r h => run_fnS (E := WE W) a5 hr a3 (passAt tk σ) I r h⟩
theorem spD_ofX {F H : Hp} {vs : List V} {ds : List Dt} {n : Nat} {φ : Ph} {P : Dt → Prop} {xd : XD} {Q : VK} {σ : St} (w : Wf R F H) (r : RpL X.K F ds vs) (hl : ds.length = n) (hφ : φ ds P xd) (c : Ct X.K R F H P Q)
    (cx : ∀ F' H' C ns ds d, xd C ns ds → Ext R F H F' H' → XDat X.K R H F' H' ns ds d → W (.ref C) d σ H') : spD X.K n φ vs H Q (WE W σ) :=
  ⟨by rw [← hl]; exact r.length.symm, F, _, P, xd, w.fh, r, hφ, fun v F2 H2 d ex2 r2 p => c v F2 H2 d (Ext.of_nil w ex2) r2 p, ⟨fun C ns ds dx vs F2 H2 hx ex2 e1 e2 e3 e4 => cx F2 H2 C ns ds (some dx) hx (Ext.of_nil w ex2) (.inl ⟨dx, vs, rfl, e4, w.new e4, e1, e2, e3⟩), fun C F2 H2 hx ex2 => cx F2 H2 C [] [] none hx (Ext.of_nil w ex2) (.inr ⟨rfl, rfl, rfl⟩)⟩⟩
/-- p op q, both of C, may raise -/
theorem ex_binO {op : Operator} {C : Addr} {m : Str} {ps : List Str} {φ : Ph} {j : Nat} {a b : Expr} {P : Dt → Prop} {xd : XD} (tk : Takes X W) (F : FnM X.prog X.w X.K X.mg X.base j C m ps [] (spD X.K 2 φ)) (hm : PySem.dunder op.info.2 = m) (hr : Room j X.A) (nc : NumC X.K C op.info.2)
    (h : E X R G a fun d1 => ∃ ns xs, d1 = .obj C ns xs ∧ E X R G b fun d2 => ((∃ ms ys, d2 = .obj C ms ys) ∨ ∃ i, d2 = .int i) ∧ φ [d1, d2] P xd) : EX X R G W (.BinOp a op b pos) P xd := fun σ F0 H Q ty c cx =>
  tOf_op (h σ F0 H _ ty fun v F1 H1 d1 ex1 r1 ⟨ns, xs, e1, h2⟩ => h2 σ F1 H1 _ (ty.ext ex1) fun w F2 H2 d2 ex2 r2 ⟨e2, hφ⟩ => by
    subst e1
    have rx0 := r1.mono ex2.ff
    obtain ⟨a', dx, vs, rfl, h1, _, _⟩ := rp_obj.mp rx0
    obtain ⟨f, hM, run⟩ := FnM.runX tk F
    have cc := c.step (ex1.trans ex2)
    have cx2 : ∀ F' H' C ns ds d, xd C ns ds → Ext R F2 H2 F' H' → XDat X.K R H2 F' H' ns ds d → W (.ref C) d σ H' := fun F' H' C ns ds d hx ex dat => cx F' H' C ns ds d hx ((ex1.trans ex2).trans ex) (XDat.free (ex1.trans ex2) dat)
    unfold opAt
    intro pins s v u I rv ru
    cases rv
    obtain ⟨od, J⟩ := inst_at I ex2.wf h1
    obtain ⟨m', hF⟩ := I.fr
    subst hm
    rcases e2 with ⟨ms, ys, rfl⟩ | ⟨i, rfl⟩
    · have ry0 := r2
      obtain ⟨b', dy, us, rfl, h2, _, _⟩ := rp_obj.mp r2
      cases ru
      obtain ⟨od', J'⟩ := inst_at I ex2.wf h2
      exact PySem.W.binop_K hF I.ok.mod.kin J J'.type nc.first hM.at_ hM.fn (wpAny_mono (run (vs := [.ref a', .ref b']) hr I (.cons rfl (.cons rfl .nil)) (spD_ofX ex2.wf (.cons rx0 (.cons ry0 .nil)) rfl hφ cc cx2)) (fun _ _ h => back_of h) fun _ _ h => h)
    · have ry0 := r2
      obtain rfl := rp_int.mp r2
      obtain ⟨t, rfl⟩ := ru
      obtain ⟨rc, e1, e2⟩ := nc.r
      obtain ⟨fo, e3⟩ := nc.l
      obtain ⟨ro, e4⟩ := nc.rr
      exact PySem.W.ksp_binT hF I.ok.mod.kin J rfl nc.first hM.at_ hM.fn e1 e2 e3 e4 nc.sub (wpAny_mono (run (vs := [.ref a', .int i]) hr I (.cons rfl (.cons ⟨t, rfl⟩ .nil)) (spD_ofX ex2.wf (.cons rx0 (.cons ry0 .nil)) rfl hφ cc cx2)) (fun _ _ h => back_of h) fun _ _ h => h))
/-- an own error class without a field and without __init__ -/
structure Er0 (K : PySem.W.Frag) (mg : Str → Option Value) (x : Str) (C : Addr) : Prop where
  gl : mg x = some (.ref C)
  q : PySem.W.excIn K C [.type "ValueError", .type "Exception", .type "BaseException", .type "object"] "ValueError.__new__" = true
  kp : PySem.W.keepIn K (.ref C) = true
  sub : PySem.W.subIn K (.ref C) (.type "BaseException") = some true
  ty : PySem.W.typeIn K (.ref C) = some (.type "type")
def er0B (K : PySem.W.Frag) (C : Addr) : Bool := PySem.W.excIn K C [.type "ValueError", .type "Exception", .type "BaseException", .type "object"] "ValueError.__new__" && (PySem.W.keepIn K (.ref C) && (decide (PySem.W.subIn K (.ref C) (.type "BaseException") = some true) && decide (PySem.W.typeIn K (.ref C) = some (.type "type"))))
theorem er0B_ok {K : PySem.W.Frag} {mg : Str → Option Value} {x : Str} {C : Addr} (hg : mg x = some (.ref C)) (h : er0B K C = true) : Er0 K mg x C := by
  obtain ⟨h1, h⟩ := He.ba h
  obtain ⟨h2, h⟩ := He.ba h
  obtain ⟨h3, h4⟩ := He.ba h
  exact ⟨hg, h1, h2, of_decide_eq_true h3, of_decide_eq_true h4⟩
/-- raise x("..") -/
theorem s_raise0 {x m : Str} {C : Addr} {j : Nat} {p p2 pos' : Pos} (tk : Takes X W) (e : Er0 X.K X.mg x C) (hg : Gl X x) (hx : xq G C [] []) (hc : X.calm = true := by rfl) (hdb : (x == ("__debug__" : Str)) = false := by decide) :
    S1 X (R.wX X.K xq W) (.Raise (some (.Call (.Name x p) [.Constant (.str m) j p2] [] pos)) none pos') G k := fun F0 H0 σ F H D ty b c =>
  s1Of.of (ps_raise hc tk (pmk_own PySem.F.excBase_ValueError e.q e.gl e.kp (raises_own e.sub e.ty) hg hdb)) (b.z G σ F H C [] [] none hx ty.un b.ext.un b.fresh (.inr ⟨rfl, rfl, rfl⟩))
/-- a, b = e where e may raise -/
theorem s_unpackX {tg e : Expr} (h : EX X (R.wX X.K xq W) G W e (fun d => ∃ js, A X tg d js ∧ k.nx (setsD G js)) (xq G)) (hs : swapsWithSole [tg] e pos.line X.env = pure false := by rfl) (hw : swappedStores [tg] e X.env = pure none := by rfl)
    (h1 : (assignEach [tg] X.env).map (·.2) = [assign tg X.env] := by rfl) : S1 X (R.wX X.K xq W) (.Assign [tg] e pos) G k := fun F0 H0 σ F H D ty b c =>
  s1Of.of (ps_asg pe_w pg_w hs hw h1) (h σ F H _ ty (fun v F1 H1 d ex r ⟨js, ha, p⟩ => ha σ F1 H1 v _ ex.wf.fh r fun vs hl rv => c.nx _ _ F1 H1 p ((ty.ext ex).sets rv) ⟨(b.step ex).ext, fun o ho => b.fresh o (owns_sets hl ho), b.z⟩) (z_of ty b))
/-- o.split(e) -/
theorem e_split {o e : Expr} {apos : Pos} {P : Dt → Prop} (h : E X R G o fun d => ∃ a, d = .str a ∧ E X R G e fun d' => ∃ b, d' = .str b ∧ (b.length == 0) = false ∧ a.length ≤ 100000 ∧ P (.lst ((Txt.split a b).map .str)))
    (hs : starEach [e] X.env = [(false, eval e X.env)] := by rfl) (hbase : attributeBase o "split" X.env (eval o X.env) = eval o X.env := by rfl) (hline : (apos.endLine == pos.line) = true := by rfl) : E X R G (.Call (.Attribute o "split" apos) [e] [] pos) P := fun σ F H Q ty c => by
  refine tOf.of (pe_split pe_w pe_w hs hbase hline) (h σ F H _ ty fun v F1 H1 d ex r ⟨a, ed, h2⟩ => ?_)
  subst ed
  refine ⟨⟨a, rp_str.mp r⟩, ?_⟩
  refine h2 σ F1 H1 _ (ty.ext ex) fun v2 F2 H2 d2 ex2 r2 ⟨b, eb, hb, hl, p⟩ => ?_
  subst eb
  refine ⟨a, b, rp_str.mp r, by rw [rp_str.mp r2], hb, Nat.le_trans (Nat.add_le_add_right hl 2) (by decide), fun q hq => ?_⟩
  have ex3 := ex2.wf.made (o := .lst ((Txt.split a b).map .str)) hq
  refine c _ _ _ _ ((ex.trans ex2).trans ex3) (rp_lst_new (ex2.wf.fh.free hq) ?_) p
  generalize Txt.split a b = l
  induction l with
  | nil => exact .nil
  | cons z l ih => exact .cons (rp_str.mpr rfl) ih
end
end VS
set_option Elab.async false
set_option linter.all false
set_option maxRecDepth 100000
/-! range downwards; a new list of one's own from a list or tuple. -/
namespace VS
open PySem PySem.Spec L2
/-- hi, hi - 1, .. n of them -/
def downD (hi : Int) (n : Nat) : List Dt := (List.range n).map fun i => .int (hi - (i : Nat))
theorem downD_length (hi : Int) (n : Nat) : (downD hi n).length = n := by simp [downD]
theorem downD_get {hi : Int} {n i : Nat} {d : Dt} (h : (downD hi n)[i]? = some d) : i < n ∧ d = .int (hi - (i : Nat)) := by
  unfold downD at h
  rw [List.getElem?_map] at h
  by_cases hi : i < n
  · rw [List.getElem?_range hi] at h
    exact ⟨hi, (Option.some.inj h).symm⟩
  · rw [List.getElem?_eq_none (by simpa using hi)] at h
    cases h
section
variable {X : Cx} {R : Reg} {G : List Sl} {pos : Pos} {k : Kt}
theorem itd_down {F1 : Hp} {hi : Int} {n : Nat} : Itd X.K R F1 (Itc hi (-1) n) (downD hi n) := fun F H sf wf => ⟨fun i hi => by rw [downD_length] at hi; exact hi, fun i d hd => by
  obtain ⟨h1, h2⟩ := downD_get hd
  refine ⟨h1, fun x H' y => ?_⟩
  obtain ⟨rfl, rfl⟩ := y
  refine ⟨F, .refl wf, ?_⟩
  rw [h2]
  exact rp_int.mpr (by rw [show hi + (i : Int) * -1 = hi - (i : Int) by omega])⟩
theorem i_range3 {tg a b c : Expr} {p : Pos} {P : List Dt → Prop} (hg : Gl X "range") (hm : X.mg "range" = none) (h : EA X R G [a, b, c] fun ds => ∃ i j : Int, ds = [.int i, .int j, .int (-1)] ∧ (-(2 ^ 62) ≤ i ∧ i < 2 ^ 62 ∧ -(2 ^ 62) ≤ j ∧ j < 2 ^ 62) ∧ P (downD i (i - j).toNat))
    (hs : starEach [a, b, c] X.env = (false, eval a X.env) :: starEach [b, c] X.env := by rfl) (hpl : (backTo pos (starEach [b, c] X.env)).any (·.1) = false := by rfl) : I X R G tg (.Call (.Name "range" p) [a, b, c] [] pos) P := fun σ F H Q ty ct =>
  tiOf.of (pi_range3 hg hm pa_w hs hpl) (h σ F H _ ty fun v F1 H1 d ex r ⟨i, j, e, h3, p⟩ => by
    subst e
    obtain ⟨v, rest, rfl, r1, r2⟩ := r.of_cons
    obtain ⟨v2, v3, rfl, r3, r4⟩ := r2.two
    exact ⟨i, j, -1, (i - j).toNat, by rw [rp_int.mp r1, rp_int.mp r3, rp_int.mp r4], RgC.neg h3.1 h3.2.1 h3.2.2.1 h3.2.2.2, ct _ F1 H1 _ ex itd_down p⟩)
/-- list(e), one's own -/
theorem en_list {e : Expr} {p : Pos} {P : List Dt → Prop} (hg : Gl X "list") (hm : X.mg "list" = none) (h : EA X R G [e] fun ds => ∃ d xs, ds = [d] ∧ (d = .lst xs ∨ d = .tup xs) ∧ P xs)
    (he : starEach [e] X.env = (false, eval e X.env) :: starEach [] X.env := by rfl) (hpl : (backTo pos (starEach [] X.env)).any (·.1) = false := by rfl) : EN X R G (.Call (.Name "list" p) [e] [] pos) P := fun σ F H Q ty c => by
  refine tOf.of (pe_callTy call_list_of hg hm b_list pa_w (by decide) (by decide) he hpl) (h σ F H _ ty fun vs F1 H1 ds ex1 r1 h2 => ?_)
  obtain ⟨d, xs, rfl, hd, hp⟩ := h2
  obtain ⟨v, rfl, r⟩ := r1.one
  rcases hd with rfl | rfl
  · obtain ⟨a, ws, rfl, h1, rl⟩ := rp_lst.mp r
    exact ⟨a, ws, rfl, .inl (SqL.of (ex1.wf.fh _ _ h1)), fun q hq => c q F1 _ xs ws (ex1.trans (ex1.wf.own hq)) (ex1.free hq) (ex1.wf.new hq) upd_same (ex1.wf.fh.free hq) rl hp⟩
  · obtain ⟨a, ws, rfl, h1, rl⟩ := rp_tup.mp r
    exact ⟨a, ws, rfl, .inr (sq_t ex1.wf.fh h1), fun q hq => c q F1 _ xs ws (ex1.trans (ex1.wf.own hq)) (ex1.free hq) (ex1.wf.new hq) upd_same (ex1.wf.fh.free hq) rl hp⟩
end
end VS
set_option Elab.async false
set_option linter.all false
set_option maxRecDepth 100000
/-! a thing of one's own: given back by a def, lent for a while. -/
namespace VS
open PySem PySem.Spec L2
/-- kinds of things: 0 lists, 1 dicts, 2 objects -/
def isK : Nat → HO → Prop
  | 0, o => ∃ xs, o = .lst xs
  | 1, o => (∃ kvs, o = .dT kvs) ∨ ∃ kvs, o = .dK kvs
  | _, o => ∃ C dx fs, o = .ins C dx fs
mutual
/-- data in which no thing of the kind stands -/
def fre (κ : Nat) : Dt → Bool
  | .tup xs => freL κ xs
  | .lst xs => decide (κ ≠ 0) && freL κ xs
  | .frl xs => decide (κ ≠ 0) && freL κ xs
  | .dT _ xs => decide (κ ≠ 1) && freL κ xs
  | .dK _ xs => decide (κ ≠ 1) && freL κ xs
  | .obj _ _ xs => decide (κ ≤ 1) && freL κ xs
  | .exv _ _ xs _ => freL κ xs
  | .at_ _ d => fre κ d
  | .non => true
  | .bl _ => true
  | .int _ => true
  | .str _ => true
  | .ty _ => true
  | .adr _ => true
  | .key _ => true
def freL (κ : Nat) : List Dt → Bool
  | [] => true
  | x :: xs => fre κ x && freL κ xs
end
theorem freL_ints (κ : Nat) : ∀ l : List Int, freL κ (l.map Dt.int) = true
  | [] => by simp [freL]
  | x :: l => by simp [freL, fre, freL_ints κ l]
section
variable {K : PySem.W.Frag} {F : Hp} {p : Addr} {o : HO} {κ : Nat}
theorem isK_tup {vs : List V} (hk : isK κ o) : o ≠ .tup vs ∧ ∀ z u, o ≠ .frz z u := by
  match κ, hk with
  | 0, ⟨xs, h⟩ => subst h; exact ⟨fun z => (nomatch z), fun _ _ z => (nomatch z)⟩
  | 1, .inl ⟨xs, h⟩ => subst h; exact ⟨fun z => (nomatch z), fun _ _ z => (nomatch z)⟩
  | 1, .inr ⟨xs, h⟩ => subst h; exact ⟨fun z => (nomatch z), fun _ _ z => (nomatch z)⟩
  | n + 2, ⟨C, dx, fs, h⟩ => subst h; exact ⟨fun z => (nomatch z), fun _ _ z => (nomatch z)⟩
theorem isK_lst {vs : List V} (hk : isK κ o) (h : κ ≠ 0) : o ≠ .lst vs := by
  match κ, hk, h with
  | 0, _, h => exact absurd rfl h
  | 1, .inl ⟨xs, h⟩, _ => subst h; exact fun z => (nomatch z)
  | 1, .inr ⟨xs, h⟩, _ => subst h; exact fun z => (nomatch z)
  | n + 2, ⟨C, dx, fs, h⟩, _ => subst h; exact fun z => (nomatch z)
theorem isK_dT {vs : List (List Key × V)} (hk : isK κ o) (h : κ ≠ 1) : o ≠ .dT vs := by
  match κ, hk, h with
  | 0, ⟨xs, h⟩, _ => subst h; exact fun z => (nomatch z)
  | 1, _, h => exact absurd rfl h
  | n + 2, ⟨C, dx, fs, h⟩, _ => subst h; exact fun z => (nomatch z)
theorem isK_dK {vs : List (Key × V)} (hk : isK κ o) (h : κ ≠ 1) : o ≠ .dK vs := by
  match κ, hk, h with
  | 0, ⟨xs, h⟩, _ => subst h; exact fun z => (nomatch z)
  | 1, _, h => exact absurd rfl h
  | n + 2, ⟨C, dx, fs, h⟩, _ => subst h; exact fun z => (nomatch z)
theorem isK_ins {C dx : Addr} {fs : List (Str × V)} (hk : isK κ o) (h : κ ≤ 1) : o ≠ .ins C dx fs := by
  match κ, hk, h with
  | 0, ⟨xs, h⟩, _ => subst h; exact fun z => (nomatch z)
  | 1, .inl ⟨xs, h⟩, _ => subst h; exact fun z => (nomatch z)
  | 1, .inr ⟨xs, h⟩, _ => subst h; exact fun z => (nomatch z)
  | n + 2, _, h => omega
theorem isK_xd {fs : List (Str × V)} (hk : isK κ o) : o ≠ .xd fs := by
  match κ, hk with
  | 0, ⟨xs, h⟩ => subst h; exact fun z => (nomatch z)
  | 1, .inl ⟨xs, h⟩ => subst h; exact fun z => (nomatch z)
  | 1, .inr ⟨xs, h⟩ => subst h; exact fun z => (nomatch z)
  | n + 2, ⟨C, dx, fs', h⟩ => subst h; exact fun z => (nomatch z)
theorem del_at {a : Addr} {u : HO} (hp : F p = some o) (hn : o ≠ u) (h : F a = some u) : del F p a = some u := by
  have e : a ≠ p := fun z => by
    subst z
    rw [hp] at h
    exact hn (Option.some.inj h)
  rw [del_ne e]
  exact h
theorem rd_del {a : Addr} {u : HO} (hp : F p = some o) (hk : isK κ o) (hn : o ≠ u) (h : Rd F a u) : Rd (del F p) a u := by
  rcases h with h | ⟨z, h⟩
  · exact .inl (del_at hp hn h)
  · exact .inr ⟨z, del_at hp ((isK_tup (vs := []) hk).2 _ _) h⟩
theorem sqt_del {a : Addr} {vs : List V} (hp : F p = some o) (hk : isK κ o) (h : SqT K F a vs) : SqT K (del F p) a vs := by
  rcases h with (h | ⟨z, h⟩) | h
  · exact .inl (.inl (del_at hp (isK_tup hk).1 h))
  · exact .inl (.inr ⟨z, del_at hp ((isK_tup (vs := []) hk).2 _ _) h⟩)
  · exact .inr h
theorem sql_del {a : Addr} {vs : List V} (hp : F p = some o) (hk : isK κ o) (hn : κ ≠ 0) (h : SqL K F a vs) : SqL K (del F p) a vs := by
  rcases h with (h | ⟨z, h⟩) | h
  · exact .inl (.inl (del_at hp (isK_lst hk hn) h))
  · exact .inl (.inr ⟨z, del_at hp ((isK_tup (vs := []) hk).2 _ _) h⟩)
  · exact .inr h
mutual
theorem rp_del (hp : F p = some o) (hk : isK κ o) : ∀ {d : Dt} {v : V}, Rp K F d v → fre κ d = true → Rp K (del F p) d v
  | .non, _, h, _ => by simp only [Rp] at h ⊢; exact h
  | .bl _, _, h, _ => by simp only [Rp] at h ⊢; exact h
  | .int _, _, h, _ => by simp only [Rp] at h ⊢; exact h
  | .str _, _, h, _ => by simp only [Rp] at h ⊢; exact h
  | .ty _, _, h, _ => by simp only [Rp] at h ⊢; exact h
  | .adr _, _, h, _ => by simp only [Rp] at h ⊢; exact h
  | .tup xs, _, h, hf => by
    simp only [Rp] at h ⊢
    simp only [fre] at hf
    obtain ⟨a, vs, h1, h2, h3⟩ := h
    exact ⟨a, vs, h1, sqt_del hp hk h2, rpL_del hp hk h3 hf⟩
  | .lst xs, _, h, hf => by
    simp only [Rp] at h ⊢
    simp only [fre, Bool.and_eq_true, decide_eq_true_eq] at hf
    obtain ⟨a, vs, h1, h2, h3⟩ := h
    exact ⟨a, vs, h1, del_at hp (isK_lst hk hf.1) h2, rpL_del hp hk h3 hf.2⟩
  | .frl xs, _, h, hf => by
    simp only [Rp] at h ⊢
    simp only [fre, Bool.and_eq_true, decide_eq_true_eq] at hf
    obtain ⟨a, vs, h1, h2, h3⟩ := h
    exact ⟨a, vs, h1, sql_del hp hk hf.1 h2, rpL_del hp hk h3 hf.2⟩
  | .dT ks xs, _, h, hf => by
    simp only [Rp] at h ⊢
    simp only [fre, Bool.and_eq_true, decide_eq_true_eq] at hf
    obtain ⟨a, vs, h1, h2, h4, h3⟩ := h
    exact ⟨a, vs, h1, rd_del hp hk (isK_dT hk hf.1) h2, h4, rpL_del hp hk h3 hf.2⟩
  | .dK ks xs, _, h, hf => by
    simp only [Rp] at h ⊢
    simp only [fre, Bool.and_eq_true, decide_eq_true_eq] at hf
    obtain ⟨a, vs, h1, h2, h4, h3⟩ := h
    exact ⟨a, vs, h1, rd_del hp hk (isK_dK hk hf.1) h2, h4, rpL_del hp hk h3 hf.2⟩
  | .key ks, _, h, hf => by
    simp only [Rp] at h ⊢
    obtain ⟨a, h1, h2⟩ := h
    exact ⟨a, h1, del_at hp (isK_tup hk).1 h2⟩
  | .obj C ns xs, _, h, hf => by
    simp only [Rp] at h ⊢
    simp only [fre, Bool.and_eq_true, decide_eq_true_eq] at hf
    obtain ⟨a, dx, vs, h1, h2, h4, h3⟩ := h
    exact ⟨a, dx, vs, h1, del_at hp (isK_ins hk hf.1) h2, h4, rpL_del hp hk h3 hf.2⟩
  | .exv a ns xs d, _, h, hf => by
    simp only [Rp] at h ⊢
    simp only [fre] at hf
    refine ⟨h.1, fun dx hd => ?_⟩
    obtain ⟨vs, h1, h2, h3⟩ := h.2 dx hd
    exact ⟨vs, del_at hp (isK_xd hk) h1, h2, rpL_del hp hk h3 hf⟩
  | .at_ a d, _, h, hf => by
    simp only [Rp] at h ⊢
    simp only [fre] at hf
    exact ⟨h.1, rp_del hp hk h.2 hf⟩
theorem rpL_del (hp : F p = some o) (hk : isK κ o) : ∀ {ds : List Dt} {vs : List V}, RpL K F ds vs → freL κ ds = true → RpL K (del F p) ds vs
  | [], _, h, _ => by simp only [RpL] at h ⊢; exact h
  | d :: ds, _, h, hf => by
    simp only [RpL] at h ⊢
    simp only [freL, Bool.and_eq_true] at hf
    obtain ⟨v, r, h1, h2, h3⟩ := h
    exact ⟨v, r, h1, rp_del hp hk h2 hf.1, rpL_del hp hk h3 hf.2⟩
end
end
/-- the kind of one's own thing -/
def kOf : Dt → Nat
  | .lst _ => 0
  | .dT _ _ => 1
  | .dK _ _ => 1
  | _ => 2
/-- its parts -/
def freO (κ : Nat) : Dt → Bool
  | .lst xs => freL κ xs
  | .dT _ xs => freL κ xs
  | .dK _ xs => freL κ xs
  | .obj _ _ xs => freL κ xs
  | .at_ _ (.obj _ _ xs) => freL κ xs
  | _ => false
theorem OwO.kd {K : PySem.W.Frag} {F H : Hp} {o : Addr} {d : Dt} (h : OwO K F H o d) : ∃ u, H o = Option.some u ∧ isK (kOf d) u := by
  rcases h.kinds with ⟨xs, rfl⟩ | ⟨ks, xs, rfl⟩ | ⟨ks, xs, rfl⟩ | ⟨C, ns, xs, rfl⟩ | ⟨a, C, ns, xs, rfl⟩
  · obtain ⟨vs, h, _⟩ := h; exact ⟨_, h, _, rfl⟩
  · obtain ⟨vs, h, _⟩ := h; exact ⟨_, h, .inl ⟨_, rfl⟩⟩
  · obtain ⟨vs, h, _⟩ := h; exact ⟨_, h, .inr ⟨_, rfl⟩⟩
  · obtain ⟨dx, vs, h, _⟩ := h; exact ⟨_, h, _, _, _, rfl⟩
  · obtain ⟨_, dx, vs, h, _⟩ := h; exact ⟨_, h, _, _, _, rfl⟩
theorem OwO.del {K : PySem.W.Frag} {F H : Hp} {o p : Addr} {u : HO} {κ : Nat} {d : Dt} (hp : F p = Option.some u) (hk : isK κ u) (h : OwO K F H o d) (hf : freO κ d = true) : OwO K (del F p) H o d := by
  rcases h.kinds with ⟨xs, rfl⟩ | ⟨ks, xs, rfl⟩ | ⟨ks, xs, rfl⟩ | ⟨C, ns, xs, rfl⟩ | ⟨a, C, ns, xs, rfl⟩
  · obtain ⟨vs, h, r⟩ := h; exact ⟨vs, h, rpL_del hp hk r hf⟩
  · obtain ⟨vs, h, l, r⟩ := h; exact ⟨vs, h, l, rpL_del hp hk r hf⟩
  · obtain ⟨vs, h, l, r⟩ := h; exact ⟨vs, h, l, rpL_del hp hk r hf⟩
  · obtain ⟨dx, vs, h, l, r⟩ := h; exact ⟨dx, vs, h, l, rpL_del hp hk r hf⟩
  · obtain ⟨e, dx, vs, h, l, r⟩ := h; exact ⟨e, dx, vs, h, l, rpL_del hp hk r hf⟩
/-! ### slots, place by place -/
section
variable {K : PySem.W.Frag} {R : Reg} {F H : Hp} {G : List Sl} {σ : St}
theorem sls_of : ∀ {G : List Sl} {σ : St}, G.length = σ.length → (∀ (j : Nat) (g : Sl), G[j]? = some g → ∃ v, σ[j]? = some v ∧ SlOk K R F H g v) → SlsOk K R F H G σ
  | [], [], _, _ => .nil
  | [], _ :: _, h, _ => by simp at h
  | _ :: _, [], h, _ => by simp at h
  | g :: G, v :: σ, h, q => by
    refine .cons ?_ (sls_of (by simpa using h) fun j g' hg => ?_)
    · obtain ⟨v', e, s⟩ := q 0 g rfl
      cases e
      exact s
    · have := q (j + 1) g' (by simpa using hg)
      simpa using this
theorem own_inj : ∀ {G : List Sl} {σ : St}, (owns G σ).Nodup → ∀ {i j : Nat} {d d' : Dt} {o : Addr}, G[i]? = some (.ow d) → σ[i]? = some (some (.ref o)) → G[j]? = some (.ow d') → σ[j]? = some (some (.ref o)) → i = j
  | [], _, _, i, j, d, d', o, h1, _, _, _ => by simp at h1
  | g :: G, [], _, i, j, d, d', o, _, h2, _, _ => by simp at h2
  | g :: G, v :: σ, nd, i, j, d, d', o, h1, h2, h3, h4 => by
    have nd' : (owns G σ).Nodup := by
      cases g with
      | no => simpa [owns] using nd
      | sh d => simpa [owns] using nd
      | ow d =>
        cases v with
        | none => simpa [owns] using nd
        | some x =>
          cases x with
          | ref q => simp only [owns, List.nodup_cons] at nd; exact nd.2
          | _ => simpa [owns] using nd
    have head : ∀ {j : Nat} {d' : Dt}, g = .ow d → v = some (.ref o) → G[j]? = some (.ow d') → σ[j]? = some (some (.ref o)) → False := fun e1 e2 g3 g4 => by
      rw [e1, e2] at nd
      simp only [owns, List.nodup_cons] at nd
      exact nd.1 (mem_owns g3 g4)
    have head' : ∀ {j : Nat} {d1 : Dt}, g = .ow d' → v = some (.ref o) → G[j]? = some (.ow d1) → σ[j]? = some (some (.ref o)) → False := fun e1 e2 g3 g4 => by
      rw [e1, e2] at nd
      simp only [owns, List.nodup_cons] at nd
      exact nd.1 (mem_owns g3 g4)
    cases i with
    | zero =>
      cases j with
      | zero => rfl
      | succ j => exact (head (Option.some.inj h1) (Option.some.inj h2) (by simpa using h3) (by simpa using h4)).elim
    | succ i =>
      cases j with
      | zero => exact (head' (Option.some.inj h3) (Option.some.inj h4) (by simpa using h1) (by simpa using h2)).elim
      | succ j => rw [own_inj nd' (i := i) (j := j) (by simpa using h1) (by simpa using h2) (by simpa using h3) (by simpa using h4)]
theorem nd_of : ∀ {G : List Sl} {σ : St}, (∀ (i j : Nat) (d d' : Dt) (o : Addr), G[i]? = some (.ow d) → σ[i]? = some (some (.ref o)) → G[j]? = some (.ow d') → σ[j]? = some (some (.ref o)) → i = j) → (owns G σ).Nodup
  | [], _, _ => by simp [owns]
  | g :: G, [], _ => by cases g <;> simp [owns]
  | g :: G, v :: σ, h => by
    have ih : (owns G σ).Nodup := nd_of fun i j d d' o h1 h2 h3 h4 => by
      have := h (i + 1) (j + 1) d d' o (by simpa using h1) (by simpa using h2) (by simpa using h3) (by simpa using h4)
      omega
    cases g with
    | no => simpa [owns] using ih
    | sh d => simpa [owns] using ih
    | ow d =>
      cases v with
      | none => simpa [owns] using ih
      | some x =>
        cases x with
        | ref q =>
          simp only [owns, List.nodup_cons]
          refine ⟨fun z => ?_, ih⟩
          obtain ⟨i, d', h1, h2⟩ := owns_mem z
          have := h 0 (i + 1) d d' q rfl rfl (by simpa using h1) (by simpa using h2)
          omega
        | _ => simpa [owns] using ih
theorem same_upd1 {o : Addr} {u : HO} (fo : F o = none) : Same F (upd F o u) := fun a z h => by
  rw [upd_ne (fun e => by rw [e, fo] at h; cases h)]
  exact h
theorem wf_one {o : Addr} {u : HO} (w : Wf R F H) (nM : ¬ R.M o) (hu : H o = some u) : Wf R (upd F o u) H := by
  refine ⟨fun a z h => ?_, fun a m => ?_, w.oc, w.b⟩
  · by_cases e : a = o
    · subst e; rw [upd_same] at h; rw [hu]; exact h
    · rw [upd_ne e] at h; exact w.fh a z h
  · rw [upd_ne (fun e => nM (by rw [← e]; exact m))]
    exact w.off a m
theorem wf_del {F' H' : Hp} {o : Addr} (w : Wf R F' H') : Wf R (del F' o) H' := by
  refine ⟨fun a z h => ?_, fun a m => ?_, w.oc, w.b⟩
  · by_cases e : a = o
    · subst e; rw [del_same] at h; cases h
    · rw [del_ne e] at h; exact w.fh a z h
  · by_cases e : a = o
    · subst e; exact del_same
    · rw [del_ne e]; exact w.off a m
theorem ext_del {F' H' : Hp} {o : Addr} {u : HO} (fo : F o = none) (ex : Ext R (upd F o u) H F' H') : Ext R F H (del F' o) H' := by
  refine ⟨wf_del ex.wf, fun a z h => ?_, ex.hh, fun a h n => ?_⟩
  · have e : a ≠ o := fun e => by rw [e, fo] at h; cases h
    rw [del_ne e]
    exact ex.ff a z (by rw [upd_ne e]; exact h)
  · by_cases e : a = o
    · subst e; exact del_same
    · rw [del_ne e]; exact ex.fr a h (by rw [upd_ne e]; exact n)
/-- a slot, when the thing at o is lent -/
theorem SlOk.lend {o : Addr} {u : HO} {g : Sl} {v : Option V} (fo : F o = none) (h : SlOk K R F H g v) (hn : ∀ d, g = .ow d → v ≠ some (.ref o)) : SlOk K R (upd F o u) H g v := by
  cases g with
  | no => trivial
  | sh d => obtain ⟨x, e, r⟩ := h; exact ⟨x, e, r.mono (same_upd1 fo)⟩
  | ow d =>
    obtain ⟨q, e, h1, h2, h3⟩ := h
    have ne : q ≠ o := fun z => hn d rfl (by rw [e, z])
    exact ⟨q, e, by rw [upd_ne ne]; exact h1, h2, h3.mono (same_upd1 fo) fun _ z => z⟩
theorem Ty.lend {i : Nat} {d0 : Dt} {o : Addr} {u : HO} (ty : Ty K R G σ F H) (hg : G[i]? = some (.ow d0)) (hs : σ[i]? = some (some (.ref o))) (fo : F o = none) (nM : ¬ R.M o) (ow : OwO K F H o d0) (hu : H o = some u) : Ty K R (G.set i (.sh d0)) σ (upd F o u) H := by
  refine ⟨wf_one ty.wf nM hu, sls_of (by rw [List.length_set]; exact ty.sl.len) fun j g hj => ?_, ?_⟩
  · by_cases e : j = i
    · subst e
      have hl : j < G.length := (List.getElem?_eq_some_iff.mp hg).1
      rw [List.getElem?_set_self hl] at hj
      cases hj
      exact ⟨_, hs, .ref o, rfl, owo_rp ow (same_upd1 fo) (by rw [upd_same, hu])⟩
    · rw [List.getElem?_set_ne (Ne.symm e)] at hj
      obtain ⟨v, h1, h2⟩ := ty.sl.get hj
      refine ⟨v, h1, h2.lend fo fun d hd hv => ?_⟩
      subst hd hv
      exact e (own_inj ty.nd hj h1 hg hs)
  · have hsσ : σ.set i (some (.ref o)) = σ := by
      apply List.ext_getElem?
      intro j
      by_cases e : j = i
      · subst e
        have hl : j < σ.length := (List.getElem?_eq_some_iff.mp hs).1
        rw [List.getElem?_set_self hl, hs]
      · rw [List.getElem?_set_ne (Ne.symm e)]
    have := owns_set_sub (G := G) (σ := σ) i (g := .sh d0) (v := some (.ref o)) (fun _ z => nomatch z)
    rw [hsσ] at this
    exact ty.nd.sublist this
end
section
variable {X : Cx} {R : Reg} {G : List Sl} {pos : Pos} {k : Kt}
/-- e with one's own thing in slot i lent -/
theorem e_bor (i : Nat) {d0 : Dt} {e : Expr} {P : Dt → Prop} (hg : G[i]? = some (.ow d0)) (h : E X R (G.set i (.sh d0)) e fun d => fre (kOf d0) d = true ∧ P d) : E X R G e P := fun σ F H Q ty c => by
  obtain ⟨o, hs, fo, nM, ow⟩ := ty.own hg
  obtain ⟨u, hu, hk⟩ := ow.kd
  exact h σ (upd F o u) H Q (ty.lend hg hs fo nM ow hu) fun v F' H' d ex r ⟨hf, p⟩ => c v (del F' o) H' d (ext_del fo ex) (rp_del (ex.ff _ _ upd_same) hk r hf) p
theorem t_bor (i : Nat) {d0 : Dt} {e : Expr} {P : Bool → Prop} (hg : G[i]? = some (.ow d0)) (h : T X R (G.set i (.sh d0)) e P) : T X R G e P := fun σ F H Q ty c => by
  obtain ⟨o, hs, fo, nM, ow⟩ := ty.own hg
  obtain ⟨u, hu, hk⟩ := ow.kd
  exact h σ (upd F o u) H Q (ty.lend hg hs fo nM ow hu) fun b F' H' ex p => c b (del F' o) H' (ext_del fo ex) p
/-! ### new things of any kind -/
def CtW (K : PySem.W.Frag) (R : Reg) (F H : Hp) (P : Dt → Prop) (Q : VK) : Prop := ∀ p F' H' d, Ext R F H F' H' → H p = none → ¬ R.M p → F' p = none → OwO K F' H' p d → P d → Q (.ref p) H'
def EW (X : Cx) (R : Reg) (G : List Sl) (e : Expr) (P : Dt → Prop) : Prop := ∀ σ F H Q, Ty X.K R G σ F H → CtW X.K R F H P Q → tOf X e σ H Q
theorem ew_of {e : Expr} {P : Dt → Prop} (h : EN X R G e fun ds => P (.lst ds)) : EW X R G e P := fun σ F H Q ty c => h σ F H Q ty fun p F' H' ds vs ex hp nM ho fp r q => c p F' H' (.lst ds) ex hp nM fp ⟨vs, ho, r⟩ q
theorem ew_bor (i : Nat) {d0 : Dt} {e : Expr} {P : Dt → Prop} (hg : G[i]? = some (.ow d0)) (h : EW X R (G.set i (.sh d0)) e fun d => freO (kOf d0) d = true ∧ P d) : EW X R G e P := fun σ F H Q ty c => by
  obtain ⟨o, hs, fo, nM, ow⟩ := ty.own hg
  obtain ⟨u, hu, hk⟩ := ow.kd
  refine h σ (upd F o u) H Q (ty.lend hg hs fo nM ow hu) fun p F' H' d ex hp nMp fp ho ⟨hf, q⟩ => c p (del F' o) H' d (ext_del fo ex) hp nMp ?_ (ho.del (ex.ff _ _ upd_same) hk hf) q
  by_cases e : p = o
  · subst e; exact del_same
  · rw [del_ne e]; exact fp
theorem s_aO (i : Nat) {x : Str} {e : Expr} {pos' : Pos} (hN : X.N.Nodup) (h : EW X R G e fun d => k.nx (G.set i (.ow d))) (hi : X.N[i]? = some x := by rfl) (hx : Loc X.env.scope x := by first | exact Or.inl rfl | exact Or.inr rfl)
    (hs : swapsWith e (some (.Name x pos')) pos.line X.env = pure false := by rfl) (hf : X.fn x = true ∨ X.env.scope.names.lookup x = some .local := by first | exact .inl rfl | exact .inr rfl | assumption) : S1 X R (.Assign [.Name x pos'] e pos) G k := fun F0 H0 σ F H D ty b c =>
  s1Of.of (ps_set hN hi hx pe_w hs hf) (h σ F H _ ty fun p F1 H1 d ex hp nM fp ho q => c.nx _ _ F1 H1 q (ty.setOwn ex i hp nM fp ho) (b.setOwn ex i hp))
/-- return of a new thing, of one's own thing -/
theorem s_retO {e : Expr} (h : EW X R (G.map vis) e k.rn) : S1 X R (.Return (some e) pos) G k := s1_frz fun F0 H0 σ F H D ty b c =>
  s1Of.of (ps_ret pe_w) (h σ F H _ ty fun p F1 H1 d ex hp nM fp ho q => c.rn d p F1 H1 q (b.ext.trans ex) (b.ext.free hp) fp ho)
theorem s_retV (i : Nat) {x : Str} {d : Dt} {p : Pos} (q : k.rn d) (hg : G[i]? = some (.ow d) := by rfl) (hN : X.N[i]? = some x := by rfl) (hv : Vis X.env.scope x := by first | exact Or.inl rfl | exact Or.inr (Or.inl rfl) | exact Or.inr (Or.inr rfl))
    (hd : (x == ("__debug__" : Str)) = false := by decide) (hcd : (x == ("__classdict__" : Str)) = false := by decide) : S1 X R (.Return (some (.Name x p)) pos) G k := fun F0 H0 σ F H D ty b c => by
  obtain ⟨o, hs, fo, nM, ow⟩ := ty.own hg
  exact s1Of.of (ps_ret (pe_var hN hv hd hcd)) ⟨.ref o, by rw [hs], c.rn d o F H q b.ext (b.fresh o (mem_owns hg hs)) fo ow⟩
end
/-! ### defs that give back new things -/
def spN (K : PySem.W.Frag) (n : Nat) (φ : Ph) : Sp := fun vs H Q E => vs.length = n ∧ ∃ F ds q x, Same F H ∧ RpL K F ds vs ∧ φ ds q x ∧ (∀ p F' H' d, Ext .nil F H F' H' → H p = none → F' p = none → OwO K F' H' p d → q d → Q (.ref p) H') ∧ XOk K .nil F H x E
theorem spN_of {K : PySem.W.Frag} {n : Nat} {φ : Ph} {vs : List V} {H : Hp} {Q : VK} {E : XK} (h : spD K n φ vs H Q E) : spN K n φ vs H Q E := by
  obtain ⟨hl, F, ds, q, x, sf, r, hφ, hq, hx⟩ := h
  refine ⟨hl, F, ds, q, x, sf, r, hφ, fun p F' H' d ex hp fp ho qd => ?_, hx⟩
  obtain ⟨u, hu, _⟩ := ho.kd
  refine hq (.ref p) (upd F' p u) H' d ⟨wf_one ex.wf (fun z => z) hu, ex.ff.trans (same_upd1 fp), ex.hh, fun a h n => ?_⟩ (owo_rp ho (same_upd1 fp) (by rw [upd_same, hu])) qd
  rw [upd_ne (fun z => h (by rw [z]; exact hp))]
  exact ex.fr a h n
section
variable {P : Program} {w : World} {K : PySem.W.Frag} {mg : Str → Option Value} {base : Heap}
theorem fn_ND {f : Addr} {fd : FuncData} {ps : List Str} {k n : Nat} {φ : Ph} (F : FnOk P w K mg base (L2.CX P w) k f fd ps (spN K n φ)) : FnOk P w K mg base (L2.CX P w) k f fd ps (spD K n φ) := by
  obtain ⟨a, b⟩ := F
  exact ⟨fun vs H Q E h => a vs H Q E (spN_of h), fun A st s H ca us vs Q E h1 h2 h3 h4 h5 => b A st s H ca us vs Q E h1 h2 h3 h4 (spN_of h5)⟩
theorem fn_okN {x qual : Str} {st : Stmt} {f : Addr} {fd : FuncData} {dvs : List V} {kws : List (Str × V)} {N ps : List Str} {k n : Nat} {φ : Ph} (F : FD K x qual st dvs kws f fd) (Sc : FnScope N ps (defScope st)) (hn : n = ps.length)
    (h : ∀ (X : Cx) (cdv : Value) (A : Around) (outer : List Env) (s : Shared) (H : Hp) (E : XK) (ds : List Dt) (q : Dt → Prop) (xd : XD), X = cxOf (L2.CX P w) P w K mg base N qual (defScope st) f cdv A outer s H E → Room k X.A → φ ds q xd → ds.length = n →
      (∀ F, Wf .nil F H → XOk K .nil F H xd E → S X .nil (defBody st) (st0 N ds) { nx := fun _ => False, rt := fun _ => False, rn := q })) : FnOk P w K mg base (L2.CX P w) (k + 1) f fd ps (spN K n φ) := by
  refine FunD.ok F Sc (fun vs H Q E hh => by rw [hh.1, hn]) fun cdv A outer s H vs Q E hr hh => ?_
  obtain ⟨hl, F0, ds, q, xd, sf, r, hφ, hq, hx⟩ := hh
  have hS := h _ cdv A outer s H E ds q xd rfl hr hφ (by rw [r.length, hl]) F0 (wf_nil sf) hx
  refine ⟨_, pss_w, hS F0 H _ F0 H _ ⟨wf_nil sf, ?_, by unfold st0; rw [owns0]; exact .nil⟩ ⟨.refl (wf_nil sf), (by unfold st0; rw [owns0]; intro o ho; cases ho), trivial⟩ ⟨fun _ _ _ _ z => z.elim, fun _ _ _ _ z => z.elim, fun d p F1 H1 z e hp fp ho => hq p F1 H1 d e hp fp ho z, fun _ _ _ _ z => z.elim, fun _ _ _ _ z => z.elim⟩⟩
  unfold st0 L2.start
  rw [r.length]
  exact sls0 _ r
end
section
variable {X : Cx} {R : Reg} {G : List Sl} {pos : Pos} {k : Kt}
/-- x(e, ..), a new thing -/
theorem ew_call {x : Str} {ps : List Str} {φ : Ph} {n j : Nat} {e : Expr} {es : List Expr} {p : Pos} {P : Dt → Prop} (F : Fn X.prog X.w X.K X.mg X.base j x ps [] (spN X.K n φ)) (hr : Room j X.A) (hg : Gl X x)
    (h : EA X R G (e :: es) fun ds => ds.length = n ∧ φ ds P fun _ _ _ => False)
    (hdb : (x == ("__debug__" : Str)) = false := by decide) (he : starEach (e :: es) X.env = (false, eval e X.env) :: starEach es X.env := by rfl) (hpl : (backTo pos (starEach es X.env)).any (·.1) = false := by rfl) : EW X R G (.Call (.Name x p) (e :: es) [] pos) P := fun σ F' H Q ty c => by
  obtain ⟨f, fd, ds, a1, a2, a3, a4, a5⟩ := F.ex
  refine tOf.of (pe_call a5 hr hg a1 a2 a3 a4 passL pa_w hdb he hpl) (h σ F' H _ ty fun vs F1 H1 ds ex r ⟨hl, hφ⟩ => ?_)
  rw [List.append_nil]
  refine ⟨by rw [← hl]; exact r.length.symm, F1, _, P, fun _ _ _ => False, ex.wf.fh, r, hφ, fun p F2 H2 d ex2 hp fp ho q => c p F2 H2 d (ex.trans (Ext.of_nil ex.wf ex2)) (ex.free hp) (ex.wf.new hp) fp ho q, ⟨fun _ _ _ _ _ _ _ z => z.elim, fun _ _ _ z => z.elim⟩⟩
end
end VS
set_option Elab.async false
set_option linter.all false
set_option maxRecDepth 100000
/-! a thing of one's own, lent for a statement. -/
namespace VS
open PySem PySem.Spec L2
/-- data that lie at a place -/
def placed : Dt → Bool
  | .lst _ => true
  | .frl _ => true
  | .tup _ => true
  | .dT _ _ => true
  | .dK _ _ => true
  | .obj _ _ _ => true
  | .adr _ => true
  | .key _ => true
  | _ => false
/-- slots with their places told: those of G, as they stand while the thing in slot i is lent -/
inductive Tg (tg : Nat → Addr) (i : Nat) (d0 : Dt) : Nat → List Sl → List Sl → Prop where
  | nil {n : Nat} : Tg tg i d0 n [] []
  | keep {n : Nat} {g : Sl} {G T : List Sl} (hn : n ≠ i) (h : Tg tg i d0 (n + 1) G T) : Tg tg i d0 n (g :: G) (g :: T)
  | tag {n : Nat} {d : Dt} {G T : List Sl} (hn : n ≠ i) (hd : placed d = true) (h : Tg tg i d0 (n + 1) G T) : Tg tg i d0 n (.sh d :: G) (.sh (.at_ (tg n) d) :: T)
  | me {G T : List Sl} (h : Tg tg i d0 (i + 1) G T) : Tg tg i d0 i (.ow d0 :: G) (.sh (.at_ (tg i) d0) :: T)
/-- A as it stands at the end, G as it stood, what is left then -/
inductive Bk (κ : Nat) (tg : Nat → Addr) (i : Nat) (d0 : Dt) : Nat → List Sl → List Sl → List Sl → Prop where
  | nil {n : Nat} : Bk κ tg i d0 n [] [] []
  | no {n : Nat} {a g : Sl} {A G B : List Sl} (hn : n ≠ i) (h : Bk κ tg i d0 (n + 1) A G B) : Bk κ tg i d0 n (a :: A) (g :: G) (.no :: B)
  | free {n : Nat} {d : Dt} {g : Sl} {A G B : List Sl} (hn : n ≠ i) (hf : fre κ d = true) (h : Bk κ tg i d0 (n + 1) A G B) : Bk κ tg i d0 n (.sh d :: A) (g :: G) (.sh d :: B)
  | tag {n : Nat} {d : Dt} {A G B : List Sl} (hn : n ≠ i) (hd : placed d = true) (h : Bk κ tg i d0 (n + 1) A G B) : Bk κ tg i d0 n (.sh (.at_ (tg n) d) :: A) (.sh d :: G) (.sh d :: B)
  | own {n : Nat} {d : Dt} {g : Sl} {A G B : List Sl} (hn : n ≠ i) (hf : freO κ d = true) (h : Bk κ tg i d0 (n + 1) A G B) : Bk κ tg i d0 n (.ow d :: A) (g :: G) (.ow d :: B)
  | me {A G B : List Sl} (h : Bk κ tg i d0 (i + 1) A G B) : Bk κ tg i d0 i (.sh (.at_ (tg i) d0) :: A) (.ow d0 :: G) (.ow d0 :: B)
section
variable {K : PySem.W.Frag} {R : Reg} {F H : Hp} {tg : Nat → Addr} {i : Nat} {d0 : Dt} {κ : Nat}
theorem Tg.len {n : Nat} {G T : List Sl} (h : Tg tg i d0 n G T) : G.length = T.length := by
  induction h with
  | nil => rfl
  | keep _ _ ih => simp [ih]
  | tag _ _ _ ih => simp [ih]
  | me _ ih => simp [ih]
theorem Tg.get {n : Nat} {G T : List Sl} (h : Tg tg i d0 n G T) : ∀ {j : Nat} {t : Sl}, T[j]? = some t → (n + j ≠ i ∧ G[j]? = some t) ∨ (n + j ≠ i ∧ ∃ d, G[j]? = some (.sh d) ∧ t = .sh (.at_ (tg (n + j)) d) ∧ placed d = true) ∨ (n + j = i ∧ G[j]? = some (.ow d0) ∧ t = .sh (.at_ (tg i) d0)) := by
  induction h with
  | nil => intro j t hj; simp at hj
  | @keep n g G T hn _ ih =>
    intro j t hj
    cases j with
    | zero => cases hj; exact .inl ⟨hn, rfl⟩
    | succ j =>
      have := ih (j := j) (t := t) (by simpa using hj)
      rw [show n + 1 + j = n + (j + 1) by omega] at this
      simpa using this
  | @tag n d G T hn hd _ ih =>
    intro j t hj
    cases j with
    | zero => cases hj; exact .inr (.inl ⟨hn, d, rfl, rfl, hd⟩)
    | succ j =>
      have := ih (j := j) (t := t) (by simpa using hj)
      rw [show n + 1 + j = n + (j + 1) by omega] at this
      simpa using this
  | @me G T _ ih =>
    intro j t hj
    cases j with
    | zero => cases hj; exact .inr (.inr ⟨rfl, rfl, rfl⟩)
    | succ j =>
      have := ih (j := j) (t := t) (by simpa using hj)
      rw [show i + 1 + j = i + (j + 1) by omega] at this
      simpa using this
theorem Bk.len {n : Nat} {A G B : List Sl} (h : Bk κ tg i d0 n A G B) : B.length = A.length := by
  induction h with
  | nil => rfl
  | no _ _ ih => simp [ih]
  | free _ _ _ ih => simp [ih]
  | tag _ _ _ ih => simp [ih]
  | own _ _ _ ih => simp [ih]
  | me _ ih => simp [ih]
theorem Bk.lenG {n : Nat} {A G B : List Sl} (h : Bk κ tg i d0 n A G B) : B.length = G.length := by
  induction h with
  | nil => rfl
  | no _ _ ih => simp [ih]
  | free _ _ _ ih => simp [ih]
  | tag _ _ _ ih => simp [ih]
  | own _ _ _ ih => simp [ih]
  | me _ ih => simp [ih]
theorem Bk.get {n : Nat} {A G B : List Sl} (h : Bk κ tg i d0 n A G B) : ∀ {j : Nat} {b : Sl}, B[j]? = some b → (n + j ≠ i ∧ b = .no ∧ ∃ a, A[j]? = some a) ∨ (n + j ≠ i ∧ ∃ d, b = .sh d ∧ A[j]? = some (.sh d) ∧ fre κ d = true) ∨ (n + j ≠ i ∧ ∃ d, b = .sh d ∧ A[j]? = some (.sh (.at_ (tg (n + j)) d)) ∧ G[j]? = some (.sh d) ∧ placed d = true) ∨
    (n + j ≠ i ∧ ∃ d, b = .ow d ∧ A[j]? = some (.ow d) ∧ freO κ d = true) ∨ (n + j = i ∧ b = .ow d0 ∧ A[j]? = some (.sh (.at_ (tg i) d0)) ∧ G[j]? = some (.ow d0)) := by
  induction h with
  | nil => intro j t hj; simp at hj
  | @no n a g A G B hn _ ih =>
    intro j t hj
    cases j with
    | zero => cases hj; exact .inl ⟨hn, rfl, a, rfl⟩
    | succ j =>
      have := ih (j := j) (b := t) (by simpa using hj)
      rw [show n + 1 + j = n + (j + 1) by omega] at this
      simpa using this
  | @free n d g A G B hn hf _ ih =>
    intro j t hj
    cases j with
    | zero => cases hj; exact .inr (.inl ⟨hn, d, rfl, rfl, hf⟩)
    | succ j =>
      have := ih (j := j) (b := t) (by simpa using hj)
      rw [show n + 1 + j = n + (j + 1) by omega] at this
      simpa using this
  | @tag n d A G B hn hd _ ih =>
    intro j t hj
    cases j with
    | zero => cases hj; exact .inr (.inr (.inl ⟨hn, d, rfl, rfl, rfl, hd⟩))
    | succ j =>
      have := ih (j := j) (b := t) (by simpa using hj)
      rw [show n + 1 + j = n + (j + 1) by omega] at this
      simpa using this
  | @own n d g A G B hn hf _ ih =>
    intro j t hj
    cases j with
    | zero => cases hj; exact .inr (.inr (.inr (.inl ⟨hn, d, rfl, rfl, hf⟩)))
    | succ j =>
      have := ih (j := j) (b := t) (by simpa using hj)
      rw [show n + 1 + j = n + (j + 1) by omega] at this
      simpa using this
  | @me A G B _ ih =>
    intro j t hj
    cases j with
    | zero => cases hj; exact .inr (.inr (.inr (.inr ⟨rfl, rfl, rfl, rfl⟩)))
    | succ j =>
      have := ih (j := j) (b := t) (by simpa using hj)
      rw [show i + 1 + j = i + (j + 1) by omega] at this
      simpa using this
end
section
variable {X : Cx} {R : Reg} {G : List Sl} {pos : Pos} {k : Kt}
/-- a variable whose place is told -/
theorem e_vA (i : Nat) {x : Str} {a : Addr} {d : Dt} {P : Dt → Prop} (p : P d) (hg : G[i]? = some (.sh (.at_ a d)) := by rfl) (hN : X.N[i]? = some x := by rfl) (hv : Vis X.env.scope x := by first | exact Or.inl rfl | exact Or.inr (Or.inl rfl) | exact Or.inr (Or.inr rfl))
    (hd : (x == ("__debug__" : Str)) = false := by decide) (hcd : (x == ("__classdict__" : Str)) = false := by decide) : E X R G (.Name x pos) P := fun σ F H Q ty c => by
  obtain ⟨v, e1, y, e2, r⟩ := ty.sl.get hg
  simp only [Rp] at r
  exact tOf.of (pe_var hN hv hd hcd) ⟨y, by rw [e1, e2], c.here ty.wf r.2 p⟩
/-- the address that a slot holds -/
def adrOf : Option (Option V) → Addr
  | some (some (.ref a)) => a
  | _ => default
mutual
theorem rp_ref {K : PySem.W.Frag} {F : Hp} : ∀ {d : Dt} {v : V}, Rp K F d v → (∃ xs, d = .lst xs) ∨ (∃ xs, d = .frl xs) ∨ (∃ xs, d = .tup xs) ∨ (∃ ks xs, d = .dT ks xs) ∨ (∃ ks xs, d = .dK ks xs) ∨ (∃ C ns xs, d = .obj C ns xs) ∨ (∃ a, d = .adr a) ∨ (∃ ks, d = .key ks) → ∃ a, v = .ref a
  | d, v, h, hd => by
    rcases hd with ⟨xs, rfl⟩ | ⟨xs, rfl⟩ | ⟨xs, rfl⟩ | ⟨ks, xs, rfl⟩ | ⟨ks, xs, rfl⟩ | ⟨C, ns, xs, rfl⟩ | ⟨a, rfl⟩ | ⟨ks, rfl⟩
    · obtain ⟨a, _, e, _⟩ := rp_lst.mp h; exact ⟨a, e⟩
    · obtain ⟨a, _, e, _⟩ := rp_frl.mp h; exact ⟨a, e⟩
    · obtain ⟨a, _, e, _⟩ := rp_tup.mp h; exact ⟨a, e⟩
    · obtain ⟨a, _, e, _⟩ := rp_dT.mp h; exact ⟨a, e⟩
    · simp only [Rp] at h; obtain ⟨a, _, e, _⟩ := h; exact ⟨a, e⟩
    · obtain ⟨a, _, _, e, _⟩ := rp_obj.mp h; exact ⟨a, e⟩
    · exact ⟨a, rp_adr.mp h⟩
    · obtain ⟨a, e, _⟩ := rp_key.mp h; exact ⟨a, e⟩
end
theorem rp_placed {K : PySem.W.Frag} {F : Hp} {d : Dt} {v : V} (h : Rp K F d v) (hd : placed d = true) : ∃ a, v = .ref a := by
  refine rp_ref h ?_
  cases d with
  | lst xs => exact .inl ⟨xs, rfl⟩
  | frl xs => exact .inr (.inl ⟨xs, rfl⟩)
  | tup xs => exact .inr (.inr (.inl ⟨xs, rfl⟩))
  | dT ks xs => exact .inr (.inr (.inr (.inl ⟨ks, xs, rfl⟩)))
  | dK ks xs => exact .inr (.inr (.inr (.inr (.inl ⟨ks, xs, rfl⟩))))
  | obj C ns xs => exact .inr (.inr (.inr (.inr (.inr (.inl ⟨C, ns, xs, rfl⟩)))))
  | adr a => exact .inr (.inr (.inr (.inr (.inr (.inr (.inl ⟨a, rfl⟩))))))
  | key ks => exact .inr (.inr (.inr (.inr (.inr (.inr (.inr ⟨ks, rfl⟩))))))
  | _ => cases hd
/-- a statement while the thing in slot i is lent -/
theorem s1_bor (i : Nat) {d0 : Dt} {st : Stmt} (T : (Nat → Addr) → List Sl) (hg : G[i]? = some (.ow d0)) (hT : ∀ tg, Tg tg i d0 0 G (T tg))
    (h : ∀ tg, S1 X R st (T tg) { nx := fun A => ∃ B, Bk (kOf d0) tg i d0 0 A G B ∧ k.nx B, rt := k.rt, rn := k.rn }) : S1 X R st G k := fun F0 H0 σ F H D ty b c => by
  obtain ⟨o, hs, fo, nM, ow⟩ := ty.own hg
  obtain ⟨u, hu, hk⟩ := ow.kd
  have ty0 := ty.lend hg hs fo nM ow hu
  have h0 : H0 o = none := b.fresh o (mem_owns hg hs)
  have hlt : i < G.length := (List.getElem?_eq_some_iff.mp hg).1
  have hTg := hT fun j => adrOf (σ[j]?)
  have ti : adrOf (σ[i]?) = o := by rw [hs]; rfl
  have ext0 : Ext R F0 H0 (upd F o u) H := ⟨ty0.wf, b.ext.ff.trans (same_upd1 fo), b.ext.hh, fun a ha n => by
    have e : a ≠ o := fun z => ha (by rw [z]; exact h0)
    rw [upd_ne e]
    exact b.ext.fr a ha n⟩
  have ownT : ∀ {j : Nat} {d : Dt}, (T fun j => adrOf (σ[j]?))[j]? = some (.ow d) → j ≠ i ∧ G[j]? = some (.ow d) := fun {j d} hj => by
    rcases hTg.get hj with ⟨h1, h2⟩ | ⟨h1, d', h2, h3, h4⟩ | ⟨h1, h2, h3⟩
    · exact ⟨by omega, h2⟩
    · cases h3
    · cases h3
  have ty1 : Ty X.K R (T fun j => adrOf (σ[j]?)) σ (upd F o u) H := by
    refine ⟨ty0.wf, sls_of (by rw [← hTg.len]; exact ty.sl.len) fun j t hj => ?_, nd_of fun i1 i2 d d' o' h1 h2 h3 h4 => own_inj ty.nd (ownT h1).2 h2 (ownT h3).2 h4⟩
    rcases hTg.get hj with ⟨h1, h2⟩ | ⟨h1, d', h2, h3, h4⟩ | ⟨h1, h2, h3⟩
    · have := ty0.sl.get (i := j) (g := t) (by rw [List.getElem?_set_ne (by omega)]; exact h2)
      exact this
    · subst h3
      obtain ⟨v, e1, x, e2, r⟩ := ty0.sl.get (i := j) (g := .sh d') (by rw [List.getElem?_set_ne (by omega)]; exact h2)
      subst e2
      obtain ⟨a, rfl⟩ := rp_placed r h4
      refine ⟨_, e1, .ref a, rfl, ?_⟩
      simp only [Rp]
      rw [Nat.zero_add, e1]
      exact ⟨rfl, r⟩
    · subst h3
      have h1' : j = i := by omega
      subst h1'
      obtain ⟨v, e1, x, e2, r⟩ := ty0.sl.get (i := j) (g := .sh d0) (by rw [List.getElem?_set_self hlt])
      subst e2
      rw [hs] at e1
      cases e1
      refine ⟨_, hs, .ref o, rfl, ?_⟩
      simp only [Rp]
      rw [hs]
      exact ⟨rfl, r⟩
  have bs1 : Bs R F0 H0 (T fun j => adrOf (σ[j]?)) σ (upd F o u) H := ⟨ext0, fun p hp => by
    obtain ⟨j, d, h1, h2⟩ := owns_mem hp
    exact b.fresh p (mem_owns (ownT h1).2 h2), b.z⟩
  refine h _ (upd F o u) H0 σ (upd F o u) H D ty1 bs1.here ⟨fun A σ' F' H' ⟨B, hB, hn⟩ ty' b' => ?_, fun d v F1 H1 z e r => c.rt d v F1 H1 z (ext0.back e) r, fun d p F1 H1 z e => c.rn d p F1 H1 z (ext0.back e), fun _ _ _ _ z => z.elim, fun _ _ _ _ z => z.elim⟩
  have fo' : F' o = some u := b'.ext.ff _ _ upd_same
  have sff : Same F (del F' o) := fun a z hz => by
    have e : a ≠ o := fun e => by rw [e, fo] at hz; cases hz
    rw [del_ne e]
    exact b'.ext.ff a z (by rw [upd_ne e]; exact hz)
  have hl : B.length = σ'.length := by rw [hB.len]; exact ty'.sl.len
  have hi : i < B.length := by rw [hB.lenG]; exact hlt
  have si : σ'[i]? = some (some (.ref o)) := by
    rcases hB.get (j := i) (b := B[i]) (List.getElem?_eq_getElem hi) with ⟨h1, _⟩ | ⟨h1, _⟩ | ⟨h1, _⟩ | ⟨h1, _⟩ | ⟨_, _, h2, _⟩
    · omega
    · omega
    · omega
    · omega
    · obtain ⟨v, e1, x, e2, r⟩ := ty'.sl.get h2
      simp only [Rp] at r
      rw [e1, e2, r.1, ti]
  have hu' : H' o = some u := ty'.wf.fh _ _ fo'
  have owB : OwO X.K (del F' o) H' o d0 := ow.mono sff fun z hz => by rw [hu] at hz; cases hz; exact hu'
  have ownB : ∀ {j : Nat} {d : Dt} {p : Addr}, B[j]? = some (.ow d) → σ'[j]? = some (some (.ref p)) → j = i ∧ p = o ∨ (j ≠ i ∧ A[j]? = some (.ow d) ∧ p ≠ o) := fun {j d p} hj hp => by
    rcases hB.get hj with ⟨_, h2, _⟩ | ⟨_, d', h2, _⟩ | ⟨_, d', h2, _⟩ | ⟨h1, d', h2, h3, _⟩ | ⟨h1, _⟩
    · cases h2
    · cases h2
    · cases h2
    · cases h2
      refine .inr ⟨by omega, h3, fun z => ?_⟩
      obtain ⟨o2, e1, f1, _⟩ := ty'.own h3
      rw [hp] at e1
      cases e1
      rw [z, fo'] at f1
      cases f1
    · have e : j = i := by omega
      subst e
      rw [si] at hp
      cases hp
      exact .inl ⟨rfl, rfl⟩
  have tyB : Ty X.K R B σ' (del F' o) H' := by
    refine ⟨wf_del ty'.wf, sls_of hl fun j t hj => ?_, nd_of fun i1 i2 d d' p h1 h2 h3 h4 => ?_⟩
    · rcases hB.get hj with ⟨_, rfl, a, h2⟩ | ⟨_, d, rfl, h2, hf⟩ | ⟨h1, d, rfl, h2, h3, hp⟩ | ⟨h1, d, rfl, h2, hf⟩ | ⟨h1, rfl, h2, h3⟩
      · obtain ⟨v, e1, _⟩ := ty'.sl.get h2
        exact ⟨v, e1, trivial⟩
      · obtain ⟨v, e1, x, e2, r⟩ := ty'.sl.get h2
        exact ⟨v, e1, x, e2, rp_del fo' hk r hf⟩
      · obtain ⟨v, e1, x, e2, r⟩ := ty'.sl.get h2
        obtain ⟨v0, e3, x0, e4, r0⟩ := ty.sl.get h3
        obtain ⟨a, rfl⟩ := rp_placed r0 hp
        simp only [Rp] at r
        rw [Nat.zero_add, e3, e4] at r
        exact ⟨v, e1, x, e2, by rw [r.1]; exact r0.mono sff⟩
      · obtain ⟨v, e1, p, e2, f1, nM1, ow1⟩ := ty'.sl.get h2
        refine ⟨v, e1, p, e2, ?_, nM1, ow1.del fo' hk hf⟩
        by_cases e : p = o
        · rw [e]; exact del_same
        · rw [del_ne e]; exact f1
      · have e : j = i := by omega
        subst e
        exact ⟨_, si, o, rfl, del_same, nM, owB⟩
    · rcases ownB h1 h2 with ⟨e1, e2⟩ | ⟨e1, e2, e3⟩
      · rcases ownB h3 h4 with ⟨e4, e5⟩ | ⟨e4, e5, e6⟩
        · omega
        · exact absurd e2 e6
      · rcases ownB h3 h4 with ⟨e4, e5⟩ | ⟨e4, e5, e6⟩
        · exact absurd e5 e3
        · exact own_inj ty'.nd e2 h2 e5 h4
  have bsB : Bs R F0 H0 B σ' (del F' o) H' := by
    refine ⟨⟨wf_del ty'.wf, b.ext.ff.trans sff, b'.ext.hh, fun a ha n => ?_⟩, fun p hp => ?_, b.z⟩
    · by_cases e : a = o
      · rw [e]; exact del_same
      · rw [del_ne e]
        exact (ext0.back b'.ext).fr a ha n
    · obtain ⟨j, d, h1, h2⟩ := owns_mem hp
      rcases ownB h1 h2 with ⟨e1, e2⟩ | ⟨e1, e2, e3⟩
      · rw [e2]; exact h0
      · exact b'.fresh p (mem_owns e2 h2)
  exact c.nx B σ' (del F' o) H' hn tyB bsB
end
end VS
set_option Elab.async false
set_option linter.all false
set_option maxRecDepth 100000
/-! plain: words, split at the slash. -/
namespace VS
open PySem PySem.Spec L2
theorem spl_none : ∀ (l acc : List Nat), TL.par [47] acc l = none → TL.spl [47] 0 acc l = [acc ++ l]
  | [], acc, _ => by rw [TL.spl_nil, List.append_nil]
  | c :: r, acc, h => by
    unfold TL.par at h
    split at h
    · cases h
    · rename_i hp
      rw [TL.spl_miss (by simpa using hp), spl_none r (acc ++ [c]) h, List.append_assoc]
      rfl
theorem spl_some : ∀ (l acc : List Nat) {p q : List Nat}, TL.par [47] acc l = some (p, q) → TL.spl [47] 0 acc l = p :: TL.spl [47] 0 [] q
  | [], acc, p, q, h => by cases h
  | c :: r, acc, p, q, h => by
    unfold TL.par at h
    split at h
    · rename_i hp
      cases h
      rw [TL.spl_hit hp]
      rfl
    · rename_i hp
      rw [TL.spl_miss (by simpa using hp)]
      exact spl_some r (acc ++ [c]) h
theorem spl_ne (l acc : List Nat) : TL.spl [47] 0 acc l ≠ [] := by
  cases h : TL.par [47] acc l with
  | none => rw [spl_none l acc h]; exact List.cons_ne_nil _ _
  | some pq => rw [spl_some l acc (p := pq.1) (q := pq.2) h]; exact List.cons_ne_nil _ _
theorem par_mem : ∀ (l acc : List Nat) {p q : List Nat}, TL.par [47] acc l = some (p, q) → 47 ∈ l
  | [], acc, p, q, h => by cases h
  | c :: r, acc, p, q, h => by
    unfold TL.par at h
    split at h
    · rename_i hp
      have : c = 47 := by simpa [TL.pre] using hp
      rw [this]
      exact List.mem_cons_self ..
    · exact List.mem_cons_of_mem _ (par_mem r (acc ++ [c]) h)
theorem rdNum_bad {l : List Nat} (h : 47 ∈ l) : rdNum l 30 = -1 := by
  unfold rdNum
  rw [if_pos (.inr (.inr ⟨47, h, by decide⟩))]
def dueS : List (List Nat) → Option (Int × Int)
  | [p, q] => if okSh (rdNum p 30) (rdNum q 30) = true then some (rdNum p 30, rdNum q 30) else none
  | _ => none
theorem due_eq (l : List Nat) : dueS (TL.spl [47] 0 [] l) = rdShare l := by
  unfold rdShare
  cases h : TL.par [47] [] l with
  | none => rw [spl_none l [] h]; rfl
  | some pq =>
    obtain ⟨p, q⟩ := pq
    rw [spl_some l [] h]
    cases h2 : TL.par [47] [] q with
    | none => rw [spl_none q [] h2]; rfl
    | some pq2 =>
      obtain ⟨p2, q2⟩ := pq2
      rw [spl_some q [] h2]
      have e : rdNum q 30 = -1 := rdNum_bad (par_mem q [] h2)
      dsimp only
      rw [e, if_neg (by unfold okSh isShare; simp)]
      cases h3 : TL.spl [47] 0 [] q2 with
      | nil => exact absurd h3 (spl_ne q2 [])
      | cons z zs => rfl
theorem okSh_eq (n d : Int) : okSh n d = ((decide (0 < n) && decide (n < d)) && decide ((Int.gcd n d : Int) = 1)) := by
  unfold okSh isShare
  by_cases h : (Int.gcd n d : Int) = 1
  · rw [decide_eq_true h]
    rw [Bool.eq_iff_iff]
    simp
    omega
  · rw [decide_eq_false h]
    simp
theorem kS (k : Str) : k ++ Str.ofString " " = SX.S (k.cps.toList ++ [32]) := by
  have := SX.S_cat k.cps.toList [32]
  rw [SX.S_tl] at this
  exact this
theorem starts_cut (k : Str) (l : List Nat) : decide (cutS (SX.S l) none (some ((k.length : Int) + 1)) = k ++ Str.ofString " ") = Txt.startswith (SX.S l) (k ++ Str.ofString " ") := by
  rw [kS, starts_pre, C8.cutS_slice, SX.slice_to (by omega)]
  have e : ((k.length : Int) + 1).toNat = (k.cps.toList ++ [32]).length := by rw [List.length_append, Array.length_toList]; show _ = k.length + 1; omega
  rw [e]
  refine decide_eq_decide.mpr ⟨fun h => SX.S_inj h, fun h => congrArg SX.S h⟩
theorem rest_S (k : Str) (l : List Nat) : cutS (SX.S l) (some ((k.length : Int) + 1)) none = SX.S (restL k l) := (SX.S_tl _).symm
theorem split_rest (l : List Nat) : Txt.split (SX.S l) (Str.ofString "/") = (TL.spl [47] 0 [] l).map SX.S := SX.split_S (b := [47]) (by decide) (by decide)
theorem dig_lt : ∀ (l : List Nat) (acc : Nat) , NumText.AllDigits l → l.foldl (fun acc c => acc * 10 + (c - 48)) acc < (acc + 1) * 10 ^ l.length
  | [], acc, _ => by simp
  | c :: r, acc, h => by
    have ih := dig_lt r (acc * 10 + (c - 48)) h.tail
    have hc := h.head
    refine Nat.lt_of_lt_of_le ih ?_
    rw [List.length_cons, Nat.pow_succ, Nat.mul_comm (10 ^ r.length) 10, ← Nat.mul_assoc]
    exact Nat.mul_le_mul_right _ (by omega)
theorem rdNum_lt (l : List Nat) : (rdNum l 30).natAbs < 10 ^ 30 := by
  unfold rdNum
  split
  · decide
  · rename_i hb
    split
    · decide
    · have hdig : NumText.AllDigits l := fun c hc => by
        have : c ∈ dg := Classical.byContradiction fun h => hb (.inr (.inr ⟨c, hc, h⟩))
        unfold dg at this
        simp only [List.mem_cons, List.not_mem_nil, or_false] at this
        omega
      have h1 := dig_lt l 0 hdig
      have h2 : l.length ≤ 30 := by
        have := fun h => hb (.inr (.inl h))
        omega
      rw [Nat.zero_add, Nat.one_mul] at h1
      exact Nat.lt_of_lt_of_le h1 (Nat.pow_le_pow_right (by decide) h2)
theorem rdShare_sz {l : List Nat} {r : Int × Int} (h : rdShare l = some r) : SzR 400 r := by
  unfold rdShare at h
  split at h
  · split at h
    · cases h
      exact ⟨Nat.lt_trans (rdNum_lt _) (by decide), Nat.lt_trans (rdNum_lt _) (by decide)⟩
    · cases h
  · cases h
theorem tryK_sz {k : Str} {l : List Nat} {r : Int × Int} (h : tryK k l = some r) : SzR 400 r := by
  unfold tryK at h
  split at h
  · exact rdShare_sz h
  · cases h
theorem rdWord_sz {l : List Nat} {w : Str × Option (Int × Int)} (h : rdWord l = some w) : ∀ a, w.2 = some a → SzR 400 a := by
  unfold rdWord at h
  split at h
  · cases h
    intro a ha
    cases ha
  · split at h
    · rename_i r hr
      cases h
      intro a ha
      cases ha
      exact tryK_sz hr
    · split at h
      · rename_i r hr
        cases h
        intro a ha
        cases ha
        exact tryK_sz hr
      · cases h
theorem rdWord_ok {l : List Nat} {w : Str × Option (Int × Int)} (h : rdWord l = some w) : okD (wdD w) = true := by
  unfold rdWord at h
  split at h
  · cases h
    exact ok_wd (by decide +kernel) _
  · split at h
    · cases h
      exact ok_wd (by decide +kernel) _
    · split at h
      · cases h
        exact ok_wd (by decide +kernel) _
      · cases h
def wdO : Option (Str × Option (Int × Int)) → Dt
  | some w => wdD w
  | none => .non
def ph__law_number : Ph := fun ds q _ => ∃ l : List Nat, ds = [.str (SX.S l)] ∧ l.length ≤ 90000 ∧ q (.int (rdNum l 30))
theorem u__law_number {l : List Nat} {q : Dt → Prop} {x : XD} (h : l.length ≤ 90000) (p : q (.int (rdNum l 30))) : ph__law_number [.str (SX.S l)] q x := ⟨l, rfl, h, p⟩
def ph__law_due : Ph := fun ds q _ => ∃ l : List Nat, ds = [.str (SX.S l)] ∧ l.length ≤ 90000 ∧ q (wdO (rdWord l))
theorem u__law_due {l : List Nat} {q : Dt → Prop} {x : XD} (h : l.length ≤ 90000) (p : q (wdO (rdWord l))) : ph__law_due [.str (SX.S l)] q x := ⟨l, rfl, h, p⟩
def ph__law_written : Ph := fun ds q _ => ds = [] ∧ ∀ l : List Nat, l.length ≤ 50 → q (.str (SX.S l))
theorem u__law_written {q : Dt → Prop} {x : XD} (_ : True) (p : ∀ l : List Nat, l.length ≤ 50 → q (.str (SX.S l))) : ph__law_written [] q x := ⟨rfl, p⟩
def ph__law_text : Ph := fun ds q _ => ds = [] ∧ ∀ l : List Nat, l.length ≤ 200 → q (.str (SX.S l))
theorem u__law_text {q : Dt → Prop} {x : XD} (_ : True) (p : ∀ l : List Nat, l.length ≤ 200 → q (.str (SX.S l))) : ph__law_text [] q x := ⟨rfl, p⟩
def ph__law_refused : Ph := fun ds q _ => ∃ (i : Int) (l : List Nat), ds = [.int i, .str (SX.S l)] ∧ (l.length ≤ 90000 ∧ rdWord l = none) ∧ q (.bl true)
theorem u__law_refused {i : Int} {l : List Nat} {q : Dt → Prop} {x : XD} (h : l.length ≤ 90000 ∧ rdWord l = none) (p : q (.bl true)) : ph__law_refused [.int i, .str (SX.S l)] q x := ⟨i, l, rfl, h, p⟩
def ph_is_wrongE (C : Addr) : Ph := fun ds q x => ∃ (l : List Nat) (s : Int × Int), ds = [.str (SX.S l), ratD s] ∧ (l.length ≤ 90000 ∧ SzR 400 s) ∧ (∀ w, rdWord l = some w → q (.bl (wrongW w s))) ∧ (rdWord l = none → x C ["word"] [.str (SX.S l)])
theorem u_is_wrongE {C : Addr} {l : List Nat} {w : Str × Option (Int × Int)} {s : Int × Int} {q : Dt → Prop} {x : XD} (h : l.length ≤ 90000 ∧ SzR 400 s ∧ rdWord l = some w) (p : q (.bl (wrongW w s))) : ph_is_wrongE C [.str (SX.S l), ratD s] q x :=
  ⟨l, s, rfl, ⟨h.1, h.2.1⟩, fun w' e => by rw [h.2.2] at e; cases e; exact p, fun e => by rw [h.2.2] at e; cases e⟩
end VS
set_option Elab.async false
set_option linter.all false
set_option maxRecDepth 100000
/-! plain: polynomials as lists of ints. -/
namespace VS
open PySem PySem.Spec L2
/-- the i-th coefficient -/
def cf (l : List Int) (i : Nat) : Int := l.getD i 0
@[simp] theorem cf_nil (i : Nat) : cf [] i = 0 := by simp [cf]
@[simp] theorem cf_zero (x : Int) (l : List Int) : cf (x :: l) 0 = x := by simp [cf]
@[simp] theorem cf_succ (x : Int) (l : List Int) (i : Nat) : cf (x :: l) (i + 1) = cf l i := by simp [cf]
theorem cf_ge {l : List Int} {i : Nat} (h : l.length ≤ i) : cf l i = 0 := by
  unfold cf
  rw [List.getD_eq_getElem?_getD, List.getElem?_eq_none h]
  rfl
theorem cf_lt {l : List Int} {i : Nat} (h : i < l.length) : l[i]? = some (cf l i) := by
  unfold cf
  rw [List.getD_eq_getElem?_getD, List.getElem?_eq_getElem h]
  rfl
/-- without zeros at the end -/
def trimL : List Int → List Int
  | [] => []
  | x :: l => if trimL l = [] ∧ x = 0 then [] else x :: trimL l
theorem trim_cons (x : Int) (l : List Int) : trimL (x :: l) = if trimL l = [] ∧ x = 0 then [] else x :: trimL l := rfl
theorem cf_trim : ∀ (l : List Int) (i : Nat), cf (trimL l) i = cf l i
  | [], i => rfl
  | x :: l, i => by
    unfold trimL
    split
    · rename_i h
      cases i with
      | zero => rw [h.2]; simp
      | succ j =>
        have := cf_trim l j
        rw [h.1] at this
        simpa using this
    · cases i with
      | zero => simp
      | succ j => simp [cf_trim l j]
theorem trim_nil_iff : ∀ (l : List Int), trimL l = [] ↔ ∀ i, cf l i = 0
  | [] => by simp [trimL]
  | x :: l => by
    have ih := trim_nil_iff l
    unfold trimL
    constructor
    · intro h i
      split at h
      · rename_i z
        cases i with
        | zero => simp [z.2]
        | succ j => simp [ih.mp z.1 j]
      · cases h
    · intro h
      rw [if_pos]
      exact ⟨ih.mpr fun i => by have := h (i + 1); simpa using this, by have := h 0; simpa using this⟩
theorem trim_ext : ∀ {a b : List Int}, (∀ i, cf a i = cf b i) → trimL a = trimL b
  | [], b, h => by
    have : trimL b = [] := (trim_nil_iff b).mpr fun i => by rw [← h i]; simp
    rw [this]; rfl
  | x :: a, [], h => by
    have : trimL (x :: a) = [] := (trim_nil_iff _).mpr fun i => by rw [h i]; simp
    rw [this]; rfl
  | x :: a, y :: b, h => by
    have e : x = y := by have := h 0; simpa using this
    have t : trimL a = trimL b := trim_ext fun i => by have := h (i + 1); simpa using this
    unfold trimL
    rw [e, t]
theorem trim_idem (l : List Int) : trimL (trimL l) = trimL l := trim_ext (cf_trim l)
theorem trim_len : ∀ (l : List Int), (trimL l).length ≤ l.length
  | [] => Nat.le_refl _
  | x :: l => by
    have := trim_len l
    unfold trimL
    split
    · simp
    · simp; omega
theorem trim_mem : ∀ {l : List Int} {x : Int}, x ∈ trimL l → x ∈ l
  | [], x, h => h
  | y :: l, x, h => by
    unfold trimL at h
    split at h
    · cases h
    · rcases List.mem_cons.mp h with e | e
      · rw [e]; exact List.mem_cons_self
      · exact List.mem_cons_of_mem _ (trim_mem e)
/-- trimmed -/
def Tr (l : List Int) : Prop := trimL l = l
theorem tr_trim (l : List Int) : Tr (trimL l) := trim_idem l
theorem tr_nil : Tr [] := rfl
theorem tr_ext {a b : List Int} (ha : Tr a) (hb : Tr b) (h : ∀ i, cf a i = cf b i) : a = b := by rw [← ha, ← hb]; exact trim_ext h
theorem tr_last : ∀ {l : List Int}, Tr l → l ≠ [] → cf l (l.length - 1) ≠ 0
  | [], _, h => absurd rfl h
  | [x], ht, _ => by
    intro z
    have hx : x = 0 := by simpa using z
    unfold Tr trimL at ht
    rw [if_pos ⟨rfl, hx⟩] at ht
    cases ht
  | x :: y :: l, ht, _ => by
    have h2 : Tr (y :: l) := by
      unfold Tr at ht ⊢
      rw [trimL] at ht
      split at ht
      · cases ht
      · exact (List.cons.inj ht).2
    have := tr_last h2 (by simp)
    simpa using this
theorem take_trim : ∀ {s : Nat} {l : List Int}, s ≤ l.length → (∀ i, s ≤ i → cf l i = 0) → (s = 0 ∨ cf l (s - 1) ≠ 0) → l.take s = trimL l
  | 0, l, _, h, _ => by
    rw [List.take_zero]
    exact ((trim_nil_iff l).mpr fun i => h i (Nat.zero_le _)).symm
  | s + 1, [], hl, _, _ => by simp at hl
  | s + 1, x :: l, hl, h, hn => by
    have hl' : s ≤ l.length := by simpa using hl
    have hn' : cf (x :: l) s ≠ 0 := by
      rcases hn with z | z
      · cases z
      · simpa using z
    have h' : ∀ i, s ≤ i → cf l i = 0 := fun i hi => by have := h (i + 1) (by omega); simpa using this
    have ih := take_trim (s := s) (l := l) hl' h' (by
      cases s with
      | zero => exact .inl rfl
      | succ t => right; simpa using hn')
    rw [List.take_succ_cons, ih, trim_cons, if_neg]
    rintro ⟨z1, z2⟩
    apply hn'
    cases s with
    | zero => simpa using z2
    | succ t =>
      have := (trim_nil_iff l).mp z1 t
      simpa using this
/-- sums -/
def addL : List Int → List Int → List Int
  | [], b => b
  | a, [] => a
  | x :: a, y :: b => (x + y) :: addL a b
theorem cf_add : ∀ (a b : List Int) (i : Nat), cf (addL a b) i = cf a i + cf b i
  | [], b, i => by simp [addL]
  | x :: a, [], i => by simp [addL]
  | x :: a, y :: b, 0 => by simp [addL]
  | x :: a, y :: b, i + 1 => by simp [addL, cf_add a b i]
theorem len_add : ∀ (a b : List Int), (addL a b).length = max a.length b.length
  | [], b => by simp [addL]
  | x :: a, [] => by simp [addL]
  | x :: a, y :: b => by simp only [addL, List.length_cons, len_add a b]; omega
def scL (c : Int) (l : List Int) : List Int := l.map (c * ·)
theorem cf_sc (c : Int) : ∀ (l : List Int) (i : Nat), cf (scL c l) i = c * cf l i
  | [], i => by simp [scL]
  | x :: l, 0 => by simp [scL]
  | x :: l, i + 1 => by
    have := cf_sc c l i
    simpa [scL] using this
theorem len_sc (c : Int) (l : List Int) : (scL c l).length = l.length := by simp [scL]
/-- sizes -/
def SzL (B : Nat) (l : List Int) : Prop := ∀ x ∈ l, x.natAbs < 2 ^ B
theorem SzL.up {B C : Nat} {l : List Int} (h : SzL B l) (hl : B ≤ C) : SzL C l := fun x hx => sz_up (h x hx) hl
theorem SzL.trim {B : Nat} {l : List Int} (h : SzL B l) : SzL B (trimL l) := fun x hx => h x (trim_mem hx)
theorem SzL.add {B : Nat} : ∀ {a b : List Int}, SzL B a → SzL B b → SzL (B + 1) (addL a b)
  | [], b, _, hb => by rw [addL]; exact hb.up (by omega)
  | x :: a, [], ha, _ => ha.up (by omega)
  | x :: a, y :: b, ha, hb => fun z hz => by
    rw [addL] at hz
    rcases List.mem_cons.mp hz with e | e
    · rw [e]; exact sz_add (ha x List.mem_cons_self) (hb y List.mem_cons_self)
    · exact SzL.add (fun u hu => ha u (List.mem_cons_of_mem _ hu)) (fun u hu => hb u (List.mem_cons_of_mem _ hu)) z e
theorem SzL.sc {B C : Nat} {c : Int} {l : List Int} (h : SzL B l) (hc : c.natAbs < 2 ^ C) : SzL (C + B) (scL c l) := fun z hz => by
  obtain ⟨x, hx, rfl⟩ := List.mem_map.mp hz
  exact sz_mul hc (h x hx)
theorem SzL.neg {B : Nat} {l : List Int} (h : SzL B l) : SzL B (scL (-1) l) := fun z hz => by
  obtain ⟨x, hx, rfl⟩ := List.mem_map.mp hz
  rw [Int.neg_one_mul]
  exact sz_neg (h x hx)
theorem SzL.nil {B : Nat} : SzL B [] := fun x h => nomatch h
theorem SzL.one {B : Nat} {x : Int} (h : x.natAbs < 2 ^ B) : SzL B [x] := fun y hy => by rw [List.mem_singleton.mp hy]; exact h
/-- a polynomial as an object -/
def polD (C : Addr) (l : List Int) : Dt := .obj C ["coefs"] [.tup (l.map .int)]
def iL (l : List Int) : Dt := .lst (l.map .int)
def iT (l : List Int) : Dt := .tup (l.map .int)
theorem get_intL {ns : List Int} {i : Nat} {d : Dt} (h : (ns.map Dt.int)[i]? = some d) : i < ns.length ∧ d = .int (cf ns i) := by
  rw [List.getElem?_map] at h
  cases e : ns[i]? with
  | none => rw [e] at h; cases h
  | some z =>
    rw [e] at h
    have hi := (List.getElem?_eq_some_iff.mp e).1
    have := cf_lt hi
    rw [e] at this
    cases this
    exact ⟨hi, (Option.some.inj h).symm⟩
theorem at_cf {s : List Int} {z : Int} {j : Nat} (e : z = (j : Int)) (h : j < s.length) : atI (s.map Dt.int) z = some (.int (cf s j)) := by
  rw [e]
  refine atI_nat ?_
  rw [List.getElem?_map, cf_lt h]
  rfl
theorem cut_to {xs : List Dt} {s : Nat} (h : s ≤ xs.length) : cutD xs none (some (s : Int)) = xs.take s := by
  unfold cutD
  rw [HT.sIx_none, HT.sIx_nat, List.drop_zero, Nat.sub_zero, Nat.min_eq_left h]
def ph_trim : Ph := fun ds q _ => ∃ (l : List Int) (d : Dt), ds = [d] ∧ (d = iL l ∨ d = iT l) ∧ l.length ≤ 100000 ∧ q (iT (trimL l))
theorem u_trim {l : List Int} {q : Dt → Prop} {x : XD} (h : l.length ≤ 100000) (p : q (iT (trimL l))) : ph_trim [iL l] q x := ⟨l, _, rfl, .inl rfl, h, p⟩
theorem u_trimT {l : List Int} {q : Dt → Prop} {x : XD} (h : l.length ≤ 100000) (p : q (iT (trimL l))) : ph_trim [iT l] q x := ⟨l, _, rfl, .inr rfl, h, p⟩
def padL (l : List Int) (n : Int) : List Int := l ++ List.replicate (n - (l.length : Int)).toNat 0
theorem pad_len {l : List Int} {n : Nat} (h : l.length ≤ n) : (padL l (n : Int)).length = n := by
  unfold padL
  rw [List.length_append, List.length_replicate]
  omega
theorem rep_ints (k : Nat) (x : Int) : (List.replicate k [Dt.int x]).flatten = (List.replicate k x).map Dt.int := by
  induction k with
  | zero => rfl
  | succ k ih => rw [List.replicate_succ, List.flatten_cons, ih]; rfl
theorem rep_zero (k : Nat) : ∀ j, cf (List.replicate k 0) j = 0 := by
  induction k with
  | zero => intro j; simp
  | succ k ih =>
    intro j
    cases j with
    | zero => rw [List.replicate_succ]; simp
    | succ j => rw [List.replicate_succ, cf_succ]; exact ih j
theorem cf_app : ∀ (a b : List Int) (i : Nat), cf (a ++ b) i = if i < a.length then cf a i else cf b (i - a.length)
  | [], b, i => by simp
  | x :: a, b, 0 => by simp
  | x :: a, b, i + 1 => by
    rw [List.cons_append, cf_succ, cf_app a b i, cf_succ, List.length_cons]
    by_cases h : i < a.length
    · rw [if_pos h, if_pos (by omega)]
    · rw [if_neg h, if_neg (by omega)]
      congr 1
      omega
theorem cf_pad (l : List Int) (n : Int) (i : Nat) : cf (padL l n) i = cf l i := by
  unfold padL
  rw [cf_app]
  split
  · rfl
  · rename_i h
    rw [rep_zero, cf_ge (by omega)]
def ph_padded : Ph := fun ds q _ => ∃ (l : List Int) (n : Int), ds = [iT l, .int n] ∧ (l.length ≤ 50000 ∧ n ≤ 1000 ∧ -1000 ≤ n) ∧ q (iT (padL l n))
theorem u_padded {l : List Int} {n : Int} {q : Dt → Prop} {x : XD} (h : l.length ≤ 50000 ∧ n ≤ 1000 ∧ -1000 ≤ n) (p : q (iT (padL l n))) : ph_padded [iT l, .int n] q x := ⟨l, n, rfl, h, p⟩
def ph_plus : Ph := fun ds q _ => ∃ (a b : List Int), ds = [iT a, iT b] ∧ (a.length ≤ 900 ∧ b.length ≤ 900) ∧ q (iT (trimL (addL a b)))
theorem u_plus {a b : List Int} {q : Dt → Prop} {x : XD} (h : a.length ≤ 900 ∧ b.length ≤ 900) (p : q (iT (trimL (addL a b)))) : ph_plus [iT a, iT b] q x := ⟨a, b, rfl, h, p⟩
def ph_scaled : Ph := fun ds q _ => ∃ (a : List Int) (c : Int) (B C : Nat), ds = [iT a, .int c] ∧ (a.length ≤ 900 ∧ SzL B a ∧ c.natAbs < 2 ^ C ∧ C + B ≤ 900000) ∧ q (iT (trimL (scL c a)))
theorem u_scaled {a : List Int} {c : Int} {B C : Nat} {q : Dt → Prop} {x : XD} (h : a.length ≤ 900 ∧ SzL B a ∧ c.natAbs < 2 ^ C ∧ C + B ≤ 900000) (p : q (iT (trimL (scL c a)))) : ph_scaled [iT a, .int c] q x := ⟨a, c, B, C, rfl, h, p⟩
def subL (a b : List Int) : List Int := addL a (scL (-1) b)
def ph_minus : Ph := fun ds q _ => ∃ (a b : List Int) (B : Nat), ds = [iT a, iT b] ∧ (a.length ≤ 900 ∧ b.length ≤ 900 ∧ SzL B b ∧ B ≤ 800000) ∧ q (iT (trimL (subL a b)))
theorem u_minus {a b : List Int} {B : Nat} {q : Dt → Prop} {x : XD} (h : a.length ≤ 900 ∧ b.length ≤ 900 ∧ SzL B b ∧ B ≤ 800000) (p : q (iT (trimL (subL a b)))) : ph_minus [iT a, iT b] q x := ⟨a, b, B, rfl, h, p⟩
theorem zip_ints : ∀ (a b : List Int), zipD (a.map .int) (b.map .int) = (a.zip b).map fun p => .tup [.int p.1, .int p.2]
  | [], b => by simp [zipD]
  | x :: a, [] => by simp [zipD]
  | x :: a, y :: b => by
    have := zip_ints a b
    unfold zipD at this ⊢
    simp only [List.map_cons, List.zip_cons_cons]
    rw [this]
theorem cf_zip : ∀ (a b : List Int), a.length = b.length → ∀ i, cf ((a.zip b).map fun p => p.1 + p.2) i = cf a i + cf b i
  | [], [], _, i => by simp
  | x :: a, y :: b, h, 0 => by simp
  | x :: a, y :: b, h, i + 1 => by
    have := cf_zip a b (by simpa using h) i
    simpa using this
  | [], _ :: _, h, _ => by simp at h
  | _ :: _, [], h, _ => by simp at h
theorem map_int {τ : Type} (g : τ → Int) (ts : List τ) : (ts.map fun t => Dt.int (g t)) = (ts.map g).map Dt.int := by rw [List.map_map]; rfl
theorem at_last {l : List Int} (h : 0 < l.length) : atI (l.map Dt.int) (-1) = some (.int (cf l (l.length - 1))) := by
  have h1 : (l.map Dt.int)[l.length - 1]? = some (.int (cf l (l.length - 1))) := by rw [List.getElem?_map, cf_lt (by omega)]; rfl
  have e : ixN l.length (-1) = some (l.length - 1) := by
    unfold ixN
    rw [if_neg (by decide), if_pos (by omega)]
    congr 1
    omega
  unfold atI
  rw [List.length_map, e]
  exact h1
/-- the class Poly's methods -/
def ph_Poly___init__ (C : Addr) : Ph := fun ds q _ => ∃ l : List Int, ds = [iT l] ∧ l.length ≤ 100000 ∧ q (polD C (trimL l))
theorem u_Poly___init__ {C : Addr} {l : List Int} {q : Dt → Prop} {x : XD} (h : l.length ≤ 100000) (p : q (polD C (trimL l))) : ph_Poly___init__ C [iT l] q x := ⟨l, rfl, h, p⟩
def ph_Poly_of (C : Addr) : Ph := fun ds q _ => ∃ (l : List Int) (d : Dt), ds = [.adr C, d] ∧ (d = iL l ∨ d = iT l) ∧ l.length ≤ 90000 ∧ q (polD C (trimL l))
theorem u_Poly_of {C : Addr} {l : List Int} {q : Dt → Prop} {x : XD} (h : l.length ≤ 90000) (p : q (polD C (trimL l))) : ph_Poly_of C [.adr C, iL l] q x := ⟨l, _, rfl, .inl rfl, h, p⟩
theorem u_Poly_ofT {C : Addr} {l : List Int} {q : Dt → Prop} {x : XD} (h : l.length ≤ 90000) (p : q (polD C (trimL l))) : ph_Poly_of C [.adr C, iT l] q x := ⟨l, _, rfl, .inr rfl, h, p⟩
/-- a polynomial or an int, by its coefficients -/
def Oth (C : Addr) (d : Dt) (b : List Int) : Prop := d = polD C b ∨ ∃ i, d = .int i ∧ b = trimL [i]
def ph_coefs_of (C : Addr) : Ph := fun ds q _ => ∃ (d : Dt) (b : List Int), ds = [d] ∧ Oth C d b ∧ q (iT b)
theorem u_coefs_of {C : Addr} {d : Dt} {b : List Int} {q : Dt → Prop} {x : XD} (h : Oth C d b) (p : q (iT b)) : ph_coefs_of C [d] q x := ⟨d, b, rfl, h, p⟩
def ph_add2 (f : List Int → List Int → List Int) (C : Addr) : Ph := fun ds q _ => ∃ (a b : List Int) (d : Dt) (B : Nat), ds = [polD C a, d] ∧ Oth C d b ∧ (a.length ≤ 900 ∧ b.length ≤ 900 ∧ SzL B a ∧ SzL B b ∧ B ≤ 800000) ∧ q (polD C (trimL (f a b)))
abbrev ph_Poly___add__ := ph_add2 addL
abbrev ph_Poly___radd__ := ph_add2 addL
abbrev ph_Poly___sub__ := ph_add2 subL
abbrev ph_Poly___rsub__ := ph_add2 fun a b => subL b a
theorem u_add2 {f : List Int → List Int → List Int} {C : Addr} {a b : List Int} {B : Nat} {q : Dt → Prop} {x : XD} (h : a.length ≤ 900 ∧ b.length ≤ 900 ∧ SzL B a ∧ SzL B b ∧ B ≤ 800000) (p : q (polD C (trimL (f a b)))) : ph_add2 f C [polD C a, polD C b] q x := ⟨a, b, _, B, rfl, .inl rfl, h, p⟩
theorem u_add2I {f : List Int → List Int → List Int} {C : Addr} {a : List Int} {i : Int} {B : Nat} {q : Dt → Prop} {x : XD} (h : a.length ≤ 900 ∧ SzL B a ∧ i.natAbs < 2 ^ B ∧ B ≤ 800000) (p : q (polD C (trimL (f a (trimL [i]))))) : ph_add2 f C [polD C a, .int i] q x :=
  ⟨a, trimL [i], _, B, rfl, .inr ⟨i, rfl, rfl⟩, ⟨h.1, Nat.le_trans (trim_len _) (show 1 ≤ 900 by decide), h.2.1, (SzL.one h.2.2.1).trim, h.2.2.2⟩, p⟩
theorem u_Poly___add__ {C : Addr} {a b : List Int} {B : Nat} {q : Dt → Prop} {x : XD} (h : a.length ≤ 900 ∧ b.length ≤ 900 ∧ SzL B a ∧ SzL B b ∧ B ≤ 800000) (p : q (polD C (trimL (addL a b)))) : ph_Poly___add__ C [polD C a, polD C b] q x := u_add2 h p
theorem u_Poly___sub__ {C : Addr} {a b : List Int} {B : Nat} {q : Dt → Prop} {x : XD} (h : a.length ≤ 900 ∧ b.length ≤ 900 ∧ SzL B a ∧ SzL B b ∧ B ≤ 800000) (p : q (polD C (trimL (subL a b)))) : ph_Poly___sub__ C [polD C a, polD C b] q x := u_add2 h p
theorem u_Poly___add__I {C : Addr} {a : List Int} {i : Int} {B : Nat} {q : Dt → Prop} {x : XD} (h : a.length ≤ 900 ∧ SzL B a ∧ i.natAbs < 2 ^ B ∧ B ≤ 800000) (p : q (polD C (trimL (addL a (trimL [i]))))) : ph_Poly___add__ C [polD C a, .int i] q x := u_add2I h p
theorem u_Poly___radd__I {C : Addr} {a : List Int} {i : Int} {B : Nat} {q : Dt → Prop} {x : XD} (h : a.length ≤ 900 ∧ SzL B a ∧ i.natAbs < 2 ^ B ∧ B ≤ 800000) (p : q (polD C (trimL (addL a (trimL [i]))))) : ph_Poly___radd__ C [polD C a, .int i] q x := u_add2I h p
theorem u_Poly___sub__I {C : Addr} {a : List Int} {i : Int} {B : Nat} {q : Dt → Prop} {x : XD} (h : a.length ≤ 900 ∧ SzL B a ∧ i.natAbs < 2 ^ B ∧ B ≤ 800000) (p : q (polD C (trimL (subL a (trimL [i]))))) : ph_Poly___sub__ C [polD C a, .int i] q x := u_add2I h p
theorem u_Poly___rsub__I {C : Addr} {a : List Int} {i : Int} {B : Nat} {q : Dt → Prop} {x : XD} (h : a.length ≤ 900 ∧ SzL B a ∧ i.natAbs < 2 ^ B ∧ B ≤ 800000) (p : q (polD C (trimL (subL (trimL [i]) a)))) : ph_Poly___rsub__ C [polD C a, .int i] q x := u_add2I (f := fun a b => subL b a) h p
def ph_Poly___neg__ (C : Addr) : Ph := fun ds q _ => ∃ (a : List Int) (B : Nat), ds = [polD C a] ∧ (a.length ≤ 900 ∧ SzL B a ∧ B ≤ 800000) ∧ q (polD C (trimL (scL (-1) a)))
theorem u_Poly___neg__ {C : Addr} {a : List Int} {B : Nat} {q : Dt → Prop} {x : XD} (h : a.length ≤ 900 ∧ SzL B a ∧ B ≤ 800000) (p : q (polD C (trimL (scL (-1) a)))) : ph_Poly___neg__ C [polD C a] q x := ⟨a, B, rfl, h, p⟩
def ph__law_row (C : Addr) : Ph := fun ds q _ => ∃ l : List Int, ds = [polD C l] ∧ (Tr l ∧ l.length ≤ 90000) ∧ q (iL l)
theorem u__law_row {C : Addr} {l : List Int} {q : Dt → Prop} {x : XD} (h : Tr l ∧ l.length ≤ 90000) (p : q (iL l)) : ph__law_row C [polD C l] q x := ⟨l, rfl, h, p⟩
def ph__law_trim : Ph := fun ds q _ => ∃ l : List Int, ds = [iL l] ∧ l.length ≤ 100000 ∧ q (iL (trimL l))
theorem u__law_trim {l : List Int} {q : Dt → Prop} {x : XD} (h : l.length ≤ 100000) (p : q (iL (trimL l))) : ph__law_trim [iL l] q x := ⟨l, rfl, h, p⟩
def ph__law_plus : Ph := fun ds q _ => ∃ a b : List Int, ds = [iL a, iL b] ∧ (a.length ≤ 40000 ∧ b.length ≤ 40000) ∧ q (iL (trimL (addL a b)))
theorem u__law_plus {a b : List Int} {q : Dt → Prop} {x : XD} (h : a.length ≤ 40000 ∧ b.length ≤ 40000) (p : q (iL (trimL (addL a b)))) : ph__law_plus [iL a, iL b] q x := ⟨a, b, rfl, h, p⟩
def ph__law_scaled : Ph := fun ds q _ => ∃ (a : List Int) (c : Int) (B C : Nat), ds = [iL a, .int c] ∧ (a.length ≤ 90000 ∧ SzL B a ∧ c.natAbs < 2 ^ C ∧ C + B ≤ 900000) ∧ q (iL (trimL (scL c a)))
theorem u__law_scaled {a : List Int} {c : Int} {B C : Nat} {q : Dt → Prop} {x : XD} (h : a.length ≤ 90000 ∧ SzL B a ∧ c.natAbs < 2 ^ C ∧ C + B ≤ 900000) (p : q (iL (trimL (scL c a)))) : ph__law_scaled [iL a, .int c] q x := ⟨a, c, B, C, rfl, h, p⟩
def ph__law_coefs : Ph := fun ds q _ => ds = [] ∧ ∀ l : List Int, l.length ≤ 7 → SzL 80 l → q (iL l)
theorem u__law_coefs {q : Dt → Prop} {x : XD} (_ : True) (p : ∀ l : List Int, l.length ≤ 7 → SzL 80 l → q (iL l)) : ph__law_coefs [] q x := ⟨rfl, p⟩
theorem range_cf : ∀ {s : Nat} {l : List Int}, s ≤ l.length → (List.range s).map (cf l) = l.take s
  | 0, l, _ => rfl
  | s + 1, [], h => by simp at h
  | s + 1, x :: l, h => by
    rw [List.range_succ_eq_map, List.map_cons, List.map_map, List.take_succ_cons, cf_zero]
    have := range_cf (s := s) (l := l) (by simpa using h)
    rw [← this]
    congr 1
theorem rangeD_nat (n : Nat) : rangeD 0 ((n : Int)).toNat = (List.range n).map fun i => Dt.int (i : Nat) := by
  unfold rangeD
  rw [Int.toNat_natCast]
  refine List.map_congr_left fun i _ => ?_
  rw [Int.zero_add]
theorem ints_of {acc : List Dt} {B : Nat} (h : ∀ y ∈ acc, ∃ z : Int, y = .int z ∧ z.natAbs < 2 ^ B) : ∃ l : List Int, acc = l.map .int ∧ l.length = acc.length ∧ SzL B l := by
  induction acc with
  | nil => exact ⟨[], rfl, rfl, SzL.nil⟩
  | cons y t ih =>
    obtain ⟨l, e1, e2, e3⟩ := ih fun z hz => h z (List.mem_cons_of_mem _ hz)
    obtain ⟨z, rfl, hz⟩ := h y List.mem_cons_self
    refine ⟨z :: l, by rw [e1]; rfl, by simp [e2], fun u hu => ?_⟩
    rcases List.mem_cons.mp hu with e | e
    · rw [e]; exact hz
    · exact e3 u e
theorem cf_set : ∀ (l : List Int) (j : Nat) (x : Int) (i : Nat), j < l.length → cf (l.set j x) i = if i = j then x else cf l i
  | [], j, x, i, h => by simp at h
  | y :: l, 0, x, 0, _ => by simp
  | y :: l, 0, x, i + 1, _ => by simp
  | y :: l, j + 1, x, 0, _ => by simp
  | y :: l, j + 1, x, i + 1, h => by
    have := cf_set l j x i (by simpa using h)
    simp [this]
theorem set_ints (l : List Int) (j : Nat) (x : Int) : (l.map Dt.int).set j (.int x) = (l.set j x).map Dt.int := by rw [List.map_set]
theorem ix_nat {n j : Nat} (h : j < n) : ixN n (j : Int) = some j := by
  unfold ixN
  rw [if_pos (by omega), if_pos (by omega), Int.toNat_natCast]
theorem rep_ints' (k : Nat) (x : Int) : List.replicate k (Dt.int x) = (List.replicate k x).map Dt.int := by rw [List.map_replicate]
theorem range_get {n i x : Nat} (h : (List.range n)[i]? = some x) : i < n ∧ x = i := by
  have hi : i < n := by
    have := (List.getElem?_eq_some_iff.mp h).1
    simpa using this
  rw [List.getElem?_range hi] at h
  exact ⟨hi, (Option.some.inj h).symm⟩
theorem eqL (l : List Int) : eqD (iL l) (iL l) = true := eqD_refl (ok_ints l)
/-- products -/
def mulL : List Int → List Int → List Int
  | [], _ => []
  | x :: a, b => addL (scL x b) (0 :: mulL a b)
theorem cf_mul_cons (x : Int) (a b : List Int) (k : Nat) : cf (mulL (x :: a) b) k = x * cf b k + if k = 0 then 0 else cf (mulL a b) (k - 1) := by
  show cf (addL (scL x b) (0 :: mulL a b)) k = _
  rw [cf_add, cf_sc]
  cases k with
  | zero => simp
  | succ k => simp
theorem mul_snoc (x : Int) : ∀ (a b : List Int) (k : Nat), cf (mulL (a ++ [x]) b) k = cf (mulL a b) k + if a.length ≤ k then x * cf b (k - a.length) else 0
  | [], b, k => by
    rw [List.nil_append, cf_mul_cons]
    simp [mulL]
  | y :: a, b, k => by
    rw [List.cons_append, cf_mul_cons, cf_mul_cons]
    cases k with
    | zero => simp
    | succ k =>
      rw [if_neg (Nat.succ_ne_zero k), if_neg (Nat.succ_ne_zero k), Nat.add_sub_cancel, mul_snoc x a b k, List.length_cons]
      by_cases h : a.length ≤ k
      · rw [if_pos h, if_pos (by omega), show k + 1 - (a.length + 1) = k - a.length by omega]
        omega
      · rw [if_neg h, if_neg (by omega)]
        omega
theorem mul_nil (a : List Int) : ∀ k, cf (mulL a []) k = 0 := by
  induction a with
  | nil => intro k; simp [mulL]
  | cons x a ih =>
    intro k
    rw [cf_mul_cons, cf_nil, Int.mul_zero, Int.zero_add]
    split
    · rfl
    · exact ih _
theorem mul_beyond : ∀ (a b : List Int) (k : Nat), a.length + b.length ≤ k + 1 → cf (mulL a b) k = 0
  | [], b, k, _ => by simp [mulL]
  | x :: a, b, k, h => by
    simp only [List.length_cons] at h
    rw [cf_mul_cons]
    cases k with
    | zero =>
      have : b = [] := List.eq_nil_of_length_eq_zero (by omega)
      subst this
      simp
    | succ k =>
      rw [if_neg (Nat.succ_ne_zero k), Nat.add_sub_cancel, mul_beyond a b k (by omega), cf_ge (l := b) (by omega)]
      omega
theorem len_mul : ∀ (a b : List Int), (mulL a b).length ≤ a.length + b.length
  | [], b => by simp [mulL]
  | x :: a, b => by
    have := len_mul a b
    show (addL (scL x b) (0 :: mulL a b)).length ≤ _
    rw [len_add, len_sc, List.length_cons, List.length_cons]
    omega
theorem SzL.mul {A B : Nat} : ∀ {a b : List Int}, SzL A a → SzL B b → SzL (A + B + a.length) (mulL a b)
  | [], b, _, _ => SzL.nil
  | x :: a, b, ha, hb => by
    have ih := SzL.mul (A := A) (B := B) (a := a) (b := b) (fun u hu => ha u (List.mem_cons_of_mem _ hu)) hb
    have h1 : SzL (A + B + a.length) (scL x b) := (SzL.sc hb (ha x List.mem_cons_self)).up (by omega)
    have h2 : SzL (A + B + a.length) (0 :: mulL a b) := fun u hu => by
      rcases List.mem_cons.mp hu with e | e
      · rw [e]; exact Nat.pow_pos (by decide)
      · exact ih u e
    exact h1.add h2
theorem mul_trim (a b : List Int) : trimL (mulL a (trimL b)) = trimL (mulL a b) := trim_ext fun k => by
  induction a generalizing k with
  | nil => simp [mulL]
  | cons x a ih =>
    rw [cf_mul_cons, cf_mul_cons, cf_trim]
    split
    · rfl
    · rw [ih]
theorem mul_ext {a b c : List Int} (h : ∀ k, cf b k = cf c k) (k : Nat) : cf (mulL a b) k = cf (mulL a c) k := by
  induction a generalizing k with
  | nil => simp [mulL]
  | cons x a ih =>
    rw [cf_mul_cons, cf_mul_cons, h]
    split
    · rfl
    · rw [ih]
/-- the sum form -/
theorem mul_comm' : ∀ (a b : List Int) (k : Nat), cf (mulL a b) k = cf (mulL b a) k
  | a, [], k => by rw [mul_nil]; simp [mulL]
  | a, y :: b, k => by
    have e : ∀ (a : List Int) (k : Nat), cf (mulL a (y :: b)) k = cf (mulL (y :: b) a) k := by
      intro a
      induction a with
      | nil => intro k; rw [mul_nil]; simp [mulL]
      | cons x a ih =>
        intro k
        rw [cf_mul_cons, cf_mul_cons]
        cases k with
        | zero => simp [Int.mul_comm]
        | succ k =>
          rw [if_neg (Nat.succ_ne_zero k), if_neg (Nat.succ_ne_zero k), Nat.add_sub_cancel, ih k, cf_mul_cons, cf_succ, cf_succ]
          rw [← mul_comm' (x :: a) b k, cf_mul_cons]
          cases k with
          | zero => simp; omega
          | succ k =>
            rw [if_neg (Nat.succ_ne_zero k), if_neg (Nat.succ_ne_zero k), Nat.add_sub_cancel, mul_comm' a b k]
            omega
    exact e a k
termination_by _ b _ => b.length
def ph_times : Ph := fun ds q _ => ∃ (a b : List Int) (A B : Nat), ds = [iT a, iT b] ∧ (a.length ≤ 900 ∧ b.length ≤ 900 ∧ SzL A a ∧ SzL B b ∧ A + B ≤ 900000) ∧ q (iT (trimL (mulL a b)))
theorem u_times {a b : List Int} {A B : Nat} {q : Dt → Prop} {x : XD} (h : a.length ≤ 900 ∧ b.length ≤ 900 ∧ SzL A a ∧ SzL B b ∧ A + B ≤ 900000) (p : q (iT (trimL (mulL a b)))) : ph_times [iT a, iT b] q x := ⟨a, b, A, B, rfl, h, p⟩
def ph__law_times : Ph := fun ds q _ => ∃ (a b : List Int) (A B : Nat), ds = [iL a, iL b] ∧ (a.length ≤ 900 ∧ b.length ≤ 900 ∧ SzL A a ∧ SzL B b ∧ A + B ≤ 900000) ∧ q (iL (trimL (mulL a b)))
theorem u__law_times {a b : List Int} {A B : Nat} {q : Dt → Prop} {x : XD} (h : a.length ≤ 900 ∧ b.length ≤ 900 ∧ SzL A a ∧ SzL B b ∧ A + B ≤ 900000) (p : q (iL (trimL (mulL a b)))) : ph__law_times [iL a, iL b] q x := ⟨a, b, A, B, rfl, h, p⟩
theorem zeros_cf (n : Nat) (i : Nat) : cf ((List.range n).map fun _ => (0 : Int)) i = 0 := by
  by_cases h : i < n
  · have e : ((List.range n).map fun _ => (0 : Int))[i]? = some 0 := by rw [List.getElem?_map, List.getElem?_range h]; rfl
    unfold cf
    rw [List.getD_eq_getElem?_getD, e]
    rfl
  · exact cf_ge (by simp; omega)
def powT (a : List Int) : Nat → List Int
  | 0 => [1]
  | n + 1 => trimL (mulL (powT a n) a)
theorem tr_one : Tr [1] := by unfold Tr; decide
theorem powT_tr (a : List Int) : ∀ n, Tr (powT a n)
  | 0 => tr_one
  | n + 1 => tr_trim _
theorem powT_len (a : List Int) {L : Nat} (h : a.length ≤ L) : ∀ n, (powT a n).length ≤ n * L + 1
  | 0 => by simp [powT]
  | n + 1 => by
    have h1 := powT_len a h n
    have h2 := trim_len (mulL (powT a n) a)
    have h3 := len_mul (powT a n) a
    have e : (n + 1) * L = n * L + L := Nat.succ_mul n L
    show (trimL (mulL (powT a n) a)).length ≤ _
    omega
theorem powT_sz (a : List Int) {B L : Nat} (hs : SzL B a) (h : a.length ≤ L) : ∀ n, SzL (n * (B + n * L + 1) + 1) (powT a n)
  | 0 => SzL.one (by rw [Nat.zero_mul]; decide)
  | n + 1 => by
    have ih := powT_sz a hs h n
    have hl := powT_len a h n
    have e := (SzL.mul ih hs).trim
    refine e.up ?_
    have e1 : (n + 1) * (B + (n + 1) * L + 1) = n * (B + (n + 1) * L + 1) + (B + (n + 1) * L + 1) := Nat.succ_mul n _
    have e2 : n * (B + n * L + 1) ≤ n * (B + (n + 1) * L + 1) := Nat.mul_le_mul_left n (by rw [Nat.succ_mul]; omega)
    have e3 : (n + 1) * L = n * L + L := Nat.succ_mul n L
    omega
def ph_mul2 (C : Addr) : Ph := fun ds q _ => ∃ (a b : List Int) (d : Dt) (B : Nat), ds = [polD C a, d] ∧ Oth C d b ∧ (a.length ≤ 900 ∧ b.length ≤ 900 ∧ SzL B a ∧ SzL B b ∧ B ≤ 400000) ∧ q (polD C (trimL (mulL a b)))
abbrev ph_Poly___mul__ := ph_mul2
abbrev ph_Poly___rmul__ := ph_mul2
theorem u_mul2I {C : Addr} {a : List Int} {i : Int} {B : Nat} {q : Dt → Prop} {x : XD} (h : a.length ≤ 900 ∧ SzL B a ∧ i.natAbs < 2 ^ B ∧ B ≤ 400000) (p : q (polD C (trimL (mulL a (trimL [i]))))) : ph_mul2 C [polD C a, .int i] q x :=
  ⟨a, trimL [i], _, B, rfl, .inr ⟨i, rfl, rfl⟩, ⟨h.1, Nat.le_trans (trim_len _) (show 1 ≤ 900 by decide), h.2.1, (SzL.one h.2.2.1).trim, h.2.2.2⟩, p⟩
theorem u_Poly___mul__ {C : Addr} {a b : List Int} {B : Nat} {q : Dt → Prop} {x : XD} (h : a.length ≤ 900 ∧ b.length ≤ 900 ∧ SzL B a ∧ SzL B b ∧ B ≤ 400000) (p : q (polD C (trimL (mulL a b)))) : ph_Poly___mul__ C [polD C a, polD C b] q x := ⟨a, b, _, B, rfl, .inl rfl, h, p⟩
theorem u_Poly___mul__I {C : Addr} {a : List Int} {i : Int} {B : Nat} {q : Dt → Prop} {x : XD} (h : a.length ≤ 900 ∧ SzL B a ∧ i.natAbs < 2 ^ B ∧ B ≤ 400000) (p : q (polD C (trimL (mulL a (trimL [i]))))) : ph_Poly___mul__ C [polD C a, .int i] q x := u_mul2I h p
theorem u_Poly___rmul__I {C : Addr} {a : List Int} {i : Int} {B : Nat} {q : Dt → Prop} {x : XD} (h : a.length ≤ 900 ∧ SzL B a ∧ i.natAbs < 2 ^ B ∧ B ≤ 400000) (p : q (polD C (trimL (mulL a (trimL [i]))))) : ph_Poly___rmul__ C [polD C a, .int i] q x := u_mul2I h p
def ph_Poly___pow__ (C : Addr) : Ph := fun ds q _ => ∃ (a : List Int) (n B L : Nat), ds = [polD C a, .int (n : Int)] ∧ (SzL B a ∧ a.length ≤ L ∧ n * L ≤ 880 ∧ n ≤ 100 ∧ B ≤ 4000) ∧ q (polD C (powT a n))
theorem u_Poly___pow__I {C : Addr} {a : List Int} {n B L : Nat} {q : Dt → Prop} {x : XD} (h : SzL B a ∧ a.length ≤ L ∧ n * L ≤ 880 ∧ n ≤ 100 ∧ B ≤ 4000) (p : q (polD C (powT a n))) : ph_Poly___pow__ C [polD C a, .int (n : Int)] q x := ⟨a, n, B, L, rfl, h, p⟩
theorem mul_single (i : Int) : ∀ (a : List Int) (k : Nat), cf (mulL a [i]) k = i * cf a k
  | [], k => by simp [mulL]
  | x :: a, 0 => by rw [cf_mul_cons]; simp [Int.mul_comm]
  | x :: a, k + 1 => by rw [cf_mul_cons, if_neg (Nat.succ_ne_zero k), Nat.add_sub_cancel, mul_single i a k]; simp
theorem mul_int (i : Int) (a : List Int) : trimL (mulL a (trimL [i])) = trimL (scL i a) := by
  rw [mul_trim]
  exact trim_ext fun k => by rw [mul_single, cf_sc]
theorem mul_comm_trim (a b : List Int) : trimL (mulL a b) = trimL (mulL b a) := trim_ext (mul_comm' a b)
theorem pair_ok {l : List Int} {m : Nat} (h : l.length ≤ m) (hm : m ≤ 90000) : Tr (trimL l) ∧ (trimL l).length ≤ 90000 := ⟨tr_trim _, Nat.le_trans (trim_len _) (by omega)⟩
/-! values -/
def tv (p q : Int) : List Int → Int
  | [] => 0
  | x :: r => tv p q r * p + x * q ^ r.length
theorem tv_snoc (p q x : Int) : ∀ l : List Int, tv p q (l ++ [x]) = tv p q l * q + x * p ^ l.length
  | [] => by simp [tv]
  | y :: l => by
    rw [List.cons_append]
    show tv p q (l ++ [x]) * p + y * q ^ (l ++ [x]).length = (tv p q l * p + y * q ^ l.length) * q + x * p ^ (l.length + 1)
    rw [tv_snoc p q x l, List.length_append, List.length_singleton, Int.pow_succ, Int.pow_succ]
    generalize tv p q l = t
    generalize q ^ l.length = u
    generalize p ^ l.length = v
    grind
theorem pow_sz {q : Int} {B : Nat} (h : q.natAbs < 2 ^ B) : ∀ k : Nat, (q ^ k).natAbs < 2 ^ (B * k + 1)
  | 0 => by simp
  | k + 1 => by
    rw [Int.pow_succ, Int.natAbs_mul]
    have ih := pow_sz h k
    rw [show B * (k + 1) + 1 = (B * k + 1) + B by rw [Nat.mul_succ]; omega, Nat.pow_add]
    exact Nat.mul_lt_mul'' ih h
theorem tv_sz {p q : Int} {A B : Nat} (hp : p.natAbs < 2 ^ B) (hq : q.natAbs < 2 ^ B) : ∀ {l : List Int}, SzL A l → (tv p q l).natAbs < 2 ^ (A + (B + 2) * l.length + 1)
  | [], _ => Nat.pow_pos (by decide)
  | x :: r, hl => by
    have ih := tv_sz hp hq (l := r) (A := A) fun u hu => hl u (List.mem_cons_of_mem _ hu)
    have h1 := sz_mul ih hp
    have h2 := sz_mul (hl x List.mem_cons_self) (pow_sz hq r.length)
    have h3 := sz_add2 h1 h2
    refine sz_up h3 ?_
    rw [List.length_cons, Nat.mul_succ]
    have : B * r.length ≤ (B + 2) * r.length := Nat.mul_le_mul_right _ (by omega)
    omega
def valR (l : List Int) (r : Int × Int) : Int × Int := mkR (tv r.1 r.2 l * r.2) (r.2 ^ l.length)
theorem drop_cf : ∀ {l : List Int} {i : Nat}, i < l.length → l.drop i = cf l i :: l.drop (i + 1)
  | [], i, h => by simp at h
  | x :: l, 0, _ => by simp
  | x :: l, i + 1, h => by
    rw [List.drop_succ_cons, cf_succ, List.drop_succ_cons]
    exact drop_cf (by simpa using h)
theorem tv_one : ∀ l : List Int, tv 1 1 l = l.sum
  | [] => rfl
  | x :: l => by
    show tv 1 1 l * 1 + x * 1 ^ l.length = _
    rw [tv_one l, Int.one_pow, List.sum_cons]
    omega
theorem mkR_1 (n : Int) : mkR n 1 = (n, 1) := mkR_self (r := (n, 1)) ⟨Int.le_refl 1, by simp⟩
theorem pow_pos' {q : Int} (h : 1 ≤ q) : ∀ k : Nat, 1 ≤ q ^ k
  | 0 => by simp
  | k + 1 => by
    rw [Int.pow_succ]
    have := pow_pos' h k
    exact Int.le_trans h (by have := Int.mul_le_mul_of_nonneg_right this (show 0 ≤ q by omega); omega)
def ph_value_of : Ph := fun ds q _ => ∃ (l : List Int) (r : Int × Int) (A B : Nat), ds = [iT l, ratD r] ∧ (SzL A l ∧ SzR B r ∧ A + (B + 2) * (l.length + 1) ≤ 400000) ∧ q (ratD (tv r.1 r.2 l * r.2, r.2 ^ l.length))
theorem u_value_of {l : List Int} {r : Int × Int} {A B : Nat} {q : Dt → Prop} {x : XD} (h : SzL A l ∧ SzR B r ∧ A + (B + 2) * (l.length + 1) ≤ 400000) (p : q (ratD (tv r.1 r.2 l * r.2, r.2 ^ l.length))) : ph_value_of [iT l, ratD r] q x := ⟨l, r, A, B, rfl, h, p⟩
def ph_Poly___call__ (C : Addr) : Ph := fun ds q _ => ∃ (l : List Int) (r : Int × Int) (A B : Nat), ds = [polD C l, ratD r] ∧ (SzL A l ∧ SzR B r ∧ 1 ≤ r.2 ∧ A + (B + 2) * (l.length + 1) ≤ 8000) ∧ q (ratD (valR l r))
theorem u_Poly___call__ {C : Addr} {l : List Int} {r : Int × Int} {A B : Nat} {q : Dt → Prop} {x : XD} (h : SzL A l ∧ SzR B r ∧ 1 ≤ r.2 ∧ A + (B + 2) * (l.length + 1) ≤ 8000) (p : q (ratD (valR l r))) : ph_Poly___call__ C [polD C l, ratD r] q x := ⟨l, r, A, B, rfl, h, p⟩
def ph__law_value : Ph := fun ds q _ => ∃ (l : List Int) (r : Int × Int) (A B : Nat), ds = [iL l, ratD r] ∧ (SzL A l ∧ SzR B r ∧ 1 ≤ r.2 ∧ A + (B + 2) * (l.length + 1) ≤ 8000) ∧ q (ratD (valR l r))
theorem u__law_value {l : List Int} {r : Int × Int} {A B : Nat} {q : Dt → Prop} {x : XD} (h : SzL A l ∧ SzR B r ∧ 1 ≤ r.2 ∧ A + (B + 2) * (l.length + 1) ≤ 8000) (p : q (ratD (valR l r))) : ph__law_value [iL l, ratD r] q x := ⟨l, r, A, B, rfl, h, p⟩
/-! derivatives -/
def derL (a : List Int) : List Int := ((List.range a.length).map fun k => ((k : Nat) : Int) * cf a k).drop 1
theorem enum_ints (a : List Int) : enumD 0 (a.map .int) = (List.range a.length).map fun i => Dt.tup [.int ((i : Nat) : Int), .int (cf a i)] := by
  refine List.ext_getElem? fun i => ?_
  unfold enumD
  rw [List.getElem?_mapIdx, List.getElem?_map, List.getElem?_map]
  by_cases h : i < a.length
  · rw [cf_lt h, List.getElem?_range h]
    simp
  · rw [List.getElem?_eq_none (by omega), List.getElem?_eq_none (by simp; omega)]
    rfl
theorem cut_from {xs : List Dt} {s : Nat} : cutD xs (some (s : Int)) none = xs.drop s := by
  unfold cutD
  rw [HT.sIx_none, HT.sIx_nat]
  by_cases h : s ≤ xs.length
  · rw [Nat.min_eq_left h, List.take_of_length_le (by rw [List.length_drop]; exact Nat.le_refl _)]
  · rw [Nat.min_eq_right (by omega), List.drop_length, List.drop_of_length_le (by omega), List.take_nil]
theorem tr_of_last {l : List Int} (h : l = [] ∨ cf l (l.length - 1) ≠ 0) : Tr l := by
  have := take_trim (s := l.length) (l := l) (Nat.le_refl _) (fun i hi => cf_ge hi) (by
    rcases h with h | h
    · exact .inl (by rw [h]; rfl)
    · exact .inr h)
  rw [List.take_length] at this
  exact this.symm
theorem derL_len (a : List Int) : (derL a).length = a.length - 1 := by simp [derL]
theorem derL_get {a : List Int} {i : Nat} (h : i + 1 < a.length) : cf (derL a) i = ((i + 1 : Nat) : Int) * cf a (i + 1) := by
  have e : (derL a)[i]? = some (((i + 1 : Nat) : Int) * cf a (i + 1)) := by
    unfold derL
    rw [List.getElem?_drop, Nat.add_comm 1 i, List.getElem?_map, List.getElem?_range h]
    rfl
  unfold cf at e ⊢
  rw [List.getD_eq_getElem?_getD, e]
  rfl
theorem derL_tr {a : List Int} (h : Tr a) : Tr (derL a) := by
  by_cases h1 : a.length ≤ 1
  · exact tr_of_last (.inl (List.eq_nil_of_length_eq_zero (by rw [derL_len]; omega)))
  · refine tr_of_last (.inr ?_)
    rw [derL_len, derL_get (by omega)]
    have := tr_last h (by intro z; rw [z] at h1; simp at h1)
    rw [show a.length - 1 - 1 + 1 = a.length - 1 by omega]
    exact Int.mul_ne_zero (by omega) this
theorem range_der (a : List Int) : ((List.range (a.length - 1)).map fun i => (1 + ((i : Nat) : Int)) * cf a (1 + i)) = derL a := by
  refine List.ext_getElem? fun i => ?_
  unfold derL
  rw [List.getElem?_drop, List.getElem?_map, List.getElem?_map]
  by_cases h : i < a.length - 1
  · rw [List.getElem?_range h, List.getElem?_range (by omega)]
    simp
  · rw [List.getElem?_eq_none (by simp; omega), List.getElem?_eq_none (by simp; omega)]
    rfl
theorem derL_sz {a : List Int} {B : Nat} (h : SzL B a) (hl : a.length ≤ 1000) : SzL (10 + B) (derL a) := fun x hx => by
  obtain ⟨k, hk, rfl⟩ := List.mem_map.mp (List.mem_of_mem_drop hx)
  have hk2 := List.mem_range.mp hk
  exact sz_mul (show ((k : Int)).natAbs < 2 ^ 10 by show k < 1024; omega) (h _ (List.mem_of_getElem? (cf_lt hk2)))
def ph_derived : Ph := fun ds q _ => ∃ (l : List Int) (B : Nat), ds = [iT l] ∧ (l.length ≤ 900 ∧ SzL B l ∧ B ≤ 800000) ∧ q (iT (trimL (derL l)))
theorem u_derived {l : List Int} {B : Nat} {q : Dt → Prop} {x : XD} (h : l.length ≤ 900 ∧ SzL B l ∧ B ≤ 800000) (p : q (iT (trimL (derL l)))) : ph_derived [iT l] q x := ⟨l, B, rfl, h, p⟩
def ph_Poly_derivative (C : Addr) : Ph := fun ds q _ => ∃ (l : List Int) (B : Nat), ds = [polD C l] ∧ (l.length ≤ 900 ∧ SzL B l ∧ B ≤ 800000) ∧ q (polD C (trimL (derL l)))
theorem u_Poly_derivative {C : Addr} {l : List Int} {B : Nat} {q : Dt → Prop} {x : XD} (h : l.length ≤ 900 ∧ SzL B l ∧ B ≤ 800000) (p : q (polD C (trimL (derL l)))) : ph_Poly_derivative C [polD C l] q x := ⟨l, B, rfl, h, p⟩
end VS
set_option Elab.async false
set_option linter.all false
set_option maxRecDepth 100000
/-! plain: choices and paths. -/
namespace VS
open PySem PySem.Spec L2
def bin : Nat → Nat → Nat
  | _, 0 => 1
  | 0, _ + 1 => 0
  | n + 1, k + 1 => bin n k + bin n (k + 1)
theorem bin_0 (n : Nat) : bin n 0 = 1 := by cases n <;> rfl
theorem bin_gt : ∀ {n k : Nat}, n < k → bin n k = 0
  | 0, k + 1, _ => rfl
  | n + 1, k + 1, h => by
    show bin n k + bin n (k + 1) = 0
    rw [bin_gt (by omega), bin_gt (by omega)]
theorem bin_self : ∀ n : Nat, bin n n = 1
  | 0 => rfl
  | n + 1 => by
    show bin n n + bin n (n + 1) = 1
    rw [bin_self n, bin_gt (by omega)]
theorem bin_step : ∀ n k : Nat, (bin n k : Int) * ((n : Int) - (k : Int)) = (bin n (k + 1) : Int) * ((k : Int) + 1)
  | 0, 0 => rfl
  | 0, k + 1 => by
    show ((0 : Nat) : Int) * _ = ((0 : Nat) : Int) * _
    simp
  | n + 1, 0 => by
    have h := bin_step n 0
    rw [bin_0] at h
    show ((1 : Nat) : Int) * _ = ((bin n 0 + bin n 1 : Nat) : Int) * _
    rw [bin_0]
    simp only [Nat.zero_add, Int.natCast_add, Int.natCast_one] at h ⊢
    simp at h ⊢
    omega
  | n + 1, k + 1 => by
    have h1 := bin_step n k
    have h2 := bin_step n (k + 1)
    show ((bin n k + bin n (k + 1) : Nat) : Int) * _ = ((bin n (k + 1) + bin n (k + 2) : Nat) : Int) * _
    rw [show k + 1 + 1 = k + 2 from rfl] at h2
    simp only [Int.natCast_add, Int.natCast_one] at h1 h2 ⊢
    generalize (bin n k : Int) = x at *
    generalize (bin n (k + 1) : Int) = y at *
    generalize (bin n (k + 2) : Int) = z at *
    generalize (n : Int) = a at *
    generalize (k : Int) = b at *
    grind
theorem bin_le : ∀ n k : Nat, bin n k ≤ 2 ^ n
  | n, 0 => by rw [bin_0]; exact Nat.one_le_two_pow
  | 0, k + 1 => Nat.zero_le _
  | n + 1, k + 1 => by
    have h1 := bin_le n k
    have h2 := bin_le n (k + 1)
    show bin n k + bin n (k + 1) ≤ 2 ^ (n + 1)
    rw [Nat.pow_succ]; omega
/-- the step of choose -/
theorem bin_div (n k : Nat) : ((bin n k : Int) * ((n : Int) - (k : Int))).fdiv ((k : Int) + 1) = (bin n (k + 1) : Int) := by
  rw [bin_step]
  exact Int.mul_fdiv_cancel _ (by omega)
def sg (k : Nat) : Int := 1 - 2 * ((k : Int) % 2)
theorem sg_succ (k : Nat) : sg (k + 1) = - sg k := by unfold sg; omega
theorem sg_abs (k : Nat) : sg k = 1 ∨ sg k = -1 := by unfold sg; omega
def sgnL (l : Nat) : List Int := (List.range (l + 1)).map fun k => (bin l k : Int) * sg k
def pathL (w l : Nat) : List Int := List.replicate w 0 ++ sgnL l
theorem cf_map {n : Nat} {f : Nat → Int} (i : Nat) : cf ((List.range n).map f) i = if i < n then f i else 0 := by
  unfold cf
  by_cases h : i < n
  · rw [if_pos h, List.getD_eq_getElem?_getD, List.getElem?_map, List.getElem?_range h]; rfl
  · rw [if_neg h, List.getD_eq_getElem?_getD, List.getElem?_map, List.getElem?_eq_none (by rw [List.length_range]; omega)]; rfl
theorem cf_sgn (l i : Nat) : cf (sgnL l) i = (bin l i : Int) * sg i := by
  unfold sgnL
  rw [cf_map]
  by_cases h : i < l + 1
  · rw [if_pos h]
  · rw [if_neg h, bin_gt (by omega)]; simp
theorem len_sgn (l : Nat) : (sgnL l).length = l + 1 := by simp [sgnL]
theorem len_path (w l : Nat) : (pathL w l).length = w + l + 1 := by unfold pathL; rw [List.length_append, List.length_replicate, len_sgn]; omega
theorem cf_path (w l i : Nat) : cf (pathL w l) i = if i < w then 0 else (bin l (i - w) : Int) * sg (i - w) := by
  unfold pathL
  rw [cf_app, List.length_replicate, rep_zero, cf_sgn]
theorem tr_path (w l : Nat) : Tr (pathL w l) := tr_of_last (.inr (by
  rw [len_path, cf_path, if_neg (by omega), show w + l + 1 - 1 - w = l by omega, bin_self]
  rcases sg_abs l with h | h <;> rw [h] <;> decide))
theorem mul_x (a : List Int) (k : Nat) : cf (mulL a [0, 1]) k = if k = 0 then 0 else cf a (k - 1) := by
  rw [mul_comm', cf_mul_cons, Int.zero_mul, Int.zero_add]
  by_cases h : k = 0
  · rw [if_pos h, if_pos h]
  · rw [if_neg h, if_neg h, cf_mul_cons]
    show 1 * cf a (k - 1) + (if k - 1 = 0 then 0 else cf [] (k - 1 - 1)) = _
    rw [cf_nil]; simp
theorem mul_y (a : List Int) (k : Nat) : cf (mulL a [1, -1]) k = cf a k - if k = 0 then 0 else cf a (k - 1) := by
  rw [mul_comm', cf_mul_cons]
  by_cases h : k = 0
  · rw [if_pos h, if_pos h]; omega
  · rw [if_neg h, if_neg h, cf_mul_cons]
    show 1 * cf a k + (-1 * cf a (k - 1) + (if k - 1 = 0 then 0 else cf [] (k - 1 - 1))) = _
    rw [cf_nil]; simp; omega
def pthT (w : Nat) : Nat → List Int
  | 0 => powT [0, 1] w
  | l + 1 => trimL (mulL (pthT w l) [1, -1])
theorem pow_x : ∀ w k : Nat, cf (powT [0, 1] w) k = if k = w then 1 else 0
  | 0, k => by
    show cf [1] k = _
    cases k with
    | zero => rfl
    | succ k => simp [cf]
  | w + 1, k => by
    show cf (trimL (mulL (powT [0, 1] w) [0, 1])) k = _
    rw [cf_trim, mul_x, pow_x w]
    cases k with
    | zero => simp
    | succ k => simp
theorem pth_cf (w : Nat) : ∀ l k : Nat, cf (pthT w l) k = cf (pathL w l) k
  | 0, k => by
    show cf (powT [0, 1] w) k = _
    rw [pow_x, cf_path]
    by_cases h : k < w
    · rw [if_neg (by omega), if_pos h]
    · rw [if_neg h]
      by_cases h2 : k = w
      · rw [if_pos h2, h2, Nat.sub_self]; rfl
      · rw [if_neg h2, bin_gt (by omega)]; simp
  | l + 1, k => by
    show cf (trimL (mulL (pthT w l) [1, -1])) k = _
    rw [cf_trim, mul_y, pth_cf w l, pth_cf w l, cf_path, cf_path, cf_path]
    by_cases h : k < w
    · rw [if_pos h, if_pos h, if_pos (show k - 1 < w by omega)]; split <;> rfl
    · rw [if_neg h, if_neg h]
      by_cases h2 : k = w
      · rw [h2, Nat.sub_self, bin_0, bin_0]
        by_cases h3 : w = 0
        · rw [if_pos h3]; rfl
        · rw [if_neg h3, if_pos (by omega)]; rfl
      · rw [if_neg (show ¬ k = 0 by omega), if_neg (show ¬ k - 1 < w by omega)]
        obtain ⟨j, rfl⟩ : ∃ j, k = w + (j + 1) := ⟨k - w - 1, by omega⟩
        rw [show w + (j + 1) - w = j + 1 by omega, show w + (j + 1) - 1 - w = j by omega, sg_succ]
        show _ = ((bin l j + bin l (j + 1) : Nat) : Int) * _
        rw [Int.natCast_add]
        generalize (bin l j : Int) = x
        generalize (bin l (j + 1) : Int) = y
        generalize sg j = z
        grind
theorem pth_tr (w : Nat) : ∀ l : Nat, Tr (pthT w l)
  | 0 => powT_tr _ _
  | l + 1 => tr_trim _
theorem pth_eq (w l : Nat) : pthT w l = pathL w l := tr_ext (pth_tr w l) (tr_path w l) (pth_cf w l)
theorem pth_pow : ∀ l : Nat, pthT 0 l = powT [1, -1] l
  | 0 => rfl
  | l + 1 => by
    show trimL (mulL (pthT 0 l) [1, -1]) = trimL (mulL (powT [1, -1] l) [1, -1])
    rw [pth_pow l]
theorem cf_ext {a b : List Int} (hl : a.length = b.length) (h : ∀ i, cf a i = cf b i) : a = b := List.ext_getElem? fun i => by
  by_cases hi : i < a.length
  · rw [cf_lt hi, cf_lt (by omega), h]
  · rw [List.getElem?_eq_none (by omega), List.getElem?_eq_none (by omega)]
theorem tv_add (p q : Int) : ∀ (a b : List Int), a.length = b.length → tv p q (addL a b) = tv p q a + tv p q b
  | [], [], _ => rfl
  | x :: a, y :: b, h => by
    have hl : a.length = b.length := by simpa using h
    show tv p q (addL a b) * p + (x + y) * q ^ (addL a b).length = (tv p q a * p + x * q ^ a.length) + (tv p q b * p + y * q ^ b.length)
    rw [tv_add p q a b hl, len_add, ← hl, Nat.max_self]
    generalize tv p q a = s
    generalize tv p q b = t
    generalize q ^ a.length = u
    grind
theorem tv_sc (p q c : Int) : ∀ (a : List Int), tv p q (scL c a) = c * tv p q a
  | [] => by show (0 : Int) = c * 0; simp
  | x :: a => by
    show tv p q (scL c a) * p + c * x * q ^ (scL c a).length = c * (tv p q a * p + x * q ^ a.length)
    rw [tv_sc p q c a, len_sc]
    generalize tv p q a = s
    generalize q ^ a.length = u
    grind
theorem sgn_succ (l : Nat) : sgnL (l + 1) = addL (sgnL l ++ [0]) (scL (-1) (0 :: sgnL l)) := by
  refine cf_ext ?_ fun i => ?_
  · rw [len_add, len_sc, List.length_append, len_sgn, List.length_cons (a := (0 : Int)) (as := sgnL l), len_sgn]; show l + 1 + 1 = max (l + 1 + 1) (l + 1 + 1); omega
  · rw [cf_add, cf_sc, cf_app, cf_sgn, cf_sgn, len_sgn]
    have h0 : (if i < l + 1 then (bin l i : Int) * sg i else cf [0] (i - (l + 1))) = (bin l i : Int) * sg i := by
      by_cases h : i < l + 1
      · rw [if_pos h]
      · rw [if_neg h, bin_gt (by omega), show ([0] : List Int) = List.replicate 1 0 from rfl, rep_zero]; simp
    rw [h0]
    cases i with
    | zero => rw [bin_0, bin_0]; rfl
    | succ j =>
      rw [show cf (0 :: sgnL l) (j + 1) = cf (sgnL l) j from by simp [cf], cf_sgn, sg_succ]
      show ((bin l j + bin l (j + 1) : Nat) : Int) * _ = _
      rw [Int.natCast_add]
      generalize (bin l j : Int) = x
      generalize (bin l (j + 1) : Int) = y
      generalize sg j = z
      grind
theorem tv_sgn (p q : Int) : ∀ l : Nat, tv p q (sgnL l) = (q - p) ^ l
  | 0 => by show 0 * p + 1 * q ^ 0 = _; simp
  | l + 1 => by
    rw [sgn_succ, tv_add _ _ _ _ (by rw [len_sc, List.length_append, List.length_cons]; rfl), tv_sc, tv_snoc, tv_sgn p q l]
    show _ + -1 * (tv p q (sgnL l) * p + 0 * _) = _
    rw [tv_sgn p q l, Int.pow_succ]
    generalize (q - p) ^ l = s
    grind
theorem tv_path (p q : Int) : ∀ w l : Nat, tv p q (pathL w l) = p ^ w * (q - p) ^ l
  | 0, l => by show tv p q (sgnL l) = _; rw [tv_sgn]; simp
  | w + 1, l => by
    show tv p q (pathL w l) * p + 0 * _ = _
    rw [tv_path p q w l, Int.pow_succ]
    generalize (q - p) ^ l = s
    generalize p ^ w = t
    grind
/-- the value of a path at a share -/
theorem val_path {r : Int × Int} (h : 1 ≤ r.2) (w l : Nat) : (valR (pathL w l) r).2 * (r.1 ^ w * (r.2 - r.1) ^ l) = (valR (pathL w l) r).1 * (r.2 ^ w * r.2 ^ l) := by
  have hp := pow_pos' h (pathL w l).length
  have e := (mkR_spec (n := tv r.1 r.2 (pathL w l) * r.2) (d := r.2 ^ (pathL w l).length) (by omega)).2
  unfold valR
  generalize mkR (tv r.1 r.2 (pathL w l) * r.2) (r.2 ^ (pathL w l).length) = m at *
  rw [tv_path, len_path, Int.pow_succ, Int.pow_add] at e
  refine Int.eq_of_mul_eq_mul_right (show r.2 ≠ 0 by omega) ?_
  generalize r.1 ^ w * (r.2 - r.1) ^ l = s at *
  generalize r.2 ^ w * r.2 ^ l = t at *
  grind
def tot (n : Nat) : Nat → List Int
  | 0 => []
  | k + 1 => trimL (addL (tot n k) (trimL (mulL (pathL k (n - k)) (trimL [(bin n k : Int)]))))
theorem tot_one : ∀ n, n < 13 → tot n (n + 1) = [1] := by decide +kernel
def orL (n : Nat) : List Int := (List.range (n + 1)).map fun k => (bin n k : Int)
theorem cf_or (n i : Nat) : cf (orL n) i = (bin n i : Int) := by
  unfold orL
  rw [cf_map]
  by_cases h : i < n + 1
  · rw [if_pos h]
  · rw [if_neg h, bin_gt (by omega)]; rfl
theorem len_or (n : Nat) : (orL n).length = n + 1 := by simp [orL]
theorem or_succ (n : Nat) : [1] ++ ((List.range n).map fun j => cf (orL n) j + cf (orL n) (j + 1)) ++ [1] = orL (n + 1) := by
  refine cf_ext (by simp [orL]) fun i => ?_
  rw [cf_or, cf_app, cf_app, cf_map]
  simp only [List.length_append, List.length_singleton, List.length_map, List.length_range]
  cases i with
  | zero => rw [if_pos (by omega), if_pos (by omega), bin_0]; rfl
  | succ j =>
    rw [if_neg (show ¬ j + 1 < 1 by omega), Nat.add_sub_cancel, cf_or, cf_or]
    show _ = ((bin n j + bin n (j + 1) : Nat) : Int)
    rw [Int.natCast_add]
    by_cases h : j < n
    · rw [if_pos (by omega), if_pos h]
    · rw [if_neg (by omega), bin_gt (show n < j + 1 by omega)]
      by_cases h2 : j = n
      · rw [h2, bin_self, show n + 1 - (1 + n) = 0 by omega]; rfl
      · rw [bin_gt (show n < j by omega), cf_ge (by show 1 ≤ _; omega)]; rfl
theorem sz_sgn (l : Nat) : SzL (l + 1) (sgnL l) := fun x hx => by
  obtain ⟨k, _, rfl⟩ := List.mem_map.mp hx
  have := bin_le l k
  rw [Nat.pow_succ]
  have h2 : 0 < 2 ^ l := Nat.two_pow_pos l
  rcases sg_abs k with h | h <;> rw [h] <;> omega
theorem sz_path (w l : Nat) : SzL (l + 1) (pathL w l) := fun x hx => by
  rcases List.mem_append.mp hx with h | h
  · rw [(List.mem_replicate.mp h).2]; exact Nat.two_pow_pos _
  · exact sz_sgn l x h
def ph_choose : Ph := fun ds q _ => ∃ n k : Nat, ds = [.int (n : Int), .int (k : Int)] ∧ (k ≤ n ∧ n ≤ 1000) ∧ q (.int (bin n k : Int))
theorem u_choose {n k : Nat} {q : Dt → Prop} {x : XD} (h : k ≤ n ∧ n ≤ 1000) (p : q (.int (bin n k : Int))) : ph_choose [.int (n : Int), .int (k : Int)] q x := ⟨n, k, rfl, h, p⟩
def ph_path_coefs : Ph := fun ds q _ => ∃ w l : Nat, ds = [.int (w : Int), .int (l : Int)] ∧ (w ≤ 1000 ∧ l ≤ 1000) ∧ q (iT (pathL w l))
theorem u_path_coefs {w l : Nat} {q : Dt → Prop} {x : XD} (h : w ≤ 1000 ∧ l ≤ 1000) (p : q (iT (pathL w l))) : ph_path_coefs [.int (w : Int), .int (l : Int)] q x := ⟨w, l, rfl, h, p⟩
def ph_Poly_path (C : Addr) : Ph := fun ds q _ => ∃ w l : Nat, ds = [.adr C, .int (w : Int), .int (l : Int)] ∧ (w ≤ 1000 ∧ l ≤ 1000) ∧ q (polD C (pathL w l))
theorem u_Poly_path {C : Addr} {w l : Nat} {q : Dt → Prop} {x : XD} (h : w ≤ 1000 ∧ l ≤ 1000) (p : q (polD C (pathL w l))) : ph_Poly_path C [.adr C, .int (w : Int), .int (l : Int)] q x := ⟨w, l, rfl, h, p⟩
def ph_Poly_degree (C : Addr) : Ph := fun ds q _ => ∃ l : List Int, ds = [polD C l] ∧ l.length ≤ 100000 ∧ q (.int ((l.length : Int) - 1))
theorem u_Poly_degree {C : Addr} {l : List Int} {q : Dt → Prop} {x : XD} (h : l.length ≤ 100000) (p : q (.int ((l.length : Int) - 1))) : ph_Poly_degree C [polD C l] q x := ⟨l, rfl, h, p⟩
def ph__law_path : Ph := fun ds q _ => ∃ w l : Nat, ds = [.int (w : Int), .int (l : Int)] ∧ (w ≤ 100 ∧ l ≤ 100) ∧ q (iL (pathL w l))
theorem u__law_path {w l : Nat} {q : Dt → Prop} {x : XD} (h : w ≤ 100 ∧ l ≤ 100) (p : q (iL (pathL w l))) : ph__law_path [.int (w : Int), .int (l : Int)] q x := ⟨w, l, rfl, h, p⟩
def ph__law_orders : Ph := fun ds q _ => ∃ n : Nat, ds = [.int (n : Int)] ∧ n ≤ 100 ∧ q (iL (orL n))
theorem u__law_orders {n : Nat} {q : Dt → Prop} {x : XD} (h : n ≤ 100) (p : q (iL (orL n))) : ph__law_orders [.int (n : Int)] q x := ⟨n, rfl, h, p⟩
end VS
set_option Elab.async false
set_option linter.all false
set_option maxRecDepth 100000
/-! plain: exact quotients. -/
namespace VS
open PySem PySem.Spec L2
theorem mul_top {a b : List Int} (ha : a ≠ []) (hb : b ≠ []) : cf (mulL a b) (a.length - 1 + (b.length - 1)) = cf a (a.length - 1) * cf b (b.length - 1) := by
  obtain ⟨l, x, rfl⟩ : ∃ l x, a = l ++ [x] := ⟨a.dropLast, a.getLast ha, (List.dropLast_concat_getLast ha).symm⟩
  have hb' : 0 < b.length := List.length_pos_iff.mpr hb
  rw [List.length_append, List.length_singleton, Nat.add_sub_cancel, mul_snoc, mul_beyond l b _ (by omega), if_pos (by omega), Int.zero_add, cf_app, if_neg (by omega), Nat.sub_self, Nat.add_sub_cancel_left]
  rfl
theorem mul_take (a b : List Int) (k i : Nat) : cf (mulL (a.take (k + 1)) b) i = cf (mulL (a.take k) b) i + if k ≤ i then cf a k * cf b (i - k) else 0 := by
  by_cases h : k < a.length
  · rw [take_succ' (cf_lt h), mul_snoc, List.length_take, Nat.min_eq_left (Nat.le_of_lt h)]
  · rw [List.take_of_length_le (by omega), List.take_of_length_le (by omega), cf_ge (l := a) (i := k) (by omega)]
    simp
theorem mul_set (b : List Int) : ∀ (w : List Int) (k : Nat) (t : Int) (i : Nat), k < w.length → cf (mulL (w.set k t) b) i = cf (mulL w b) i + if k ≤ i then (t - cf w k) * cf b (i - k) else 0
  | [], k, t, i, h => by simp at h
  | x :: w, 0, t, i, _ => by
    rw [List.set_cons_zero, cf_mul_cons, cf_mul_cons, if_pos (Nat.zero_le _), Nat.sub_zero]
    show _ = _ + (t - x) * cf b i
    rw [Int.sub_mul]
    omega
  | x :: w, k + 1, t, i, h => by
    rw [List.set_cons_succ, cf_mul_cons, cf_mul_cons]
    have hk : k < w.length := by simpa using h
    cases i with
    | zero => simp
    | succ i =>
      rw [if_neg (by omega), if_neg (by omega), Nat.add_sub_cancel, mul_set b w k t i hk]
      show _ + (_ + _) = _ + if k + 1 ≤ i + 1 then (t - cf w k) * cf b (i + 1 - (k + 1)) else 0
      by_cases h2 : k ≤ i
      · rw [if_pos h2, if_pos (by omega), show i + 1 - (k + 1) = i - k by omega]
        omega
      · rw [if_neg h2, if_neg (by omega)]
        omega
theorem mul_addl (b : List Int) : ∀ (x y : List Int) (k : Nat), cf (mulL (addL x y) b) k = cf (mulL x b) k + cf (mulL y b) k
  | [], y, k => by simp [addL, mulL, cf]
  | x :: xs, [], k => by simp [addL, mulL, cf]
  | x :: xs, y :: ys, k => by
    show cf (mulL ((x + y) :: addL xs ys) b) k = _
    rw [cf_mul_cons, cf_mul_cons, cf_mul_cons, Int.add_mul]
    cases k with
    | zero => simp
    | succ k =>
      rw [if_neg (by omega), if_neg (by omega), if_neg (by omega), Nat.add_sub_cancel, mul_addl b xs ys k]
      omega
theorem mul_scl (b : List Int) (c : Int) : ∀ (x : List Int) (k : Nat), cf (mulL (scL c x) b) k = c * cf (mulL x b) k
  | [], k => by simp [scL, mulL, cf]
  | x :: xs, k => by
    show cf (mulL ((c * x) :: scL c xs) b) k = _
    rw [cf_mul_cons, cf_mul_cons, Int.mul_add, Int.mul_assoc]
    cases k with
    | zero => simp
    | succ k => rw [if_neg (by omega), if_neg (by omega), Nat.add_sub_cancel, mul_scl b c xs k]
theorem mul_extl {a b c : List Int} (h : ∀ k, cf a k = cf c k) (k : Nat) : cf (mulL a b) k = cf (mulL c b) k := by
  rw [mul_comm' a b, mul_comm' c b]
  exact mul_ext h k
theorem tr_of {l : List Int} (h : l = [] ∨ cf l (l.length - 1) ≠ 0) : Tr l := by
  have := take_trim (s := l.length) (l := l) (Nat.le_refl _) (fun i hi => cf_ge hi) (by
    rcases h with h | h
    · exact .inl (by rw [h]; rfl)
    · exact .inr h)
  rw [List.take_length] at this
  exact this.symm
/-- a product that is too short -/
theorem mul_short {b z : List Int} (hb : Tr b) (hn : b ≠ []) {e : List Int} (he : e.length ≤ b.length - 1) (h : ∀ i, cf e i = cf (mulL z b) i) : ∀ i, cf z i = 0 := by
  rw [← trim_nil_iff]
  apply Classical.byContradiction
  intro hz
  have ht := tr_last (tr_trim z) hz
  have hbt := tr_last hb hn
  have hm := mul_top hz hn
  rw [mul_extl (cf_trim z), ← h, cf_ge (by omega)] at hm
  exact Int.mul_ne_zero ht hbt hm.symm
theorem mul_cancel {b x y : List Int} (hb : Tr b) (hn : b ≠ []) (h : ∀ i, cf (mulL x b) i = cf (mulL y b) i) : ∀ i, cf x i = cf y i := by
  have := mul_short (z := subL x y) (e := []) hb hn (Nat.zero_le _) (fun i => by
    unfold subL
    rw [mul_addl, mul_scl, h i]
    simp [cf]
    omega)
  intro i
  have q := this i
  unfold subL at q
  rw [cf_add, cf_sc] at q
  omega
def IsQ (a b q : List Int) : Prop := ∀ i, cf a i = cf (mulL q b) i
theorem q_len {a b q : List Int} (hq : Tr q) (hb : Tr b) (hn : b ≠ []) (h : IsQ a b q) : q.length ≤ a.length + 1 - b.length := by
  by_cases hz : q = []
  · rw [hz]; exact Nat.zero_le _
  · have ht := tr_last hq hz
    have hbt := tr_last hb hn
    have hm := mul_top hz hn
    rw [← h] at hm
    have hi : q.length - 1 + (b.length - 1) < a.length := by
      apply Classical.byContradiction
      intro hc
      rw [cf_ge (by omega)] at hm
      exact Int.mul_ne_zero ht hbt hm.symm
    have := List.length_pos_iff.mpr hz
    have := List.length_pos_iff.mpr hn
    omega
theorem q_top {r b q : List Int} {k : Nat} (hn : b ≠ []) (h : ∀ i, cf r i = cf (mulL (q.take (k + 1)) b) i) : cf r (k + b.length - 1) = cf q k * cf b (b.length - 1) := by
  have := List.length_pos_iff.mpr hn
  rw [h, mul_take, mul_beyond, if_pos (by omega), Int.zero_add, show k + b.length - 1 - k = b.length - 1 by omega]
  have := List.length_take_le k q
  omega
/-! sizes in the division -/
theorem fdiv_sz {t l : Int} {B : Nat} (h : t.natAbs < 2 ^ B) (hd : t.fmod l = 0) (hl : l ≠ 0) : (t.fdiv l).natAbs < 2 ^ B := by
  have e := Int.fmod_add_fdiv_mul t l
  rw [hd, Int.zero_add] at e
  refine Nat.lt_of_le_of_lt ?_ h
  conv => rhs; rw [← e]
  rw [Int.natAbs_mul]
  exact Nat.le_mul_of_pos_right _ (by omega)
theorem fdiv_ex {t q l : Int} (h : t = q * l) (hl : l ≠ 0) : t.fmod l = 0 ∧ t.fdiv l = q := by
  rw [h]
  exact ⟨by rw [Int.mul_fmod_left], Int.mul_fdiv_cancel _ hl⟩
theorem cf_sz {l : List Int} {M : Nat} (h : SzL M l) (i : Nat) : (cf l i).natAbs < 2 ^ M := by
  by_cases hi : i < l.length
  · exact h _ (List.mem_of_getElem? (cf_lt hi))
  · rw [cf_ge (by omega)]
    exact Nat.pow_pos (by decide)
theorem szl_cf {l : List Int} {M : Nat} (h : ∀ i, (cf l i).natAbs < 2 ^ M) : SzL M l := fun x hx => by
  obtain ⟨i, hi, e⟩ := List.mem_iff_getElem.mp hx
  have := h i
  have e2 := cf_lt hi
  rw [List.getElem?_eq_getElem hi, e] at e2
  rw [← Option.some.inj e2] at this
  exact this
theorem down_nat {i : Int} {n : Nat} (h : n = (i + 1).toNat) : downD i (i - -1).toNat = (List.range n).map fun s => Dt.int ((n - 1 - s : Nat) : Int) := by
  unfold downD
  rw [show (i - -1).toNat = n by omega]
  refine List.map_congr_left fun s hs => ?_
  rw [List.mem_range] at hs
  congr 1
  omega
theorem zmul_zero {w : List Int} (b : List Int) (h : ∀ i, cf w i = 0) (i : Nat) : cf (mulL w b) i = 0 := by
  rw [mul_extl (c := []) (fun k => by rw [h k]; rfl)]
  rfl
theorem any_ne (r : List Int) : (r.map fun x => !decide (x = 0)).any id = false ↔ ∀ i, cf r i = 0 := by
  rw [← Bool.not_eq_true, List.any_eq_true]
  constructor
  · intro h i
    apply Classical.byContradiction
    intro hz
    have hi : i < r.length := by
      apply Classical.byContradiction
      intro hc
      exact hz (cf_ge (by omega))
    exact h ⟨true, List.mem_map.mpr ⟨cf r i, List.mem_of_getElem? (cf_lt hi), by rw [decide_eq_false hz]; rfl⟩, rfl⟩
  · rintro h ⟨x, hx, rfl⟩
    obtain ⟨y, hy, e⟩ := List.mem_map.mp hx
    obtain ⟨i, hi, e2⟩ := List.mem_iff_getElem.mp hy
    have e3 := cf_lt hi
    rw [List.getElem?_eq_getElem hi, e2, h i] at e3
    rw [Option.some.inj e3] at e
    cases e
def ph_quotient : Ph := fun ds q _ => ∃ (a b : List Int) (A B : Nat), ds = [iT a, iT b] ∧ (a.length ≤ 900 ∧ b.length ≤ 900 ∧ Tr b ∧ SzL A a ∧ SzL B b ∧ B ≤ 8000 ∧ A + (a.length + 2) * (B + 1) ≤ 800000) ∧ (∀ z, b ≠ [] → Tr z → IsQ a b z → q (iT z)) ∧ ((b = [] ∨ ∀ z, Tr z → ¬ IsQ a b z) → q .non)
def ph_Poly___floordiv__ (C N : Addr) : Ph := fun ds q x => ∃ (a b : List Int) (d : Dt) (A B : Nat), ds = [polD C a, d] ∧ Oth C d b ∧ (a.length ≤ 900 ∧ b.length ≤ 900 ∧ Tr b ∧ SzL A a ∧ SzL B b ∧ B ≤ 8000 ∧ A + (a.length + 2) * (B + 1) ≤ 800000) ∧ (∀ z, b ≠ [] → Tr z → IsQ a b z → q (polD C z)) ∧ ((b = [] ∨ ∀ z, Tr z → ¬ IsQ a b z) → x N [] [])
/-- all that a division wants -/
def QOk (a b : List Int) : Prop := ∃ A B, a.length ≤ 900 ∧ b.length ≤ 900 ∧ Tr b ∧ SzL A a ∧ SzL B b ∧ B ≤ 8000 ∧ A + (a.length + 2) * (B + 1) ≤ 800000
theorem QOk.of {a b : List Int} {A B : Nat} (h1 : a.length ≤ 100) (h2 : b.length ≤ 100) (h3 : Tr b) (h4 : SzL A a) (h5 : SzL B b) (hA : A ≤ 4000) (hB : B ≤ 4000) : QOk a b := by
  refine ⟨A, B, by omega, by omega, h3, h4, h5, by omega, ?_⟩
  have h : (a.length + 2) * (B + 1) ≤ 102 * 4001 := Nat.mul_le_mul (by omega) (by omega)
  omega
theorem u_Poly___floordiv__ {C N : Addr} {a b z : List Int} {q : Dt → Prop} {x : XD} (h : QOk a b ∧ b ≠ [] ∧ Tr z ∧ IsQ a b z) (p : q (polD C z)) : ph_Poly___floordiv__ C N [polD C a, polD C b] q x := by
  obtain ⟨⟨A, B, h0⟩, h1, h2, h3⟩ := h
  refine ⟨a, b, _, A, B, rfl, .inl rfl, h0, fun z' _ t' q' => ?_, fun hx => ?_⟩
  · have e : z' = z := tr_ext t' h2 (mul_cancel h0.2.2.1 h1 fun i => by rw [← q' i, ← h3 i])
    rw [e]
    exact p
  · rcases hx with hx | hx
    · exact absurd hx h1
    · exact absurd h3 (hx z h2)
theorem u_Poly___floordiv__I {C N : Addr} {a b z : List Int} {i : Int} {q : Dt → Prop} {x : XD} (h : b = trimL [i] ∧ QOk a b ∧ b ≠ [] ∧ Tr z ∧ IsQ a b z) (p : q (polD C z)) : ph_Poly___floordiv__ C N [polD C a, .int i] q x := by
  obtain ⟨hb, ⟨A, B, h0⟩, h1, h2, h3⟩ := h
  refine ⟨a, b, _, A, B, rfl, .inr ⟨i, rfl, hb⟩, h0, fun z' _ t' q' => ?_, fun hx => ?_⟩
  · have e : z' = z := tr_ext t' h2 (mul_cancel h0.2.2.1 h1 fun i => by rw [← q' i, ← h3 i])
    rw [e]
    exact p
  · rcases hx with hx | hx
    · exact absurd hx h1
    · exact absurd h3 (hx z h2)
/-! what the law of quotients asks -/
theorem cut_take {xs : List Int} {m : Nat} : cutD (xs.map Dt.int) none (some (m : Int)) = (xs.take m).map Dt.int := by
  unfold cutD
  rw [HT.sIx_none, HT.sIx_nat, List.drop_zero, Nat.sub_zero, List.length_map, List.map_take]
  by_cases h : m ≤ xs.length
  · rw [Nat.min_eq_left h]
  · rw [Nat.min_eq_right (by omega), List.take_of_length_le (by rw [List.length_map]; exact Nat.le_refl _), List.take_of_length_le (by rw [List.length_map]; omega)]
theorem q_mul (a b : List Int) : IsQ (trimL (mulL a b)) b a := fun i => cf_trim _ i
theorem q_extra {a b e : List Int} (tb : Tr b) (hn : b ≠ []) (te : Tr e) (he : e ≠ []) (hl : e.length ≤ b.length - 1) : ∀ z, Tr z → ¬ IsQ (trimL (addL (trimL (mulL a b)) e)) b z := fun z tz hz => by
  have h : ∀ i, cf e i = cf (mulL (subL z a) b) i := fun i => by
    unfold subL
    rw [mul_addl, mul_scl]
    have := hz i
    rw [cf_trim, cf_add, cf_trim] at this
    omega
  have h0 := mul_short tb hn hl h
  apply he
  rw [← te]
  exact (trim_nil_iff e).mpr fun i => by rw [h i]; exact zmul_zero b h0 i
theorem trim1 {n : Int} (h : n ≠ 0) : trimL [n] = [n] := by
  rw [trim_cons, if_neg (fun z => h z.2)]
  rfl
theorem q_sc (n : Int) (a : List Int) : IsQ (trimL (scL n a)) [n] a := fun i => by rw [cf_trim, cf_sc, mul_single]
theorem q_scn (n : Int) (a : List Int) : IsQ (trimL (scL n a)) [-n] (trimL (scL (-1) a)) := fun i => by
  rw [cf_trim, cf_sc, mul_extl (cf_trim _), mul_single, cf_sc, ← Int.mul_assoc, Int.neg_mul_neg, Int.mul_one]
theorem q_one (a : List Int) : IsQ a [1] a := fun i => by rw [mul_single, Int.one_mul]
theorem q_spoilt {n m : Int} {p : Nat} {a : List Int} (h0 : 0 < m) (h1 : m < n) : ∀ z, Tr z → ¬ IsQ (trimL (addL (trimL (scL n a)) (((List.range p).map fun _ => (0 : Int)) ++ [m]))) [n] z := fun z tz hz => by
  have h := hz p
  rw [cf_trim, cf_add, cf_trim, cf_sc, mul_single, cf_app, List.length_map, List.length_range, if_neg (by omega), Nat.sub_self] at h
  have e : cf [m] 0 = m := rfl
  rw [e] at h
  have e2 : m = n * (cf z p - cf a p) := by rw [Int.mul_sub]; omega
  have e3 : m % n = 0 := by rw [e2, Int.mul_emod_right]
  rw [Int.emod_eq_of_lt (by omega) h1] at e3
  omega
theorem sc_ne {n : Int} {b : List Int} (h : n ≠ 0) (tb : Tr b) (hn : b ≠ []) : trimL (scL n b) ≠ [] := fun z => by
  have := (trim_nil_iff _).mp z (b.length - 1)
  rw [cf_sc] at this
  exact Int.mul_ne_zero h (tr_last tb hn) this
theorem q_div {n : Int} {a b z : List Int} (tb : Tr b) (hn : b ≠ []) : IsQ (trimL (mulL a b)) (trimL (scL n b)) z ↔ ∀ i, cf a i = n * cf z i := by
  have e : ∀ i, cf (mulL z (trimL (scL n b))) i = cf (mulL (scL n z) b) i := fun i => by
    rw [mul_ext (cf_trim _), mul_comm', mul_scl, mul_comm', mul_scl]
  constructor
  · intro h i
    have := mul_cancel (x := a) (y := scL n z) tb hn (fun i => by rw [← e i, ← h i, cf_trim]) i
    rw [this, cf_sc]
  · intro h i
    rw [e i, cf_trim]
    exact mul_extl (fun k => by rw [h k, cf_sc]) i
theorem cf_divm (n : Int) : ∀ (a : List Int) (i : Nat), cf (a.map fun x => x / n) i = cf a i / n
  | [], i => by simp [cf]
  | x :: a, 0 => rfl
  | x :: a, i + 1 => cf_divm n a i
theorem q_no {n : Int} {a b : List Int} (tb : Tr b) (hn : b ≠ []) (h : a.filter (fun x => !decide (x % n = 0)) ≠ []) : ∀ z, Tr z → ¬ IsQ (trimL (mulL a b)) (trimL (scL n b)) z := fun z tz hz => by
  have hd := (q_div tb hn).mp hz
  obtain ⟨x, hx⟩ := List.exists_mem_of_ne_nil _ h
  obtain ⟨h1, h2⟩ := List.mem_filter.mp hx
  obtain ⟨i, hi, e⟩ := List.mem_iff_getElem.mp h1
  have e3 := cf_lt hi
  rw [List.getElem?_eq_getElem hi, e, hd i] at e3
  rw [Option.some.inj e3, Int.mul_emod_right] at h2
  cases h2
theorem q_yes {n : Int} {a b : List Int} (h0 : n ≠ 0) (ta : Tr a) (tb : Tr b) (hn : b ≠ []) (h : a.filter (fun x => !decide (x % n = 0)) = []) : Tr (a.map fun x => x / n) ∧ IsQ (trimL (mulL a b)) (trimL (scL n b)) (a.map fun x => x / n) := by
  have hd : ∀ i, n * (cf a i / n) = cf a i := fun i => by
    by_cases hi : i < a.length
    · have := List.filter_eq_nil_iff.mp h _ (List.mem_of_getElem? (cf_lt hi))
      have e : cf a i % n = 0 := by simpa using this
      have := Int.mul_ediv_add_emod (cf a i) n
      omega
    · rw [cf_ge (by omega)]
      simp
  refine ⟨tr_of ?_, (q_div tb hn).mpr fun i => by rw [cf_divm, hd i]⟩
  by_cases ha : a = []
  · exact .inl (by rw [ha]; rfl)
  · refine .inr ?_
    rw [List.length_map, cf_divm]
    intro z
    have := hd (a.length - 1)
    rw [z, Int.mul_zero] at this
    exact tr_last ta ha this.symm
def ph__law_inexact (C : Addr) : Ph := fun ds q _ => ∃ (a b : List Int) (d : Dt), ds = [polD C a, d] ∧ Oth C d b ∧ (QOk a b ∧ (b = [] ∨ ∀ z, Tr z → ¬ IsQ a b z)) ∧ q (.bl true)
theorem u__law_inexact {C : Addr} {a b : List Int} {q : Dt → Prop} {x : XD} (h : QOk a b ∧ (b = [] ∨ ∀ z, Tr z → ¬ IsQ a b z)) (p : q (.bl true)) : ph__law_inexact C [polD C a, polD C b] q x := ⟨a, b, _, rfl, .inl rfl, h, p⟩
theorem u__law_inexactI {C : Addr} {a b : List Int} {i : Int} {q : Dt → Prop} {x : XD} (h : b = trimL [i] ∧ QOk a b ∧ (b = [] ∨ ∀ z, Tr z → ¬ IsQ a b z)) (p : q (.bl true)) : ph__law_inexact C [polD C a, .int i] q x := ⟨a, b, _, rfl, .inr ⟨i, rfl, h.1⟩, h.2, p⟩
end VS
set_option Elab.async false
set_option linter.all false
set_option maxRecDepth 100000
/-! plain: sign rows. -/
namespace VS
open PySem PySem.Spec L2
theorem mul_assoc' : ∀ (a b c : List Int) (k : Nat), cf (mulL (mulL a b) c) k = cf (mulL a (mulL b c)) k
  | [], b, c, k => by simp [mulL]
  | x :: a, b, c, k => by
    show cf (mulL (addL (scL x b) (0 :: mulL a b)) c) k = _
    rw [mul_addl, mul_scl, cf_mul_cons, cf_mul_cons, Int.zero_mul, Int.zero_add]
    cases k with
    | zero => simp
    | succ k => rw [if_neg (by omega), if_neg (by omega), Nat.add_sub_cancel, mul_assoc' a b c k]
theorem tm_assoc (a b c : List Int) : trimL (mulL (trimL (mulL a b)) c) = trimL (mulL a (trimL (mulL b c))) := trim_ext fun k => by
  rw [mul_extl (cf_trim _), mul_ext (cf_trim _), mul_assoc']
theorem tm_ta (p x y : List Int) : trimL (mulL p (trimL (addL x y))) = trimL (addL (trimL (mulL p x)) (trimL (mulL p y))) := trim_ext fun k => by
  rw [mul_ext (cf_trim _), cf_add, cf_trim, cf_trim, mul_comm' p (addL x y), mul_addl, mul_comm' x p, mul_comm' y p]
theorem tm_ts (p x : List Int) (c : Int) : trimL (mulL p (trimL (scL c x))) = trimL (scL c (trimL (mulL p x))) := trim_ext fun k => by
  rw [mul_ext (cf_trim _), cf_sc, cf_trim, mul_comm' p (scL c x), mul_scl, mul_comm' x p]
theorem tm_tal (p x : List Int) : trimL (mulL p (trimL x)) = trimL (mulL p x) := mul_trim p x
def tp (a E C : List Int) : Nat → List Int
  | 0 => [cf a (a.length - 1)]
  | j + 1 => trimL (addL (trimL (mulL (tp a E C j) E)) (trimL (scL (cf a (a.length - 2 - j)) (powT C (j + 1)))))
def tl (a E C : List Int) : Nat → List Int
  | 0 => []
  | j + 1 => trimL (addL (tl a E C j) (trimL (scL (cf a (a.length - 1 - j)) (trimL (mulL (powT E (a.length - 1 - j)) (powT C j))))))
theorem powT_succ (a : List Int) (n : Nat) : powT a (n + 1) = trimL (mulL (powT a n) a) := rfl
theorem tl_tp (a E C : List Int) : ∀ j, j < a.length → tl a E C (j + 1) = trimL (mulL (powT E (a.length - 1 - j)) (tp a E C j))
  | 0, h => by
    show trimL (addL [] (trimL (scL (cf a (a.length - 1 - 0)) (trimL (mulL (powT E (a.length - 1 - 0)) [1]))))) = trimL (mulL (powT E (a.length - 1 - 0)) [cf a (a.length - 1)])
    refine trim_ext fun k => ?_
    rw [cf_add, cf_trim, cf_sc, cf_trim, mul_single, mul_single, Nat.sub_zero, Int.one_mul]
    show 0 + _ = _
    rw [Int.zero_add]
  | j + 1, h => by
    have ih := tl_tp a E C j (by omega)
    have e1 : a.length - 1 - (j + 1) = a.length - 2 - j := by omega
    have e2 : a.length - 1 - j = (a.length - 2 - j) + 1 := by omega
    show trimL (addL (tl a E C (j + 1)) (trimL (scL (cf a (a.length - 1 - (j + 1))) (trimL (mulL (powT E (a.length - 1 - (j + 1))) (powT C (j + 1))))))) = trimL (mulL (powT E (a.length - 1 - (j + 1))) (trimL (addL (trimL (mulL (tp a E C j) E)) (trimL (scL (cf a (a.length - 2 - j)) (powT C (j + 1)))))))
    rw [ih, e1, e2, tm_ta, tm_ts, powT_succ, tm_assoc, mul_comm_trim E]
theorem tp_tr {a E C : List Int} (ta : Tr a) (hn : a ≠ []) : ∀ j, Tr (tp a E C j)
  | 0 => trim1 (tr_last ta hn)
  | j + 1 => tr_trim _
theorem tl_end {a E C : List Int} (ta : Tr a) (hn : a ≠ []) : tl a E C a.length = tp a E C (a.length - 1) := by
  have hp := List.length_pos_iff.mpr hn
  have h := tl_tp a E C (a.length - 1) (by omega)
  rw [show a.length - 1 + 1 = a.length by omega, Nat.sub_self] at h
  rw [h]
  show trimL (mulL [1] (tp a E C (a.length - 1))) = _
  have e : trimL (mulL [1] (tp a E C (a.length - 1))) = trimL (tp a E C (a.length - 1)) := trim_ext fun k => by rw [mul_comm', mul_single, Int.one_mul]
  rw [e]
  exact tp_tr ta hn _
def comR (lo hi : Int × Int) : Int := lo.2 * hi.2 / (Int.gcd lo.2 hi.2 : Int)
def endL (lo hi : Int × Int) : List Int := [lo.1 * (comR lo hi / lo.2), hi.1 * (comR lo hi / hi.2)]
def comL (lo hi : Int × Int) : List Int := [comR lo hi, comR lo hi]
def srow (a : List Int) (lo hi : Int × Int) : List Int := if a = [] then [] else padL (tp a (endL lo hi) (comL lo hi) (a.length - 1)) (a.length : Int)
theorem com_dvd1 (lo hi : Int × Int) : lo.2 ∣ comR lo hi := by
  unfold comR
  rw [Int.mul_ediv_assoc _ (Int.gcd_dvd_right ..)]
  exact Int.dvd_mul_right ..
theorem com_dvd2 (lo hi : Int × Int) : hi.2 ∣ comR lo hi := by
  unfold comR
  rw [Int.mul_comm, Int.mul_ediv_assoc _ (Int.gcd_dvd_left ..)]
  exact Int.dvd_mul_right ..
theorem end_eq1 (lo hi : Int × Int) : lo.1 * comR lo hi / lo.2 = lo.1 * (comR lo hi / lo.2) := Int.mul_ediv_assoc _ (com_dvd1 lo hi)
theorem end_eq2 (lo hi : Int × Int) : hi.1 * comR lo hi / hi.2 = hi.1 * (comR lo hi / hi.2) := Int.mul_ediv_assoc _ (com_dvd2 lo hi)
theorem ediv_sz {x d : Int} {B : Nat} (h0 : 0 ≤ x) (hd : 0 < d) (h : x.natAbs < 2 ^ B) : (x / d).natAbs < 2 ^ B := by
  have h1 := Int.ediv_nonneg h0 (Int.le_of_lt hd)
  have h2 := Int.ediv_le_self d h0
  omega
theorem com_nn {lo hi : Int × Int} (h1 : 1 ≤ lo.2) (h2 : 1 ≤ hi.2) : 0 ≤ comR lo hi := Int.ediv_nonneg (Int.mul_nonneg (by omega) (by omega)) (Int.natCast_nonneg _)
theorem gcd_pos' {x y : Int} (h : 1 ≤ x) : (0 : Int) < (Int.gcd x y : Int) := by
  have := Int.gcd_pos_of_ne_zero_left y (show x ≠ 0 by omega)
  omega
theorem com_sz {lo hi : Int × Int} {B : Nat} (h1 : 1 ≤ lo.2) (h2 : 1 ≤ hi.2) (zl : SzR B lo) (zh : SzR B hi) : (comR lo hi).natAbs < 2 ^ (2 * B) := by
  refine ediv_sz (Int.mul_nonneg (by omega) (by omega)) (gcd_pos' h1) ?_
  rw [show 2 * B = B + B by omega]
  exact sz_mul zl.2 zh.2
theorem com_szL {lo hi : Int × Int} {B : Nat} (h1 : 1 ≤ lo.2) (h2 : 1 ≤ hi.2) (zl : SzR B lo) (zh : SzR B hi) : SzL (2 * B) (comL lo hi) := fun x hx => by
  have : x = comR lo hi := by
    simp only [comL, List.mem_cons, List.not_mem_nil, or_false, or_self] at hx
    exact hx
  rw [this]
  exact com_sz h1 h2 zl zh
theorem end_szL {lo hi : Int × Int} {B : Nat} (h1 : 1 ≤ lo.2) (h2 : 1 ≤ hi.2) (zl : SzR B lo) (zh : SzR B hi) : SzL (3 * B) (endL lo hi) := fun x hx => by
  have hc := com_sz h1 h2 zl zh
  have hn := com_nn h1 h2
  rw [show 3 * B = B + 2 * B by omega]
  simp only [endL, List.mem_cons, List.not_mem_nil, or_false] at hx
  rcases hx with rfl | rfl
  · exact sz_mul zl.1 (ediv_sz hn (by omega) hc)
  · exact sz_mul zh.1 (ediv_sz hn (by omega) hc)
theorem tp_len {a E C : List Int} (hE : E.length ≤ 2) (hC : C.length ≤ 2) : ∀ j, (tp a E C j).length ≤ 2 * j + 1
  | 0 => Nat.le_refl _
  | j + 1 => by
    refine Nat.le_trans (trim_len _) ?_
    rw [len_add]
    have h1 := Nat.le_trans (trim_len (mulL (tp a E C j) E)) (len_mul _ _)
    have h2 := tp_len (a := a) hE hC j
    have h3 := trim_len (scL (cf a (a.length - 2 - j)) (powT C (j + 1)))
    rw [len_sc] at h3
    have h4 := powT_len C hC (j + 1)
    omega
theorem tp_sz {a E C : List Int} {A B M n : Nat} (hE : E.length ≤ 2) (hC : C.length ≤ 2) (sa : SzL A a) (sE : SzL B E) (sC : ∀ j, j ≤ n → SzL M (powT C j)) : ∀ j, j ≤ n → SzL (A + M + j * (B + 2 * n + 3)) (tp a E C j)
  | 0, h => SzL.one (sz_up (cf_sz sa _) (by omega))
  | j + 1, h => by
    have ih := tp_sz hE hC sa sE sC j (by omega)
    have hl := tp_len (a := a) hE hC j
    have e : (j + 1) * (B + 2 * n + 3) = j * (B + 2 * n + 3) + (B + 2 * n + 3) := by rw [Nat.add_mul, Nat.one_mul]
    refine SzL.trim ?_
    refine SzL.up (SzL.add (B := A + M + j * (B + 2 * n + 3) + (B + 2 * n + 2)) ((SzL.mul ih sE).trim.up ?_) ((SzL.sc (sC (j + 1) h) (cf_sz sa _)).trim.up ?_)) ?_
    · omega
    · omega
    · omega
theorem tl_len {a E C : List Int} (hE : E.length ≤ 2) (hC : C.length ≤ 2) : ∀ j, (tl a E C j).length ≤ 2 * a.length + 2 * j + 2
  | 0 => Nat.zero_le _
  | j + 1 => by
    refine Nat.le_trans (trim_len _) ?_
    rw [len_add]
    have h1 := tl_len (a := a) hE hC j
    have h3 := trim_len (scL (cf a (a.length - 1 - j)) (trimL (mulL (powT E (a.length - 1 - j)) (powT C j))))
    rw [len_sc] at h3
    have h4 := Nat.le_trans (trim_len (mulL (powT E (a.length - 1 - j)) (powT C j))) (len_mul _ _)
    have h5 := powT_len C hC j
    have h6 := powT_len E hE (a.length - 1 - j)
    omega
theorem at_lastD (xs : List Dt) (d : Dt) : atI (xs ++ [d]) (-1) = some d := by
  have e : ixN (xs ++ [d]).length (-1) = some xs.length := by
    unfold ixN
    rw [if_neg (by decide), List.length_append, List.length_singleton, if_pos (by omega)]
    congr 1
    omega
  unfold atI
  rw [e]
  show (xs ++ [d])[xs.length]? = some d
  simp
/-- what is wanted of a row and a stretch -/
def SrOk (a : List Int) (lo hi : Int × Int) : Prop := ∃ A B, Tr a ∧ a.length ≤ 60 ∧ SzL A a ∧ SzR B lo ∧ SzR B hi ∧ 1 ≤ lo.2 ∧ 1 ≤ hi.2 ∧ A ≤ 4000 ∧ B ≤ 2000
def ph_sign_row_of : Ph := fun ds q _ => ∃ (a : List Int) (lo hi : Int × Int), ds = [iT a, ratD lo, ratD hi] ∧ SrOk a lo hi ∧ q (iL (srow a lo hi))
theorem u_sign_row_of {a : List Int} {lo hi : Int × Int} {q : Dt → Prop} {x : XD} (h : SrOk a lo hi) (p : q (iL (srow a lo hi))) : ph_sign_row_of [iT a, ratD lo, ratD hi] q x := ⟨a, lo, hi, rfl, h, p⟩
def ph__law_signs : Ph := fun ds q _ => ∃ (a : List Int) (lo hi : Int × Int), ds = [iL a, ratD lo, ratD hi] ∧ SrOk a lo hi ∧ q (iL (srow a lo hi))
theorem u__law_signs {a : List Int} {lo hi : Int × Int} {q : Dt → Prop} {x : XD} (h : SrOk a lo hi) (p : q (iL (srow a lo hi))) : ph__law_signs [iL a, ratD lo, ratD hi] q x := ⟨a, lo, hi, rfl, h, p⟩
def ph_check_stretch : Ph := fun ds q _ => ∃ (lo hi : Int × Int) (B : Nat), ds = [ratD lo, ratD hi] ∧ (SzR B lo ∧ SzR B hi ∧ B ≤ 100000 ∧ lessR lo hi = true) ∧ q .non
theorem u_check_stretch {lo hi : Int × Int} {B : Nat} {q : Dt → Prop} {x : XD} (h : SzR B lo ∧ SzR B hi ∧ B ≤ 100000 ∧ lessR lo hi = true) (p : q .non) : ph_check_stretch [ratD lo, ratD hi] q x := ⟨lo, hi, B, rfl, h, p⟩
theorem cmp_less {a b : Int × Int} (h : lessR a b = true) : cmpR a b = -1 := by
  have := of_decide_eq_true h
  unfold cmpR
  rw [if_neg (by omega), if_neg (by omega)]
def ph_sign_row (C : Addr) : Ph := fun ds q _ => ∃ (a : List Int) (lo hi : Int × Int), ds = [polD C a, ratD lo, ratD hi] ∧ (SrOk a lo hi ∧ lessR lo hi = true) ∧ q (iL (srow a lo hi))
theorem u_sign_row {C : Addr} {a : List Int} {lo hi : Int × Int} {q : Dt → Prop} {x : XD} (h : SrOk a lo hi ∧ lessR lo hi = true) (p : q (iL (srow a lo hi))) : ph_sign_row C [polD C a, ratD lo, ratD hi] q x := ⟨a, lo, hi, rfl, h, p⟩
theorem srow_len {a : List Int} {lo hi : Int × Int} (la : a.length ≤ 60) : (srow a lo hi).length ≤ 300 := by
  unfold srow
  split
  · exact Nat.zero_le _
  · unfold padL
    rw [List.length_append, List.length_replicate]
    have := tp_len (a := a) (E := endL lo hi) (C := comL lo hi) (Nat.le_refl _) (Nat.le_refl _) (a.length - 1)
    omega
theorem srow_nil (lo hi : Int × Int) : srow [] lo hi = [] := if_pos rfl
theorem fre_rat (κ : Nat) (r : Int × Int) : fre κ (ratD r) = true := by simp [ratD, fre, freL]
/-! stretches of the laws -/
def StOk (lo hi : Int × Int) : Prop := IsR lo ∧ IsR hi ∧ SzR 60 lo ∧ SzR 60 hi ∧ lessR lo hi = true
def ph_strt : Ph := fun ds q _ => ∃ m : Int, ds = [.int m] ∧ (0 < m ∧ m ≤ 10 ^ 12) ∧ ∀ lo hi : Int × Int, StOk lo hi → q (.tup [ratD lo, ratD hi])
theorem u_strt {m : Int} {q : Dt → Prop} {x : XD} (h : 0 < m ∧ m ≤ 10 ^ 12) (p : ∀ lo hi : Int × Int, StOk lo hi → q (.tup [ratD lo, ratD hi])) : ph_strt [.int m] q x := ⟨m, rfl, h, p⟩
theorem less_of {a b : Int × Int} (ha : IsR a) (hb : IsR b) (hne : a ≠ b) (h : lessR b a = false) : lessR a b = true := by
  have h1 := of_decide_eq_false h
  refine decide_eq_true ?_
  rcases Int.lt_or_gt_of_ne (fun z => hne (ha.uniq hb z)) with h2 | h2
  · exact h2
  · exact absurd h2 h1
theorem st01 : StOk (0, 1) (1, 1) := ⟨IsR01, IsR11, sz0 59, sz1 59, by decide⟩
theorem st_pick {a b : Int × Int} (ha : IsR a) (hb : IsR b) (za : SzR 60 a) (zb : SzR 60 b) {q : Dt → Prop} (p : ∀ lo hi : Int × Int, StOk lo hi → q (.tup [ratD lo, ratD hi])) : (a = b → q (.tup [ratD (0, 1), ratD (1, 1)])) ∧ (a ≠ b → lessR b a = true → q (.tup [ratD b, ratD a])) ∧ (a ≠ b → lessR b a = false → q (.tup [ratD a, ratD b])) :=
  ⟨fun _ => p _ _ st01, fun _ h => p _ _ ⟨hb, ha, zb, za, h⟩, fun hn h => p _ _ ⟨ha, hb, za, zb, less_of ha hb hn h⟩⟩
theorem less_beyond {h b : Int × Int} (h2 : 1 ≤ h.2) (hb : 1 ≤ b.2) (e : b.1 * h.2 = (h.1 + h.2) * b.2) : lessR h b = true := by
  refine decide_eq_true ?_
  rw [e, Int.add_mul]
  have := Int.mul_pos (show 0 < h.2 by omega) (show 0 < b.2 by omega)
  omega
theorem less_trans {a b c : Int × Int} (ha : 1 ≤ a.2) (hb : 1 ≤ b.2) (hc : 1 ≤ c.2) (h1 : lessR a b = true) (h2 : lessR b c = true) : lessR a c = true := by
  have g1 := of_decide_eq_true h1
  have g2 := of_decide_eq_true h2
  refine decide_eq_true ?_
  have k1 : a.1 * b.2 * c.2 < b.1 * a.2 * c.2 := Int.mul_lt_mul_of_pos_right g1 (by omega)
  have k2 : b.1 * c.2 * a.2 < c.1 * b.2 * a.2 := Int.mul_lt_mul_of_pos_right g2 (by omega)
  refine Int.lt_of_mul_lt_mul_right (a := b.2) ?_ (by omega)
  have e1 : a.1 * b.2 * c.2 = a.1 * c.2 * b.2 := by rw [Int.mul_assoc, Int.mul_comm b.2, ← Int.mul_assoc]
  have e2 : b.1 * a.2 * c.2 = b.1 * c.2 * a.2 := by rw [Int.mul_assoc, Int.mul_comm a.2, ← Int.mul_assoc]
  have e3 : c.1 * b.2 * a.2 = c.1 * a.2 * b.2 := by rw [Int.mul_assoc, Int.mul_comm b.2, ← Int.mul_assoc]
  omega
end VS
set_option Elab.async false
set_option linter.all false
set_option maxRecDepth 100000
/-! own classes: len, repr, [], != ; text.join. -/
namespace VS
open PySem PySem.Spec L2
section
open PySem.W (InstAt Looks)
variable {prog : Program} {w : World} {A : Around} {E : Value → Shared → Prop} {s : Shared} {K : PySem.W.Frag} {x C f : Addr} {ox : Obj} {od : Option Obj}
theorem ifBoundB {M : Model} {id : String} {name : Str} {args : List Value} {Q : Option Value → Shared → Prop} (KX : K.In s.heap) (J : InstAt s.heap x ox C od) (hs : PySem.W.findIn K (.ref C) name = some (some (.builtin id))) (S : Slot "object" name id)
    (h : wpAny M A (call (.builtin id) (.ref x :: args)) (fun v => Q (some v)) E s) : wpAny M A (callSpecialIfBound? (.ref x) name args) Q E s := by
  simp only [callSpecialIfBound?, bindSpecialIfBound?]
  refine wpAny_holding (wpAny_bind (wpAny_bind (wpAny_bind (J.type.here ((PySem.W.looks_findIn KX hs).here ?_)))))
  simp only [S.bind]
  refine wpAny_bind (wpAny_askSetting (wpAny_ite ?_))
  have fin : wpAny M A (call (.builtin id) ([.ref x] ++ args) >>= fun v => pure (some v)) Q E s := wpAny_bind (wpAny_mono h (fun v s' h' => wpAny_pure h') fun _ _ h' => h')
  split
  · exact wpAny_bind (wpAny_pure (wpAny_pure fin))
  · exact wpAny_tryCatch (wpAny_bind (wpAny_pure (wpAny_pure fin)))
theorem ne_entry {b : Value} {Q : Fin → Shared → Prop} (hu : A.units < cLine) (KX : K.In s.heap) (J : InstAt s.heap x ox C od) (hs : PySem.W.findIn K (.ref C) "__eq__" = some (some (.ref f))) (hf : PySem.W.isFn K (.ref f) = true)
    (h : wpAny (model prog w) A (call (.ref f) [.ref x, b]) (fun v s' => ∃ c, v = .bool c ∧ Q (.done (.ret (.bool (!c)))) s') E s) : wpAny (model prog w) A (Builtin.«object.__ne__» ⟨[.ref x, b], []⟩) Q E s := by
  unfold Builtin.«object.__ne__»
  repeat (first
    | with_reducible refine wpAny_cRoomFor hu ?_
    | (refine wpAny_bind (m := callSpecialIfBound? (.ref x) (Str.ofString "__eq__") [b])
        (PySem.W.ifBound_K KX J hs hf (wpAny_mono h (fun r s' hr => by
          obtain ⟨c, rfl, hq⟩ := hr
          repeat (first | exact hq | exact wpAny_pure hq | exact wpAny_truthy_bool hq | (refine wpAny_bind (m := truthy (.bool _)) (wpAny_truthy_bool ?_)) | wp_step)) fun _ _ e => e)))
    | wp_step)
theorem cmp_ne {b tb : Value} {Q : Value → Shared → Prop} (hu : A.units + 1 < cLine) (KX : K.In s.heap) (J : InstAt s.heap x ox C od) (hb : Looks (model prog w) s.heap (typeOf b) tb) (hn : PySem.W.notFirst K C tb = true)
    (hne : PySem.W.findIn K (.ref C) "__ne__" = some (some (.builtin "object.__ne__"))) (hso : PySem.W.subIn K (.ref C) (.type "object") = some true) (hs : PySem.W.findIn K (.ref C) "__eq__" = some (some (.ref f))) (hf : PySem.W.isFn K (.ref f) = true)
    (h : wpAny (model prog w) A.in1 (call (.ref f) [.ref x, b]) (fun v s' => ∃ c, v = .bool c ∧ Q (.bool (!c)) s') E s) : wpAny (model prog w) A (richCompare .NotEq (.ref x) b) Q E s := by
  have one : wpAny (model prog w) A (tryCompare (.ref x) (cmpInfo .NotEq).2.1 b) (fun r s' => ∃ v, r = some v ∧ Q v s') E s := by
    rw [cmpInfo_NotEq]
    unfold tryCompare
    refine wpAny_bind (ifBoundB KX J hne PySem.F.cmp_object.ne (wpAny_call (codeAny_call_builtin PySem.F.cmp_object.ne.plain PySem.F.cmpEntry_ne (PySem.W.check_slot PySem.F.cmpKind_ne PySem.F.cmpSplit_ne (J.type.andThen (PySem.W.looks_subIn KX hso)) (PySem.F.cmpArgs_ne _ _) (ne_entry (A := A.in1) hu KX J hs hf (wpAny_mono h (fun v s' hv => ?_) fun _ _ e => e))))))
    obtain ⟨c, rfl, hq⟩ := hv
    first | exact ⟨c, rfl, wpAny_pure ⟨_, rfl, hq⟩⟩ | exact ⟨c, rfl, wpAny_pure (wpAny_pure ⟨_, rfl, hq⟩)⟩ | exact ⟨c, rfl, _, rfl, hq⟩
  unfold richCompare
  simp only [oneThing_ref]
  refine wpAny_holding (wpAny_bind (wpAny_cRoomFor (Nat.lt_of_succ_lt hu) ?_))
  refine wpAny_bind (J.type.here (wpAny_bind (hb.here ?_)))
  split
  · rename_i q
    have e : PySem.W.subIn K tb (.ref C) = some false := by
      rcases Bool.or_eq_true_iff.mp hn with e | e
      · rw [beq_iff_eq.mp e] at q; simp at q
      · exact beq_iff_eq.mp e
    refine wpAny_bind ((PySem.W.looks_subIn KX e).here ?_)
    simp only [Bool.false_eq_true, if_false]
    refine wpAny_bind (wpAny_mono one (fun r s' z => ?_) fun _ _ e => e)
    obtain ⟨v, rfl, hq⟩ := z
    exact wpAny_pure hq
  · refine wpAny_bind (wpAny_pure ?_)
    simp only [Bool.false_eq_true, if_false]
    refine wpAny_bind (wpAny_mono one (fun r s' z => ?_) fun _ _ e => e)
    obtain ⟨v, rfl, hq⟩ := z
    exact wpAny_pure hq
end
section
variable {X : Cx} {R : Reg} {G : List Sl} {pos : Pos} {k : Kt}
/-- what a class tells of != -/
structure NeC (K : PySem.W.Frag) (C : Addr) : Prop where
  ne : PySem.W.findIn K (.ref C) "__ne__" = some (some (.builtin "object.__ne__"))
  sub : PySem.W.subIn K (.ref C) (.type "object") = some true
def neB (K : PySem.W.Frag) (C : Addr) : Bool := decide (PySem.W.findIn K (.ref C) "__ne__" = some (some (.builtin "object.__ne__"))) && decide (PySem.W.subIn K (.ref C) (.type "object") = some true)
theorem neB_ok {K : PySem.W.Frag} {C : Addr} (h : neB K C = true) : NeC K C := by
  obtain ⟨h1, h2⟩ := He.ba h
  exact ⟨of_decide_eq_true h1, of_decide_eq_true h2⟩
theorem nf_self {K : PySem.W.Frag} {C : Addr} : PySem.W.notFirst K C (.ref C) = true := by simp [PySem.W.notFirst]
/-- p != d -/
theorem w_neO {C : Addr} {ps : List Str} {φ : Ph} {j : Nat} {ns : List Str} {xs : List Dt} {d : Dt} {t : Value} {P : Dt → Prop} (F : FnI X.prog X.w X.K X.mg X.base j C "__eq__" ps [] (spD X.K 2 φ)) (hr : Room j X.A) (hu : X.A.units + 1 < cLine) (nc : NeC X.K C) (ht : TyD X.K d t) (hn : PySem.W.notFirst X.K C t = true)
    (hφ : φ [.obj C ns xs, d] (fun r => ∃ b, r = .bl b ∧ P (.bl (!b))) fun _ _ _ => False) : W2 X R (compareOp .NotEq) (.obj C ns xs) d P := fun F0 H x y Q w rx ry c => by
  have rx0 := rx
  obtain ⟨a, dx, vs, rfl, h1, _, _⟩ := rp_obj.mp rx
  obtain ⟨j', hj, F'⟩ := F.ex
  obtain ⟨f, hM, _, run⟩ := F'.run
  unfold opOf
  intro pins s σ v u I rv ru
  cases rv
  obtain ⟨od, J⟩ := inst_at I w h1
  have hty := ht F0 H y w.fh ry
  refine cmp_ne hu I.kIn J ?_ hn nc.ne nc.sub hM.at_ hM.fn (wpAny_mono (run (Q := fun v H' => ∃ b, v = .bl b ∧ Q (.bl (!b)) H') (vs := [.ref a, y]) (hr.mono hj) I (.cons rfl (.cons ru .nil)) (spD_of w (.cons rx0 (.cons ry .nil)) rfl hφ fun v F1 H1 d ex r ⟨b, e, p⟩ => by
    subst e
    exact ⟨b, rp_bl.mp r, c _ F1 H1 _ ex (rp_bl.mpr rfl) p⟩)) (fun v s' h => ?_) fun _ _ h => h)
  · obtain ⟨P', kx, hp⟩ := kit_of I ru hty
    exact kx.ty _ _ I.kIn hp.1
  · obtain ⟨z, H', I', rz, b, e, q⟩ := h
    subst e
    obtain rfl : v = Value.bool b := rz
    exact ⟨b, rfl, .bl (!b), H', I', rfl, q⟩
/-- len(p) -/
theorem wc_lenO {C : Addr} {ps : List Str} {φ : Ph} {j : Nat} {ns : List Str} {xs : List Dt} {P : Dt → Prop} (F : FnI X.prog X.w X.K X.mg X.base j C "__len__" ps [] (spD X.K 1 φ)) (hr : Room j X.A)
    (hφ : φ [.obj C ns xs] (fun r => ∃ n : Int, r = .int n ∧ (0 ≤ n ∧ n < 2 ^ 63) ∧ P (.int n)) fun _ _ _ => False) : WC X R (.builtin "len") [.obj C ns xs] P := fun F0 H vs Q w r c => by
  obtain ⟨v, rfl, rx⟩ := r.one
  have rx0 := rx
  obtain ⟨a, dx, ws, rfl, h1, _, _⟩ := rp_obj.mp rx
  obtain ⟨j', hj, F'⟩ := F.ex
  obtain ⟨f, hM, _, run⟩ := F'.run
  unfold crOf
  intro pins s σ us I rv
  cases rv with
  | cons r1 r2 =>
    cases r2
    cases r1
    obtain ⟨od, J⟩ := inst_at I w h1
    obtain ⟨m', hF⟩ := I.fr
    refine PySem.W.len_K hF I.ok.mod.kin J hM.at_ hM.fn (wpAny_mono (run (Q := fun v H' => ∃ n : Int, v = .int n ∧ (0 ≤ n ∧ n < 2 ^ 63) ∧ Q (.int n) H') (vs := [.ref a]) (hr.mono hj) I (.cons rfl .nil) (spD_of w (.cons rx0 .nil) rfl hφ fun v F1 H1 d ex r ⟨n, e, hn, p⟩ => by
      subst e
      exact ⟨n, rp_int.mp r, hn, c _ F1 H1 _ ex (rp_int.mpr rfl) p⟩)) (fun v s' h => ?_) fun _ _ h => h)
    obtain ⟨z, H', I', rz, n, e, hn, q⟩ := h
    subst e
    obtain ⟨t, rfl⟩ := rz
    exact ⟨hn, .int n, H', I'.tok _, ⟨_, rfl⟩, q⟩
/-- repr(p) -/
theorem wc_reprO {C : Addr} {ps : List Str} {φ : Ph} {j : Nat} {ns : List Str} {xs : List Dt} {P : Dt → Prop} (F : FnI X.prog X.w X.K X.mg X.base j C "__repr__" ps [] (spD X.K 1 φ)) (hr : Room j X.A) (hu : X.A.units + 1 < cLine)
    (hφ : φ [.obj C ns xs] (fun r => ∃ z : Str, r = .str z ∧ P (.str z)) fun _ _ _ => False) : WC X R (.builtin "repr") [.obj C ns xs] P := fun F0 H vs Q w r c => by
  obtain ⟨v, rfl, rx⟩ := r.one
  have rx0 := rx
  obtain ⟨a, dx, ws, rfl, h1, _, _⟩ := rp_obj.mp rx
  obtain ⟨j', hj, F'⟩ := F.ex
  obtain ⟨f, hM, _, run⟩ := F'.run
  unfold crOf
  intro pins s σ us I rv
  cases rv with
  | cons r1 r2 =>
    cases r2
    cases r1
    obtain ⟨od, J⟩ := inst_at I w h1
    obtain ⟨m', hF⟩ := I.fr
    refine PySem.W.repr_K hu hF I.ok.mod.kin J hM.at_ hM.fn (wpAny_mono (run (Q := fun v H' => ∃ z : Str, v = .str z ∧ Q (.str z) H') (vs := [.ref a]) (hr.mono hj) I (.cons rfl .nil) (spD_of w (.cons rx0 .nil) rfl hφ fun v F1 H1 d ex r ⟨z, e, p⟩ => by
      subst e
      exact ⟨z, rp_str.mp r, c _ F1 H1 _ ex (rp_str.mpr rfl) p⟩)) (fun v s' h => ?_) fun _ _ h => h)
    obtain ⟨z, H', I', rz, y, e, q⟩ := h
    subst e
    obtain ⟨t, rfl⟩ := rz
    exact ⟨.str y, H', I', ⟨_, rfl⟩, q⟩
/-- p[e] -/
theorem e_ixK {C : Addr} {ps : List Str} {φ : Ph} {j : Nat} {a b : Expr} {P : Dt → Prop} (F : FnI X.prog X.w X.K X.mg X.base j C "__getitem__" ps [] (spD X.K 2 φ)) (hfi : ∀ f, PySem.W.findIn X.K (.ref C) "__getitem__" = some (some (.ref f)) → PySem.W.fnIn X.K f = true) (hr : Room j X.A)
    (h : E X R G a fun d1 => ∃ ns xs, d1 = .obj C ns xs ∧ E X R G b fun d2 => φ [d1, d2] P fun _ _ _ => False)
    (hsl : ∀ x i, subscripted b true (.ref x) i = runValue (.builtin "lifetime.subscript" ⟨[.ref x, i], []⟩) := by intro _ _; rfl) : E X R G (.Subscript a b pos) P := fun σ F' H Q ty c => by
  obtain ⟨j', hj, F1⟩ := F.ex
  obtain ⟨f, hM, _, run⟩ := F1.run
  have ht := h σ F' H (fun x H1 => tOf X b σ H1 fun y H2 => ∃ F2 ns xs d2, Wf R F2 H2 ∧ Rp X.K F2 (.obj C ns xs) x ∧ Rp X.K F2 d2 y ∧ Ct X.K R F2 H2 P Q ∧ φ [.obj C ns xs, d2] P fun _ _ _ => False) ty fun v F1 H1 d1 ex r ⟨ns, xs, e1, h2⟩ => by
    subst e1
    exact h2 σ F1 H1 _ (ty.ext ex) fun v2 F2 H2 d2 ex2 r2 hφ => ⟨F2, ns, xs, d2, ex2.wf, r.mono ex2.ff, r2, c.step (ex.trans ex2), hφ⟩
  unfold tOf
  intro pins s I
  refine PyProof.Rows.Subscript_ (binT pe_w pe_w I ht fun v u s2 x y H2 I2 rx ry q => ?_)
  obtain ⟨F2, ns, xs, d2, w, r1, r2, ct, hφ⟩ := q
  have r10 := r1
  obtain ⟨o, dx, ws, rfl, h1, _, _⟩ := rp_obj.mp r1
  cases rx
  obtain ⟨od, J⟩ := inst_at I2 w h1
  obtain ⟨m', hF⟩ := I2.fr
  exact PySem.W.sub_K hF I2.ok.mod.kin J hM.at_ (hfi f hM.at_) hM.fn (run (vs := [.ref o, y]) (hr.mono hj) I2 (.cons rfl (.cons ry .nil)) (spD_of w (.cons r10 (.cons r2 .nil)) rfl hφ ct)) (hsl _ _)
theorem RpL.strs {K : PySem.W.Frag} {F : Hp} : ∀ {ys : List Str} {vs : List V}, RpL K F (ys.map Dt.str) vs → vs = ys.map V.str
  | [], _, h => h.of_nil
  | y :: ys, _, h => by
    obtain ⟨v, r, rfl, e1, e2⟩ := h.of_cons
    rw [rp_str.mp e1, RpL.strs e2]
    rfl
/-- o.join(e) -/
theorem e_join {o e : Expr} {apos : Pos} {P : Dt → Prop} (h : E X R G o fun d => ∃ a, d = .str a ∧ E X R G e fun d' => ∃ ys : List Str, d' = .lst (ys.map .str) ∧ (ys.map (·.length)).sum + ys.length * a.length ≤ 16777216 ∧ P (.str (Txt.join a ys)))
    (hs : starEach [e] X.env = [(false, eval e X.env)] := by rfl) (hbase : attributeBase o "join" X.env (eval o X.env) = eval o X.env := by rfl) (hline : (apos.endLine == pos.line) = true := by rfl) : E X R G (.Call (.Attribute o "join" apos) [e] [] pos) P := fun σ F H Q ty c => by
  refine tOf.of (pe_join pe_w pe_w hs hbase hline) (h σ F H _ ty fun v F1 H1 d ex r ⟨a, ed, h2⟩ => ?_)
  subst ed
  refine ⟨⟨a, rp_str.mp r⟩, ?_⟩
  refine h2 σ F1 H1 _ (ty.ext ex) fun v2 F2 H2 d2 ex2 r2 ⟨ys, eb, hl, p⟩ => ?_
  subst eb
  obtain ⟨q, vs, rfl, h1, rl⟩ := rp_lst.mp r2
  have ev := RpL.strs rl
  subst ev
  exact ⟨a, q, ys, rp_str.mp r, rfl, .inl (SqL.of (ex2.wf.fh _ _ h1)), hl, c _ F2 H2 _ (ex.trans ex2) (rp_str.mpr rfl) p⟩
end
end VS
set_option Elab.async false
set_option linter.all false
set_option maxRecDepth 100000
/-! plain: polynomials as values, shown. -/
namespace VS
open PySem PySem.Spec L2
theorem b_repr : bootBuiltins "repr" = some (.builtin "repr") := by decide +kernel
def sI (x : Int) : Str := Str.ofString (toString x)
def joinI (a : List Int) : Str := Txt.join (Str.ofString ", ") (a.map sI)
def shown (a : List Int) : Str := Str.ofString "Poly(" ++ joinI a ++ Str.ofString ")"
theorem joinL_len (S : List Nat) : ∀ ps : List (List Nat), (TL.joinL S ps).length ≤ (ps.map (·.length)).sum + ps.length * S.length
  | [] => Nat.zero_le _
  | [p] => by simp [TL.joinL]
  | p :: q :: r => by
    have ih := joinL_len S (q :: r)
    show (p ++ (S ++ TL.joinL S (q :: r))).length ≤ _
    rw [List.length_append, List.length_append, List.map_cons, List.sum_cons, List.length_cons (a := p), Nat.add_mul, Nat.one_mul]
    omega
theorem sum_len {ys : List Str} {B : Nat} (h : ∀ y ∈ ys, y.length ≤ B) : (ys.map (·.length)).sum ≤ ys.length * B := by
  induction ys with
  | nil => simp
  | cons y ys ih =>
    rw [List.map_cons, List.sum_cons, List.length_cons, Nat.add_mul, Nat.one_mul]
    have h1 := h y (List.mem_cons_self ..)
    have h2 := ih fun z hz => h z (List.mem_cons_of_mem _ hz)
    omega
theorem sI_log {x : Int} {B : Nat} (h : x.natAbs < 2 ^ B) (hB : B ≤ 1900) : x.natAbs.log2 < 1920 := Nat.lt_of_lt_of_le (PySem.Flt.log2_lt_of (k := B + 1) (by omega) (Nat.lt_of_lt_of_le h (Nat.pow_le_pow_right (by decide) (by omega)))) (by omega)
theorem sI_len {x : Int} {B : Nat} (h : x.natAbs < 2 ^ B) (hB : B ≤ 1900) : (sI x).length ≤ 1921 := PyProof.Rows.int_text_len_1921 (sI_log h hB)
theorem join_ok {a : List Int} {B : Nat} (h : SzL B a) (hB : B ≤ 1900) (hl : a.length ≤ 100) : ((a.map sI).map (·.length)).sum + (a.map sI).length * (Str.ofString ", ").length ≤ 16777216 ∧ (joinI a).length ≤ 200000 := by
  have h1 : ((a.map sI).map (·.length)).sum ≤ (a.map sI).length * 1921 := sum_len fun y hy => by
    obtain ⟨x, hx, rfl⟩ := List.mem_map.mp hy
    exact sI_len (h x hx) hB
  have h2 : (a.map sI).length ≤ 100 := by rw [List.length_map]; exact hl
  have h3 : (Str.ofString ", ").length = 2 := rfl
  have h4 : ((a.map sI).map (·.length)).sum + (a.map sI).length * 2 ≤ 200000 := by omega
  refine ⟨by rw [h3]; omega, ?_⟩
  have e : a.map sI = (a.map fun x => (sI x).cps.toList).map SX.S := by
    rw [List.map_map]
    refine List.map_congr_left fun x _ => ?_
    show sI x = SX.S (sI x).cps.toList
    rw [SX.S_tl]
  unfold joinI
  rw [e, show Str.ofString ", " = SX.S [44, 32] by decide, SX.join_S, SX.S_len]
  refine Nat.le_trans (joinL_len _ _) ?_
  have e2 : ((a.map fun x => (sI x).cps.toList).map (·.length)) = (a.map sI).map (·.length) := by
    rw [List.map_map, List.map_map]
    refine List.map_congr_left fun x _ => ?_
    show (sI x).cps.toList.length = (sI x).length
    rw [Array.length_toList]
    rfl
  rw [e2, List.length_map]
  rw [List.length_map] at h4
  exact h4
theorem empty_app (z : Str) : Str.empty ++ z = z := by
  have := SX.S_cat [] z.cps.toList
  rw [SX.S_tl, List.nil_append, SX.S_tl] at this
  exact this
def ph_Poly___len__ (C : Addr) : Ph := fun ds q _ => ∃ a : List Int, ds = [polD C a] ∧ q (.int (a.length : Int))
theorem u_Poly___len__ {C : Addr} {a : List Int} {q : Dt → Prop} {x : XD} (_ : True) (p : q (.int (a.length : Int))) : ph_Poly___len__ C [polD C a] q x := ⟨a, rfl, p⟩
def ph_Poly___getitem__ (C : Addr) : Ph := fun ds q _ => ∃ (a : List Int) (n : Nat), ds = [polD C a, .int (n : Int)] ∧ q (.int (cf a n))
theorem u_Poly___getitem__ {C : Addr} {a : List Int} {n : Nat} {q : Dt → Prop} {x : XD} (_ : True) (p : q (.int (cf a n))) : ph_Poly___getitem__ C [polD C a, .int (n : Int)] q x := ⟨a, n, rfl, p⟩
def ph_Poly___repr__ (C : Addr) : Ph := fun ds q _ => ∃ (a : List Int) (B : Nat), ds = [polD C a] ∧ (SzL B a ∧ B ≤ 1900 ∧ a.length ≤ 100) ∧ q (.str (shown a))
theorem u_Poly___repr__ {C : Addr} {a : List Int} {B : Nat} {q : Dt → Prop} {x : XD} (h : SzL B a ∧ B ≤ 1900 ∧ a.length ≤ 100) (p : q (.str (shown a))) : ph_Poly___repr__ C [polD C a] q x := ⟨a, B, rfl, h, p⟩
def ph__law_shown : Ph := fun ds q _ => ∃ (a : List Int) (B : Nat), ds = [iL a] ∧ (SzL B a ∧ B ≤ 1900 ∧ a.length ≤ 100) ∧ q (.str (shown a))
theorem u__law_shown {a : List Int} {B : Nat} {q : Dt → Prop} {x : XD} (h : SzL B a ∧ B ≤ 1900 ∧ a.length ≤ 100) (p : q (.str (shown a))) : ph__law_shown [iL a] q x := ⟨a, B, rfl, h, p⟩
/-- data that are no object -/
def plainD (d : Dt) : Prop := (∃ i, d = .int i) ∨ (∃ xs, d = .tup xs) ∨ (∃ xs, d = .lst xs) ∨ ∃ z, d = .str z
def ph_Poly___eq__ (C : Addr) : Ph := fun ds q _ => ∃ (a : List Int) (d : Dt), ds = [polD C a, d] ∧ ((∃ b, d = polD C b ∧ q (.bl (decide (a = b)))) ∨ (plainD d ∧ q (.bl false)))
theorem u_Poly___eq__ {C : Addr} {a b : List Int} {q : Dt → Prop} {x : XD} (p : q (.bl (decide (a = b)))) : ph_Poly___eq__ C [polD C a, polD C b] q x := ⟨a, _, rfl, .inl ⟨b, rfl, p⟩⟩
theorem u_Poly___eq__P {C : Addr} {a : List Int} {d : Dt} {q : Dt → Prop} {x : XD} (h : plainD d) (p : q (.bl false)) : ph_Poly___eq__ C [polD C a, d] q x := ⟨a, _, rfl, .inr ⟨h, p⟩⟩
theorem fre_pol (C : Addr) (a : List Int) : fre 0 (polD C a) = true := by simp [polD, fre, freL, freL_ints]
end VS
set_option Elab.async false
set_option linter.all false
set_option maxRecDepth 100000
/-! plain: polynomials over the integers as a ring. -/
namespace PX
/-- a polynomial: its coefficients, zero from some place on -/
structure Pl where
  c : Nat → Int
  fin : ∃ n, ∀ i, n ≤ i → c i = 0
theorem Pl.ext {f g : Pl} (h : ∀ i, f.c i = g.c i) : f = g := by
  obtain ⟨a, _⟩ := f
  obtain ⟨b, _⟩ := g
  have : a = b := funext h
  subst this
  rfl
def conv : (Nat → Int) → (Nat → Int) → Nat → Int
  | f, g, 0 => f 0 * g 0
  | f, g, n + 1 => f 0 * g (n + 1) + conv (fun i => f (i + 1)) g n
theorem conv_addl : ∀ (n : Nat) (f g h : Nat → Int), conv (fun i => f i + g i) h n = conv f h n + conv g h n
  | 0, f, g, h => by simp only [conv]; exact Int.add_mul _ _ _
  | n + 1, f, g, h => by
    simp only [conv]
    rw [conv_addl n (fun i => f (i + 1)) (fun i => g (i + 1)) h, Int.add_mul]
    omega
theorem conv_scl : ∀ (n : Nat) (a : Int) (f h : Nat → Int), conv (fun i => a * f i) h n = a * conv f h n
  | 0, a, f, h => by simp only [conv]; exact Int.mul_assoc _ _ _
  | n + 1, a, f, h => by
    simp only [conv]
    rw [conv_scl n a (fun i => f (i + 1)) h, Int.mul_add, Int.mul_assoc]
theorem conv_zerol : ∀ (n : Nat) (h : Nat → Int), conv (fun _ => 0) h n = 0
  | 0, h => by simp only [conv]; exact Int.zero_mul _
  | n + 1, h => by simp only [conv]; rw [conv_zerol n h, Int.zero_mul]; rfl
/-- the product from the other side -/
theorem conv_right : ∀ (n : Nat) (f g : Nat → Int), conv f g (n + 1) = f (n + 1) * g 0 + conv f (fun i => g (i + 1)) n
  | 0, f, g => by simp only [conv]; omega
  | n + 1, f, g => by
    rw [conv, conv_right n (fun i => f (i + 1)) g]
    simp only [conv]
    omega
theorem conv_comm : ∀ (n : Nat) (f g : Nat → Int), conv f g n = conv g f n
  | 0, f, g => Int.mul_comm _ _
  | n + 1, f, g => by
    rw [conv, conv_right n g f, conv_comm n (fun i => f (i + 1)) g, Int.mul_comm]
theorem conv_assoc : ∀ (n : Nat) (f g h : Nat → Int), conv (conv f g) h n = conv f (conv g h) n
  | 0, f, g, h => by simp only [conv]; exact Int.mul_assoc _ _ _
  | n + 1, f, g, h => by
    have e : (fun i => conv f g (i + 1)) = fun i => f 0 * g (i + 1) + conv (fun i => f (i + 1)) g i := rfl
    rw [conv, e, conv_addl n (fun i => f 0 * g (i + 1)) (conv (fun i => f (i + 1)) g) h, conv_scl n (f 0) (fun i => g (i + 1)) h, conv_assoc n]
    simp only [conv]
    rw [Int.mul_add, Int.mul_assoc]
    omega
theorem conv_far : ∀ (n : Nat) (f g : Nat → Int) (a b : Nat), (∀ i, a ≤ i → f i = 0) → (∀ i, b ≤ i → g i = 0) → a + b ≤ n + 1 → conv f g n = 0
  | 0, f, g, a, b, hf, hg, h => by
    simp only [conv]
    rcases Nat.eq_zero_or_pos a with z | z
    · rw [hf 0 (by omega), Int.zero_mul]
    · rw [hg 0 (by omega), Int.mul_zero]
  | n + 1, f, g, a, b, hf, hg, h => by
    rcases Nat.eq_zero_or_pos a with z | z
    · rw [show f = fun _ => 0 from funext fun i => hf i (by omega), conv_zerol]
    · simp only [conv]
      rw [hg (n + 1) (by omega), Int.mul_zero, conv_far n (fun i => f (i + 1)) g (a - 1) b (fun i hi => hf (i + 1) (by omega)) hg (by omega)]
      rfl
/-- the product's top -/
theorem conv_top : ∀ (m n : Nat) (f g : Nat → Int), (∀ i, m < i → f i = 0) → (∀ i, n < i → g i = 0) → conv f g (m + n) = f m * g n
  | 0, 0, f, g, _, _ => rfl
  | 0, n + 1, f, g, hf, hg => by
    rw [Nat.zero_add, conv, show (fun i => f (i + 1)) = fun _ => 0 from funext fun i => hf (i + 1) (by omega), conv_zerol]
    omega
  | m + 1, n, f, g, hf, hg => by
    rw [show m + 1 + n = (m + n) + 1 by omega, conv, hg (m + n + 1) (by omega), conv_top m n (fun i => f (i + 1)) g (fun i hi => hf (i + 1) (by omega)) hg]
    omega
namespace Pl
def C (z : Int) : Pl := ⟨fun i => if i = 0 then z else 0, 1, fun i hi => if_neg (by omega)⟩
def add (f g : Pl) : Pl := ⟨fun i => f.c i + g.c i, by
  obtain ⟨a, ha⟩ := f.fin
  obtain ⟨b, hb⟩ := g.fin
  exact ⟨a + b, fun i hi => by rw [ha i (by omega), hb i (by omega)]; rfl⟩⟩
def neg (f : Pl) : Pl := ⟨fun i => - f.c i, by
  obtain ⟨a, ha⟩ := f.fin
  exact ⟨a, fun i hi => by rw [ha i hi]; rfl⟩⟩
def mul (f g : Pl) : Pl := ⟨conv f.c g.c, by
  obtain ⟨a, ha⟩ := f.fin
  obtain ⟨b, hb⟩ := g.fin
  exact ⟨a + b, fun i hi => conv_far i _ _ a b ha hb (by omega)⟩⟩
def pow (f : Pl) : Nat → Pl
  | 0 => C 1
  | n + 1 => mul (pow f n) f
instance : Add Pl := ⟨add⟩
instance : Mul Pl := ⟨mul⟩
instance : Neg Pl := ⟨neg⟩
instance : Sub Pl := ⟨fun f g => add f (neg g)⟩
instance : NatCast Pl := ⟨fun n => C n⟩
instance : IntCast Pl := ⟨C⟩
instance (n : Nat) : OfNat Pl n := ⟨C n⟩
instance : SMul Nat Pl := ⟨fun n f => mul (C n) f⟩
instance : SMul Int Pl := ⟨fun n f => mul (C n) f⟩
instance : HPow Pl Nat Pl := ⟨pow⟩
theorem C_mul (z : Int) (f : Nat → Int) : ∀ n, conv (C z).c f n = z * f n
  | 0 => rfl
  | n + 1 => by
    rw [conv, show (fun i => (C z).c (i + 1)) = fun _ => 0 from funext fun i => rfl, conv_zerol]
    show z * f (n + 1) + 0 = _
    omega
theorem mul_comm' (f g : Pl) : f * g = g * f := Pl.ext fun i => conv_comm i _ _
instance : Lean.Grind.CommRing Pl where
  add_zero f := Pl.ext fun i => by
    show f.c i + (if i = 0 then ((0 : Nat) : Int) else 0) = f.c i
    split <;> simp
  add_comm f g := Pl.ext fun i => Int.add_comm _ _
  add_assoc f g h := Pl.ext fun i => Int.add_assoc _ _ _
  mul_assoc f g h := Pl.ext fun i => conv_assoc i _ _ _
  mul_one f := by
    rw [mul_comm']
    exact Pl.ext fun i => by
      show conv (C ((1 : Nat) : Int)).c f.c i = f.c i
      rw [C_mul]; simp
  left_distrib f g h := by
    rw [mul_comm', mul_comm' f g, mul_comm' f h]
    exact Pl.ext fun i => conv_addl i _ _ _
  zero_mul f := Pl.ext fun i => by
    show conv (C ((0 : Nat) : Int)).c f.c i = (if i = 0 then ((0 : Nat) : Int) else 0)
    rw [C_mul]; simp
  mul_zero f := by
    rw [mul_comm']
    exact Pl.ext fun i => by
      show conv (C ((0 : Nat) : Int)).c f.c i = (if i = 0 then ((0 : Nat) : Int) else 0)
      rw [C_mul]; simp
  mul_comm := mul_comm'
  one_mul f := Pl.ext fun i => by
    show conv (C ((1 : Nat) : Int)).c f.c i = f.c i
    rw [C_mul]; simp
  right_distrib f g h := Pl.ext fun i => conv_addl i _ _ _
  pow_zero f := rfl
  pow_succ f n := rfl
  ofNat_succ n := Pl.ext fun i => by
    show (if i = 0 then ((n + 1 : Nat) : Int) else 0) = (if i = 0 then (n : Int) else 0) + (if i = 0 then ((1 : Nat) : Int) else 0)
    split <;> simp
  neg_add_cancel f := Pl.ext fun i => by
    show - f.c i + f.c i = (if i = 0 then ((0 : Nat) : Int) else 0)
    split <;> omega
  sub_eq_add_neg f g := rfl
  neg_zsmul z f := Pl.ext fun i => by
    show conv (C (-z)).c f.c i = - conv (C z).c f.c i
    rw [C_mul, C_mul, Int.neg_mul]
  intCast_neg z := Pl.ext fun i => by
    show (if i = 0 then -z else 0) = -(if i = 0 then z else 0)
    split <;> rfl
end Pl
example (a b : Pl) : (a + b) * (a - b) = a * a - b * b := by grind
example (a b c : Pl) (h : a = b * c) : a * a = b * b * c ^ 2 := by grind
end PX
set_option Elab.async false
set_option linter.all false
set_option maxRecDepth 100000
/-! plain: sizes, constants, derivatives of polynomials. -/
namespace PX
open Pl
theorem least (p : Nat → Prop) (h : ∃ n, p n) : ∃ n, p n ∧ ∀ m, p m → n ≤ m := by
  obtain ⟨n, hn⟩ := h
  induction n using Nat.strongRecOn with
  | ind n ih =>
    by_cases hc : ∃ m, m < n ∧ p m
    · obtain ⟨m, h1, h2⟩ := hc
      exact ih m h1 h2
    · exact ⟨n, hn, fun m hm => Nat.le_of_not_lt fun h => hc ⟨m, h, hm⟩⟩
theorem sz_ex (f : Pl) : ∃ n, (∀ i, n ≤ i → f.c i = 0) ∧ ∀ m, (∀ i, m ≤ i → f.c i = 0) → n ≤ m := least _ f.fin
noncomputable def sz (f : Pl) : Nat := Classical.choose (sz_ex f)
theorem sz_far (f : Pl) {i : Nat} (h : sz f ≤ i) : f.c i = 0 := (Classical.choose_spec (sz_ex f)).1 i h
theorem sz_le {f : Pl} {m : Nat} (h : ∀ i, m ≤ i → f.c i = 0) : sz f ≤ m := (Classical.choose_spec (sz_ex f)).2 m h
theorem c_zero (i : Nat) : (0 : Pl).c i = 0 := by
  show (if i = 0 then ((0 : Nat) : Int) else 0) = 0
  split <;> rfl
theorem c_add (f g : Pl) (i : Nat) : (f + g).c i = f.c i + g.c i := rfl
theorem c_sub (f g : Pl) (i : Nat) : (f - g).c i = f.c i - g.c i := by show f.c i + - g.c i = _; omega
theorem c_neg (f : Pl) (i : Nat) : (-f).c i = - f.c i := rfl
theorem c_C (z : Int) (i : Nat) : (C z).c i = if i = 0 then z else 0 := rfl
theorem c_smul (z : Int) (f : Pl) (i : Nat) : (C z * f).c i = z * f.c i := C_mul z f.c i
theorem top_ne {f : Pl} {n : Nat} (h : sz f = n + 1) : f.c n ≠ 0 := fun z => by
  have : sz f ≤ n := sz_le fun i hi => by
    rcases Nat.lt_or_ge n i with q | q
    · exact sz_far f (by omega)
    · rw [show i = n by omega]; exact z
  omega
theorem sz_eq {f : Pl} {n : Nat} (h : f.c n ≠ 0) (h2 : ∀ i, n < i → f.c i = 0) : sz f = n + 1 := by
  have a : sz f ≤ n + 1 := sz_le fun i hi => h2 i (by omega)
  have b : ¬ sz f ≤ n := fun z => h (sz_far f z)
  omega
theorem sz_zero {f : Pl} : sz f = 0 ↔ f = 0 := by
  constructor
  · intro h
    exact Pl.ext fun i => by rw [sz_far f (by omega), c_zero]
  · intro h
    have : sz f ≤ 0 := sz_le fun i _ => by rw [h, c_zero]
    omega
theorem sz_pos {f : Pl} (h : f ≠ 0) : ∃ n, sz f = n + 1 := by
  cases e : sz f with
  | zero => exact absurd (sz_zero.mp e) h
  | succ n => exact ⟨n, rfl⟩
theorem mul_top {f g : Pl} {m n : Nat} (hf : sz f = m + 1) (hg : sz g = n + 1) : (f * g).c (m + n) = f.c m * g.c n ∧ sz (f * g) = m + n + 1 := by
  have e : (f * g).c (m + n) = f.c m * g.c n := conv_top m n _ _ (fun i hi => sz_far f (by omega)) (fun i hi => sz_far g (by omega))
  refine ⟨e, sz_eq ?_ fun i hi => ?_⟩
  · rw [e]
    exact Int.mul_ne_zero (top_ne hf) (top_ne hg)
  · exact conv_far i _ _ (m + 1) (n + 1) (fun j hj => sz_far f (by omega)) (fun j hj => sz_far g (by omega)) (by omega)
theorem sz_mul {f g : Pl} (hf : f ≠ 0) (hg : g ≠ 0) : sz (f * g) + 1 = sz f + sz g ∧ f * g ≠ 0 := by
  obtain ⟨m, hm⟩ := sz_pos hf
  obtain ⟨n, hn⟩ := sz_pos hg
  have := (mul_top hm hn).2
  exact ⟨by omega, fun z => by rw [sz_zero.mpr z] at this; omega⟩
theorem mul_ne {f g : Pl} (hf : f ≠ 0) (hg : g ≠ 0) : f * g ≠ 0 := (sz_mul hf hg).2
theorem mul_zero_or {f g : Pl} (h : f * g = 0) : f = 0 ∨ g = 0 := by
  by_cases hf : f = 0
  · exact .inl hf
  · by_cases hg : g = 0
    · exact .inr hg
    · exact absurd h (mul_ne hf hg)
theorem cancel {a b c : Pl} (ha : a ≠ 0) (h : a * b = a * c) : b = c := by
  have : a * (b - c) = 0 := by grind
  rcases mul_zero_or this with z | z
  · exact absurd z ha
  · grind
theorem sz_add (f g : Pl) : sz (f + g) ≤ max (sz f) (sz g) := sz_le fun i hi => by rw [c_add, sz_far f (by omega), sz_far g (by omega)]; rfl
theorem sz_sub (f g : Pl) : sz (f - g) ≤ max (sz f) (sz g) := sz_le fun i hi => by rw [c_sub, sz_far f (by omega), sz_far g (by omega)]; rfl
theorem C_ne {z : Int} (h : z ≠ 0) : C z ≠ 0 := fun e => h (by
  have := congrArg (fun f : Pl => f.c 0) e
  simpa [c_C, c_zero] using this)
theorem C_zero : C 0 = 0 := rfl
theorem C_one : C 1 = 1 := rfl
theorem C_mul' (a b : Int) : C (a * b) = C a * C b := Pl.ext fun i => by
  rw [c_smul, c_C, c_C]
  split
  · rfl
  · rw [Int.mul_zero]
theorem C_add (a b : Int) : C (a + b) = C a + C b := Pl.ext fun i => by
  rw [c_add, c_C, c_C, c_C]
  split <;> rfl
theorem C_neg (a : Int) : C (-a) = - C a := Pl.ext fun i => by
  rw [c_neg, c_C, c_C]
  split <;> rfl
theorem sz_C {z : Int} (h : z ≠ 0) : sz (C z) = 1 := sz_eq (n := 0) (by rw [c_C, if_pos rfl]; exact h) fun i hi => by rw [c_C, if_neg (by omega)]
theorem sz_C_le (z : Int) : sz (C z) ≤ 1 := sz_le fun i hi => by rw [c_C, if_neg (by omega)]
theorem sz_smul {z : Int} (h : z ≠ 0) (f : Pl) : sz (C z * f) = sz f := by
  by_cases hf : f = 0
  · subst hf
    rw [show C z * 0 = (0 : Pl) by grind]
  · have := (sz_mul (C_ne h) hf).1
    rw [sz_C h] at this
    omega
/-- of size 1: a constant -/
theorem const_of {f : Pl} (h : sz f ≤ 1) : f = C (f.c 0) := Pl.ext fun i => by
  rw [c_C]
  split
  · next e => rw [e]
  · exact sz_far f (by omega)
/-- x times f -/
def X : Pl := ⟨fun i => if i = 1 then 1 else 0, 2, fun i hi => if_neg (by omega)⟩
theorem X_mul (f : Pl) : ∀ i, (X * f).c i = if i = 0 then 0 else f.c (i - 1) := by
  intro i
  show conv (fun i => if i = 1 then (1 : Int) else 0) f.c i = _
  cases i with
  | zero => simp [conv]
  | succ n =>
    rw [conv, show (fun i => if i + 1 = 1 then (1 : Int) else 0) = (C 1).c from funext fun i => by rw [c_C]; simp, C_mul]
    simp
theorem X_ne : X ≠ 0 := fun e => by
  have := congrArg (fun f : Pl => f.c 1) e
  have h2 : X.c 1 = 1 := rfl
  simp only [h2, c_zero] at this
  cases this
/-- the derivative -/
def D (f : Pl) : Pl := ⟨fun i => ((i : Int) + 1) * f.c (i + 1), by
  obtain ⟨n, hn⟩ := f.fin
  exact ⟨n, fun i hi => by rw [hn (i + 1) (by omega), Int.mul_zero]⟩⟩
theorem c_D (f : Pl) (i : Nat) : (D f).c i = ((i : Int) + 1) * f.c (i + 1) := rfl
theorem euler : ∀ (n : Nat) (a b : Int) (f g : Nat → Int), conv (fun i => ((i : Int) + a) * f i) g n + conv f (fun j => ((j : Int) + b) * g j) n = ((n : Int) + a + b) * conv f g n
  | 0, a, b, f, g => by
    simp only [conv]
    show (((0 : Nat) : Int) + a) * f 0 * g 0 + f 0 * ((((0 : Nat) : Int) + b) * g 0) = _
    grind
  | n + 1, a, b, f, g => by
    have ih := euler n (a + 1) b (fun i => f (i + 1)) g
    simp only [conv]
    have e : (fun i : Nat => (((i + 1 : Nat) : Int) + a) * f (i + 1)) = fun i : Nat => ((i : Int) + (a + 1)) * f (i + 1) := funext fun i => by rw [show (((i + 1 : Nat) : Int) + a) = (i : Int) + (a + 1) by omega]
    rw [e]
    generalize conv (fun i : Nat => ((i : Int) + (a + 1)) * f (i + 1)) g n = u at *
    generalize conv (fun i => f (i + 1)) (fun j : Nat => ((j : Int) + b) * g j) n = v at *
    generalize conv (fun i => f (i + 1)) g n = t at *
    generalize f 0 = x
    generalize g (n + 1) = y
    have e2 : (((n + 1 : Nat) : Int)) = (n : Int) + 1 := by omega
    rw [e2]
    simp only [Int.natCast_zero] at *
    grind
theorem XD (f : Pl) (i : Nat) : (X * D f).c i = (i : Int) * f.c i := by
  rw [X_mul]
  cases i with
  | zero => simp
  | succ n => rw [if_neg (by omega), c_D, Nat.add_sub_cancel]; rfl
theorem D_mul (f g : Pl) : D (f * g) = D f * g + f * D g := by
  refine cancel X_ne (Pl.ext fun i => ?_)
  rw [XD, show X * (D f * g + f * D g) = (X * D f) * g + f * (X * D g) by grind, c_add]
  have h1 : (X * D f).c = fun i : Nat => ((i : Int) + 0) * f.c i := funext fun i => by rw [XD]; rw [Int.add_zero]
  have h2 : (X * D g).c = fun i : Nat => ((i : Int) + 0) * g.c i := funext fun i => by rw [XD]; rw [Int.add_zero]
  have e := euler i 0 0 f.c g.c
  show (i : Int) * conv f.c g.c i = conv (X * D f).c g.c i + conv f.c (X * D g).c i
  rw [h1, h2, e, Int.add_zero, Int.add_zero]
theorem D_add (f g : Pl) : D (f + g) = D f + D g := Pl.ext fun i => by rw [c_D, c_add, c_add, c_D, c_D, Int.mul_add]
theorem D_C (z : Int) : D (C z) = 0 := Pl.ext fun i => by rw [c_D, c_C, if_neg (by omega), Int.mul_zero, c_zero]
theorem D_smul (z : Int) (f : Pl) : D (C z * f) = C z * D f := by rw [D_mul, D_C]; grind
theorem sz_D {f : Pl} {n : Nat} (h : sz f = n + 2) : sz (D f) = n + 1 := sz_eq (by
  rw [c_D]
  exact Int.mul_ne_zero (by omega) (top_ne h)) fun i hi => by rw [c_D, sz_far f (by omega), Int.mul_zero]
theorem D_pow (q : Pl) : ∀ m : Nat, D (q ^ (m + 1)) = C ((m : Int) + 1) * (q ^ m * D q)
  | 0 => by
    rw [show q ^ (0 + 1) = q by grind, show q ^ 0 = (1 : Pl) by grind]
    show D q = C ((0 : Nat) + 1 : Int) * (1 * D q)
    rw [show C (((0 : Nat) : Int) + 1) = 1 from rfl]
    grind
  | m + 1 => by
    rw [show q ^ (m + 1 + 1) = q ^ (m + 1) * q by grind, D_mul, D_pow q m]
    have e : C (((m + 1 : Nat) : Int) + 1) = C ((m : Int) + 1) + 1 := by rw [← C_one, ← C_add]; rw [show ((m + 1 : Nat) : Int) = (m : Int) + 1 by omega]
    rw [e]
    have e2 : q ^ (m + 1) = q ^ m * q := by grind
    rw [e2]
    grind
end PX
set_option Elab.async false
set_option linter.all false
set_option maxRecDepth 100000
/-! plain: divisors of polynomials; Gauss; prime polynomials. -/
namespace PX
open Pl
/-- divides, over the integers; over the quotients -/
def Dv (a b : Pl) : Prop := ∃ q, b = a * q
def Qv (a b : Pl) : Prop := ∃ z : Int, z ≠ 0 ∧ ∃ q, C z * b = a * q
theorem Dv.refl (a : Pl) : Dv a a := ⟨1, by grind⟩
theorem Dv.trans {a b c : Pl} (h : Dv a b) (k : Dv b c) : Dv a c := by
  obtain ⟨q, rfl⟩ := h
  obtain ⟨r, rfl⟩ := k
  exact ⟨q * r, by grind⟩
theorem Dv.qv {a b : Pl} (h : Dv a b) : Qv a b := by
  obtain ⟨q, rfl⟩ := h
  exact ⟨1, by decide, q, by rw [C_one]; grind⟩
theorem Qv.refl (a : Pl) : Qv a a := (Dv.refl a).qv
theorem Qv.trans {a b c : Pl} (h : Qv a b) (k : Qv b c) : Qv a c := by
  obtain ⟨z, hz, q, e⟩ := h
  obtain ⟨w, hw, r, e2⟩ := k
  refine ⟨z * w, Int.mul_ne_zero hz hw, q * r, ?_⟩
  rw [C_mul']
  grind
theorem Qv.zero (a : Pl) : Qv a 0 := ⟨1, by decide, 0, by grind⟩
theorem Qv.add {a b c : Pl} (h : Qv a b) (k : Qv a c) : Qv a (b + c) := by
  obtain ⟨z, hz, q, e⟩ := h
  obtain ⟨w, hw, r, e2⟩ := k
  refine ⟨z * w, Int.mul_ne_zero hz hw, C w * q + C z * r, ?_⟩
  rw [C_mul']
  grind
theorem Qv.mulr {a b : Pl} (h : Qv a b) (c : Pl) : Qv a (b * c) := by
  obtain ⟨z, hz, q, e⟩ := h
  exact ⟨z, hz, q * c, by grind⟩
theorem Qv.mull {a b : Pl} (h : Qv a b) (c : Pl) : Qv a (c * b) := by rw [Pl.mul_comm' c b]; exact h.mulr c
theorem Qv.neg {a b : Pl} (h : Qv a b) : Qv a (-b) := by
  have := h.mulr (-1)
  rwa [show b * -1 = -b by grind] at this
theorem Qv.sub {a b c : Pl} (h : Qv a b) (k : Qv a c) : Qv a (b - c) := by
  have := h.add k.neg
  rwa [show b + -c = b - c by grind] at this
theorem Qv.of_smul {a b : Pl} {z : Int} (hz : z ≠ 0) (h : Qv a (C z * b)) : Qv a b := by
  obtain ⟨w, hw, q, e⟩ := h
  exact ⟨w * z, Int.mul_ne_zero hw hz, q, by rw [C_mul']; grind⟩
theorem Qv.smul_l {a b : Pl} {z : Int} (hz : z ≠ 0) (h : Qv a b) : Qv (C z * a) b := by
  obtain ⟨w, hw, q, e⟩ := h
  exact ⟨z * w, Int.mul_ne_zero hz hw, q, by rw [C_mul']; grind⟩
theorem Qv.sz {a b : Pl} (h : Qv a b) (hb : b ≠ 0) : sz a ≤ sz b ∧ a ≠ 0 := by
  obtain ⟨z, hz, q, e⟩ := h
  have hn : a * q ≠ 0 := by rw [← e]; exact mul_ne (C_ne hz) hb
  have ha : a ≠ 0 := fun w => hn (by rw [w]; grind)
  have hq : q ≠ 0 := fun w => hn (by rw [w]; grind)
  have h1 := (sz_mul ha hq).1
  rw [← e, sz_smul hz] at h1
  obtain ⟨m, hm⟩ := sz_pos hq
  exact ⟨by omega, ha⟩
/-! division with a remainder, some multiple of the dividend -/
theorem pdiv (B : Pl) (hB : B ≠ 0) : ∀ (n : Nat) (A : Pl), sz A ≤ n → ∃ (z : Int) (Q R : Pl), z ≠ 0 ∧ C z * A = Q * B + R ∧ sz R < sz B := by
  obtain ⟨m, hm⟩ := sz_pos hB
  intro n
  induction n with
  | zero =>
    intro A h
    have : A = 0 := sz_zero.mp (by omega)
    exact ⟨1, 0, 0, by decide, by rw [this]; grind, by rw [sz_zero.mpr rfl]; omega⟩
  | succ n ih =>
    intro A h
    by_cases hs : sz A < sz B
    · exact ⟨1, 0, A, by decide, by rw [C_one]; grind, hs⟩
    · obtain ⟨k, hk⟩ : ∃ k, sz A = k + 1 := ⟨sz A - 1, by omega⟩
      -- one step: A * lc B - lc A * x^(k - m) * B
      obtain ⟨Xp, hX, hXs, hXc⟩ : ∃ Xp : Pl, Xp ≠ 0 ∧ sz Xp = k - m + 1 ∧ Xp.c (k - m) = 1 := by
        refine ⟨⟨fun i => if i = k - m then 1 else 0, k - m + 1, fun i hi => if_neg (by omega)⟩, ?_, ?_, ?_⟩
        · intro e
          have := congrArg (fun f : Pl => f.c (k - m)) e
          simp [c_zero] at this
        · refine sz_eq ?_ fun i hi => if_neg (by omega)
          show (if k - m = k - m then (1 : Int) else 0) ≠ 0
          rw [if_pos rfl]; decide
        · show (if k - m = k - m then (1 : Int) else 0) = 1
          rw [if_pos rfl]
      have ht := mul_top hXs hm
      rw [show k - m + m = k by omega, hXc, Int.one_mul] at ht
      have hlt : sz (C (B.c m) * A - C (A.c k) * (Xp * B)) ≤ n := sz_le fun i hi => by
        rw [c_sub, c_smul, c_smul]
        rcases Nat.lt_or_ge k i with q | q
        · rw [sz_far A (by omega), sz_far (Xp * B) (by omega)]; omega
        · rw [show i = k by omega, ht.1]
          rw [Int.mul_comm]; omega
      obtain ⟨z, Q, R, hz, e, hR⟩ := ih _ hlt
      refine ⟨z * B.c m, Q + C z * C (A.c k) * Xp, R, Int.mul_ne_zero hz (top_ne hm), ?_, hR⟩
      rw [C_mul']
      grind
/-- G is a greatest common divisor of A and B -/
structure Gcd (G A B : Pl) : Prop where
  l : Qv G A
  r : Qv G B
  bez : ∃ (z : Int) (U V : Pl), z ≠ 0 ∧ C z * G = U * A + V * B
theorem gcd_ex : ∀ (n : Nat) (A B : Pl), sz B ≤ n → ∃ G, Gcd G A B := by
  intro n
  induction n with
  | zero =>
    intro A B h
    have : B = 0 := sz_zero.mp (by omega)
    subst this
    exact ⟨A, .refl A, .zero A, 1, 1, 0, by decide, by rw [C_one]; grind⟩
  | succ n ih =>
    intro A B h
    by_cases hB : B = 0
    · subst hB
      exact ⟨A, .refl A, .zero A, 1, 1, 0, by decide, by rw [C_one]; grind⟩
    · obtain ⟨z, Q, R, hz, e, hR⟩ := pdiv B hB _ A (Nat.le_refl _)
      obtain ⟨G, g1, g2, w, U, V, hw, e2⟩ := ih B R (by omega)
      refine ⟨G, ?_, g1, w, C z * V, U - V * Q, hw, ?_⟩
      · refine Qv.of_smul hz ?_
        rw [e]
        exact (g1.mull Q).add g2
      · grind
theorem Gcd.ne {G A B : Pl} (h : Gcd G A B) (hA : A ≠ 0) : G ≠ 0 := (h.l.sz hA).2
/-! prime polynomials -/
structure Irr (q : Pl) : Prop where
  big : 2 ≤ sz q
  alt : ∀ A, Qv q A ∨ ∃ (z : Int) (U V : Pl), z ≠ 0 ∧ C z = U * q + V * A
theorem Irr.ne {q : Pl} (h : Irr q) : q ≠ 0 := fun e => by
  have := h.big
  rw [sz_zero.mpr e] at this
  omega
theorem irr_ex {f : Pl} (h : 2 ≤ sz f) : ∃ q, Irr q ∧ Qv q f := by
  have hf : f ≠ 0 := fun e => by rw [sz_zero.mpr e] at h; omega
  obtain ⟨n, ⟨q, h1, h2, h3⟩, hm⟩ := least (fun n => ∃ q : Pl, sz q = n ∧ 2 ≤ sz q ∧ Qv q f) ⟨sz f, f, rfl, h, .refl f⟩
  have hq : q ≠ 0 := fun e => by rw [sz_zero.mpr e] at h2; omega
  refine ⟨q, ⟨h2, fun A => ?_⟩, h3⟩
  obtain ⟨G, g⟩ := gcd_ex _ q A (Nat.le_refl _)
  have hG := g.ne hq
  have s1 := (g.l.sz hq).1
  by_cases hs : 2 ≤ sz G
  · left
    have := hm (sz G) ⟨G, rfl, hs, g.l.trans h3⟩
    -- G and q are of the same size
    obtain ⟨z, hz, k, e⟩ := g.l
    have hk : k ≠ 0 := fun w => mul_ne (C_ne hz) hq (by rw [e, w]; grind)
    have hs2 := (sz_mul hG hk).1
    rw [← e, sz_smul hz] at hs2
    have ek := const_of (f := k) (by omega)
    have hk0 : k.c 0 ≠ 0 := fun w => hk (by rw [ek, w]; exact C_zero)
    have : Qv q G := ⟨k.c 0, hk0, C z, by rw [ek] at e; grind⟩
    exact this.trans g.r
  · right
    obtain ⟨z, U, V, hz, e⟩ := g.bez
    obtain ⟨m, hm2⟩ := sz_pos hG
    have eg := const_of (f := G) (by omega)
    have hg0 : G.c 0 ≠ 0 := fun w => hG (by rw [eg, w]; exact C_zero)
    refine ⟨z * G.c 0, U, V, Int.mul_ne_zero hz hg0, ?_⟩
    rw [C_mul', ← eg]
    exact e
theorem Irr.prime {q : Pl} (h : Irr q) {A B : Pl} (k : Qv q (A * B)) : Qv q A ∨ Qv q B := by
  rcases h.alt A with a | ⟨z, U, V, hz, e⟩
  · exact .inl a
  · right
    refine Qv.of_smul hz ?_
    rw [e, show (U * q + V * A) * B = q * (U * B) + (A * B) * V by grind]
    exact ((Qv.refl q).mulr _).add (k.mulr _)
theorem Irr.pow {q : Pl} (h : Irr q) : ∀ m : Nat, q ^ m ≠ 0
  | 0 => by rw [show q ^ 0 = (1 : Pl) by grind]; exact C_ne (z := 1) (by decide)
  | m + 1 => by rw [show q ^ (m + 1) = q ^ m * q by grind]; exact mul_ne (h.pow m) h.ne
/-- how often q divides A -/
def Val (q A : Pl) (m : Nat) : Prop := ∃ z : Int, z ≠ 0 ∧ ∃ B, C z * A = q ^ m * B ∧ ¬ Qv q B
theorem val_ex {q : Pl} (h : Irr q) : ∀ (n : Nat) (A : Pl), sz A ≤ n → A ≠ 0 → ∃ m, Val q A m := by
  intro n
  induction n with
  | zero => intro A h1 h2; exact absurd (sz_zero.mp (by omega)) h2
  | succ n ih =>
    intro A h1 h2
    by_cases hq : Qv q A
    · obtain ⟨z, hz, k, e⟩ := hq
      have hk : k ≠ 0 := fun w => mul_ne (C_ne hz) h2 (by rw [e, w]; grind)
      have hs := (sz_mul h.ne hk).1
      rw [← e, sz_smul hz] at hs
      have := h.big
      obtain ⟨m, w, hw, B, e2, hB⟩ := ih k (by omega) hk
      refine ⟨m + 1, w * z, Int.mul_ne_zero hw hz, B, ?_, hB⟩
      rw [C_mul', show q ^ (m + 1) = q ^ m * q by grind]
      grind
    · exact ⟨0, 1, by decide, A, by rw [C_one]; grind, hq⟩
theorem Val.ne {q A : Pl} {m : Nat} (hq : Irr q) (h : Val q A m) : A ≠ 0 := fun e => by
  obtain ⟨z, hz, B, e1, hB⟩ := h
  refine hB ?_
  have : q ^ m * B = 0 := by rw [← e1, e]; grind
  rcases mul_zero_or this with w | w
  · exact absurd w (hq.pow m)
  · rw [w]; exact .zero q
theorem pow_add' (q : Pl) (m : Nat) : ∀ n : Nat, q ^ (m + n) = q ^ m * q ^ n
  | 0 => by rw [Nat.add_zero, show q ^ 0 = (1 : Pl) by grind]; grind
  | n + 1 => by rw [show m + (n + 1) = (m + n) + 1 by omega, show q ^ (m + n + 1) = q ^ (m + n) * q by grind, pow_add' q m n, show q ^ (n + 1) = q ^ n * q by grind]; grind
theorem Val.mul {q A B : Pl} {m n : Nat} (hq : Irr q) (h : Val q A m) (k : Val q B n) : Val q (A * B) (m + n) := by
  obtain ⟨z, hz, A', e1, hA⟩ := h
  obtain ⟨w, hw, B', e2, hB⟩ := k
  refine ⟨z * w, Int.mul_ne_zero hz hw, A' * B', ?_, fun g => ?_⟩
  · rw [C_mul', pow_add']
    grind
  · rcases hq.prime g with g | g
    · exact hA g
    · exact hB g
theorem Val.uniq {q A : Pl} (hq : Irr q) : ∀ {m n : Nat}, Val q A m → Val q A n → m = n := by
  have go : ∀ m n : Nat, m < n → Val q A m → ¬ Val q A n := by
    rintro m n hmn ⟨z, hz, B, e1, hB⟩ ⟨w, hw, B', e2, _⟩
    obtain ⟨k, rfl⟩ : ∃ k, n = m + (k + 1) := ⟨n - m - 1, by omega⟩
    apply hB
    refine ⟨w, hw, C z * (q ^ k * B'), ?_⟩
    refine cancel (hq.pow m) ?_
    rw [pow_add', show q ^ (k + 1) = q ^ k * q by grind] at e2
    grind
  intro m n h k
  rcases Nat.lt_trichotomy m n with c | c | c
  · exact absurd k (go m n c h)
  · exact c
  · exact absurd h (go n m c k)
theorem Val.smul {q A : Pl} {m : Nat} {z : Int} (hz : z ≠ 0) (h : Val q (C z * A) m) : Val q A m := by
  obtain ⟨w, hw, B, e, hB⟩ := h
  exact ⟨w * z, Int.mul_ne_zero hw hz, B, by rw [C_mul']; grind, hB⟩
theorem Val.of_smul {q A : Pl} {m : Nat} (h : Val q A m) {z : Int} (hz : z ≠ 0) : Val q (C z * A) m := by
  obtain ⟨w, hw, B, e, hB⟩ := h
  exact ⟨w, hw, C z * B, by grind, fun g => hB (g.of_smul hz)⟩
/-- a factor of a product -/
theorem Val.div {q A B : Pl} {m n : Nat} (hq : Irr q) (h : Val q (A * B) m) (k : Val q A n) : n ≤ m ∧ Val q B (m - n) := by
  have hB : B ≠ 0 := fun e => h.ne hq (by rw [e]; grind)
  obtain ⟨j, hj⟩ := val_ex hq _ B (Nat.le_refl _) hB
  have := (k.mul hq hj).uniq hq h
  exact ⟨by omega, by rw [show m - n = j by omega]; exact hj⟩
theorem Val.qv {q A : Pl} {m : Nat} (h : Val q A (m + 1)) : Qv q A := by
  obtain ⟨w, hw, B, e, hB⟩ := h
  exact ⟨w, hw, q ^ m * B, by rw [e, show q ^ (m + 1) = q ^ m * q by grind]; grind⟩
theorem Val.zero_iff {q A : Pl} (h : Val q A 0) : ¬ Qv q A := by
  obtain ⟨w, hw, B, e, hB⟩ := h
  intro g
  apply hB
  rw [show q ^ 0 * B = B by grind] at e
  rw [← e]
  exact g.mull _
theorem val_of_not {q A : Pl} (h : ¬ Qv q A) : Val q A 0 := ⟨1, by decide, A, by rw [C_one]; grind, h⟩
/-- the derivative has one factor less -/
theorem Irr.D {q : Pl} (h : Irr q) : ¬ Qv q (D q) := fun g => by
  have hb := h.big
  obtain ⟨n, hn⟩ : ∃ n, sz q = n + 2 := ⟨sz q - 2, by omega⟩
  have hs := sz_D hn
  have hne : PX.D q ≠ 0 := fun e => by rw [sz_zero.mpr e] at hs; omega
  have := (g.sz hne).1
  omega
theorem Val.D {q A : Pl} {m : Nat} (hq : Irr q) (h : Val q A (m + 1)) : Val q (D A) m := by
  obtain ⟨z, hz, B, e, hB⟩ := h
  have e2 : C z * PX.D A = q ^ m * (C ((m : Int) + 1) * (PX.D q * B) + q * PX.D B) := by
    rw [← D_smul, e, D_mul, D_pow, show q ^ (m + 1) = q ^ m * q by grind]
    grind
  refine ⟨z, hz, _, e2, fun g => ?_⟩
  have g2 : Qv q (C ((m : Int) + 1) * (PX.D q * B)) := by
    have := g.sub ((Qv.refl q).mulr (PX.D B))
    rwa [show C ((m : Int) + 1) * (PX.D q * B) + q * PX.D B - q * PX.D B = C ((m : Int) + 1) * (PX.D q * B) by grind] at this
  rcases hq.prime (g2.of_smul (by omega)) with g3 | g3
  · exact hq.D g3
  · exact hB g3
/-- of a greatest common divisor -/
theorem Gcd.val {q G A B : Pl} {m n : Nat} (hq : Irr q) (g : Gcd G A B) (h : Val q A m) (k : Val q B n) : Val q G (min m n) := by
  have hA := h.ne hq
  have hG := g.ne hA
  obtain ⟨j, hj⟩ := val_ex hq _ G (Nat.le_refl _) hG
  have h1 : j ≤ m := by
    obtain ⟨z, hz, r, e⟩ := g.l
    have := h.of_smul hz
    rw [e] at this
    exact (this.div hq hj).1
  have h2 : j ≤ n := by
    obtain ⟨z, hz, r, e⟩ := g.r
    have := k.of_smul hz
    rw [e] at this
    exact (this.div hq hj).1
  have h3 : min m n ≤ j := by
    apply Classical.byContradiction
    intro hc
    obtain ⟨z, U, V, hz, e⟩ := g.bez
    obtain ⟨a, ha, A', eA, _⟩ := h
    obtain ⟨b, hb, B', eB, _⟩ := k
    obtain ⟨w, hw, G', eG, hG'⟩ := hj
    apply hG'
    -- q ^ (j + 1) divides both
    obtain ⟨s, hs⟩ : ∃ s, m = j + (s + 1) := ⟨m - j - 1, by omega⟩
    obtain ⟨t, ht⟩ : ∃ t, n = j + (t + 1) := ⟨n - j - 1, by omega⟩
    rw [hs, pow_add', show q ^ (s + 1) = q ^ s * q by grind] at eA
    rw [ht, pow_add', show q ^ (t + 1) = q ^ t * q by grind] at eB
    refine ⟨z * a * b, Int.mul_ne_zero (Int.mul_ne_zero hz ha) hb, C w * (C b * (q ^ s * (A' * U)) + C a * (q ^ t * (B' * V))), ?_⟩
    refine cancel (hq.pow j) ?_
    rw [C_mul', C_mul']
    grind
  rw [show min m n = j by omega]
  exact hj
theorem Gcd.val0 {q G A B : Pl} (hq : Irr q) (g : Gcd G A B) (hA : A ≠ 0) (h : Val q A 0) : Val q G 0 := by
  refine val_of_not fun k => h.zero_iff ?_
  exact k.trans g.l
end PX
set_option Elab.async false
set_option linter.all false
set_option maxRecDepth 100000
/-! plain: the part without repeated factors. -/
namespace PX
open Pl
theorem Val.one {q : Pl} (hq : Irr q) : Val q 1 0 := val_of_not fun h => by
  have : sz q ≤ sz (C 1) := (h.sz (C_ne (z := 1) (by decide))).1
  rw [sz_C (by decide)] at this
  have := hq.big
  omega
theorem Val.pow {q A : Pl} {m : Nat} (hq : Irr q) (h : Val q A m) : ∀ n : Nat, Val q (A ^ n) (n * m)
  | 0 => by rw [Nat.zero_mul, show A ^ 0 = (1 : Pl) by grind]; exact .one hq
  | n + 1 => by
    rw [show A ^ (n + 1) = A ^ n * A by grind, Nat.succ_mul]
    exact (h.pow hq n).mul hq h
/-- the search for the powers: count, what is left of the factors, what is left of the rest, the root -/
inductive Yun (P : Pl) : Nat → Pl → Pl → Pl → Prop
  | start {W L : Pl} : P = L * W → Gcd L P (D P) → Yun P 1 W L 1
  | step {i : Nat} {W L R G part L' : Pl} : Yun P i W L R → Gcd G W L → W = G * part → L = G * L' → Yun P (i + 1) G L' (R * part ^ (i / 2))
theorem Yun.form {P W L R : Pl} {i : Nat} (h : Yun P i W L R) : ∃ S, P = R * R * S * (W ^ i * L) := by
  induction h with
  | start e _ => exact ⟨1, by rw [e]; grind⟩
  | @step i W L R G part L' h g e1 e2 ih =>
    obtain ⟨S, e⟩ := ih
    refine ⟨S * part ^ (i % 2), ?_⟩
    have h1 : part ^ i = part ^ (i / 2) * part ^ (i / 2) * part ^ (i % 2) := by
      rw [← pow_add', ← pow_add']
      congr 1
      omega
    have h2 : (G * part) ^ i = G ^ i * part ^ i := by
      have go : ∀ n : Nat, (G * part) ^ n = G ^ n * part ^ n := fun n => by
        induction n with
        | zero => grind
        | succ n ih => rw [show (G * part) ^ (n + 1) = (G * part) ^ n * (G * part) by grind, ih, show G ^ (n + 1) = G ^ n * G by grind, show part ^ (n + 1) = part ^ n * part by grind]; grind
      exact go i
    rw [e, e1, h2, h1, e2, show G ^ (i + 1) = G ^ i * G by grind]
    generalize part ^ (i / 2) = a
    generalize part ^ (i % 2) = b
    generalize G ^ i = c
    grind
theorem Yun.vals {P W L R q : Pl} {i e : Nat} (hq : Irr q) (hP : Val q P e) (h : Yun P i W L R) : 1 ≤ i ∧ Val q W (if i ≤ e then 1 else 0) ∧ Val q L (e - i) ∧ Val q R (if e < i then e / 2 else 0) := by
  induction h with
  | @start W L e1 g =>
    have hPn := hP.ne hq
    have hL : Val q L (e - 1) := by
      cases e with
      | zero => exact g.val0 hq hPn hP
      | succ k =>
        have := g.val hq hP (hP.D hq)
        rwa [show min (k + 1) k = k + 1 - 1 by omega] at this
    have hW : Val q W (e - (e - 1)) := by
      rw [e1] at hP
      exact (hP.div hq hL).2
    refine ⟨Nat.le_refl _, ?_, hL, ?_⟩
    · by_cases c : 1 ≤ e
      · rw [if_pos c]; rwa [show e - (e - 1) = 1 by omega] at hW
      · rw [if_neg c]; rwa [show e - (e - 1) = 0 by omega] at hW
    · have : (if e < 1 then e / 2 else 0) = 0 := by split <;> omega
      rw [this]
      exact .one hq
  | @step i W L R G part L' h g e1 e2 ih =>
    obtain ⟨hi, vW, vL, vR⟩ := ih
    have vG : Val q G (if i + 1 ≤ e then 1 else 0) := by
      have := g.val hq vW vL
      have ee : min (if i ≤ e then 1 else 0) (e - i) = (if i + 1 ≤ e then 1 else 0) := by
        by_cases c : i ≤ e
        · rw [if_pos c]
          by_cases d : i + 1 ≤ e
          · rw [if_pos d]; omega
          · rw [if_neg d]; omega
        · rw [if_neg c, if_neg (by omega)]; omega
      rwa [ee] at this
    have vp : Val q part (if i = e then 1 else 0) := by
      rw [e1] at vW
      have := (vW.div hq vG).2
      have ee : (if i ≤ e then 1 else 0) - (if i + 1 ≤ e then 1 else 0) = (if i = e then 1 else 0) := by
        by_cases c : i ≤ e
        · rw [if_pos c]
          by_cases d : i + 1 ≤ e
          · rw [if_pos d, if_neg (by omega)]
          · rw [if_neg d, if_pos (by omega)]
        · rw [if_neg c, if_neg (by omega), if_neg (by omega)]
      rwa [ee] at this
    refine ⟨by omega, vG, ?_, ?_⟩
    · rw [e2] at vL
      have := (vL.div hq vG).2
      have ee : e - i - (if i + 1 ≤ e then 1 else 0) = e - (i + 1) := by
        by_cases d : i + 1 ≤ e
        · rw [if_pos d]; omega
        · rw [if_neg d]; omega
      rwa [ee] at this
    · have := vR.mul hq (vp.pow hq (i / 2))
      have ee : (if e < i then e / 2 else 0) + i / 2 * (if i = e then 1 else 0) = (if e < i + 1 then e / 2 else 0) := by
        by_cases c : i = e
        · rw [if_neg (show ¬ e < i by omega), if_pos c, if_pos (show e < i + 1 by omega), c]; omega
        · rw [if_neg c]
          by_cases d : e < i
          · rw [if_pos d, if_pos (show e < i + 1 by omega)]; omega
          · rw [if_neg d, if_neg (show ¬ e < i + 1 by omega)]; omega
      rwa [ee] at this
/-- no factor stands in f twice -/
def Sqf (f : Pl) : Prop := ∃ (z : Int) (U V : Pl), z ≠ 0 ∧ C z = U * f + V * D f
theorem Yun.sqf {P W L R rest : Pl} {i : Nat} (hP : P ≠ 0) (h : Yun P i W L R) (hW : sz W ≤ 1) {z : Int} (hz : z ≠ 0) (e : C z * P = R * R * rest) : Sqf rest := by
  have hr : rest ≠ 0 := fun w => mul_ne (C_ne hz) hP (by rw [e, w]; grind)
  obtain ⟨G, g⟩ := gcd_ex _ rest (D rest) (Nat.le_refl _)
  have hG := g.ne hr
  by_cases hs : 2 ≤ sz G
  · exfalso
    obtain ⟨q, hq, k⟩ := irr_ex hs
    obtain ⟨n, hn⟩ := val_ex hq _ P (Nat.le_refl _) hP
    obtain ⟨hi, vW, vL, vR⟩ := h.vals hq hn
    have hlt : n < i := by
      apply Classical.byContradiction
      intro c
      rw [if_pos (by omega)] at vW
      have hWn := vW.ne hq
      have := (vW.qv.sz hWn).1
      have := hq.big
      omega
    rw [if_pos hlt] at vR
    have vP := hn.of_smul hz
    rw [e] at vP
    have vr := (vP.div hq (vR.mul hq vR)).2
    have k1 := k.trans g.l
    have k2 := k.trans g.r
    have hm : n - (n / 2 + n / 2) = 0 ∨ n - (n / 2 + n / 2) = 0 + 1 := by omega
    rcases hm with c | c
    · rw [c] at vr
      exact vr.zero_iff k1
    · rw [c] at vr
      exact (vr.D hq).zero_iff k2
  · obtain ⟨z, U, V, hz, e⟩ := g.bez
    obtain ⟨m, hm⟩ := sz_pos hG
    have eg := const_of (f := G) (by omega)
    have hg0 : G.c 0 ≠ 0 := fun w => hG (by rw [eg, w]; exact C_zero)
    refine ⟨z * G.c 0, U, V, Int.mul_ne_zero hz hg0, ?_⟩
    rw [C_mul', ← eg]
    exact e
/-- a square divides it only if it is a constant's -/
theorem Sqf.square {f F K : Pl} (h : Sqf f) {w : Int} (hw : w ≠ 0) (e : C w * f = F * F * K) : sz F ≤ 1 := by
  obtain ⟨z, U, V, hz, e2⟩ := h
  have e3 : C w * D f = F * (D F * K + (F * D K + D F * K)) := by
    rw [← D_smul, e, D_mul, D_mul]
    grind
  have : Qv F (C z) := by
    refine ⟨w, hw, U * (F * K) + V * (D F * K + (F * D K + D F * K)), ?_⟩
    rw [e2]
    grind
  have := (this.sz (C_ne hz)).1
  rw [sz_C hz] at this
  exact this
/-! Gauss -/
def Pr (p : Int) : Prop := 2 ≤ p.natAbs ∧ ∀ a b : Int, p ∣ a * b → p ∣ a ∨ p ∣ b
theorem pr_ex {n : Int} (h : 2 ≤ n.natAbs) : ∃ p, Pr p ∧ p ∣ n := by
  obtain ⟨m, ⟨h1, h2⟩, hm⟩ := least (fun m => 2 ≤ m ∧ m ∣ n.natAbs) ⟨n.natAbs, h, Nat.dvd_refl _⟩
  refine ⟨(m : Int), ⟨h1, fun a b hab => ?_⟩, Int.ofNat_dvd_left.mpr h2⟩
  by_cases ha : (m : Int) ∣ a
  · exact .inl ha
  · right
    have hg : Nat.Coprime m a.natAbs := by
      have g1 : Nat.gcd m a.natAbs ∣ m := Nat.gcd_dvd_left _ _
      have g2 : Nat.gcd m a.natAbs ∣ a.natAbs := Nat.gcd_dvd_right _ _
      have hpos : 0 < Nat.gcd m a.natAbs := Nat.gcd_pos_of_pos_left _ (by omega)
      apply Classical.byContradiction
      intro hc
      have hc2 : Nat.gcd m a.natAbs ≠ 1 := hc
      have := hm _ ⟨by omega, Nat.dvd_trans g1 h2⟩
      have h3 := Nat.le_of_dvd (by omega) g1
      have : Nat.gcd m a.natAbs = m := by omega
      rw [this] at g2
      exact ha (Int.ofNat_dvd_left.mpr g2)
    have hd : m ∣ a.natAbs * b.natAbs := by
      rw [← Int.natAbs_mul]
      exact Int.ofNat_dvd_left.mp hab
    exact Int.ofNat_dvd_left.mpr (hg.dvd_of_dvd_mul_left hd)
theorem conv_low (p : Int) : ∀ (i j : Nat) (f g : Nat → Int), (∀ a, a < i → p ∣ f a) → (∀ b, b < j → p ∣ g b) → p ∣ conv f g (i + j) - f i * g j
  | 0, 0, f, g, _, _ => by
    show p ∣ f 0 * g 0 - f 0 * g 0
    rw [Int.sub_self]; exact Int.dvd_zero _
  | 0, j + 1, f, g, hf, hg => by
    rw [show 0 + (j + 1) = j + 1 by omega, conv_right]
    have ih := conv_low p 0 j f (fun i => g (i + 1)) (fun a h => by omega) (fun b hb => hg (b + 1) (by omega))
    rw [Nat.zero_add] at ih
    have h0 : p ∣ f (j + 1) * g 0 := Int.dvd_mul_of_dvd_right (hg 0 (by omega))
    have := Int.dvd_add h0 ih
    rwa [show f (j + 1) * g 0 + (conv f (fun i => g (i + 1)) j - f 0 * g (j + 1)) = f (j + 1) * g 0 + conv f (fun i => g (i + 1)) j - f 0 * g (j + 1) by omega] at this
  | i + 1, j, f, g, hf, hg => by
    rw [show i + 1 + j = (i + j) + 1 by omega, conv]
    have ih := conv_low p i j (fun i => f (i + 1)) g (fun a h => hf (a + 1) (by omega)) hg
    have h0 : p ∣ f 0 * g (i + j + 1) := Int.dvd_mul_of_dvd_left (hf 0 (by omega))
    have := Int.dvd_add h0 ih
    rwa [show f 0 * g (i + j + 1) + (conv (fun i => f (i + 1)) g (i + j) - f (i + 1) * g j) = f 0 * g (i + j + 1) + conv (fun i => f (i + 1)) g (i + j) - f (i + 1) * g j by omega] at this
theorem pr_mul {p : Int} (hp : Pr p) {f g : Pl} (h : ∀ i, p ∣ (f * g).c i) : (∀ i, p ∣ f.c i) ∨ ∀ i, p ∣ g.c i := by
  apply Classical.byContradiction
  intro hc
  have hf : ∃ i, ¬ p ∣ f.c i := Classical.byContradiction fun z => hc (.inl fun i => Classical.byContradiction fun y => z ⟨i, y⟩)
  have hg : ∃ i, ¬ p ∣ g.c i := Classical.byContradiction fun z => hc (.inr fun i => Classical.byContradiction fun y => z ⟨i, y⟩)
  obtain ⟨i, hi, mi⟩ := least _ hf
  obtain ⟨j, hj, mj⟩ := least _ hg
  have := conv_low p i j f.c g.c (fun a ha => Classical.byContradiction fun z => by have := mi a z; omega) (fun b hb => Classical.byContradiction fun z => by have := mj b z; omega)
  have h2 : p ∣ f.c i * g.c j := by
    have h3 := Int.dvd_sub (h (i + j)) this
    rwa [show (f * g).c (i + j) - (conv f.c g.c (i + j) - f.c i * g.c j) = f.c i * g.c j by show conv f.c g.c (i + j) - _ = _; omega] at h3
  rcases hp.2 _ _ h2 with z | z
  · exact hi z
  · exact hj z
/-- no number divides all coefficients -/
def Prim (g : Pl) : Prop := ∀ d : Int, (∀ i, d ∣ g.c i) → d.natAbs = 1
theorem div_all {p : Int} {f : Pl} (hp : p ≠ 0) (h : ∀ i, p ∣ f.c i) : ∃ g, f = C p * g := by
  refine ⟨⟨fun i => f.c i / p, ?_⟩, Pl.ext fun i => ?_⟩
  · obtain ⟨n, hn⟩ := f.fin
    exact ⟨n, fun i hi => by rw [hn i hi]; exact Int.zero_ediv _⟩
  · rw [c_smul]
    exact (Int.mul_ediv_cancel' (h i)).symm
theorem gauss {g : Pl} (hg : Prim g) : ∀ (n : Nat) (z : Int) (b q : Pl), z.natAbs = n → z ≠ 0 → C z * b = g * q → ∃ q', b = g * q' := by
  intro n
  induction n using Nat.strongRecOn with
  | ind n ih =>
    intro z b q hn hz e
    by_cases h1 : z.natAbs = 1
    · have hzz : z * z = 1 := by
        rcases Int.natAbs_eq z with c | c <;> rw [h1] at c <;> rw [c] <;> rfl
      refine ⟨C z * q, ?_⟩
      have : C z * C z = 1 := by rw [← C_mul', hzz]; rfl
      grind
    · obtain ⟨p, hp, hd⟩ := pr_ex (n := z) (by omega)
      have hp0 : p ≠ 0 := fun w => by have := hp.1; rw [w] at this; simp at this
      obtain ⟨z1, rfl⟩ := hd
      have hall : ∀ i, p ∣ (g * q).c i := fun i => by rw [← e, c_smul, Int.mul_assoc]; exact Int.dvd_mul_right _ _
      have hq : ∀ i, p ∣ q.c i := by
        rcases pr_mul hp hall with c | c
        · have := hg p c
          have := hp.1
          omega
        · exact c
      obtain ⟨q1, rfl⟩ := div_all hp0 hq
      have hz1 : z1 ≠ 0 := fun w => hz (by rw [w]; exact Int.mul_zero _)
      refine ih z1.natAbs ?_ z1 b q1 rfl hz1 ?_
      · rw [← hn, Int.natAbs_mul]
        have := hp.1
        have h0 : 0 < z1.natAbs := by omega
        calc z1.natAbs < 2 * z1.natAbs := by omega
          _ ≤ p.natAbs * z1.natAbs := Nat.mul_le_mul_right _ this
      · refine cancel (C_ne hp0) ?_
        rw [C_mul'] at e
        grind
theorem Qv.dv {g b : Pl} (hg : Prim g) (h : Qv g b) : Dv g b := by
  obtain ⟨z, hz, q, e⟩ := h
  exact gauss hg _ z b q rfl hz e
theorem Prim.mul {f g : Pl} (hf : Prim f) (hg : Prim g) : Prim (f * g) := fun d h => by
  apply Classical.byContradiction
  intro h1
  by_cases h0 : d.natAbs = 0
  · have hd : d = 0 := by omega
    have hz : f * g = 0 := Pl.ext fun i => by rw [c_zero]; exact Int.zero_dvd.mp (hd ▸ h i)
    rcases mul_zero_or hz with c | c
    · have := hf 2 fun i => by rw [c, c_zero]; exact Int.dvd_zero _
      cases this
    · have := hg 2 fun i => by rw [c, c_zero]; exact Int.dvd_zero _
      cases this
  · obtain ⟨p, hp, hd⟩ := pr_ex (n := d) (by omega)
    rcases pr_mul hp fun i => Int.dvd_trans hd (h i) with c | c
    · have := hf p c; have := hp.1; omega
    · have := hg p c; have := hp.1; omega
theorem Prim.left {f g : Pl} (h : Prim (f * g)) : Prim f := fun d hd => h d fun i => by
  by_cases h0 : d = 0
  · have : f = 0 := Pl.ext fun i => by rw [c_zero]; exact Int.zero_dvd.mp (h0 ▸ hd i)
    rw [this, show (0 : Pl) * g = 0 by grind, c_zero]
    exact Int.dvd_zero _
  · obtain ⟨k, rfl⟩ := div_all h0 hd
    rw [show C d * k * g = C d * (k * g) by grind, c_smul]
    exact Int.dvd_mul_right _ _
theorem Prim.right {f g : Pl} (h : Prim (f * g)) : Prim g := by
  rw [Pl.mul_comm'] at h
  exact h.left
theorem Prim.one : Prim 1 := fun d h => by
  have := h 0
  have e : (1 : Pl).c 0 = 1 := rfl
  rw [e] at this
  have := Int.natAbs_dvd_natAbs.mpr this
  exact Nat.dvd_one.mp this
theorem Prim.pow {f : Pl} (h : Prim f) : ∀ n : Nat, Prim (f ^ n)
  | 0 => by rw [show f ^ 0 = (1 : Pl) by grind]; exact .one
  | n + 1 => by rw [show f ^ (n + 1) = f ^ n * f by grind]; exact (h.pow n).mul h
theorem Prim.ne {f : Pl} (h : Prim f) : f ≠ 0 := fun e => by
  have := h 2 fun i => by rw [e, c_zero]; exact Int.dvd_zero _
  cases this
end PX
set_option Elab.async false
set_option linter.all false
set_option maxRecDepth 100000
/-! plain: values at integers; how great the coefficients of a factor are. -/
namespace PX
open Pl
theorem c_X (i : Nat) : X.c i = if i = 1 then 1 else 0 := rfl
theorem sz_lin (a : Int) : sz (X - C a) = 2 := sz_eq (n := 1) (by rw [c_sub, c_X, c_C, if_pos rfl, if_neg (by decide)]; decide) fun i hi => by rw [c_sub, c_X, c_C, if_neg (by omega), if_neg (by omega)]; rfl
theorem lin_ne (a : Int) : X - C a ≠ 0 := fun e => by have := sz_lin a; rw [sz_zero.mpr e] at this; omega
/-- division by x - a -/
theorem horner (a : Int) : ∀ (n : Nat) (f : Pl), sz f ≤ n → ∃ (g : Pl) (r : Int), f = (X - C a) * g + C r ∧ sz g ≤ n - 1 := by
  intro n
  induction n with
  | zero =>
    intro f h
    have : f = 0 := sz_zero.mp (by omega)
    exact ⟨0, 0, by rw [this, C_zero]; grind, by rw [sz_zero.mpr rfl]; omega⟩
  | succ n ih =>
    intro f h
    -- f = c0 + x f1
    obtain ⟨f1, e, h1⟩ : ∃ f1 : Pl, f = C (f.c 0) + X * f1 ∧ sz f1 ≤ n := by
      refine ⟨⟨fun i => f.c (i + 1), n, fun i hi => sz_far f (by omega)⟩, Pl.ext fun i => ?_, sz_le fun i hi => sz_far f (by omega)⟩
      rw [c_add, c_C, X_mul]
      cases i with
      | zero => simp
      | succ i => simp
    obtain ⟨g, r, e2, h2⟩ := ih f1 h1
    refine ⟨X * g + C r, f.c 0 + a * r, ?_, ?_⟩
    · rw [C_add, C_mul']
      grind
    · refine sz_le fun i hi => ?_
      rw [c_add, X_mul, c_C]
      by_cases hn : n = 0
      · have hf1 : f1 = 0 := sz_zero.mp (by omega)
        have hg : g = 0 := sz_zero.mp (by omega)
        rw [hf1, hg] at e2
        have hr : r = 0 := by
          have := congrArg (fun f : Pl => f.c 0) e2
          rw [show (X - C a) * (0 : Pl) + C r = C r by grind] at this
          simpa [c_zero, c_C] using this.symm
        rw [hg, hr, c_zero]
        split <;> rfl
      · rw [if_neg (by omega), if_neg (by omega), sz_far g (by omega)]; rfl
theorem horner_uniq {a : Int} {g g' : Pl} {r r' : Int} (h : (X - C a) * g + C r = (X - C a) * g' + C r') : r = r' := by
  have e : (X - C a) * (g - g') = C (r' - r) := by
    rw [show r' - r = r' + -r by omega, C_add, C_neg]
    grind
  by_cases hg : g - g' = 0
  · rw [hg, show (X - C a) * (0 : Pl) = 0 by grind] at e
    have : r' - r = 0 := Classical.byContradiction fun z => C_ne z e.symm
    omega
  · exfalso
    have := (sz_mul (lin_ne a) hg).1
    rw [sz_lin, e] at this
    obtain ⟨m, hm⟩ := sz_pos hg
    have := sz_C_le (r' - r)
    omega
noncomputable def ev (f : Pl) (a : Int) : Int := Classical.choose (Classical.choose_spec (horner a (sz f) f (Nat.le_refl _)))
theorem ev_spec (f : Pl) (a : Int) : ∃ g, f = (X - C a) * g + C (ev f a) ∧ sz g ≤ sz f - 1 := ⟨_, Classical.choose_spec (Classical.choose_spec (horner a (sz f) f (Nat.le_refl _)))⟩
theorem ev_eq {f g : Pl} {a r : Int} (h : f = (X - C a) * g + C r) : ev f a = r := by
  obtain ⟨g', e, _⟩ := ev_spec f a
  exact horner_uniq (e.symm.trans h)
theorem ev_mul (f g : Pl) (a : Int) : ev (f * g) a = ev f a * ev g a := by
  obtain ⟨f', e, _⟩ := ev_spec f a
  obtain ⟨g', e2, _⟩ := ev_spec g a
  refine ev_eq (g := f' * g + C (ev f a) * g') ?_
  rw [C_mul']
  generalize ev f a = u at *
  generalize ev g a = v at *
  grind
theorem ev_add (f g : Pl) (a : Int) : ev (f + g) a = ev f a + ev g a := by
  obtain ⟨f', e, _⟩ := ev_spec f a
  obtain ⟨g', e2, _⟩ := ev_spec g a
  refine ev_eq (g := f' + g') ?_
  rw [C_add]
  generalize ev f a = u at *
  generalize ev g a = v at *
  grind
theorem ev_C (z a : Int) : ev (C z) a = z := ev_eq (g := 0) (by grind)
theorem ev_X (a : Int) : ev X a = a := ev_eq (g := 1) (by grind)
/-- a polynomial with as many zeros as coefficients -/
theorem roots_le : ∀ (l : List Int) (f : Pl), l.Nodup → (∀ a ∈ l, ev f a = 0) → f ≠ 0 → l.length < sz f
  | [], f, _, _, h => by obtain ⟨n, hn⟩ := sz_pos h; simp; omega
  | a :: l, f, nd, hr, h => by
    obtain ⟨h1, h2⟩ := List.nodup_cons.mp nd
    obtain ⟨g, e, hg⟩ := ev_spec f a
    rw [hr a List.mem_cons_self, C_zero, show (X - C a) * g + 0 = (X - C a) * g by grind] at e
    have hgn : g ≠ 0 := fun z => h (by rw [e, z]; grind)
    have := roots_le l g h2 (fun b hb => by
      have := hr b (List.mem_cons_of_mem _ hb)
      rw [e, ev_mul] at this
      rcases Int.mul_eq_zero.mp this with c | c
      · exfalso
        have e2 : ev (X - C a) b = b - a := by
          rw [show X - C a = X + C (-a) by rw [C_neg]; grind, ev_add, ev_X, ev_C]; omega
        rw [e2] at c
        exact h1 (by rw [show a = b by omega]; exact hb)
      · exact c) hgn
    obtain ⟨n, hn⟩ := sz_pos h
    rw [List.length_cons]
    have := (sz_mul (lin_ne a) hgn).1
    rw [sz_lin, ← e] at this
    omega
/-- small at many places: small coefficients -/
theorem small_of (K : Nat) : ∀ (l : List Int) (f : Pl) (M : Nat), l.Nodup → (∀ a ∈ l, a.natAbs ≤ K) → sz f ≤ l.length → (∀ a ∈ l, (ev f a).natAbs ≤ M) → ∀ i, (f.c i).natAbs ≤ M * (2 * K + 3) ^ l.length
  | [], f, M, _, _, hs, _ => fun i => by rw [sz_far f (by simp at hs; omega)]; simp
  | a :: l, f, M, nd, hK, hs, hM => by
    obtain ⟨h1, h2⟩ := List.nodup_cons.mp nd
    obtain ⟨g, e, hg⟩ := ev_spec f a
    have hsg : sz g ≤ l.length := by rw [List.length_cons] at hs; omega
    have hb : ∀ b ∈ l, (ev g b).natAbs ≤ 2 * M := fun b hb => by
      have e2 : ev (X - C a) b = b - a := by
        rw [show X - C a = X + C (-a) by rw [C_neg]; grind, ev_add, ev_X, ev_C]; omega
      have e3 : ev f b = (b - a) * ev g b + ev f a := by
        have e4 : ev f b = ev ((X - C a) * g + C (ev f a)) b := congrArg (fun f => ev f b) e
        rw [ev_add, ev_mul, ev_C, e2] at e4
        exact e4
      have hne : b - a ≠ 0 := fun z => h1 (by rw [show a = b by omega]; exact hb)
      have h3 := hM b (List.mem_cons_of_mem _ hb)
      have h4 := hM a List.mem_cons_self
      have h5 : ((b - a) * ev g b).natAbs ≤ 2 * M := by
        have : (b - a) * ev g b = ev f b - ev f a := by omega
        rw [this]; omega
      rw [Int.natAbs_mul] at h5
      have h6 : 1 ≤ (b - a).natAbs := by omega
      calc (ev g b).natAbs = 1 * (ev g b).natAbs := by omega
        _ ≤ (b - a).natAbs * (ev g b).natAbs := Nat.mul_le_mul_right _ h6
        _ ≤ 2 * M := h5
    have ih := small_of K l g (2 * M) h2 (fun b hb => hK b (List.mem_cons_of_mem _ hb)) hsg hb
    intro i
    have ei : f.c i = (if i = 0 then 0 else g.c (i - 1)) - a * g.c i + (if i = 0 then ev f a else 0) := by
      have e5 : f.c i = ((X - C a) * g + C (ev f a)).c i := congrArg (fun f : Pl => f.c i) e
      rw [show (X - C a) * g + C (ev f a) = X * g - C a * g + C (ev f a) by grind, c_add, c_sub, X_mul, c_smul, c_C] at e5
      exact e5
    have g1 := ih i
    have g2 := ih (i - 1)
    have g3 := hM a List.mem_cons_self
    have ha := hK a List.mem_cons_self
    have hpos : 1 ≤ (2 * K + 3) ^ l.length := Nat.pow_pos (by omega)
    rw [ei, List.length_cons, Nat.pow_succ]
    generalize (2 * K + 3) ^ l.length = E at *
    have t1 : (if i = 0 then (0 : Int) else g.c (i - 1)).natAbs ≤ 2 * M * E := by split <;> omega
    have t2 : (a * g.c i).natAbs ≤ K * (2 * M * E) := by rw [Int.natAbs_mul]; exact Nat.mul_le_mul ha g1
    have t3 : (if i = 0 then ev f a else 0).natAbs ≤ M * E := by
      split
      · exact Nat.le_trans g3 (Nat.le_mul_of_pos_right _ hpos)
      · simp
    have e6 : M * (E * (2 * K + 3)) = 2 * M * E + K * (2 * M * E) + M * E := by grind
    rw [e6]
    omega
/-- enough places where f is not zero -/
theorem places : ∀ (l : List Int) (f : Pl), l.Nodup → f ≠ 0 → ∃ m : List Int, m.Nodup ∧ (∀ a ∈ m, a ∈ l ∧ ev f a ≠ 0) ∧ l.length < m.length + sz f := by
  intro l f nd hf
  refine ⟨l.filter fun a => decide (ev f a ≠ 0), nd.sublist List.filter_sublist, fun a ha => ?_, ?_⟩
  · have := List.mem_filter.mp ha
    exact ⟨this.1, of_decide_eq_true this.2⟩
  · have h1 := roots_le (l.filter fun a => !decide (ev f a ≠ 0)) f (nd.sublist List.filter_sublist) (fun a ha => by
      have := (List.mem_filter.mp ha).2
      simpa using this) hf
    have h2 : (l.filter fun a => decide (ev f a ≠ 0)).length + (l.filter fun a => !decide (ev f a ≠ 0)).length = l.length := by
      clear h1 nd
      induction l with
      | nil => rfl
      | cons a l ih =>
        by_cases c : ev f a ≠ 0
        · rw [List.filter_cons_of_pos (by simpa using c), List.filter_cons_of_neg (by simpa using c), List.length_cons, List.length_cons]; omega
        · rw [List.filter_cons_of_neg (by simpa using c), List.filter_cons_of_pos (by simpa using c), List.length_cons, List.length_cons]; omega
    omega
def spread (n : Nat) : List Int := (List.range n).map fun i : Nat => (i : Int) - ((n / 2 : Nat) : Int)
theorem spread_nd (n : Nat) : (spread n).Nodup := by
  unfold spread
  rw [List.Nodup, List.pairwise_map]
  exact List.nodup_range.imp fun h => by omega
theorem spread_le (n : Nat) : ∀ a ∈ spread n, a.natAbs ≤ n / 2 + 1 := fun a ha => by
  obtain ⟨i, hi, rfl⟩ := List.mem_map.mp ha
  have := List.mem_range.mp hi
  omega
/-- the values of a polynomial at small places -/
theorem ev_le {K B : Nat} (hK : 1 ≤ K) : ∀ (n : Nat) (f : Pl) (a : Int), sz f ≤ n → (∀ i, (f.c i).natAbs ≤ B) → a.natAbs ≤ K → (ev f a).natAbs ≤ B * (K + 1) ^ n := by
  intro n
  induction n with
  | zero =>
    intro f a h _ _
    have : f = 0 := sz_zero.mp (by omega)
    rw [this, ← C_zero, ev_C]
    simp
  | succ n ih =>
    intro f a h hB ha
    obtain ⟨f1, e, h1, hc⟩ : ∃ f1 : Pl, f = C (f.c 0) + X * f1 ∧ sz f1 ≤ n ∧ ∀ i, f1.c i = f.c (i + 1) := by
      refine ⟨⟨fun i => f.c (i + 1), n, fun i hi => sz_far f (by omega)⟩, Pl.ext fun i => ?_, sz_le fun i hi => sz_far f (by omega), fun i => rfl⟩
      rw [c_add, c_C, X_mul]
      cases i with
      | zero => simp
      | succ i => simp
    have g := ih f1 a h1 (fun i => by rw [hc]; exact hB _) ha
    have e2 : ev f a = f.c 0 + a * ev f1 a := by
      have this : ev f a = ev (C (f.c 0) + X * f1) a := congrArg (fun f => ev f a) e
      rw [ev_add, ev_mul, ev_C, ev_X] at this
      exact this
    rw [e2, Nat.pow_succ]
    have h0 := hB 0
    have h2 : (a * ev f1 a).natAbs ≤ K * (B * (K + 1) ^ n) := by rw [Int.natAbs_mul]; exact Nat.mul_le_mul ha g
    have h3 : B ≤ B * (K + 1) ^ n := Nat.le_mul_of_pos_right _ (Nat.pow_pos (by omega))
    have e3 : B * ((K + 1) ^ n * (K + 1)) = K * (B * (K + 1) ^ n) + B * (K + 1) ^ n := by grind
    rw [e3]
    omega
/-- the coefficients of a factor -/
def facB (n B : Nat) : Nat := B * (n + 2) ^ n * (2 * n + 5) ^ n
theorem factor_le {P f g : Pl} (hP : P ≠ 0) (e : P = f * g) {n B : Nat} (hn : sz P ≤ n) (hB : ∀ i, (P.c i).natAbs ≤ B) : ∀ i, (f.c i).natAbs ≤ facB n B := by
  have hf : f ≠ 0 := fun z => hP (by rw [e, z]; grind)
  have hg : g ≠ 0 := fun z => hP (by rw [e, z]; grind)
  have hs := (sz_mul hf hg).1
  rw [← e] at hs
  obtain ⟨gn, hgn⟩ := sz_pos hg
  obtain ⟨m, m1, m2, m3⟩ := places (spread (2 * n)) P (spread_nd _) hP
  have hlen : (spread (2 * n)).length = 2 * n := by unfold spread; simp
  -- take as many places as f has coefficients
  have hml : sz f ≤ m.length := by omega
  have hle : (m.take (sz f)).length = sz f := by rw [List.length_take]; omega
  obtain ⟨pn, hpn⟩ := sz_pos hP
  intro i
  have := small_of (n + 1) (m.take (sz f)) f (B * (n + 2) ^ n) (m1.sublist (List.take_sublist _ _)) (fun a ha => by
    have := spread_le _ a (m2 a (List.mem_of_mem_take ha)).1
    omega) (by omega) (fun a ha => by
    obtain ⟨h1, h2⟩ := m2 a (List.mem_of_mem_take ha)
    have h3 := spread_le _ a h1
    have h4 := ev_le (K := n + 1) (B := B) (by omega) n P a hn hB (by omega)
    rw [e, ev_mul] at h2 h4
    have h5 : ev g a ≠ 0 := fun z => h2 (by rw [z]; exact Int.mul_zero _)
    rw [Int.natAbs_mul] at h4
    have h6 : 1 ≤ (ev g a).natAbs := by omega
    calc (ev f a).natAbs = (ev f a).natAbs * 1 := by omega
      _ ≤ (ev f a).natAbs * (ev g a).natAbs := Nat.mul_le_mul_left _ h6
      _ ≤ _ := h4) i
  refine Nat.le_trans this ?_
  unfold facB
  rw [hle]
  refine Nat.mul_le_mul_left _ ?_
  rw [show 2 * (n + 1) + 3 = 2 * n + 5 by omega]
  exact Nat.pow_le_pow_right (by omega) (by omega)
end PX
set_option Elab.async false
set_option linter.all false
set_option maxRecDepth 100000
/-! plain: small solutions; how great a remainder is. -/
namespace PX
open Pl
/-! all rows of a length with entries from a list -/
def vecs (S : List Int) : Nat → List (List Int)
  | 0 => [[]]
  | n + 1 => S.flatMap fun a => (vecs S n).map (a :: ·)
theorem vecs_len (S : List Int) : ∀ n, (vecs S n).length = S.length ^ n
  | 0 => rfl
  | n + 1 => by
    have go : ∀ T : List Int, (T.flatMap fun a => (vecs S n).map (a :: ·)).length = T.length * S.length ^ n := fun T => by
      induction T with
      | nil => simp
      | cons a T ih => rw [List.flatMap_cons, List.length_append, List.length_map, vecs_len S n, ih, List.length_cons, Nat.add_mul]; omega
    show (S.flatMap fun a => (vecs S n).map (a :: ·)).length = _
    rw [go S, Nat.pow_succ, Nat.mul_comm]
theorem mem_vecs {S : List Int} : ∀ {n : Nat} {v : List Int}, v ∈ vecs S n ↔ v.length = n ∧ ∀ x ∈ v, x ∈ S
  | 0, v => by
    show v ∈ [[]] ↔ _
    rw [List.mem_singleton]
    constructor
    · rintro rfl; exact ⟨rfl, fun x hx => nomatch hx⟩
    · rintro ⟨h, _⟩; exact List.length_eq_zero_iff.mp h
  | n + 1, v => by
    show v ∈ (S.flatMap fun a => (vecs S n).map (a :: ·)) ↔ _
    rw [List.mem_flatMap]
    constructor
    · rintro ⟨a, ha, h⟩
      obtain ⟨w, hw, rfl⟩ := List.mem_map.mp h
      obtain ⟨h1, h2⟩ := mem_vecs.mp hw
      refine ⟨by rw [List.length_cons, h1], fun x hx => ?_⟩
      cases hx with
      | head => exact ha
      | tail _ hx => exact h2 x hx
    · rintro ⟨h1, h2⟩
      cases v with
      | nil => cases h1
      | cons a w => exact ⟨a, h2 a List.mem_cons_self, List.mem_map.mpr ⟨w, mem_vecs.mpr ⟨by simpa using h1, fun x hx => h2 x (List.mem_cons_of_mem _ hx)⟩, rfl⟩⟩
theorem vecs_nd {S : List Int} (hS : S.Nodup) : ∀ n, (vecs S n).Nodup
  | 0 => by show [[]].Nodup; simp
  | n + 1 => by
    have ih := vecs_nd hS n
    show (S.flatMap fun a => (vecs S n).map (a :: ·)).Nodup
    have go : ∀ T : List Int, T.Nodup → (T.flatMap fun a => (vecs S n).map (a :: ·)).Nodup := fun T => by
      induction T with
      | nil => intro _; simp
      | cons a T ihT =>
        intro hT
        obtain ⟨h1, h2⟩ := List.nodup_cons.mp hT
        rw [List.flatMap_cons, List.nodup_append]
        refine ⟨?_, ihT h2, fun x hx y hy => ?_⟩
        · rw [List.Nodup, List.pairwise_map]
          exact ih.imp fun h e => h (by injection e)
        · obtain ⟨w, _, rfl⟩ := List.mem_map.mp hx
          obtain ⟨b, hb, hy⟩ := List.mem_flatMap.mp hy
          obtain ⟨w', _, rfl⟩ := List.mem_map.mp hy
          intro e
          injection e with e1 e2
          exact h1 (e1 ▸ hb)
    exact go S hS
theorem nd_le {α : Type} [DecidableEq α] : ∀ {l m : List α}, l.Nodup → (∀ x ∈ l, x ∈ m) → l.length ≤ m.length
  | [], m, _, _ => Nat.zero_le _
  | x :: l, m, nd, h => by
    obtain ⟨h1, h2⟩ := List.nodup_cons.mp nd
    have hx := h x List.mem_cons_self
    have := nd_le (m := m.erase x) h2 fun y hy => (List.mem_erase_of_ne (fun z : y = x => h1 (by rw [← z]; exact hy))).mpr (h y (List.mem_cons_of_mem _ hy))
    rw [List.length_erase_of_mem hx] at this
    have := List.length_pos_of_mem hx
    rw [List.length_cons]
    omega
theorem pigeon {α β : Type} [DecidableEq β] {D : List α} (nd : D.Nodup) {T : List β} (g : α → β) (hg : ∀ x ∈ D, g x ∈ T) (hl : T.length < D.length) : ∃ x ∈ D, ∃ y ∈ D, x ≠ y ∧ g x = g y := by
  apply Classical.byContradiction
  intro hc
  have hp : (D.map g).Nodup := by
    rw [List.Nodup, List.pairwise_map]
    refine List.Pairwise.imp_of_mem (fun {a b} ha hb hne e => hc ⟨a, ha, b, hb, hne, e⟩) nd
  have := nd_le hp fun z hz => by
    obtain ⟨x, hx, rfl⟩ := List.mem_map.mp hz
    exact hg x hx
  rw [List.length_map] at this
  omega
/-! lists as polynomials -/
def lcf (l : List Int) (i : Nat) : Int := l.getD i 0
def ofL (l : List Int) : Pl := ⟨lcf l, l.length, fun i hi => by unfold lcf; rw [List.getD_eq_getElem?_getD, List.getElem?_eq_none hi]; rfl⟩
theorem ofL_sz (l : List Int) : sz (ofL l) ≤ l.length := sz_le fun i hi => by show lcf l i = 0; unfold lcf; rw [List.getD_eq_getElem?_getD, List.getElem?_eq_none hi]; rfl
theorem ofL_mem {l : List Int} {P : Int → Prop} (h0 : P 0) (h : ∀ x ∈ l, P x) (i : Nat) : P ((ofL l).c i) := by
  show P (lcf l i)
  unfold lcf
  rw [List.getD_eq_getElem?_getD]
  cases e : l[i]? with
  | none => exact h0
  | some x => exact h x (List.mem_of_getElem? e)
theorem ofL_inj {l m : List Int} (hl : l.length = m.length) (h : ofL l = ofL m) : l = m := List.ext_getElem? fun i => by
  have e : lcf l i = lcf m i := congrArg (fun f : Pl => f.c i) h
  unfold lcf at e
  rw [List.getD_eq_getElem?_getD, List.getD_eq_getElem?_getD] at e
  by_cases hi : i < l.length
  · rw [List.getElem?_eq_getElem hi, List.getElem?_eq_getElem (by omega)] at e ⊢
    exact congrArg some e
  · rw [List.getElem?_eq_none (by omega), List.getElem?_eq_none (by omega)]
theorem conv_le {H K : Nat} : ∀ (k n : Nat) (f g : Nat → Int), (∀ j, k ≤ j → f j = 0) → (∀ j, (f j).natAbs ≤ H) → (∀ j, (g j).natAbs ≤ K) → (conv f g n).natAbs ≤ k * (H * K)
  | 0, n, f, g, h0, _, _ => by
    rw [show f = fun _ => 0 from funext fun j => h0 j (by omega), conv_zerol]; simp
  | k + 1, 0, f, g, h0, hf, hg => by
    show (f 0 * g 0).natAbs ≤ _
    rw [Int.natAbs_mul, Nat.add_mul]
    have := Nat.mul_le_mul (hf 0) (hg 0)
    omega
  | k + 1, n + 1, f, g, h0, hf, hg => by
    have ih := conv_le (H := H) (K := K) k n (fun i => f (i + 1)) g (fun j hj => h0 (j + 1) (by omega)) (fun j => hf (j + 1)) hg
    show (f 0 * g (n + 1) + conv (fun i => f (i + 1)) g n).natAbs ≤ _
    have h1 : (f 0 * g (n + 1)).natAbs ≤ H * K := by rw [Int.natAbs_mul]; exact Nat.mul_le_mul (hf 0) (hg (n + 1))
    rw [Nat.add_mul]
    omega
theorem mul_le {f g : Pl} {k H K : Nat} (hk : sz f ≤ k) (hf : ∀ j, (f.c j).natAbs ≤ H) (hg : ∀ j, (g.c j).natAbs ≤ K) (n : Nat) : ((f * g).c n).natAbs ≤ k * (H * K) := conv_le k n f.c g.c (fun j hj => sz_far f (by omega)) hf hg
/-- small U, V with U A + V B short -/
def sieB (N K : Nat) : Nat := (2 * N * K) ^ (N - 1)
theorem siegel {A B : Pl} {a b t K : Nat} (hA : sz A ≤ b + t) (hB : sz B ≤ a + t) (h1 : 1 ≤ a + b) (hK : 1 ≤ K) (kA : ∀ j, (A.c j).natAbs ≤ K) (kB : ∀ j, (B.c j).natAbs ≤ K) :
    ∃ U V : Pl, sz U ≤ a ∧ sz V ≤ b ∧ ¬ (U = 0 ∧ V = 0) ∧ (∀ j, (U.c j).natAbs ≤ sieB (a + b) K) ∧ (∀ j, (V.c j).natAbs ≤ sieB (a + b) K) ∧ sz (U * A + V * B) ≤ t := by
  obtain ⟨N, hN⟩ : ∃ N, N = a + b := ⟨_, rfl⟩
  obtain ⟨M, hM⟩ : ∃ M, N = M + 1 := ⟨N - 1, by omega⟩
  obtain ⟨H, hH⟩ : ∃ H, H = (2 * N * K) ^ M := ⟨_, rfl⟩
  have hHs : sieB (a + b) K = H := by unfold sieB; rw [← hN, hH, hM]; rfl
  rw [hHs]
  -- the rows 0 .. H, and the values they lead to
  let S : List Int := (List.range (H + 1)).map fun i : Nat => (i : Int)
  let W : Nat := N * (H * K)
  let S' : List Int := (List.range (2 * W + 1)).map fun i : Nat => (i : Int) - (W : Int)
  let F : List Int → Pl := fun v => ofL (v.take a) * A + ofL (v.drop a) * B
  let g : List Int → List Int := fun v => (List.range M).map fun i => (F v).c (t + i)
  have Snd : S.Nodup := by
    show ((List.range (H + 1)).map fun i : Nat => (i : Int)).Nodup
    rw [List.Nodup, List.pairwise_map]
    exact List.nodup_range.imp fun h e => h (by omega)
  have Smem : ∀ x ∈ S, 0 ≤ x ∧ x ≤ H := fun x hx => by
    obtain ⟨i, hi, rfl⟩ := List.mem_map.mp hx
    have := List.mem_range.mp hi
    omega
  have hval : ∀ v ∈ vecs S N, ∀ i, ((F v).c i).natAbs ≤ W := fun v hv i => by
    obtain ⟨v1, v2⟩ := mem_vecs.mp hv
    have u1 : ∀ j, ((ofL (v.take a)).c j).natAbs ≤ H := ofL_mem (P := fun x => x.natAbs ≤ H) (by simp) fun x hx => by
      have := Smem x (v2 x (List.mem_of_mem_take hx)); omega
    have u2 : ∀ j, ((ofL (v.drop a)).c j).natAbs ≤ H := ofL_mem (P := fun x => x.natAbs ≤ H) (by simp) fun x hx => by
      have := Smem x (v2 x (List.mem_of_mem_drop hx)); omega
    have l1 : sz (ofL (v.take a)) ≤ a := Nat.le_trans (ofL_sz _) (by rw [List.length_take]; omega)
    have l2 : sz (ofL (v.drop a)) ≤ b := Nat.le_trans (ofL_sz _) (by rw [List.length_drop]; omega)
    have m1 := mul_le l1 u1 kA i
    have m2 := mul_le l2 u2 kB i
    show ((ofL (v.take a) * A + ofL (v.drop a) * B).c i).natAbs ≤ N * (H * K)
    rw [c_add, hN, Nat.add_mul]
    omega
  have hg : ∀ v ∈ vecs S N, g v ∈ vecs S' M := fun v hv => by
    refine mem_vecs.mpr ⟨by show ((List.range M).map _).length = M; simp, fun x hx => ?_⟩
    obtain ⟨i, hi, rfl⟩ := List.mem_map.mp hx
    have := hval v hv (t + i)
    refine List.mem_map.mpr ⟨((F v).c (t + i) + W).toNat, List.mem_range.mpr (by omega), by omega⟩
  have hlen : (vecs S' M).length < (vecs S N).length := by
    rw [vecs_len, vecs_len]
    have e1 : S.length = H + 1 := by show ((List.range (H + 1)).map _).length = _; simp
    have e2 : S'.length = 2 * W + 1 := by show ((List.range (2 * W + 1)).map _).length = _; simp
    rw [e1, e2, hM, Nat.pow_succ]
    have hNK : 1 ≤ 2 * N * K := by
      have : 1 ≤ 2 * N := by omega
      exact Nat.mul_le_mul this hK
    have h2 : 2 * W + 1 ≤ 2 * N * K * (H + 1) := by
      show 2 * (N * (H * K)) + 1 ≤ _
      have : 2 * N * K * (H + 1) = 2 * (N * (H * K)) + 2 * N * K := by grind
      omega
    have h3 : (2 * W + 1) ^ M ≤ (2 * N * K) ^ M * (H + 1) ^ M := by
      rw [← Nat.mul_pow]
      exact Nat.pow_le_pow_left h2 M
    have h4 : 0 < (H + 1) ^ M := Nat.pow_pos (by omega)
    calc (2 * W + 1) ^ M ≤ (2 * N * K) ^ M * (H + 1) ^ M := h3
      _ = H * (H + 1) ^ M := by rw [hH]
      _ < (H + 1) ^ M * (H + 1) := by rw [Nat.mul_comm ((H + 1) ^ M)]; exact Nat.mul_lt_mul_of_pos_right (by omega) h4
  obtain ⟨x, hx, y, hy, hne, he⟩ := pigeon (vecs_nd Snd N) g hg hlen
  obtain ⟨x1, x2⟩ := mem_vecs.mp hx
  obtain ⟨y1, y2⟩ := mem_vecs.mp hy
  have dif : ∀ (u v : List Int), (∀ z ∈ u, z ∈ S) → (∀ z ∈ v, z ∈ S) → ∀ j, ((ofL u - ofL v).c j).natAbs ≤ H := fun u v hu hv j => by
    have a1 := ofL_mem (P := fun x => 0 ≤ x ∧ x ≤ (H : Int)) (by omega) (fun z hz => Smem z (hu z hz)) j
    have a2 := ofL_mem (P := fun x => 0 ≤ x ∧ x ≤ (H : Int)) (by omega) (fun z hz => Smem z (hv z hz)) j
    rw [c_sub]
    omega
  refine ⟨ofL (x.take a) - ofL (y.take a), ofL (x.drop a) - ofL (y.drop a), ?_, ?_, ?_, ?_, ?_, ?_⟩
  · refine Nat.le_trans (sz_sub _ _) ?_
    have l1 := ofL_sz (x.take a)
    have l2 := ofL_sz (y.take a)
    rw [List.length_take] at l1 l2
    omega
  · refine Nat.le_trans (sz_sub _ _) ?_
    have l1 := ofL_sz (x.drop a)
    have l2 := ofL_sz (y.drop a)
    rw [List.length_drop] at l1 l2
    omega
  · rintro ⟨z1, z2⟩
    apply hne
    have w1 : x.take a = y.take a := ofL_inj (by rw [List.length_take, List.length_take]; omega) (by grind)
    have w2 : x.drop a = y.drop a := ofL_inj (by rw [List.length_drop, List.length_drop]; omega) (by grind)
    rw [← List.take_append_drop a x, ← List.take_append_drop a y, w1, w2]
  · exact dif _ _ (fun z hz => x2 z (List.mem_of_mem_take hz)) (fun z hz => y2 z (List.mem_of_mem_take hz))
  · exact dif _ _ (fun z hz => x2 z (List.mem_of_mem_drop hz)) (fun z hz => y2 z (List.mem_of_mem_drop hz))
  · refine sz_le fun i hi => ?_
    have e : (ofL (x.take a) - ofL (y.take a)) * A + (ofL (x.drop a) - ofL (y.drop a)) * B = F x - F y := by
      show _ = (ofL (x.take a) * A + ofL (x.drop a) * B) - (ofL (y.take a) * A + ofL (y.drop a) * B)
      grind
    rw [e, c_sub]
    by_cases hi2 : i < t + M
    · have h5 : (g x)[i - t]? = (g y)[i - t]? := by rw [he]
      have h6 : ∀ v, (g v)[i - t]? = some ((F v).c i) := fun v => by
        show ((List.range M).map fun i => (F v).c (t + i))[i - t]? = _
        rw [List.getElem?_map, List.getElem?_range (by omega)]
        show some ((F v).c (t + (i - t))) = _
        rw [show t + (i - t) = i by omega]
      rw [h6, h6] at h5
      have := Option.some.inj h5
      omega
    · have far : ∀ v ∈ vecs S N, (F v).c i = 0 := fun v hv => by
        obtain ⟨v1, v2⟩ := mem_vecs.mp hv
        have l1 : sz (ofL (v.take a)) ≤ a := Nat.le_trans (ofL_sz _) (by rw [List.length_take]; omega)
        have l2 : sz (ofL (v.drop a)) ≤ b := Nat.le_trans (ofL_sz _) (by rw [List.length_drop]; omega)
        show (ofL (v.take a) * A + ofL (v.drop a) * B).c i = 0
        have f1 : (ofL (v.take a) * A).c i = 0 := conv_far i _ _ a (b + t) (fun j hj => sz_far _ (by omega)) (fun j hj => sz_far _ (by omega)) (by omega)
        have f2 : (ofL (v.drop a) * B).c i = 0 := conv_far i _ _ b (a + t) (fun j hj => sz_far _ (by omega)) (fun j hj => sz_far _ (by omega)) (by omega)
        rw [c_add, f1, f2]; rfl
      rw [far x hx, far y hy]; rfl
end PX
set_option Elab.async false
set_option linter.all false
set_option maxRecDepth 100000
/-! plain: rows of remainders. -/
namespace PX
open Pl
theorem sz_mul_le (f g : Pl) : sz (f * g) ≤ sz f + sz g - 1 := by
  by_cases hf : f = 0
  · rw [hf, show (0 : Pl) * g = 0 by grind, sz_zero.mpr rfl]; omega
  · by_cases hg : g = 0
    · rw [hg, show f * (0 : Pl) = 0 by grind, sz_zero.mpr rfl]; omega
    · have := (sz_mul hf hg).1
      omega
structure Prs (A B Rp R : Pl) : Prop where
  ex : ∃ (w' w δ : Int) (u' v' u v : Pl), w' ≠ 0 ∧ w ≠ 0 ∧ δ ≠ 0 ∧ C w' * Rp = u' * A + v' * B ∧ C w * R = u * A + v * B ∧ u * v' - u' * v = C δ ∧ sz v + sz Rp ≤ sz A + 1 ∧ sz v' + sz Rp ≤ sz A + 1
  le : sz R ≤ sz Rp
theorem Prs.start {A B : Pl} (h : sz B ≤ sz A) : Prs A B A B := ⟨⟨1, 1, -1, 1, 0, 0, 1, by decide, by decide, by decide, by rw [C_one]; grind, by rw [C_one]; grind, by rw [C_neg, C_one]; grind, by rw [show (1 : Pl) = C 1 from rfl, sz_C (by decide)]; omega, by rw [sz_zero.mpr rfl]; omega⟩, h⟩
theorem Prs.step {A B Rp R Q T R' : Pl} {c m : Int} (h : Prs A B Rp R) (hc : c ≠ 0) (hm : m ≠ 0) (e : C c * Rp = Q * R + T) (eT : T = C m * R') (hs : sz R' ≤ sz R) (hQ : sz Q + sz R ≤ sz Rp + 1) : Prs A B R R' := by
  obtain ⟨⟨w', w, δ, u', v', u, v, hw', hw, hδ, e1, e2, e3, s1, s2⟩, hle⟩ := h
  refine ⟨⟨w, w * w' * m, -(c * w * δ), u, v, C (c * w) * u' - C w' * (Q * u), C (c * w) * v' - C w' * (Q * v), hw, Int.mul_ne_zero (Int.mul_ne_zero hw hw') hm, ?_, e2, ?_, ?_, ?_, ?_⟩, hs⟩
  · have := Int.mul_ne_zero (Int.mul_ne_zero hc hw) hδ
    omega
  · simp only [C_mul']
    grind
  · simp only [C_neg, C_mul']
    grind
  · have q1 : sz (C (c * w) * v') ≤ sz v' := by rw [sz_smul (Int.mul_ne_zero hc hw)]; exact Nat.le_refl _
    have q2 : sz (C w' * (Q * v)) ≤ sz Q + sz v - 1 := by rw [sz_smul hw']; exact sz_mul_le _ _
    have q3 := sz_sub (C (c * w) * v') (C w' * (Q * v))
    by_cases hv : sz v = 0
    · have hv0 := sz_zero.mp hv
      have : sz (C w' * (Q * v)) = 0 := by rw [hv0, show C w' * (Q * (0 : Pl)) = 0 by grind]; exact sz_zero.mpr rfl
      omega
    · omega
  · omega
/-- the bound on remainders -/
def remB (N K : Nat) : Nat := N * (sieB N K * K)
theorem Prs.small {A B Rp R : Pl} (h : Prs A B Rp R) (hR : Prim R) (hlt : sz R < sz Rp) (hp : sz Rp ≤ sz A) (hB : sz R ≤ sz B) {K : Nat} (hK : 1 ≤ K) (kA : ∀ j, (A.c j).natAbs ≤ K) (kB : ∀ j, (B.c j).natAbs ≤ K) :
    ∀ i, (R.c i).natAbs ≤ remB (sz A + sz B - 2 * sz R) K := by
  obtain ⟨⟨w', w, δ, u', v', u, v, hw', hw, hδ, e1, e2, e3, s1, s2⟩, hle⟩ := h
  have hRn := hR.ne
  have hAn : A ≠ 0 := fun z => by rw [sz_zero.mpr z] at hp; omega
  obtain ⟨U, V, l1, l2, hne, k1, k2, hT⟩ := siegel (A := A) (B := B) (a := sz B - sz R) (b := sz A - sz R) (t := sz R) (K := K) (by omega) (by omega) (by omega) hK kA kB
  have eN : sz B - sz R + (sz A - sz R) = sz A + sz B - 2 * sz R := by omega
  rw [eN] at k1 k2
  obtain ⟨T, hTd⟩ : ∃ T, T = U * A + V * B := ⟨_, rfl⟩
  rw [← hTd] at hT
  -- U v = u V
  have hz : (U * v - u * V) * A = T * v - C w * R * V := by rw [hTd]; grind
  have hzz : U * v - u * V = 0 := by
    apply Classical.byContradiction
    intro hn
    have h1 := (sz_mul hn hAn).1
    obtain ⟨x, hx⟩ := sz_pos hn
    have h2 := sz_sub (T * v) (C w * R * V)
    have h3 := sz_mul_le T v
    have h4 : sz (C w * R * V) ≤ sz R + sz V - 1 := by rw [show C w * R * V = C w * (R * V) by grind, sz_smul hw]; exact sz_mul_le _ _
    rw [← hz] at h2
    omega
  -- T is a multiple of R
  have hl : C δ * T = (U * v' - u' * V) * (C w * R) := by
    rw [hTd, e2]
    grind
  have hTn : T ≠ 0 := fun z => by
    apply hne
    have hlam : U * v' - u' * V = 0 := by
      rw [z, show C δ * (0 : Pl) = 0 by grind] at hl
      rcases mul_zero_or hl.symm with q | q
      · exact q
      · exact absurd q (mul_ne (C_ne hw) hRn)
    have hU : C δ * U = 0 := by grind
    have hV : C δ * V = 0 := by grind
    exact ⟨(mul_zero_or hU).resolve_left (C_ne hδ), (mul_zero_or hV).resolve_left (C_ne hδ)⟩
  have hq : Qv R T := ⟨δ, hδ, (U * v' - u' * V) * C w, by rw [hl]; grind⟩
  obtain ⟨k, ek⟩ := hq.dv hR
  have hkn : k ≠ 0 := fun z => hTn (by rw [ek, z]; grind)
  have hks := (sz_mul hRn hkn).1
  rw [← ek] at hks
  have hkc := const_of (f := k) (by omega)
  have hk0 : k.c 0 ≠ 0 := fun z => hkn (by rw [hkc, z]; exact C_zero)
  intro i
  have ei : T.c i = k.c 0 * R.c i := by rw [ek, hkc, show R * C (k.c 0) = C (k.c 0) * R by grind, c_smul, c_C, if_pos rfl]
  have hTi : (T.c i).natAbs ≤ remB (sz A + sz B - 2 * sz R) K := by
    rw [hTd, c_add]
    have m1 := mul_le l1 k1 kA i
    have m2 := mul_le l2 k2 kB i
    unfold remB
    rw [← eN] at m1 m2 ⊢
    rw [Nat.add_mul]
    omega
  rw [ei, Int.natAbs_mul] at hTi
  calc (R.c i).natAbs = 1 * (R.c i).natAbs := by omega
    _ ≤ (k.c 0).natAbs * (R.c i).natAbs := Nat.mul_le_mul_right _ (by omega)
    _ ≤ _ := hTi
/-- what stays of the common divisors, from row to row -/
structure Gst (A B Rp R : Pl) : Prop where
  up : ∀ G, Qv G Rp → Qv G R → Qv G A ∧ Qv G B
  dn : ∃ (w' w : Int) (u' v' u v : Pl), w' ≠ 0 ∧ w ≠ 0 ∧ C w' * Rp = u' * A + v' * B ∧ C w * R = u * A + v * B
theorem Gst.start (A B : Pl) : Gst A B A B := ⟨fun G h k => ⟨h, k⟩, 1, 1, 1, 0, 0, 1, by decide, by decide, by rw [C_one]; grind, by rw [C_one]; grind⟩
theorem Gst.step {A B Rp R Q T R' : Pl} {c m : Int} (h : Gst A B Rp R) (hc : c ≠ 0) (hm : m ≠ 0) (e : C c * Rp = Q * R + T) (eT : T = C m * R') : Gst A B R R' := by
  refine ⟨fun G h1 h2 => h.up G ?_ h1, ?_⟩
  · refine Qv.of_smul hc ?_
    rw [e, eT]
    exact (h1.mull Q).add (h2.mull _)
  · obtain ⟨w', w, u', v', u, v, hw', hw, e1, e2⟩ := h.dn
    refine ⟨w, w * w' * m, u, v, C (c * w) * u' - C w' * (Q * u), C (c * w) * v' - C w' * (Q * v), hw, Int.mul_ne_zero (Int.mul_ne_zero hw hw') hm, e2, ?_⟩
    rw [C_mul', C_mul', C_mul']
    grind
theorem Gst.last {A B Rp R Q : Pl} {c : Int} (h : Gst A B Rp R) (hc : c ≠ 0) (e : C c * Rp = Q * R) : Gcd R A B := by
  obtain ⟨w', w, u', v', u, v, hw', hw, e1, e2⟩ := h.dn
  have hR : Qv R Rp := ⟨c, hc, Q, by rw [e]; grind⟩
  obtain ⟨h1, h2⟩ := h.up R hR (.refl R)
  exact ⟨h1, h2, w, u, v, hw, e2⟩
theorem Gst.zero {A B Rp : Pl} (h : Gst A B Rp 0) : Gcd Rp A B := by
  obtain ⟨w', w, u', v', u, v, hw', hw, e1, e2⟩ := h.dn
  obtain ⟨h1, h2⟩ := h.up Rp (.refl Rp) (.zero Rp)
  exact ⟨h1, h2, w', u', v', hw', e1⟩
/-- for the search: small U, V with U f + V f' constant -/
theorem Sqf.small {f : Pl} (h : Sqf f) {d K : Nat} (hd : sz f = d + 2) (hK : 1 ≤ K) (kf : ∀ j, (f.c j).natAbs ≤ K) : ∃ (z : Int) (U V : Pl), z ≠ 0 ∧ C z = U * f + V * D f ∧ sz U ≤ d + 1 ∧ sz V ≤ d + 1 ∧ (∀ j, (U.c j).natAbs ≤ sieB (2 * d + 1) ((d + 1) * K)) ∧ ∀ j, (V.c j).natAbs ≤ sieB (2 * d + 1) ((d + 1) * K) := by
  have hD := sz_D hd
  have kD : ∀ j, ((D f).c j).natAbs ≤ (d + 1) * K := fun j => by
    by_cases hj : j ≤ d
    · rw [c_D, Int.natAbs_mul]
      exact Nat.mul_le_mul (by omega) (kf (j + 1))
    · rw [sz_far (D f) (by omega)]; simp
  obtain ⟨U, V, l1, l2, hne, k1, k2, hT⟩ := siegel (A := f) (B := D f) (a := d) (b := d + 1) (t := 1) (K := (d + 1) * K) (by omega) (by omega) (by omega) (Nat.mul_le_mul (show 1 ≤ d + 1 by omega) hK) (fun j => Nat.le_trans (kf j) (Nat.le_mul_of_pos_left _ (by omega))) kD
  rw [show d + (d + 1) = 2 * d + 1 by omega] at k1 k2
  have e := const_of hT
  refine ⟨(U * f + V * D f).c 0, U, V, fun hz => ?_, e.symm, by omega, l2, k1, k2⟩
  rw [hz, C_zero] at e
  -- f divides V, which is too short
  obtain ⟨z, U', V', hz', e'⟩ := h
  apply hne
  have hV : C z * V = f * (U' * V - V' * U) := by
    rw [show C z * V = (U' * f + V' * D f) * V by rw [e']]
    grind
  have hfn : f ≠ 0 := fun q => by rw [sz_zero.mpr q] at hd; omega
  have hV0 : V = 0 := by
    apply Classical.byContradiction
    intro q
    have := ((show Qv f V from ⟨z, hz', _, hV⟩).sz q).1
    omega
  refine ⟨?_, hV0⟩
  rw [hV0] at e
  have : U * f = 0 := by grind
  exact (mul_zero_or this).resolve_right hfn
end PX
set_option Elab.async false
set_option linter.all false
set_option maxRecDepth 100000
/-! plain: coefficient lists as polynomials. -/
namespace VS
open PySem PySem.Spec L2
open PX (Pl ofL sz)
open PX.Pl (C)
theorem c_of (l : List Int) (i : Nat) : (ofL l).c i = cf l i := rfl
theorem pl_trim (l : List Int) : ofL (trimL l) = ofL l := PX.Pl.ext fun i => cf_trim l i
theorem pl_add (a b : List Int) : ofL (addL a b) = ofL a + ofL b := PX.Pl.ext fun i => cf_add a b i
theorem pl_sc (c : Int) (a : List Int) : ofL (scL c a) = C c * ofL a := PX.Pl.ext fun i => by rw [PX.c_smul]; exact cf_sc c a i
theorem cf_conv : ∀ (a b : List Int) (k : Nat), cf (mulL a b) k = PX.conv (cf a) (cf b) k
  | [], b, k => by
    rw [show cf (mulL [] b) k = 0 from cf_nil k, show cf [] = fun _ => 0 from funext fun i => cf_nil i, PX.conv_zerol]
  | x :: a, b, 0 => by
    rw [cf_mul_cons]
    show x * cf b 0 + 0 = cf (x :: a) 0 * cf b 0
    rw [cf_zero, Int.add_zero]
  | x :: a, b, k + 1 => by
    rw [cf_mul_cons, if_neg (by omega), Nat.add_sub_cancel, cf_conv a b k]
    show _ = cf (x :: a) 0 * cf b (k + 1) + PX.conv (fun i => cf (x :: a) (i + 1)) (cf b) k
    rw [cf_zero]
    rfl
theorem pl_mul (a b : List Int) : ofL (mulL a b) = ofL a * ofL b := PX.Pl.ext fun i => cf_conv a b i
theorem pl_sz {l : List Int} (h : Tr l) : sz (ofL l) = l.length := by
  cases e : l with
  | nil =>
    have : sz (ofL []) ≤ 0 := PX.sz_le fun i _ => cf_nil i
    show sz (ofL []) = 0
    omega
  | cons x r =>
    have hl := tr_last h (by rw [e]; exact List.cons_ne_nil _ _)
    rw [e] at hl
    have := PX.sz_eq (f := ofL (x :: r)) (n := (x :: r).length - 1) hl fun i hi => cf_ge (by omega)
    rw [this, List.length_cons]
    omega
theorem pl_inj {a b : List Int} (ha : Tr a) (hb : Tr b) (h : ofL a = ofL b) : a = b := tr_ext ha hb fun i => congrArg (fun f : Pl => f.c i) h
theorem pl_nil : ofL [] = 0 := PX.Pl.ext fun i => by rw [PX.c_zero]; exact cf_nil i
theorem pl_zero {l : List Int} (h : Tr l) : ofL l = 0 ↔ l = [] := by
  constructor
  · intro e
    exact pl_inj h tr_nil (by rw [e, pl_nil])
  · rintro rfl; exact pl_nil
theorem pl_one : ofL [1] = 1 := PX.Pl.ext fun i => by
  show cf [1] i = (if i = 0 then ((1 : Nat) : Int) else 0)
  cases i with
  | zero => rfl
  | succ i => rw [cf_succ, cf_nil]; rfl
theorem pl_der (l : List Int) : ofL (derL l) = PX.D (ofL l) := PX.Pl.ext fun i => by
  rw [PX.c_D]
  show cf (derL l) i = ((i : Int) + 1) * cf l (i + 1)
  by_cases h : i + 1 < l.length
  · rw [derL_get h]; rfl
  · rw [cf_ge (by rw [derL_len]; omega), cf_ge (show l.length ≤ i + 1 by omega), Int.mul_zero]
/-- every polynomial is a list's -/
theorem pl_ex (f : Pl) : ∃ l, Tr l ∧ ofL l = f := by
  refine ⟨trimL ((List.range (sz f)).map f.c), tr_trim _, ?_⟩
  rw [pl_trim]
  refine PX.Pl.ext fun i => ?_
  rw [c_of, cf_map]
  split
  · rfl
  · exact (PX.sz_far f (by omega)).symm
theorem isQ_of {a b q : List Int} (h : ofL a = ofL b * ofL q) : IsQ a b q := fun i => by
  rw [← mul_comm', cf_conv]
  exact congrArg (fun f : Pl => f.c i) h
/-! contents -/
def gcdA (l : List Int) : Int := l.foldl (fun d x => (Int.gcd d x : Int)) 0
theorem gcdA_snoc (l : List Int) (x : Int) : gcdA (l ++ [x]) = (Int.gcd (gcdA l) x : Int) := by unfold gcdA; rw [List.foldl_append]; rfl
theorem gcdA_nn (l : List Int) : 0 ≤ gcdA l := by
  rcases List.eq_nil_or_concat l with rfl | ⟨l, x, rfl⟩
  · exact Int.le_refl 0
  · rw [List.concat_eq_append, gcdA_snoc]; omega
theorem gcdA_dvd : ∀ (n : Nat) (l : List Int), l.length = n → ∀ x ∈ l, gcdA l ∣ x := by
  intro n
  induction n with
  | zero => intro l h x hx; rw [List.length_eq_zero_iff.mp h] at hx; cases hx
  | succ n ih =>
    intro l h x hx
    rcases List.eq_nil_or_concat l with rfl | ⟨m, y, rfl⟩
    · cases hx
    · rw [List.concat_eq_append] at h hx ⊢
      rw [gcdA_snoc]
      rcases List.mem_append.mp hx with c | c
      · exact Int.dvd_trans (Int.gcd_dvd_left _ _) (ih m (by simpa using h) x c)
      · rw [List.mem_singleton.mp c]; exact Int.gcd_dvd_right _ _
theorem gcdA_max : ∀ (n : Nat) (l : List Int), l.length = n → ∀ d : Int, (∀ x ∈ l, d ∣ x) → d ∣ gcdA l := by
  intro n
  induction n with
  | zero => intro l h d _; rw [List.length_eq_zero_iff.mp h]; exact Int.dvd_zero _
  | succ n ih =>
    intro l h d hd
    rcases List.eq_nil_or_concat l with rfl | ⟨m, y, rfl⟩
    · cases h
    · rw [List.concat_eq_append] at h hd ⊢
      rw [gcdA_snoc]
      exact Int.dvd_coe_gcd (ih m (by simpa using h) d fun x hx => hd x (List.mem_append_left _ hx)) (hd y (List.mem_append_right _ List.mem_cons_self))
def sgD (l : List Int) : Int := if cf l (l.length - 1) < 0 then - gcdA l else gcdA l
def primL (l : List Int) : List Int := l.map fun x => x.fdiv (sgD l)
/-- what primitive gives -/
structure IsPr (l m : List Int) : Prop where
  ex : ∃ d : Int, d ≠ 0 ∧ ofL l = C d * ofL m
  tr : Tr m
  len : m.length = l.length
  prim : PX.Prim (ofL m)
  pos : 0 < cf m (m.length - 1)
  le : ∀ i, (cf m i).natAbs ≤ (cf l i).natAbs
theorem primL_spec {l : List Int} (h : Tr l) (hn : l ≠ []) : IsPr l (primL l) ∧ sgD l ≠ 0 ∧ ∀ x ∈ l, sgD l ∣ x := by
  have hl := tr_last h hn
  have hpos := List.length_pos_iff.mpr hn
  have hmem : cf l (l.length - 1) ∈ l := List.mem_of_getElem? (cf_lt (by omega))
  have hg0 : gcdA l ≠ 0 := fun z => by
    have := gcdA_dvd _ l rfl _ hmem
    rw [z] at this
    exact hl (Int.zero_dvd.mp this)
  have hgp : 0 < gcdA l := by have := gcdA_nn l; omega
  have hs : sgD l ≠ 0 := by unfold sgD; split <;> omega
  have hsd : ∀ x, sgD l ∣ x ↔ gcdA l ∣ x := fun x => by
    unfold sgD
    split
    · exact Int.neg_dvd
    · exact Iff.rfl
  have hd : ∀ x ∈ l, sgD l ∣ x := fun x hx => (hsd x).mpr (gcdA_dvd _ l rfl x hx)
  have hdc : ∀ i, sgD l ∣ cf l i := fun i => by
    by_cases hi : i < l.length
    · exact hd _ (List.mem_of_getElem? (cf_lt hi))
    · rw [cf_ge (by omega)]; exact Int.dvd_zero _
  have hc : ∀ i, cf l i = sgD l * cf (primL l) i := fun i => by
    unfold primL
    by_cases hi : i < l.length
    · have e : cf (l.map fun x => x.fdiv (sgD l)) i = (cf l i).fdiv (sgD l) := by
        have h1 := cf_lt hi
        have h2 : (l.map fun x => x.fdiv (sgD l))[i]? = some ((cf l i).fdiv (sgD l)) := by rw [List.getElem?_map, h1]; rfl
        rw [cf_lt (by rw [List.length_map]; exact hi)] at h2
        exact Option.some.inj h2
      rw [e]
      obtain ⟨k, hk⟩ := hdc i
      rw [hk, Int.mul_fdiv_cancel_left _ hs]
    · rw [cf_ge (show l.length ≤ i by omega), cf_ge (by rw [List.length_map]; omega), Int.mul_zero]
  have hlen : (primL l).length = l.length := by unfold primL; rw [List.length_map]
  have htop : cf (primL l) (l.length - 1) ≠ 0 := fun z => hl (by rw [hc, z, Int.mul_zero])
  refine ⟨⟨⟨sgD l, hs, PX.Pl.ext fun i => by rw [PX.c_smul]; exact hc i⟩, ?_, hlen, fun d hdd => ?_, ?_, fun i => ?_⟩, hs, hd⟩
  · exact tr_of_last (.inr (by rw [hlen]; exact htop))
  · have h1 : gcdA l * d ∣ gcdA l := gcdA_max _ l rfl _ fun x hx => by
      obtain ⟨i, hi, e⟩ := List.mem_iff_getElem.mp hx
      have e2 : x = cf l i := by have := cf_lt hi; rw [List.getElem?_eq_getElem hi, e] at this; exact Option.some.inj this
      rw [e2, hc]
      have : sgD l * d ∣ sgD l * cf (primL l) i := Int.mul_dvd_mul_left _ (hdd i)
      unfold sgD at this ⊢
      split at this
      · next q => rw [if_pos q] at *; rw [Int.neg_mul] at this; exact Int.neg_dvd.mp this
      · next q => rw [if_neg q] at *; exact this
    have h2 : d ∣ 1 := by
      obtain ⟨k, hk⟩ := h1
      refine ⟨k, ?_⟩
      have : gcdA l * 1 = gcdA l * (d * k) := by rw [← Int.mul_assoc, ← hk, Int.mul_one]
      exact Int.eq_of_mul_eq_mul_left hg0 this
    have := Int.natAbs_dvd_natAbs.mpr h2
    exact Nat.dvd_one.mp this
  · rw [hlen]
    have e := hc (l.length - 1)
    unfold sgD at e
    split at e
    · next q =>
      apply Classical.byContradiction
      intro hn2
      have : 0 ≤ - gcdA l * cf (primL l) (l.length - 1) := by
        rw [Int.neg_mul]
        have := Int.mul_nonpos_of_nonneg_of_nonpos (Int.le_of_lt hgp) (show cf (primL l) (l.length - 1) ≤ 0 by omega)
        omega
      omega
    · next q =>
      apply Classical.byContradiction
      intro hn2
      have := Int.mul_neg_of_pos_of_neg hgp (show cf (primL l) (l.length - 1) < 0 by omega)
      omega
  · rw [hc i, Int.natAbs_mul]
    exact Nat.le_mul_of_pos_left _ (by omega)
end VS
set_option Elab.async false
set_option linter.all false
set_option maxRecDepth 100000
/-! // whose quotient is exact and not too great. -/
namespace VS
open PySem PySem.Spec L2
theorem dig_le {x y q : Int} (h : x = y * q) (hy : y ≠ 0) (hq : q.natAbs < 2 ^ 4400) : x.natAbs.log2 ≤ y.natAbs.log2 + 4401 := by
  by_cases hx : x.natAbs = 0
  · rw [hx]; have : Nat.log2 0 = 0 := by decide +kernel
    omega
  · have hy0 : y.natAbs ≠ 0 := by omega
    have h1 : y.natAbs < 2 ^ (y.natAbs.log2 + 1) := (Nat.log2_lt hy0).mp (by omega)
    have h2 : x.natAbs < 2 ^ (y.natAbs.log2 + 4401 + 1) := by
      rw [h, Int.natAbs_mul]
      refine Nat.lt_of_lt_of_le (Nat.mul_lt_mul'' h1 hq) ?_
      rw [← Nat.pow_add]
      exact Nat.pow_le_pow_right (by decide) (by omega)
    have := (Nat.log2_lt hx).mpr h2
    omega
theorem noPylong_q {x y q : Int} (h : x = y * q) (hy : y ≠ 0) (hq : q.natAbs < 2 ^ 4400) : Builtin.divisionGoesByPylong x y = false := by
  have hd := dig_le h hy hq
  show (decide ((if y == 0 then 0 else y.natAbs.log2 / 30 + 1) > 300) && decide ((if x == 0 then 0 else x.natAbs.log2 / 30 + 1) > (if y == 0 then 0 else y.natAbs.log2 / 30 + 1) + 150)) = false
  rw [if_neg (by simpa using hy)]
  have key : (if x == 0 then 0 else x.natAbs.log2 / 30 + 1) ≤ (y.natAbs.log2 / 30 + 1) + 150 := by
    split <;> omega
  rw [decide_eq_false (Nat.not_lt.mpr key), Bool.and_false]
section
variable {X : Cx} {R : Reg}
/-- exact, the quotient below 2 ^ 4400 -/
def CDivQ (i j : Int) : Prop := j ≠ 0 ∧ ∃ q : Int, i = j * q ∧ q.natAbs < 2 ^ 4400
theorem op_fdivQ : OpR X (binaryOp .FloorDiv) (rI CDivQ fun i j => .int (i.fdiv j)) := opI fun i j _ _ _ _ _ hc q => by
  obtain ⟨h0, k, e, hk⟩ := hc
  exact PyProof.Rows.floordiv_int h0 q (.inl (noPylong_q e h0 hk))
theorem w_divQ {i j : Int} {P : Dt → Prop} (hc : CDivQ i j) (p : P (.int (i.fdiv j))) : W2 X R (binaryOp .FloorDiv) (.int i) (.int j) P := w2_int op_fdivQ hc p
end
end VS
set_option Elab.async false
set_option linter.all false
set_option maxRecDepth 100000
/-! plain: what primitive, remainder, common_factor and split_coefs come to. -/
namespace VS
open PySem PySem.Spec L2
open PX (Pl ofL sz)
open PX.Pl (C)
def Le (K : Nat) (l : List Int) : Prop := ∀ i, (cf l i).natAbs ≤ K
theorem Le.sz {K M : Nat} {l : List Int} (h : Le K l) (hK : K < 2 ^ M) : SzL M l := szl_cf fun i => Nat.lt_of_le_of_lt (h i) hK
theorem Le.up {K K' : Nat} {l : List Int} (h : Le K l) (hk : K ≤ K') : Le K' l := fun i => Nat.le_trans (h i) hk
theorem Le.nil {K : Nat} : Le K [] := fun i => by rw [cf_nil]; simp
theorem le_of_sz {M : Nat} {l : List Int} (h : SzL M l) : Le (2 ^ M) l := fun i => Nat.le_of_lt (cf_sz h i)
/-! primitive -/
def ph_primitive : Ph := fun ds q _ => ∃ l : List Int, ds = [iT l] ∧ (Tr l ∧ l.length ≤ 900 ∧ ∀ i, (cf (primL l) i).natAbs < 2 ^ 4400) ∧ q (iT (primL l))
theorem u_primitive {l : List Int} {q : Dt → Prop} {x : XD} (h : Tr l ∧ l.length ≤ 900 ∧ ∀ i, (cf (primL l) i).natAbs < 2 ^ 4400) (p : q (iT (primL l))) : ph_primitive [iT l] q x := ⟨l, rfl, h, p⟩
theorem primL_nil : primL [] = [] := rfl
theorem primL_le {l : List Int} (h : Tr l) {K : Nat} (hl : Le K l) : Le K (primL l) := by
  by_cases hn : l = []
  · rw [hn]; exact Le.nil
  · exact fun i => Nat.le_trans ((primL_spec h hn).1.le i) (hl i)
theorem div_exact {l : List Int} (h : Tr l) (hn : l ≠ []) (hb : ∀ i, (cf (primL l) i).natAbs < 2 ^ 4400) {x : Int} (hx : x ∈ l) : CDivQ x (sgD l) := by
  obtain ⟨hs, h0, hd⟩ := primL_spec h hn
  refine ⟨h0, x.fdiv (sgD l), ?_, ?_⟩
  · obtain ⟨k, hk⟩ := hd x hx
    rw [hk, Int.mul_fdiv_cancel_left _ h0]
  · obtain ⟨i, hi, e⟩ := List.mem_iff_getElem.mp hx
    have := hb i
    have e2 : cf (primL l) i = x.fdiv (sgD l) := by
      unfold primL
      have h2 : (l.map fun x => x.fdiv (sgD l))[i]? = some (x.fdiv (sgD l)) := by rw [List.getElem?_map, List.getElem?_eq_getElem hi, e]; rfl
      rw [cf_lt (by rw [List.length_map]; exact hi)] at h2
      exact Option.some.inj h2
    rw [e2] at this
    exact this
theorem at_top {l : List Int} (hn : l ≠ []) : atI (l.map Dt.int) (-1) = some (.int (cf l (l.length - 1))) := by
  obtain ⟨m, z, rfl⟩ : ∃ m z, l = m ++ [z] := ⟨l.dropLast, l.getLast hn, (List.dropLast_concat_getLast hn).symm⟩
  have e : cf (m ++ [z]) ((m ++ [z]).length - 1) = z := by
    rw [List.length_append, List.length_singleton, Nat.add_sub_cancel, cf_app, if_neg (by omega), Nat.sub_self]
    rfl
  rw [e, List.map_append]
  exact atI_last _ _
/-! remainder -/
structure RemOk (a b r : List Int) : Prop where
  tr : Tr r
  lt : r.length < b.length
  ex : ∃ (c : Int) (Q : Pl), c ≠ 0 ∧ C c * ofL a = Q * ofL b + ofL r ∧ sz Q + b.length ≤ max a.length b.length + 1
  eq : a.length < b.length → r = a
def ph_remainder : Ph := fun ds q _ => ∃ (a b : List Int) (s t : Nat), ds = [iT a, iT b] ∧ (Tr a ∧ Tr b ∧ b ≠ [] ∧ a.length ≤ 900 ∧ b.length ≤ 900 ∧ SzL s a ∧ SzL t b ∧ s + (a.length + 1) * (t + 1) ≤ 400000) ∧ ∀ r, RemOk a b r → q (iT r)
theorem u_remainder {a b : List Int} {s t : Nat} {q : Dt → Prop} {x : XD} (h : Tr a ∧ Tr b ∧ b ≠ [] ∧ a.length ≤ 900 ∧ b.length ≤ 900 ∧ SzL s a ∧ SzL t b ∧ s + (a.length + 1) * (t + 1) ≤ 400000) (p : ∀ r, RemOk a b r → q (iT r)) : ph_remainder [iT a, iT b] q x := ⟨a, b, s, t, rfl, h, p⟩
def lowL (r b : List Int) : List Int := List.replicate (r.length - b.length) 0 ++ b
def stL (r b : List Int) : List Int := (r.zip (lowL r b)).map fun p => p.1 * cf b (b.length - 1) - cf r (r.length - 1) * p.2
theorem low_len {r b : List Int} (h : b.length ≤ r.length) : (lowL r b).length = r.length := by unfold lowL; rw [List.length_append, List.length_replicate]; omega
theorem zip_cf (x y : Int) : ∀ (r m : List Int), r.length = m.length → ∀ i, cf ((r.zip m).map fun p => p.1 * x - y * p.2) i = cf r i * x - y * cf m i
  | [], [], _, i => by simp [cf]
  | a :: r, b :: m, h, 0 => by simp [cf]
  | a :: r, b :: m, h, i + 1 => by
    rw [List.zip_cons_cons, List.map_cons, cf_succ, cf_succ, cf_succ]
    exact zip_cf x y r m (by simpa using h) i
theorem pl_zeros (b : List Int) : ∀ k : Nat, ofL (List.replicate k 0 ++ b) = PX.X ^ k * ofL b
  | 0 => by
    show ofL b = _
    have : PX.X ^ 0 = (1 : Pl) := by grind
    rw [this]
    grind
  | k + 1 => by
    have e : ofL (0 :: (List.replicate k 0 ++ b)) = PX.X * ofL (List.replicate k 0 ++ b) := PX.Pl.ext fun i => by
      rw [PX.X_mul]
      cases i with
      | zero => exact cf_zero 0 (List.replicate k 0 ++ b)
      | succ i => rw [if_neg (by omega)]; exact cf_succ 0 (List.replicate k 0 ++ b) i
    rw [List.replicate_succ, List.cons_append, e, pl_zeros b k]
    have : PX.X ^ (k + 1) = PX.X ^ k * PX.X := by grind
    rw [this]
    grind
theorem sz_Xk : ∀ k : Nat, sz (PX.X ^ k) ≤ k + 1
  | 0 => by rw [show PX.X ^ 0 = (1 : Pl) by grind]; exact PX.sz_C_le 1
  | k + 1 => by
    rw [show PX.X ^ (k + 1) = PX.X ^ k * PX.X by grind]
    have h1 := PX.sz_mul_le (PX.X ^ k) PX.X
    have h2 : sz PX.X ≤ 2 := PX.sz_le fun i hi => by rw [PX.c_X, if_neg (by omega)]
    have := sz_Xk k
    omega
theorem st_spec {r b : List Int} (hr : Tr r) (hb : Tr b) (hbn : b ≠ []) (h : b.length ≤ r.length) : ofL (stL r b) = C (cf b (b.length - 1)) * ofL r - C (cf r (r.length - 1)) * (PX.X ^ (r.length - b.length) * ofL b) ∧ (trimL (stL r b)).length < r.length := by
  have hbp := List.length_pos_iff.mpr hbn
  have hc : ∀ i, cf (stL r b) i = cf r i * cf b (b.length - 1) - cf r (r.length - 1) * cf (lowL r b) i := fun i => zip_cf _ _ _ _ (low_len h).symm i
  refine ⟨PX.Pl.ext fun i => ?_, ?_⟩
  · rw [← pl_zeros, PX.c_sub, PX.c_smul, PX.c_smul]
    show cf (stL r b) i = cf b (b.length - 1) * cf r i - cf r (r.length - 1) * cf (lowL r b) i
    rw [hc, Int.mul_comm (cf r i)]
  · have hl : (stL r b).length = r.length := by unfold stL; rw [List.length_map, List.length_zip, low_len h]; omega
    have htop : cf (stL r b) (r.length - 1) = 0 := by
      rw [hc]
      have : cf (lowL r b) (r.length - 1) = cf b (b.length - 1) := by
        unfold lowL
        rw [cf_app, List.length_replicate, if_neg (by omega)]
        congr 1
        omega
      rw [this, Int.mul_comm]; omega
    have h1 := trim_len (stL r b)
    apply Classical.byContradiction
    intro hn
    have e : (trimL (stL r b)).length = r.length := by omega
    have hne : trimL (stL r b) ≠ [] := fun z => by rw [z] at e; simp at e; omega
    have := tr_last (tr_trim (stL r b)) hne
    rw [e, cf_trim] at this
    exact this htop
theorem st_sz {r b : List Int} {s t : Nat} (hr : SzL s r) (hb : SzL t b) (h : b.length ≤ r.length) : SzL (s + t + 1) (stL r b) := szl_cf fun i => by
  have hc : cf (stL r b) i = cf r i * cf b (b.length - 1) - cf r (r.length - 1) * cf (lowL r b) i := zip_cf _ _ _ _ (low_len h).symm i
  rw [hc]
  have h1 : (cf r i * cf b (b.length - 1)).natAbs < 2 ^ (s + t) := sz_mul (cf_sz hr i) (cf_sz hb _)
  have h2 : (cf (lowL r b) i).natAbs < 2 ^ t := by
    unfold lowL
    rw [cf_app]
    split
    · rw [rep_zero]; exact Nat.two_pow_pos t
    · exact cf_sz hb _
  have h3 : (cf r (r.length - 1) * cf (lowL r b) i).natAbs < 2 ^ (s + t) := sz_mul (cf_sz hr _) h2
  rw [Nat.pow_succ]
  omega
/-! common_factor -/
structure IsG (a b g : List Int) : Prop where
  tr : Tr g
  ne : g ≠ []
  prim : PX.Prim (ofL g)
  pos : 0 < cf g (g.length - 1)
  gcd : PX.Gcd (ofL g) (ofL a) (ofL b)
def ph_common_factor : Ph := fun ds q _ => ∃ (a b : List Int) (N K : Nat), ds = [iT a, iT b] ∧ (Tr a ∧ Tr b ∧ a ≠ [] ∧ a.length + b.length ≤ N + 2 ∧ N ≤ 60 ∧ 1 ≤ K ∧ Le K a ∧ Le K b ∧ K < 2 ^ 4400 ∧ PX.remB N K < 2 ^ 4400) ∧ ∀ g, IsG a b g → q (iT g)
theorem u_common_factor {a b : List Int} {N K : Nat} {q : Dt → Prop} {x : XD} (h : Tr a ∧ Tr b ∧ a ≠ [] ∧ a.length + b.length ≤ N + 2 ∧ N ≤ 60 ∧ 1 ≤ K ∧ Le K a ∧ Le K b ∧ K < 2 ^ 4400 ∧ PX.remB N K < 2 ^ 4400) (p : ∀ g, IsG a b g → q (iT g)) : ph_common_factor [iT a, iT b] q x := ⟨a, b, N, K, rfl, h, p⟩
theorem sie_mono {N N' K : Nat} (h : N ≤ N') (h1 : 1 ≤ N) (hK : 1 ≤ K) : PX.sieB N K ≤ PX.sieB N' K := by
  unfold PX.sieB
  have : 2 * N * K ≤ 2 * N' * K := Nat.mul_le_mul_right _ (by omega)
  have hp : 1 ≤ 2 * N' * K := Nat.mul_le_mul (show 1 ≤ 2 * N' by omega) hK
  exact Nat.le_trans (Nat.pow_le_pow_left this _) (Nat.pow_le_pow_right hp (by omega))
theorem rem_mono {N N' K : Nat} (h : N ≤ N') (hK : 1 ≤ K) : PX.remB N K ≤ PX.remB N' K := by
  unfold PX.remB
  by_cases h1 : N = 0
  · rw [h1, Nat.zero_mul]; exact Nat.zero_le _
  · exact Nat.mul_le_mul h (Nat.mul_le_mul_right _ (sie_mono h (by omega) hK))
/-- the state of common_factor's loop -/
structure CfI (A0 B0 : Pl) (N K : Nat) (f s : List Int) : Prop where
  tf : Tr f
  ts : Tr s
  fn : f ≠ []
  pf : PX.Prim (ofL f)
  lf : 0 < cf f (f.length - 1)
  ps : s ≠ [] → PX.Prim (ofL s) ∧ 0 < cf s (s.length - 1)
  g : PX.Gst A0 B0 (ofL f) (ofL s)
  bf : SzL 4400 f
  bs : SzL 4400 s
  lenf : f.length ≤ 70
  lens : s.length ≤ 70
  st : s ≠ [] → (f.length < s.length ∧ f.length + s.length ≤ N + 2 ∧ Le K f ∧ Le K s) ∨ ∃ A B : Pl, PX.Prs A B (ofL f) (ofL s) ∧ sz (ofL f) ≤ sz A ∧ sz (ofL s) ≤ sz B ∧ sz A + sz B ≤ N + 2 ∧ (∀ j, (A.c j).natAbs ≤ K) ∧ ∀ j, (B.c j).natAbs ≤ K
theorem CfI.next {A0 B0 : Pl} {N K : Nat} {f s r : List Int} (h : CfI A0 B0 N K f s) (hs : s ≠ []) (hK : 1 ≤ K) (hK2 : K < 2 ^ 4400) (hR : PX.remB N K < 2 ^ 4400) (ok : RemOk f s r) : CfI A0 B0 N K s (primL r) ∧ (primL r).length < s.length ∧ ∀ i, (cf (primL r) i).natAbs < 2 ^ 4400 := by
  obtain ⟨c, Q, hc, e, hQ⟩ := ok.ex
  have hlen : (primL r).length = r.length := by unfold primL; rw [List.length_map]
  obtain ⟨ps1, ps2⟩ := h.ps hs
  by_cases hr : r = []
  · subst hr
    refine ⟨⟨h.ts, tr_nil, hs, ps1, ps2, fun z => absurd rfl z, ?_, h.bs, SzL.nil, h.lens, by rw [primL_nil]; simp, fun z => absurd rfl z⟩, by rw [hlen]; exact ok.lt, fun i => by rw [primL_nil, cf_nil]; exact Nat.two_pow_pos _⟩
    refine h.g.step (Q := Q) (T := 0) (c := c) (m := 1) hc (by decide) ?_ ?_
    · rw [e, pl_nil]
    · rw [primL_nil, pl_nil]; grind
  · obtain ⟨ip, _, _⟩ := primL_spec ok.tr hr
    obtain ⟨d, hd, ed⟩ := ip.ex
    have g' : PX.Gst A0 B0 (ofL s) (ofL (primL r)) := h.g.step (Q := Q) (T := ofL r) (c := c) (m := d) hc hd e ed
    have hszs := pl_sz h.ts
    have hszf := pl_sz h.tf
    have hszr : sz (ofL (primL r)) = r.length := by rw [pl_sz ip.tr, hlen]
    -- the new row and its size
    have key : (∀ i, (cf (primL r) i).natAbs < 2 ^ 4400) ∧ ∃ A B : Pl, PX.Prs A B (ofL s) (ofL (primL r)) ∧ sz (ofL s) ≤ sz A ∧ sz (ofL (primL r)) ≤ sz B ∧ sz A + sz B ≤ N + 2 ∧ (∀ j, (A.c j).natAbs ≤ K) ∧ ∀ j, (B.c j).natAbs ≤ K := by
      rcases h.st hs with ⟨h1, h2, h3, h4⟩ | ⟨A, B, hp, h1, h2, h3, kA, kB⟩
      · have er := ok.eq h1
        have kp : Le K (primL r) := by rw [er]; exact primL_le h.tf h3
        refine ⟨fun i => Nat.lt_of_le_of_lt (kp i) hK2, ofL s, ofL (primL r), PX.Prs.start (by rw [hszs, hszr]; have := ok.lt; omega), Nat.le_refl _, Nat.le_refl _, ?_, h4, kp⟩
        rw [hszs, hszr, er]; omega
      · have hle := hp.le
        rw [hszs, hszf] at hle
        have p' : PX.Prs A B (ofL s) (ofL (primL r)) := hp.step (Q := Q) (T := ofL r) (c := c) (m := d) hc hd e ed (by rw [hszr, hszs]; have := ok.lt; omega) (by rw [hszs, hszf]; omega)
        have hsz2 : sz (ofL s) ≤ sz A := by rw [hszs]; rw [hszf] at h1; omega
        have hB2 : sz (ofL (primL r)) ≤ sz B := by rw [hszr]; rw [hszs] at h2; have := ok.lt; omega
        have hrp : 1 ≤ r.length := List.length_pos_iff.mpr hr
        have sm := p'.small ip.prim (by rw [hszr, hszs]; exact ok.lt) hsz2 hB2 hK kA kB
        refine ⟨fun i => Nat.lt_of_le_of_lt (Nat.le_trans (sm i) (rem_mono (N' := N) (by rw [hszr]; omega) hK)) hR, A, B, p', hsz2, hB2, h3, kA, kB⟩
    obtain ⟨k1, k2⟩ := key
    exact ⟨⟨h.ts, ip.tr, hs, ps1, ps2, fun _ => ⟨ip.prim, ip.pos⟩, g', h.bs, szl_cf k1, h.lens, by rw [hlen]; have := ok.lt; have := h.lens; omega, fun _ => .inr k2⟩, by rw [hlen]; exact ok.lt, k1⟩
theorem CfI.start {a b : List Int} {N K : Nat} (ha : Tr a) (hb : Tr b) (hn : a ≠ []) (hN : a.length + b.length ≤ N + 2) (h60 : N ≤ 60) (ka : Le K a) (kb : Le K b) (hK : K < 2 ^ 4400) : CfI (ofL (primL a)) (ofL (primL b)) N K (primL a) (primL b) := by
  obtain ⟨ia, _, _⟩ := primL_spec ha hn
  have la : (primL a).length = a.length := by unfold primL; rw [List.length_map]
  have lb : (primL b).length = b.length := by unfold primL; rw [List.length_map]
  have kpa := primL_le ha ka
  have kpb := primL_le hb kb
  have tb : Tr (primL b) := by
    by_cases z : b = []
    · rw [z]; exact tr_nil
    · exact (primL_spec hb z).1.tr
  refine ⟨ia.tr, tb, fun z => hn (by have := la; rw [z] at this; exact List.length_eq_zero_iff.mp this.symm), ia.prim, ia.pos, fun z => ?_, .start _ _, kpa.sz hK, kpb.sz hK, by omega, by omega, fun z => ?_⟩
  · have hb0 : b ≠ [] := fun y => z (by rw [y]; rfl)
    exact ⟨(primL_spec hb hb0).1.prim, (primL_spec hb hb0).1.pos⟩
  · by_cases hc : a.length < b.length
    · left
      exact ⟨by omega, by omega, kpa, kpb⟩
    · right
      refine ⟨ofL (primL a), ofL (primL b), PX.Prs.start (by rw [pl_sz ia.tr, pl_sz tb]; omega), Nat.le_refl _, Nat.le_refl _, by rw [pl_sz ia.tr, pl_sz tb]; omega, kpa, kpb⟩
theorem CfI.last {a b f : List Int} {N K : Nat} (ha : Tr a) (hb : Tr b) (hn : a ≠ []) (h : CfI (ofL (primL a)) (ofL (primL b)) N K f []) : IsG a b f := by
  obtain ⟨ia, _, _⟩ := primL_spec ha hn
  obtain ⟨da, hda, ea⟩ := ia.ex
  obtain ⟨db, hdb, eb⟩ : ∃ d : Int, d ≠ 0 ∧ ofL b = C d * ofL (primL b) := by
    by_cases z : b = []
    · exact ⟨1, by decide, by rw [z, primL_nil, pl_nil]; grind⟩
    · exact (primL_spec hb z).1.ex
  have g0 := h.g
  rw [pl_nil] at g0
  have g := g0.zero
  refine ⟨h.tf, h.fn, h.pf, h.lf, ?_, ?_, ?_⟩
  · rw [ea]; exact g.l.mull _
  · rw [eb]; exact g.r.mull _
  · obtain ⟨z, U, V, hz, e⟩ := g.bez
    refine ⟨z * da * db, C db * U, C da * V, Int.mul_ne_zero (Int.mul_ne_zero hz hda) hdb, ?_⟩
    rw [PX.C_mul', PX.C_mul', ea, eb]
    grind
end VS
set_option Elab.async false
set_option linter.all false
set_option maxRecDepth 100000
/-! plain: what split_coefs comes to. -/
namespace VS
open PySem PySem.Spec L2
open PX (Pl ofL sz)
open PX.Pl (C)
/-- a positive last coefficient -/
def Ps (f : Pl) : Prop := ∃ n, sz f = n + 1 ∧ 0 < f.c n
theorem Ps.ne {f : Pl} (h : Ps f) : f ≠ 0 := fun z => by
  obtain ⟨n, e, _⟩ := h
  rw [PX.sz_zero.mpr z] at e
  omega
theorem Ps.mul {f g : Pl} (hf : Ps f) (hg : Ps g) : Ps (f * g) := by
  obtain ⟨m, e1, p1⟩ := hf
  obtain ⟨n, e2, p2⟩ := hg
  obtain ⟨t, s⟩ := PX.mul_top e1 e2
  exact ⟨m + n, s, by rw [t]; exact Int.mul_pos p1 p2⟩
theorem Ps.right {f g : Pl} (h : Ps (f * g)) (hf : Ps f) : Ps g := by
  have hg : g ≠ 0 := fun z => h.ne (by rw [z]; grind)
  obtain ⟨m, e1, p1⟩ := hf
  obtain ⟨n, e2⟩ := PX.sz_pos hg
  obtain ⟨t, s⟩ := PX.mul_top e1 e2
  obtain ⟨k, e3, p3⟩ := h
  refine ⟨n, e2, ?_⟩
  rw [show k = m + n by omega, t] at p3
  exact Int.pos_of_mul_pos_right p3 p1
theorem Ps.one : Ps 1 := ⟨0, PX.sz_C (by decide), by decide⟩
theorem Ps.pow {f : Pl} (h : Ps f) : ∀ n : Nat, Ps (f ^ n)
  | 0 => by rw [show f ^ 0 = (1 : Pl) by grind]; exact .one
  | n + 1 => by rw [show f ^ (n + 1) = f ^ n * f by grind]; exact (h.pow n).mul h
theorem ps_of {l : List Int} (ht : Tr l) (hn : l ≠ []) (h : 0 < cf l (l.length - 1)) : Ps (ofL l) := by
  have := List.length_pos_iff.mpr hn
  exact ⟨l.length - 1, by rw [pl_sz ht]; omega, h⟩
theorem of_ps {l : List Int} (ht : Tr l) (h : Ps (ofL l)) : l ≠ [] ∧ 0 < cf l (l.length - 1) := by
  obtain ⟨n, e, p⟩ := h
  rw [pl_sz ht] at e
  refine ⟨fun z => ?_, ?_⟩
  · rw [z, List.length_nil] at e
    omega
  · rw [show l.length - 1 = n by omega]
    exact p
theorem fac_mono {n n' B B' : Nat} (h : n ≤ n') (hB : B ≤ B') : PX.facB n B ≤ PX.facB n' B' := by
  unfold PX.facB
  refine Nat.mul_le_mul (Nat.mul_le_mul hB ?_) ?_
  · exact Nat.le_trans (Nat.pow_le_pow_left (by omega) n) (Nat.pow_le_pow_right (by omega) h)
  · exact Nat.le_trans (Nat.pow_le_pow_left (by omega) n) (Nat.pow_le_pow_right (by omega) h)
/-- a quotient that is there -/
theorem u_quotE {a b : List Int} {A B : Nat} {q : Dt → Prop} {x : XD} (h : a.length ≤ 900 ∧ b.length ≤ 900 ∧ Tr b ∧ SzL A a ∧ SzL B b ∧ B ≤ 8000 ∧ A + (a.length + 2) * (B + 1) ≤ 800000) (hb : b ≠ []) (hd : PX.Dv (ofL b) (ofL a)) (p : ∀ z, Tr z → ofL a = ofL b * ofL z → q (iT z)) : ph_quotient [iT a, iT b] q x := by
  obtain ⟨k, e⟩ := hd
  obtain ⟨z0, t0, e0⟩ := pl_ex k
  refine ⟨a, b, A, B, rfl, h, fun z _ tz hz => p z tz ?_, fun hc => ?_⟩
  · have hz2 : ofL a = ofL z * ofL b := PX.Pl.ext fun i => by rw [← pl_mul]; exact hz i
    rw [hz2]; grind
  · rcases hc with c | c
    · exact absurd c hb
    · exact absurd (isQ_of (by rw [e, e0])) (c z0 t0)
/-- what split_coefs gives -/
structure IsSp (l rest root : List Int) : Prop where
  trest : Tr rest
  troot : Tr root
  eq : ofL l = ofL root * ofL root * ofL rest
  sqf : PX.Sqf (ofL rest)
  prim : PX.Prim (ofL root)
  pos : Ps (ofL root)
/-- sizes that split_coefs can do with -/
def SpC (n B : Nat) : Prop := 1 ≤ B ∧ n ≤ 30 ∧ PX.remB (2 * n - 3) (n * B) < 2 ^ 4400 ∧ PX.remB (n - 1) (PX.facB n B) < 2 ^ 4400 ∧ PX.facB n B < 2 ^ 4000
def ph_split_coefs : Ph := fun ds q _ => ∃ (l : List Int) (n B : Nat), ds = [iT l] ∧ (Tr l ∧ l.length ≤ n ∧ Le B l ∧ SpC n B) ∧ (l = [] → q (.tup [iT [], iT [1]])) ∧ (l ≠ [] → ∀ rest root, IsSp l rest root → Le (PX.facB n B) rest → Le (PX.facB n B) root → q (.tup [iT rest, iT root]))
theorem u_split_coefs {l : List Int} {n B : Nat} {q : Dt → Prop} {x : XD} (h : Tr l ∧ l.length ≤ n ∧ Le B l ∧ SpC n B) (p : (l = [] → q (.tup [iT [], iT [1]])) ∧ (l ≠ [] → ∀ rest root, IsSp l rest root → Le (PX.facB n B) rest → Le (PX.facB n B) root → q (.tup [iT rest, iT root]))) : ph_split_coefs [iT l] q x := ⟨l, n, B, rfl, h, p.1, p.2⟩
theorem fac_le {P : Pl} {f : List Int} {n B : Nat} (hP : P ≠ 0) (hd : PX.Dv (ofL f) P) (hn : sz P ≤ n) (hB : ∀ i, (P.c i).natAbs ≤ B) : Le (PX.facB n B) f := by
  obtain ⟨k, e⟩ := hd
  exact PX.factor_le hP e hn hB
/-- the state of the loop -/
structure SpI (P : Pl) (n B : Nat) (i : Nat) (w v t : List Int) : Prop where
  tw : Tr w
  tv : Tr v
  tt : Tr t
  y : PX.Yun P i (ofL w) (ofL v) (ofL t)
  i1 : 1 ≤ i
  pw : PX.Prim (ofL w)
  pv : PX.Prim (ofL v)
  pt : PX.Prim (ofL t)
  sw : Ps (ofL w)
  sv : Ps (ofL v)
  st : Ps (ofL t)
theorem SpI.div {P : Pl} {n B i : Nat} {w v t : List Int} (h : SpI P n B i w v t) : PX.Dv (ofL w * ofL v) P ∧ PX.Dv (ofL t * ofL t) P := by
  obtain ⟨S, e⟩ := h.y.form
  obtain ⟨j, rfl⟩ : ∃ j, i = j + 1 := ⟨i - 1, by have := h.i1; omega⟩
  refine ⟨⟨ofL t * ofL t * S * ofL w ^ j, ?_⟩, ⟨S * (ofL w ^ (j + 1) * ofL v), by rw [e]; grind⟩⟩
  rw [e, show ofL w ^ (j + 1) = ofL w ^ j * ofL w by grind]
  generalize ofL w ^ j = z
  grind
theorem SpI.lens {P : Pl} {n B i : Nat} {w v t : List Int} (h : SpI P n B i w v t) (hP : P ≠ 0) (hn : sz P ≤ n) : w.length + v.length ≤ n + 1 ∧ 1 ≤ w.length ∧ 1 ≤ v.length ∧ t.length ≤ n ∧ 1 ≤ t.length := by
  obtain ⟨k, e⟩ := h.div.1
  have hk : k ≠ 0 := fun z => hP (by rw [e, z]; grind)
  have s1 := (PX.sz_mul (h.sw.mul h.sv).ne hk).1
  have s2 := (PX.sz_mul h.sw.ne h.sv.ne).1
  rw [← e] at s1
  obtain ⟨m, hm⟩ := PX.sz_pos hk
  obtain ⟨k2, e2⟩ := h.div.2
  have hk2 : k2 ≠ 0 := fun z => hP (by rw [e2, z]; grind)
  have s3 := (PX.sz_mul (h.st.mul h.st).ne hk2).1
  have s4 := (PX.sz_mul h.st.ne h.st.ne).1
  rw [← e2] at s3
  obtain ⟨m2, hm2⟩ := PX.sz_pos hk2
  obtain ⟨a, ha⟩ := PX.sz_pos h.sw.ne
  obtain ⟨b, hb⟩ := PX.sz_pos h.sv.ne
  obtain ⟨c, hc⟩ := PX.sz_pos h.st.ne
  rw [pl_sz h.tw] at s2 ha
  rw [pl_sz h.tv] at s2 hb
  rw [pl_sz h.tt] at s4 hc
  omega
theorem SpI.les {P : Pl} {n B i : Nat} {w v t : List Int} (h : SpI P n B i w v t) (hP : P ≠ 0) (hn : sz P ≤ n) (hB : ∀ i, (P.c i).natAbs ≤ B) : Le (PX.facB n B) w ∧ Le (PX.facB n B) v ∧ Le (PX.facB n B) t := by
  obtain ⟨k, e⟩ := h.div.1
  obtain ⟨k2, e2⟩ := h.div.2
  exact ⟨fac_le hP ⟨ofL v * k, by rw [e]; grind⟩ hn hB, fac_le hP ⟨ofL w * k, by rw [e]; grind⟩ hn hB, fac_le hP ⟨ofL t * k2, by rw [e2]; grind⟩ hn hB⟩
theorem SpI.start {l g w : List Int} {n B : Nat} (hl : Tr l) (hn : l ≠ []) (hg : IsG l (trimL (derL l)) g) (tw : Tr w) (e : ofL (primL l) = ofL g * ofL w) : SpI (ofL (primL l)) n B 1 w g [1] := by
  obtain ⟨ip, _, _⟩ := primL_spec hl hn
  obtain ⟨d, hd, ed⟩ := ip.ex
  have gg := hg.gcd
  rw [pl_trim, pl_der, ed, PX.D_smul] at gg
  have g2 : PX.Gcd (ofL g) (ofL (primL l)) (PX.D (ofL (primL l))) := by
    refine ⟨gg.l.of_smul hd, gg.r.of_smul hd, ?_⟩
    obtain ⟨z, U, V, hz, e2⟩ := gg.bez
    exact ⟨z, U * C d, V * C d, hz, by rw [e2]; grind⟩
  have pg := ps_of hg.tr hg.ne hg.pos
  have hpl : primL l ≠ [] := fun z => hn (List.length_eq_zero_iff.mp (by rw [← ip.len, z]; rfl))
  have pp := ps_of ip.tr hpl ip.pos
  have prp := ip.prim
  rw [e] at pp prp
  refine ⟨tw, hg.tr, tr_one, ?_, Nat.le_refl _, prp.right, hg.prim, by rw [pl_one]; exact .one, pp.right pg, pg, by rw [pl_one]; exact .one⟩
  rw [pl_one]
  exact .start e g2
theorem SpI.step {P : Pl} {n B i : Nat} {w v t g p v' t' : List Int} (h : SpI P n B i w v t) (hg : IsG w v g) (tp : Tr p) (ep : ofL w = ofL g * ofL p) (tv' : Tr v') (ev : ofL v = ofL g * ofL v') (tt' : Tr t') (et : ofL t' = ofL t * ofL p ^ (i / 2)) : SpI P n B (i + 1) g v' t' := by
  have pg := ps_of hg.tr hg.ne hg.pos
  have pw := h.pw
  have sw := h.sw
  have pv := h.pv
  have sv := h.sv
  rw [ep] at pw sw
  rw [ev] at pv sv
  refine ⟨hg.tr, tv', tt', ?_, by omega, hg.prim, pv.right, by rw [et]; exact h.pt.mul (pw.right.pow _), pg, sv.right pg, by rw [et]; exact h.st.mul ((sw.right pg).pow _)⟩
  rw [et]
  exact .step h.y hg.gcd ep ev
/-- a power on the way divides too -/
theorem SpI.powdiv {P : Pl} {n B i : Nat} {w v t p g : List Int} (h : SpI P n B i w v t) (ep : ofL w = ofL g * ofL p) {j : Nat} (hj : j ≤ i / 2) : PX.Dv (ofL t * ofL p ^ j) P := by
  obtain ⟨S, e⟩ := h.y.form
  obtain ⟨k, hk⟩ : ∃ k, i = j + k := ⟨i - j, by omega⟩
  have h2 : ∀ m : Nat, (ofL g * ofL p) ^ m = ofL g ^ m * ofL p ^ m := fun m => by
    induction m with
    | zero => grind
    | succ m ih => rw [show (ofL g * ofL p) ^ (m + 1) = (ofL g * ofL p) ^ m * (ofL g * ofL p) by grind, ih, show ofL g ^ (m + 1) = ofL g ^ m * ofL g by grind, show ofL p ^ (m + 1) = ofL p ^ m * ofL p by grind]; grind
  refine ⟨ofL t * S * (ofL g ^ i * ofL p ^ k * ofL v), ?_⟩
  rw [e, ep, h2 i]
  have h3 : ofL p ^ i = ofL p ^ j * ofL p ^ k := by rw [hk, PX.pow_add']
  rw [h3]
  generalize ofL p ^ j = x1
  generalize ofL p ^ k = x2
  generalize ofL g ^ i = x3
  grind
theorem SpI.last {l rest t w v : List Int} {n B i : Nat} (hl : Tr l) (hn : l ≠ []) (h : SpI (ofL (primL l)) n B i w v t) (hw : w.length ≤ 1) (tr : Tr rest) (e : ofL l = ofL t * ofL t * ofL rest) : IsSp l rest t := by
  obtain ⟨ip, _, _⟩ := primL_spec hl hn
  obtain ⟨d, hd, ed⟩ := ip.ex
  have hpl : primL l ≠ [] := fun z => hn (List.length_eq_zero_iff.mp (by rw [← ip.len, z]; rfl))
  have pp := ps_of ip.tr hpl ip.pos
  exact ⟨tr, h.tt, e, h.y.sqf pp.ne (by rw [pl_sz h.tw]; exact hw) hd (by rw [← ed]; exact e), h.pt, h.st⟩
theorem SpI.exact {l t w v : List Int} {n B i : Nat} (hl : Tr l) (hn : l ≠ []) (h : SpI (ofL (primL l)) n B i w v t) : PX.Dv (ofL t * ofL t) (ofL l) := by
  obtain ⟨ip, _, _⟩ := primL_spec hl hn
  obtain ⟨d, hd, ed⟩ := ip.ex
  obtain ⟨k, e⟩ := h.div.2
  exact ⟨C d * k, by rw [ed, e]; grind⟩
theorem IsG.dv {a b g : List Int} (h : IsG a b g) : PX.Dv (ofL g) (ofL a) ∧ PX.Dv (ofL g) (ofL b) := ⟨h.gcd.l.dv h.prim, h.gcd.r.dv h.prim⟩
theorem IsG.dvP {l d g : List Int} (hl : Tr l) (hn : l ≠ []) (h : IsG l d g) : PX.Dv (ofL g) (ofL (primL l)) := by
  obtain ⟨ip, _, _⟩ := primL_spec hl hn
  obtain ⟨z, hz, ez⟩ := ip.ex
  have := h.gcd.l
  rw [ez] at this
  exact (this.of_smul hz).dv h.prim
theorem fac_ge {n B : Nat} (h : 1 ≤ n) (hB : 1 ≤ B) : n * B ≤ PX.facB n B ∧ B ≤ PX.facB n B ∧ 1 ≤ PX.facB n B := by
  unfold PX.facB
  have h1 : n ≤ (n + 2) ^ n := by
    calc n ≤ n + 2 := by omega
      _ = (n + 2) ^ 1 := by rw [Nat.pow_one]
      _ ≤ (n + 2) ^ n := Nat.pow_le_pow_right (by omega) h
  have h2 : 1 ≤ (2 * n + 5) ^ n := Nat.pow_pos (by omega)
  have h3 : n * B ≤ B * (n + 2) ^ n * (2 * n + 5) ^ n := by
    calc n * B = B * n := Nat.mul_comm _ _
      _ ≤ B * (n + 2) ^ n := Nat.mul_le_mul_left _ h1
      _ ≤ _ := Nat.le_mul_of_pos_right _ h2
  have h4 : B ≤ n * B := Nat.le_mul_of_pos_left _ h
  omega
theorem der_le {l : List Int} {n B : Nat} (hl : l.length ≤ n) (h : Le B l) : Le (n * B) (trimL (derL l)) := fun i => by
  rw [cf_trim]
  by_cases hi : i + 1 < l.length
  · rw [derL_get hi, Int.natAbs_mul]
    exact Nat.mul_le_mul (by omega) (h (i + 1))
  · rw [cf_ge (by rw [derL_len]; omega)]; simp
theorem prim_facts {l : List Int} {n B : Nat} (hl : Tr l) (hn : l ≠ []) (hln : l.length ≤ n) (h : Le B l) : ofL (primL l) ≠ 0 ∧ sz (ofL (primL l)) ≤ n ∧ ∀ i, ((ofL (primL l)).c i).natAbs ≤ B := by
  obtain ⟨ip, _, _⟩ := primL_spec hl hn
  have hpl : primL l ≠ [] := fun z => hn (List.length_eq_zero_iff.mp (by rw [← ip.len, z]; rfl))
  exact ⟨(ps_of ip.tr hpl ip.pos).ne, by rw [pl_sz ip.tr, ip.len]; exact hln, primL_le hl h⟩
theorem dv_len {f : List Int} {P : Pl} (tf : Tr f) (hP : P ≠ 0) (h : PX.Dv (ofL f) P) {n : Nat} (hn : sz P ≤ n) : f.length ≤ n := by
  have := (h.qv.sz hP).1
  rw [pl_sz tf] at this
  omega
theorem SpI.dvw {P : Pl} {n B i : Nat} {w v t : List Int} (h : SpI P n B i w v t) : PX.Dv (ofL w) P := by
  obtain ⟨k, e⟩ := h.div.1
  exact ⟨ofL v * k, by rw [e]; grind⟩
theorem dv_right {a b c : Pl} (e : a = b * c) : PX.Dv c a := ⟨b, by rw [e]; grind⟩
theorem dv_left {a b c : Pl} (e : a = b * c) : PX.Dv b a := ⟨c, e⟩
end VS
set_option Elab.async false
set_option linter.all false
set_option maxRecDepth 100000
/-! plain: values at ratios. -/
namespace PX
open Pl
/-- the value at p/q, times q ^ N -/
def hm (p q : Int) : Nat → (Nat → Int) → Int
  | 0, f => f 0
  | N + 1, f => f 0 * q ^ (N + 1) + p * hm p q N (fun i => f (i + 1))
theorem hm_add (p q : Int) : ∀ (N : Nat) (f g : Nat → Int), hm p q N (fun i => f i + g i) = hm p q N f + hm p q N g
  | 0, f, g => rfl
  | N + 1, f, g => by
    simp only [hm]
    rw [hm_add p q N (fun i => f (i + 1)) (fun i => g (i + 1)), Int.add_mul, Int.mul_add]
    omega
theorem hm_sc (p q a : Int) : ∀ (N : Nat) (f : Nat → Int), hm p q N (fun i => a * f i) = a * hm p q N f
  | 0, f => rfl
  | N + 1, f => by
    simp only [hm]
    rw [hm_sc p q a N (fun i => f (i + 1))]
    generalize hm p q N (fun i => f (i + 1)) = u
    generalize q ^ (N + 1) = v
    grind
theorem hm_zero (p q : Int) : ∀ N : Nat, hm p q N (fun _ => 0) = 0
  | 0 => rfl
  | N + 1 => by simp only [hm]; rw [hm_zero p q N]; simp
theorem hm_pad (p q : Int) (k : Nat) : ∀ (N : Nat) (f : Nat → Int), (∀ i, N < i → f i = 0) → hm p q (N + k) f = q ^ k * hm p q N f
  | 0, f, h => by
    cases k with
    | zero => simp [hm]
    | succ k =>
      rw [show 0 + (k + 1) = k + 1 by omega]
      simp only [hm]
      rw [show (fun i => f (i + 1)) = fun _ => 0 from funext fun i => h (i + 1) (by omega), hm_zero]
      rw [Int.mul_zero, Int.add_zero, Int.mul_comm]
  | N + 1, f, h => by
    rw [show N + 1 + k = (N + k) + 1 by omega]
    simp only [hm]
    rw [hm_pad p q k N (fun i => f (i + 1)) (fun i hi => h (i + 1) (by omega)), show N + k + 1 = k + (N + 1) by omega, Int.pow_add]
    generalize hm p q N (fun i => f (i + 1)) = u
    generalize q ^ (N + 1) = v
    generalize q ^ k = w
    grind
theorem hm_conv (p q : Int) : ∀ (M N : Nat) (f g : Nat → Int), (∀ i, M < i → f i = 0) → (∀ i, N < i → g i = 0) → hm p q (M + N) (conv f g) = hm p q M f * hm p q N g
  | 0, N, f, g, hf, hg => by
    have e : conv f g = fun n => f 0 * g n := funext fun n => by
      cases n with
      | zero => rfl
      | succ n => rw [conv, show (fun i => f (i + 1)) = fun _ => 0 from funext fun i => hf (i + 1) (by omega), conv_zerol]; omega
    rw [Nat.zero_add, e, hm_sc]
    rfl
  | M + 1, N, f, g, hf, hg => by
    have ih := hm_conv p q M N (fun i => f (i + 1)) g (fun i hi => hf (i + 1) (by omega)) hg
    have pd := hm_pad p q (M + 1) N g hg
    rw [show M + 1 + N = (M + N) + 1 by omega]
    rw [show N + (M + 1) = (M + N) + 1 by omega] at pd
    simp only [hm] at pd ⊢
    have e : (fun i => conv f g (i + 1)) = fun i => f 0 * g (i + 1) + conv (fun i => f (i + 1)) g i := rfl
    rw [e, hm_add p q (M + N) (fun i => f 0 * g (i + 1)) (conv (fun i => f (i + 1)) g), hm_sc, ih]
    show f 0 * g 0 * q ^ (M + N + 1) + _ = _
    generalize hm p q (M + N) (fun i => g (i + 1)) = a at *
    generalize hm p q M (fun i => f (i + 1)) = b at *
    generalize hm p q N g = c at *
    generalize q ^ (M + N + 1) = d at *
    generalize q ^ (M + 1) = u at *
    grind
theorem pw_ne {q : Int} (h : q ≠ 0) : ∀ n : Nat, q ^ n ≠ 0
  | 0 => by simp
  | n + 1 => by rw [Int.pow_succ]; exact Int.mul_ne_zero (pw_ne h n) h
/-- no ratio is a zero of f and of its slope -/
theorem Sqf.no_double {f : Pl} (h : Sqf f) {d : Nat} (hd : sz f ≤ d + 1) {p q : Int} (hq : q ≠ 0) (h1 : hm p q d f.c = 0) (h2 : hm p q (d - 1) (D f).c = 0) : False := by
  obtain ⟨z, U, V, hz, e⟩ := h
  obtain ⟨A, hA⟩ : ∃ A, A = sz U + sz V + 1 := ⟨_, rfl⟩
  have e1 : hm p q (A + d) (U * f).c = hm p q A U.c * hm p q d f.c := hm_conv p q A d U.c f.c (fun i hi => sz_far U (by omega)) (fun i hi => sz_far f (by omega))
  have hDf : ∀ i, d - 1 < i → (D f).c i = 0 := fun i hi => by rw [c_D, sz_far f (by omega), Int.mul_zero]
  have e2 : hm p q (A + d) (V * D f).c = 0 := by
    cases d with
    | zero =>
      have : D f = 0 := Pl.ext fun i => by rw [c_D, sz_far f (by omega), Int.mul_zero, c_zero]
      rw [this, show V * (0 : Pl) = 0 by grind, show (0 : Pl).c = fun _ => 0 from funext c_zero, hm_zero]
    | succ d =>
      have := hm_conv p q (A + 1) d V.c (D f).c (fun i hi => sz_far V (by omega)) (fun i hi => hDf i (by omega))
      rw [show A + 1 + d = A + (d + 1) by omega] at this
      show hm p q (A + (d + 1)) (conv V.c (D f).c) = 0
      rw [this, show hm p q d (D f).c = 0 from h2, Int.mul_zero]
  have e3 : hm p q (A + d) (C z).c = 0 := by
    rw [e]
    show hm p q (A + d) (fun i => (U * f).c i + (V * D f).c i) = 0
    rw [hm_add p q (A + d) (U * f).c (V * D f).c, e1, e2, h1, Int.mul_zero]
    rfl
  have e4 : hm p q (A + d) (C z).c = q ^ (A + d) * z := by
    have := hm_pad p q (A + d) 0 (C z).c (fun i hi => by rw [c_C, if_neg (by omega)])
    rw [Nat.zero_add] at this
    rw [this]; rfl
  rw [e4] at e3
  rcases Int.mul_eq_zero.mp e3 with c | c
  · exact pw_ne hq _ c
  · exact hz c
end PX
namespace VS
open PySem PySem.Spec L2
open PX (Pl ofL sz)
open PX.Pl (C)
theorem tv_hm (p q : Int) : ∀ (l : List Int), l ≠ [] → tv p q l = PX.hm p q (l.length - 1) (cf l)
  | [], h => absurd rfl h
  | [x], _ => by show 0 * p + x * q ^ 0 = x; simp
  | x :: y :: l, _ => by
    have ih := tv_hm p q (y :: l) (List.cons_ne_nil _ _)
    show tv p q (y :: l) * p + x * q ^ (y :: l).length = PX.hm p q (l.length + 1) (cf (x :: y :: l))
    simp only [PX.hm]
    rw [ih]
    show PX.hm p q l.length (cf (y :: l)) * p + x * q ^ (l.length + 1) = x * q ^ (l.length + 1) + p * PX.hm p q l.length (cf (y :: l))
    rw [Int.mul_comm p]; omega
theorem no_double {l : List Int} (hl : Tr l) (hn : l ≠ []) (h : PX.Sqf (ofL l)) {p q : Int} (hq : q ≠ 0) : ¬ (tv p q l = 0 ∧ tv p q (derL l) = 0) := by
  rintro ⟨h1, h2⟩
  have hlen := List.length_pos_iff.mpr hn
  refine h.no_double (d := l.length - 1) (p := p) (q := q) (by rw [pl_sz hl]; omega) hq ?_ ?_
  · rw [tv_hm p q l hn] at h1; exact h1
  · by_cases hd : derL l = []
    · have : PX.D (ofL l) = 0 := by rw [← pl_der, hd, pl_nil]
      rw [this, show (0 : Pl).c = fun _ => 0 from funext PX.c_zero, PX.hm_zero]
    · rw [tv_hm p q _ hd, derL_len] at h2
      rw [← pl_der]
      exact h2
theorem rangeD_one (n : Nat) : rangeD 1 (((n : Nat) : Int) - 1).toNat = (List.range (n - 1)).map fun i => Dt.int (1 + ((i : Nat) : Int)) := by
  unfold rangeD
  rw [show (((n : Nat) : Int) - 1).toNat = n - 1 by omega]
theorem gcdA_lt {l : List Int} {M : Nat} (h : SzL M l) : (gcdA l).natAbs < 2 ^ M := by
  by_cases hz : ∀ x ∈ l, x = 0
  · have : gcdA l = 0 := Int.zero_dvd.mp (gcdA_max _ l rfl 0 fun x hx => by rw [hz x hx]; exact Int.dvd_zero _)
    rw [this]; exact Nat.two_pow_pos M
  · obtain ⟨x, hx⟩ : ∃ x, x ∈ l ∧ x ≠ 0 := Classical.byContradiction fun c => hz fun x hx => Classical.byContradiction fun y => c ⟨x, hx, y⟩
    have h1 := Int.natAbs_dvd_natAbs.mpr (gcdA_dvd _ l rfl x hx.1)
    have h2 := Nat.le_of_dvd (by have := hx.2; omega) h1
    exact Nat.lt_of_le_of_lt h2 (h x hx.1)
def lprL (l : List Int) : List Int := l.map fun x => x / max 1 (gcdA l)
theorem lpr_len (l : List Int) : (lprL l).length = l.length := by unfold lprL; rw [List.length_map]
theorem lpr_le {l : List Int} {K : Nat} (h : ∀ x ∈ l, x.natAbs ≤ K) : ∀ x ∈ lprL l, x.natAbs ≤ K := fun x hx => by
  obtain ⟨y, hy, rfl⟩ := List.mem_map.mp hx
  have hd : max 1 (gcdA l) ∣ y := by
    by_cases hg : gcdA l = 0
    · rw [hg]; exact Int.one_dvd _
    · have := gcdA_nn l
      rw [show max 1 (gcdA l) = gcdA l by omega]
      exact gcdA_dvd _ l rfl y hy
  obtain ⟨k, hk⟩ := hd
  have hp : max 1 (gcdA l) ≠ 0 := by have := gcdA_nn l; omega
  have e : y / max 1 (gcdA l) = k := by
    generalize max 1 (gcdA l) = m at *
    rw [hk]; exact Int.mul_ediv_cancel_left _ hp
  rw [e]
  have h2 := h y hy
  rw [hk, Int.natAbs_mul] at h2
  have : 1 ≤ (max 1 (gcdA l)).natAbs := by omega
  exact Nat.le_trans (Nat.le_mul_of_pos_left _ this) h2
theorem lpr_prim {l : List Int} (h : PX.Prim (ofL l)) : lprL l = l := by
  have hg : (gcdA l).natAbs = 1 := h _ fun i => by
    show gcdA l ∣ cf l i
    by_cases hi : i < l.length
    · exact gcdA_dvd _ l rfl _ (List.mem_of_getElem? (cf_lt hi))
    · rw [cf_ge (by omega)]; exact Int.dvd_zero _
  have : gcdA l = 1 := by have := gcdA_nn l; omega
  unfold lprL
  rw [this]
  show l.map (fun x => x / 1) = l
  simp
def ph__law_primitive : Ph := fun ds q _ => ∃ l : List Int, ds = [iL l] ∧ (l.length ≤ 900 ∧ SzL 8000 l) ∧ q (iL (lprL l))
theorem u__law_primitive {l : List Int} {q : Dt → Prop} {x : XD} (h : l.length ≤ 900 ∧ SzL 8000 l) (p : q (iL (lprL l))) : ph__law_primitive [iL l] q x := ⟨l, rfl, h, p⟩
def ph__law_double_root : Ph := fun ds q _ => ∃ l : List Int, ds = [iL l] ∧ (Tr l ∧ l.length ≤ 100 ∧ SzL 4000 l ∧ ∀ a b : Int, 1 ≤ b → ¬ (tv a b l = 0 ∧ tv a b (derL l) = 0)) ∧ q (.bl false)
theorem u__law_double_root {l : List Int} {q : Dt → Prop} {x : XD} (h : Tr l ∧ l.length ≤ 100 ∧ SzL 4000 l ∧ ∀ a b : Int, 1 ≤ b → ¬ (tv a b l = 0 ∧ tv a b (derL l) = 0)) (p : q (.bl false)) : ph__law_double_root [iL l] q x := ⟨l, rfl, h, p⟩
def ph__law_dividesP : Ph := fun ds q _ => ∃ a b : List Int, ds = [iL a, iL b] ∧ (Tr a ∧ Tr b ∧ b ≠ [] ∧ a.length ≤ 100 ∧ b.length ≤ 100 ∧ SzL 4000 a ∧ SzL 100 b ∧ ¬ PX.Dv (ofL b) (ofL a)) ∧ q (.bl false)
theorem u__law_dividesP {a b : List Int} {q : Dt → Prop} {x : XD} (h : Tr a ∧ Tr b ∧ b ≠ [] ∧ a.length ≤ 100 ∧ b.length ≤ 100 ∧ SzL 4000 a ∧ SzL 100 b ∧ ¬ PX.Dv (ofL b) (ofL a)) (p : q (.bl false)) : ph__law_dividesP [iL a, iL b] q x := ⟨a, b, rfl, h, p⟩
def ph__law_factor : Ph := fun ds q _ => ds = [] ∧ ∀ l : List Int, l.length ≤ 3 → (∀ x ∈ l, x.natAbs ≤ 8) → q (iL l)
theorem u__law_factor {q : Dt → Prop} {x : XD} (_ : True) (p : ∀ l : List Int, l.length ≤ 3 → (∀ x ∈ l, x.natAbs ≤ 8) → q (iL l)) : ph__law_factor [] q x := ⟨rfl, p⟩
def ph_split_square (CP : Addr) : Ph := fun ds q _ => ∃ (l : List Int) (n B : Nat), ds = [polD CP l] ∧ (Tr l ∧ l.length ≤ n ∧ Le B l ∧ SpC n B) ∧ (l = [] → q (.tup [polD CP [], polD CP [1]])) ∧ (l ≠ [] → ∀ rest root, IsSp l rest root → Le (PX.facB n B) rest → Le (PX.facB n B) root → q (.tup [polD CP rest, polD CP root]))
theorem u_split_square {CP : Addr} {l : List Int} {n B : Nat} {q : Dt → Prop} {x : XD} (h : Tr l ∧ l.length ≤ n ∧ Le B l ∧ SpC n B) (p : (l = [] → q (.tup [polD CP [], polD CP [1]])) ∧ (l ≠ [] → ∀ rest root, IsSp l rest root → Le (PX.facB n B) rest → Le (PX.facB n B) root → q (.tup [polD CP rest, polD CP root]))) : ph_split_square CP [polD CP l] q x := ⟨l, n, B, rfl, h, p.1, p.2⟩
theorem IsSp.lens {l rest root : List Int} (h : IsSp l rest root) (hl : Tr l) (hn : l ≠ []) : rest ≠ [] ∧ rest.length ≤ l.length ∧ root ≠ [] ∧ root.length ≤ l.length := by
  have h0 : ofL l ≠ 0 := fun z => hn ((pl_zero hl).mp z)
  have e := h.eq
  have hr : ofL rest ≠ 0 := fun z => h0 (by rw [e, z]; grind)
  have ht := h.pos.ne
  refine ⟨fun z => hr (by rw [z, pl_nil]), ?_, (of_ps h.troot h.pos).1, ?_⟩
  · exact dv_len h.trest h0 (dv_right e) (by rw [pl_sz hl]; exact Nat.le_refl _)
  · exact dv_len h.troot h0 ⟨ofL root * ofL rest, by rw [e]; grind⟩ (by rw [pl_sz hl]; exact Nat.le_refl _)
def dvL (r b : List Int) (f : Int) : List Int := (List.range r.length).map fun k => cf r k - f * cf (lowL r b) k
theorem dv_spec {r b : List Int} {f : Int} (hb : b ≠ []) (h : b.length ≤ r.length) (hf : cf r (r.length - 1) = f * cf b (b.length - 1)) : ofL (dvL r b f) = ofL r - C f * (PX.X ^ (r.length - b.length) * ofL b) ∧ (trimL (dvL r b f)).length < r.length := by
  have hbp := List.length_pos_iff.mpr hb
  have hc : ∀ i, cf (dvL r b f) i = cf r i - f * cf (lowL r b) i := fun i => by
    unfold dvL
    rw [cf_map]
    split
    · rfl
    · rw [cf_ge (show r.length ≤ i by omega), cf_ge (show (lowL r b).length ≤ i by rw [low_len h]; omega), Int.mul_zero]; rfl
  refine ⟨PX.Pl.ext fun i => ?_, ?_⟩
  · rw [← pl_zeros, PX.c_sub, PX.c_smul]
    exact hc i
  · have hl : (dvL r b f).length = r.length := by unfold dvL; simp
    have htop : cf (dvL r b f) (r.length - 1) = 0 := by
      rw [hc]
      have : cf (lowL r b) (r.length - 1) = cf b (b.length - 1) := by
        unfold lowL
        rw [cf_app, List.length_replicate, if_neg (by omega)]
        congr 1
        omega
      rw [this, ← hf]; omega
    have h1 := trim_len (dvL r b f)
    apply Classical.byContradiction
    intro hn
    have e : (trimL (dvL r b f)).length = r.length := by omega
    have hne : trimL (dvL r b f) ≠ [] := fun z => by rw [z, List.length_nil] at e; omega
    have := tr_last (tr_trim (dvL r b f)) hne
    rw [e, cf_trim] at this
    exact this htop
theorem low_sz {r b : List Int} {t : Nat} (hb : SzL t b) (i : Nat) : (cf (lowL r b) i).natAbs < 2 ^ t := by
  unfold lowL
  rw [cf_app]
  split
  · rw [rep_zero]; exact Nat.two_pow_pos t
  · exact cf_sz hb _
theorem dv_sz {r b : List Int} {f : Int} {s t : Nat} (hr : SzL s r) (hb : SzL t b) (hf : f.natAbs < 2 ^ s) : SzL (s + t + 1) (dvL r b f) := szl_cf fun i => by
  unfold dvL
  rw [cf_map]
  split
  · have h1 := cf_sz hr i
    have h3 : (f * cf (lowL r b) i).natAbs < 2 ^ (s + t) := sz_mul hf (low_sz hb i)
    have h4 : 2 ^ s ≤ 2 ^ (s + t) := Nat.pow_le_pow_right (by decide) (by omega)
    rw [Nat.pow_succ]
    omega
  · exact Nat.two_pow_pos _
end VS
set_option Elab.async false
set_option linter.all false
set_option maxRecDepth 100000
set_option maxHeartbeats 4000000
namespace Lk
open PySem PySem.Spec L2 VS
local macro_rules | `(tactic| walk_at "sc") => `(tactic| first | exact True.intro | with_reducible assumption | omega | (constructor <;> omega) | exact at_cf rfl (by omega) | (rw [List.length_map]; exact ix_nat (by omega)) | (simp only [Str.length_append]; omega) | assumption | rfl | trivial | (refine mulOk' (by walk_at "sz") (by walk_at "sz") ?_; rfl))
local macro_rules | `(tactic| walk_at "sz") => `(tactic| first | assumption | exact SzR.one (by assumption) | exact SzR.two (by assumption) | exact sz_lit _ | (refine sz_mul ?_ ?_ <;> walk_at "sz") | (refine sz_add2 ?_ ?_ <;> walk_at "sz") | (refine sz_sub2 ?_ ?_ <;> walk_at "sz") | (refine sz_neg ?_ <;> walk_at "sz"))
local macro_rules | `(tactic| walk_at "szg") => `(tactic| (refine sz_up' (by walk_at "sz") ?_; rfl))
local macro_rules | `(tactic| walk_at "ok") => `(tactic| first | rfl | assumption | exact ok_ints _ | exact ok_intsT _ | simp [okN])
def topS (i : Nat) : Stmt := PySem.Challenge.pw_lookstop_k13_whole_repeated_factors_spli.main.body.getD i (.Pass ⟨0, 0, 0, 0⟩)
abbrev d_NOTHING : Dt := .tup [.int 0, .int 1]
abbrev d_WHOLE : Dt := .tup [.int 1, .int 1]
section
variable {P : Program} {w : World} {K : PySem.W.Frag} {mg : Str → Option Value} {base : Heap}
abbrev s_trim : Stmt := topS 10
abbrev N_trim : List Str := ["coefs", "size"]
theorem sc_trim : FnScope N_trim ["coefs"] (defScope s_trim) := ⟨rfl, rfl, rfl, by decide +kernel, rfl, by decide +kernel, by decide +kernel⟩
theorem ok_trim {f : Addr} {fd : FuncData} {k : Nat} {dvs : List V} {kws : List (Str × V)} (F : FD K "trim" "trim" s_trim dvs kws f fd) (m_len : mg "len" = none) (m_tuple : mg "tuple" = none) : FnOk P w K mg base (L2.CX P w) (k + 1) f fd ["coefs"] (spD K 1 ph_trim) := by
  refine fn_ok F sc_trim rfl fun X cdv A outer s H E ds q xd hX hr hph hl Fr wf xok => ?_
  subst hX
  obtain ⟨l, d, rfl, hd, hlen, hq⟩ := hph
  rcases hd with rfl | rfl
  · show S _ _ _ [_, _] _
    show S _ _ _ [_, _] _
    refine s_cons (s_a 1 sc_trim.nd ?_)
    refine e_callB (id := "len") (by rfl) m_len b_len ?_
    refine ea_cons ?_
    refine e_v 0 ?_
    refine ea_nil ?_
    first | refine wc_len_lst ?_ | refine wc_len_tup ?_ | refine wc_len_str (by walk_at "sc") ?_ | refine wc_lenc (fun hn63 => ?_)
    show S _ _ _ [_, _] _
    rw [List.length_map]
    refine s_cons (s_while (fun m G => ∃ s : Nat, m = s ∧ G = [_, .sh (.int (s : Int))] ∧ s ≤ l.length ∧ ∀ i, s ≤ i → cf l i = 0) l.length ⟨l.length, rfl, rfl, Nat.le_refl _, fun i hi => cf_ge hi⟩ (passes_of rfl) fun m G hI => ?_)
    obtain ⟨s', rfl, rfl, hs, hz⟩ := hI
    refine TW.t ?_
    refine' tw_andD ?ha1 (fun hb => ?hb1) ?hc1
    case ha1 =>
      refine t_cmp ?_
      refine e_v 1 ?_
      refine e_int ?_
      refine w_gt ?_
      refine ⟨_, rfl, ?_⟩
      exact rfl
    case hb1 =>
      refine tw_and1 ?_
      refine t_cmp ?_
      refine e_ix ?_
      refine e_v 0 ?_
      refine e_bin ?_
      refine e_v 1 ?_
      refine e_int ?_
      refine w_sub ?_
      (have hb' : (0 : Int) < (m : Int) := of_decide_eq_true hb; first | refine wi_lst (at_cf (j := m - 1) (by omega) (by omega)) ?_ | refine wi_tup (at_cf (j := m - 1) (by omega) (by omega)) ?_)
      refine e_int ?_
      first | refine w_eqI ?_ | refine w_eqT ?_ | refine w_eqB ?_ | refine w_eqD hr.units (by walk_at "ok") (by walk_at "ok") ?_
      refine ⟨_, rfl, ?_⟩
      exact rfl
    by_cases hc : 0 < m ∧ cf l (m - 1) = 0
    · refine ite_t (by rw [decide_eq_true (show (0 : Int) < (m : Int) by omega), decide_eq_true hc.2]; rfl) ?_
      have e : (m : Int) - 1 = ((m - 1 : Nat) : Int) := by omega
      refine s_one (s_a 1 sc_trim.nd ?_)
      refine e_bin ?_
      refine e_v 1 ?_
      refine e_int ?_
      refine w_sub ?_
      rw [e]
      refine ⟨m - 1, by omega, m - 1, rfl, rfl, by omega, fun i hi => ?_⟩
      by_cases hi2 : i = m - 1
      · rw [hi2]; exact hc.2
      · exact hz i (by omega)
    · refine ite_f ?_ ?_
      · by_cases h0 : 0 < m
        · rw [decide_eq_false (show ¬ cf l (m - 1) = 0 from fun z => hc ⟨h0, z⟩), Bool.and_false]
        · rw [decide_eq_false (show ¬ (0 : Int) < (m : Int) by omega), Bool.false_and]
      · have et : (l.map Dt.int).take m = (trimL l).map Dt.int := by
          rw [← List.map_take, take_trim hs hz]
          by_cases h0 : 0 < m
          · exact .inr fun z => hc ⟨h0, z⟩
          · exact .inl (by omega)
        refine s_cons (s_ret ?_)
        refine e_callTy (id := "tuple") (by rfl) m_tuple b_tuple ?_
        refine ea_cons ?_
        refine e_slice ?_
        refine e_v 0 ?_
        refine eo_none ?_
        refine eo_some ?_
        refine e_v 1 ?_
        refine ⟨_, rfl, ?_⟩
        first | refine wsl_lst ?_ | refine wsl_tup ?_ | refine wsl_str (by walk_at "sc") ?_
        refine ea_nil ?_
        first | refine wc_tuple_lst ?_ | refine wc_tuple_tup ?_
        rw [cut_to (by rw [List.length_map]; exact hs), et]
        exact hq
  · show S _ _ _ [_, _] _
    show S _ _ _ [_, _] _
    refine s_cons (s_a 1 sc_trim.nd ?_)
    refine e_callB (id := "len") (by rfl) m_len b_len ?_
    refine ea_cons ?_
    refine e_v 0 ?_
    refine ea_nil ?_
    first | refine wc_len_lst ?_ | refine wc_len_tup ?_ | refine wc_len_str (by walk_at "sc") ?_ | refine wc_lenc (fun hn63 => ?_)
    show S _ _ _ [_, _] _
    rw [List.length_map]
    refine s_cons (s_while (fun m G => ∃ s : Nat, m = s ∧ G = [_, .sh (.int (s : Int))] ∧ s ≤ l.length ∧ ∀ i, s ≤ i → cf l i = 0) l.length ⟨l.length, rfl, rfl, Nat.le_refl _, fun i hi => cf_ge hi⟩ (passes_of rfl) fun m G hI => ?_)
    obtain ⟨s', rfl, rfl, hs, hz⟩ := hI
    refine TW.t ?_
    refine' tw_andD ?ha2 (fun hb => ?hb2) ?hc2
    case ha2 =>
      refine t_cmp ?_
      refine e_v 1 ?_
      refine e_int ?_
      refine w_gt ?_
      refine ⟨_, rfl, ?_⟩
      exact rfl
    case hb2 =>
      refine tw_and1 ?_
      refine t_cmp ?_
      refine e_ix ?_
      refine e_v 0 ?_
      refine e_bin ?_
      refine e_v 1 ?_
      refine e_int ?_
      refine w_sub ?_
      (have hb' : (0 : Int) < (m : Int) := of_decide_eq_true hb; first | refine wi_lst (at_cf (j := m - 1) (by omega) (by omega)) ?_ | refine wi_tup (at_cf (j := m - 1) (by omega) (by omega)) ?_)
      refine e_int ?_
      first | refine w_eqI ?_ | refine w_eqT ?_ | refine w_eqB ?_ | refine w_eqD hr.units (by walk_at "ok") (by walk_at "ok") ?_
      refine ⟨_, rfl, ?_⟩
      exact rfl
    by_cases hc : 0 < m ∧ cf l (m - 1) = 0
    · refine ite_t (by rw [decide_eq_true (show (0 : Int) < (m : Int) by omega), decide_eq_true hc.2]; rfl) ?_
      have e : (m : Int) - 1 = ((m - 1 : Nat) : Int) := by omega
      refine s_one (s_a 1 sc_trim.nd ?_)
      refine e_bin ?_
      refine e_v 1 ?_
      refine e_int ?_
      refine w_sub ?_
      rw [e]
      refine ⟨m - 1, by omega, m - 1, rfl, rfl, by omega, fun i hi => ?_⟩
      by_cases hi2 : i = m - 1
      · rw [hi2]; exact hc.2
      · exact hz i (by omega)
    · refine ite_f ?_ ?_
      · by_cases h0 : 0 < m
        · rw [decide_eq_false (show ¬ cf l (m - 1) = 0 from fun z => hc ⟨h0, z⟩), Bool.and_false]
        · rw [decide_eq_false (show ¬ (0 : Int) < (m : Int) by omega), Bool.false_and]
      · have et : (l.map Dt.int).take m = (trimL l).map Dt.int := by
          rw [← List.map_take, take_trim hs hz]
          by_cases h0 : 0 < m
          · exact .inr fun z => hc ⟨h0, z⟩
          · exact .inl (by omega)
        refine s_cons (s_ret ?_)
        refine e_callTy (id := "tuple") (by rfl) m_tuple b_tuple ?_
        refine ea_cons ?_
        refine e_slice ?_
        refine e_v 0 ?_
        refine eo_none ?_
        refine eo_some ?_
        refine e_v 1 ?_
        refine ⟨_, rfl, ?_⟩
        first | refine wsl_lst ?_ | refine wsl_tup ?_ | refine wsl_str (by walk_at "sc") ?_
        refine ea_nil ?_
        first | refine wc_tuple_lst ?_ | refine wc_tuple_tup ?_
        rw [cut_to (by rw [List.length_map]; exact hs), et]
        exact hq

abbrev s_times : Stmt := topS 15
abbrev N_times : List Str := ["first", "second", "row", "i", "x", "j", "y", "k"]
theorem sc_times : FnScope N_times ["first", "second"] (defScope s_times) := ⟨rfl, rfl, rfl, by decide +kernel, rfl, by decide +kernel, by decide +kernel⟩
theorem ok_times {f : Addr} {fd : FuncData} {k : Nat} {dvs : List V} {kws : List (Str × V)} (F : FD K "times" "times" s_times dvs kws f fd) (m_enumerate : mg "enumerate" = none) (m_len : mg "len" = none) (m_range : mg "range" = none) (c_trim : Fn P w K mg base k "trim" ["coefs"] [] (spD K 1 ph_trim)) : FnOk P w K mg base (L2.CX P w) (k + 1) f fd ["first", "second"] (spD K 2 ph_times) := by
  refine fn_ok F sc_times rfl fun X cdv A outer s H E ds q xd hX hr hph hl Fr wf xok => ?_
  subst hX
  obtain ⟨a, b, A', B', rfl, ⟨ha, hb, sa, sb, hAB⟩, hq⟩ := hph
  show S _ _ _ [_, _, _, _, _, _, _, _] _
  show S _ _ _ [.sh (.tup (a.map .int)), .sh (.tup (b.map .int)), .no, .no, .no, .no, .no, .no] _
  refine s_cons (s_if ?_)
  refine TW.t ?_
  refine' tw_orD ?ha3 (fun hb => ?hb3) ?hc3
  case ha3 =>
    refine t_cmp ?_
    refine e_callB (id := "len") (by rfl) m_len b_len ?_
    refine ea_cons ?_
    refine e_v 0 ?_
    refine ea_nil ?_
    first | refine wc_len_lst ?_ | refine wc_len_tup ?_ | refine wc_len_str (by walk_at "sc") ?_ | refine wc_lenc (fun hn63 => ?_)
    refine e_int ?_
    first | refine w_eqI ?_ | refine w_eqT ?_ | refine w_eqB ?_ | refine w_eqD hr.units (by walk_at "ok") (by walk_at "ok") ?_
    refine ⟨_, rfl, ?_⟩
    exact rfl
  case hb3 =>
    refine tw_or1 ?_
    refine t_cmp ?_
    refine e_callB (id := "len") (by rfl) m_len b_len ?_
    refine ea_cons ?_
    refine e_v 1 ?_
    refine ea_nil ?_
    first | refine wc_len_lst ?_ | refine wc_len_tup ?_ | refine wc_len_str (by walk_at "sc") ?_ | refine wc_lenc (fun hn63 => ?_)
    refine e_int ?_
    first | refine w_eqI ?_ | refine w_eqT ?_ | refine w_eqB ?_ | refine w_eqD hr.units (by walk_at "ok") (by walk_at "ok") ?_
    refine ⟨_, rfl, ?_⟩
    exact rfl
  rw [List.length_map, List.length_map]
  by_cases h0 : a.length = 0 ∨ b.length = 0
  · refine ite_t ?_ ?_
    · rcases h0 with h | h
      · rw [decide_eq_true (show (a.length : Int) = 0 by omega)]; rfl
      · rw [decide_eq_true (show (b.length : Int) = 0 by omega), Bool.or_true]
    · refine s_one (s_ret ?_)
      refine e_tup ?_
      refine ea_nil ?_
      refine ⟨Nat.le_of_ble_eq_true rfl, ?_⟩
      have e : trimL (mulL a b) = [] := (trim_nil_iff _).mpr fun k => by
        rcases h0 with h | h
        · rw [List.eq_nil_of_length_eq_zero h]; simp [mulL]
        · rw [List.eq_nil_of_length_eq_zero h]; exact mul_nil a k
      rw [e] at hq
      exact hq
  · refine ite_f ?_ ?_
    · rw [decide_eq_false (show ¬ (a.length : Int) = 0 by omega), decide_eq_false (show ¬ (b.length : Int) = 0 by omega)]; rfl
    · refine s_nil ?_
      have rr : ((a.map Dt.int).length : Int) + ((b.map Dt.int).length : Int) - 1 = ((a.length + b.length - 1 : Nat) : Int) := by rw [List.length_map, List.length_map]; omega
      generalize hn : a.length + b.length - 1 = n at rr
      have rb : -(2 ^ 62) ≤ ((a.map Dt.int).length : Int) + ((b.map Dt.int).length : Int) - 1 := by rw [rr]; omega
      have rb2 : ((a.map Dt.int).length : Int) + ((b.map Dt.int).length : Int) - 1 < 2 ^ 62 := by rw [rr]; omega
      refine s_cons (s_lcN 2 (own := [("k", 7)]) rfl sc_times.nd rfl rfl (sw_true rfl rfl rfl (by decide +kernel)) (blkOk_by (N := N_times) (sc := defScope s_times) (by decide +kernel)) ?_)
      refine i_range1 (by rfl) m_range ?_
      refine ea_cons ?_
      refine e_bin ?_
      refine e_bin ?_
      refine e_callB (id := "len") (by rfl) m_len b_len ?_
      refine ea_cons ?_
      refine e_v 0 ?_
      refine ea_nil ?_
      first | refine wc_len_lst ?_ | refine wc_len_tup ?_ | refine wc_len_str (by walk_at "sc") ?_ | refine wc_lenc (fun hn63 => ?_)
      refine e_callB (id := "len") (by rfl) m_len b_len ?_
      refine ea_cons ?_
      refine e_v 1 ?_
      refine ea_nil ?_
      first | refine wc_len_lst ?_ | refine wc_len_tup ?_ | refine wc_len_str (by walk_at "sc") ?_ | refine wc_lenc (fun hn63 => ?_)
      first | refine w_add ?_ | refine w_catT (by walk_at "sc") ?_ | refine w_addS (by walk_at "sc") ?_ | refine w_catL (by walk_at "sc") ?_
      refine e_int ?_
      refine w_sub ?_
      refine ea_nil ?_
      refine ⟨_, rfl, by walk_at "sc", by walk_at "sc", ?_⟩
      rw [rr, rangeD_nat]
      refine' ⟨?lcl4, _, lc_of (List.range n) (fun i => Dt.int (i : Nat)) (fun i => .int 0) (fun i => [(7, Dt.int (i : Nat))]) ?lct4 ?lcm4 ?lce4, ?lcc4⟩
      case lcl4 =>
        rw [List.length_map, List.length_range]; omega
      case lct4 =>
        rintro t ht Y ⟨s', H', C, cl, fp, rfl⟩
        exact (a_n 7 sc_times.nd)
      case lcm4 =>
        intro t p hp
        simp at hp
        simp [hp]
      case lce4 =>
        rintro t ht Y ⟨s', H', C, cl, fp, rfl⟩
        refine e_int ?_
        rfl
      rintro acc rfl
      rw [take_map_all]
      rw [map_int (fun _ => 0)]
      have hl0 : ((List.range n).map fun _ => (0 : Int)).length = n := by simp
      have hc0 : ∀ i, cf ((List.range n).map fun _ => (0 : Int)) i = 0 := zeros_cf n
      generalize (List.range n).map (fun _ => (0 : Int)) = r0 at *
      show S _ _ _ [_, _, _, _, _, _, _, _] _
      refine s_cons (s_for (passes_of rfl) rfl ?_)
      refine i_enum (by rfl) m_enumerate ?_
      refine ea_cons ?_
      refine e_v 0 ?_
      refine ea_nil ?_
      refine ⟨_, _, rfl, rfl, ?_⟩
      refine ⟨fun i G => ∃ r g3 g4 g5 g6 g7, G = [.sh (.tup (a.map .int)), .sh (.tup (b.map .int)), .ow (.lst (r.map .int)), g3, g4, g5, g6, g7] ∧ r.length = n ∧ ∀ k, cf r k = cf (mulL (a.take i) b) k, ⟨r0, _, _, _, _, _, rfl, hl0, fun k => by rw [hc0]; simp [mulL]⟩, ?_, ?_⟩
      · rintro i d G hd ⟨r, g3, g4, g5, g6, g7, rfl, hr1, hr2⟩
        obtain ⟨x, hx, rfl⟩ := enumD_get hd
        obtain ⟨hi, rfl⟩ := get_intL hx
        rw [Int.zero_add]
        refine ⟨_, (a_tup rfl (as_cons (a_n 3 sc_times.nd) (as_cons (a_n 4 sc_times.nd) as_nil))), ?_⟩
        show S _ _ _ [_, _, _, _, _, _, _, _] _
        refine s_one (s_for (passes_of rfl) rfl ?_)
        refine i_enum (by rfl) m_enumerate ?_
        refine ea_cons ?_
        refine e_v 1 ?_
        refine ea_nil ?_
        refine ⟨_, _, rfl, rfl, ?_⟩
        refine ⟨fun j G => ∃ s g5 g6, G = [.sh (.tup (a.map .int)), .sh (.tup (b.map .int)), .ow (.lst (s.map .int)), .sh (.int (i : Nat)), .sh (.int (cf a i)), g5, g6, g7] ∧ s.length = n ∧ ∀ k, cf s k = cf r k + if i ≤ k ∧ k - i < j then cf a i * cf b (k - i) else 0, ⟨r, _, _, rfl, hr1, fun k => by rw [if_neg (by omega), Int.add_zero]⟩, ?_, ?_⟩
        · rintro j d G hd ⟨s, g5, g6, rfl, hs1, hs2⟩
          obtain ⟨y, hy, rfl⟩ := enumD_get hd
          obtain ⟨hj, rfl⟩ := get_intL hy
          rw [Int.zero_add]
          have hir : i + j < s.length := by omega
          have hm : CMulW (cf a i) (cf b j) := mulOk (sa _ (List.mem_of_getElem? (cf_lt hi))) (sb _ (List.mem_of_getElem? (cf_lt hj))) hAB
          have e1 : atI (s.map Dt.int) ((i : Int) + (j : Int)) = some (.int (cf s (i + j))) := at_cf (by omega) hir
          have e2 : ixN (s.map Dt.int).length ((i : Int) + (j : Int)) = some (i + j) := by rw [List.length_map, show (i : Int) + (j : Int) = ((i + j : Nat) : Int) by omega]; exact ix_nat hir
          refine ⟨_, (a_tup rfl (as_cons (a_n 5 sc_times.nd) (as_cons (a_n 6 sc_times.nd) as_nil))), ?_⟩
          show S _ _ _ [_, _, _, _, _, _, _, _] _
          refine s_one (s_setL 2 rfl rfl (by first | exact .inl rfl | exact .inr (.inl rfl) | exact .inr (.inr rfl)) ?_)
          refine e_bin ?_
          refine e_ixO 2 rfl rfl (by first | exact .inl rfl | exact .inr (.inl rfl) | exact .inr (.inr rfl)) ?_
          refine e_bin ?_
          refine e_v 3 ?_
          refine e_v 5 ?_
          first | refine w_add ?_ | refine w_catT (by walk_at "sc") ?_ | refine w_addS (by walk_at "sc") ?_ | refine w_catL (by walk_at "sc") ?_
          refine ⟨_, _, rfl, by walk_at "sc", ?_⟩
          refine e_bin ?_
          refine e_v 4 ?_
          refine e_v 6 ?_
          first | refine w_mulS (.inr ⟨by decide, by decide⟩) ?_ | refine w_mulS (.inl ⟨by decide, by decide⟩) ?_ | refine w_mul (by walk_at "sc") ?_ | refine w_repT (by walk_at "sc") ?_ | refine w_repL (by walk_at "sc") ?_
          first | refine w_add ?_ | refine w_catT (by walk_at "sc") ?_ | refine w_addS (by walk_at "sc") ?_ | refine w_catL (by walk_at "sc") ?_
          refine e_bin ?_
          refine e_v 3 ?_
          refine e_v 5 ?_
          first | refine w_add ?_ | refine w_catT (by walk_at "sc") ?_ | refine w_addS (by walk_at "sc") ?_ | refine w_catL (by walk_at "sc") ?_
          refine ⟨_, _, rfl, by walk_at "sc", ?_⟩
          rw [set_ints]
          refine ⟨_, _, _, rfl, by rw [List.length_set]; exact hs1, fun k => ?_⟩
          have hz1 : cf s (i + j) = cf r (i + j) := by rw [hs2, if_neg (by omega), Int.add_zero]
          rw [cf_set _ _ _ _ hir, hz1]
          by_cases hk : k = i + j
          · subst hk
            rw [if_pos rfl, if_pos (by omega), show i + j - i = j by omega]
          · rw [if_neg hk, hs2]
            by_cases h2 : i ≤ k ∧ k - i < j
            · rw [if_pos h2, if_pos (by omega)]
            · rw [if_neg h2, if_neg (by omega)]
        · rintro G ⟨s, g5, g6, rfl, hs1, hs2⟩
          refine ⟨s, _, _, _, _, _, rfl, hs1, fun k => ?_⟩
          rw [hs2, hr2, take_succ' (cf_lt hi), mul_snoc, List.length_take, Nat.min_eq_left (Nat.le_of_lt hi), enumD_len, List.length_map]
          by_cases h1 : i ≤ k
          · rw [if_pos h1]
            by_cases h2 : k - i < b.length
            · rw [if_pos ⟨h1, h2⟩]
            · rw [if_neg (fun z => h2 z.2), cf_ge (l := b) (by omega), Int.mul_zero]
          · rw [if_neg h1, if_neg (fun z => h1 z.1)]
      · rintro G ⟨r, g3, g4, g5, g6, g7, rfl, hr1, hr2⟩
        have e : trimL r = trimL (mulL a b) := trim_ext fun k => by rw [hr2, enumD_len, List.length_map, List.take_length]
        have hsl : r.length ≤ 100000 := by omega
        refine s_cons (s_ret ?_)
        refine e_call (dds := []) c_trim hr (by rfl) (fun _ => .nil) ?_
        refine ea_cons ?_
        refine e_v 2 ?_
        refine ea_nil ?_
        refine ⟨rfl, ?_⟩
        refine u_trim hsl ?_
        rw [e]
        exact hq

abbrev s_derived : Stmt := topS 16
abbrev N_derived : List Str := ["coefs", "k", "x"]
theorem sc_derived : FnScope N_derived ["coefs"] (defScope s_derived) := ⟨rfl, rfl, rfl, by decide +kernel, rfl, by decide +kernel, by decide +kernel⟩
theorem ok_derived {f : Addr} {fd : FuncData} {k : Nat} {dvs : List V} {kws : List (Str × V)} (F : FD K "derived" "derived" s_derived dvs kws f fd) (m_enumerate : mg "enumerate" = none) (c_trim : Fn P w K mg base k "trim" ["coefs"] [] (spD K 1 ph_trim)) : FnOk P w K mg base (L2.CX P w) (k + 1) f fd ["coefs"] (spD K 1 ph_derived) := by
  refine fn_ok F sc_derived rfl fun X cdv A outer s H E ds q xd hX hr hph hl Fr wf xok => ?_
  subst hX
  obtain ⟨l, B', rfl, ⟨hl1, sl, hB⟩, hq⟩ := hph
  have ll : (derL l).length ≤ 100000 := by rw [derL_len]; omega
  show S _ _ _ [_, _, _] _
  show S _ _ _ [.sh (.tup (l.map .int)), .no, .no] _
  refine s_cons (s_ret ?_)
  refine e_call (dds := []) c_trim hr (by rfl) (fun _ => .nil) ?_
  refine ea_cons ?_
  refine e_slice ?_
  refine e_lc (own := [("k", 1), ("x", 2)]) rfl sc_derived.nd (blkOk_by (N := N_derived) (sc := defScope s_derived) (by decide +kernel)) ?_
  refine i_enum (by rfl) m_enumerate ?_
  refine ea_cons ?_
  refine e_v 0 ?_
  refine ea_nil ?_
  refine ⟨_, _, rfl, rfl, ?_⟩
  rw [enum_ints]
  refine' ⟨?lcl5, _, lc_of (List.range l.length) (fun i => Dt.tup [.int ((i : Nat) : Int), .int (cf l i)]) (fun i => .int (((i : Nat) : Int) * cf l i)) (fun i => [(1, .int ((i : Nat) : Int)), (2, .int (cf l i))]) ?lct5 ?lcm5 ?lce5, ?lcc5⟩
  case lcl5 =>
    rw [List.length_map, List.length_range]; omega
  case lct5 =>
    rintro t ht Y ⟨s', H', C, cl, fp, rfl⟩
    exact (a_tup rfl (as_cons (a_n 1 sc_derived.nd) (as_cons (a_n 2 sc_derived.nd) as_nil)))
  case lcm5 =>
    intro t p hp
    simp at hp
    rcases hp with hp | hp <;> simp [hp]
  case lce5 =>
    rintro t ht Y ⟨s', H', C, cl, fp, rfl⟩
    have hi := List.mem_range.mp ht
    have hm : CMulW ((t : Nat) : Int) (cf l t) := mulOk (show ((t : Nat) : Int).natAbs < 2 ^ 10 by show t < 1024; omega) (sl _ (List.mem_of_getElem? (cf_lt hi))) (by omega)
    refine e_bin ?_
    refine e_v 1 ?_
    refine e_v 2 ?_
    first | refine w_mulS (.inr ⟨by decide, by decide⟩) ?_ | refine w_mulS (.inl ⟨by decide, by decide⟩) ?_ | refine w_mul (by walk_at "sc") ?_ | refine w_repT (by walk_at "sc") ?_ | refine w_repL (by walk_at "sc") ?_
    rfl
  rintro acc rfl
  rw [take_map_all]
  rw [map_int (fun i : Nat => ((i : Nat) : Int) * cf l i)]
  refine eo_some ?_
  refine e_int ?_
  refine ⟨_, rfl, ?_⟩
  refine eo_none ?_
  first | refine wsl_lst ?_ | refine wsl_tup ?_ | refine wsl_str (by walk_at "sc") ?_
  refine ea_nil ?_
  refine ⟨rfl, ?_⟩
  (rw [show cutD (((List.range l.length).map fun i : Nat => ((i : Nat) : Int) * cf l i).map Dt.int) (some 1) none = (derL l).map Dt.int from by rw [show (1 : Int) = ((1 : Nat) : Int) from rfl, cut_from, ← List.map_drop]; rfl]; refine u_trim ll ?_)
  exact hq

abbrev s_common_divisor : Stmt := topS 6
abbrev N_common_divisor : List Str := ["first", "second"]
theorem sc_common_divisor : FnScope N_common_divisor ["first", "second"] (defScope s_common_divisor) := ⟨rfl, rfl, rfl, by decide +kernel, rfl, by decide +kernel, by decide +kernel⟩
theorem ok_common_divisor {f : Addr} {fd : FuncData} {k : Nat} {dvs : List V} {kws : List (Str × V)} (F : FD K "common_divisor" "common_divisor" s_common_divisor dvs kws f fd) (m_abs : mg "abs" = none) : FnOk P w K mg base (L2.CX P w) (k + 1) f fd ["first", "second"] (spD K 2 ph_gcd) := by
  refine fn_ok F sc_common_divisor rfl fun X cdv A outer s H E ds q xd hX hr hph hl Fr wf xok => ?_
  subst hX
  obtain ⟨a, b, rfl, hq⟩ := hph
  show S _ _ _ [_, _] _
  refine s_cons (s_a 0 sc_common_divisor.nd ?_)
  refine e_callB (id := "abs") (by rfl) m_abs b_abs ?_
  refine ea_cons ?_
  refine e_v 0 ?_
  refine ea_nil ?_
  refine wc_abs ?_
  show S _ _ _ [_, _] _
  refine s_cons (s_a 1 sc_common_divisor.nd ?_)
  refine e_callB (id := "abs") (by rfl) m_abs b_abs ?_
  refine ea_cons ?_
  refine e_v 1 ?_
  refine ea_nil ?_
  refine wc_abs ?_
  show S _ _ _ [_, _] _
  refine s_cons (s_while (fun m G => ∃ x y : Nat, m = y ∧ G = [.sh (.int (x : Int)), .sh (.int (y : Int))] ∧ Nat.gcd x y = Int.gcd a b) b.natAbs ⟨a.natAbs, b.natAbs, rfl, rfl, rfl⟩ (passes_of rfl) fun m G hI => ?_)
  obtain ⟨x, y, rfl, rfl, hg⟩ := hI
  refine t_cmp ?_
  refine e_v 1 ?_
  refine e_int ?_
  refine w_gt ?_
  refine ⟨_, rfl, ?_⟩
  refine ite_b (fun h => ?_) (fun h => ?_)
  · have h' : (0 : Int) < (m : Int) := of_decide_eq_true h
    refine s_one (s_par 0 1 rfl sc_common_divisor.nd rfl rfl (by decide) rfl rfl ?_ (by rfl))
    refine ea_cons ?_
    refine e_v 1 ?_
    refine ea_cons ?_
    refine e_bin ?_
    refine e_v 0 ?_
    refine e_v 1 ?_
    first | refine w_mod (by decide) ?_ | refine w_mod (by walk_at "sc") ?_ | refine w_modN (by walk_at "sc") ?_
    refine ea_nil ?_
    refine ⟨_, _, rfl, ?_⟩
    refine ⟨x % m, Nat.mod_lt _ (by omega), m, x % m, rfl, rfl, ?_⟩
    rw [← hg, Nat.gcd_comm x m, Nat.gcd_rec m x, Nat.gcd_comm]
  · have h' : ¬ (0 : Int) < (m : Int) := of_decide_eq_false h
    have hm : m = 0 := by omega
    subst hm
    refine s_cons (s_ret ?_)
    refine e_v 0 ?_
    rw [Nat.gcd_zero_right] at hg
    rw [← hg] at hq
    exact hq

abbrev s_primitive : Stmt := topS 17
abbrev N_primitive : List Str := ["coefs", "divisor", "x"]
theorem sc_primitive : FnScope N_primitive ["coefs"] (defScope s_primitive) := ⟨rfl, rfl, rfl, by decide +kernel, rfl, by decide +kernel, by decide +kernel⟩
theorem ok_primitive {f : Addr} {fd : FuncData} {k : Nat} {dvs : List V} {kws : List (Str × V)} (F : FD K "primitive" "primitive" s_primitive dvs kws f fd) (m_len : mg "len" = none) (m_tuple : mg "tuple" = none) (c_common_divisor : Fn P w K mg base k "common_divisor" ["first", "second"] [] (spD K 2 ph_gcd)) : FnOk P w K mg base (L2.CX P w) (k + 1) f fd ["coefs"] (spD K 1 ph_primitive) := by
  refine fn_ok F sc_primitive rfl fun X cdv A outer s H E ds q xd hX hr hph hl Fr wf xok => ?_
  subst hX
  obtain ⟨l, rfl, ⟨ht0, hlen, hb⟩, hq⟩ := hph
  show S _ _ _ [_, _, _] _
  show S _ _ _ [.sh (.tup (l.map .int)), .no, .no] _
  refine s_cons (s_if ?_)
  refine t_cmp ?_
  refine e_callB (id := "len") (by rfl) m_len b_len ?_
  refine ea_cons ?_
  refine e_v 0 ?_
  refine ea_nil ?_
  first | refine wc_len_lst ?_ | refine wc_len_tup ?_ | refine wc_len_str (by walk_at "sc") ?_ | refine wc_lenc (fun hn63 => ?_)
  refine e_int ?_
  first | refine w_eqI ?_ | refine w_eqT ?_ | refine w_eqB ?_ | refine w_eqD hr.units (by walk_at "ok") (by walk_at "ok") ?_
  refine ⟨_, rfl, ?_⟩
  rw [List.length_map]
  by_cases hn : l = []
  · refine ite_t (by rw [hn]; rfl) ?_
    refine s_one (s_ret ?_)
    refine e_tup ?_
    refine ea_nil ?_
    refine ⟨Nat.le_of_ble_eq_true rfl, ?_⟩
    rw [hn] at hq
    exact hq
  · have hpos := List.length_pos_iff.mpr hn
    refine ite_f (decide_eq_false (by omega)) ?_
    refine s_nil ?_
    refine s_cons (s_a 1 sc_primitive.nd ?_)
    refine e_int ?_
    show S _ _ _ [_, _, _] _
    refine s_cut (fun G => ∃ g2 : Sl, G = [.sh (.tup (l.map .int)), .sh (.int (gcdA l)), g2]) (s_for (passes_of rfl) rfl (i_tup ?_)) ?_
    · refine e_v 0 ?_
      refine ⟨_, rfl, ?_⟩
      refine ⟨fun i G => ∃ g2 : Sl, G = [.sh (.tup (l.map .int)), .sh (.int (gcdA (l.take i))), g2], ⟨_, rfl⟩, ?_, ?_⟩
      · rintro i d G hd ⟨g2, rfl⟩
        obtain ⟨hi, rfl⟩ := get_intL hd
        have eT : gcdA (l.take (i + 1)) = (Int.gcd (gcdA (l.take i)) (cf l i) : Int) := by rw [take_succ' (cf_lt hi), gcdA_snoc]
        refine ⟨_, (a_n 2 sc_primitive.nd), ?_⟩
        show S _ _ _ [_, _, _] _
        refine s_one (s_a 1 sc_primitive.nd ?_)
        refine e_call (dds := []) c_common_divisor hr (by rfl) (fun _ => .nil) ?_
        refine ea_cons ?_
        refine e_v 1 ?_
        refine ea_cons ?_
        refine e_v 2 ?_
        refine ea_nil ?_
        refine ⟨rfl, ?_⟩
        refine u_gcd (by walk_at "sc") ?_
        exact ⟨_, by rw [eT]; rfl⟩
      · rintro G ⟨g2, rfl⟩
        rw [List.length_map, List.take_length]
        exact ⟨_, rfl⟩
    rintro G ⟨g2, rfl⟩
    refine s_cut (fun G => ∃ g2 : Sl, G = [.sh (.tup (l.map .int)), .sh (.int (sgD l)), g2]) (s_if ?_) ?_
    · refine t_cmp ?_
      refine e_ix ?_
      refine e_v 0 ?_
      refine e_un ?_
      refine e_int ?_
      refine w_neg ?_
      refine wi_tup (at_top hn) ?_
      refine e_int ?_
      refine w_lt ?_
      refine ⟨_, rfl, ?_⟩
      refine ite_b (fun h => ?_) (fun h => ?_)
      · refine s_one (s_a 1 sc_primitive.nd ?_)
        refine e_un ?_
        refine e_v 1 ?_
        refine w_neg ?_
        exact ⟨_, by unfold sgD; rw [if_pos (of_decide_eq_true h)]; rfl⟩
      · exact s_nil ⟨_, by unfold sgD; rw [if_neg (of_decide_eq_false h)]⟩
    rintro G ⟨g2, rfl⟩
    refine s_one (s_ret ?_)
    refine e_callTy (id := "tuple") (by rfl) m_tuple b_tuple ?_
    refine ea_cons ?_
    refine e_lc (own := [("x", 2)]) rfl sc_primitive.nd (blkOk_by (N := N_primitive) (sc := defScope s_primitive) (by decide +kernel)) ?_
    refine i_tup ?_
    refine e_v 0 ?_
    refine ⟨_, rfl, ?_⟩
    refine' ⟨?lcl6, _, lc_of (l) (Dt.int) (fun x => Dt.int (x.fdiv (sgD l))) (fun x => [(2, Dt.int x)]) ?lct6 ?lcm6 ?lce6, ?lcc6⟩
    case lcl6 =>
      rw [List.length_map]; omega
    case lct6 =>
      rintro t ht Y ⟨s', H', C, cl, fp, rfl⟩
      exact (a_n 2 sc_primitive.nd)
    case lcm6 =>
      intro t p hp
      simp at hp
      simp [hp]
    case lce6 =>
      rintro t ht Y ⟨s', H', C, cl, fp, rfl⟩
      have hdq := div_exact ht0 hn hb ht
      refine e_bin ?_
      refine e_v 2 ?_
      refine e_v 1 ?_
      refine w_divQ hdq ?_
      rfl
    rintro acc rfl
    rw [take_map_all]
    rw [show (l.map fun x => Dt.int (x.fdiv (sgD l))) = (primL l).map Dt.int by unfold primL; rw [List.map_map]; rfl]
    refine ea_nil ?_
    first | refine wc_tuple_lst ?_ | refine wc_tuple_tup ?_
    exact hq

abbrev s_quotient : Stmt := topS 18
abbrev N_quotient : List Str := ["first", "second", "rest", "row", "k", "top", "j", "y", "x"]
theorem sc_quotient : FnScope N_quotient ["first", "second"] (defScope s_quotient) := ⟨rfl, rfl, rfl, by decide +kernel, rfl, by decide +kernel, by decide +kernel⟩
theorem ok_quotient {f : Addr} {fd : FuncData} {k : Nat} {dvs : List V} {kws : List (Str × V)} (F : FD K "quotient" "quotient" s_quotient dvs kws f fd) (m_any : mg "any" = none) (m_enumerate : mg "enumerate" = none) (m_len : mg "len" = none) (m_list : mg "list" = none) (m_range : mg "range" = none) (c_trim : Fn P w K mg base k "trim" ["coefs"] [] (spD K 1 ph_trim)) : FnOk P w K mg base (L2.CX P w) (k + 1) f fd ["first", "second"] (spD K 2 ph_quotient) := by
  refine fn_ok F sc_quotient rfl fun X cdv A outer s H E ds q xd hX hr hph hl Fr wf xok => ?_
  subst hX
  obtain ⟨a, b, A', B', rfl, ⟨ha, hb, tb, sa, sb, hB, hAB⟩, hq, hn⟩ := hph
  show S _ _ _ [_, _, _, _, _, _, _, _, _] _
  show S _ _ _ [.sh (.tup (a.map .int)), .sh (.tup (b.map .int)), .no, .no, .no, .no, .no, .no, .no] _
  refine s_cons (s_if ?_)
  refine t_cmp ?_
  refine e_callB (id := "len") (by rfl) m_len b_len ?_
  refine ea_cons ?_
  refine e_v 1 ?_
  refine ea_nil ?_
  first | refine wc_len_lst ?_ | refine wc_len_tup ?_ | refine wc_len_str (by walk_at "sc") ?_ | refine wc_lenc (fun hn63 => ?_)
  refine e_int ?_
  first | refine w_eqI ?_ | refine w_eqT ?_ | refine w_eqB ?_ | refine w_eqD hr.units (by walk_at "ok") (by walk_at "ok") ?_
  refine ⟨_, rfl, ?_⟩
  rw [List.length_map]
  by_cases h0 : b = []
  · subst h0
    refine ite_t rfl ?_
    refine s_one (s_ret ?_)
    refine e_none ?_
    exact hn (.inl rfl)
  · have hbl := List.length_pos_iff.mpr h0
    refine ite_f (decide_eq_false (by omega)) ?_
    refine s_nil ?_
    have hlead := tr_last tb h0
    have slead := cf_sz sb (b.length - 1)
    have hdiv : ∀ x : Int, CDivA x (cf b (b.length - 1)) := fun x => ⟨hlead, Nat.lt_of_lt_of_le (PySem.Flt.log2_lt_of (k := B' + 1) (by omega) (sz_up slead (by omega))) (by omega)⟩
    refine s_cons (s_aN 2 sc_quotient.nd (en_list (by rfl) m_list ?_))
    refine ea_cons ?_
    refine e_v 0 ?_
    refine ea_nil ?_
    first | refine ⟨_, _, rfl, .inr rfl, ?_⟩ | refine ⟨_, _, rfl, .inl rfl, ?_⟩
    show S _ _ _ [_, _, _, _, _, _, _, _, _] _
    obtain ⟨n, hn0⟩ : ∃ n, n = a.length + 1 - b.length := ⟨_, rfl⟩
    have rr : rangeD 0 (((a.map Dt.int).length : Int) - ((b.map Dt.int).length : Int) + 1).toNat = (List.range n).map fun i => Dt.int (i : Nat) := by
      rw [List.length_map, List.length_map, show ((a.length : Int) - (b.length : Int) + 1).toNat = ((n : Nat) : Int).toNat by omega, rangeD_nat]
    have rd : downD (((a.map Dt.int).length : Int) - ((b.map Dt.int).length : Int)) (((a.map Dt.int).length : Int) - ((b.map Dt.int).length : Int) - -1).toNat = (List.range n).map fun s => Dt.int ((n - 1 - s : Nat) : Int) := down_nat (by rw [List.length_map, List.length_map]; omega)
    have rb : -(2 ^ 62) ≤ ((a.map Dt.int).length : Int) - ((b.map Dt.int).length : Int) + 1 := by rw [List.length_map, List.length_map]; omega
    have rb2 : ((a.map Dt.int).length : Int) - ((b.map Dt.int).length : Int) + 1 < 2 ^ 62 := by rw [List.length_map, List.length_map]; omega
    have rb4 : -(2 ^ 62) ≤ ((a.map Dt.int).length : Int) - ((b.map Dt.int).length : Int) ∧ ((a.map Dt.int).length : Int) - ((b.map Dt.int).length : Int) < 2 ^ 62 ∧ -(2 ^ 62) ≤ (-1 : Int) ∧ (-1 : Int) < 2 ^ 62 := by rw [List.length_map, List.length_map]; omega
    refine s_cons (s_lcN 3 (own := [("k", 4)]) rfl sc_quotient.nd rfl rfl (sw_true rfl rfl rfl (by decide +kernel)) (blkOk_by (N := N_quotient) (sc := defScope s_quotient) (by decide +kernel)) ?_)
    refine i_range1 (by rfl) m_range ?_
    refine ea_cons ?_
    refine e_bin ?_
    refine e_bin ?_
    refine e_callB (id := "len") (by rfl) m_len b_len ?_
    refine ea_cons ?_
    refine e_v 0 ?_
    refine ea_nil ?_
    first | refine wc_len_lst ?_ | refine wc_len_tup ?_ | refine wc_len_str (by walk_at "sc") ?_ | refine wc_lenc (fun hn63 => ?_)
    refine e_callB (id := "len") (by rfl) m_len b_len ?_
    refine ea_cons ?_
    refine e_v 1 ?_
    refine ea_nil ?_
    first | refine wc_len_lst ?_ | refine wc_len_tup ?_ | refine wc_len_str (by walk_at "sc") ?_ | refine wc_lenc (fun hn63 => ?_)
    refine w_sub ?_
    refine e_int ?_
    first | refine w_add ?_ | refine w_catT (by walk_at "sc") ?_ | refine w_addS (by walk_at "sc") ?_ | refine w_catL (by walk_at "sc") ?_
    refine ea_nil ?_
    refine ⟨_, rfl, by walk_at "sc", by walk_at "sc", ?_⟩
    rw [rr]
    refine' ⟨?lcl7, _, lc_of (List.range n) (fun i => Dt.int (i : Nat)) (fun i => .int 0) (fun i => [(4, Dt.int (i : Nat))]) ?lct7 ?lcm7 ?lce7, ?lcc7⟩
    case lcl7 =>
      rw [List.length_map, List.length_range]; omega
    case lct7 =>
      rintro t ht Y ⟨s', H', C, cl, fp, rfl⟩
      exact (a_n 4 sc_quotient.nd)
    case lcm7 =>
      intro t p hp
      simp at hp
      simp [hp]
    case lce7 =>
      rintro t ht Y ⟨s', H', C, cl, fp, rfl⟩
      refine e_int ?_
      rfl
    rintro acc rfl
    rw [take_map_all]
    rw [map_int (fun _ => 0)]
    have hl0 : ((List.range n).map fun _ => (0 : Int)).length = n := by simp
    have hc0 : ∀ i, cf ((List.range n).map fun _ => (0 : Int)) i = 0 := zeros_cf n
    generalize (List.range n).map (fun _ => (0 : Int)) = w0 at *
    show S _ _ _ [_, _, _, _, _, _, _, _, _] _
    refine s_cons (s_for (passes_of rfl) rfl ?_)
    refine i_range3 (by rfl) m_range ?_
    refine ea_cons ?_
    refine e_bin ?_
    refine e_callB (id := "len") (by rfl) m_len b_len ?_
    refine ea_cons ?_
    refine e_v 0 ?_
    refine ea_nil ?_
    first | refine wc_len_lst ?_ | refine wc_len_tup ?_ | refine wc_len_str (by walk_at "sc") ?_ | refine wc_lenc (fun hn63 => ?_)
    refine e_callB (id := "len") (by rfl) m_len b_len ?_
    refine ea_cons ?_
    refine e_v 1 ?_
    refine ea_nil ?_
    first | refine wc_len_lst ?_ | refine wc_len_tup ?_ | refine wc_len_str (by walk_at "sc") ?_ | refine wc_lenc (fun hn63 => ?_)
    refine w_sub ?_
    refine ea_cons ?_
    refine e_un ?_
    refine e_int ?_
    refine w_neg ?_
    refine ea_cons ?_
    refine e_un ?_
    refine e_int ?_
    refine w_neg ?_
    refine ea_nil ?_
    refine ⟨_, _, rfl, by walk_at "sc", ?_⟩
    rw [rd]
    refine ⟨fun s G => ∃ r v g4 g5 g6 g7 g8, G = [.sh (.tup (a.map .int)), .sh (.tup (b.map .int)), .ow (.lst (r.map .int)), .ow (.lst (v.map .int)), g4, g5, g6, g7, g8] ∧ r.length = a.length ∧ v.length = n ∧ SzL (A' + s * (B' + 1)) r ∧ (∀ i, i < n - s → cf v i = 0) ∧ (∀ i, cf a i = cf r i + cf (mulL v b) i) ∧ (∀ z, Tr z → IsQ a b z → (∀ i, cf r i = cf (mulL (z.take (n - s)) b) i) ∧ ∀ i, n - s ≤ i → cf v i = cf z i), ⟨a, w0, _, _, _, _, _, rfl, rfl, hl0, sa.up (by omega), fun i _ => hc0 i, fun i => by rw [zmul_zero b hc0, Int.add_zero], fun z tz hz => ?_⟩, ?_, ?_⟩
    · have hzl := q_len tz tb h0 hz
      refine ⟨fun i => by rw [Nat.sub_zero, List.take_of_length_le (by omega)]; exact hz i, fun i hi => ?_⟩
      rw [hc0, cf_ge (by omega)]
    · rintro s d G hd ⟨r, v, g4, g5, g6, g7, g8, rfl, hr1, hv1, hsz, hz0, h1, h2⟩
      obtain ⟨s', hs0, rfl⟩ := get_map hd
      obtain ⟨hsn, rfl⟩ := range_get hs0
      obtain ⟨k', hk'⟩ : ∃ k', k' = n - 1 - s' := ⟨_, rfl⟩
      have hks : n - s' = k' + 1 := by omega
      have hks2 : n - (s' + 1) = k' := by omega
      rw [hks] at hz0 h2
      rw [← hk']
      have hstep : (s' + 1) * (B' + 1) = s' * (B' + 1) + (B' + 1) := by rw [Nat.add_mul, Nat.one_mul]
      have hcap : A' + (s' + 1) * (B' + 1) + B' ≤ 800000 := by
        have : (s' + 1) * (B' + 1) + (B' + 1) ≤ (a.length + 2) * (B' + 1) := by
          rw [← Nat.succ_mul]
          exact Nat.mul_le_mul_right _ (by omega)
        omega
      have e1 : atI (r.map Dt.int) ((k' : Int) + ((b.map Dt.int).length : Int) - 1) = some (.int (cf r (k' + b.length - 1))) := at_cf (by rw [List.length_map]; omega) (by omega)
      have stop := cf_sz hsz (k' + b.length - 1)
      have htop : ∀ z, Tr z → IsQ a b z → cf r (k' + b.length - 1) = cf z k' * cf b (b.length - 1) := fun z tz hz => q_top h0 (h2 z tz hz).1
      generalize cf r (k' + b.length - 1) = top at *
      refine ⟨_, (a_n 4 sc_quotient.nd), ?_⟩
      show S _ _ _ [_, _, _, _, _, _, _, _, _] _
      refine s_cons (s_a 5 sc_quotient.nd ?_)
      refine e_ixO 2 rfl rfl (by first | exact .inl rfl | exact .inr (.inl rfl) | exact .inr (.inr rfl)) ?_
      refine e_bin ?_
      refine e_bin ?_
      refine e_v 4 ?_
      refine e_callB (id := "len") (by rfl) m_len b_len ?_
      refine ea_cons ?_
      refine e_v 1 ?_
      refine ea_nil ?_
      first | refine wc_len_lst ?_ | refine wc_len_tup ?_ | refine wc_len_str (by walk_at "sc") ?_ | refine wc_lenc (fun hn63 => ?_)
      first | refine w_add ?_ | refine w_catT (by walk_at "sc") ?_ | refine w_addS (by walk_at "sc") ?_ | refine w_catL (by walk_at "sc") ?_
      refine e_int ?_
      refine w_sub ?_
      refine ⟨_, _, rfl, by walk_at "sc", ?_⟩
      show S _ _ _ [_, _, _, _, _, _, _, _, _] _
      refine s_cons (s_if ?_)
      refine t_cmp ?_
      refine e_bin ?_
      refine e_v 5 ?_
      refine e_ix ?_
      refine e_v 1 ?_
      refine e_un ?_
      refine e_int ?_
      refine w_neg ?_
      refine wi_tup (at_last hbl) ?_
      refine w_modN hlead ?_
      refine e_int ?_
      first | refine w_neI ?_ | refine w_neT ?_ | refine w_neB ?_ | refine w_neD hr.units (by walk_at "ok") (by walk_at "ok") ?_
      refine ⟨_, rfl, ?_⟩
      by_cases hm : top.fmod (cf b (b.length - 1)) = 0
      · refine ite_f (by rw [decide_eq_true hm]; rfl) ?_
        refine s_nil ?_
        have hkv : k' < v.length := by omega
        have st := fdiv_sz stop hm hlead
        have ht : ∀ z, Tr z → IsQ a b z → cf z k' = top.fdiv (cf b (b.length - 1)) := fun z tz hz => (fdiv_ex (htop z tz hz) hlead).2.symm
        refine s_cons (s_setL 3 rfl rfl (by first | exact .inl rfl | exact .inr (.inl rfl) | exact .inr (.inr rfl)) ?_)
        refine e_bin ?_
        refine e_v 5 ?_
        refine e_ix ?_
        refine e_v 1 ?_
        refine e_un ?_
        refine e_int ?_
        refine w_neg ?_
        refine wi_tup (at_last hbl) ?_
        refine w_divA (hdiv _) ?_
        refine e_v 4 ?_
        refine ⟨_, _, rfl, by walk_at "sc", ?_⟩
        show S _ _ _ [_, _, _, _, _, _, _, _, _] _
        rw [set_ints]
        generalize top.fdiv (cf b (b.length - 1)) = t at *
        have e3 : atI ((v.set k' t).map Dt.int) (k' : Int) = some (.int t) := by
          have := at_cf (s := v.set k' t) (z := (k' : Int)) rfl (by rw [List.length_set]; exact hkv)
          rw [cf_set _ _ _ _ hkv, if_pos rfl] at this
          exact this
        refine s_one (s_for (passes_of rfl) rfl ?_)
        refine i_enum (by rfl) m_enumerate ?_
        refine ea_cons ?_
        refine e_v 1 ?_
        refine ea_nil ?_
        refine ⟨_, _, rfl, rfl, ?_⟩
        refine ⟨fun j G => ∃ u g6 g7, G = [.sh (.tup (a.map .int)), .sh (.tup (b.map .int)), .ow (.lst (u.map .int)), .ow (.lst ((v.set k' t).map .int)), .sh (.int (k' : Nat)), .sh (.int top), g6, g7, g8] ∧ u.length = a.length ∧ ∀ i, cf u i = cf r i - if k' ≤ i ∧ i - k' < j then t * cf b (i - k') else 0, ⟨r, _, _, rfl, hr1, fun i => by rw [if_neg (by omega), Int.sub_zero]⟩, ?_, ?_⟩
        · rintro j d G hd ⟨u, g6, g7, rfl, hu1, hu2⟩
          obtain ⟨y, hy, rfl⟩ := enumD_get hd
          obtain ⟨hj, rfl⟩ := get_intL hy
          rw [Int.zero_add]
          have hir : k' + j < u.length := by omega
          have hmm : CMulW t (cf b j) := mulOk st (cf_sz sb j) (by omega)
          have e1 : atI (u.map Dt.int) ((k' : Int) + (j : Int)) = some (.int (cf u (k' + j))) := at_cf (by omega) hir
          have e2 : ixN (u.map Dt.int).length ((k' : Int) + (j : Int)) = some (k' + j) := by rw [List.length_map, show (k' : Int) + (j : Int) = ((k' + j : Nat) : Int) by omega]; exact ix_nat hir
          refine ⟨_, (a_tup rfl (as_cons (a_n 6 sc_quotient.nd) (as_cons (a_n 7 sc_quotient.nd) as_nil))), ?_⟩
          show S _ _ _ [_, _, _, _, _, _, _, _, _] _
          refine s_one (s_setL 2 rfl rfl (by first | exact .inl rfl | exact .inr (.inl rfl) | exact .inr (.inr rfl)) ?_)
          refine e_bin ?_
          refine e_ixO 2 rfl rfl (by first | exact .inl rfl | exact .inr (.inl rfl) | exact .inr (.inr rfl)) ?_
          refine e_bin ?_
          refine e_v 4 ?_
          refine e_v 6 ?_
          first | refine w_add ?_ | refine w_catT (by walk_at "sc") ?_ | refine w_addS (by walk_at "sc") ?_ | refine w_catL (by walk_at "sc") ?_
          refine ⟨_, _, rfl, by walk_at "sc", ?_⟩
          refine e_bin ?_
          refine e_ixO 3 rfl rfl (by first | exact .inl rfl | exact .inr (.inl rfl) | exact .inr (.inr rfl)) ?_
          refine e_v 4 ?_
          refine ⟨_, _, rfl, by walk_at "sc", ?_⟩
          refine e_v 7 ?_
          first | refine w_mulS (.inr ⟨by decide, by decide⟩) ?_ | refine w_mulS (.inl ⟨by decide, by decide⟩) ?_ | refine w_mul (by walk_at "sc") ?_ | refine w_repT (by walk_at "sc") ?_ | refine w_repL (by walk_at "sc") ?_
          refine w_sub ?_
          refine e_bin ?_
          refine e_v 4 ?_
          refine e_v 6 ?_
          first | refine w_add ?_ | refine w_catT (by walk_at "sc") ?_ | refine w_addS (by walk_at "sc") ?_ | refine w_catL (by walk_at "sc") ?_
          refine ⟨_, _, rfl, by walk_at "sc", ?_⟩
          rw [set_ints]
          refine ⟨_, _, _, rfl, by rw [List.length_set]; exact hu1, fun i => ?_⟩
          have hz1 : cf u (k' + j) = cf r (k' + j) := by rw [hu2, if_neg (by omega), Int.sub_zero]
          rw [cf_set _ _ _ _ hir, hz1]
          by_cases hi : i = k' + j
          · subst hi
            rw [if_pos rfl, if_pos (by omega), show k' + j - k' = j by omega]
          · rw [if_neg hi, hu2]
            by_cases h3 : k' ≤ i ∧ i - k' < j
            · rw [if_pos h3, if_pos (by omega)]
            · rw [if_neg h3, if_neg (by omega)]
        · rintro G ⟨u, g6, g7, rfl, hu1, hu2⟩
          rw [enumD_len, List.length_map] at hu2
          have hu3 : ∀ i, cf u i = cf r i - if k' ≤ i then t * cf b (i - k') else 0 := fun i => by
            rw [hu2]
            by_cases h3 : k' ≤ i
            · rw [if_pos h3]
              by_cases h4 : i - k' < b.length
              · rw [if_pos ⟨h3, h4⟩]
              · rw [if_neg (fun z => h4 z.2), cf_ge (l := b) (by omega), Int.mul_zero]
            · rw [if_neg h3, if_neg (fun z => h3 z.1)]
          refine ⟨u, v.set k' t, _, _, _, _, _, rfl, hu1, by rw [List.length_set]; exact hv1, szl_cf fun i => ?_, fun i hi => ?_, fun i => ?_, fun z tz hz => ⟨fun i => ?_, fun i hi => ?_⟩⟩
          · rw [hu3]
            refine sz_up (sz_sub2 (cf_sz hsz i) (b := A' + s' * (B' + 1) + B') ?_) (by omega)
            split
            · exact sz_mul st (cf_sz sb _)
            · exact Nat.pow_pos (by decide)
          · rw [hks2] at hi
            rw [cf_set _ _ _ _ hkv, if_neg (by omega)]
            exact hz0 i (by omega)
          · rw [h1 i, hu3, mul_set b v k' t i hkv, hz0 k' (by omega), Int.sub_zero]
            omega
          · rw [hks2, hu3, (h2 z tz hz).1 i, mul_take, ht z tz hz]
            omega
          · rw [hks2] at hi
            rw [cf_set _ _ _ _ hkv]
            by_cases hi2 : i = k'
            · rw [if_pos hi2, hi2, ht z tz hz]
            · rw [if_neg hi2]
              exact (h2 z tz hz).2 i (by omega)
      · refine ite_t (by rw [decide_eq_false hm]; rfl) ?_
        refine s_one (s_ret ?_)
        refine e_none ?_
        exact hn (.inr fun z tz hz => hm (fdiv_ex (htop z tz hz) hlead).1)
    · rintro G ⟨r, v, g4, g5, g6, g7, g8, rfl, hr1, hv1, hsz, hz0, h1, h2⟩
      rw [List.length_map, List.length_range] at h2
      rw [Nat.sub_self] at h2
      refine s_frz ?_
      show S _ _ _ [_, _, _, _, _, _, _, _, _] _
      show S _ _ _ [.sh (.tup (a.map .int)), .sh (.tup (b.map .int)), .sh (.lst (r.map .int)), .sh (.lst (v.map .int)), _, _, _, _, _] _
      refine s_cons (s_if ?_)
      refine t_val ?_
      refine e_callB (id := "any") (by rfl) m_any b_any ?_
      refine ea_cons ?_
      refine e_lc (own := [("x", 8)]) rfl sc_quotient.nd (blkOk_by (N := N_quotient) (sc := defScope s_quotient) (by decide +kernel)) ?_
      refine i_lst ?_
      refine e_v 2 ?_
      refine ⟨_, rfl, ?_⟩
      refine' ⟨?lcl8, _, lc_of (r) (Dt.int) (fun x => Dt.bl (!decide (x = 0))) (fun x => [(8, Dt.int x)]) ?lct8 ?lcm8 ?lce8, ?lcc8⟩
      case lcl8 =>
        rw [List.length_map]; omega
      case lct8 =>
        rintro t ht Y ⟨s', H', C, cl, fp, rfl⟩
        exact (a_n 8 sc_quotient.nd)
      case lcm8 =>
        intro t p hp
        simp at hp
        simp [hp]
      case lce8 =>
        rintro t ht Y ⟨s', H', C, cl, fp, rfl⟩
        refine e_cmp ?_
        refine e_v 8 ?_
        refine e_int ?_
        first | refine w_neI ?_ | refine w_neT ?_ | refine w_neB ?_ | refine w_neD hr.units (by walk_at "ok") (by walk_at "ok") ?_
        rfl
      rintro acc rfl
      rw [take_map_all]
      rw [show (r.map fun x => Dt.bl (!decide (x = 0))) = (r.map fun x => !decide (x = 0)).map Dt.bl by rw [List.map_map]; rfl]
      refine ea_nil ?_
      refine wc_any rfl ?_
      refine ⟨_, rfl, ?_⟩
      have hvl : v.length ≤ 100000 := by omega
      cases han : (r.map fun x => !decide (x = 0)).any id
      · refine ite_f rfl ?_
        refine s_nil ?_
        have hr0 := (any_ne r).mp han
        refine s_cons (s_ret ?_)
        refine e_call (dds := []) c_trim hr (by rfl) (fun _ => .nil) ?_
        refine ea_cons ?_
        refine e_v 3 ?_
        refine ea_nil ?_
        refine ⟨rfl, ?_⟩
        refine u_trim hvl ?_
        refine hq (trimL v) h0 (tr_trim v) fun i => ?_
        rw [h1 i, hr0 i, Int.zero_add, mul_extl (cf_trim v)]
      · refine ite_t rfl ?_
        refine s_one (s_ret ?_)
        refine e_none ?_
        refine hn (.inr fun z tz hz => ?_)
        have : (r.map fun x => !decide (x = 0)).any id = false := (any_ne r).mpr fun i => by
          rw [(h2 z tz hz).1 i]
          rfl
        rw [this] at han
        cases han

abbrev s_remainder : Stmt := topS 19
abbrev N_remainder : List Str := ["first", "second", "rest", "lead", "lower", "x", "y"]
theorem sc_remainder : FnScope N_remainder ["first", "second"] (defScope s_remainder) := ⟨rfl, rfl, rfl, by decide +kernel, rfl, by decide +kernel, by decide +kernel⟩
theorem ok_remainder {f : Addr} {fd : FuncData} {k : Nat} {dvs : List V} {kws : List (Str × V)} (F : FD K "remainder" "remainder" s_remainder dvs kws f fd) (m_len : mg "len" = none) (m_tuple : mg "tuple" = none) (m_zip : mg "zip" = none) (c_trim : Fn P w K mg base k "trim" ["coefs"] [] (spD K 1 ph_trim)) : FnOk P w K mg base (L2.CX P w) (k + 1) f fd ["first", "second"] (spD K 2 ph_remainder) := by
  refine fn_ok F sc_remainder rfl fun X cdv A outer s H E ds q xd hX hr hph hl Fr wf xok => ?_
  subst hX
  obtain ⟨a, b, s', t', rfl, ⟨ha, hb, hbn, la, lb, sa, sb, hz⟩, hq⟩ := hph
  have hbp := List.length_pos_iff.mpr hbn
  show S _ _ _ [_, _, _, _, _, _, _] _
  show S _ _ _ [.sh (.tup (a.map .int)), .sh (.tup (b.map .int)), .no, .no, .no, .no, .no] _
  refine s_cons (s_a 2 sc_remainder.nd ?_)
  refine e_call (dds := []) c_trim hr (by rfl) (fun _ => .nil) ?_
  refine ea_cons ?_
  refine e_v 0 ?_
  refine ea_nil ?_
  refine ⟨rfl, ?_⟩
  refine u_trimT (by omega) ?_
  show S _ _ _ [_, _, _, _, _, _, _] _
  rw [show trimL a = a from ha]
  refine s_cons (s_while (fun m G => ∃ (r : List Int) (g3 g4 g5 g6 : Sl), m = r.length ∧ G = [.sh (.tup (a.map .int)), .sh (.tup (b.map .int)), .sh (iT r), g3, g4, g5, g6] ∧ Tr r ∧ r.length ≤ a.length ∧ SzL (s' + (a.length - r.length) * (t' + 1)) r ∧ (∃ (c : Int) (Q : PX.Pl), c ≠ 0 ∧ PX.Pl.C c * PX.ofL a = Q * PX.ofL b + PX.ofL r ∧ PX.sz Q + b.length ≤ max a.length b.length + 1) ∧ (a.length < b.length → r = a)) a.length ⟨a, _, _, _, _, rfl, rfl, ha, Nat.le_refl _, by rw [Nat.sub_self, Nat.zero_mul]; exact sa, ⟨1, 0, by decide, by rw [PX.C_one]; grind, by rw [PX.sz_zero.mpr rfl]; omega⟩, fun _ => rfl⟩ (passes_of rfl) fun m G hI => ?_)
  obtain ⟨r, g3, g4, g5, g6, rfl, rfl, htr, hrl, sr, ⟨c, Q, hc, e, hQ⟩, heq⟩ := hI
  refine t_cmp ?_
  refine e_callB (id := "len") (by rfl) m_len b_len ?_
  refine ea_cons ?_
  refine e_v 2 ?_
  refine ea_nil ?_
  first | refine wc_len_lst ?_ | refine wc_len_tup ?_ | refine wc_len_str (by walk_at "sc") ?_ | refine wc_lenc (fun hn63 => ?_)
  refine e_callB (id := "len") (by rfl) m_len b_len ?_
  refine ea_cons ?_
  refine e_v 1 ?_
  refine ea_nil ?_
  first | refine wc_len_lst ?_ | refine wc_len_tup ?_ | refine wc_len_str (by walk_at "sc") ?_ | refine wc_lenc (fun hn63 => ?_)
  refine w_ge ?_
  refine ⟨_, rfl, ?_⟩
  rw [List.length_map, List.length_map]
  refine ite_b (fun h => ?_) (fun h => ?_)
  · have h' : b.length ≤ r.length := by have := of_decide_eq_true h; omega
    have hrn : r ≠ [] := fun z => by rw [z, List.length_nil] at h'; omega
    have hrp := List.length_pos_iff.mpr hrn
    have hmul : (a.length - r.length + 1) * (t' + 1) ≤ (a.length + 1) * (t' + 1) := Nat.mul_le_mul_right _ (by omega)
    have hmul2 : (a.length - r.length + 1) * (t' + 1) = (a.length - r.length) * (t' + 1) + (t' + 1) := Nat.succ_mul _ _
    obtain ⟨st1, st2⟩ := st_spec htr hb hbn h'
    have ll := low_len h'
    refine s_cons (s_a 3 sc_remainder.nd ?_)
    refine e_ix ?_
    refine e_v 2 ?_
    refine e_un ?_
    refine e_int ?_
    refine w_neg ?_
    refine wi_tup (at_top hrn) ?_
    show S _ _ _ [_, _, _, _, _, _, _] _
    have rp : (((r.map Dt.int).length : Nat) : Int) - (((b.map Dt.int).length : Nat) : Int) = ((r.length - b.length : Nat) : Int) := by rw [List.length_map, List.length_map]; omega
    have h1 : ([Dt.int 0] : List Dt) ≠ [] ∧ ([Dt.int 0] : List Dt).length ≤ 1000 ∧ -(2 ^ 62) ≤ (((r.length - b.length : Nat) : Int)) ∧ (((r.length - b.length : Nat) : Int)) ≤ 1000 := ⟨by simp, by decide, by omega, by omega⟩
    have h2 : ((List.replicate ((r.length - b.length : Nat) : Int).toNat [Dt.int 0]).flatten).length + (b.map Dt.int).length ≤ 100000 := by rw [rep_ints, List.length_map, List.length_map, List.length_replicate]; omega
    refine s_cons (s_a 4 sc_remainder.nd ?_)
    refine e_bin ?_
    refine e_bin ?_
    refine e_tup ?_
    refine ea_cons ?_
    refine e_int ?_
    refine ea_nil ?_
    refine ⟨Nat.le_of_ble_eq_true rfl, ?_⟩
    refine e_bin ?_
    refine e_callB (id := "len") (by rfl) m_len b_len ?_
    refine ea_cons ?_
    refine e_v 2 ?_
    refine ea_nil ?_
    first | refine wc_len_lst ?_ | refine wc_len_tup ?_ | refine wc_len_str (by walk_at "sc") ?_ | refine wc_lenc (fun hn63 => ?_)
    refine e_callB (id := "len") (by rfl) m_len b_len ?_
    refine ea_cons ?_
    refine e_v 1 ?_
    refine ea_nil ?_
    first | refine wc_len_lst ?_ | refine wc_len_tup ?_ | refine wc_len_str (by walk_at "sc") ?_ | refine wc_lenc (fun hn63 => ?_)
    (refine w_sub ?_; rw [rp])
    refine w_repT h1 ?_
    refine e_callTy (id := "tuple") (by rfl) m_tuple b_tuple ?_
    refine ea_cons ?_
    refine e_v 1 ?_
    refine ea_nil ?_
    refine wc_tuple_tup ?_
    refine w_catT h2 ?_
    show S _ _ _ [_, _, _, _, _, _, _] _
    rw [rep_ints, ← List.map_append, show ((r.length - b.length : Nat) : Int).toNat = r.length - b.length by omega, show List.replicate (r.length - b.length) 0 ++ b = lowL r b from rfl]
    have lz : (stL r b).length ≤ 100000 := by unfold stL; rw [List.length_map, List.length_zip]; omega
    have hm1 : ∀ x ∈ r, CMulW x (cf b (b.length - 1)) := fun x hx => mulOk (sr x hx) (cf_sz sb _) (by omega)
    have hm2 : ∀ y ∈ lowL r b, CMulW (cf r (r.length - 1)) y := fun y hy => mulOk (cf_sz sr _) (b := t') (by
      unfold lowL at hy
      rcases List.mem_append.mp hy with q | q
      · rw [(List.mem_replicate.mp q).2]; exact Nat.two_pow_pos _
      · exact sb y q) (by omega)
    refine s_one (s_a 2 sc_remainder.nd ?_)
    refine e_call (dds := []) c_trim hr (by rfl) (fun _ => .nil) ?_
    refine ea_cons ?_
    refine e_lc (own := [("x", 5), ("y", 6)]) rfl sc_remainder.nd (blkOk_by (N := N_remainder) (sc := defScope s_remainder) (by decide +kernel)) ?_
    refine i_zip (by rfl) m_zip ?_
    refine ea_cons ?_
    refine e_v 2 ?_
    refine ea_cons ?_
    refine e_v 4 ?_
    refine ea_nil ?_
    first | refine ⟨_, _, .inl rfl, ?_⟩ | refine ⟨_, _, .inr rfl, ?_⟩
    rw [zip_ints]
    refine' ⟨?lcl9, _, lc_of (r.zip (lowL r b)) (fun p => .tup [.int p.1, .int p.2]) (fun p => .int (p.1 * cf b (b.length - 1) - cf r (r.length - 1) * p.2)) (fun p => [(5, .int p.1), (6, .int p.2)]) ?lct9 ?lcm9 ?lce9, ?lcc9⟩
    case lcl9 =>
      rw [List.length_map, List.length_zip]; omega
    case lct9 =>
      rintro t ht Y ⟨s', H', C, cl, fp, rfl⟩
      exact (a_tup rfl (as_cons (a_n 5 sc_remainder.nd) (as_cons (a_n 6 sc_remainder.nd) as_nil)))
    case lcm9 =>
      intro t p hp
      simp at hp
      rcases hp with hp | hp <;> simp [hp]
    case lce9 =>
      rintro t ht Y ⟨s', H', C, cl, fp, rfl⟩
      have n1 := hm1 t.1 (List.of_mem_zip ht).1
      have n2 := hm2 t.2 (List.of_mem_zip ht).2
      refine e_bin ?_
      refine e_bin ?_
      refine e_v 5 ?_
      refine e_ix ?_
      refine e_v 1 ?_
      refine e_un ?_
      refine e_int ?_
      refine w_neg ?_
      refine wi_tup (at_top hbn) ?_
      refine w_mul n1 ?_
      refine e_bin ?_
      refine e_v 3 ?_
      refine e_v 6 ?_
      refine w_mul n2 ?_
      refine w_sub ?_
      rfl
    rintro acc rfl
    rw [take_map_all]
    rw [map_int (fun p : Int × Int => p.1 * cf b (b.length - 1) - cf r (r.length - 1) * p.2)]
    refine ea_nil ?_
    refine ⟨rfl, ?_⟩
    refine u_trim (l := stL r b) lz ?_
    have hle : (trimL (stL r b)).length + 1 ≤ r.length := st2
    refine ⟨(trimL (stL r b)).length, st2, trimL (stL r b), _, _, _, _, rfl, rfl, tr_trim _, by omega, ?_, ?_, fun z => by omega⟩
    · refine ((st_sz sr sb h').trim).up ?_
      have : (a.length - r.length + 1) * (t' + 1) ≤ (a.length - (trimL (stL r b)).length) * (t' + 1) := Nat.mul_le_mul_right _ (by omega)
      omega
    · have hlb : cf b (b.length - 1) ≠ 0 := tr_last hb hbn
      refine ⟨cf b (b.length - 1) * c, PX.Pl.C (cf b (b.length - 1)) * Q + PX.Pl.C (cf r (r.length - 1)) * PX.X ^ (r.length - b.length), Int.mul_ne_zero hlb hc, ?_, ?_⟩
      · rw [pl_trim, st1, PX.C_mul']
        generalize PX.X ^ (r.length - b.length) = xk
        grind
      · have q1 := PX.sz_add (PX.Pl.C (cf b (b.length - 1)) * Q) (PX.Pl.C (cf r (r.length - 1)) * PX.X ^ (r.length - b.length))
        rw [PX.sz_smul hlb, PX.sz_smul (tr_last htr hrn)] at q1
        have q2 := sz_Xk (r.length - b.length)
        omega
  · have h' : ¬ b.length ≤ r.length := by have := of_decide_eq_false h; omega
    refine s_cons (s_ret ?_)
    refine e_v 2 ?_
    exact hq r ⟨htr, by omega, ⟨c, Q, hc, e, hQ⟩, heq⟩

abbrev s_common_factor : Stmt := topS 20
abbrev N_common_factor : List Str := ["first", "second"]
theorem sc_common_factor : FnScope N_common_factor ["first", "second"] (defScope s_common_factor) := ⟨rfl, rfl, rfl, by decide +kernel, rfl, by decide +kernel, by decide +kernel⟩
theorem ok_common_factor {f : Addr} {fd : FuncData} {k : Nat} {dvs : List V} {kws : List (Str × V)} (F : FD K "common_factor" "common_factor" s_common_factor dvs kws f fd) (m_len : mg "len" = none) (c_primitive : Fn P w K mg base k "primitive" ["coefs"] [] (spD K 1 ph_primitive)) (c_remainder : Fn P w K mg base k "remainder" ["first", "second"] [] (spD K 2 ph_remainder)) : FnOk P w K mg base (L2.CX P w) (k + 1) f fd ["first", "second"] (spD K 2 ph_common_factor) := by
  refine fn_ok F sc_common_factor rfl fun X cdv A outer s H E ds q xd hX hr hph hl Fr wf xok => ?_
  subst hX
  obtain ⟨a, b, N, K', rfl, ⟨ha, hb, han, hN, h60, hK, ka, kb, hK2, hR⟩, hq⟩ := hph
  have ha0 := List.length_pos_iff.mpr han
  have pa : Tr a ∧ a.length ≤ 900 ∧ ∀ i, (cf (primL a) i).natAbs < 2 ^ 4400 := ⟨ha, by omega, fun i => Nat.lt_of_le_of_lt (primL_le ha ka i) hK2⟩
  have pb : Tr b ∧ b.length ≤ 900 ∧ ∀ i, (cf (primL b) i).natAbs < 2 ^ 4400 := ⟨hb, by omega, fun i => Nat.lt_of_le_of_lt (primL_le hb kb i) hK2⟩
  show S _ _ _ [_, _] _
  show S _ _ _ [.sh (.tup (a.map .int)), .sh (.tup (b.map .int))] _
  refine s_cons (s_a 0 sc_common_factor.nd ?_)
  refine e_call (dds := []) c_primitive hr (by rfl) (fun _ => .nil) ?_
  refine ea_cons ?_
  refine e_v 0 ?_
  refine ea_nil ?_
  refine ⟨rfl, ?_⟩
  refine u_primitive (by walk_at "sc") ?_
  show S _ _ _ [_, _] _
  refine s_cons (s_a 1 sc_common_factor.nd ?_)
  refine e_call (dds := []) c_primitive hr (by rfl) (fun _ => .nil) ?_
  refine ea_cons ?_
  refine e_v 1 ?_
  refine ea_nil ?_
  refine ⟨rfl, ?_⟩
  refine u_primitive (by walk_at "sc") ?_
  show S _ _ _ [_, _] _
  refine s_cons (s_while (fun m G => ∃ f' s' : List Int, m = s'.length ∧ G = [.sh (iT f'), .sh (iT s')] ∧ CfI (PX.ofL (primL a)) (PX.ofL (primL b)) N K' f' s') (primL b).length ⟨_, _, rfl, rfl, CfI.start ha hb han hN h60 ka kb hK2⟩ (passes_of rfl) fun m G hI => ?_)
  obtain ⟨f', s', rfl, rfl, hI⟩ := hI
  refine t_cmp ?_
  refine e_callB (id := "len") (by rfl) m_len b_len ?_
  refine ea_cons ?_
  refine e_v 1 ?_
  refine ea_nil ?_
  first | refine wc_len_lst ?_ | refine wc_len_tup ?_ | refine wc_len_str (by walk_at "sc") ?_ | refine wc_lenc (fun hn63 => ?_)
  refine e_int ?_
  refine w_gt ?_
  refine ⟨_, rfl, ?_⟩
  rw [List.length_map]
  refine ite_b (fun h => ?_) (fun h => ?_)
  · have hsn : s' ≠ [] := fun z => by rw [z] at h; cases h
    have hlf := hI.lenf
    have hls := hI.lens
    have hmm : (f'.length + 1) * (4400 + 1) ≤ 71 * 4401 := Nat.mul_le_mul (by omega) (by decide)
    have prm : Tr f' ∧ Tr s' ∧ s' ≠ [] ∧ f'.length ≤ 900 ∧ s'.length ≤ 900 ∧ SzL 4400 f' ∧ SzL 4400 s' ∧ 4400 + (f'.length + 1) * (4400 + 1) ≤ 400000 := ⟨hI.tf, hI.ts, hsn, by omega, by omega, hI.bf, hI.bs, by omega⟩
    refine s_one (s_par 0 1 rfl sc_common_factor.nd rfl rfl (by decide) rfl rfl ?_ (by rfl))
    refine ea_cons ?_
    refine e_v 1 ?_
    refine ea_cons ?_
    refine e_call (dds := []) c_primitive hr (by rfl) (fun _ => .nil) ?_
    refine ea_cons ?_
    refine e_call (dds := []) c_remainder hr (by rfl) (fun _ => .nil) ?_
    refine ea_cons ?_
    refine e_v 0 ?_
    refine ea_cons ?_
    refine e_v 1 ?_
    refine ea_nil ?_
    refine ⟨rfl, ?_⟩
    refine u_remainder prm fun r ok => ?_
    refine ea_nil ?_
    refine ⟨rfl, ?_⟩
    obtain ⟨nI, nl, nb⟩ := hI.next hsn hK hK2 hR ok
    refine u_primitive ⟨ok.tr, by have := ok.lt; omega, nb⟩ ?_
    refine ea_nil ?_
    refine ⟨_, _, rfl, ?_⟩
    exact ⟨_, nl, _, _, rfl, rfl, nI⟩
  · have hs0 : s' = [] := List.length_eq_zero_iff.mp (by have := of_decide_eq_false h; omega)
    subst hs0
    refine s_cons (s_ret ?_)
    refine e_v 0 ?_
    exact hq f' (hI.last ha hb han)

abbrev s_split_coefs : Stmt := topS 21
abbrev N_split_coefs : List Str := ["coefs", "root", "later", "here", "count", "deeper", "part", "turn"]
theorem sc_split_coefs : FnScope N_split_coefs ["coefs"] (defScope s_split_coefs) := ⟨rfl, rfl, rfl, by decide +kernel, rfl, by decide +kernel, by decide +kernel⟩
theorem ok_split_coefs {f : Addr} {fd : FuncData} {k : Nat} {dvs : List V} {kws : List (Str × V)} (F : FD K "split_coefs" "split_coefs" s_split_coefs dvs kws f fd) (m_len : mg "len" = none) (m_range : mg "range" = none) (c_times : Fn P w K mg base k "times" ["first", "second"] [] (spD K 2 ph_times)) (c_derived : Fn P w K mg base k "derived" ["coefs"] [] (spD K 1 ph_derived)) (c_primitive : Fn P w K mg base k "primitive" ["coefs"] [] (spD K 1 ph_primitive)) (c_quotient : Fn P w K mg base k "quotient" ["first", "second"] [] (spD K 2 ph_quotient)) (c_common_factor : Fn P w K mg base k "common_factor" ["first", "second"] [] (spD K 2 ph_common_factor)) : FnOk P w K mg base (L2.CX P w) (k + 1) f fd ["coefs"] (spD K 1 ph_split_coefs) := by
  refine fn_ok F sc_split_coefs rfl fun X cdv A outer s H E ds q xd hX hr hph hl Fr wf xok => ?_
  subst hX
  obtain ⟨l, nn, BB, rfl, ⟨htl, hln, hle, hB1, h30, c1, c2, c3⟩, hq1, hq2⟩ := hph
  show S _ _ _ [_, _, _, _, _, _, _, _] _
  show S _ _ _ [.sh (.tup (l.map .int)), .no, .no, .no, .no, .no, .no, .no] _
  refine s_cons (s_if ?_)
  refine t_cmp ?_
  refine e_callB (id := "len") (by rfl) m_len b_len ?_
  refine ea_cons ?_
  refine e_v 0 ?_
  refine ea_nil ?_
  first | refine wc_len_lst ?_ | refine wc_len_tup ?_ | refine wc_len_str (by walk_at "sc") ?_ | refine wc_lenc (fun hn63 => ?_)
  refine e_int ?_
  first | refine w_eqI ?_ | refine w_eqT ?_ | refine w_eqB ?_ | refine w_eqD hr.units (by walk_at "ok") (by walk_at "ok") ?_
  refine ⟨_, rfl, ?_⟩
  rw [List.length_map]
  by_cases hn : l = []
  · refine ite_t (by rw [hn]; rfl) ?_
    refine s_one (s_ret ?_)
    refine e_tup ?_
    refine ea_cons ?_
    refine e_tup ?_
    refine ea_nil ?_
    refine ⟨Nat.le_of_ble_eq_true rfl, ?_⟩
    refine ea_cons ?_
    refine e_tup ?_
    refine ea_cons ?_
    refine e_int ?_
    refine ea_nil ?_
    refine ⟨Nat.le_of_ble_eq_true rfl, ?_⟩
    refine ea_nil ?_
    refine ⟨Nat.le_of_ble_eq_true rfl, ?_⟩
    exact hq1 hn
  have hpos := List.length_pos_iff.mpr hn
  refine ite_f (decide_eq_false (by omega)) ?_
  refine s_nil ?_
  obtain ⟨fg1, fg2, fg3⟩ := fac_ge (n := nn) (B := BB) (by omega) hB1
  obtain ⟨pP0, pPs, pPB⟩ := prim_facts htl hn hln hle
  have t44 : (2 : Nat) ^ 4000 ≤ 2 ^ 4400 := Nat.pow_le_pow_right (by decide) (by decide)
  have h1B : 1 ≤ nn * BB := Nat.mul_le_mul (show 1 ≤ nn by omega) hB1
  have sz40 : ∀ {f' : List Int}, Le (PX.facB nn BB) f' → SzL 4000 f' := fun h => h.sz c3
  have hder := derL_len l
  have dlen : (trimL (derL l)).length ≤ l.length - 1 := Nat.le_trans (trim_len _) (by omega)
  refine s_cons (s_a 1 sc_split_coefs.nd ?_)
  refine e_tup ?_
  refine ea_cons ?_
  refine e_int ?_
  refine ea_nil ?_
  refine ⟨Nat.le_of_ble_eq_true rfl, ?_⟩
  show S _ _ _ [_, _, _, _, _, _, _, _] _
  have pd : l.length ≤ 900 ∧ SzL 4000 l ∧ 4000 ≤ 800000 := ⟨by omega, (hle.up fg2).sz c3, by decide⟩
  have pc : Tr l ∧ Tr (trimL (derL l)) ∧ l ≠ [] ∧ l.length + (trimL (derL l)).length ≤ (2 * nn - 3) + 2 ∧ 2 * nn - 3 ≤ 60 ∧ 1 ≤ nn * BB ∧ Le (nn * BB) l ∧ Le (nn * BB) (trimL (derL l)) ∧ nn * BB < 2 ^ 4400 ∧ PX.remB (2 * nn - 3) (nn * BB) < 2 ^ 4400 := ⟨htl, tr_trim _, hn, by omega, by omega, h1B, hle.up (Nat.le_mul_of_pos_left _ (by omega)), der_le hln hle, Nat.lt_of_le_of_lt fg1 (Nat.lt_of_lt_of_le c3 t44), c1⟩
  refine s_cons (s_a 2 sc_split_coefs.nd ?_)
  refine e_call (dds := []) c_common_factor hr (by rfl) (fun _ => .nil) ?_
  refine ea_cons ?_
  refine e_v 0 ?_
  refine ea_cons ?_
  refine e_call (dds := []) c_derived hr (by rfl) (fun _ => .nil) ?_
  refine ea_cons ?_
  refine e_v 0 ?_
  refine ea_nil ?_
  refine ⟨rfl, ?_⟩
  refine u_derived pd ?_
  refine ea_nil ?_
  refine ⟨rfl, ?_⟩
  refine u_common_factor pc fun g hg => ?_
  show S _ _ _ [_, _, _, _, _, _, _, _] _
  have pp : Tr l ∧ l.length ≤ 900 ∧ ∀ i, (cf (primL l) i).natAbs < 2 ^ 4400 := ⟨htl, by omega, fun i => Nat.lt_of_le_of_lt (Nat.le_trans (pPB i) fg2) (Nat.lt_of_lt_of_le c3 t44)⟩
  have dg := hg.dvP htl hn
  have lg := dv_len hg.tr pP0 dg pPs
  have kg := fac_le pP0 dg pPs pPB
  have lpl : (primL l).length = l.length := by unfold primL; rw [List.length_map]
  have mm : ∀ {x : Nat}, x ≤ 40 → (x + 2) * (4000 + 1) ≤ 42 * 4001 := fun h => Nat.mul_le_mul (by omega) (by decide)
  have pq : (primL l).length ≤ 900 ∧ g.length ≤ 900 ∧ Tr g ∧ SzL 4000 (primL l) ∧ SzL 4000 g ∧ 4000 ≤ 8000 ∧ 4000 + ((primL l).length + 2) * (4000 + 1) ≤ 800000 := ⟨by omega, by omega, hg.tr, Le.sz (K := BB) pPB (Nat.lt_of_le_of_lt fg2 c3), sz40 kg, by decide, by have := mm (x := (primL l).length) (by omega); omega⟩
  refine s_cons (s_a 3 sc_split_coefs.nd ?_)
  refine e_call (dds := []) c_quotient hr (by rfl) (fun _ => .nil) ?_
  refine ea_cons ?_
  refine e_call (dds := []) c_primitive hr (by rfl) (fun _ => .nil) ?_
  refine ea_cons ?_
  refine e_v 0 ?_
  refine ea_nil ?_
  refine ⟨rfl, ?_⟩
  refine u_primitive pp ?_
  refine ea_cons ?_
  refine e_v 2 ?_
  refine ea_nil ?_
  refine ⟨rfl, ?_⟩
  refine u_quotE pq hg.ne dg fun w0 tw0 ew0 => ?_
  show S _ _ _ [_, _, _, _, _, _, _, _] _
  have I0 := SpI.start (n := nn) (B := BB) htl hn hg tw0 ew0
  obtain ⟨z1, z2, z3, z4, z5⟩ := I0.lens pP0 pPs
  refine s_cons (s_a 4 sc_split_coefs.nd ?_)
  refine e_int ?_
  show S _ _ _ [_, _, _, _, _, _, _, _] _
  have hfl : ∀ w : List Int, (if 1 < w.length then 1 else 0) ≤ 1 := fun w => by split <;> omega
  refine s_cons (s_while (fun m G => ∃ (i : Nat) (w v t : List Int) (g5 g6 g7 : Sl), m = 2 * v.length + (if 1 < w.length then 1 else 0) ∧ G = [.sh (.tup (l.map .int)), .sh (iT t), .sh (iT v), .sh (iT w), .sh (.int (i : Nat)), g5, g6, g7] ∧ SpI (PX.ofL (primL l)) nn BB i w v t ∧ i + m ≤ 2 * nn + 4) (2 * g.length + (if 1 < w0.length then 1 else 0)) ⟨1, w0, g, [1], _, _, _, rfl, rfl, I0, by have := hfl w0; omega⟩ (passes_of rfl) fun m G hI => ?_)
  obtain ⟨i, w, v, t, g5, g6, g7, rfl, rfl, I1, him⟩ := hI
  obtain ⟨y1, y2, y3, y4, y5⟩ := I1.lens pP0 pPs
  obtain ⟨kw, kv, kt⟩ := I1.les pP0 pPs pPB
  refine t_cmp ?_
  refine e_callB (id := "len") (by rfl) m_len b_len ?_
  refine ea_cons ?_
  refine e_v 3 ?_
  refine ea_nil ?_
  first | refine wc_len_lst ?_ | refine wc_len_tup ?_ | refine wc_len_str (by walk_at "sc") ?_ | refine wc_lenc (fun hn63 => ?_)
  refine e_int ?_
  refine w_gt ?_
  refine ⟨_, rfl, ?_⟩
  rw [List.length_map]
  refine ite_b (fun h => ?_) (fun h => ?_)
  · have hw1 : 1 < w.length := by have := of_decide_eq_true h; omega
    rw [if_pos hw1] at him
    have hwn : w ≠ [] := fun z => by rw [z] at hw1; simp at hw1
    have pc2 : Tr w ∧ Tr v ∧ w ≠ [] ∧ w.length + v.length ≤ (nn - 1) + 2 ∧ nn - 1 ≤ 60 ∧ 1 ≤ PX.facB nn BB ∧ Le (PX.facB nn BB) w ∧ Le (PX.facB nn BB) v ∧ PX.facB nn BB < 2 ^ 4400 ∧ PX.remB (nn - 1) (PX.facB nn BB) < 2 ^ 4400 := ⟨I1.tw, I1.tv, hwn, by omega, by omega, fg3, kw, kv, Nat.lt_of_lt_of_le c3 t44, c2⟩
    refine s_cons (s_a 5 sc_split_coefs.nd ?_)
    refine e_call (dds := []) c_common_factor hr (by rfl) (fun _ => .nil) ?_
    refine ea_cons ?_
    refine e_v 3 ?_
    refine ea_cons ?_
    refine e_v 2 ?_
    refine ea_nil ?_
    refine ⟨rfl, ?_⟩
    refine u_common_factor pc2 fun d hd => ?_
    show S _ _ _ [_, _, _, _, _, _, _, _] _
    obtain ⟨dw, dv⟩ := hd.dv
    have dP : PX.Dv (PX.ofL d) (PX.ofL (primL l)) := dw.trans I1.dvw
    have kd := fac_le pP0 dP pPs pPB
    have ld := dv_len hd.tr pP0 dP pPs
    have pq2 : w.length ≤ 900 ∧ d.length ≤ 900 ∧ Tr d ∧ SzL 4000 w ∧ SzL 4000 d ∧ 4000 ≤ 8000 ∧ 4000 + (w.length + 2) * (4000 + 1) ≤ 800000 := ⟨by omega, by omega, hd.tr, sz40 kw, sz40 kd, by decide, by have := mm (x := w.length) (by omega); omega⟩
    refine s_cons (s_a 6 sc_split_coefs.nd ?_)
    refine e_call (dds := []) c_quotient hr (by rfl) (fun _ => .nil) ?_
    refine ea_cons ?_
    refine e_v 3 ?_
    refine ea_cons ?_
    refine e_v 5 ?_
    refine ea_nil ?_
    refine ⟨rfl, ?_⟩
    refine u_quotE pq2 hd.ne dw fun p tp ep => ?_
    show S _ _ _ [_, _, _, _, _, _, _, _] _
    have pPd : PX.Dv (PX.ofL p) (PX.ofL (primL l)) := (dv_right ep).trans I1.dvw
    have kp := fac_le pP0 pPd pPs pPB
    have lp := dv_len tp pP0 pPd pPs
    refine s_cut (fun G => ∃ (t' : List Int) (g7 : Sl), G = [.sh (.tup (l.map .int)), .sh (iT t'), .sh (iT v), .sh (iT w), .sh (.int (i : Nat)), .sh (iT d), .sh (iT p), g7] ∧ Tr t' ∧ PX.ofL t' = PX.ofL t * PX.ofL p ^ (i / 2)) (s_for (passes_of rfl) rfl ?_) ?_
    · refine i_range1 (by rfl) m_range ?_
      refine ea_cons ?_
      refine e_bin ?_
      refine e_v 4 ?_
      refine e_int ?_
      refine w_div ⟨by decide, by decide +kernel⟩ ?_
      refine ea_nil ?_
      refine ⟨_, rfl, by omega, by omega, ?_⟩
      rw [show (((i : Nat) : Int) / 2).toNat = i / 2 by omega]
      refine ⟨fun j G => ∃ (t' : List Int) (g7 : Sl), G = [.sh (.tup (l.map .int)), .sh (iT t'), .sh (iT v), .sh (iT w), .sh (.int (i : Nat)), .sh (iT d), .sh (iT p), g7] ∧ Tr t' ∧ PX.ofL t' = PX.ofL t * PX.ofL p ^ j, ⟨t, _, rfl, I1.tt, by rw [show PX.ofL p ^ 0 = (1 : PX.Pl) by grind]; grind⟩, ?_, ?_⟩
      · rintro j dd G hd2 ⟨t', g7, rfl, tt', et'⟩
        obtain ⟨hj, rfl⟩ := rangeD_get hd2
        have pv2 := I1.powdiv ep (j := j) (by omega)
        rw [← et'] at pv2
        have kt' := fac_le pP0 pv2 pPs pPB
        have lt' := dv_len tt' pP0 pv2 pPs
        have pt : t'.length ≤ 900 ∧ p.length ≤ 900 ∧ SzL 4000 t' ∧ SzL 4000 p ∧ 4000 + 4000 ≤ 900000 := ⟨by omega, by omega, sz40 kt', sz40 kp, by decide⟩
        refine ⟨_, (a_n 7 sc_split_coefs.nd), ?_⟩
        show S _ _ _ [_, _, _, _, _, _, _, _] _
        refine s_one (s_a 1 sc_split_coefs.nd ?_)
        refine e_call (dds := []) c_times hr (by rfl) (fun _ => .nil) ?_
        refine ea_cons ?_
        refine e_v 1 ?_
        refine ea_cons ?_
        refine e_v 6 ?_
        refine ea_nil ?_
        refine ⟨rfl, ?_⟩
        refine u_times pt ?_
        refine ⟨_, _, rfl, tr_trim _, ?_⟩
        rw [pl_trim, pl_mul, et', show PX.ofL p ^ (j + 1) = PX.ofL p ^ j * PX.ofL p by grind]
        generalize PX.ofL p ^ j = z
        grind
      · rintro G ⟨t', g7, rfl, tt', et'⟩
        rw [rangeD_length] at et'
        exact ⟨_, _, rfl, tt', et'⟩
    rintro G ⟨t', g7, rfl, tt', et'⟩
    refine s_cons (s_a 3 sc_split_coefs.nd ?_)
    refine e_v 5 ?_
    show S _ _ _ [_, _, _, _, _, _, _, _] _
    have pq3 : v.length ≤ 900 ∧ d.length ≤ 900 ∧ Tr d ∧ SzL 4000 v ∧ SzL 4000 d ∧ 4000 ≤ 8000 ∧ 4000 + (v.length + 2) * (4000 + 1) ≤ 800000 := ⟨by omega, by omega, hd.tr, sz40 kv, sz40 kd, by decide, by have := mm (x := v.length) (by omega); omega⟩
    refine s_cons (s_a 2 sc_split_coefs.nd ?_)
    refine e_call (dds := []) c_quotient hr (by rfl) (fun _ => .nil) ?_
    refine ea_cons ?_
    refine e_v 2 ?_
    refine ea_cons ?_
    refine e_v 5 ?_
    refine ea_nil ?_
    refine ⟨rfl, ?_⟩
    refine u_quotE pq3 hd.ne dv fun v' tv' ev' => ?_
    show S _ _ _ [_, _, _, _, _, _, _, _] _
    refine s_one (s_a 4 sc_split_coefs.nd ?_)
    refine e_bin ?_
    refine e_v 4 ?_
    refine e_int ?_
    first | refine w_add ?_ | refine w_catT (by walk_at "sc") ?_ | refine w_addS (by walk_at "sc") ?_ | refine w_catL (by walk_at "sc") ?_
    have I2 := I1.step hd tp ep tv' ev' tt' et'
    have hdn : PX.ofL d ≠ 0 := (ps_of hd.tr hd.ne hd.pos).ne
    have hv0 : PX.ofL v' ≠ 0 := I2.sv.ne
    have hs := (PX.sz_mul hdn hv0).1
    rw [← ev', pl_sz I1.tv, pl_sz hd.tr, pl_sz tv'] at hs
    have hd1 := List.length_pos_iff.mpr hd.ne
    refine ⟨2 * v'.length + (if 1 < d.length then 1 else 0), ?_, i + 1, d, v', t', _, _, _, rfl, rfl, I2, ?_⟩
    · rw [if_pos hw1]
      split <;> omega
    · split <;> omega
  · have hw1 : w.length ≤ 1 := by have := of_decide_eq_false h; omega
    have ptt : t.length ≤ 900 ∧ t.length ≤ 900 ∧ SzL 4000 t ∧ SzL 4000 t ∧ 4000 + 4000 ≤ 900000 := ⟨by omega, by omega, sz40 kt, sz40 kt, by decide⟩
    have ett : PX.ofL (trimL (mulL t t)) = PX.ofL t * PX.ofL t := by rw [pl_trim, pl_mul]
    have dtP : PX.Dv (PX.ofL (trimL (mulL t t))) (PX.ofL (primL l)) := by rw [ett]; exact I1.div.2
    have ktt := fac_le pP0 dtP pPs pPB
    have ltt := dv_len (tr_trim _) pP0 dtP pPs
    have ntt : trimL (mulL t t) ≠ [] := fun z => (I1.st.mul I1.st).ne (by rw [← ett, z, pl_nil])
    have pq4 : l.length ≤ 900 ∧ (trimL (mulL t t)).length ≤ 900 ∧ Tr (trimL (mulL t t)) ∧ SzL 4000 l ∧ SzL 4000 (trimL (mulL t t)) ∧ 4000 ≤ 8000 ∧ 4000 + (l.length + 2) * (4000 + 1) ≤ 800000 := ⟨by omega, by omega, tr_trim _, (hle.up fg2).sz c3, sz40 ktt, by decide, by have := mm (x := l.length) (by omega); omega⟩
    have dl : PX.Dv (PX.ofL (trimL (mulL t t))) (PX.ofL l) := by rw [ett]; exact I1.exact htl hn
    refine s_cons (s_ret ?_)
    refine e_tup ?_
    refine ea_cons ?_
    refine e_call (dds := []) c_quotient hr (by rfl) (fun _ => .nil) ?_
    refine ea_cons ?_
    refine e_v 0 ?_
    refine ea_cons ?_
    refine e_call (dds := []) c_times hr (by rfl) (fun _ => .nil) ?_
    refine ea_cons ?_
    refine e_v 1 ?_
    refine ea_cons ?_
    refine e_v 1 ?_
    refine ea_nil ?_
    refine ⟨rfl, ?_⟩
    refine u_times ptt ?_
    refine ea_nil ?_
    refine ⟨rfl, ?_⟩
    refine u_quotE pq4 ntt dl fun rest tr er => ?_
    refine ea_cons ?_
    refine e_v 1 ?_
    refine ea_nil ?_
    refine ⟨Nat.le_of_ble_eq_true rfl, ?_⟩
    rw [ett] at er
    have hl0 : PX.ofL l ≠ 0 := fun z => hn ((pl_zero htl).mp z)
    exact hq2 hn rest t (I1.last htl hn hw1 tr er) (fac_le hl0 (dv_right er) (by rw [pl_sz htl]; exact hln) hle) kt

abbrev s_Poly___init__ : Stmt := inClass (topS 30) 0
abbrev N_Poly___init__ : List Str := ["self", "coefs"]
theorem sc_Poly___init__ : FnScope N_Poly___init__ ["self", "coefs"] (defScope s_Poly___init__) := ⟨rfl, rfl, rfl, by decide +kernel, rfl, by decide +kernel, by decide +kernel⟩
theorem ok_Poly___init__ {f : Addr} {fd : FuncData} {k : Nat} {kws : List (Str × V)} {C_Poly : Addr} (F : FD K "__init__" "Poly.__init__" s_Poly___init__ [] kws f fd) (c_trim : Fn P w K mg base k "trim" ["coefs"] [] (spD K 1 ph_trim)) (pc_Poly : PolyC K C_Poly) : FnR P w K mg base (L2.CX P w) (k + 1) f (spIniS K C_Poly (ph_Poly___init__ C_Poly)) := by
  refine iniS_ok F sc_Poly___init__ (fun _ _ _ _ _ _ _ rest => by cases rest <;> rfl) fun X cdv A outer s H E a ds q xd hX hr hph hl => ?_
  subst hX
  obtain ⟨l, rfl, hlen, hq⟩ := hph
  show S _ _ _ [.ow (.at_ a (.obj C_Poly [] [])), .sh (.tup (l.map .int))] _
  refine s_one (s_fldO 0 rfl rfl (by first | exact .inl rfl | exact .inr (.inl rfl) | exact .inr (.inr rfl)) pc_Poly.cl pc_Poly.na_coefs (by decide) ?_)
  refine e_call (dds := []) c_trim hr (by rfl) (fun _ => .nil) ?_
  refine ea_cons ?_
  refine e_v 1 ?_
  refine ea_nil ?_
  refine ⟨rfl, ?_⟩
  refine u_trimT hlen ?_
  exact ⟨_, _, rfl, hq⟩

abbrev s_split_square : Stmt := topS 33
abbrev N_split_square : List Str := ["poly", "rest", "root"]
theorem sc_split_square : FnScope N_split_square ["poly"] (defScope s_split_square) := ⟨rfl, rfl, rfl, by decide +kernel, rfl, by decide +kernel, by decide +kernel⟩
theorem ok_split_square {f : Addr} {fd : FuncData} {k : Nat} {dvs : List V} {kws : List (Str × V)} {C_Poly : Addr} (F : FD K "split_square" "split_square" s_split_square dvs kws f fd) (c_split_coefs : Fn P w K mg base k "split_coefs" ["coefs"] [] (spD K 1 ph_split_coefs)) (g_Poly : mg "Poly" = some (.ref C_Poly)) (c_Poly : FnS P w K mg base k "Poly" (ph_Poly___init__ C_Poly)) (pc_Poly : PolyC K C_Poly) : FnOk P w K mg base (L2.CX P w) (k + 1) f fd ["poly"] (spD K 1 (ph_split_square C_Poly)) := by
  refine fn_ok F sc_split_square rfl fun X cdv A outer s H E ds q xd hX hr hph hl Fr wf xok => ?_
  subst hX
  obtain ⟨l, nn, BB, rfl, ⟨htl, hln, hle, hsp⟩, hq1, hq2⟩ := hph
  have h30 := hsp.2.1
  show S _ _ _ [_, _, _] _
  show S _ _ _ [.sh (polD C_Poly l), .no, .no] _
  refine s_cons (s_unpack ?_)
  refine e_call (dds := []) c_split_coefs hr (by rfl) (fun _ => .nil) ?_
  refine ea_cons ?_
  refine e_fld ?_
  refine e_v 0 ?_
  refine ⟨_, _, _, _, rfl, pc_Poly.cl, pc_Poly.na_coefs, rfl, ?_⟩
  refine ea_nil ?_
  refine ⟨rfl, ?_⟩
  refine u_split_coefs ⟨htl, hln, hle, hsp⟩ ?_
  refine ⟨fun hn => ?_, fun hn rest root hs hr1 ht1 => ?_⟩
  · refine ⟨_, (a_tup rfl (as_cons (a_n 1 sc_split_square.nd) (as_cons (a_n 2 sc_split_square.nd) as_nil))), ?_⟩
    show S _ _ _ [_, _, _] _
    refine s_one (s_ret ?_)
    refine e_tup ?_
    refine ea_cons ?_
    refine e_callSt1 c_Poly hr (by rfl) ?_
    refine e_v 1 ?_
    first | refine ⟨_, .inr rfl, by walk_at "sc", ?_⟩ | refine ⟨_, .inl rfl, by walk_at "sc", ?_⟩
    (refine u_Poly___init__ (l := []) (by decide) ?_; rw [show trimL [] = [] from rfl])
    refine ea_cons ?_
    refine e_callSt1 c_Poly hr (by rfl) ?_
    refine e_v 2 ?_
    first | refine ⟨_, .inr rfl, by walk_at "sc", ?_⟩ | refine ⟨_, .inl rfl, by walk_at "sc", ?_⟩
    (refine u_Poly___init__ (l := [1]) (by decide) ?_; rw [show trimL [1] = [1] from tr_one])
    refine ea_nil ?_
    refine ⟨Nat.le_of_ble_eq_true rfl, ?_⟩
    exact hq1 hn
  · obtain ⟨z1, z2, z3, z4⟩ := hs.lens htl hn
    refine ⟨_, (a_tup rfl (as_cons (a_n 1 sc_split_square.nd) (as_cons (a_n 2 sc_split_square.nd) as_nil))), ?_⟩
    show S _ _ _ [_, _, _] _
    have w1 : rest.length ≤ 100000 := by omega
    have w2 : root.length ≤ 100000 := by omega
    have w3 : (rest.map Dt.int).length ≤ 100000 := by rw [List.length_map]; omega
    have w4 : (root.map Dt.int).length ≤ 100000 := by rw [List.length_map]; omega
    refine s_one (s_ret ?_)
    refine e_tup ?_
    refine ea_cons ?_
    refine e_callSt1 c_Poly hr (by rfl) ?_
    refine e_v 1 ?_
    first | refine ⟨_, .inr rfl, by walk_at "sc", ?_⟩ | refine ⟨_, .inl rfl, by walk_at "sc", ?_⟩
    (refine u_Poly___init__ w1 ?_; rw [show trimL rest = rest from hs.trest])
    refine ea_cons ?_
    refine e_callSt1 c_Poly hr (by rfl) ?_
    refine e_v 2 ?_
    first | refine ⟨_, .inr rfl, by walk_at "sc", ?_⟩ | refine ⟨_, .inl rfl, by walk_at "sc", ?_⟩
    (refine u_Poly___init__ w2 ?_; rw [show trimL root = root from hs.troot])
    refine ea_nil ?_
    refine ⟨Nat.le_of_ble_eq_true rfl, ?_⟩
    exact hq2 hn rest root hs hr1 ht1

theorem take63 {ns : List Int} (h : ns.length ≤ 63) : cutD (ns.map Dt.int) none (some 63) = ns.map Dt.int := by
  unfold cutD
  rw [HT.sIx_none, show HT.sIx (ns.map Dt.int).length (ns.map Dt.int).length (some 63) = min 63 (ns.map Dt.int).length from HT.sIx_nat _ _ 63, List.drop_zero, List.length_map, Nat.sub_zero, Nat.min_eq_right h]
  exact List.take_of_length_le (by rw [List.length_map]; exact Nat.le_refl _)
abbrev s__law_box : Stmt := topS 35
abbrev N__law_box : List Str := ["_law_script", "_law_cell"]
theorem sc__law_box : FnScope N__law_box ["_law_script"] (defScope s__law_box) := ⟨rfl, rfl, rfl, by decide +kernel, rfl, by decide +kernel, by decide +kernel⟩
theorem ok__law_box {f : Addr} {fd : FuncData} {k : Nat} (F : FD K "_law_box" "_law_box" s__law_box [] [] f fd) (m_abs : mg "abs" = none) (m_int : mg "int" = none) : FnOk P w K mg base (L2.CX P w) (k + 1) f fd ["_law_script"] (spBox K) := by
  refine box_ok F sc__law_box fun X cdv A outer s H E ns Fr σ D hX hn ty q => ?_
  subst hX
  refine sOf.of (pss_one ps_w) (s_retBox ty ?_ q)
  refine en_lc (own := [("_law_cell", 1)]) rfl sc__law_box.nd (blkOk_by (N := N__law_box) (sc := defScope s__law_box) (by decide +kernel)) ?_
  refine i_lst ?_
  refine e_slice ?_
  refine e_v 0 ?_
  refine eo_none ?_
  refine eo_some ?_
  refine e_int ?_
  refine ⟨_, rfl, ?_⟩
  refine wsl_frl ?_
  rw [take63 hn]
  refine ⟨_, rfl, by rw [List.length_map]; omega, _, lc_map (fun _ d => match d with | .int i => .int (i.natAbs : Int) | d => d) (fun d => [(1, d)]) ?_ ?_ ?_, ?_⟩
  · intro i d hd Y hY
    obtain ⟨s', H', C, cl, fp, rfl⟩ := hY
    exact a_n 1 sc__law_box.nd
  · intro d p hp
    simp at hp
    subst hp
    simp
  · intro i d hd Y hY
    obtain ⟨s', H', C, cl, fp, rfl⟩ := hY
    rw [List.getElem?_map] at hd
    cases e : ns[i]? with
    | none => rw [e] at hd; cases hd
    | some z =>
      rw [e] at hd
      cases hd
      refine e_callB (id := "abs") (by rfl) m_abs b_abs ?_
      refine ea_cons ?_
      refine e_callTy (id := "int") (by rfl) m_int b_int ?_
      refine ea_cons ?_
      refine e_v 1 ?_
      refine ea_nil ?_
      first | refine wc_int ?_ | refine wc_intB ?_ | refine wc_intS (by walk_at "sc") (by walk_at "sc") ?_
      refine ea_nil ?_
      refine wc_abs ?_
      rfl
  · intro acc hacc
    refine ⟨ns.map fun i => (i.natAbs : Int), ?_, by rw [List.length_map]; exact hn, fun x hx => ?_⟩
    · rw [hacc, List.take_of_length_le (Nat.le_refl _), List.map_map]
      refine List.ext_getElem? fun i => ?_
      simp only [List.getElem?_mapIdx, List.getElem?_map]
      cases ns[i]? <;> rfl
    · obtain ⟨i, _, rfl⟩ := List.mem_map.mp hx
      omega

abbrev s__law_take : Stmt := topS 36
abbrev N__law_take : List Str := ["_law_box_here", "_law_size", "_law_cells", "_law_worth", "_law_at", "_law_digit", "_law_stirred"]
theorem sc__law_take : FnScope N__law_take ["_law_box_here", "_law_size"] (defScope s__law_take) := ⟨rfl, rfl, rfl, by decide +kernel, rfl, by decide +kernel, by decide +kernel⟩
theorem ok__law_take {f : Addr} {fd : FuncData} {k : Nat} {dvs : List V} {kws : List (Str × V)} (F : FD K "_law_take" "_law_take" s__law_take dvs kws f fd) (m_int : mg "int" = none) (m_len : mg "len" = none) : FnOk P w K mg base (L2.CX P w) (k + 1) f fd ["_law_box_here", "_law_size"] (spB K 2 ph_take) := by
  refine fn_okX F sc__law_take rfl fun X cdv A outer s H E b c n ds q xd hX hr hph hl Fr wf xok => ?_
  subst hX
  obtain ⟨z, rfl, ⟨hz, hlog⟩, hq⟩ := hph
  show S _ _ _ [_, _, _, _, _, _, _] _
  refine s_cons (s_a 2 sc__law_take.nd ?_)
  refine e_ix ?_
  refine e_v 0 ?_
  refine e_int ?_
  refine wi_box0 ?_
  show S _ _ _ [_, _, _, _, _, _, _] _
  refine s_cons (s_a 3 sc__law_take.nd ?_)
  refine e_int ?_
  show S _ _ _ [_, _, _, _, _, _, _] _
  -- behind the if: worth is some int below a bound
  have fin : ∀ (g2 : Sl) (g4 g5 : Sl) (wo : Int), S (cxOf (L2.CX P w) P w K mg base N__law_take "_law_take" (defScope s__law_take) f cdv A outer s H E) (boxR b c n) ((defBody s__law_take).drop 3) [.sh (.adr b), .sh (.int z), g2, .sh (.int wo), g4, g5, .no] { nx := fun _ => q .non, rt := q } := fun g2 g4 g5 wo => by
    refine s_cons (s_set ?_)
    refine e_bin ?_
    refine e_callTy (id := "int") (by rfl) m_int b_int ?_
    refine ea_cons ?_
    refine e_bin ?_
    refine e_bin ?_
    refine e_ix ?_
    refine e_v 0 ?_
    refine e_int ?_
    refine wi_box2 fun sd sd0 sd1 => ?_
    refine e_int ?_
    refine w_mulS (.inr ⟨by decide, by decide⟩) ?_
    refine e_v 3 ?_
    refine w_add ?_
    refine ea_nil ?_
    refine wc_int ?_
    refine e_int ?_
    refine w_mod (by omega) ?_
    refine e_v 0 ?_
    refine e_int ?_
    refine ws_box2 (Int.emod_nonneg _ (by decide)) (Int.emod_lt_of_pos _ (by decide)) ?_
    refine s_cons (s_a 6 sc__law_take.nd ?_)
    refine e_bin ?_
    refine e_callTy (id := "int") (by rfl) m_int b_int ?_
    refine ea_cons ?_
    refine e_bin ?_
    refine e_bin ?_
    refine e_ix ?_
    refine e_v 0 ?_
    refine e_int ?_
    refine wi_box2 fun se se0 se1 => ?_
    refine e_int ?_
    refine w_mulS (.inr ⟨by decide, by decide⟩) ?_
    refine e_bin ?_
    refine e_ix ?_
    refine e_v 0 ?_
    refine e_int ?_
    refine wi_box2 fun sf sf0 sf1 => ?_
    refine e_int ?_
    refine w_div ⟨by decide, by decide +kernel⟩ ?_
    refine w_add ?_
    refine ea_nil ?_
    refine wc_int ?_
    refine e_int ?_
    refine w_mod (by omega) ?_
    show S _ _ _ [_, _, _, _, _, _, _] _
    refine s_cons (s_ret ?_)
    refine e_bin ?_
    refine e_callTy (id := "int") (by rfl) m_int b_int ?_
    refine ea_cons ?_
    refine e_bin ?_
    refine e_v 6 ?_
    refine e_int ?_
    refine w_div ⟨by decide, by decide +kernel⟩ ?_
    refine ea_nil ?_
    refine wc_int ?_
    refine e_v 1 ?_
    refine w_mod hz ?_
    exact hq _ (Int.emod_nonneg _ (by omega)) (Int.emod_lt_of_pos _ hz)
  refine s_cons (s_if ?_)
  refine t_cmp ?_
  refine e_callB (id := "len") (by rfl) m_len b_len ?_
  refine ea_cons ?_
  refine e_v 2 ?_
  refine ea_nil ?_
  refine wc_lenc fun hn63 => ?_
  refine e_int ?_
  refine w_gt ⟨_, rfl, ?_⟩
  refine ite_b (fun h => ?_) (fun h => ?_)
  · have hn : (0 : Int) < (n : Int) := of_decide_eq_true h
    refine s_cons (s_a 4 sc__law_take.nd ?_)
    refine e_bin ?_
    refine e_callTy (id := "int") (by rfl) m_int b_int ?_
    refine ea_cons ?_
    refine e_ix ?_
    refine e_v 0 ?_
    refine e_int ?_
    refine wi_box1 fun pl => ?_
    refine ea_nil ?_
    refine wc_int ?_
    refine e_callB (id := "len") (by rfl) m_len b_len ?_
    refine ea_cons ?_
    refine e_v 2 ?_
    refine ea_nil ?_
    refine wc_lenc fun hn63 => ?_
    refine w_mod hn ?_
    show S _ _ _ [_, _, _, _, _, _, _] _
    have a0 := Int.emod_nonneg pl (show (n : Int) ≠ 0 by omega)
    have a1 := Int.emod_lt_of_pos pl hn
    refine s_cons (s_if ?_)
    refine t_cmp ?_
    refine e_ix ?_
    refine e_v 2 ?_
    refine e_v 4 ?_
    refine wi_cell a0 a1 fun x x0 => ?_
    refine e_bin ?_
    refine e_int ?_
    refine e_int ?_
    refine w_pow ⟨by decide, by decide, by decide⟩ ?_
    refine w_ge ⟨_, rfl, ?_⟩
    refine ite_b (fun h2 => ?_) (fun h2 => ?_)
    · refine s_cons (s_a 5 sc__law_take.nd ?_)
      refine e_bin ?_
      refine e_callTy (id := "int") (by rfl) m_int b_int ?_
      refine ea_cons ?_
      refine e_ix ?_
      refine e_v 2 ?_
      refine e_v 4 ?_
      refine wi_cell a0 a1 fun x2 x20 => ?_
      refine ea_nil ?_
      refine wc_int ?_
      refine e_v 1 ?_
      refine w_mod hz ?_
      show S _ _ _ [_, _, _, _, _, _, _] _
      refine s_cons (s_set ?_)
      refine e_bin ?_
      refine e_ix ?_
      refine e_v 2 ?_
      refine e_v 4 ?_
      refine wi_cell a0 a1 fun x3 x30 => ?_
      refine e_v 1 ?_
      refine w_div ⟨hz, hlog⟩ ?_
      refine e_v 2 ?_
      refine e_v 4 ?_
      refine ws_cell a0 a1 (Int.ediv_nonneg x30 (by omega)) ?_
      refine s_cons (s_ret ?_)
      refine e_v 5 ?_
      exact hq _ (Int.emod_nonneg _ (by omega)) (Int.emod_lt_of_pos _ hz)
    · refine s_nil ?_
      refine s_cons (s_set ?_)
      refine e_bin ?_
      refine e_ix ?_
      refine e_v 0 ?_
      refine e_int ?_
      refine wi_box1 fun pl2 => ?_
      refine e_int ?_
      refine w_add ?_
      refine e_v 0 ?_
      refine e_int ?_
      refine ws_box1 ?_
      refine s_cons (s_a 3 sc__law_take.nd ?_)
      refine e_bin ?_
      refine e_bin ?_
      refine e_ix ?_
      refine e_v 2 ?_
      refine e_v 4 ?_
      refine wi_cell a0 a1 fun x4 x40 => ?_
      refine e_int ?_
      refine w_mulS (.inr ⟨by decide, by decide⟩) ?_
      refine e_int ?_
      refine w_add ?_
      refine s_nil ?_
      exact fin _ _ _ _
  · refine s_nil ?_
    exact fin _ _ _ 11

abbrev s__law_trim : Stmt := topS 37
abbrev N__law_trim : List Str := ["_law_row_here", "_law_size", "_law_k"]
theorem sc__law_trim : FnScope N__law_trim ["_law_row_here"] (defScope s__law_trim) := ⟨rfl, rfl, rfl, by decide +kernel, rfl, by decide +kernel, by decide +kernel⟩
theorem ok__law_trim {f : Addr} {fd : FuncData} {k : Nat} {dvs : List V} {kws : List (Str × V)} (F : FD K "_law_trim" "_law_trim" s__law_trim dvs kws f fd) (m_len : mg "len" = none) (m_range : mg "range" = none) : FnOk P w K mg base (L2.CX P w) (k + 1) f fd ["_law_row_here"] (spD K 1 ph__law_trim) := by
  refine fn_ok F sc__law_trim rfl fun X cdv A outer s H E ds q xd hX hr hph hl Fr wf xok => ?_
  subst hX
  obtain ⟨l, rfl, hlen, hq⟩ := hph
  show S _ _ _ [_, _, _] _
  show S _ _ _ [.sh (.lst (l.map .int)), .no, .no] _
  refine s_cons (s_a 1 sc__law_trim.nd ?_)
  refine e_callB (id := "len") (by rfl) m_len b_len ?_
  refine ea_cons ?_
  refine e_v 0 ?_
  refine ea_nil ?_
  first | refine wc_len_lst ?_ | refine wc_len_tup ?_ | refine wc_len_str (by walk_at "sc") ?_ | refine wc_lenc (fun hn63 => ?_)
  show S _ _ _ [_, _, _] _
  rw [List.length_map]
  refine s_cons (s_while (fun m G => ∃ s : Nat, m = s ∧ G = [.sh (.lst (l.map .int)), .sh (.int (s : Int)), .no] ∧ s ≤ l.length ∧ ∀ i, s ≤ i → cf l i = 0) l.length ⟨l.length, rfl, rfl, Nat.le_refl _, fun i hi => cf_ge hi⟩ (passes_of rfl) fun m G hI => ?_)
  obtain ⟨s', rfl, rfl, hs, hz⟩ := hI
  refine TW.t ?_
  refine' tw_andD ?ha10 (fun hb => ?hb10) ?hc10
  case ha10 =>
    refine t_cmp ?_
    refine e_v 1 ?_
    refine e_int ?_
    refine w_gt ?_
    refine ⟨_, rfl, ?_⟩
    exact rfl
  case hb10 =>
    refine tw_and1 ?_
    refine t_cmp ?_
    refine e_ix ?_
    refine e_v 0 ?_
    refine e_bin ?_
    refine e_v 1 ?_
    refine e_int ?_
    refine w_sub ?_
    (have hb' : (0 : Int) < (m : Int) := of_decide_eq_true hb; refine wi_lst (at_cf (j := m - 1) (by omega) (by omega)) ?_)
    refine e_int ?_
    first | refine w_eqI ?_ | refine w_eqT ?_ | refine w_eqB ?_ | refine w_eqD hr.units (by walk_at "ok") (by walk_at "ok") ?_
    refine ⟨_, rfl, ?_⟩
    exact rfl
  by_cases hc : 0 < m ∧ cf l (m - 1) = 0
  · refine ite_t (by rw [decide_eq_true (show (0 : Int) < (m : Int) by omega), decide_eq_true hc.2]; rfl) ?_
    have e : (m : Int) - 1 = ((m - 1 : Nat) : Int) := by omega
    refine s_one (s_a 1 sc__law_trim.nd ?_)
    refine e_bin ?_
    refine e_v 1 ?_
    refine e_int ?_
    refine w_sub ?_
    rw [e]
    refine ⟨m - 1, by omega, m - 1, rfl, rfl, by omega, fun i hi => ?_⟩
    by_cases hi2 : i = m - 1
    · rw [hi2]; exact hc.2
    · exact hz i (by omega)
  · refine ite_f ?_ ?_
    · by_cases h0 : 0 < m
      · rw [decide_eq_false (show ¬ cf l (m - 1) = 0 from fun z => hc ⟨h0, z⟩), Bool.and_false]
      · rw [decide_eq_false (show ¬ (0 : Int) < (m : Int) by omega), Bool.false_and]
    · have et : (List.range m).map (cf l) = trimL l := by
        rw [range_cf hs, take_trim hs hz]
        by_cases h0 : 0 < m
        · exact .inr fun z => hc ⟨h0, z⟩
        · exact .inl (by omega)
      refine s_cons (s_ret ?_)
      refine e_lc (own := [("_law_k", 2)]) rfl sc__law_trim.nd (blkOk_by (N := N__law_trim) (sc := defScope s__law_trim) (by decide +kernel)) ?_
      refine i_range1 (by rfl) m_range ?_
      refine ea_cons ?_
      refine e_v 1 ?_
      refine ea_nil ?_
      refine ⟨_, rfl, by walk_at "sc", by walk_at "sc", ?_⟩
      rw [rangeD_nat]
      refine' ⟨?lcl11, _, lc_of (List.range m) (fun i => Dt.int (i : Nat)) (fun i => .int (cf l i)) (fun i => [(2, Dt.int (i : Nat))]) ?lct11 ?lcm11 ?lce11, ?lcc11⟩
      case lcl11 =>
        rw [List.length_map, List.length_range]; omega
      case lct11 =>
        rintro t ht Y ⟨s', H', C, cl, fp, rfl⟩
        exact (a_n 2 sc__law_trim.nd)
      case lcm11 =>
        intro t p hp
        simp at hp
        simp [hp]
      case lce11 =>
        rintro t ht Y ⟨s', H', C, cl, fp, rfl⟩
        have hi := List.mem_range.mp ht
        refine e_ix ?_
        refine e_v 0 ?_
        refine e_v 2 ?_
        refine wi_lst (at_cf (j := t) rfl (by omega)) ?_
        rfl
      rintro acc rfl
      rw [take_map_all]
      rw [map_int (cf l), et]
      exact hq

abbrev s__law_times : Stmt := topS 38
abbrev N__law_times : List Str := ["_law_a", "_law_b", "_law_row_here", "_law_i", "_law_j", "_law_k"]
theorem sc__law_times : FnScope N__law_times ["_law_a", "_law_b"] (defScope s__law_times) := ⟨rfl, rfl, rfl, by decide +kernel, rfl, by decide +kernel, by decide +kernel⟩
theorem ok__law_times {f : Addr} {fd : FuncData} {k : Nat} {dvs : List V} {kws : List (Str × V)} (F : FD K "_law_times" "_law_times" s__law_times dvs kws f fd) (m_len : mg "len" = none) (m_range : mg "range" = none) (c__law_trim : Fn P w K mg base k "_law_trim" ["_law_row_here"] [] (spD K 1 ph__law_trim)) : FnOk P w K mg base (L2.CX P w) (k + 1) f fd ["_law_a", "_law_b"] (spD K 2 ph__law_times) := by
  refine fn_ok F sc__law_times rfl fun X cdv A outer s H E ds q xd hX hr hph hl Fr wf xok => ?_
  subst hX
  obtain ⟨a, b, A', B', rfl, ⟨ha, hb, sa, sb, hAB⟩, hq⟩ := hph
  show S _ _ _ [_, _, _, _, _, _] _
  show S _ _ _ [.sh (.lst (a.map .int)), .sh (.lst (b.map .int)), .no, .no, .no, .no] _
  have rr : ((a.map Dt.int).length : Int) + ((b.map Dt.int).length : Int) = ((a.length + b.length : Nat) : Int) := by rw [List.length_map, List.length_map]; omega
  generalize hn : a.length + b.length = n at rr
  have rb : -(2 ^ 62) ≤ ((a.map Dt.int).length : Int) + ((b.map Dt.int).length : Int) := by rw [rr]; omega
  have rb2 : ((a.map Dt.int).length : Int) + ((b.map Dt.int).length : Int) < 2 ^ 62 := by rw [rr]; omega
  refine s_cons (s_lcN 2 (own := [("_law_k", 5)]) rfl sc__law_times.nd rfl rfl (sw_true rfl rfl rfl (by decide +kernel)) (blkOk_by (N := N__law_times) (sc := defScope s__law_times) (by decide +kernel)) ?_)
  refine i_range1 (by rfl) m_range ?_
  refine ea_cons ?_
  refine e_bin ?_
  refine e_callB (id := "len") (by rfl) m_len b_len ?_
  refine ea_cons ?_
  refine e_v 0 ?_
  refine ea_nil ?_
  first | refine wc_len_lst ?_ | refine wc_len_tup ?_ | refine wc_len_str (by walk_at "sc") ?_ | refine wc_lenc (fun hn63 => ?_)
  refine e_callB (id := "len") (by rfl) m_len b_len ?_
  refine ea_cons ?_
  refine e_v 1 ?_
  refine ea_nil ?_
  first | refine wc_len_lst ?_ | refine wc_len_tup ?_ | refine wc_len_str (by walk_at "sc") ?_ | refine wc_lenc (fun hn63 => ?_)
  first | refine w_add ?_ | refine w_catT (by walk_at "sc") ?_ | refine w_addS (by walk_at "sc") ?_ | refine w_catL (by walk_at "sc") ?_
  refine ea_nil ?_
  refine ⟨_, rfl, by walk_at "sc", by walk_at "sc", ?_⟩
  rw [rr, rangeD_nat]
  refine' ⟨?lcl12, _, lc_of (List.range n) (fun i => Dt.int (i : Nat)) (fun i => .int 0) (fun i => [(5, Dt.int (i : Nat))]) ?lct12 ?lcm12 ?lce12, ?lcc12⟩
  case lcl12 =>
    rw [List.length_map, List.length_range]; omega
  case lct12 =>
    rintro t ht Y ⟨s', H', C, cl, fp, rfl⟩
    exact (a_n 5 sc__law_times.nd)
  case lcm12 =>
    intro t p hp
    simp at hp
    simp [hp]
  case lce12 =>
    rintro t ht Y ⟨s', H', C, cl, fp, rfl⟩
    refine e_int ?_
    rfl
  rintro acc rfl
  rw [take_map_all]
  rw [map_int (fun _ => 0)]
  have hl0 : ((List.range n).map fun _ => (0 : Int)).length = n := by simp
  have hc0 : ∀ i, cf ((List.range n).map fun _ => (0 : Int)) i = 0 := zeros_cf n
  generalize (List.range n).map (fun _ => (0 : Int)) = r0 at *
  show S _ _ _ [_, _, _, _, _, _] _
  refine s_cons (s_for (passes_of rfl) rfl ?_)
  refine i_range1 (by rfl) m_range ?_
  refine ea_cons ?_
  refine e_callB (id := "len") (by rfl) m_len b_len ?_
  refine ea_cons ?_
  refine e_v 0 ?_
  refine ea_nil ?_
  first | refine wc_len_lst ?_ | refine wc_len_tup ?_ | refine wc_len_str (by walk_at "sc") ?_ | refine wc_lenc (fun hn63 => ?_)
  refine ea_nil ?_
  refine ⟨_, rfl, by walk_at "sc", by walk_at "sc", ?_⟩
  rw [List.length_map, rangeD_nat]
  refine ⟨fun i G => ∃ r g3 g4 g5, G = [.sh (.lst (a.map .int)), .sh (.lst (b.map .int)), .ow (.lst (r.map .int)), g3, g4, g5] ∧ r.length = n ∧ ∀ k, cf r k = cf (mulL (a.take i) b) k, ⟨r0, _, _, _, rfl, hl0, fun k => by rw [hc0]; simp [mulL]⟩, ?_, ?_⟩
  · rintro i d G hd ⟨r, g3, g4, g5, rfl, hr1, hr2⟩
    obtain ⟨i', hi0, rfl⟩ := get_map hd
    obtain ⟨hi, rfl⟩ := range_get hi0
    refine ⟨_, (a_n 3 sc__law_times.nd), ?_⟩
    show S _ _ _ [_, _, _, _, _, _] _
    refine s_one (s_for (passes_of rfl) rfl ?_)
    refine i_range1 (by rfl) m_range ?_
    refine ea_cons ?_
    refine e_callB (id := "len") (by rfl) m_len b_len ?_
    refine ea_cons ?_
    refine e_v 1 ?_
    refine ea_nil ?_
    refine wc_len_lst ?_
    refine ea_nil ?_
    refine ⟨_, rfl, by omega, by rw [List.length_map]; omega, ?_⟩
    rw [List.length_map, rangeD_nat]
    refine ⟨fun j G => ∃ s g4, G = [.sh (.lst (a.map .int)), .sh (.lst (b.map .int)), .ow (.lst (s.map .int)), .sh (.int (i' : Nat)), g4, g5] ∧ s.length = n ∧ ∀ k, cf s k = cf r k + if i' ≤ k ∧ k - i' < j then cf a i' * cf b (k - i') else 0, ⟨r, _, rfl, hr1, fun k => by rw [if_neg (by omega), Int.add_zero]⟩, ?_, ?_⟩
    · rintro j d G hd ⟨s, g4, rfl, hs1, hs2⟩
      obtain ⟨j', hj0, rfl⟩ := get_map hd
      obtain ⟨hj, rfl⟩ := range_get hj0
      have hir : i' + j' < s.length := by omega
      have hm : CMulW (cf a i') (cf b j') := mulOk (sa _ (List.mem_of_getElem? (cf_lt hi))) (sb _ (List.mem_of_getElem? (cf_lt hj))) hAB
      have e1 : atI (s.map Dt.int) ((i' : Int) + (j' : Int)) = some (.int (cf s (i' + j'))) := at_cf (by omega) hir
      have e2 : ixN (s.map Dt.int).length ((i' : Int) + (j' : Int)) = some (i' + j') := by rw [List.length_map, show (i' : Int) + (j' : Int) = ((i' + j' : Nat) : Int) by omega]; exact ix_nat hir
      refine ⟨_, (a_n 4 sc__law_times.nd), ?_⟩
      show S _ _ _ [_, _, _, _, _, _] _
      refine s_one (s_setL 2 rfl rfl (by first | exact .inl rfl | exact .inr (.inl rfl) | exact .inr (.inr rfl)) ?_)
      refine e_bin ?_
      refine e_ixO 2 rfl rfl (by first | exact .inl rfl | exact .inr (.inl rfl) | exact .inr (.inr rfl)) ?_
      refine e_bin ?_
      refine e_v 3 ?_
      refine e_v 4 ?_
      first | refine w_add ?_ | refine w_catT (by walk_at "sc") ?_ | refine w_addS (by walk_at "sc") ?_ | refine w_catL (by walk_at "sc") ?_
      refine ⟨_, _, rfl, by walk_at "sc", ?_⟩
      refine e_bin ?_
      refine e_ix ?_
      refine e_v 0 ?_
      refine e_v 3 ?_
      first | refine wi_tup0 ?_ | refine wi_tup1 ?_ | refine wi_tup2 ?_ | refine wi_tup (by walk_at "sc") ?_ | refine wi_lst (by walk_at "sc") ?_ | refine wi_str (by walk_at "sc") (by walk_at "sc") ?_
      refine e_ix ?_
      refine e_v 1 ?_
      refine e_v 4 ?_
      first | refine wi_tup0 ?_ | refine wi_tup1 ?_ | refine wi_tup2 ?_ | refine wi_tup (by walk_at "sc") ?_ | refine wi_lst (by walk_at "sc") ?_ | refine wi_str (by walk_at "sc") (by walk_at "sc") ?_
      first | refine w_mulS (.inr ⟨by decide, by decide⟩) ?_ | refine w_mulS (.inl ⟨by decide, by decide⟩) ?_ | refine w_mul (by walk_at "sc") ?_ | refine w_repT (by walk_at "sc") ?_ | refine w_repL (by walk_at "sc") ?_
      first | refine w_add ?_ | refine w_catT (by walk_at "sc") ?_ | refine w_addS (by walk_at "sc") ?_ | refine w_catL (by walk_at "sc") ?_
      refine e_bin ?_
      refine e_v 3 ?_
      refine e_v 4 ?_
      first | refine w_add ?_ | refine w_catT (by walk_at "sc") ?_ | refine w_addS (by walk_at "sc") ?_ | refine w_catL (by walk_at "sc") ?_
      refine ⟨_, _, rfl, by walk_at "sc", ?_⟩
      rw [set_ints]
      refine ⟨_, _, rfl, by rw [List.length_set]; exact hs1, fun k => ?_⟩
      have hz1 : cf s (i' + j') = cf r (i' + j') := by rw [hs2, if_neg (by omega), Int.add_zero]
      rw [cf_set _ _ _ _ hir, hz1]
      by_cases hk : k = i' + j'
      · subst hk
        rw [if_pos rfl, if_pos (by omega), show i' + j' - i' = j' by omega]
      · rw [if_neg hk, hs2]
        by_cases h2 : i' ≤ k ∧ k - i' < j'
        · rw [if_pos h2, if_pos (by omega)]
        · rw [if_neg h2, if_neg (by omega)]
    · rintro G ⟨s, g4, rfl, hs1, hs2⟩
      refine ⟨s, _, _, _, rfl, hs1, fun k => ?_⟩
      rw [hs2, hr2, take_succ' (cf_lt hi), mul_snoc, List.length_take, Nat.min_eq_left (Nat.le_of_lt hi), List.length_map, List.length_range]
      by_cases h1 : i' ≤ k
      · rw [if_pos h1]
        by_cases h2 : k - i' < b.length
        · rw [if_pos ⟨h1, h2⟩]
        · rw [if_neg (fun z => h2 z.2), cf_ge (l := b) (by omega), Int.mul_zero]
      · rw [if_neg h1, if_neg (fun z => h1 z.1)]
  · rintro G ⟨r, g3, g4, g5, rfl, hr1, hr2⟩
    have e : trimL r = trimL (mulL a b) := trim_ext fun k => by rw [hr2, List.length_map, List.length_range, List.take_length]
    have hsl : r.length ≤ 100000 := by omega
    refine s_cons (s_ret ?_)
    refine e_call (dds := []) c__law_trim hr (by rfl) (fun _ => .nil) ?_
    refine ea_cons ?_
    refine e_v 2 ?_
    refine ea_nil ?_
    refine ⟨rfl, ?_⟩
    refine u__law_trim hsl ?_
    rw [e]
    exact hq

abbrev s__law_factor : Stmt := topS 41
abbrev N__law_factor : List Str := ["_law_box_here", "_law_pick"]
theorem sc__law_factor : FnScope N__law_factor ["_law_box_here"] (defScope s__law_factor) := ⟨rfl, rfl, rfl, by decide +kernel, rfl, by decide +kernel, by decide +kernel⟩
theorem ok__law_factor {f : Addr} {fd : FuncData} {k : Nat} {dvs : List V} {kws : List (Str × V)} (F : FD K "_law_factor" "_law_factor" s__law_factor dvs kws f fd) (c__law_take : Fn P w K mg base k "_law_take" ["_law_box_here", "_law_size"] [] (spB K 2 ph_take)) : FnOk P w K mg base (L2.CX P w) (k + 1) f fd ["_law_box_here"] (spB K 1 ph__law_factor) := by
  refine fn_okX F sc__law_factor rfl fun X cdv A outer s H E b c n ds q xd hX hr hph hl Fr wf xok => ?_
  subst hX
  obtain ⟨rfl, hq⟩ := hph
  have hl4 : (0 : Int) < 4 ∧ (4 : Int).natAbs.log2 < 9000 := ⟨by decide, by decide +kernel⟩
  have hl5 : (0 : Int) < 5 ∧ (5 : Int).natAbs.log2 < 9000 := ⟨by decide, by decide +kernel⟩
  have hl7 : (0 : Int) < 7 ∧ (7 : Int).natAbs.log2 < 9000 := ⟨by decide, by decide +kernel⟩
  have hl8 : (0 : Int) < 8 ∧ (8 : Int).natAbs.log2 < 9000 := ⟨by decide, by decide +kernel⟩
  show S _ _ _ [_, _] _
  refine s_cons (s_a 1 sc__law_factor.nd ?_)
  refine e_callX c__law_take hr (by rfl) ?_
  refine ea_cons ?_
  refine e_v 0 ?_
  refine ea_cons ?_
  refine e_int ?_
  refine ea_nil ?_
  refine ⟨_, rfl, rfl, ?_⟩
  refine u_take (by walk_at "sc") ?_
  intro v1 va1 vb1
  show S _ _ _ [_, _] _
  refine s_cons (s_if ?_)
  refine t_cmp ?_
  refine e_v 1 ?_
  refine e_int ?_
  first | refine w_eqI ?_ | refine w_eqT ?_ | refine w_eqB ?_ | refine w_eqD hr.units (by walk_at "ok") (by walk_at "ok") ?_
  refine ⟨_, rfl, ?_⟩
  refine ite_b (fun h => ?_) (fun h => ?_)
  · refine s_one (s_ret ?_)
    refine e_lst ?_
    refine ea_cons ?_
    refine e_bin ?_
    refine e_callX c__law_take hr (by rfl) ?_
    refine ea_cons ?_
    refine e_v 0 ?_
    refine ea_cons ?_
    refine e_int ?_
    refine ea_nil ?_
    refine ⟨_, rfl, rfl, ?_⟩
    refine u_take (by walk_at "sc") ?_
    intro v2 va2 vb2
    refine e_int ?_
    refine w_sub ?_
    refine ea_cons ?_
    refine e_bin ?_
    refine e_callX c__law_take hr (by rfl) ?_
    refine ea_cons ?_
    refine e_v 0 ?_
    refine ea_cons ?_
    refine e_int ?_
    refine ea_nil ?_
    refine ⟨_, rfl, rfl, ?_⟩
    refine u_take (by walk_at "sc") ?_
    intro v3 va3 vb3
    refine e_int ?_
    refine w_sub ?_
    refine ea_cons ?_
    refine e_bin ?_
    refine e_callX c__law_take hr (by rfl) ?_
    refine ea_cons ?_
    refine e_v 0 ?_
    refine ea_cons ?_
    refine e_int ?_
    refine ea_nil ?_
    refine ⟨_, rfl, rfl, ?_⟩
    refine u_take (by walk_at "sc") ?_
    intro v4 va4 vb4
    refine e_int ?_
    refine w_sub ?_
    refine ea_nil ?_
    refine ⟨Nat.le_of_ble_eq_true rfl, ?_⟩
    refine hq [v2 - 3, v3 - 3, v4 - 3] (Nat.le_of_ble_eq_true rfl) fun x hx => ?_
    simp only [List.mem_cons, List.not_mem_nil, or_false] at hx
    rcases hx with h | h | h <;> omega
  refine s_nil ?_
  refine s_cons (s_if ?_)
  refine t_cmp ?_
  refine e_v 1 ?_
  refine e_int ?_
  first | refine w_eqI ?_ | refine w_eqT ?_ | refine w_eqB ?_ | refine w_eqD hr.units (by walk_at "ok") (by walk_at "ok") ?_
  refine ⟨_, rfl, ?_⟩
  refine ite_b (fun h => ?_) (fun h => ?_)
  · refine s_one (s_ret ?_)
    refine e_lst ?_
    refine ea_cons ?_
    refine e_bin ?_
    refine e_int ?_
    refine e_callX c__law_take hr (by rfl) ?_
    refine ea_cons ?_
    refine e_v 0 ?_
    refine ea_cons ?_
    refine e_int ?_
    refine ea_nil ?_
    refine ⟨_, rfl, rfl, ?_⟩
    refine u_take (by walk_at "sc") ?_
    intro v5 va5 vb5
    first | refine w_add ?_ | refine w_catT (by walk_at "sc") ?_ | refine w_addS (by walk_at "sc") ?_ | refine w_catL (by walk_at "sc") ?_
    refine ea_cons ?_
    refine e_bin ?_
    refine e_callX c__law_take hr (by rfl) ?_
    refine ea_cons ?_
    refine e_v 0 ?_
    refine ea_cons ?_
    refine e_int ?_
    refine ea_nil ?_
    refine ⟨_, rfl, rfl, ?_⟩
    refine u_take (by walk_at "sc") ?_
    intro v6 va6 vb6
    refine e_int ?_
    refine w_sub ?_
    refine ea_cons ?_
    refine e_bin ?_
    refine e_int ?_
    refine e_callX c__law_take hr (by rfl) ?_
    refine ea_cons ?_
    refine e_v 0 ?_
    refine ea_cons ?_
    refine e_int ?_
    refine ea_nil ?_
    refine ⟨_, rfl, rfl, ?_⟩
    refine u_take (by walk_at "sc") ?_
    intro v7 va7 vb7
    first | refine w_add ?_ | refine w_catT (by walk_at "sc") ?_ | refine w_addS (by walk_at "sc") ?_ | refine w_catL (by walk_at "sc") ?_
    refine ea_nil ?_
    refine ⟨Nat.le_of_ble_eq_true rfl, ?_⟩
    refine hq [1 + v5, v6 - 2, 1 + v7] (Nat.le_of_ble_eq_true rfl) fun x hx => ?_
    simp only [List.mem_cons, List.not_mem_nil, or_false] at hx
    rcases hx with h | h | h <;> omega
  refine s_nil ?_
  refine s_one (s_ret ?_)
  refine e_lst ?_
  refine ea_cons ?_
  refine e_un ?_
  refine e_callX c__law_take hr (by rfl) ?_
  refine ea_cons ?_
  refine e_v 0 ?_
  refine ea_cons ?_
  refine e_int ?_
  refine ea_nil ?_
  refine ⟨_, rfl, rfl, ?_⟩
  refine u_take (by walk_at "sc") ?_
  intro v8 va8 vb8
  refine w_neg ?_
  refine ea_cons ?_
  refine e_bin ?_
  refine e_int ?_
  refine e_callX c__law_take hr (by rfl) ?_
  refine ea_cons ?_
  refine e_v 0 ?_
  refine ea_cons ?_
  refine e_int ?_
  refine ea_nil ?_
  refine ⟨_, rfl, rfl, ?_⟩
  refine u_take (by walk_at "sc") ?_
  intro v9 va9 vb9
  first | refine w_add ?_ | refine w_catT (by walk_at "sc") ?_ | refine w_addS (by walk_at "sc") ?_ | refine w_catL (by walk_at "sc") ?_
  refine ea_nil ?_
  refine ⟨Nat.le_of_ble_eq_true rfl, ?_⟩
  refine hq [-v8, 1 + v9] (Nat.le_of_ble_eq_true rfl) fun x hx => ?_
  simp only [List.mem_cons, List.not_mem_nil, or_false] at hx
  rcases hx with h | h <;> omega

def isIntD : Dt → Bool
  | .int _ => true
  | _ => false
def ph__law_is_integer : Ph := fun ds q _ => ∃ d, ds = [d] ∧ (∃ i, d = .int i) ∧ q (.bl true)
theorem u__law_is_integer {i : Int} {q : Dt → Prop} {x : XD} (_ : True) (p : q (.bl true)) : ph__law_is_integer [.int i] q x := ⟨_, rfl, ⟨i, rfl⟩, p⟩
abbrev s__law_is_integer : Stmt := topS 43
abbrev N__law_is_integer : List Str := ["_law_value"]
theorem sc__law_is_integer : FnScope N__law_is_integer ["_law_value"] (defScope s__law_is_integer) := ⟨rfl, rfl, rfl, by decide +kernel, rfl, by decide +kernel, by decide +kernel⟩
theorem ok__law_is_integer {f : Addr} {fd : FuncData} {k : Nat} {dvs : List V} {kws : List (Str × V)} (F : FD K "_law_is_integer" "_law_is_integer" s__law_is_integer dvs kws f fd) (m_bool : mg "bool" = none) (m_int : mg "int" = none) (m_isinstance : mg "isinstance" = none) : FnOk P w K mg base (L2.CX P w) (k + 1) f fd ["_law_value"] (spD K 1 ph__law_is_integer) := by
  refine fn_ok F sc__law_is_integer rfl fun X cdv A outer s H E ds q xd hX hr hph hl Fr wf xok => ?_
  subst hX
  obtain ⟨d, rfl, ⟨i, rfl⟩, hq⟩ := hph
  show S _ _ _ [_] _
  refine s_cons (s_ret ?_)
  refine' e_andD ?ha13 (fun hb => ?hb13) ?hc13
  case ha13 =>
    refine e_callB (id := "isinstance") (by rfl) m_isinstance b_isinstance ?_
    refine ea_cons ?_
    refine e_v 0 ?_
    refine ea_cons ?_
    refine e_ty (by rfl) m_int b_int ?_
    refine ea_nil ?_
    first | refine wc_isi tyd_int kt_int_int ?_ | refine wc_isi tyd_bl kt_bool_int ?_ | refine wc_isi tyd_tup kt_tuple_int ?_ | refine wc_isi tyd_lst kt_list_int ?_ | refine wc_isi tyd_str kt_str_int ?_ | refine wc_isi tyd_non kt_NoneType_int ?_
    exact rfl
  case hb13 =>
    refine e_one ?_
    refine e_not ?_
    refine e_callB (id := "isinstance") (by rfl) m_isinstance b_isinstance ?_
    refine ea_cons ?_
    refine e_v 0 ?_
    refine ea_cons ?_
    refine e_ty (by rfl) m_bool b_bool ?_
    refine ea_nil ?_
    first | refine wc_isi tyd_int kt_int_bool ?_ | refine wc_isi tyd_bl kt_bool_bool ?_ | refine wc_isi tyd_tup kt_tuple_bool ?_ | refine wc_isi tyd_lst kt_list_bool ?_ | refine wc_isi tyd_str kt_str_bool ?_ | refine wc_isi tyd_non kt_NoneType_bool ?_
    refine ⟨_, rfl, ?_⟩
    exact rfl
  exact hq

abbrev s__law_row : Stmt := topS 44
abbrev N__law_row : List Str := ["_law_poly_here", "_law_x"]
theorem sc__law_row : FnScope N__law_row ["_law_poly_here"] (defScope s__law_row) := ⟨rfl, rfl, rfl, by decide +kernel, rfl, by decide +kernel, by decide +kernel⟩
theorem ok__law_row {f : Addr} {fd : FuncData} {k : Nat} {dvs : List V} {kws : List (Str × V)} {C_Poly : Addr} (F : FD K "_law_row" "_law_row" s__law_row dvs kws f fd) (m_isinstance : mg "isinstance" = none) (m_len : mg "len" = none) (m_list : mg "list" = none) (m_tuple : mg "tuple" = none) (c__law_is_integer : Fn P w K mg base k "_law_is_integer" ["_law_value"] [] (spD K 1 ph__law_is_integer)) (g_Poly : mg "Poly" = some (.ref C_Poly)) (pc_Poly : PolyC K C_Poly) : FnOk P w K mg base (L2.CX P w) (k + 1) f fd ["_law_poly_here"] (spD K 1 (ph__law_row C_Poly)) := by
  refine fn_ok F sc__law_row rfl fun X cdv A outer s H E ds q xd hX hr hph hl Fr wf xok => ?_
  subst hX
  obtain ⟨l, rfl, ⟨ht, hlen⟩, hq⟩ := hph
  show S _ _ _ [_, _] _
  show S _ _ _ [.sh (.obj C_Poly ["coefs"] [.tup (l.map .int)]), .no] _
  refine s_cons (s_if ?_)
  refine TW.t ?_
  refine' tw_orD ?ha14 (fun hb => ?hb14) ?hc14
  case ha14 =>
    refine t_not ?_
    refine t_val ?_
    refine e_callB (id := "isinstance") (by rfl) m_isinstance b_isinstance ?_
    refine ea_cons ?_
    refine e_v 0 ?_
    refine ea_cons ?_
    refine e_cls (by rfl) g_Poly ?_
    refine ea_nil ?_
    first | refine wc_isiC (pc_Poly.ty _ _) pc_Poly.self ?_ | refine wc_isiC tyd_int (pc_Poly.no "int" (by decide)).1 ?_ | refine wc_isiC tyd_bl (pc_Poly.no "bool" (by decide)).1 ?_ | refine wc_isiC tyd_tup (pc_Poly.no "tuple" (by decide)).1 ?_ | refine wc_isiC tyd_lst (pc_Poly.no "list" (by decide)).1 ?_ | refine wc_isiC tyd_str (pc_Poly.no "str" (by decide)).1 ?_ | refine wc_isiC tyd_non (pc_Poly.no "NoneType" (by decide)).1 ?_
    refine ⟨_, rfl, ?_⟩
    exact rfl
  case hb14 =>
    refine tw_or1 ?_
    refine t_not ?_
    refine t_val ?_
    refine e_callB (id := "isinstance") (by rfl) m_isinstance b_isinstance ?_
    refine ea_cons ?_
    refine e_fld ?_
    refine e_v 0 ?_
    refine ⟨_, _, _, _, rfl, pc_Poly.cl, pc_Poly.na_coefs, rfl, ?_⟩
    refine ea_cons ?_
    refine e_ty (by rfl) m_tuple b_tuple ?_
    refine ea_nil ?_
    first | refine wc_isi tyd_int kt_int_tuple ?_ | refine wc_isi tyd_bl kt_bool_tuple ?_ | refine wc_isi tyd_tup kt_tuple_tuple ?_ | refine wc_isi tyd_lst kt_list_tuple ?_ | refine wc_isi tyd_str kt_str_tuple ?_ | refine wc_isi tyd_non kt_NoneType_tuple ?_
    refine ⟨_, rfl, ?_⟩
    exact rfl
  refine ite_f rfl ?_
  refine s_nil ?_
  refine s_cons (s_for (passes_of rfl) rfl ?_)
  refine i_tup ?_
  refine e_fld ?_
  refine e_v 0 ?_
  refine ⟨_, _, _, _, rfl, pc_Poly.cl, pc_Poly.na_coefs, rfl, ?_⟩
  refine ⟨_, rfl, ?_⟩
  refine ⟨fun i G => ∃ g, G = [.sh (.obj C_Poly ["coefs"] [.tup (l.map .int)]), g], ⟨_, rfl⟩, ?_, ?_⟩
  · rintro i d G hd ⟨g, rfl⟩
    obtain ⟨hi, rfl⟩ := get_intL hd
    refine ⟨_, (a_n 1 sc__law_row.nd), ?_⟩
    show S _ _ _ [_, _] _
    refine s_one (s_if ?_)
    refine t_not ?_
    refine t_val ?_
    refine e_call (dds := []) c__law_is_integer hr (by rfl) (fun _ => .nil) ?_
    refine ea_cons ?_
    refine e_v 1 ?_
    refine ea_nil ?_
    refine ⟨rfl, ?_⟩
    refine u__law_is_integer (by walk_at "sc") ?_
    refine ⟨_, rfl, ?_⟩
    refine ite_f rfl ?_
    exact s_nil ⟨_, rfl⟩
  · rintro G ⟨g, rfl⟩
    refine s_cons (s_if ?_)
    refine TW.t ?_
    refine' tw_andD ?ha15 (fun hb => ?hb15) ?hc15
    case ha15 =>
      refine t_cmp ?_
      refine e_callB (id := "len") (by rfl) m_len b_len ?_
      refine ea_cons ?_
      refine e_fld ?_
      refine e_v 0 ?_
      refine ⟨_, _, _, _, rfl, pc_Poly.cl, pc_Poly.na_coefs, rfl, ?_⟩
      refine ea_nil ?_
      first | refine wc_len_lst ?_ | refine wc_len_tup ?_ | refine wc_len_str (by walk_at "sc") ?_ | refine wc_lenc (fun hn63 => ?_)
      refine e_int ?_
      refine w_gt ?_
      refine ⟨_, rfl, ?_⟩
      exact rfl
    case hb15 =>
      refine tw_and1 ?_
      refine t_cmp ?_
      refine e_ix ?_
      refine e_fld ?_
      refine e_v 0 ?_
      refine ⟨_, _, _, _, rfl, pc_Poly.cl, pc_Poly.na_coefs, rfl, ?_⟩
      refine e_un ?_
      refine e_int ?_
      refine w_neg ?_
      (have hb' := of_decide_eq_true hb; rw [List.length_map] at hb'; refine wi_tup (at_last (by omega)) ?_)
      refine e_int ?_
      first | refine w_eqI ?_ | refine w_eqT ?_ | refine w_eqB ?_ | refine w_eqD hr.units (by walk_at "ok") (by walk_at "ok") ?_
      refine ⟨_, rfl, ?_⟩
      exact rfl
    refine ite_f ?_ ?_
    · by_cases h0 : l = []
      · subst h0; rfl
      · rw [decide_eq_false (tr_last ht h0), Bool.and_false]
    · refine s_nil ?_
      refine s_cons (s_ret ?_)
      refine e_callTy (id := "list") (by rfl) m_list b_list ?_
      refine ea_cons ?_
      refine e_fld ?_
      refine e_v 0 ?_
      refine ⟨_, _, _, _, rfl, pc_Poly.cl, pc_Poly.na_coefs, rfl, ?_⟩
      refine ea_nil ?_
      first | refine wc_list_lst ?_ | refine wc_list_tup ?_
      exact hq

abbrev s__law_gcd : Stmt := topS 45
abbrev N__law_gcd : List Str := ["_law_a", "_law_b"]
theorem sc__law_gcd : FnScope N__law_gcd ["_law_a", "_law_b"] (defScope s__law_gcd) := ⟨rfl, rfl, rfl, by decide +kernel, rfl, by decide +kernel, by decide +kernel⟩
theorem ok__law_gcd {f : Addr} {fd : FuncData} {k : Nat} {dvs : List V} {kws : List (Str × V)} (F : FD K "_law_gcd" "_law_gcd" s__law_gcd dvs kws f fd) (m_abs : mg "abs" = none) (m_int : mg "int" = none) : FnOk P w K mg base (L2.CX P w) (k + 1) f fd ["_law_a", "_law_b"] (spD K 2 ph_gcd) := by
  refine fn_ok F sc__law_gcd rfl fun X cdv A outer s H E ds q xd hX hr hph hl Fr wf xok => ?_
  subst hX
  obtain ⟨a, b, rfl, hq⟩ := hph
  show S _ _ _ [_, _] _
  refine s_cons (s_a 0 sc__law_gcd.nd ?_)
  refine e_callB (id := "abs") (by rfl) m_abs b_abs ?_
  refine ea_cons ?_
  refine e_v 0 ?_
  refine ea_nil ?_
  refine wc_abs ?_
  show S _ _ _ [_, _] _
  refine s_cons (s_a 1 sc__law_gcd.nd ?_)
  refine e_callB (id := "abs") (by rfl) m_abs b_abs ?_
  refine ea_cons ?_
  refine e_v 1 ?_
  refine ea_nil ?_
  refine wc_abs ?_
  show S _ _ _ [_, _] _
  refine s_cons (s_while (fun m G => ∃ x y : Nat, m = y ∧ G = [.sh (.int (x : Int)), .sh (.int (y : Int))] ∧ Nat.gcd x y = Int.gcd a b) b.natAbs ⟨a.natAbs, b.natAbs, rfl, rfl, rfl⟩ (passes_of rfl) fun m G hI => ?_)
  obtain ⟨x, y, rfl, rfl, hg⟩ := hI
  refine t_cmp ?_
  refine e_v 1 ?_
  refine e_int ?_
  refine w_gt ?_
  refine ⟨_, rfl, ?_⟩
  refine ite_b (fun h => ?_) (fun h => ?_)
  · have h' : (0 : Int) < (m : Int) := of_decide_eq_true h
    refine s_one (s_par 0 1 rfl sc__law_gcd.nd rfl rfl (by decide) rfl rfl ?_ (by rfl))
    refine ea_cons ?_
    refine e_v 1 ?_
    refine ea_cons ?_
    refine e_bin ?_
    refine e_callTy (id := "int") (by rfl) m_int b_int ?_
    refine ea_cons ?_
    refine e_v 0 ?_
    refine ea_nil ?_
    first | refine wc_int ?_ | refine wc_intB ?_ | refine wc_intS (by walk_at "sc") (by walk_at "sc") ?_
    refine e_v 1 ?_
    first | refine w_mod (by decide) ?_ | refine w_mod (by walk_at "sc") ?_ | refine w_modN (by walk_at "sc") ?_
    refine ea_nil ?_
    refine ⟨_, _, rfl, ?_⟩
    refine ⟨x % m, Nat.mod_lt _ (by omega), m, x % m, rfl, rfl, ?_⟩
    rw [← hg, Nat.gcd_comm x m, Nat.gcd_rec m x, Nat.gcd_comm]
  · have h' : ¬ (0 : Int) < (m : Int) := of_decide_eq_false h
    have hm : m = 0 := by omega
    subst hm
    refine s_cons (s_ret ?_)
    refine e_v 0 ?_
    rw [Nat.gcd_zero_right] at hg
    rw [← hg] at hq
    exact hq

abbrev s__law_primitive : Stmt := topS 46
abbrev N__law_primitive : List Str := ["_law_row_here", "_law_divisor", "_law_x"]
theorem sc__law_primitive : FnScope N__law_primitive ["_law_row_here"] (defScope s__law_primitive) := ⟨rfl, rfl, rfl, by decide +kernel, rfl, by decide +kernel, by decide +kernel⟩
theorem ok__law_primitive {f : Addr} {fd : FuncData} {k : Nat} {dvs : List V} {kws : List (Str × V)} (F : FD K "_law_primitive" "_law_primitive" s__law_primitive dvs kws f fd) (m_max : mg "max" = none) (c__law_gcd : Fn P w K mg base k "_law_gcd" ["_law_a", "_law_b"] [] (spD K 2 ph_gcd)) : FnOk P w K mg base (L2.CX P w) (k + 1) f fd ["_law_row_here"] (spD K 1 ph__law_primitive) := by
  refine fn_ok F sc__law_primitive rfl fun X cdv A outer s H E ds q xd hX hr hph hl Fr wf xok => ?_
  subst hX
  obtain ⟨l, rfl, ⟨hlen, hs⟩, hq⟩ := hph
  show S _ _ _ [_, _, _] _
  show S _ _ _ [.sh (.lst (l.map .int)), .no, .no] _
  refine s_cons (s_a 1 sc__law_primitive.nd ?_)
  refine e_int ?_
  show S _ _ _ [_, _, _] _
  refine s_cut (fun G => ∃ g2 : Sl, G = [.sh (.lst (l.map .int)), .sh (.int (gcdA l)), g2]) (s_for (passes_of rfl) rfl (i_lst ?_)) ?_
  · refine e_v 0 ?_
    refine ⟨_, rfl, ?_⟩
    refine ⟨fun i G => ∃ g2 : Sl, G = [.sh (.lst (l.map .int)), .sh (.int (gcdA (l.take i))), g2], ⟨_, rfl⟩, ?_, ?_⟩
    · rintro i d G hd ⟨g2, rfl⟩
      obtain ⟨hi, rfl⟩ := get_intL hd
      have eT : gcdA (l.take (i + 1)) = (Int.gcd (gcdA (l.take i)) (cf l i) : Int) := by rw [take_succ' (cf_lt hi), gcdA_snoc]
      refine ⟨_, (a_n 2 sc__law_primitive.nd), ?_⟩
      show S _ _ _ [_, _, _] _
      refine s_one (s_a 1 sc__law_primitive.nd ?_)
      refine e_call (dds := []) c__law_gcd hr (by rfl) (fun _ => .nil) ?_
      refine ea_cons ?_
      refine e_v 1 ?_
      refine ea_cons ?_
      refine e_v 2 ?_
      refine ea_nil ?_
      refine ⟨rfl, ?_⟩
      refine u_gcd (by walk_at "sc") ?_
      exact ⟨_, by rw [eT]; rfl⟩
    · rintro G ⟨g2, rfl⟩
      rw [List.length_map, List.take_length]
      exact ⟨_, rfl⟩
  rintro G ⟨g2, rfl⟩
  have hg := gcdA_lt hs
  have hgn := gcdA_nn l
  have hdv : ∀ x : Int, CDivW x (max 1 (gcdA l)) := fun x => wide_div (b := 8001) (by omega) (by
    have h1 : (1 : Nat) ≤ 2 ^ 8000 := Nat.two_pow_pos _
    have : (max 1 (gcdA l)).natAbs ≤ max 1 (gcdA l).natAbs := by omega
    rw [Nat.pow_succ]
    omega) (by decide) (by decide)
  refine s_one (s_ret ?_)
  refine e_lc (own := [("_law_x", 2)]) rfl sc__law_primitive.nd (blkOk_by (N := N__law_primitive) (sc := defScope s__law_primitive) (by decide +kernel)) ?_
  refine i_lst ?_
  refine e_v 0 ?_
  refine ⟨_, rfl, ?_⟩
  refine' ⟨?lcl16, _, lc_of (l) (Dt.int) (fun x => Dt.int (x / max 1 (gcdA l))) (fun x => [(2, Dt.int x)]) ?lct16 ?lcm16 ?lce16, ?lcc16⟩
  case lcl16 =>
    rw [List.length_map]; omega
  case lct16 =>
    rintro t ht Y ⟨s', H', C, cl, fp, rfl⟩
    exact (a_n 2 sc__law_primitive.nd)
  case lcm16 =>
    intro t p hp
    simp at hp
    simp [hp]
  case lce16 =>
    rintro t ht Y ⟨s', H', C, cl, fp, rfl⟩
    have hdq := hdv t
    refine e_bin ?_
    refine e_v 2 ?_
    refine e_callB (id := "max") (by rfl) m_max b_max ?_
    refine ea_cons ?_
    refine e_int ?_
    refine ea_cons ?_
    refine e_v 1 ?_
    refine ea_nil ?_
    refine wc_max rfl ?_
    refine w_div hdq ?_
    rfl
  rintro acc rfl
  rw [take_map_all]
  rw [show (l.map fun x => Dt.int (x / max 1 (gcdA l))) = (lprL l).map Dt.int by unfold lprL; rw [List.map_map]; rfl]
  exact hq

abbrev s__law_divides : Stmt := topS 47
abbrev N__law_divides : List Str := ["_law_row_here", "_law_part", "_law_rest", "_law_lower", "_law_factor_here", "_law_k"]
theorem sc__law_divides : FnScope N__law_divides ["_law_row_here", "_law_part"] (defScope s__law_divides) := ⟨rfl, rfl, rfl, by decide +kernel, rfl, by decide +kernel, by decide +kernel⟩
theorem ok__law_divides {f : Addr} {fd : FuncData} {k : Nat} {dvs : List V} {kws : List (Str × V)} (F : FD K "_law_divides" "_law_divides" s__law_divides dvs kws f fd) (m_int : mg "int" = none) (m_len : mg "len" = none) (m_list : mg "list" = none) (m_range : mg "range" = none) (c__law_trim : Fn P w K mg base k "_law_trim" ["_law_row_here"] [] (spD K 1 ph__law_trim)) : FnOk P w K mg base (L2.CX P w) (k + 1) f fd ["_law_row_here", "_law_part"] (spD K 2 ph__law_dividesP) := by
  refine fn_ok F sc__law_divides rfl fun X cdv A outer s H E ds q xd hX hr hph hl Fr wf xok => ?_
  subst hX
  obtain ⟨a, b, rfl, ⟨ha, hb, hbn, la, lb, sa, sb, hno⟩, hq⟩ := hph
  have hbp := List.length_pos_iff.mpr hbn
  have hlb : cf b (b.length - 1) ≠ 0 := tr_last hb hbn
  show S _ _ _ [_, _, _, _, _, _] _
  show S _ _ _ [.sh (.lst (a.map .int)), .sh (.lst (b.map .int)), .no, .no, .no, .no] _
  refine s_cons (s_a 2 sc__law_divides.nd ?_)
  refine e_callTy (id := "list") (by rfl) m_list b_list ?_
  refine ea_cons ?_
  refine e_v 0 ?_
  refine ea_nil ?_
  first | refine wc_list_lst ?_ | refine wc_list_tup ?_
  show S _ _ _ [_, _, _, _, _, _] _
  refine s_cons (s_while (fun m G => ∃ (r : List Int) (g3 g4 g5 : Sl), m = r.length ∧ G = [.sh (.lst (a.map .int)), .sh (.lst (b.map .int)), .sh (iL r), g3, g4, g5] ∧ Tr r ∧ r.length ≤ a.length ∧ SzL (4000 + (a.length - r.length) * 101) r ∧ ∃ Q : PX.Pl, PX.ofL a = Q * PX.ofL b + PX.ofL r) a.length ⟨a, _, _, _, rfl, rfl, ha, Nat.le_refl _, by rw [Nat.sub_self, Nat.zero_mul]; exact sa, 0, by grind⟩ (passes_of rfl) fun m G hI => ?_)
  obtain ⟨r, g3, g4, g5, rfl, rfl, htr, hrl, sr, Q, e⟩ := hI
  refine t_cmp ?_
  refine e_callB (id := "len") (by rfl) m_len b_len ?_
  refine ea_cons ?_
  refine e_v 2 ?_
  refine ea_nil ?_
  first | refine wc_len_lst ?_ | refine wc_len_tup ?_ | refine wc_len_str (by walk_at "sc") ?_ | refine wc_lenc (fun hn63 => ?_)
  refine e_callB (id := "len") (by rfl) m_len b_len ?_
  refine ea_cons ?_
  refine e_v 1 ?_
  refine ea_nil ?_
  first | refine wc_len_lst ?_ | refine wc_len_tup ?_ | refine wc_len_str (by walk_at "sc") ?_ | refine wc_lenc (fun hn63 => ?_)
  refine w_ge ?_
  refine ⟨_, rfl, ?_⟩
  rw [List.length_map, List.length_map]
  refine ite_b (fun h => ?_) (fun h => ?_)
  · have h' : b.length ≤ r.length := by have := of_decide_eq_true h; omega
    have hrn : r ≠ [] := fun z => by rw [z, List.length_nil] at h'; omega
    have hmul : (a.length - r.length) * 101 ≤ 100 * 101 := Nat.mul_le_mul_right _ (by omega)
    refine s_cons (s_if ?_)
    refine t_cmp ?_
    refine e_bin ?_
    refine e_callTy (id := "int") (by rfl) m_int b_int ?_
    refine ea_cons ?_
    refine e_ix ?_
    refine e_v 2 ?_
    refine e_un ?_
    refine e_int ?_
    refine w_neg ?_
    refine wi_lst (at_top hrn) ?_
    refine ea_nil ?_
    first | refine wc_int ?_ | refine wc_intB ?_ | refine wc_intS (by walk_at "sc") (by walk_at "sc") ?_
    refine e_ix ?_
    refine e_v 1 ?_
    refine e_un ?_
    refine e_int ?_
    refine w_neg ?_
    refine wi_lst (at_top hbn) ?_
    refine w_modN hlb ?_
    refine e_int ?_
    first | refine w_neI ?_ | refine w_neT ?_ | refine w_neB ?_ | refine w_neD hr.units (by walk_at "ok") (by walk_at "ok") ?_
    refine ⟨_, rfl, ?_⟩
    refine ite_b (fun h3 => ?_) (fun h3 => ?_)
    · refine s_one (s_ret ?_)
      refine e_bool ?_
      exact hq
    have hm0 : (cf r (r.length - 1)).fmod (cf b (b.length - 1)) = 0 := by simpa using h3
    have hf : cf r (r.length - 1) = (cf r (r.length - 1)).fdiv (cf b (b.length - 1)) * cf b (b.length - 1) := by
      have := Int.fmod_add_fdiv_mul (cf r (r.length - 1)) (cf b (b.length - 1))
      rw [hm0, Int.zero_add] at this
      exact this.symm
    have fsz := fdiv_sz (cf_sz sr (r.length - 1)) hm0 hlb
    obtain ⟨f', hfd⟩ : ∃ f', f' = (cf r (r.length - 1)).fdiv (cf b (b.length - 1)) := ⟨_, rfl⟩
    rw [← hfd] at hf fsz
    have hda : CDivA (cf r (r.length - 1)) (cf b (b.length - 1)) := divA_ok (a := 100) hlb (cf_sz sb _) rfl
    obtain ⟨st1, st2⟩ := dv_spec (f := f') hbn h' hf
    refine s_nil ?_
    have rp : (((r.map Dt.int).length : Nat) : Int) - (((b.map Dt.int).length : Nat) : Int) = ((r.length - b.length : Nat) : Int) := by rw [List.length_map, List.length_map]; omega
    have rb1 : -(2 ^ 62) ≤ (((r.map Dt.int).length : Nat) : Int) - (((b.map Dt.int).length : Nat) : Int) := by rw [rp]; omega
    have rb2 : (((r.map Dt.int).length : Nat) : Int) - (((b.map Dt.int).length : Nat) : Int) < 2 ^ 62 := by rw [rp]; omega
    refine s_cons (s_a 3 sc__law_divides.nd ?_)
    refine e_bin ?_
    refine e_lc (own := [("_law_k", 5)]) rfl sc__law_divides.nd (blkOk_by (N := N__law_divides) (sc := defScope s__law_divides) (by decide +kernel)) ?_
    refine i_range1 (by rfl) m_range ?_
    refine ea_cons ?_
    refine e_bin ?_
    refine e_callB (id := "len") (by rfl) m_len b_len ?_
    refine ea_cons ?_
    refine e_v 2 ?_
    refine ea_nil ?_
    first | refine wc_len_lst ?_ | refine wc_len_tup ?_ | refine wc_len_str (by walk_at "sc") ?_ | refine wc_lenc (fun hn63 => ?_)
    refine e_callB (id := "len") (by rfl) m_len b_len ?_
    refine ea_cons ?_
    refine e_v 1 ?_
    refine ea_nil ?_
    first | refine wc_len_lst ?_ | refine wc_len_tup ?_ | refine wc_len_str (by walk_at "sc") ?_ | refine wc_lenc (fun hn63 => ?_)
    refine w_sub ?_
    refine ea_nil ?_
    refine ⟨_, rfl, by walk_at "sc", by walk_at "sc", ?_⟩
    rw [rp, rangeD_nat]
    refine' ⟨?lcl17, _, lc_of (List.range (r.length - b.length)) (fun i => Dt.int ((i : Nat) : Int)) (fun _ => Dt.int 0) (fun i => [(5, Dt.int ((i : Nat) : Int))]) ?lct17 ?lcm17 ?lce17, ?lcc17⟩
    case lcl17 =>
      rw [List.length_map, List.length_range]; omega
    case lct17 =>
      rintro t ht Y ⟨s', H', C, cl, fp, rfl⟩
      exact (a_n 5 sc__law_divides.nd)
    case lcm17 =>
      intro t p hp
      simp at hp
      simp [hp]
    case lce17 =>
      rintro t ht Y ⟨s', H', C, cl, fp, rfl⟩
      refine e_int ?_
      rfl
    rintro acc rfl
    rw [take_map_all]
    rw [show ((List.range (r.length - b.length)).map fun _ => Dt.int 0) = (List.replicate (r.length - b.length) 0).map Dt.int by rw [List.map_const', List.length_range, List.map_replicate]]
    refine e_v 1 ?_
    refine w_catL (by simp only [List.length_map, List.length_replicate]; omega) ?_
    rw [← List.map_append, show List.replicate (r.length - b.length) 0 ++ b = lowL r b from rfl]
    show S _ _ _ [_, _, _, _, _, _] _
    refine s_cons (s_a 4 sc__law_divides.nd ?_)
    refine e_bin ?_
    refine e_ix ?_
    refine e_v 2 ?_
    refine e_un ?_
    refine e_int ?_
    refine w_neg ?_
    refine wi_lst (at_top hrn) ?_
    refine e_ix ?_
    refine e_v 1 ?_
    refine e_un ?_
    refine e_int ?_
    refine w_neg ?_
    refine wi_lst (at_top hbn) ?_
    (refine w_divA hda ?_; rw [← hfd])
    show S _ _ _ [_, _, _, _, _, _] _
    have ll := low_len h'
    have lz : (dvL r b f').length ≤ 100000 := by unfold dvL; rw [List.length_map, List.length_range]; omega
    have rc1 : -(2 ^ 62) ≤ (((r.map Dt.int).length : Nat) : Int) := by omega
    have rc2 : (((r.map Dt.int).length : Nat) : Int) < 2 ^ 62 := by rw [List.length_map]; omega
    refine s_one (s_a 2 sc__law_divides.nd ?_)
    refine e_call (dds := []) c__law_trim hr (by rfl) (fun _ => .nil) ?_
    refine ea_cons ?_
    refine e_lc (own := [("_law_k", 5)]) rfl sc__law_divides.nd (blkOk_by (N := N__law_divides) (sc := defScope s__law_divides) (by decide +kernel)) ?_
    refine i_range1 (by rfl) m_range ?_
    refine ea_cons ?_
    refine e_callB (id := "len") (by rfl) m_len b_len ?_
    refine ea_cons ?_
    refine e_v 2 ?_
    refine ea_nil ?_
    first | refine wc_len_lst ?_ | refine wc_len_tup ?_ | refine wc_len_str (by walk_at "sc") ?_ | refine wc_lenc (fun hn63 => ?_)
    refine ea_nil ?_
    refine ⟨_, rfl, by walk_at "sc", by walk_at "sc", ?_⟩
    rw [List.length_map, rangeD_nat]
    refine' ⟨?lcl18, _, lc_of (List.range r.length) (fun i => Dt.int ((i : Nat) : Int)) (fun i => .int (cf r i - f' * cf (lowL r b) i)) (fun i => [(5, Dt.int ((i : Nat) : Int))]) ?lct18 ?lcm18 ?lce18, ?lcc18⟩
    case lcl18 =>
      rw [List.length_map, List.length_range]; omega
    case lct18 =>
      rintro t ht Y ⟨s', H', C, cl, fp, rfl⟩
      exact (a_n 5 sc__law_divides.nd)
    case lcm18 =>
      intro t p hp
      simp at hp
      simp [hp]
    case lce18 =>
      rintro t ht Y ⟨s', H', C, cl, fp, rfl⟩
      have hi := List.mem_range.mp ht
      have mm := mulOk fsz (low_sz (r := r) sb t) (by omega)
      refine e_bin ?_
      refine e_ix ?_
      refine e_v 2 ?_
      refine e_v 5 ?_
      refine wi_lst (at_cf rfl hi) ?_
      refine e_bin ?_
      refine e_v 4 ?_
      refine e_ix ?_
      refine e_v 3 ?_
      refine e_v 5 ?_
      refine wi_lst (at_cf rfl (by omega)) ?_
      refine w_mul mm ?_
      refine w_sub ?_
      rfl
    rintro acc rfl
    rw [take_map_all]
    rw [map_int (fun i : Nat => cf r i - f' * cf (lowL r b) i)]
    refine ea_nil ?_
    refine ⟨rfl, ?_⟩
    refine u__law_trim (l := dvL r b f') lz ?_
    have hle : (trimL (dvL r b f')).length + 1 ≤ r.length := st2
    refine ⟨(trimL (dvL r b f')).length, st2, trimL (dvL r b f'), _, _, _, rfl, rfl, tr_trim _, by omega, ?_, Q + PX.Pl.C f' * PX.X ^ (r.length - b.length), ?_⟩
    · refine ((dv_sz sr sb fsz).trim).up ?_
      have : (a.length - r.length + 1) * 101 ≤ (a.length - (trimL (dvL r b f')).length) * 101 := Nat.mul_le_mul_right _ (by omega)
      omega
    · rw [pl_trim, st1]
      generalize PX.X ^ (r.length - b.length) = xk
      grind
  · have hrn : r ≠ [] := fun z => hno (by rw [z, pl_nil] at e; exact ⟨Q, by rw [e]; grind⟩)
    refine s_cons (s_ret ?_)
    refine e_cmp ?_
    refine e_v 2 ?_
    refine e_lst ?_
    refine ea_nil ?_
    refine ⟨Nat.le_of_ble_eq_true rfl, ?_⟩
    refine w_eqD hr.units (ok_ints _) (ok_ints []) ?_
    have : eqD (iL r) (Dt.lst []) = false := by
      show eqD (Dt.lst (r.map Dt.int)) (Dt.lst (([] : List Int).map Dt.int)) = false
      rw [eqD_ints]
      simpa using hrn
    rw [this]
    exact hq

abbrev s__law_double_root : Stmt := topS 48
abbrev N__law_double_root : List Str := ["_law_row_here", "_law_slopes", "_law_top", "_law_bottom", "_law_value", "_law_slope", "_law_scale", "_law_k"]
theorem sc__law_double_root : FnScope N__law_double_root ["_law_row_here"] (defScope s__law_double_root) := ⟨rfl, rfl, rfl, by decide +kernel, rfl, by decide +kernel, by decide +kernel⟩
theorem ok__law_double_root {f : Addr} {fd : FuncData} {k : Nat} {dvs : List V} {kws : List (Str × V)} (F : FD K "_law_double_root" "_law_double_root" s__law_double_root dvs kws f fd) (m_len : mg "len" = none) (m_range : mg "range" = none) : FnOk P w K mg base (L2.CX P w) (k + 1) f fd ["_law_row_here"] (spD K 1 ph__law_double_root) := by
  refine fn_ok F sc__law_double_root rfl fun X cdv A outer s H E ds q xd hX hr hph hl Fr wf xok => ?_
  subst hX
  obtain ⟨l, rfl, ⟨htl, hlen, hs, hnd⟩, hq⟩ := hph
  have hdl := derL_len l
  have hds := derL_sz hs (by omega)
  show S _ _ _ [_, _, _, _, _, _, _, _] _
  show S _ _ _ [.sh (.lst (l.map .int)), .no, .no, .no, .no, .no, .no, .no] _
  have h12 : -(2 ^ 62) ≤ (1 : Int) ∧ (1 : Int) < 2 ^ 62 ∧ -(2 ^ 62) ≤ ((l.map Dt.int).length : Int) ∧ ((l.map Dt.int).length : Int) < 2 ^ 62 := ⟨by decide, by decide, by omega, by rw [List.length_map]; omega⟩
  refine s_cons (s_lc 1 (own := [("_law_k", 7)]) rfl sc__law_double_root.nd rfl rfl (sw_true rfl rfl rfl (by decide +kernel)) (blkOk_by (N := N__law_double_root) (sc := defScope s__law_double_root) (by decide +kernel)) ?_)
  refine i_range2 (by rfl) m_range ?_
  refine ea_cons ?_
  refine e_int ?_
  refine ea_cons ?_
  refine e_callB (id := "len") (by rfl) m_len b_len ?_
  refine ea_cons ?_
  refine e_v 0 ?_
  refine ea_nil ?_
  first | refine wc_len_lst ?_ | refine wc_len_tup ?_ | refine wc_len_str (by walk_at "sc") ?_ | refine wc_lenc (fun hn63 => ?_)
  refine ea_nil ?_
  refine ⟨_, _, rfl, by walk_at "sc", ?_⟩
  rw [List.length_map, rangeD_one]
  refine' ⟨?lcl19, _, lc_of (List.range (l.length - 1)) (fun i => Dt.int (1 + ((i : Nat) : Int))) (fun i => .int ((1 + ((i : Nat) : Int)) * cf l (1 + i))) (fun i => [(7, Dt.int (1 + ((i : Nat) : Int)))]) ?lct19 ?lcm19 ?lce19, ?lcc19⟩
  case lcl19 =>
    rw [List.length_map, List.length_range]; omega
  case lct19 =>
    rintro t ht Y ⟨s', H', C, cl, fp, rfl⟩
    exact (a_n 7 sc__law_double_root.nd)
  case lcm19 =>
    intro t p hp
    simp at hp
    simp [hp]
  case lce19 =>
    rintro t ht Y ⟨s', H', C, cl, fp, rfl⟩
    have hi := List.mem_range.mp ht
    have hm : CMulW (1 + ((t : Nat) : Int)) (cf l (1 + t)) := mulOk (a := 20) (by omega) (cf_sz hs _) (by decide)
    refine e_bin ?_
    refine e_v 7 ?_
    refine e_ix ?_
    refine e_v 0 ?_
    refine e_v 7 ?_
    refine wi_lst (at_cf (j := 1 + t) (by omega) (by omega)) ?_
    refine w_mul hm ?_
    rfl
  rintro acc rfl
  rw [take_map_all]
  rw [map_int (fun i : Nat => (1 + ((i : Nat) : Int)) * cf l (1 + i)), range_der]
  show S _ _ _ [_, _, _, _, _, _, _, _] _
  have hr17 : -(2 ^ 62) ≤ (-8 : Int) ∧ (-8 : Int) < 2 ^ 62 ∧ -(2 ^ 62) ≤ (9 : Int) ∧ (9 : Int) < 2 ^ 62 := by decide
  have hr8 : -(2 ^ 62) ≤ (1 : Int) ∧ (1 : Int) < 2 ^ 62 ∧ -(2 ^ 62) ≤ (9 : Int) ∧ (9 : Int) < 2 ^ 62 := by decide
  refine s_cons (s_for (passes_of rfl) rfl ?_)
  refine i_range2 (by rfl) m_range ?_
  refine ea_cons ?_
  refine e_un ?_
  refine e_int ?_
  refine w_neg ?_
  refine ea_cons ?_
  refine e_int ?_
  refine ea_nil ?_
  refine ⟨_, _, rfl, by walk_at "sc", ?_⟩
  refine ⟨fun i G => ∃ g2 g3 g4 g5 g6 g7 : Sl, G = [.sh (.lst (l.map .int)), .sh (iL (derL l)), g2, g3, g4, g5, g6, g7], ⟨_, _, _, _, _, _, rfl⟩, ?_, ?_⟩
  · rintro i d G hd ⟨g2, g3, g4, g5, g6, g7, rfl⟩
    obtain ⟨hi, rfl⟩ := rangeD_get hd
    have hi2 : i < 17 := hi
    refine ⟨_, (a_n 2 sc__law_double_root.nd), ?_⟩
    show S _ _ _ [_, _, _, _, _, _, _, _] _
    refine s_one (s_for (passes_of rfl) rfl ?_)
    refine i_range2 (by rfl) m_range ?_
    refine ea_cons ?_
    refine e_int ?_
    refine ea_cons ?_
    refine e_int ?_
    refine ea_nil ?_
    refine ⟨_, _, rfl, by walk_at "sc", ?_⟩
    refine ⟨fun j G => ∃ g3 g4 g5 g6 g7 : Sl, G = [.sh (.lst (l.map .int)), .sh (iL (derL l)), .sh (.int (-8 + (i : Nat))), g3, g4, g5, g6, g7], ⟨_, _, _, _, _, rfl⟩, ?_, ?_⟩
    · rintro j d G hd ⟨g3, g4, g5, g6, g7, rfl⟩
      obtain ⟨hj, rfl⟩ := rangeD_get hd
      have hj2 : j < 8 := hj
      obtain ⟨a, hadef⟩ : ∃ a : Int, a = -8 + (i : Nat) := ⟨_, rfl⟩
      obtain ⟨b, hbdef⟩ : ∃ b : Int, b = 1 + (j : Nat) := ⟨_, rfl⟩
      rw [← hadef, ← hbdef]
      have sa : a.natAbs < 2 ^ 4 := by omega
      have sb : b.natAbs < 2 ^ 4 := by omega
      refine ⟨_, (a_n 3 sc__law_double_root.nd), ?_⟩
      show S _ _ _ [_, _, _, _, _, _, _, _] _
      refine s_cons (s_a 4 sc__law_double_root.nd ?_)
      refine e_int ?_
      show S _ _ _ [_, _, _, _, _, _, _, _] _
      refine s_cons (s_a 5 sc__law_double_root.nd ?_)
      refine e_int ?_
      show S _ _ _ [_, _, _, _, _, _, _, _] _
      refine s_cons (s_a 6 sc__law_double_root.nd ?_)
      refine e_int ?_
      show S _ _ _ [_, _, _, _, _, _, _, _] _
      have walk : ∀ (m : List Int), SzL 4010 m → m.length ≤ 100 → ∀ i, i < m.length → CMulW (tv a b (m.drop (m.length - i))) a ∧ CMulW (cf m (m.length - 1 - i)) (b ^ i) ∧ CMulW (b ^ i) b := fun m sm hm i hi => by
        have hlen : (m.drop (m.length - i)).length = i := by rw [List.length_drop]; omega
        have ht : (tv a b (m.drop (m.length - i))).natAbs < 2 ^ (4010 + (4 + 2) * i + 1) := by
          have := tv_sz (A := 4010) sa sb (l := m.drop (m.length - i)) fun x hx => sm x (List.mem_of_mem_drop hx)
          rw [hlen] at this
          exact this
        exact ⟨mulOk ht sa (by omega), mulOk (cf_sz sm _) (pow_sz sb i) (by omega), mulOk (pow_sz sb i) sb (by omega)⟩
      have step : ∀ (m : List Int), ∀ i, i < m.length → tv a b (m.drop (m.length - (i + 1))) = tv a b (m.drop (m.length - i)) * a + cf m (m.length - 1 - i) * b ^ i := fun m i hi => by
        have e1 : m.drop (m.length - (i + 1)) = cf m (m.length - 1 - i) :: m.drop (m.length - i) := by
          rw [show m.length - (i + 1) = m.length - 1 - i by omega, drop_cf (by omega), show m.length - 1 - i + 1 = m.length - i by omega]
        rw [e1]
        show tv a b (m.drop (m.length - i)) * a + cf m (m.length - 1 - i) * b ^ (m.drop (m.length - i)).length = _
        rw [List.length_drop, show m.length - (m.length - i) = i by omega]
      have hs2 : SzL 4010 l := hs.up (by decide)
      have hds2 : SzL 4010 (derL l) := hds.up (by decide)
      refine s_cut (fun G => ∃ g7 : Sl, G = [.sh (.lst (l.map .int)), .sh (iL (derL l)), .sh (.int a), .sh (.int b), .sh (.int (tv a b l)), .sh (.int 0), .sh (.int (b ^ l.length)), g7]) (s_for (passes_of rfl) rfl ?_) ?_
      · refine i_range3 (by rfl) m_range ?_
        refine ea_cons ?_
        refine e_bin ?_
        refine e_callB (id := "len") (by rfl) m_len b_len ?_
        refine ea_cons ?_
        refine e_v 0 ?_
        refine ea_nil ?_
        refine wc_len_lst ?_
        refine e_int ?_
        refine w_sub ?_
        refine ea_cons ?_
        refine e_un ?_
        refine e_int ?_
        refine w_neg ?_
        refine ea_cons ?_
        refine e_un ?_
        refine e_int ?_
        refine w_neg ?_
        refine ea_nil ?_
        refine ⟨_, _, rfl, by rw [List.length_map]; omega, ?_⟩
        rw [List.length_map, down_nat (n := l.length) (by omega)]
        refine ⟨fun i G => ∃ g7 : Sl, G = [.sh (.lst (l.map .int)), .sh (iL (derL l)), .sh (.int a), .sh (.int b), .sh (.int (tv a b (l.drop (l.length - i)))), .sh (.int 0), .sh (.int (b ^ i)), g7], ⟨_, by rw [Nat.sub_zero, List.drop_length, Int.pow_zero]; rfl⟩, ?_, ?_⟩
        · rintro i d G hd ⟨g7, rfl⟩
          obtain ⟨hi, rfl⟩ : i < l.length ∧ d = .int ((l.length - 1 - i : Nat) : Int) := by
            rw [List.getElem?_map] at hd
            cases z : (List.range l.length)[i]? with
            | none => rw [z] at hd; cases hd
            | some x =>
              rw [z] at hd
              have hx := List.getElem?_eq_some_iff.mp z
              obtain ⟨h1, h2⟩ := hx
              rw [List.getElem_range] at h2
              subst h2
              rw [List.length_range] at h1
              exact ⟨h1, (Option.some.inj hd).symm⟩
          obtain ⟨m1, m2, m3⟩ := walk l hs2 hlen i hi
          have e1 := step l i hi
          refine ⟨_, (a_n 7 sc__law_double_root.nd), ?_⟩
          show S _ _ _ [_, _, _, _, _, _, _, _] _
          refine s_cons (s_a 4 sc__law_double_root.nd ?_)
          refine e_bin ?_
          refine e_bin ?_
          refine e_v 4 ?_
          refine e_v 2 ?_
          refine w_mul m1 ?_
          refine e_bin ?_
          refine e_ix ?_
          refine e_v 0 ?_
          refine e_v 7 ?_
          refine wi_lst (at_cf rfl (by omega)) ?_
          refine e_v 6 ?_
          refine w_mul m2 ?_
          first | refine w_add ?_ | refine w_catT (by walk_at "sc") ?_ | refine w_addS (by walk_at "sc") ?_ | refine w_catL (by walk_at "sc") ?_
          show S _ _ _ [_, _, _, _, _, _, _, _] _
          refine s_one (s_a 6 sc__law_double_root.nd ?_)
          refine e_bin ?_
          refine e_v 6 ?_
          refine e_v 3 ?_
          refine w_mul m3 ?_
          exact ⟨_, by rw [e1, Int.pow_succ]; rfl⟩
        · rintro G ⟨g7, rfl⟩
          rw [List.length_map, List.length_range, Nat.sub_self, List.drop_zero]
          exact ⟨_, rfl⟩
      rintro G ⟨g7, rfl⟩
      refine s_cons (s_a 6 sc__law_double_root.nd ?_)
      refine e_int ?_
      show S _ _ _ [_, _, _, _, _, _, _, _] _
      refine s_cut (fun G => ∃ g6 g7 : Sl, G = [.sh (.lst (l.map .int)), .sh (iL (derL l)), .sh (.int a), .sh (.int b), .sh (.int (tv a b l)), .sh (.int (tv a b (derL l))), g6, g7]) (s_for (passes_of rfl) rfl ?_) ?_
      · refine i_range3 (by rfl) m_range ?_
        refine ea_cons ?_
        refine e_bin ?_
        refine e_callB (id := "len") (by rfl) m_len b_len ?_
        refine ea_cons ?_
        refine e_v 1 ?_
        refine ea_nil ?_
        refine wc_len_lst ?_
        refine e_int ?_
        refine w_sub ?_
        refine ea_cons ?_
        refine e_un ?_
        refine e_int ?_
        refine w_neg ?_
        refine ea_cons ?_
        refine e_un ?_
        refine e_int ?_
        refine w_neg ?_
        refine ea_nil ?_
        refine ⟨_, _, rfl, by rw [List.length_map]; omega, ?_⟩
        rw [List.length_map, down_nat (n := (derL l).length) (by omega)]
        refine ⟨fun i G => ∃ g7 : Sl, G = [.sh (.lst (l.map .int)), .sh (iL (derL l)), .sh (.int a), .sh (.int b), .sh (.int (tv a b l)), .sh (.int (tv a b ((derL l).drop ((derL l).length - i)))), .sh (.int (b ^ i)), g7], ⟨_, by rw [Nat.sub_zero, List.drop_length, Int.pow_zero]; rfl⟩, ?_, ?_⟩
        · rintro i d G hd ⟨g7, rfl⟩
          obtain ⟨hi, rfl⟩ : i < (derL l).length ∧ d = .int (((derL l).length - 1 - i : Nat) : Int) := by
            rw [List.getElem?_map] at hd
            cases z : (List.range (derL l).length)[i]? with
            | none => rw [z] at hd; cases hd
            | some x =>
              rw [z] at hd
              have hx := List.getElem?_eq_some_iff.mp z
              obtain ⟨h1, h2⟩ := hx
              rw [List.getElem_range] at h2
              subst h2
              rw [List.length_range] at h1
              exact ⟨h1, (Option.some.inj hd).symm⟩
          obtain ⟨m1, m2, m3⟩ := walk (derL l) hds2 (by omega) i hi
          have e1 := step (derL l) i hi
          refine ⟨_, (a_n 7 sc__law_double_root.nd), ?_⟩
          show S _ _ _ [_, _, _, _, _, _, _, _] _
          refine s_cons (s_a 5 sc__law_double_root.nd ?_)
          refine e_bin ?_
          refine e_bin ?_
          refine e_v 5 ?_
          refine e_v 2 ?_
          refine w_mul m1 ?_
          refine e_bin ?_
          refine e_ix ?_
          refine e_v 1 ?_
          refine e_v 7 ?_
          refine wi_lst (at_cf rfl (by omega)) ?_
          refine e_v 6 ?_
          refine w_mul m2 ?_
          first | refine w_add ?_ | refine w_catT (by walk_at "sc") ?_ | refine w_addS (by walk_at "sc") ?_ | refine w_catL (by walk_at "sc") ?_
          show S _ _ _ [_, _, _, _, _, _, _, _] _
          refine s_one (s_a 6 sc__law_double_root.nd ?_)
          refine e_bin ?_
          refine e_v 6 ?_
          refine e_v 3 ?_
          refine w_mul m3 ?_
          exact ⟨_, by rw [e1, Int.pow_succ]; rfl⟩
        · rintro G ⟨g7, rfl⟩
          rw [List.length_map, List.length_range, Nat.sub_self, List.drop_zero]
          exact ⟨_, _, rfl⟩
      rintro G ⟨g6, g7, rfl⟩
      refine s_one (s_if ?_)
      refine TW.t ?_
      refine' tw_andD ?ha20 (fun hb => ?hb20) ?hc20
      case ha20 =>
        refine t_cmp ?_
        refine e_v 4 ?_
        refine e_int ?_
        first | refine w_eqI ?_ | refine w_eqT ?_ | refine w_eqB ?_ | refine w_eqD hr.units (by walk_at "ok") (by walk_at "ok") ?_
        refine ⟨_, rfl, ?_⟩
        exact rfl
      case hb20 =>
        refine tw_and1 ?_
        refine t_cmp ?_
        refine e_v 5 ?_
        refine e_int ?_
        first | refine w_eqI ?_ | refine w_eqT ?_ | refine w_eqB ?_ | refine w_eqD hr.units (by walk_at "ok") (by walk_at "ok") ?_
        refine ⟨_, rfl, ?_⟩
        exact rfl
      have hno := hnd a b (by omega)
      refine ite_f ?_ ?_
      · cases h1 : decide (tv a b l = 0)
        · rfl
        · rw [decide_eq_false (fun z => hno ⟨of_decide_eq_true h1, z⟩)]; rfl
      · refine s_nil ?_
        exact ⟨_, _, _, _, _, by rw [hadef]⟩
    · rintro G ⟨g3, g4, g5, g6, g7, rfl⟩
      exact ⟨_, _, _, _, _, _, rfl⟩
  · rintro G ⟨g2, g3, g4, g5, g6, g7, rfl⟩
    refine s_one (s_ret ?_)
    refine e_bool ?_
    exact hq

abbrev s_Poly_of : Stmt := inClass (topS 30) 1
abbrev N_Poly_of : List Str := ["cls", "coefs"]
theorem sc_Poly_of : FnScope N_Poly_of ["cls", "coefs"] (defScope s_Poly_of) := ⟨rfl, rfl, rfl, by decide +kernel, rfl, by decide +kernel, by decide +kernel⟩
theorem ok_Poly_of {f : Addr} {fd : FuncData} {k : Nat} {dvs : List V} {kws : List (Str × V)} {C_Poly : Addr} (F : FD K "of" "Poly.of" s_Poly_of dvs kws f fd) (c_Poly : FnS P w K mg base k "Poly" (ph_Poly___init__ C_Poly)) (g_Poly : mg "Poly" = some (.ref C_Poly)) : FnOk P w K mg base (L2.CX P w) (k + 1) f fd ["cls", "coefs"] (spD K 2 (ph_Poly_of C_Poly)) := by
  refine fn_ok F sc_Poly_of rfl fun X cdv A outer s H E ds q xd hX hr hph hl Fr wf xok => ?_
  subst hX
  obtain ⟨l, d, rfl, hd, hlen, hq⟩ := hph
  have hz : (l.map Dt.int).length ≤ 100000 := by rw [List.length_map]; omega
  have hz2 : l.length ≤ 100000 := by omega
  rcases hd with rfl | rfl
  · show S _ _ _ [_, _] _
    show S _ _ _ [_, _] _
    refine s_cons (s_ret ?_)
    refine e_callSt1V 0 c_Poly g_Poly hr ?_
    refine e_v 1 ?_
    first | refine ⟨_, .inr rfl, by walk_at "sc", ?_⟩ | refine ⟨_, .inl rfl, by walk_at "sc", ?_⟩
    refine u_Poly___init__ (by walk_at "sc") ?_
    exact hq
  · show S _ _ _ [_, _] _
    show S _ _ _ [_, _] _
    refine s_cons (s_ret ?_)
    refine e_callSt1V 0 c_Poly g_Poly hr ?_
    refine e_v 1 ?_
    first | refine ⟨_, .inr rfl, by walk_at "sc", ?_⟩ | refine ⟨_, .inl rfl, by walk_at "sc", ?_⟩
    refine u_Poly___init__ (by walk_at "sc") ?_
    exact hq

theorem spc19 : SpC 19 (6 * 24 ^ 9) := ⟨by decide, by decide, by decide +kernel, by decide +kernel, by decide +kernel⟩
def RB (n : Nat) (l : List Int) : Prop := Tr l ∧ l.length ≤ 1 + 2 * n ∧ Le (6 * 24 ^ n) l
def FB (l : List Int) : Prop := Tr l ∧ l ≠ [] ∧ l.length ≤ 3 ∧ ∀ x ∈ l, x.natAbs ≤ 8
theorem fb_le {l : List Int} (h : FB l) : Le 8 l := fun i => by
  by_cases hi : i < l.length
  · exact h.2.2.2 _ (List.mem_of_getElem? (cf_lt hi))
  · rw [cf_ge (by omega)]; simp
theorem rb_mul {n : Nat} {l f : List Int} (h : RB n l) (hf : FB f) : RB (n + 1) (trimL (mulL l f)) := by
  refine ⟨tr_trim _, ?_, fun i => ?_⟩
  · have := PX.sz_mul_le (PX.ofL l) (PX.ofL f)
    rw [← pl_mul, ← pl_trim, pl_sz (tr_trim _), pl_sz h.1, pl_sz hf.1] at this
    have := h.2.1
    have := hf.2.2.1
    omega
  · rw [cf_trim]
    have e : cf (mulL l f) i = (PX.ofL f * PX.ofL l).c i := by rw [PX.Pl.mul_comm', ← pl_mul]; rfl
    rw [e]
    have := PX.mul_le (f := PX.ofL f) (g := PX.ofL l) (k := 3) (by rw [pl_sz hf.1]; exact hf.2.2.1) (fb_le hf) h.2.2 i
    rw [Nat.pow_succ]
    have e2 : 3 * (8 * (6 * 24 ^ n)) = 6 * (24 ^ n * 24) := by omega
    omega
theorem rb_up {n m : Nat} {l : List Int} (h : RB n l) (hm : n ≤ m) : RB m l := ⟨h.1, by have := h.2.1; omega, h.2.2.up (Nat.mul_le_mul_left _ (Nat.pow_le_pow_right (by decide) hm))⟩
theorem rb_sz {n : Nat} {l : List Int} (h : RB n l) (hn : n ≤ 9) : SzL 60 l := Le.sz (rb_up h hn).2.2 (by decide)
theorem fb_sz {l : List Int} (h : FB l) : SzL 4 l := Le.sz (fb_le h) (by decide)
theorem eqD_iL (a : List Int) : eqD (iL a) (iL a) = true := by unfold iL; rw [eqD_ints]; simp
abbrev s_law : Stmt := topS 49
abbrev N_law : List Str := ["_law_script", "_law_box_here", "_law_row_here", "_law_factors", "_law_k", "_law_factor_here", "_law_turn", "_law_found", "_law_rest", "_law_root"]
theorem sc_law : FnScope N_law ["_law_script"] (defScope s_law) := ⟨rfl, rfl, rfl, by decide +kernel, rfl, by decide +kernel, by decide +kernel⟩
theorem ok_law {f : Addr} {fd : FuncData} {k : Nat} {C_Poly : Addr} (F : FD K "law" "law" s_law [] [] f fd) (m_isinstance : mg "isinstance" = none) (m_len : mg "len" = none) (m_range : mg "range" = none) (m_tuple : mg "tuple" = none) (c_split_square : Fn P w K mg base k "split_square" ["poly"] [] (spD K 1 (ph_split_square C_Poly))) (c__law_box : Fn P w K mg base k "_law_box" ["_law_script"] [] (spBox K)) (c__law_take : Fn P w K mg base k "_law_take" ["_law_box_here", "_law_size"] [] (spB K 2 ph_take)) (c__law_trim : Fn P w K mg base k "_law_trim" ["_law_row_here"] [] (spD K 1 ph__law_trim)) (c__law_times : Fn P w K mg base k "_law_times" ["_law_a", "_law_b"] [] (spD K 2 ph__law_times)) (c__law_factor : Fn P w K mg base k "_law_factor" ["_law_box_here"] [] (spB K 1 ph__law_factor)) (c__law_row : Fn P w K mg base k "_law_row" ["_law_poly_here"] [] (spD K 1 (ph__law_row C_Poly))) (c__law_primitive : Fn P w K mg base k "_law_primitive" ["_law_row_here"] [] (spD K 1 ph__law_primitive)) (c__law_divides : Fn P w K mg base k "_law_divides" ["_law_row_here", "_law_part"] [] (spD K 2 ph__law_dividesP)) (c__law_double_root : Fn P w K mg base k "_law_double_root" ["_law_row_here"] [] (spD K 1 ph__law_double_root)) (g_Poly : mg "Poly" = some (.ref C_Poly)) (c_Poly_of : FnCm P w K mg base k C_Poly "of" 2 (ph_Poly_of C_Poly)) (pc_Poly : PolyC K C_Poly) : FnOk P w K mg base (L2.CX P w) (k + 1) f fd ["_law_script"] (spLaw K) := by
  refine law_ok F sc_law c__law_box (by rfl) rfl rfl (by decide) (by first | exact .inl rfl | exact .inr rfl) (by first | exact .inl rfl | exact .inr (.inl rfl)) (by rfl) (by decide) (by decide) (fun _ _ => rfl) (fun _ => rfl) fun X cdv A outer s H E b c n ns hX hr => ?_
  subst hX
  show S _ _ _ [_, _, _, _, _, _, _, _, _, _] _
  have hl13 : (0 : Int) < 13 ∧ (13 : Int).natAbs.log2 < 9000 := ⟨by decide, by decide +kernel⟩
  have hl3 : (0 : Int) < 3 ∧ (3 : Int).natAbs.log2 < 9000 := ⟨by decide, by decide +kernel⟩
  refine s_cons (s_a 2 sc_law.nd ?_)
  refine e_call (dds := []) c__law_trim hr (by rfl) (fun _ => .nil) ?_
  refine ea_cons ?_
  refine e_lst ?_
  refine ea_cons ?_
  refine e_bin ?_
  refine e_callX c__law_take hr (by rfl) ?_
  refine ea_cons ?_
  refine e_v 1 ?_
  refine ea_cons ?_
  refine e_int ?_
  refine ea_nil ?_
  refine ⟨_, rfl, rfl, ?_⟩
  refine u_take (by walk_at "sc") ?_
  intro v1 va1 vb1
  refine e_int ?_
  refine w_sub ?_
  refine ea_nil ?_
  refine ⟨Nat.le_of_ble_eq_true rfl, ?_⟩
  refine ea_nil ?_
  refine ⟨rfl, ?_⟩
  refine u__law_trim (l := [v1 - 6]) (by show 1 ≤ 100000; decide) ?_
  show S _ _ _ [_, _, _, _, _, _, _, _, _, _] _
  have r0 : RB 0 (trimL [v1 - 6]) := ⟨tr_trim _, Nat.le_trans (trim_len _) (Nat.le_refl _), fun i => by
    rw [cf_trim]
    cases i with
    | zero => show (v1 - 6).natAbs ≤ 6 * 24 ^ 0; omega
    | succ i => rw [cf_succ, cf_nil]; simp⟩
  generalize trimL [v1 - 6] = row0 at *
  refine s_cons (s_aN 3 sc_law.nd (en_lst ?_))
  refine ea_nil ?_
  refine ⟨Nat.le_of_ble_eq_true rfl, ?_⟩
  show S _ _ _ [_, _, _, _, _, _, _, _, _, _] _
  show S _ _ _ [.sh (.frl (ns.map .int)), .sh (.adr b), .sh (iL row0), .ow (.lst (([] : List (List Int)).map iL)), .no, .no, .no, .no, .no, .no] _
  refine s_cut (fun G => ∃ (row : List Int) (Fs : List (List Int)) (g4 g5 g6 : Sl), G = [.sh (.frl (ns.map .int)), .sh (.adr b), .sh (iL row), .ow (.lst (Fs.map iL)), g4, g5, g6, .no, .no, .no] ∧ RB 9 row ∧ (∀ F ∈ Fs, FB F) ∧ Fs.length ≤ 3) (s_for (passes_of rfl) rfl ?_) ?_
  · refine i_range1 (by rfl) m_range ?_
    refine ea_cons ?_
    refine e_bin ?_
    refine e_int ?_
    refine e_callX c__law_take hr (by rfl) ?_
    refine ea_cons ?_
    refine e_v 1 ?_
    refine ea_cons ?_
    refine e_int ?_
    refine ea_nil ?_
    refine ⟨_, rfl, rfl, ?_⟩
    refine u_take hl3 ?_
    intro m mp ml
    refine w_add ?_
    refine ea_nil ?_
    refine ⟨_, rfl, by omega, by omega, ?_⟩
    refine ⟨fun i G => ∃ (row : List Int) (Fs : List (List Int)) (g4 g5 g6 : Sl), G = [.sh (.frl (ns.map .int)), .sh (.adr b), .sh (iL row), .ow (.lst (Fs.map iL)), g4, g5, g6, .no, .no, .no] ∧ RB (3 * i) row ∧ (∀ F ∈ Fs, FB F) ∧ Fs.length ≤ i, ⟨row0, [], _, _, _, rfl, r0, (fun F hF => nomatch hF), Nat.le_refl _⟩, ?_, ?_⟩
    · rintro i d G hd ⟨row, Fs, g4, g5, g6, rfl, hR, hF, hFl⟩
      obtain ⟨hi, rfl⟩ := rangeD_get hd
      have hi3 : i < 3 := by omega
      have szf : ∀ l : List Int, l.length ≤ 3 → (∀ x ∈ l, x.natAbs ≤ 8) → l.length ≤ 900 ∧ SzL 8000 l := fun l h1 h2 => ⟨by omega, fun x hx => Nat.lt_of_le_of_lt (h2 x hx) (show 8 < 2 ^ 8000 from Nat.lt_of_lt_of_le (show 8 < 2 ^ 4 by decide) (Nat.pow_le_pow_right (by decide) (by decide)))⟩
      refine ⟨_, (a_n 4 sc_law.nd), ?_⟩
      show S _ _ _ [_, _, _, _, _, _, _, _, _, _] _
      refine s_cons (s_a 5 sc_law.nd ?_)
      refine e_call (dds := []) c__law_trim hr (by rfl) (fun _ => .nil) ?_
      refine ea_cons ?_
      refine e_call (dds := []) c__law_primitive hr (by rfl) (fun _ => .nil) ?_
      refine ea_cons ?_
      refine e_callX c__law_factor hr (by rfl) ?_
      refine ea_cons ?_
      refine e_v 1 ?_
      refine ea_nil ?_
      refine ⟨_, rfl, rfl, ?_⟩
      refine u__law_factor (by walk_at "sc") ?_
      intro fl2 fn2 fb2
      refine ea_nil ?_
      refine ⟨rfl, ?_⟩
      refine u__law_primitive (szf _ fn2 fb2) ?_
      refine ea_nil ?_
      refine ⟨rfl, ?_⟩
      refine u__law_trim (by rw [lpr_len]; omega) ?_
      show S _ _ _ [_, _, _, _, _, _, _, _, _, _] _
      have hpr := lpr_le fb2
      have hpl := lpr_len fl2
      generalize hfh : trimL (lprL fl2) = fh at *
      have hf3 : fh.length ≤ 3 := by rw [← hfh]; exact Nat.le_trans (trim_len _) (by omega)
      have hft : Tr fh := by rw [← hfh]; exact tr_trim _
      have hf8 : ∀ x ∈ fh, x.natAbs ≤ 8 := fun x hx => hpr x (by rw [← hfh] at hx; exact trim_mem hx)
      refine s_one (s_if ?_)
      refine t_cmp ?_
      refine e_callB (id := "len") (by rfl) m_len b_len ?_
      refine ea_cons ?_
      refine e_v 5 ?_
      refine ea_nil ?_
      first | refine wc_len_lst ?_ | refine wc_len_tup ?_ | refine wc_len_str (by walk_at "sc") ?_ | refine wc_lenc (fun hn63 => ?_)
      refine e_int ?_
      refine w_gt ?_
      refine ⟨_, rfl, ?_⟩
      rw [List.length_map]
      refine ite_b (fun h => ?_) (fun h => ?_)
      · have hfn : fh ≠ [] := fun z => by rw [z] at h; cases h
        have hFB : FB fh := ⟨hft, hfn, hf3, hf8⟩
        have hFl9 : (Fs.map iL).length < 100000 := by rw [List.length_map]; omega
        refine s_cons (s_app 3 rfl rfl (by first | exact .inl rfl | exact .inr (.inl rfl) | exact .inr (.inr rfl)) (by walk_at "sc") ?_)
        refine e_v 5 ?_
        show S _ _ _ [_, _, _, _, _, _, _, _, _, _] _
        have eF : Fs.map iL ++ [iL fh] = (Fs ++ [fh]).map iL := by rw [List.map_append]; rfl
        rw [eF]
        refine s_one (s_for (passes_of rfl) rfl ?_)
        refine i_range1 (by rfl) m_range ?_
        refine ea_cons ?_
        refine e_bin ?_
        refine e_int ?_
        refine e_callX c__law_take hr (by rfl) ?_
        refine ea_cons ?_
        refine e_v 1 ?_
        refine ea_cons ?_
        refine e_int ?_
        refine ea_nil ?_
        refine ⟨_, rfl, rfl, ?_⟩
        refine u_take hl3 ?_
        intro w wp wl
        refine w_add ?_
        refine ea_nil ?_
        refine ⟨_, rfl, by omega, by omega, ?_⟩
        refine ⟨fun j G => ∃ (row : List Int) (g6 : Sl), G = [.sh (.frl (ns.map .int)), .sh (.adr b), .sh (iL row), .ow (.lst ((Fs ++ [fh]).map iL)), .sh (.int (0 + (i : Nat))), .sh (iL fh), g6, .no, .no, .no] ∧ RB (3 * i + j) row, ⟨row, _, rfl, hR⟩, ?_, ?_⟩
        · rintro j d G hd ⟨row, g6, rfl, hR⟩
          obtain ⟨hj, rfl⟩ := rangeD_get hd
          have hj3 : j < 3 := by omega
          have lr := hR.2.1
          have kt : row.length ≤ 900 ∧ fh.length ≤ 900 ∧ SzL 60 row ∧ SzL 4 fh ∧ 60 + 4 ≤ 900000 := ⟨by omega, by omega, rb_sz hR (by omega), fb_sz hFB, by decide⟩
          refine ⟨_, (a_n 6 sc_law.nd), ?_⟩
          show S _ _ _ [_, _, _, _, _, _, _, _, _, _] _
          refine s_one (s_a 2 sc_law.nd ?_)
          refine e_call (dds := []) c__law_times hr (by rfl) (fun _ => .nil) ?_
          refine ea_cons ?_
          refine e_v 2 ?_
          refine ea_cons ?_
          refine e_v 5 ?_
          refine ea_nil ?_
          refine ⟨rfl, ?_⟩
          refine u__law_times (by walk_at "sc") ?_
          exact ⟨_, _, rfl, rb_mul hR hFB⟩
        · rintro G ⟨row, g6, rfl, hR⟩
          rw [rangeD_length] at hR
          refine ⟨row, Fs ++ [fh], _, _, _, rfl, rb_up hR (by omega), fun F hF2 => ?_, by rw [List.length_append]; show Fs.length + 1 ≤ i + 1; omega⟩
          rcases List.mem_append.mp hF2 with c | c
          · exact hF F c
          · rw [List.mem_singleton.mp c]; exact hFB
      · exact s_nil ⟨row, Fs, _, _, _, rfl, rb_up hR (by omega), hF, by omega⟩
    · rintro G ⟨row, Fs, g4, g5, g6, rfl, hR, hF, hFl⟩
      rw [rangeD_length] at hR hFl
      exact ⟨row, Fs, _, _, _, rfl, rb_up hR (by omega), hF, by omega⟩
  rintro G ⟨row, Fs, g4, g5, g6, rfl, hR, hF, hFl⟩
  obtain ⟨ht, hl, hle⟩ := hR
  have hl19 : row.length ≤ 19 := by omega
  have o1 : row.length ≤ 90000 := by omega
  have hsp : Tr row ∧ row.length ≤ 19 ∧ Le (6 * 24 ^ 9) row ∧ SpC 19 (6 * 24 ^ 9) := ⟨ht, hl19, hle, spc19⟩
  refine s_cons (s_a 7 sc_law.nd ?_)
  refine e_call (dds := []) c_split_square hr (by rfl) (fun _ => .nil) ?_
  refine ea_cons ?_
  refine e_cmeth c_Poly_of hr ?_
  refine e_cls (by rfl) g_Poly ?_
  refine ⟨rfl, ?_⟩
  refine ea_cons ?_
  refine e_v 2 ?_
  refine ea_nil ?_
  refine ⟨rfl, ?_⟩
  refine u_Poly_of (by walk_at "sc") ?_
  rw [show trimL row = row from ht]
  refine ea_nil ?_
  refine ⟨rfl, ?_⟩
  refine u_split_square hsp ⟨fun hn => ?_, fun hn rest root hs hre hro => ?_⟩
  · show S _ _ _ [_, _, _, _, _, _, _, _, _, _] _
    subst hn
    refine s_cons (s_if ?_)
    refine TW.t ?_
    refine' tw_orD ?ha21 (fun hb => ?hb21) ?hc21
    case ha21 =>
      refine t_not ?_
      refine t_val ?_
      refine e_callB (id := "isinstance") (by rfl) m_isinstance b_isinstance ?_
      refine ea_cons ?_
      refine e_v 7 ?_
      refine ea_cons ?_
      refine e_ty (by rfl) m_tuple b_tuple ?_
      refine ea_nil ?_
      first | refine wc_isi tyd_int kt_int_tuple ?_ | refine wc_isi tyd_bl kt_bool_tuple ?_ | refine wc_isi tyd_tup kt_tuple_tuple ?_ | refine wc_isi tyd_lst kt_list_tuple ?_ | refine wc_isi tyd_str kt_str_tuple ?_ | refine wc_isi tyd_non kt_NoneType_tuple ?_
      refine ⟨_, rfl, ?_⟩
      exact rfl
    case hb21 =>
      refine tw_or1 ?_
      refine t_cmp ?_
      refine e_callB (id := "len") (by rfl) m_len b_len ?_
      refine ea_cons ?_
      refine e_v 7 ?_
      refine ea_nil ?_
      first | refine wc_len_lst ?_ | refine wc_len_tup ?_ | refine wc_len_str (by walk_at "sc") ?_ | refine wc_lenc (fun hn63 => ?_)
      refine e_int ?_
      first | refine w_neI ?_ | refine w_neT ?_ | refine w_neB ?_ | refine w_neD hr.units (by walk_at "ok") (by walk_at "ok") ?_
      refine ⟨_, rfl, ?_⟩
      exact rfl
    refine ite_f (by rfl) ?_
    refine s_nil ?_
    have q0 : Tr ([] : List Int) ∧ ([] : List Int).length ≤ 90000 := ⟨tr_nil, by decide⟩
    have q1 : Tr ([1] : List Int) ∧ ([1] : List Int).length ≤ 90000 := ⟨tr_one, by decide⟩
    refine s_cons (s_a 8 sc_law.nd ?_)
    refine e_call (dds := []) c__law_row hr (by rfl) (fun _ => .nil) ?_
    refine ea_cons ?_
    refine e_ix ?_
    refine e_v 7 ?_
    refine e_int ?_
    first | refine wi_tup0 ?_ | refine wi_tup1 ?_ | refine wi_tup2 ?_ | refine wi_tup (by walk_at "sc") ?_ | refine wi_lst (by walk_at "sc") ?_ | refine wi_str (by walk_at "sc") (by walk_at "sc") ?_
    refine ea_nil ?_
    refine ⟨rfl, ?_⟩
    refine u__law_row (l := []) q0 ?_
    show S _ _ _ [_, _, _, _, _, _, _, _, _, _] _
    refine s_cons (s_a 9 sc_law.nd ?_)
    refine e_call (dds := []) c__law_row hr (by rfl) (fun _ => .nil) ?_
    refine ea_cons ?_
    refine e_ix ?_
    refine e_v 7 ?_
    refine e_int ?_
    first | refine wi_tup0 ?_ | refine wi_tup1 ?_ | refine wi_tup2 ?_ | refine wi_tup (by walk_at "sc") ?_ | refine wi_lst (by walk_at "sc") ?_ | refine wi_str (by walk_at "sc") (by walk_at "sc") ?_
    refine ea_nil ?_
    refine ⟨rfl, ?_⟩
    refine u__law_row (l := [1]) q1 ?_
    show S _ _ _ [_, _, _, _, _, _, _, _, _, _] _
    have k0 : ([] : List Int).length ≤ 900 ∧ ([1] : List Int).length ≤ 900 ∧ SzL 1 [] ∧ SzL 1 [1] ∧ 1 + 1 ≤ 900000 := ⟨by decide, by decide, SzL.nil, SzL.one (by decide), by decide⟩
    refine s_cons (s_if ?_)
    refine TW.t ?_
    refine' tw_orD ?ha22 (fun hb => ?hb22) ?hc22
    case ha22 =>
      refine t_cmp ?_
      refine e_v 8 ?_
      refine e_none ?_
      first | refine w_isN ?_ | refine w_isB ?_
      refine ⟨_, rfl, ?_⟩
      exact rfl
    case hb22 =>
      refine' tw_orD ?ha23 (fun hb => ?hb23) ?hc23
      case ha23 =>
        refine t_cmp ?_
        refine e_v 9 ?_
        refine e_none ?_
        first | refine w_isN ?_ | refine w_isB ?_
        refine ⟨_, rfl, ?_⟩
        exact rfl
      case hb23 =>
        refine tw_or1 ?_
        refine t_cmp ?_
        refine e_call (dds := []) c__law_times hr (by rfl) (fun _ => .nil) ?_
        refine ea_cons ?_
        refine e_call (dds := []) c__law_times hr (by rfl) (fun _ => .nil) ?_
        refine ea_cons ?_
        refine e_v 8 ?_
        refine ea_cons ?_
        refine e_v 9 ?_
        refine ea_nil ?_
        refine ⟨rfl, ?_⟩
        (refine u__law_times (a := []) (b := [1]) k0 ?_; rw [show trimL (mulL [] [1]) = [] from rfl])
        refine ea_cons ?_
        refine e_v 9 ?_
        refine ea_nil ?_
        refine ⟨rfl, ?_⟩
        (refine u__law_times (a := []) (b := [1]) k0 ?_; rw [show trimL (mulL [] [1]) = [] from rfl])
        refine e_v 2 ?_
        first | refine w_neI ?_ | refine w_neT ?_ | refine w_neB ?_ | refine w_neD hr.units (by walk_at "ok") (by walk_at "ok") ?_
        refine ⟨_, rfl, ?_⟩
        exact rfl
      exact rfl
    refine ite_f (by rfl) ?_
    refine s_nil ?_
    refine s_cons (s_if ?_)
    refine t_cmp ?_
    refine e_v 2 ?_
    refine e_lst ?_
    refine ea_nil ?_
    refine ⟨Nat.le_of_ble_eq_true rfl, ?_⟩
    first | refine w_eqI ?_ | refine w_eqT ?_ | refine w_eqB ?_ | refine w_eqD hr.units (by walk_at "ok") (by walk_at "ok") ?_
    refine ⟨_, rfl, ?_⟩
    refine ite_t (by rfl) ?_
    refine s_one (s_ret ?_)
    refine e_cmp ?_
    refine e_v 9 ?_
    refine e_lst ?_
    refine ea_cons ?_
    refine e_int ?_
    refine ea_nil ?_
    refine ⟨Nat.le_of_ble_eq_true rfl, ?_⟩
    first | refine w_eqI ?_ | refine w_eqT ?_ | refine w_eqB ?_ | refine w_eqD hr.units (by walk_at "ok") (by walk_at "ok") ?_
    rfl
  · obtain ⟨z1, z2, z3, z4⟩ := hs.lens ht hn
    have sre : SzL 4000 rest := hre.sz (by exact spc19.2.2.2.2)
    have sro : SzL 4000 root := hro.sz (by exact spc19.2.2.2.2)
    show S _ _ _ [_, _, _, _, _, _, _, _, _, _] _
    refine s_cons (s_if ?_)
    refine TW.t ?_
    refine' tw_orD ?ha24 (fun hb => ?hb24) ?hc24
    case ha24 =>
      refine t_not ?_
      refine t_val ?_
      refine e_callB (id := "isinstance") (by rfl) m_isinstance b_isinstance ?_
      refine ea_cons ?_
      refine e_v 7 ?_
      refine ea_cons ?_
      refine e_ty (by rfl) m_tuple b_tuple ?_
      refine ea_nil ?_
      first | refine wc_isi tyd_int kt_int_tuple ?_ | refine wc_isi tyd_bl kt_bool_tuple ?_ | refine wc_isi tyd_tup kt_tuple_tuple ?_ | refine wc_isi tyd_lst kt_list_tuple ?_ | refine wc_isi tyd_str kt_str_tuple ?_ | refine wc_isi tyd_non kt_NoneType_tuple ?_
      refine ⟨_, rfl, ?_⟩
      exact rfl
    case hb24 =>
      refine tw_or1 ?_
      refine t_cmp ?_
      refine e_callB (id := "len") (by rfl) m_len b_len ?_
      refine ea_cons ?_
      refine e_v 7 ?_
      refine ea_nil ?_
      first | refine wc_len_lst ?_ | refine wc_len_tup ?_ | refine wc_len_str (by walk_at "sc") ?_ | refine wc_lenc (fun hn63 => ?_)
      refine e_int ?_
      first | refine w_neI ?_ | refine w_neT ?_ | refine w_neB ?_ | refine w_neD hr.units (by walk_at "ok") (by walk_at "ok") ?_
      refine ⟨_, rfl, ?_⟩
      exact rfl
    refine ite_f (by rfl) ?_
    refine s_nil ?_
    have q0 : Tr rest ∧ rest.length ≤ 90000 := ⟨hs.trest, by omega⟩
    have q1 : Tr root ∧ root.length ≤ 90000 := ⟨hs.troot, by omega⟩
    refine s_cons (s_a 8 sc_law.nd ?_)
    refine e_call (dds := []) c__law_row hr (by rfl) (fun _ => .nil) ?_
    refine ea_cons ?_
    refine e_ix ?_
    refine e_v 7 ?_
    refine e_int ?_
    first | refine wi_tup0 ?_ | refine wi_tup1 ?_ | refine wi_tup2 ?_ | refine wi_tup (by walk_at "sc") ?_ | refine wi_lst (by walk_at "sc") ?_ | refine wi_str (by walk_at "sc") (by walk_at "sc") ?_
    refine ea_nil ?_
    refine ⟨rfl, ?_⟩
    refine u__law_row (by walk_at "sc") ?_
    show S _ _ _ [_, _, _, _, _, _, _, _, _, _] _
    refine s_cons (s_a 9 sc_law.nd ?_)
    refine e_call (dds := []) c__law_row hr (by rfl) (fun _ => .nil) ?_
    refine ea_cons ?_
    refine e_ix ?_
    refine e_v 7 ?_
    refine e_int ?_
    first | refine wi_tup0 ?_ | refine wi_tup1 ?_ | refine wi_tup2 ?_ | refine wi_tup (by walk_at "sc") ?_ | refine wi_lst (by walk_at "sc") ?_ | refine wi_str (by walk_at "sc") (by walk_at "sc") ?_
    refine ea_nil ?_
    refine ⟨rfl, ?_⟩
    refine u__law_row (by walk_at "sc") ?_
    show S _ _ _ [_, _, _, _, _, _, _, _, _, _] _
    have k1 : rest.length ≤ 900 ∧ root.length ≤ 900 ∧ SzL 4000 rest ∧ SzL 4000 root ∧ 4000 + 4000 ≤ 900000 := ⟨by omega, by omega, sre, sro, by decide⟩
    have ls : (trimL (mulL rest root)).length ≤ 40 := Nat.le_trans (trim_len _) (Nat.le_trans (len_mul _ _) (by omega))
    have k2 : (trimL (mulL rest root)).length ≤ 900 ∧ root.length ≤ 900 ∧ SzL 8030 (trimL (mulL rest root)) ∧ SzL 4000 root ∧ 8030 + 4000 ≤ 900000 := ⟨by omega, by omega, ((SzL.mul sre sro).trim).up (by omega), sro, by decide⟩
    have eT : trimL (mulL (trimL (mulL rest root)) root) = row := pl_inj (tr_trim _) ht (by rw [pl_trim, pl_mul, pl_trim, pl_mul, hs.eq]; grind)
    refine s_cons (s_if ?_)
    refine TW.t ?_
    refine' tw_orD ?ha25 (fun hb => ?hb25) ?hc25
    case ha25 =>
      refine t_cmp ?_
      refine e_v 8 ?_
      refine e_none ?_
      first | refine w_isN ?_ | refine w_isB ?_
      refine ⟨_, rfl, ?_⟩
      exact rfl
    case hb25 =>
      refine' tw_orD ?ha26 (fun hb => ?hb26) ?hc26
      case ha26 =>
        refine t_cmp ?_
        refine e_v 9 ?_
        refine e_none ?_
        first | refine w_isN ?_ | refine w_isB ?_
        refine ⟨_, rfl, ?_⟩
        exact rfl
      case hb26 =>
        refine tw_or1 ?_
        refine t_cmp ?_
        refine e_call (dds := []) c__law_times hr (by rfl) (fun _ => .nil) ?_
        refine ea_cons ?_
        refine e_call (dds := []) c__law_times hr (by rfl) (fun _ => .nil) ?_
        refine ea_cons ?_
        refine e_v 8 ?_
        refine ea_cons ?_
        refine e_v 9 ?_
        refine ea_nil ?_
        refine ⟨rfl, ?_⟩
        refine u__law_times k1 ?_
        refine ea_cons ?_
        refine e_v 9 ?_
        refine ea_nil ?_
        refine ⟨rfl, ?_⟩
        (refine u__law_times k2 ?_; rw [eT])
        refine e_v 2 ?_
        refine w_neD hr.units (ok_ints _) (ok_ints _) ?_
        refine ⟨_, rfl, ?_⟩
        exact rfl
      exact rfl
    refine ite_f (by rw [eqD_iL]; rfl) ?_
    refine s_nil ?_
    refine s_cons (s_if ?_)
    refine t_cmp ?_
    refine e_v 2 ?_
    refine e_lst ?_
    refine ea_nil ?_
    refine ⟨Nat.le_of_ble_eq_true rfl, ?_⟩
    refine w_eqD hr.units (ok_ints _) (ok_ints []) ?_
    refine ⟨_, rfl, ?_⟩
    refine ite_f (by
      show eqD (Dt.lst (row.map Dt.int)) (Dt.lst (([] : List Int).map Dt.int)) = false
      rw [eqD_ints]
      simpa using hn) ?_
    refine s_nil ?_
    obtain ⟨_, hrp⟩ := of_ps hs.troot hs.pos
    have kp : root.length ≤ 900 ∧ SzL 8000 root := ⟨by omega, sro.up (by decide)⟩
    have kd : Tr rest ∧ rest.length ≤ 100 ∧ SzL 4000 rest ∧ ∀ a b : Int, 1 ≤ b → ¬ (tv a b rest = 0 ∧ tv a b (derL rest) = 0) := ⟨hs.trest, by omega, sre, fun a b hb => no_double hs.trest z1 hs.sqf (by omega)⟩
    refine s_cons (s_if ?_)
    refine TW.t ?_
    refine' tw_orD ?ha27 (fun hb => ?hb27) ?hc27
    case ha27 =>
      refine t_cmp ?_
      refine e_ix ?_
      refine e_v 9 ?_
      refine e_un ?_
      refine e_int ?_
      refine w_neg ?_
      refine wi_lst (at_top z3) ?_
      refine e_int ?_
      refine w_le ?_
      refine ⟨_, rfl, ?_⟩
      exact rfl
    case hb27 =>
      refine' tw_orD ?ha28 (fun hb => ?hb28) ?hc28
      case ha28 =>
        refine t_cmp ?_
        refine e_call (dds := []) c__law_primitive hr (by rfl) (fun _ => .nil) ?_
        refine ea_cons ?_
        refine e_v 9 ?_
        refine ea_nil ?_
        refine ⟨rfl, ?_⟩
        (refine u__law_primitive kp ?_; rw [lpr_prim hs.prim])
        refine e_v 9 ?_
        refine w_neD hr.units (ok_ints _) (ok_ints _) ?_
        refine ⟨_, rfl, ?_⟩
        exact rfl
      case hb28 =>
        refine tw_or1 ?_
        refine t_val ?_
        refine e_call (dds := []) c__law_double_root hr (by rfl) (fun _ => .nil) ?_
        refine ea_cons ?_
        refine e_v 8 ?_
        refine ea_nil ?_
        refine ⟨rfl, ?_⟩
        refine u__law_double_root (by walk_at "sc") ?_
        refine ⟨_, rfl, ?_⟩
        exact rfl
      exact rfl
    refine ite_f (by rw [eqD_iL, decide_eq_false (show ¬ cf root (root.length - 1) ≤ 0 by omega)]; rfl) ?_
    refine s_nil ?_
    refine s_frz ?_
    show S _ _ _ [.sh (.frl (ns.map .int)), .sh (.adr b), .sh (iL row), .sh (.lst (Fs.map iL)), _, _, _, .sh (.tup [polD C_Poly rest, polD C_Poly root]), .sh (iL rest), .sh (iL root)] _
    refine s_cons (s_for (passes_of rfl) rfl (i_lst ?_))
    refine e_v 3 ?_
    refine ⟨_, rfl, ?_⟩
    refine ⟨fun i G => ∃ g4 g5 g6 : Sl, G = [.sh (.frl (ns.map .int)), .sh (.adr b), .sh (iL row), .sh (.lst (Fs.map iL)), g4, g5, g6, .sh (.tup [polD C_Poly rest, polD C_Poly root]), .sh (iL rest), .sh (iL root)], ⟨_, _, _, rfl⟩, ?_, ?_⟩
    · rintro i d G hd ⟨g4, g5, g6, rfl⟩
      rw [List.getElem?_map] at hd
      obtain ⟨F1, hc, rfl⟩ : ∃ c, Fs[i]? = some c ∧ iL c = d := by
        cases z : Fs[i]? with
        | none => rw [z] at hd; cases hd
        | some e => rw [z] at hd; cases hd; exact ⟨e, rfl, rfl⟩
      have hFB := hF F1 (List.mem_of_getElem? hc)
      have kf : F1.length ≤ 900 ∧ F1.length ≤ 900 ∧ SzL 4 F1 ∧ SzL 4 F1 ∧ 4 + 4 ≤ 900000 := ⟨by have := hFB.2.2.1; omega, by have := hFB.2.2.1; omega, fb_sz hFB, fb_sz hFB, by decide⟩
      have lf : (trimL (mulL F1 F1)).length ≤ 10 := Nat.le_trans (trim_len _) (Nat.le_trans (len_mul _ _) (by have := hFB.2.2.1; omega))
      have sf : SzL 100 (trimL (mulL F1 F1)) := ((SzL.mul (fb_sz hFB) (fb_sz hFB)).trim).up (by have := hFB.2.2.1; omega)
      have eFF : PX.ofL (trimL (mulL F1 F1)) = PX.ofL F1 * PX.ofL F1 := by rw [pl_trim, pl_mul]
      have hF0 : PX.ofL F1 ≠ 0 := fun z => hFB.2.1 ((pl_zero hFB.1).mp z)
      have nFF : trimL (mulL F1 F1) ≠ [] := fun z => PX.mul_ne hF0 hF0 (by rw [← eFF, z, pl_nil])
      refine ⟨_, (a_n 5 sc_law.nd), ?_⟩
      show S _ _ _ [_, _, _, _, _, _, _, _, _, _] _
      refine s_one (s_if ?_)
      refine TW.t ?_
      refine' tw_andD ?ha (fun hb => ?hb) ?hc
      case ha =>
        refine t_cmp ?_
        refine e_callB (id := "len") (by rfl) m_len b_len ?_
        refine ea_cons ?_
        refine e_v 5 ?_
        refine ea_nil ?_
        refine wc_len_lst ?_
        refine e_int ?_
        refine w_gt ?_
        refine ⟨_, rfl, ?_⟩
        exact rfl
      case hb =>
        have hb1 : 1 < F1.length := by have h0 : decide ((((F1.map Dt.int).length : Nat) : Int) > 1) = true := hb; have := of_decide_eq_true h0; rw [List.length_map] at this; omega
        have knd : Tr rest ∧ Tr (trimL (mulL F1 F1)) ∧ trimL (mulL F1 F1) ≠ [] ∧ rest.length ≤ 100 ∧ (trimL (mulL F1 F1)).length ≤ 100 ∧ SzL 4000 rest ∧ SzL 100 (trimL (mulL F1 F1)) ∧ ¬ PX.Dv (PX.ofL (trimL (mulL F1 F1))) (PX.ofL rest) := ⟨hs.trest, tr_trim _, nFF, by omega, by omega, sre, sf, fun ⟨k, ek⟩ => by
          have := hs.sqf.square (F := PX.ofL F1) (K := k) (w := 1) (by decide) (by rw [ek, eFF, PX.C_one]; grind)
          rw [pl_sz hFB.1] at this
          omega⟩
        refine tw_and1 ?_
        refine t_val ?_
        refine e_call (dds := []) c__law_divides hr (by rfl) (fun _ => .nil) ?_
        refine ea_cons ?_
        refine e_v 8 ?_
        refine ea_cons ?_
        refine e_call (dds := []) c__law_times hr (by rfl) (fun _ => .nil) ?_
        refine ea_cons ?_
        refine e_v 5 ?_
        refine ea_cons ?_
        refine e_v 5 ?_
        refine ea_nil ?_
        refine ⟨rfl, ?_⟩
        refine u__law_times kf ?_
        refine ea_nil ?_
        refine ⟨rfl, ?_⟩
        refine u__law_dividesP knd ?_
        refine ⟨_, rfl, ?_⟩
        exact rfl
      case hc =>
        refine ite_f (Bool.and_false _) ?_
        exact s_nil ⟨_, _, _, rfl⟩
    · rintro G ⟨g4, g5, g6, rfl⟩
      refine s_one (s_ret ?_)
      refine e_bool ?_
      rfl

end
def d_trim : He5.DefA := ⟨fun K => He.ga K "trim", "trim", "trim", defArgs s_trim, defBody s_trim, defScope s_trim, [], []⟩
def d_times : He5.DefA := ⟨fun K => He.ga K "times", "times", "times", defArgs s_times, defBody s_times, defScope s_times, [], []⟩
def d_derived : He5.DefA := ⟨fun K => He.ga K "derived", "derived", "derived", defArgs s_derived, defBody s_derived, defScope s_derived, [], []⟩
def d_common_divisor : He5.DefA := ⟨fun K => He.ga K "common_divisor", "common_divisor", "common_divisor", defArgs s_common_divisor, defBody s_common_divisor, defScope s_common_divisor, [], []⟩
def d_primitive : He5.DefA := ⟨fun K => He.ga K "primitive", "primitive", "primitive", defArgs s_primitive, defBody s_primitive, defScope s_primitive, [], []⟩
def d_quotient : He5.DefA := ⟨fun K => He.ga K "quotient", "quotient", "quotient", defArgs s_quotient, defBody s_quotient, defScope s_quotient, [], []⟩
def d_remainder : He5.DefA := ⟨fun K => He.ga K "remainder", "remainder", "remainder", defArgs s_remainder, defBody s_remainder, defScope s_remainder, [], []⟩
def d_common_factor : He5.DefA := ⟨fun K => He.ga K "common_factor", "common_factor", "common_factor", defArgs s_common_factor, defBody s_common_factor, defScope s_common_factor, [], []⟩
def d_split_coefs : He5.DefA := ⟨fun K => He.ga K "split_coefs", "split_coefs", "split_coefs", defArgs s_split_coefs, defBody s_split_coefs, defScope s_split_coefs, [], []⟩
def d_Poly___init__ : He5.DefA := ⟨fun K => He.ma K (He.ga K "Poly") "__init__", "__init__", "Poly.__init__", defArgs s_Poly___init__, defBody s_Poly___init__, defScope s_Poly___init__, [], []⟩
def d_split_square : He5.DefA := ⟨fun K => He.ga K "split_square", "split_square", "split_square", defArgs s_split_square, defBody s_split_square, defScope s_split_square, [], []⟩
def d__law_box : He5.DefA := ⟨fun K => He.ga K "_law_box", "_law_box", "_law_box", defArgs s__law_box, defBody s__law_box, defScope s__law_box, [], []⟩
def d__law_take : He5.DefA := ⟨fun K => He.ga K "_law_take", "_law_take", "_law_take", defArgs s__law_take, defBody s__law_take, defScope s__law_take, [], []⟩
def d__law_trim : He5.DefA := ⟨fun K => He.ga K "_law_trim", "_law_trim", "_law_trim", defArgs s__law_trim, defBody s__law_trim, defScope s__law_trim, [], []⟩
def d__law_times : He5.DefA := ⟨fun K => He.ga K "_law_times", "_law_times", "_law_times", defArgs s__law_times, defBody s__law_times, defScope s__law_times, [], []⟩
def d__law_factor : He5.DefA := ⟨fun K => He.ga K "_law_factor", "_law_factor", "_law_factor", defArgs s__law_factor, defBody s__law_factor, defScope s__law_factor, [], []⟩
def d__law_is_integer : He5.DefA := ⟨fun K => He.ga K "_law_is_integer", "_law_is_integer", "_law_is_integer", defArgs s__law_is_integer, defBody s__law_is_integer, defScope s__law_is_integer, [], []⟩
def d__law_row : He5.DefA := ⟨fun K => He.ga K "_law_row", "_law_row", "_law_row", defArgs s__law_row, defBody s__law_row, defScope s__law_row, [], []⟩
def d__law_gcd : He5.DefA := ⟨fun K => He.ga K "_law_gcd", "_law_gcd", "_law_gcd", defArgs s__law_gcd, defBody s__law_gcd, defScope s__law_gcd, [], []⟩
def d__law_primitive : He5.DefA := ⟨fun K => He.ga K "_law_primitive", "_law_primitive", "_law_primitive", defArgs s__law_primitive, defBody s__law_primitive, defScope s__law_primitive, [], []⟩
def d__law_divides : He5.DefA := ⟨fun K => He.ga K "_law_divides", "_law_divides", "_law_divides", defArgs s__law_divides, defBody s__law_divides, defScope s__law_divides, [], []⟩
def d__law_double_root : He5.DefA := ⟨fun K => He.ga K "_law_double_root", "_law_double_root", "_law_double_root", defArgs s__law_double_root, defBody s__law_double_root, defScope s__law_double_root, [], []⟩
def d_Poly_of : He5.DefA := ⟨fun K => He5.wf K (He.ga K "Poly") "classmethod" "of", "of", "Poly.of", defArgs s_Poly_of, defBody s_Poly_of, defScope s_Poly_of, [], []⟩
def d_law : He5.DefA := ⟨fun K => He.ga K "law", "law", "law", defArgs s_law, defBody s_law, defScope s_law, [], []⟩
def fn : List He5.DefA := [d_trim, d_times, d_derived, d_common_divisor, d_primitive, d_quotient, d_remainder, d_common_factor, d_split_coefs, d_Poly___init__, d_split_square, d__law_box, d__law_take, d__law_trim, d__law_times, d__law_factor, d__law_is_integer, d__law_row, d__law_gcd, d__law_primitive, d__law_divides, d__law_double_root, d_Poly_of, d_law]
def fa : List He.Fa := [.glo "trim", .glo "times", .glo "derived", .glo "common_divisor", .glo "primitive", .glo "quotient", .glo "remainder", .glo "common_factor", .glo "split_coefs", .glo "split_square", .glo "_law_box", .glo "_law_take", .glo "_law_trim", .glo "_law_times", .glo "_law_factor", .glo "_law_is_integer", .glo "_law_row", .glo "_law_gcd", .glo "_law_primitive", .glo "_law_divides", .glo "_law_double_root", .glo "law", .free "abs", .free "any", .free "bool", .free "enumerate", .free "int", .free "isinstance", .free "len", .free "list", .free "max", .free "range", .free "tuple", .free "zip", .glo "Poly"]
abbrev Rw : PySem.W.OpenRow := PySem.W.OpenLaw.row PySem.Challenge.rw_lookstop_k13_whole_repeated_factors_spli
abbrev Pg : Program := Rw.prog
def es : List ErD := []
def xs : List Xa := [fun K => polyB K (He.ga K "Poly"), fun K => mkB K (He.ga K "Poly"), fun K => creadB K (He.ga K "Poly"), fun K => cmetB K (He.ga K "Poly") "of"]
abbrev hk : PySem.W.Hook := hookV 6 Pg.main.file fa fn es (exOf xs)
def ob (s : PySem.W.SharedT) : AlV := obsVG 6 Pg.main.file fa fn es (exOf xs) (HandSHeadRun.getT s)
theorem ob_eq (s : PySem.W.SharedT) : ob s = hk.obs s.abs := obsVG_eq (HandSHeadRun.getT_eq s)
def loose : List Str := (["_wall", "StopError", "InvalidRatio", "NotExact", "common_divisor", "ratio", "midpoint", "trim", "padded", "plus", "scaled", "minus", "times", "derived", "primitive", "quotient", "remainder", "common_factor", "split_coefs", "value_of"] : List Str) ++ (["sign_row_of", "searched", "negative_share", "Poly", "coefs_of", "split_square", "_law_box", "_law_take", "_law_trim", "_law_times", "_law_scaled", "_law_plus", "_law_factor", "_law_poly", "_law_is_integer", "_law_row", "_law_gcd", "_law_primitive", "_law_divides", "_law_double_root"] : List Str) ++ (["NOTHING", "WHOLE"] : List Str)
theorem run (w : World) : HandSHeadRun.RunEq Rw (PySem.W.view Rw.prog [49]) hk ob 8000 loose w := by
  intro os
  kernel_rfl
theorem facts {w : World} {K : PySem.W.Frag} {h : Heap} {mg : Str → Option Value} {f : Addr} (X : K.In h) (G : h.Ns mainGlobals mg) (hfa : mg ("law" : Str) = some (.ref f)) (c : SaysV Pg.main.file fa fn es (exOf xs) K) :
    ∃ fd : FuncData, (∀ (s : Shared) (v : Value), BindsTo s fd ⟨[v], []⟩ [("_law_script", v)]) ∧ ∀ base : Heap, K.In base → base.Ns mainGlobals mg → FnOk Pg w K mg base (L2.CX Pg w) 6 f fd ["_law_script"] (spLaw K) := by
  have cV := c
  replace c := cV.d
  obtain ⟨fd_trim, F_trim⟩ := c.def_ 0 (d := d_trim) rfl
  have g_trim := He.glo_ok X G (c.fact 0 (f := .glo "trim") rfl)
  obtain ⟨fd_times, F_times⟩ := c.def_ 1 (d := d_times) rfl
  have g_times := He.glo_ok X G (c.fact 1 (f := .glo "times") rfl)
  obtain ⟨fd_derived, F_derived⟩ := c.def_ 2 (d := d_derived) rfl
  have g_derived := He.glo_ok X G (c.fact 2 (f := .glo "derived") rfl)
  obtain ⟨fd_common_divisor, F_common_divisor⟩ := c.def_ 3 (d := d_common_divisor) rfl
  have g_common_divisor := He.glo_ok X G (c.fact 3 (f := .glo "common_divisor") rfl)
  obtain ⟨fd_primitive, F_primitive⟩ := c.def_ 4 (d := d_primitive) rfl
  have g_primitive := He.glo_ok X G (c.fact 4 (f := .glo "primitive") rfl)
  obtain ⟨fd_quotient, F_quotient⟩ := c.def_ 5 (d := d_quotient) rfl
  have g_quotient := He.glo_ok X G (c.fact 5 (f := .glo "quotient") rfl)
  obtain ⟨fd_remainder, F_remainder⟩ := c.def_ 6 (d := d_remainder) rfl
  have g_remainder := He.glo_ok X G (c.fact 6 (f := .glo "remainder") rfl)
  obtain ⟨fd_common_factor, F_common_factor⟩ := c.def_ 7 (d := d_common_factor) rfl
  have g_common_factor := He.glo_ok X G (c.fact 7 (f := .glo "common_factor") rfl)
  obtain ⟨fd_split_coefs, F_split_coefs⟩ := c.def_ 8 (d := d_split_coefs) rfl
  have g_split_coefs := He.glo_ok X G (c.fact 8 (f := .glo "split_coefs") rfl)
  obtain ⟨fd_Poly___init__, F_Poly___init__⟩ := c.def_ 9 (d := d_Poly___init__) rfl
  obtain ⟨fd_split_square, F_split_square⟩ := c.def_ 10 (d := d_split_square) rfl
  have g_split_square := He.glo_ok X G (c.fact 9 (f := .glo "split_square") rfl)
  obtain ⟨fd__law_box, F__law_box⟩ := c.def_ 11 (d := d__law_box) rfl
  have g__law_box := He.glo_ok X G (c.fact 10 (f := .glo "_law_box") rfl)
  obtain ⟨fd__law_take, F__law_take⟩ := c.def_ 12 (d := d__law_take) rfl
  have g__law_take := He.glo_ok X G (c.fact 11 (f := .glo "_law_take") rfl)
  obtain ⟨fd__law_trim, F__law_trim⟩ := c.def_ 13 (d := d__law_trim) rfl
  have g__law_trim := He.glo_ok X G (c.fact 12 (f := .glo "_law_trim") rfl)
  obtain ⟨fd__law_times, F__law_times⟩ := c.def_ 14 (d := d__law_times) rfl
  have g__law_times := He.glo_ok X G (c.fact 13 (f := .glo "_law_times") rfl)
  obtain ⟨fd__law_factor, F__law_factor⟩ := c.def_ 15 (d := d__law_factor) rfl
  have g__law_factor := He.glo_ok X G (c.fact 14 (f := .glo "_law_factor") rfl)
  obtain ⟨fd__law_is_integer, F__law_is_integer⟩ := c.def_ 16 (d := d__law_is_integer) rfl
  have g__law_is_integer := He.glo_ok X G (c.fact 15 (f := .glo "_law_is_integer") rfl)
  obtain ⟨fd__law_row, F__law_row⟩ := c.def_ 17 (d := d__law_row) rfl
  have g__law_row := He.glo_ok X G (c.fact 16 (f := .glo "_law_row") rfl)
  obtain ⟨fd__law_gcd, F__law_gcd⟩ := c.def_ 18 (d := d__law_gcd) rfl
  have g__law_gcd := He.glo_ok X G (c.fact 17 (f := .glo "_law_gcd") rfl)
  obtain ⟨fd__law_primitive, F__law_primitive⟩ := c.def_ 19 (d := d__law_primitive) rfl
  have g__law_primitive := He.glo_ok X G (c.fact 18 (f := .glo "_law_primitive") rfl)
  obtain ⟨fd__law_divides, F__law_divides⟩ := c.def_ 20 (d := d__law_divides) rfl
  have g__law_divides := He.glo_ok X G (c.fact 19 (f := .glo "_law_divides") rfl)
  obtain ⟨fd__law_double_root, F__law_double_root⟩ := c.def_ 21 (d := d__law_double_root) rfl
  have g__law_double_root := He.glo_ok X G (c.fact 20 (f := .glo "_law_double_root") rfl)
  obtain ⟨fd_Poly_of, F_Poly_of⟩ := c.def_ 22 (d := d_Poly_of) rfl
  obtain ⟨fd_law, F_law⟩ := c.def_ 23 (d := d_law) rfl
  have g_law := He.glo_ok X G (c.fact 21 (f := .glo "law") rfl)
  have m_abs := He.free_ok X G (c.fact 22 (f := .free "abs") rfl)
  have m_any := He.free_ok X G (c.fact 23 (f := .free "any") rfl)
  have m_bool := He.free_ok X G (c.fact 24 (f := .free "bool") rfl)
  have m_enumerate := He.free_ok X G (c.fact 25 (f := .free "enumerate") rfl)
  have m_int := He.free_ok X G (c.fact 26 (f := .free "int") rfl)
  have m_isinstance := He.free_ok X G (c.fact 27 (f := .free "isinstance") rfl)
  have m_len := He.free_ok X G (c.fact 28 (f := .free "len") rfl)
  have m_list := He.free_ok X G (c.fact 29 (f := .free "list") rfl)
  have m_max := He.free_ok X G (c.fact 30 (f := .free "max") rfl)
  have m_range := He.free_ok X G (c.fact 31 (f := .free "range") rfl)
  have m_tuple := He.free_ok X G (c.fact 32 (f := .free "tuple") rfl)
  have m_zip := He.free_ok X G (c.fact 33 (f := .free "zip") rfl)
  have g_Poly := He.glo_ok X G (c.fact 34 (f := .glo "Poly") rfl)
  have pc_Poly := polyB_ok (cV.xa 0 (x := fun K => polyB K (He.ga K "Poly")) rfl)
  have e := hfa.symm.trans g_law
  cases e
  have b_law := FunD.bindsA (ps := ["_law_script"]) F_law fun _ _ _ _ _ _ us hl => match us, hl with | [_], _ => rfl
  refine ⟨fd_law, fun s v => b_law s [v] rfl, fun base _ _ => ?_⟩
  have c_trim : Fn Pg w K mg base 1 "trim" ["coefs"] [] (spD K 1 ph_trim) := ⟨_, fd_trim, [], g_trim, F_trim.kp, F_trim.bindsN fun _ _ _ _ _ _ us hl => match us, hl with | [_], _ => rfl, .nil, ok_trim (k := 0) F_trim m_len m_tuple⟩
  have c_times : Fn Pg w K mg base 2 "times" ["first", "second"] [] (spD K 2 ph_times) := ⟨_, fd_times, [], g_times, F_times.kp, F_times.bindsN fun _ _ _ _ _ _ us hl => match us, hl with | [_, _], _ => rfl, .nil, ok_times (k := 1) F_times m_enumerate m_len m_range (c_trim.mono (by decide))⟩
  have c_derived : Fn Pg w K mg base 2 "derived" ["coefs"] [] (spD K 1 ph_derived) := ⟨_, fd_derived, [], g_derived, F_derived.kp, F_derived.bindsN fun _ _ _ _ _ _ us hl => match us, hl with | [_], _ => rfl, .nil, ok_derived (k := 1) F_derived m_enumerate (c_trim.mono (by decide))⟩
  have c_common_divisor : Fn Pg w K mg base 1 "common_divisor" ["first", "second"] [] (spD K 2 ph_gcd) := ⟨_, fd_common_divisor, [], g_common_divisor, F_common_divisor.kp, F_common_divisor.bindsN fun _ _ _ _ _ _ us hl => match us, hl with | [_, _], _ => rfl, .nil, ok_common_divisor (k := 0) F_common_divisor m_abs⟩
  have c_primitive : Fn Pg w K mg base 2 "primitive" ["coefs"] [] (spD K 1 ph_primitive) := ⟨_, fd_primitive, [], g_primitive, F_primitive.kp, F_primitive.bindsN fun _ _ _ _ _ _ us hl => match us, hl with | [_], _ => rfl, .nil, ok_primitive (k := 1) F_primitive m_len m_tuple (c_common_divisor.mono (by decide))⟩
  have c_quotient : Fn Pg w K mg base 2 "quotient" ["first", "second"] [] (spD K 2 ph_quotient) := ⟨_, fd_quotient, [], g_quotient, F_quotient.kp, F_quotient.bindsN fun _ _ _ _ _ _ us hl => match us, hl with | [_, _], _ => rfl, .nil, ok_quotient (k := 1) F_quotient m_any m_enumerate m_len m_list m_range (c_trim.mono (by decide))⟩
  have c_remainder : Fn Pg w K mg base 2 "remainder" ["first", "second"] [] (spD K 2 ph_remainder) := ⟨_, fd_remainder, [], g_remainder, F_remainder.kp, F_remainder.bindsN fun _ _ _ _ _ _ us hl => match us, hl with | [_, _], _ => rfl, .nil, ok_remainder (k := 1) F_remainder m_len m_tuple m_zip (c_trim.mono (by decide))⟩
  have c_common_factor : Fn Pg w K mg base 3 "common_factor" ["first", "second"] [] (spD K 2 ph_common_factor) := ⟨_, fd_common_factor, [], g_common_factor, F_common_factor.kp, F_common_factor.bindsN fun _ _ _ _ _ _ us hl => match us, hl with | [_, _], _ => rfl, .nil, ok_common_factor (k := 2) F_common_factor m_len (c_primitive.mono (by decide)) (c_remainder.mono (by decide))⟩
  have c_split_coefs : Fn Pg w K mg base 4 "split_coefs" ["coefs"] [] (spD K 1 ph_split_coefs) := ⟨_, fd_split_coefs, [], g_split_coefs, F_split_coefs.kp, F_split_coefs.bindsN fun _ _ _ _ _ _ us hl => match us, hl with | [_], _ => rfl, .nil, ok_split_coefs (k := 3) F_split_coefs m_len m_range (c_times.mono (by decide)) (c_derived.mono (by decide)) (c_primitive.mono (by decide)) (c_quotient.mono (by decide)) (c_common_factor.mono (by decide))⟩
  have mk_Poly := mkB_ok (cV.xa 1 (x := fun K => mkB K (He.ga K "Poly")) rfl)
  have c_Poly : FnS Pg w K mg base 3 "Poly" (ph_Poly___init__ (He.ga K "Poly")) := ⟨_, g_Poly, mk_Poly.kp, mk_spSt mk_Poly (ok_Poly___init__ (k := 1) F_Poly___init__ (c_trim.mono (by decide)) pc_Poly) StX.cxUp⟩
  have c_split_square : Fn Pg w K mg base 5 "split_square" ["poly"] [] (spD K 1 (ph_split_square (He.ga K "Poly"))) := ⟨_, fd_split_square, [], g_split_square, F_split_square.kp, F_split_square.bindsN fun _ _ _ _ _ _ us hl => match us, hl with | [_], _ => rfl, .nil, ok_split_square (k := 4) F_split_square (c_split_coefs.mono (by decide)) g_Poly (c_Poly.mono (by decide)) pc_Poly⟩
  have c__law_box : Fn Pg w K mg base 1 "_law_box" ["_law_script"] [] (spBox K) := ⟨_, fd__law_box, [], g__law_box, F__law_box.kp, F__law_box.bindsN fun _ _ _ _ _ _ us hl => match us, hl with | [_], _ => rfl, .nil, ok__law_box (k := 0) F__law_box m_abs m_int⟩
  have c__law_take : Fn Pg w K mg base 1 "_law_take" ["_law_box_here", "_law_size"] [] (spB K 2 ph_take) := ⟨_, fd__law_take, [], g__law_take, F__law_take.kp, F__law_take.bindsN fun _ _ _ _ _ _ us hl => match us, hl with | [_, _], _ => rfl, .nil, ok__law_take (k := 0) F__law_take m_int m_len⟩
  have c__law_trim : Fn Pg w K mg base 1 "_law_trim" ["_law_row_here"] [] (spD K 1 ph__law_trim) := ⟨_, fd__law_trim, [], g__law_trim, F__law_trim.kp, F__law_trim.bindsN fun _ _ _ _ _ _ us hl => match us, hl with | [_], _ => rfl, .nil, ok__law_trim (k := 0) F__law_trim m_len m_range⟩
  have c__law_times : Fn Pg w K mg base 2 "_law_times" ["_law_a", "_law_b"] [] (spD K 2 ph__law_times) := ⟨_, fd__law_times, [], g__law_times, F__law_times.kp, F__law_times.bindsN fun _ _ _ _ _ _ us hl => match us, hl with | [_, _], _ => rfl, .nil, ok__law_times (k := 1) F__law_times m_len m_range (c__law_trim.mono (by decide))⟩
  have c__law_factor : Fn Pg w K mg base 2 "_law_factor" ["_law_box_here"] [] (spB K 1 ph__law_factor) := ⟨_, fd__law_factor, [], g__law_factor, F__law_factor.kp, F__law_factor.bindsN fun _ _ _ _ _ _ us hl => match us, hl with | [_], _ => rfl, .nil, ok__law_factor (k := 1) F__law_factor (c__law_take.mono (by decide))⟩
  have c__law_is_integer : Fn Pg w K mg base 1 "_law_is_integer" ["_law_value"] [] (spD K 1 ph__law_is_integer) := ⟨_, fd__law_is_integer, [], g__law_is_integer, F__law_is_integer.kp, F__law_is_integer.bindsN fun _ _ _ _ _ _ us hl => match us, hl with | [_], _ => rfl, .nil, ok__law_is_integer (k := 0) F__law_is_integer m_bool m_int m_isinstance⟩
  have c__law_row : Fn Pg w K mg base 2 "_law_row" ["_law_poly_here"] [] (spD K 1 (ph__law_row (He.ga K "Poly"))) := ⟨_, fd__law_row, [], g__law_row, F__law_row.kp, F__law_row.bindsN fun _ _ _ _ _ _ us hl => match us, hl with | [_], _ => rfl, .nil, ok__law_row (k := 1) F__law_row m_isinstance m_len m_list m_tuple (c__law_is_integer.mono (by decide)) g_Poly pc_Poly⟩
  have c__law_gcd : Fn Pg w K mg base 1 "_law_gcd" ["_law_a", "_law_b"] [] (spD K 2 ph_gcd) := ⟨_, fd__law_gcd, [], g__law_gcd, F__law_gcd.kp, F__law_gcd.bindsN fun _ _ _ _ _ _ us hl => match us, hl with | [_, _], _ => rfl, .nil, ok__law_gcd (k := 0) F__law_gcd m_abs m_int⟩
  have c__law_primitive : Fn Pg w K mg base 2 "_law_primitive" ["_law_row_here"] [] (spD K 1 ph__law_primitive) := ⟨_, fd__law_primitive, [], g__law_primitive, F__law_primitive.kp, F__law_primitive.bindsN fun _ _ _ _ _ _ us hl => match us, hl with | [_], _ => rfl, .nil, ok__law_primitive (k := 1) F__law_primitive m_max (c__law_gcd.mono (by decide))⟩
  have c__law_divides : Fn Pg w K mg base 2 "_law_divides" ["_law_row_here", "_law_part"] [] (spD K 2 ph__law_dividesP) := ⟨_, fd__law_divides, [], g__law_divides, F__law_divides.kp, F__law_divides.bindsN fun _ _ _ _ _ _ us hl => match us, hl with | [_, _], _ => rfl, .nil, ok__law_divides (k := 1) F__law_divides m_int m_len m_list m_range (c__law_trim.mono (by decide))⟩
  have c__law_double_root : Fn Pg w K mg base 1 "_law_double_root" ["_law_row_here"] [] (spD K 1 ph__law_double_root) := ⟨_, fd__law_double_root, [], g__law_double_root, F__law_double_root.kp, F__law_double_root.bindsN fun _ _ _ _ _ _ us hl => match us, hl with | [_], _ => rfl, .nil, ok__law_double_root (k := 0) F__law_double_root m_len m_range⟩
  have c_Poly_of : FnCm Pg w K mg base 4 (He.ga K "Poly") "of" 2 (ph_Poly_of (He.ga K "Poly")) := ⟨_, _, _, creadB_ok (cV.xa 2 (x := fun K => creadB K (He.ga K "Poly")) rfl), cmetB_ok (cV.xa 3 (x := fun K => cmetB K (He.ga K "Poly") "of") rfl), raw0 (ok_Poly_of (k := 3) F_Poly_of (c_Poly.mono (by decide)) g_Poly) (F_Poly_of.bindsN fun _ _ _ _ _ _ us hl => match us, hl with | [_, _], _ => rfl)⟩
  exact ok_law (k := 5) F_law m_isinstance m_len m_range m_tuple (c_split_square.mono (by decide)) (c__law_box.mono (by decide)) (c__law_take.mono (by decide)) (c__law_trim.mono (by decide)) (c__law_times.mono (by decide)) (c__law_factor.mono (by decide)) (c__law_row.mono (by decide)) (c__law_primitive.mono (by decide)) (c__law_divides.mono (by decide)) (c__law_double_root.mono (by decide)) g_Poly (c_Poly_of.mono (by decide)) pc_Poly
end Lk
open PySem PySem.W PySem.Calls PyProof.Rows
set_option maxRecDepth 100000 in
set_option maxHeartbeats 0 in
theorem PySem.Challenge.cw_lookstop_k13_whole_repeated_factors_spli_holds : PySem.Challenge.rw_lookstop_k13_whole_repeated_factors_spli.Holds := by
  w_on; o_law
  refine HandSHeadRun.head_any (r := OpenLaw.row PySem.Challenge.rw_lookstop_k13_whole_repeated_factors_spli) (q := view (OpenLaw.row PySem.Challenge.rw_lookstop_k13_whole_repeated_factors_spli).prog [49]) (H := Lk.hk) (ob := Lk.ob) (M := 8000) (loose := Lk.loose) (d := HandSHeadRun.topDef (OpenLaw.row PySem.Challenge.rw_lookstop_k13_whole_repeated_factors_spli).prog 49) (kwd := []) Lk.ob_eq
    (by kernel_rfl) (fun s => by kernel_rfl) Lk.run (by kernel_rfl) (by kernel_rfl) (by kernel_rfl) (by rfl) (by first | assumption | decide +kernel) (by decide +kernel) ⟨rfl, rfl, rfl, rfl, rfl, by decide +kernel⟩ ?hw ?hc
  case hw => w_witness2
  case hc =>
    refine VS.walk_ofW (l := PySem.Challenge.rw_lookstop_k13_whole_repeated_factors_spli) (n := 63) (k := 6) (x := "_law_script") rfl (by decide) (by kernel_rfl) ⟨rfl, by decide, by decide⟩ ?F
    intro w mg fa h Y G hmg0
    obtain ⟨K, KX, c⟩ := Y
    have hmg : mg ("law" : PySem.Str) = some (.ref fa) := by
      have e : (HandSHeadRun.topDef (OpenLaw.row PySem.Challenge.rw_lookstop_k13_whole_repeated_factors_spli).prog 49).name = ("law" : PySem.Str) := by kernel_rfl
      rw [← e]
      exact hmg0
    obtain ⟨fd, hb, hF⟩ := Lk.facts (w := w) KX G hmg c
    exact ⟨K, fd, VS.spLaw K, KX, hb, fun H a ns hl _ hS => ⟨a, ns, rfl, hS, hl, fun _ => rfl⟩, hF⟩
