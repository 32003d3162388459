import PyProof.Rows.All
import Wide.All
import OpenK.AllK
import Wide.FinOn
import HandS.ExcCtx
import HandS.ExcInit
import HandS.Star
import HandS.WordsExc
import HandS.ForMost
import HandS.ForExc
import HandS.Wide
import HandS.HeadNt
import PyProof.ExcBaseAll.ValueError
import PyProof.InstNe
import HandS.Defaults
import HandS.IsInst
import HandS.TupLe
import HandS.Style
import HandS.Head0
import HandS.Head1
import HandS.Head2
import HandS.HeadEnd
import HandS.HeadHook1
import HandS.HeadHook2
import HandS.TupMul
import HandS.TupAny
import HandS.Zip
import HandS.Nested
import KE.KExcSuper
import HandS.ExcIs
import HandS.ExcField
import HandS.ExcOwn
import KE.KExcIs
import HandS.Text
import HandS.Codes
import HandS.Iter
import HandS.FStr
import KE.GoesMore
import KE.GoesEnum
import HandS.Property
import HandS.ClsMeth
import KE.KOpsOwn
import KE.KCallOwn
import HandS.DictComp
import KE.KDictDisplayH
import KE.KDictCopyH
import KE.KDictOf
import HandS.Deep
import HandS.DictTup
import HandS.Conv
import HandS.MakeKwOnly
import HandS.TryOnly
import KE.KEqNest
import PyProof.CompUse
import KE.KRevSl
import PyProof.StrBlock2
import HandS.CallSlots
import KE.KDictItemsList
import PySem.Challenge.RW_lookstop_k27_tables_as_values
set_option Elab.async false
set_option linter.all false
set_option maxRecDepth 100000
set_option maxHeartbeats 2000000
/-! promises of defs that raise, with the word that the exception's context is None -/
namespace VS
open PySem PySem.Spec PyProof.Rows L2
theorem passLn {X : Cx} : Passes (L2N.CX X.prog X.w) X E0 := fun _ _ _ _ _ _ _ h => by
  obtain ⟨_, _, _, _, _, _, _, _, _, _, _, _, z⟩ := h
  exact z.elim
theorem cxUpn {P : Program} {w : World} : StX.CXUp (L2N.CX P w) := by
  rintro outer s H s2 H2 E e s' un kp ho ⟨a, B, H', cls, d, ea, fl, hok, ub, na, os, ag, he⟩
  refine ⟨a, B, H', cls, d, ea, fl, hok, ⟨fun b o q n hb => ub.keep b o (kp b o q) (un.free b o q n (by simp)) hb, fun b o q hb => ub.slot b o (kp b o q) hb, fun b o q n => ub.free b o (kp b o q) (un.free b o q n (by simp)), fun b o q hb => ub.there b o (kp b o q) hb, fun b xs q => ub.tups b xs (un.tups b xs q), fun b o xs q => ub.frzs b o xs (un.frzs b o xs q), fun b ps q => ?_⟩, na, os.trans ho, ag, he⟩
  obtain ⟨m1, e1⟩ := un.tbls b ps q
  obtain ⟨m2, e2⟩ := ub.tbls b _ e1
  exact ⟨m1 ++ m2, by rw [e2, Array.append_assoc]⟩
section
variable {X : Cx} {e : Expr} {es : List Expr} {ta : TA} {p pos : Pos}
/-- X(e, ..) of one's own class with an __init__, to be raised: its context is None -/
theorem pmk_oexn {CX : CXT} {x : Str} {C fI : Addr} {k : Nat} {fd : FuncData} {ps : List Str} {sp : Sp} (T : OexC X.K C) (iC : PySem.W.findIn X.K (.ref C) "__init__" = some (some (.ref fI))) (tI : PySem.W.typeIn X.K (.ref fI) = some (.type "function"))
    (F1 : FnOk X.prog X.w X.K X.mg X.base CX k fI fd ps sp) (hr : Room (k + 1) X.A) (hb : Binds X.K fd ps []) (hx : Passes CX X (fun _ _ _ => False)) (hg : Gl X x) (hm : X.mg x = some (.ref C)) (ha : PA X (e :: es) ta)
    (hdb : (x == ("__debug__" : Str)) = false := by decide) (he : starEach (e :: es) X.env = (false, eval e X.env) :: starEach es X.env := by rfl) (hpl : (backTo pos (starEach es X.env)).any (·.1) = false := by rfl) :
    L2N.PMk X (.Call (.Name x p) (e :: es) [] pos) (tMkO C sp [] ta) := fun pins s σ H Q I h => by
  obtain ⟨nm, q, N, bs, bm, sn, sub, ab, col, dd, k0, k1, k2, k3, k5, hC, hbm⟩ := T.cls
  refine wpAny_Call_Name_kw (ld_glob I hg hm ?_ hdb)
  refine PySem.W.callWith_K (h₀ := X.base) I.ok.mod.kin T.kC (thn (ha.run pos pins s σ H _ I h) fun us s1 ⟨vs, H1, I1, r1, hz, q1⟩ => ⟨I1.kIn, ?_⟩) he hpl
  show wpAny _ _ (call (.ref C) us) _ _ _
  obtain ⟨hp, g, dr, tk, os⟩ := s1
  have hsz : hp.objs.size ≤ hp.objs.size + 1 := Nat.le_succ _
  have hq := q1 (hp.objs.size + 1) (I1.hok.fresh hsz)
  rw [List.append_nil] at hq
  have kk : ∀ b o, hp.get? b = some o → ((hp.push (PySem.W.kdv_tup us)).push (PySem.HandSPX.excO C hp.objs.size)).get? b = some o := fun b o e => Heap.get?_push_of_some _ (Heap.get?_push_of_some _ e)
  have I2 : Inv X pins σ (upd H1 (hp.objs.size + 1) (exo (hp.objs.size + 1) C none)) ⟨(hp.push (PySem.W.kdv_tup us)).push (PySem.HandSPX.excO C hp.objs.size), g, dr, tk, os⟩ :=
    I1.laid (t' := tk) (a := hp.objs.size + 1) (o := exo (hp.objs.size + 1) C none) (h' := (hp.push (PySem.W.kdv_tup us)).push (PySem.HandSPX.excO C hp.objs.size)) kk hsz (exo_ok (by heap_get))
  have r2 : Vals (V.ref (hp.objs.size + 1) :: vs) (Value.ref (hp.objs.size + 1) :: us) := .cons rfl r1
  have hl : (Value.ref (hp.objs.size + 1) :: us ++ []).length = ps.length := by
    rw [List.append_nil, ← r2.length]
    exact F1.len _ _ _ _ hq
  have hus : us.length ≤ sizeLine := by rw [← Paired.length r1, sizeLine_eq]; omega
  have hbb := hb _ (Value.ref (hp.objs.size + 1) :: us) I2.kIn hl
  rw [List.append_nil] at hbb
  refine wpAny_call (PySem.HandSPX.call_own PySem.F.excBase_ValueError (fun Y => PySem.HandSPX.refsVE_contains Y bm hbm) (I1.kIn _ _ hC) (PySem.W.looks_findIn I1.kIn iC) (fun self => PySem.W.bind_fn I1.kIn self tI) hus
    (codeAny_mono (F1.run _ X.stack _ _ ⟨Value.ref (hp.objs.size + 1) :: us, []⟩ (Value.ref (hp.objs.size + 1) :: us) _ _ (fun _ _ _ => False) (hr.make C us []) (I2.env0.make C us []) hbb r2 hq) fun r s' hq' => ?_))
  cases r with
  | error er => exact hx pins σ _ _ er s' I2 hq'
  | ok fl =>
    cases fl with
    | ret u =>
      obtain ⟨v, H2, os2, bare2, un2, hok2, rv, ev, d, fs, ea, ed, hd1, q2⟩ := hq'
      subst ev
      obtain ⟨h2, g2, d2, t2, os'⟩ := s'
      obtain ⟨t0, G, J, kG, ge, hoe, na⟩ := mk_end0 (d2 := d2) (t2 := t2) I1 hsz kk un2 hok2 os2 bare2 ea ed hd1
      exact ⟨rv, _, _, _, ⟨G, g2, d2, t2, os'⟩, _, .ref C, some d, rfl, J, kG, ge, hoe, ⟨rfl, rfl, fun vs e => by cases e; rfl⟩, rfl, rfl, na, rfl, bare2, raises_own T.exC T.tyC, q2⟩
    | next => exact False.elim hq'
    | brk => exact False.elim hq'
    | cont => exact False.elim hq'
end
end VS
set_option Elab.async false
set_option linter.all false
set_option maxRecDepth 100000
/-! Values without a heap: data, where they stand, and the program's steps read over data alone. -/
namespace VS
open PySem PySem.Spec L2

/-- data -/
inductive Dt where
  | non | bl (b : Bool) | int (i : Int) | str (x : Str) | ty (n : String) | adr (a : Addr)
  | tup (xs : List Dt) | lst (xs : List Dt) | frl (xs : List Dt)
  | dT (ks : List (List Key)) (xs : List Dt)
  | dK (ks : List Key) (xs : List Dt)
  | obj (C : Addr) (ns : List Str) (xs : List Dt)
  | exv (a : Addr) (ns : List Str) (xs : List Dt) (d : Option Addr)
  | at_ (a : Addr) (d : Dt)
  | key (ks : List Key)

mutual
/-- v is d in the heap F -/
def Rp (K : PySem.W.Frag) (F : Hp) : Dt → V → Prop
  | .non, v => v = .non
  | .bl b, v => v = .bl b
  | .int i, v => v = .int i
  | .str x, v => v = .str x
  | .ty n, v => v = .ty n
  | .adr a, v => v = .ref a
  | .tup xs, v => ∃ a vs, v = .ref a ∧ SqT K F a vs ∧ RpL K F xs vs
  | .lst xs, v => ∃ a vs, v = .ref a ∧ F a = some (.lst vs) ∧ RpL K F xs vs
  | .frl xs, v => ∃ a vs, v = .ref a ∧ SqL K F a vs ∧ RpL K F xs vs
  | .dT ks xs, v => ∃ a vs, v = .ref a ∧ Rd F a (.dT (ks.zip vs)) ∧ ks.length = vs.length ∧ RpL K F xs vs
  | .dK ks xs, v => ∃ a vs, v = .ref a ∧ Rd F a (.dK (ks.zip vs)) ∧ ks.length = vs.length ∧ RpL K F xs vs
  | .obj C ns xs, v => ∃ a dx vs, v = .ref a ∧ F a = some (.ins C dx (ns.zip vs)) ∧ ns.length = vs.length ∧ RpL K F xs vs
  | .exv a ns xs d, v => v = .ref a ∧ ∀ dx, d = some dx → ∃ vs, F dx = some (.xd (ns.zip vs)) ∧ ns.length = vs.length ∧ RpL K F xs vs
  | .at_ a d, v => v = .ref a ∧ Rp K F d v
  | .key ks, v => ∃ a, v = .ref a ∧ F a = some (.tup (ks.map kV))
def RpL (K : PySem.W.Frag) (F : Hp) : List Dt → List V → Prop
  | [], vs => vs = []
  | d :: ds, vs => ∃ v r, vs = v :: r ∧ Rp K F d v ∧ RpL K F ds r
end

theorem sq_t {K : PySem.W.Frag} {F F' : Hp} {a : Addr} {xs : List V} (e : Same F F') (h : SqT K F a xs) : SqT K F' a xs := by
  rcases h with (h | ⟨o, h⟩) | h
  · exact .inl (.inl (e _ _ h))
  · exact .inl (.inr ⟨o, e _ _ h⟩)
  · exact .inr h

theorem rd_mono {F F' : Hp} {a : Addr} {u : HO} (e : Same F F') (h : Rd F a u) : Rd F' a u := by
  rcases h with h | ⟨o, h⟩
  · exact .inl (e _ _ h)
  · exact .inr ⟨o, e _ _ h⟩

mutual
theorem Rp.mono {K : PySem.W.Frag} {F F' : Hp} (e : Same F F') : ∀ {d : Dt} {v : V}, Rp K F d v → Rp K F' d v
  | .non, _, h => by simp only [Rp] at h ⊢; exact h
  | .bl _, _, h => by simp only [Rp] at h ⊢; exact h
  | .int _, _, h => by simp only [Rp] at h ⊢; exact h
  | .str _, _, h => by simp only [Rp] at h ⊢; exact h
  | .ty _, _, h => by simp only [Rp] at h ⊢; exact h
  | .adr _, _, h => by simp only [Rp] at h ⊢; exact h
  | .tup xs, _, h => by
    simp only [Rp] at h ⊢
    obtain ⟨a, vs, h1, h2, h3⟩ := h
    exact ⟨a, vs, h1, sq_t e h2, RpL.mono e h3⟩
  | .lst xs, _, h => by
    simp only [Rp] at h ⊢
    obtain ⟨a, vs, h1, h2, h3⟩ := h
    exact ⟨a, vs, h1, e _ _ h2, RpL.mono e h3⟩
  | .frl xs, _, h => by
    simp only [Rp] at h ⊢
    obtain ⟨a, vs, h1, h2, h3⟩ := h
    exact ⟨a, vs, h1, e.seq h2, RpL.mono e h3⟩
  | .dT ks xs, _, h => by
    simp only [Rp] at h ⊢
    obtain ⟨a, vs, h1, h2, h4, h3⟩ := h
    exact ⟨a, vs, h1, rd_mono e h2, h4, RpL.mono e h3⟩
  | .dK ks xs, _, h => by
    simp only [Rp] at h ⊢
    obtain ⟨a, vs, h1, h2, h4, h3⟩ := h
    exact ⟨a, vs, h1, rd_mono e h2, h4, RpL.mono e h3⟩
  | .key ks, _, h => by
    simp only [Rp] at h ⊢
    obtain ⟨a, h1, h2⟩ := h
    exact ⟨a, h1, e _ _ h2⟩
  | .obj C ns xs, _, h => by
    simp only [Rp] at h ⊢
    obtain ⟨a, dx, vs, h1, h2, h4, h3⟩ := h
    exact ⟨a, dx, vs, h1, e _ _ h2, h4, RpL.mono e h3⟩
  | .exv a ns xs d, _, h => by
    simp only [Rp] at h ⊢
    refine ⟨h.1, fun dx hd => ?_⟩
    obtain ⟨vs, h1, h2, h3⟩ := h.2 dx hd
    exact ⟨vs, e _ _ h1, h2, RpL.mono e h3⟩
  | .at_ a d, _, h => by
    simp only [Rp] at h ⊢
    exact ⟨h.1, Rp.mono e h.2⟩
theorem RpL.mono {K : PySem.W.Frag} {F F' : Hp} (e : Same F F') : ∀ {ds : List Dt} {vs : List V}, RpL K F ds vs → RpL K F' ds vs
  | [], _, h => by simp only [RpL] at h ⊢; exact h
  | d :: ds, _, h => by
    simp only [RpL] at h ⊢
    obtain ⟨v, r, h1, h2, h3⟩ := h
    exact ⟨v, r, h1, Rp.mono e h2, RpL.mono e h3⟩
end

section
variable {K : PySem.W.Frag} {F : Hp}
theorem RpL.nil : RpL K F [] [] := by simp only [RpL]
theorem RpL.cons {d : Dt} {v : V} {ds : List Dt} {vs : List V} (h : Rp K F d v) (t : RpL K F ds vs) : RpL K F (d :: ds) (v :: vs) := by
  simp only [RpL]
  exact ⟨v, vs, rfl, h, t⟩
theorem RpL.of_cons {d : Dt} {ds : List Dt} {vs : List V} (h : RpL K F (d :: ds) vs) : ∃ v r, vs = v :: r ∧ Rp K F d v ∧ RpL K F ds r := by
  simp only [RpL] at h
  exact h
theorem RpL.of_nil {vs : List V} (h : RpL K F [] vs) : vs = [] := by
  simp only [RpL] at h
  exact h
theorem RpL.length : ∀ {ds : List Dt} {vs : List V}, RpL K F ds vs → ds.length = vs.length
  | [], _, h => by rw [h.of_nil]; rfl
  | d :: ds, _, h => by
    obtain ⟨v, r, rfl, _, t⟩ := h.of_cons
    simp only [List.length_cons]
    rw [RpL.length t]
theorem RpL.get : ∀ {ds : List Dt} {vs : List V} {i : Nat} {d : Dt}, RpL K F ds vs → ds[i]? = some d → ∃ v, vs[i]? = some v ∧ Rp K F d v
  | [], _, i, d, _, e => by simp at e
  | d0 :: ds, _, 0, d, h, e => by
    obtain ⟨v, r, rfl, h1, t⟩ := h.of_cons
    have e' : d0 = d := by simpa using e
    exact ⟨v, rfl, e' ▸ h1⟩
  | d0 :: ds, _, i + 1, d, h, e => by
    obtain ⟨v, r, rfl, h1, t⟩ := h.of_cons
    obtain ⟨v', e1, e2⟩ := RpL.get (i := i) (d := d) t (by simpa using e)
    exact ⟨v', by simpa using e1, e2⟩
theorem RpL.getV : ∀ {ds : List Dt} {vs : List V} {i : Nat} {v : V}, RpL K F ds vs → vs[i]? = some v → ∃ d, ds[i]? = some d ∧ Rp K F d v := fun {ds vs i v} h e => by
  have hl := h.length
  have hi : i < ds.length := by rw [hl]; exact (List.getElem?_eq_some_iff.mp e).1
  obtain ⟨v', e1, e2⟩ := h.get (List.getElem?_eq_getElem hi)
  rw [e] at e1
  cases e1
  exact ⟨_, List.getElem?_eq_getElem hi, e2⟩
theorem RpL.append : ∀ {ds es : List Dt} {vs ws : List V}, RpL K F ds vs → RpL K F es ws → RpL K F (ds ++ es) (vs ++ ws)
  | [], _, _, _, h, t => by rw [h.of_nil]; exact t
  | d :: ds, _, _, _, h, t => by
    obtain ⟨v, r, rfl, h1, h2⟩ := h.of_cons
    exact .cons h1 (RpL.append h2 t)
theorem RpL.take : ∀ {ds : List Dt} {vs : List V} (n : Nat), RpL K F ds vs → RpL K F (ds.take n) (vs.take n)
  | _, _, 0, h => by simp only [List.take_zero]; exact .nil
  | [], _, n + 1, h => by rw [h.of_nil]; exact .nil
  | d :: ds, _, n + 1, h => by
    obtain ⟨v, r, rfl, h1, h2⟩ := h.of_cons
    exact .cons h1 (RpL.take n h2)
theorem RpL.drop : ∀ {ds : List Dt} {vs : List V} (n : Nat), RpL K F ds vs → RpL K F (ds.drop n) (vs.drop n)
  | _, _, 0, h => h
  | [], _, n + 1, h => by rw [h.of_nil]; exact .nil
  | d :: ds, _, n + 1, h => by
    obtain ⟨v, r, rfl, h1, h2⟩ := h.of_cons
    exact RpL.drop n h2
theorem rp_int {i : Int} {v : V} : Rp K F (.int i) v ↔ v = .int i := by simp only [Rp]
theorem rp_bl {i : Bool} {v : V} : Rp K F (.bl i) v ↔ v = .bl i := by simp only [Rp]
theorem rp_str {i : Str} {v : V} : Rp K F (.str i) v ↔ v = .str i := by simp only [Rp]
theorem rp_non {v : V} : Rp K F .non v ↔ v = .non := by simp only [Rp]
theorem rp_adr {a : Addr} {v : V} : Rp K F (.adr a) v ↔ v = .ref a := by simp only [Rp]
theorem rp_ty {n : String} {v : V} : Rp K F (.ty n) v ↔ v = .ty n := by simp only [Rp]
theorem rp_tup {xs : List Dt} {v : V} : Rp K F (.tup xs) v ↔ ∃ a vs, v = .ref a ∧ SqT K F a vs ∧ RpL K F xs vs := by simp only [Rp]
theorem rp_lst {xs : List Dt} {v : V} : Rp K F (.lst xs) v ↔ ∃ a vs, v = .ref a ∧ F a = some (.lst vs) ∧ RpL K F xs vs := by simp only [Rp]
theorem rp_frl {xs : List Dt} {v : V} : Rp K F (.frl xs) v ↔ ∃ a vs, v = .ref a ∧ SqL K F a vs ∧ RpL K F xs vs := by simp only [Rp]
theorem rp_key {ks : List Key} {v : V} : Rp K F (.key ks) v ↔ ∃ a, v = .ref a ∧ F a = some (.tup (ks.map kV)) := by simp only [Rp]
theorem rp_dT {ks : List (List Key)} {xs : List Dt} {v : V} : Rp K F (.dT ks xs) v ↔ ∃ a vs, v = .ref a ∧ Rd F a (.dT (ks.zip vs)) ∧ ks.length = vs.length ∧ RpL K F xs vs := by simp only [Rp]
theorem rp_exv {a : Addr} {ns : List Str} {xs : List Dt} {d : Option Addr} {v : V} : Rp K F (.exv a ns xs d) v ↔ v = .ref a ∧ ∀ dx, d = some dx → ∃ vs, F dx = some (.xd (ns.zip vs)) ∧ ns.length = vs.length ∧ RpL K F xs vs := by simp only [Rp]
theorem rp_obj {C : Addr} {ns : List Str} {xs : List Dt} {v : V} : Rp K F (.obj C ns xs) v ↔ ∃ a dx vs, v = .ref a ∧ F a = some (.ins C dx (ns.zip vs)) ∧ ns.length = vs.length ∧ RpL K F xs vs := by simp only [Rp]
theorem RpL.ints : ∀ {ns : List Int} {vs : List V}, RpL K F (ns.map Dt.int) vs → vs = ns.map V.int
  | [], _, h => h.of_nil
  | n :: ns, _, h => by
    obtain ⟨v, r, rfl, h1, h2⟩ := h.of_cons
    rw [rp_int.mp h1, RpL.ints h2]
    rfl
theorem RpL.of_ints : ∀ {ns : List Int}, RpL K F (ns.map Dt.int) (ns.map V.int)
  | [] => .nil
  | n :: ns => .cons (rp_int.mpr rfl) RpL.of_ints
end

/-- there, and no tuple -/
def NT (o : Option HO) : Prop := ∃ u, o = some u ∧ ∀ xs, u ≠ .tup xs
theorem NT.ne {o : Option HO} (h : NT o) : o ≠ none := by
  obtain ⟨u, e, _⟩ := h
  rw [e]
  exact fun z => nomatch z
/-! ### what may change besides: a region and its word -/
structure Reg where
  M : Addr → Prop
  B : Hp → Prop
  st : ∀ H H', (∀ a o, M a → H a = some o → H' a = some o) → B H → B H'
  Z : Hp → Hp → Prop
  zs : ∀ F H F', Same F F' → (∀ a, NT (H a) → F a = none → F' a = none) → Z F H → Z F' H
def Reg.nil : Reg := ⟨fun _ => False, fun _ => True, fun _ _ _ _ => trivial, fun _ _ => True, fun _ _ _ _ _ _ => trivial⟩

structure Wf (R : Reg) (F H : Hp) : Prop where
  fh : Same F H
  off : ∀ a, R.M a → F a = none
  oc : ∀ a, R.M a → NT (H a)
  b : R.B H
/-- from F, H on: F' is F and what is new, H' is H but for the region -/
structure Ext (R : Reg) (F H F' H' : Hp) : Prop where
  wf : Wf R F' H'
  ff : Same F F'
  hh : ∀ a o, ¬ R.M a → H a = some o → H' a = some o
  fr : ∀ a, NT (H a) → F a = none → F' a = none
theorem Ext.refl {R : Reg} {F H : Hp} (w : Wf R F H) : Ext R F H F H := ⟨w, .refl _, fun _ _ _ h => h, fun _ _ h => h⟩
theorem Ext.keep {R : Reg} {F H F' H' : Hp} (e : Ext R F H F' H') {a : Addr} (h : NT (H a)) : NT (H' a) := by
  by_cases q : R.M a
  · exact e.wf.oc a q
  · obtain ⟨u, h1, h2⟩ := h
    exact ⟨u, e.hh a u q h1, h2⟩
theorem Ext.keep0 {R : Reg} {F H F' H' : Hp} (e : Ext R F H F' H') {a : Addr} (h : H a ≠ none) : H' a ≠ none := by
  by_cases q : R.M a
  · exact (e.wf.oc a q).ne
  · cases z : H a with
    | none => exact absurd z h
    | some o => rw [e.hh a o q z]; exact fun z => nomatch z
theorem Ext.trans {R : Reg} {F H F1 H1 F2 H2 : Hp} (a : Ext R F H F1 H1) (b : Ext R F1 H1 F2 H2) : Ext R F H F2 H2 :=
  ⟨b.wf, a.ff.trans b.ff, fun x o n h => b.hh x o n (a.hh x o n h), fun x h n => b.fr x (a.keep h) (a.fr x h n)⟩
theorem Wf.new {R : Reg} {F H : Hp} {p : Addr} (w : Wf R F H) (h : H p = none) : ¬ R.M p := fun z => (w.oc p z).ne h
theorem Wf.grow {R : Reg} {F F' H H' : Hp} (w : Wf R F H) (g : Same H H') (ff : Same F F') (fh : Same F' H') (fr : ∀ a, NT (H a) → F a = none → F' a = none) : Ext R F H F' H' := by
  refine ⟨⟨fh, fun a m => ?_, fun a m => ?_, R.st H H' (fun a o _ h => g a o h) w.b⟩, ff, fun a o _ h => g a o h, fr⟩
  · exact fr a (w.oc a m) (w.off a m)
  · obtain ⟨u, h1, h2⟩ := w.oc a m
    exact ⟨u, g a u h1, h2⟩
theorem same_upd {H : Hp} {p : Addr} {o : HO} (h : H p = none) : Same H (upd H p o) := fun b x e => by
  rw [upd_ne (ne_of_none e h)]
  exact e
theorem same_upd2 {F H : Hp} {p : Addr} {o : HO} (s : Same F H) (h : H p = none) : Same (upd F p o) (upd H p o) := fun b x e => by
  by_cases q : b = p
  · subst q; rw [upd_same] at e ⊢; exact e
  · rw [upd_ne q] at e ⊢; exact s b x e
/-- a new thing, known | a new thing, one's own -/
theorem Wf.made {R : Reg} {F H : Hp} {p : Addr} {o : HO} (w : Wf R F H) (h : H p = none) : Ext R F H (upd F p o) (upd H p o) :=
  w.grow (same_upd h) (same_upd (w.fh.free h)) (same_upd2 w.fh h) fun a ha hf => by rw [upd_ne (fun z => ha.ne (by rw [z]; exact h))]; exact hf
theorem Wf.own {R : Reg} {F H : Hp} {p : Addr} {o : HO} (w : Wf R F H) (h : H p = none) : Ext R F H F (upd H p o) :=
  w.grow (same_upd h) (.refl _) (w.fh.trans (same_upd h)) fun a ha hf => hf

/-! ### slots -/
inductive Sl where
  | no | sh (d : Dt) | ow (d : Dt)
/-- the thing at o, one's own, is d -/
def OwO (K : PySem.W.Frag) (F H : Hp) (o : Addr) : Dt → Prop
  | .lst xs => ∃ vs, H o = some (.lst vs) ∧ RpL K F xs vs
  | .dT ks xs => ∃ vs, H o = some (.dT (ks.zip vs)) ∧ ks.length = vs.length ∧ RpL K F xs vs
  | .dK ks xs => ∃ vs, H o = some (.dK (ks.zip vs)) ∧ ks.length = vs.length ∧ RpL K F xs vs
  | .obj C ns xs => ∃ dx vs, H o = some (.ins C dx (ns.zip vs)) ∧ ns.length = vs.length ∧ RpL K F xs vs
  | .at_ a (.obj C ns xs) => o = a ∧ ∃ dx vs, H o = some (.ins C dx (ns.zip vs)) ∧ ns.length = vs.length ∧ RpL K F xs vs
  | .at_ a (.lst xs) => o = a ∧ ∃ vs, H o = some (.lst vs) ∧ RpL K F xs vs
  | .at_ a (.dT ks xs) => o = a ∧ ∃ vs, H o = some (.dT (ks.zip vs)) ∧ ks.length = vs.length ∧ RpL K F xs vs
  | _ => False
/-- the kinds of one's own things -/
theorem OwO.kinds {K : PySem.W.Frag} {F H : Hp} {o : Addr} : ∀ {d : Dt}, OwO K F H o d → (∃ xs, d = .lst xs) ∨ (∃ ks xs, d = .dT ks xs) ∨ (∃ ks xs, d = .dK ks xs) ∨ (∃ C ns xs, d = .obj C ns xs) ∨ (∃ a C ns xs, d = .at_ a (.obj C ns xs)) ∨ (∃ a xs, d = .at_ a (.lst xs)) ∨ (∃ a ks xs, d = .at_ a (.dT ks xs))
  | .lst xs, _ => .inl ⟨xs, rfl⟩
  | .dT ks xs, _ => .inr (.inl ⟨ks, xs, rfl⟩)
  | .dK ks xs, _ => .inr (.inr (.inl ⟨ks, xs, rfl⟩))
  | .obj C ns xs, _ => .inr (.inr (.inr (.inl ⟨C, ns, xs, rfl⟩)))
  | .at_ a (.obj C ns xs), _ => .inr (.inr (.inr (.inr (.inl ⟨a, C, ns, xs, rfl⟩))))
  | .at_ a (.lst xs), _ => .inr (.inr (.inr (.inr (.inr (.inl ⟨a, xs, rfl⟩)))))
  | .at_ a (.dT ks xs), _ => .inr (.inr (.inr (.inr (.inr (.inr ⟨a, ks, xs, rfl⟩)))))
  | .at_ _ .non, h | .at_ _ (.bl _), h | .at_ _ (.int _), h | .at_ _ (.str _), h | .at_ _ (.ty _), h | .at_ _ (.adr _), h | .at_ _ (.tup _), h | .at_ _ (.frl _), h | .at_ _ (.dK _ _), h | .at_ _ (.exv ..), h | .at_ _ (.at_ _ _), h | .at_ _ (.key _), h => (show False from h).elim
  | .non, h | .bl _, h | .int _, h | .str _, h | .ty _, h | .adr _, h | .tup _, h | .frl _, h | .exv .., h | .key _, h => (show False from h).elim
theorem OwO.some {K : PySem.W.Frag} {F H : Hp} {o : Addr} {d : Dt} (h : OwO K F H o d) : H o ≠ none := by
  rcases h.kinds with ⟨xs, rfl⟩ | ⟨ks, xs, rfl⟩ | ⟨ks, xs, rfl⟩ | ⟨C, ns, xs, rfl⟩ | ⟨a, C, ns, xs, rfl⟩ | ⟨a, xs, rfl⟩ | ⟨a, ks, xs, rfl⟩
  · obtain ⟨vs, h, _⟩ := h; rw [h]; exact fun z => nomatch z
  · obtain ⟨vs, h, _⟩ := h; rw [h]; exact fun z => nomatch z
  · obtain ⟨vs, h, _⟩ := h; rw [h]; exact fun z => nomatch z
  · obtain ⟨dx, vs, h, _⟩ := h; rw [h]; exact fun z => nomatch z
  · obtain ⟨_, dx, vs, h, _⟩ := h; rw [h]; exact fun z => nomatch z
  · obtain ⟨_, vs, h, _⟩ := h; rw [h]; exact fun z => nomatch z
  · obtain ⟨_, vs, h, _⟩ := h; rw [h]; exact fun z => nomatch z
theorem OwO.nt {K : PySem.W.Frag} {F H : Hp} {o : Addr} {d : Dt} (h : OwO K F H o d) : NT (H o) := by
  rcases h.kinds with ⟨xs, rfl⟩ | ⟨ks, xs, rfl⟩ | ⟨ks, xs, rfl⟩ | ⟨C, ns, xs, rfl⟩ | ⟨a, C, ns, xs, rfl⟩ | ⟨a, xs, rfl⟩ | ⟨a, ks, xs, rfl⟩
  · obtain ⟨vs, h, _⟩ := h; exact ⟨_, h, fun _ z => nomatch z⟩
  · obtain ⟨vs, h, _⟩ := h; exact ⟨_, h, fun _ z => nomatch z⟩
  · obtain ⟨vs, h, _⟩ := h; exact ⟨_, h, fun _ z => nomatch z⟩
  · obtain ⟨dx, vs, h, _⟩ := h; exact ⟨_, h, fun _ z => nomatch z⟩
  · obtain ⟨_, dx, vs, h, _⟩ := h; exact ⟨_, h, fun _ z => nomatch z⟩
  · obtain ⟨_, vs, h, _⟩ := h; exact ⟨_, h, fun _ z => nomatch z⟩
  · obtain ⟨_, vs, h, _⟩ := h; exact ⟨_, h, fun _ z => nomatch z⟩
theorem OwO.mono {K : PySem.W.Frag} {F H F' H' : Hp} {o : Addr} {d : Dt} (ff : Same F F') (ho : ∀ u, H o = Option.some u → H' o = Option.some u) (h : OwO K F H o d) : OwO K F' H' o d := by
  rcases h.kinds with ⟨xs, rfl⟩ | ⟨ks, xs, rfl⟩ | ⟨ks, xs, rfl⟩ | ⟨C, ns, xs, rfl⟩ | ⟨a, C, ns, xs, rfl⟩ | ⟨a, xs, rfl⟩ | ⟨a, ks, xs, rfl⟩
  · obtain ⟨vs, h, r⟩ := h; exact ⟨vs, ho _ h, r.mono ff⟩
  · obtain ⟨vs, h, l, r⟩ := h; exact ⟨vs, ho _ h, l, r.mono ff⟩
  · obtain ⟨vs, h, l, r⟩ := h; exact ⟨vs, ho _ h, l, r.mono ff⟩
  · obtain ⟨dx, vs, h, l, r⟩ := h; exact ⟨dx, vs, ho _ h, l, r.mono ff⟩
  · obtain ⟨e, dx, vs, h, l, r⟩ := h; exact ⟨e, dx, vs, ho _ h, l, r.mono ff⟩
  · obtain ⟨e, vs, h, r⟩ := h; exact ⟨e, vs, ho _ h, r.mono ff⟩
  · obtain ⟨e, vs, h, l, r⟩ := h; exact ⟨e, vs, ho _ h, l, r.mono ff⟩
def SlOk (K : PySem.W.Frag) (R : Reg) (F H : Hp) : Sl → Option V → Prop
  | .no, _ => True
  | .sh d, v => ∃ x, v = some x ∧ Rp K F d x
  | .ow d, v => ∃ o, v = some (.ref o) ∧ F o = none ∧ ¬ R.M o ∧ OwO K F H o d
inductive SlsOk (K : PySem.W.Frag) (R : Reg) (F H : Hp) : List Sl → List (Option V) → Prop where
  | nil : SlsOk K R F H [] []
  | cons {g : Sl} {v : Option V} {Gs : List Sl} {vs : List (Option V)} (h : SlOk K R F H g v) (t : SlsOk K R F H Gs vs) : SlsOk K R F H (g :: Gs) (v :: vs)
/-- one's own things -/
def owns : List Sl → List (Option V) → List Addr
  | .ow _ :: G, some (.ref o) :: vs => o :: owns G vs
  | _ :: G, _ :: vs => owns G vs
  | _, _ => []
structure Ty (K : PySem.W.Frag) (R : Reg) (G : List Sl) (σ : St) (F H : Hp) : Prop where
  wf : Wf R F H
  sl : SlsOk K R F H G σ
  nd : (owns G σ).Nodup
section
variable {K : PySem.W.Frag} {R : Reg} {F H F' H' : Hp}
theorem SlOk.ext {g : Sl} {v : Option V} (h : SlOk K R F H g v) (e : Ext R F H F' H') : SlOk K R F' H' g v := by
  cases g with
  | no => trivial
  | sh d =>
    obtain ⟨x, h1, h2⟩ := h
    exact ⟨x, h1, h2.mono e.ff⟩
  | ow d =>
    obtain ⟨o, h1, h2, h3, h4⟩ := h
    exact ⟨o, h1, e.fr o h4.nt h2, h3, h4.mono e.ff fun u q => e.hh o u h3 q⟩
theorem SlsOk.ext {G : List Sl} {σ : St} (h : SlsOk K R F H G σ) (e : Ext R F H F' H') : SlsOk K R F' H' G σ := by
  induction h with
  | nil => exact .nil
  | cons h _ ih => exact .cons (h.ext e) ih
theorem Ty.ext {G : List Sl} {σ : St} (h : Ty K R G σ F H) (e : Ext R F H F' H') : Ty K R G σ F' H' := ⟨e.wf, h.sl.ext e, h.nd⟩
theorem SlsOk.get {G : List Sl} {σ : St} (h : SlsOk K R F H G σ) {i : Nat} {g : Sl} (e : G[i]? = some g) : ∃ v, σ[i]? = some v ∧ SlOk K R F H g v := by
  induction h generalizing i with
  | nil => simp at e
  | cons h t ih =>
    cases i with
    | zero =>
      have e' := Option.some.inj e
      subst e'
      exact ⟨_, rfl, h⟩
    | succ j => exact ih (i := j) (by simpa using e)
theorem SlsOk.len {G : List Sl} {σ : St} (h : SlsOk K R F H G σ) : G.length = σ.length := by
  induction h with
  | nil => rfl
  | cons _ _ ih => simp [ih]
theorem SlsOk.set {G : List Sl} {σ : St} (h : SlsOk K R F H G σ) (i : Nat) {g : Sl} {v : Option V} (q : SlOk K R F H g v) : SlsOk K R F H (G.set i g) (σ.set i v) := by
  induction h generalizing i with
  | nil => exact .nil
  | cons h t ih =>
    cases i with
    | zero => exact .cons q t
    | succ j => exact .cons h (ih j)
theorem owns_mem {G : List Sl} {σ : St} {o : Addr} (h : o ∈ owns G σ) : ∃ (i : Nat) (d : Dt), G[i]? = some (.ow d) ∧ σ[i]? = some (some (.ref o)) := by
  induction G generalizing σ with
  | nil => simp [owns] at h
  | cons g G ih =>
    cases σ with
    | nil => cases g <;> simp [owns] at h
    | cons v vs =>
      have step : o ∈ owns G vs → ∃ (i : Nat) (d : Dt), (g :: G)[i]? = some (.ow d) ∧ (v :: vs)[i]? = some (some (.ref o)) := fun z => by
        obtain ⟨i, d, h1, h2⟩ := ih z
        exact ⟨i + 1, d, by simpa using h1, by simpa using h2⟩
      cases g with
      | no => exact step (by simpa [owns] using h)
      | sh d => exact step (by simpa [owns] using h)
      | ow d =>
        cases v with
        | none => exact step (by simpa [owns] using h)
        | some x =>
          cases x with
          | ref p =>
            simp only [owns, List.mem_cons] at h
            rcases h with h | h
            · subst h; exact ⟨0, d, rfl, rfl⟩
            · exact step h
          | _ => exact step (by simpa [owns] using h)
theorem mem_owns {G : List Sl} {σ : St} {o : Addr} {i : Nat} {d : Dt} (h1 : G[i]? = some (.ow d)) (h2 : σ[i]? = some (some (.ref o))) : o ∈ owns G σ := by
  induction G generalizing σ i with
  | nil => simp at h1
  | cons g G ih =>
    cases σ with
    | nil => simp at h2
    | cons v vs =>
      cases i with
      | zero =>
        have e1 := Option.some.inj h1
        have e2 := Option.some.inj h2
        subst e1 e2
        simp [owns]
      | succ j =>
        have q : o ∈ owns G vs := ih (i := j) (by simpa using h1) (by simpa using h2)
        cases g with
        | no => simpa [owns] using q
        | sh d => simpa [owns] using q
        | ow d =>
          cases v with
          | none => simpa [owns] using q
          | some x => cases x <;> simp [owns, q]
/-- a slot set to what is not one's own -/
theorem owns_set_sub {G : List Sl} {σ : St} (i : Nat) {g : Sl} {v : Option V} (hg : ∀ d, g ≠ .ow d) : List.Sublist (owns (G.set i g) (σ.set i v)) (owns G σ) := by
  induction G generalizing σ i with
  | nil => simp [owns]
  | cons g0 G ih =>
    cases σ with
    | nil =>
      cases i with
      | zero => simp [owns]
      | succ j => simp [owns]
    | cons v0 vs =>
      cases i with
      | zero =>
        have e : owns (g :: G) (v :: vs) = owns G vs := by
          cases g with
          | no => simp [owns]
          | sh d => simp [owns]
          | ow d => exact absurd rfl (hg d)
        show List.Sublist (owns (g :: G) (v :: vs)) _
        rw [e]
        cases g0 with
        | no => simp [owns]
        | sh d => simp [owns]
        | ow d =>
          cases v0 with
          | none => simp [owns]
          | some x => cases x <;> simp [owns]
      | succ j =>
        have q := ih (σ := vs) (i := j)
        show List.Sublist (owns (g0 :: G.set j g) (v0 :: vs.set j v)) _
        cases g0 with
        | no => simpa [owns] using q
        | sh d => simpa [owns] using q
        | ow d =>
          cases v0 with
          | none => simpa [owns] using q
          | some x => cases x <;> simp [owns, q]
theorem Ty.set {G : List Sl} {σ : St} (h : Ty K R G σ F H) (i : Nat) {d : Dt} {x : V} (q : Rp K F d x) : Ty K R (G.set i (.sh d)) (σ.set i (some x)) F H :=
  ⟨h.wf, h.sl.set i ⟨x, rfl, q⟩, h.nd.sublist (owns_set_sub i fun _ z => nomatch z)⟩
theorem owns_set_own {G : List Sl} {σ : St} (i : Nat) {d : Dt} {o : Addr} : ∀ x ∈ owns (G.set i (.ow d)) (σ.set i (some (.ref o))), x = o ∨ x ∈ owns G σ := fun x hx => by
  obtain ⟨j, d', h1, h2⟩ := owns_mem hx
  by_cases e : j = i
  · subst e
    have hj : j < σ.length := by
      have := (List.getElem?_eq_some_iff.mp h2).1
      simpa using this
    rw [List.getElem?_set_self hj] at h2
    cases h2
    exact .inl rfl
  · rw [List.getElem?_set_ne (Ne.symm e)] at h1 h2
    exact .inr (mem_owns h1 h2)
theorem owns_nodup_set {G : List Sl} {σ : St} (i : Nat) {d : Dt} {o : Addr} (h : (owns G σ).Nodup) (n : o ∉ owns (G.set i .no) (σ.set i none)) : (owns (G.set i (.ow d)) (σ.set i (some (.ref o)))).Nodup := by
  induction G generalizing σ i with
  | nil => simp [owns]
  | cons g0 G ih =>
    cases σ with
    | nil =>
      cases i with
      | zero => simp [owns]
      | succ j => simp [owns]
    | cons v0 vs =>
      have hG : (owns G vs).Nodup := by
        cases g0 with
        | no => simpa [owns] using h
        | sh d => simpa [owns] using h
        | ow d =>
          cases v0 with
          | none => simpa [owns] using h
          | some x =>
            cases x with
            | ref p => simp only [owns, List.nodup_cons] at h; exact h.2
            | _ => simpa [owns] using h
      cases i with
      | zero =>
        show (owns (.ow d :: G) (some (.ref o) :: vs)).Nodup
        simp only [owns, List.nodup_cons]
        exact ⟨by simpa [owns] using n, hG⟩
      | succ j =>
        show (owns (g0 :: G.set j (.ow d)) (v0 :: vs.set j (some (.ref o)))).Nodup
        have n' : o ∉ owns (g0 :: G.set j .no) (v0 :: vs.set j none) := n
        have plain : o ∉ owns (G.set j .no) (vs.set j none) → (owns (G.set j (.ow d)) (vs.set j (some (.ref o)))).Nodup := fun z => ih j hG z
        cases g0 with
        | no => simpa [owns] using plain (by simpa [owns] using n')
        | sh d => simpa [owns] using plain (by simpa [owns] using n')
        | ow d1 =>
          cases v0 with
          | none => simpa [owns] using plain (by simpa [owns] using n')
          | some x =>
            cases x with
            | ref p =>
              simp only [owns, List.mem_cons, not_or] at n'
              simp only [owns, List.nodup_cons] at h ⊢
              refine ⟨fun z => ?_, plain n'.2⟩
              rcases owns_set_own j p z with e | e
              · exact n'.1 e.symm
              · exact h.1 e
            | _ => simpa [owns] using plain (by simpa [owns] using n')
end
end VS
set_option Elab.async false
set_option linter.all false
set_option maxRecDepth 100000
set_option maxHeartbeats 2000000
/-! what the head's run looks at: definitions alone, so that the run can stand first in the one-file text -/
namespace VS
open PySem PySem.Spec L2
def hasB (s a : Nat) : Bool := Nat.beq (Nat.land (Nat.shiftRight s a) 1) 1
def addB (s a : Nat) : Nat := Nat.lor s (Nat.shiftLeft 1 a)
def frN {α : Type} (n : Nat) (k : Nat → α) : α := match n with
  | 0 => k 0
  | m + 1 => k (m + 1)
def colR {α : Type} (k : Nat → List Addr → α) : List Addr → Nat → List Addr → α
  | [], seen, nx => k seen nx
  | r :: rs, seen, nx => match hasB seen r with
    | true => colR k rs seen nx
    | false => frN (addB seen r) fun s => colR k rs s (r :: nx)
def colA {α : Type} (g : Addr → Option Obj) (k : Nat → List Addr → α) : List Addr → Nat → List Addr → α
  | [], seen, nx => k seen nx
  | a :: as, seen, nx => match g a with
    | some o => colR (fun s n => colA g k as s n) (He.refsD o) seen nx
    | none => colA g k as seen nx
def rnd (g : Addr → Option Obj) : Nat → Nat → List Addr → List Addr → List Addr
  | 0, _, _, acc => acc
  | n + 1, seen, front, acc => colA g (fun s nx => rnd g n s nx (nx ++ acc)) front seen []
def asV (g : Addr → Option Obj) (n : Nat) : List Addr := rnd g n (addB (addB 0 mainGlobals) cStatics) [mainGlobals] [mainGlobals, cStatics]
/-- one error class with an __init__ of its own: name, the __init__, the fields -/
structure ErD where
  x : Str
  qual : Str
  params : Arguments
  body : List Stmt
  scope : Scope
  fs : List Str
abbrev InW : Type := Option (Str × Str × Arguments × FuncBody × Scope × Addr × List Str × Addr)
def iniW (K : PySem.W.Frag) (x : Str) : InW := match K.lookup (He.ma K (He.ga K x) "__init__") with
  | some ⟨_, _, .func fd, _⟩ => some (fd.name, fd.qualname, fd.params, fd.body, fd.scope, fd.globals, fd.closure.map (·.1), fd.builtins)
  | _ => none
def ErD.val (d : ErD) : InW := some ("__init__", d.qual, d.params, .stmts d.body, d.scope, mainGlobals, ["__class__"], builtinsNs)
def clsB (K : PySem.W.Frag) (C : Addr) : Bool := match K.lookup C with
  | some ⟨.type "type", _, .cls cd, sl⟩ => (match cd.mro, sl.toList with
    | .ref C' :: bm, [_, _, _, _, some (.builtin n), _] => C' == C && n == "ValueError.__new__" && !cd.hasDel && cd.hasDict && PySem.HandSPX.refsVE bm
    | _, _ => false)
  | _ => false
/-- what every error class must say -/
def excB (K : PySem.W.Frag) (C : Addr) : Bool := clsB K C && (He.eqO (PySem.W.findIn K (.ref C) "__setattr__") (some (some (.builtin "object.__setattr__"))) && (decide (PySem.W.subIn K (.ref C) (.type "BaseException") = some true) && (decide (PySem.W.typeIn K (.ref C) = some (.type "type")) && (PySem.W.keepIn K (.ref C) &&
  (He.eqO (PySem.W.findIn K (.ref C) "__getattribute__") (some (some (.builtin "BaseException.__getattribute__"))) && (He.eqO (PySem.W.findIn K (.ref C) "__getattr__") (some none) && (PySem.W.hasDictIn K C && (He.eqO (PySem.W.findIn K (.ref C) "__class__") (some (some (.builtin "object.__class__"))) &&
  (He.eqO (PySem.W.specialIn K (.builtin "object.__class__") "__get__") (some (some (.builtin "getset_descriptor.__get__"))) && (decide (PySem.W.takesIn K (.builtin "object.__class__") = some true) && decide (PySem.W.mroIn K C (.type "object") = some true)))))))))))
def codeB (file : Str) (K : PySem.W.Frag) (C : Addr) (qual : Str) (fd : FuncData) : Bool := match fd.code, fd.closure, fd.defaults with
  | .ref cda, [(_, cc)], .none => PySem.W.codeIn K (.ref cda) qual && ((match K.lookup cda with
      | some ⟨_, _, .fields vs, _⟩ => (match (vs[2]? : Option Value) with | some (Value.str f _) => file == f | _ => false)
      | _ => false) && (match K.lookup cc with
      | some ⟨_, _, .cell (some (.ref C')), _⟩ => C' == C
      | _ => false))
  | _, _, _ => false
def iniB (file : Str) (K : PySem.W.Frag) (d : ErD) : Bool := excB K (He.ga K d.x) && (He.eqO (PySem.W.findIn K (.ref (He.ga K d.x)) "__init__") (some (some (.ref (He.ma K (He.ga K d.x) "__init__")))) && (decide (PySem.W.typeIn K (.ref (He.ma K (He.ga K d.x) "__init__")) = some (.type "function")) &&
  ((PySem.W.clsIn K (He.ga K d.x)).isSome && (decide (PySem.W.mroIn K (He.ga K d.x) (.ref (He.ga K d.x)) = some true) && (He.eqO (PySem.W.nsIn K cStatics "thirdparty.any") (some none) && (He.eqO (PySem.W.ks_superIn K (He.ga K d.x) (He.ga K d.x) "__init__") (some (some (.builtin "ValueError.__init__"))) &&
  (decide (PySem.W.subIn K (.ref (He.ga K d.x)) (.type "ValueError") = some true) && (d.fs.all (fun f => He.eqO (PySem.W.findIn K (.ref (He.ga K d.x)) f) (some none)) && (match K.lookup (He.ma K (He.ga K d.x) "__init__") with
    | some ⟨_, _, .func fd, _⟩ => codeB file K (He.ga K d.x) d.qual fd
    | _ => false)))))))))
abbrev AlV : Type := He.AlD × (Bool × List InW)
def obsV (file : Str) (fa : List He.Fa) (fn : List He5.DefA) (es : List ErD) (ex : PySem.W.Frag → Bool) (K : PySem.W.Frag) : AlV := (He5.obsA fa fn K, ((es.all fun d => iniB file K d) && ex K, es.map fun d => iniW K d.x))
def valV (fn : List He5.DefA) (es : List ErD) : AlV := (He5.valA fn, (true, es.map ErD.val))
def SaysV (file : Str) (fa : List He.Fa) (fn : List He5.DefA) (es : List ErD) (ex : PySem.W.Frag → Bool) (K : PySem.W.Frag) : Prop := obsV file fa fn es ex K = valV fn es
def obsVG (n : Nat) (file : Str) (fa : List He.Fa) (fn : List He5.DefA) (es : List ErD) (ex : PySem.W.Frag → Bool) (g : Addr → Option Obj) : AlV := obsV file fa fn es ex (He.frG g (asV g n))
def hookV (n : Nat) (file : Str) (fa : List He.Fa) (fn : List He5.DefA) (es : List ErD) (ex : PySem.W.Frag → Bool) : PySem.W.Hook where
  α := AlV
  obs := fun s => obsVG n file fa fn es ex s.heap.get?
  val := fun _ => valV fn es
  says := fun _ h => ∃ K : PySem.W.Frag, K.In h ∧ SaysV file fa fn es ex K
  of := fun _ _ e => ⟨_, He.frG_in, e⟩
  keeps := fun _ _ _ ⟨K, hK, c⟩ k => ⟨K, PySem.W.Frag.In.keeps hK k, c⟩
theorem obsVG_eq {n : Nat} {file : Str} {fa : List He.Fa} {fn : List He5.DefA} {es : List ErD} {ex : PySem.W.Frag → Bool} {g : Addr → Option Obj} {s : Shared} (h : ∀ a, g a = s.heap.get? a) : obsVG n file fa fn es ex g = (hookV n file fa fn es ex).obs s := by
  have e : g = s.heap.get? := funext h
  rw [e] <;> rfl
/-- further words on the classes -/
abbrev Xa : Type := PySem.W.Frag → Bool
def Xa.exm (x y : Str) (b : Bool) : Xa := fun K => decide (PySem.W.exmOne K (.ref (He.ga K x)) (.ref (He.ga K y)) = some b)
def Xa.kit (x y : Str) (b : Bool) : Xa := fun K => decide (PySem.W.kitOne K (.ref (He.ga K x)) (.ref (He.ga K y)) = some b)
def Xa.kitT (x : Str) (T : String) (b : Bool) : Xa := fun K => decide (PySem.W.kitOne K (.ref (He.ga K x)) (.type T) = some b)
def Xa.exc (x : Str) : Xa := fun K => excB K (He.ga K x)
def Xa.tup (x : Str) (vs : List He.Dv) : Xa := fun K => He.tupB K x vs
def exOf (xs : List Xa) (K : PySem.W.Frag) : Bool := xs.all fun x => x K
def numB (K : PySem.W.Frag) (C : Addr) (nm : String) : Bool := PySem.W.selfFirst K C && ((match PySem.W.findIn K (.ref C) (dunderR nm) with
    | some none => true
    | some (some (.ref _)) => true
    | _ => false) && ((PySem.W.findIn K (.type "int") (PySem.dunder nm)).isSome && ((PySem.W.findIn K (.type "int") (dunderR nm)).isSome && (decide (PySem.W.subIn K (.type "int") (.ref C) = some false) && decide (PySem.W.subIn K (.ref C) (.type "int") = some false)))))
def inpB (K : PySem.W.Frag) (C : Addr) (nm : String) : Bool := (match PySem.W.clsIn K C with
    | some cd => decide (cd.mro = [.ref C, .type "object"])
    | none => false) && (decide (PySem.W.findIn K (.ref C) (dunderI nm) = some none) && decide (PySem.W.findIn K (.type "object") (dunderI nm) = some none))
/-- the type of an instance -/
def tyB (K : PySem.W.Frag) (C : Addr) : Bool := decide (PySem.W.findIn K (.ref C) "__class__" = some (some (.builtin "object.__class__"))) && (decide (PySem.W.specialIn K (.builtin "object.__class__") "__get__" = some (some (.builtin "getset_descriptor.__get__"))) && (decide (PySem.W.takesIn K (.builtin "object.__class__") = some true) && decide (PySem.W.mroIn K C (.type "object") = some true)))
def clsC (K : PySem.W.Frag) (C : Addr) : Bool := PySem.W.plainGet K C Str.empty && (PySem.W.hasDictIn K C && (PySem.W.plainOver K C && decide (PySem.W.findIn K (.ref C) "__setattr__" = some (some (.builtin "object.__setattr__")))))
def mkB (K : PySem.W.Frag) (C : Addr) : Bool := PySem.W.makesIn K C && (decide (PySem.W.findIn K (.ref C) "__init__" = some (some (.ref (He.ma K C "__init__")))) && (PySem.W.isFn K (.ref (He.ma K C "__init__")) && PySem.W.keepIn K (.ref C)))
def methB (K : PySem.W.Frag) (C : Addr) (m : Str) : Bool := decide (PySem.W.findIn K (.ref C) m = some (some (.ref (He.ma K C m)))) && (PySem.W.isFn K (.ref (He.ma K C m)) && PySem.W.keepIn K (.ref (He.ma K C m)))
def propB (K : PySem.W.Frag) (C : Addr) (m : Str) : Bool := decide (PySem.W.findIn K (.ref C) m = some (some (.ref (He.ma K C m)))) && (decide (PySem.W.specialIn K (.ref (He.ma K C m)) "__get__" = some (some (.builtin "property.__get__"))) && (decide (PySem.W.takesIn K (.ref (He.ma K C m)) = some true) && (match PySem.W.recIn K (He.ma K C m) "property" with
    | some (.ref _ :: _) => true
    | _ => false)))
def creadB (K : PySem.W.Frag) (C : Addr) : Bool := PySem.W.readsIn K C (.type "type") && decide (PySem.W.specialIn K (.ref C) "__getattribute__" = some (some (.builtin "type.__getattribute__")))
def cmetB (K : PySem.W.Frag) (C : Addr) (m : Str) : Bool := He5.wrapB K C "classmethod" "classmethod.__get__" m && PySem.W.fnIn K (He5.wf K C "classmethod" m)
def plainT : List String := ["int", "bool", "tuple", "list", "str", "NoneType", "dict"]
def notB (K : PySem.W.Frag) (C : Addr) : Bool := plainT.all fun T => decide (PySem.W.kitOne K (.type T) (.ref C) = some false) && PySem.W.notFirst K C (.type T)
def polyB (K : PySem.W.Frag) (C : Addr) : Bool := clsC K C && (decide (PySem.W.findIn K (.ref C) "coefs" = some none) && (tyB K C && (numB K C "add" && (numB K C "sub" && (numB K C "mul" && (numB K C "floordiv" && (numB K C "pow" && (inpB K C "add" && (inpB K C "sub" && (inpB K C "mul" && (decide (PySem.W.kitOne K (.ref C) (.ref C) = some true) && (notB K C && (PySem.W.noSeq K C && PySem.W.fnIn K (He.ma K C "__call__"))))))))))))))
def er0B (K : PySem.W.Frag) (C : Addr) : Bool := PySem.W.excIn K C [.type "ValueError", .type "Exception", .type "BaseException", .type "object"] "ValueError.__new__" && (PySem.W.keepIn K (.ref C) && (decide (PySem.W.subIn K (.ref C) (.type "BaseException") = some true) && decide (PySem.W.typeIn K (.ref C) = some (.type "type"))))
def neB (K : PySem.W.Frag) (C : Addr) : Bool := decide (PySem.W.findIn K (.ref C) "__ne__" = some (some (.builtin "object.__ne__"))) && decide (PySem.W.subIn K (.ref C) (.type "object") = some true)
def tableB (K : PySem.W.Frag) (C : Addr) : Bool := clsC K C && (decide (PySem.W.findIn K (.ref C) "limit" = some none) && (decide (PySem.W.findIn K (.ref C) "looks" = some none) && (decide (PySem.W.findIn K (.ref C) "entries" = some none) && (decide (PySem.W.findIn K (.ref C) "reached" = some none) && (decide (PySem.W.findIn K (.ref C) "stops" = some none) && (tyB K C && (decide (PySem.W.kitOne K (.ref C) (.ref C) = some true) && notB K C)))))))
def trialB (K : PySem.W.Frag) (C : Addr) : Bool := clsC K C && (decide (PySem.W.findIn K (.ref C) "chart" = some none) && (decide (PySem.W.findIn K (.ref C) "steps" = some none) && (decide (PySem.W.findIn K (.ref C) "undone" = some none) && (decide (PySem.W.findIn K (.ref C) "letters" = some none) && decide (PySem.W.findIn K (.ref C) "said" = some none)))))
/-- a static method; one got from a base -/
def smetB (K : PySem.W.Frag) (C : Addr) (m : Str) : Bool := He5.wrapB K C "staticmethod" "staticmethod.__get__" m && PySem.W.keepIn K (.ref (He5.wf K C "staticmethod" m))
def smetD (K : PySem.W.Frag) (C D : Addr) (m : Str) : Bool := creadB K D && (smetB K D m && decide (He5.wf K D "staticmethod" m = He5.wf K C "staticmethod" m))
/-- a trial with a purse: its class has no more than the fields of its own -/
def paidB (K : PySem.W.Frag) (C : Addr) : Bool := trialB K C && (decide (PySem.W.findIn K (.ref C) "purse" = some none) && (decide (PySem.W.findIn K (.ref C) "per_try" = some none) && decide (PySem.W.findIn K (.ref C) "per_look" = some none)))
/-- a def with super(): the class x, its base b, the name m -/
structure SuD where
  x : Str
  b : Str
  m : Str
  qual : Str
  params : Arguments
  body : List Stmt
  scope : Scope
  kwd : List (Str × He.Dv)
def SuD.kws (K : PySem.W.Frag) (d : SuD) : List (Str × L2.V) := d.kwd.map fun q => (q.1, q.2.v K)
def suW (K : PySem.W.Frag) (d : SuD) : InW := match K.lookup (He.ma K (He.ga K d.x) d.m) with
  | some ⟨_, _, .func fd, _⟩ => some (fd.name, fd.qualname, fd.params, fd.body, fd.scope, fd.globals, fd.closure.map (·.1), fd.builtins)
  | _ => none
def SuD.val (d : SuD) : InW := some (d.m, d.qual, d.params, .stmts d.body, d.scope, mainGlobals, ["__class__"], builtinsNs)
def suB (file : Str) (K : PySem.W.Frag) (d : SuD) : Bool := (PySem.W.clsIn K (He.ga K d.x)).isSome && (decide (PySem.W.mroIn K (He.ga K d.x) (.ref (He.ga K d.x)) = some true) && (He.eqO (PySem.W.nsIn K cStatics "thirdparty.any") (some none) && (He.eqO (PySem.W.ks_superIn K (He.ga K d.x) (He.ga K d.x) d.m) (some (some (.ref (He.ma K (He.ga K d.b) d.m)))) &&
  (decide (PySem.W.typeIn K (.ref (He.ma K (He.ga K d.b) d.m)) = some (.type "function")) && (PySem.W.fnIn K (He.ma K (He.ga K d.b) d.m) && (match K.lookup (He.ma K (He.ga K d.x) d.m) with
    | some ⟨_, _, .func fd, _⟩ => codeB file K (He.ga K d.x) d.qual fd && He.kwdB K fd.kwdefaults (d.kws K)
    | _ => false))))))
abbrev AlW : Type := AlV × (Bool × List InW)
def obsW (file : Str) (fa : List He.Fa) (fn : List He5.DefA) (es : List ErD) (ss : List SuD) (ex : PySem.W.Frag → Bool) (K : PySem.W.Frag) : AlW := (obsV file fa fn es ex K, (ss.all fun d => suB file K d, ss.map fun d => suW K d))
def valW (fn : List He5.DefA) (es : List ErD) (ss : List SuD) : AlW := (valV fn es, (true, ss.map SuD.val))
def SaysW (file : Str) (fa : List He.Fa) (fn : List He5.DefA) (es : List ErD) (ss : List SuD) (ex : PySem.W.Frag → Bool) (K : PySem.W.Frag) : Prop := obsW file fa fn es ss ex K = valW fn es ss
def obsWG (n : Nat) (file : Str) (fa : List He.Fa) (fn : List He5.DefA) (es : List ErD) (ss : List SuD) (ex : PySem.W.Frag → Bool) (g : Addr → Option Obj) : AlW := obsW file fa fn es ss ex (He.frG g (asV g n))
def hookW (n : Nat) (file : Str) (fa : List He.Fa) (fn : List He5.DefA) (es : List ErD) (ss : List SuD) (ex : PySem.W.Frag → Bool) : PySem.W.Hook where
  α := AlW
  obs := fun s => obsWG n file fa fn es ss ex s.heap.get?
  val := fun _ => valW fn es ss
  says := fun _ h => ∃ K : PySem.W.Frag, K.In h ∧ SaysW file fa fn es ss ex K
  of := fun _ _ e => ⟨_, He.frG_in, e⟩
  keeps := fun _ _ _ ⟨K, hK, c⟩ k => ⟨K, PySem.W.Frag.In.keeps hK k, c⟩
end VS
set_option Elab.async false
set_option linter.all false
set_option maxRecDepth 100000
namespace VS
open PySem PySem.Spec L2

/-! ### readings as weak as they can be -/
@[irreducible] def tOf (X : Cx) (e : Expr) : TE := fun σ H Q => ∀ pins s, Inv X pins σ H s → wpAny (model X.prog X.w) X.A (eval e X.env) (EP X pins σ Q) X.xe s
@[irreducible] def ttOf (X : Cx) (e : Expr) : TT := fun σ H Q => ∀ pins s, Inv X pins σ H s → wpAny (model X.prog X.w) X.A (isTrue e X.env (eval e X.env)) (TP X pins σ Q) X.xe s
@[irreducible] def twOf (X : Cx) (e : Expr) : TT := fun σ H Q => ∀ (whole : Sem Value) pins s, Inv X pins σ H s → wpAny (model X.prog X.w) X.A (isTrue e X.env whole) (TP X pins σ Q) X.xe s
@[irreducible] def taOf (X : Cx) (es : List Expr) : TA := fun σ H Q => ∀ (pos : Pos) pins s, Inv X pins σ H s → wpAny (model X.prog X.w) X.A (spliced (backTo pos (starEach es X.env))) (AP X pins σ Q) X.xe s
@[irreducible] def s1Of (X : Cx) (st : Stmt) : TS := fun D σ H => ∀ pins s, Inv X pins σ H s → wpAny (model X.prog X.w) X.A (exec st X.env) (SP X pins D) X.xe s
@[irreducible] def sOf (X : Cx) (ss : List Stmt) : TS := fun D σ H => ∀ pins s, Inv X pins σ H s → wpAny (model X.prog X.w) X.A (execs ss X.env) (SP X pins D) X.xe s
@[irreducible] def opOf (X : Cx) (f : Value → Value → Sem Value) : R2 := fun x y H Q => ∀ pins s σ v u, Inv X pins σ H s → RelV x v → RelV y u → wpAny (model X.prog X.w) X.A (f v u) (EP X pins σ Q) X.xe s
@[irreducible] def unOf (X : Cx) (f : Value → Sem Value) : V → Hp → VK → Prop := fun x H Q => ∀ pins s σ v, Inv X pins σ H s → RelV x v → wpAny (model X.prog X.w) X.A (f v) (EP X pins σ Q) X.xe s
@[irreducible] def crOf (X : Cx) (f : Value) : List V → Hp → VK → Prop := fun xs H Q => ∀ pins s σ us, Inv X pins σ H s → Vals xs us → wpAny (model X.prog X.w) X.A (call f us) (EP X pins σ Q) X.xe s
section
variable {X : Cx}
theorem pe_w {e : Expr} : PE X e (tOf X e) := ⟨fun pins s σ H Q I h => by unfold tOf at h; exact h pins s I⟩
theorem pt_w {e : Expr} : PT X e (ttOf X e) := ⟨fun pins s σ H Q I h => by unfold ttOf at h; exact h pins s I⟩
theorem pw_w {e : Expr} : PW X e (twOf X e) := ⟨fun wh pins s σ H Q I h => by unfold twOf at h; exact h wh pins s I⟩
theorem pa_w {es : List Expr} : PA X es (taOf X es) := ⟨fun pos pins s σ H Q I h => by unfold taOf at h; exact h pos pins s I⟩
theorem ps_w {st : Stmt} : PS X st (s1Of X st) := ⟨fun pins s σ H D I h => by unfold s1Of at h; exact h pins s I⟩
theorem pss_w {ss : List Stmt} : PSs X ss (sOf X ss) := ⟨fun pins s σ H D I h => by unfold sOf at h; exact h pins s I⟩
theorem op_w {f : Value → Value → Sem Value} : OpR X f (opOf X f) := fun pins s σ H x y v u Q I rx ry h => by unfold opOf at h; exact h pins s σ v u I rx ry
theorem un_w {f : Value → Sem Value} : UnR X f (unOf X f) := fun pins s σ H x v Q I rx h => by unfold unOf at h; exact h pins s σ v I rx
theorem cr_w {f : Value} : CallR X f (crOf X f) := fun pins s σ H xs us Q I r h => by unfold crOf at h; exact h pins s σ us I r
theorem tOf.of {e : Expr} {t : TE} {σ : St} {H : Hp} {Q : VK} (h : PE X e t) (q : t σ H Q) : tOf X e σ H Q := by unfold tOf; exact fun pins s I => h.run pins s σ H Q I q
theorem ttOf.of {e : Expr} {t : TT} {σ : St} {H : Hp} {Q : Bool → Hp → Prop} (h : PT X e t) (q : t σ H Q) : ttOf X e σ H Q := by unfold ttOf; exact fun pins s I => h.run pins s σ H Q I q
theorem twOf.of {e : Expr} {t : TT} {σ : St} {H : Hp} {Q : Bool → Hp → Prop} (h : PW X e t) (q : t σ H Q) : twOf X e σ H Q := by unfold twOf; exact fun wh pins s I => h.run wh pins s σ H Q I q
theorem taOf.of {es : List Expr} {t : TA} {σ : St} {H : Hp} {Q : List V → Hp → Prop} (h : PA X es t) (q : t σ H Q) : taOf X es σ H Q := by unfold taOf; exact fun pos pins s I => h.run pos pins s σ H Q I q
theorem s1Of.of {st : Stmt} {t : TS} {σ : St} {H : Hp} {D : Ends} (h : PS X st t) (q : t D σ H) : s1Of X st D σ H := by unfold s1Of; exact fun pins s I => h.run pins s σ H D I q
theorem sOf.of {ss : List Stmt} {t : TS} {σ : St} {H : Hp} {D : Ends} (h : PSs X ss t) (q : t D σ H) : sOf X ss D σ H := by unfold sOf; exact fun pins s I => h.run pins s σ H D I q
theorem opOf.of {f : Value → Value → Sem Value} {r : R2} {x y : V} {H : Hp} {Q : VK} (h : OpR X f r) (q : r x y H Q) : opOf X f x y H Q := by unfold opOf; exact fun pins s σ v u I rx ry => h pins s σ H x y v u Q I rx ry q
theorem unOf.of {f : Value → Sem Value} {r : V → Hp → VK → Prop} {x : V} {H : Hp} {Q : VK} (h : UnR X f r) (q : r x H Q) : unOf X f x H Q := by unfold unOf; exact fun pins s σ v I rx => h pins s σ H x v Q I rx q
theorem crOf.of {f : Value} {r : List V → Hp → VK → Prop} {xs : List V} {H : Hp} {Q : VK} (h : CallR X f r) (q : r xs H Q) : crOf X f xs H Q := by unfold crOf; exact fun pins s σ us I rx => h pins s σ H xs us Q I rx q
end

/-! ### over data -/
/-- what follows, given the value's data -/
def Ct (K : PySem.W.Frag) (R : Reg) (F H : Hp) (P : Dt → Prop) (Q : VK) : Prop := ∀ v F' H' d, Ext R F H F' H' → Rp K F' d v → P d → Q v H'
def CtB (R : Reg) (F H : Hp) (P : Bool → Prop) (Q : Bool → Hp → Prop) : Prop := ∀ b F' H', Ext R F H F' H' → P b → Q b H'
def CtA (K : PySem.W.Frag) (R : Reg) (F H : Hp) (P : List Dt → Prop) (Q : List V → Hp → Prop) : Prop := ∀ vs F' H' ds, Ext R F H F' H' → RpL K F' ds vs → P ds → Q vs H'
def E (X : Cx) (R : Reg) (G : List Sl) (e : Expr) (P : Dt → Prop) : Prop := ∀ σ F H Q, Ty X.K R G σ F H → Ct X.K R F H P Q → tOf X e σ H Q
def T (X : Cx) (R : Reg) (G : List Sl) (e : Expr) (P : Bool → Prop) : Prop := ∀ σ F H Q, Ty X.K R G σ F H → CtB R F H P Q → ttOf X e σ H Q
def TW (X : Cx) (R : Reg) (G : List Sl) (e : Expr) (P : Bool → Prop) : Prop := ∀ σ F H Q, Ty X.K R G σ F H → CtB R F H P Q → twOf X e σ H Q
def EA (X : Cx) (R : Reg) (G : List Sl) (es : List Expr) (P : List Dt → Prop) : Prop := ∀ σ F H Q, Ty X.K R G σ F H → CtA X.K R F H P Q → taOf X es σ H Q
/-- operations on data -/
def W2 (X : Cx) (R : Reg) (f : Value → Value → Sem Value) (a b : Dt) (P : Dt → Prop) : Prop := ∀ F H x y Q, Wf R F H → Rp X.K F a x → Rp X.K F b y → Ct X.K R F H P Q → opOf X f x y H Q
def W1 (X : Cx) (R : Reg) (f : Value → Sem Value) (a : Dt) (P : Dt → Prop) : Prop := ∀ F H x Q, Wf R F H → Rp X.K F a x → Ct X.K R F H P Q → unOf X f x H Q
def WC (X : Cx) (R : Reg) (f : Value) (ds : List Dt) (P : Dt → Prop) : Prop := ∀ F H xs Q, Wf R F H → RpL X.K F ds xs → Ct X.K R F H P Q → crOf X f xs H Q
section
variable {X : Cx} {R : Reg} {G : List Sl} {pos : Pos}
theorem Ct.step {K : PySem.W.Frag} {F H F1 H1 : Hp} {P : Dt → Prop} {Q : VK} (c : Ct K R F H P Q) (e : Ext R F H F1 H1) : Ct K R F1 H1 P Q := fun v F' H' d ex r p => c v F' H' d (e.trans ex) r p
theorem CtB.step {F H F1 H1 : Hp} {P : Bool → Prop} {Q : Bool → Hp → Prop} (c : CtB R F H P Q) (e : Ext R F H F1 H1) : CtB R F1 H1 P Q := fun b F' H' ex p => c b F' H' (e.trans ex) p
theorem Ct.here {K : PySem.W.Frag} {F H : Hp} {P : Dt → Prop} {Q : VK} {v : V} {d : Dt} (c : Ct K R F H P Q) (w : Wf R F H) (r : Rp K F d v) (p : P d) : Q v H := c v F H d (.refl w) r p
theorem CtB.here {F H : Hp} {P : Bool → Prop} {Q : Bool → Hp → Prop} {b : Bool} (c : CtB R F H P Q) (w : Wf R F H) (p : P b) : Q b H := c b F H (.refl w) p
theorem E.imp {e : Expr} {P P' : Dt → Prop} (h : E X R G e P) (i : ∀ d, P d → P' d) : E X R G e P' := fun σ F H Q ty c => h σ F H Q ty fun v F' H' d ex r p => c v F' H' d ex r (i d p)
theorem T.imp {e : Expr} {P P' : Bool → Prop} (h : T X R G e P) (i : ∀ b, P b → P' b) : T X R G e P' := fun σ F H Q ty c => h σ F H Q ty fun b F' H' ex p => c b F' H' ex (i b p)

/-! ### names, constants -/
theorem e_var (i : Nat) {x : Str} {d : Dt} {P : Dt → Prop} (hg : G[i]? = some (.sh d)) (hN : X.N[i]? = some x) (hv : Vis X.env.scope x) (p : P d) (hd : (x == ("__debug__" : Str)) = false := by decide) (hcd : (x == ("__classdict__" : Str)) = false := by decide) :
    E X R G (.Name x pos) P := fun σ F H Q ty c => by
  obtain ⟨v, e1, y, e2, r⟩ := ty.sl.get hg
  exact tOf.of (pe_var hN hv hd hcd) ⟨y, by rw [e1, e2], c.here ty.wf r p⟩
theorem e_int {i : Int} {j} {P : Dt → Prop} (p : P (.int i)) : E X R G (.Constant (.int i) j pos) P := fun σ F H Q ty c => tOf.of pe_int (c.here ty.wf (rp_int.mpr rfl) p)
theorem e_bool {i : Bool} {j} {P : Dt → Prop} (p : P (.bl i)) : E X R G (.Constant (.bool i) j pos) P := fun σ F H Q ty c => tOf.of pe_bl (c.here ty.wf (rp_bl.mpr rfl) p)
theorem e_none {j} {P : Dt → Prop} (p : P .non) : E X R G (.Constant .none j pos) P := fun σ F H Q ty c => tOf.of pe_non (c.here ty.wf (rp_non.mpr rfl) p)
theorem e_str {i : Str} {j} {P : Dt → Prop} (p : P (.str i)) : E X R G (.Constant (.str i) j pos) P := fun σ F H Q ty c => tOf.of pe_str (c.here ty.wf (rp_str.mpr rfl) p)
/-- a module's constant that is no object -/
theorem e_glob {x : Str} {d : Dt} {v : V} {u : Value} {P : Dt → Prop} (hg : Gl X x) (hm : X.mg x = some u) (r : RelV v u) (rd : ∀ F, Rp X.K F d v) (p : P d) (hd : (x == ("__debug__" : Str)) = false := by decide) : E X R G (.Name x pos) P :=
  fun σ F H Q ty c => tOf.of (pe_glob hg hm r hd) (c.here ty.wf (rd F) p)

/-! ### operators -/
theorem e_bin {a b : Expr} {op : Operator} {P : Dt → Prop} (h : E X R G a fun d1 => E X R G b fun d2 => W2 X R (binaryOp op) d1 d2 P) : E X R G (.BinOp a op b pos) P := fun σ F H Q ty c =>
  tOf.of (pe_op op_w pe_w pe_w) (h σ F H _ ty fun v F1 H1 d1 ex1 r1 h2 => h2 σ F1 H1 _ (ty.ext ex1) fun w F2 H2 d2 ex2 r2 h3 => h3 F2 H2 v w Q ex2.wf (r1.mono ex2.ff) r2 (c.step (ex1.trans ex2)))
theorem e_un {a : Expr} {op : UnaryOp} {P : Dt → Prop} (h : E X R G a fun d1 => W1 X R (unaryOp op) d1 P) : E X R G (.UnaryOp op a pos) P := fun σ F H Q ty c =>
  tOf.of (pe_un un_w pe_w) (h σ F H _ ty fun v F1 H1 d1 ex1 r1 h2 => h2 F1 H1 v Q ex1.wf r1 (c.step ex1))
theorem e_cmp {a b : Expr} {op : CmpOp} {P : Dt → Prop} (h : E X R G a fun d1 => E X R G b fun d2 => W2 X R (compareOp op) d1 d2 P) (hm : behindInMarks op b = false := by first | exact nomark _ | rfl) : E X R G (.Compare a [op] [b] pos) P := fun σ F H Q ty c =>
  tOf.of (pe_cmpR op_w pe_w pe_w hm) (h σ F H _ ty fun v F1 H1 d1 ex1 r1 h2 => h2 σ F1 H1 _ (ty.ext ex1) fun w F2 H2 d2 ex2 r2 h3 => h3 F2 H2 v w Q ex2.wf (r1.mono ex2.ff) r2 (c.step (ex1.trans ex2)))
theorem t_cmp {a b : Expr} {op : CmpOp} {P : Bool → Prop} (h : E X R G a fun d1 => E X R G b fun d2 => W2 X R (compareOp op) d1 d2 fun d => ∃ k, d = .bl k ∧ P k) (hm : behindInMarks op b = false := by first | exact nomark _ | rfl) : T X R G (.Compare a [op] [b] pos) P := fun σ F H Q ty c =>
  ttOf.of (pt_cmpR op_w pe_w pe_w hm) (h σ F H _ ty fun v F1 H1 d1 ex1 r1 h2 => h2 σ F1 H1 _ (ty.ext ex1) fun w F2 H2 d2 ex2 r2 h3 => h3 F2 H2 v w _ ex2.wf (r1.mono ex2.ff) r2 fun z F3 H3 d3 ex3 r3 ⟨k, e, p⟩ => by
    subst e
    exact ⟨k, rp_bl.mp r3, c k F3 H3 ((ex1.trans ex2).trans ex3) p⟩)
/-- a op1 b op2 c -/
theorem e_chain {a b c : Expr} {op op' : CmpOp} {P : Dt → Prop} (h : E X R G a fun d1 => E X R G b fun d2 => W2 X R (compareOp op) d1 d2 fun d => ∃ k, d = .bl k ∧ if k = true then E X R G c fun d3 => W2 X R (compareOp op') d2 d3 P else P (.bl false))
    (hm : lastMarks [op, op'] [b, c] = false := by with_unfolding_all rfl) : E X R G (.Compare a [op, op'] [b, c] pos) P := fun σ F H Q ty cc =>
  tOf.of (pe_chain op_w op_w pe_w pe_w pe_w hm) (h σ F H _ ty fun v F1 H1 d1 ex1 r1 h2 => h2 σ F1 H1 _ (ty.ext ex1) fun w F2 H2 d2 ex2 r2 h3 => h3 F2 H2 v w _ ex2.wf (r1.mono ex2.ff) r2 fun z F3 H3 d3 ex3 r3 ⟨k, e, p⟩ => by
    subst e
    have e12 := ex1.trans ex2
    have e123 := e12.trans ex3
    refine ⟨k, rp_bl.mp r3, ?_⟩
    cases k with
    | false =>
      rw [if_neg (by decide)] at p ⊢
      exact cc _ F3 H3 _ e123 (rp_bl.mpr rfl) p
    | true =>
      rw [if_pos rfl] at p ⊢
      exact p σ F3 H3 _ (ty.ext e123) fun u F4 H4 d4 ex4 r4 p4 => p4 F4 H4 w u Q ex4.wf ((r2.mono ex3.ff).mono ex4.ff) r4 (cc.step (e123.trans ex4)))
theorem t_chain {a b c : Expr} {op op' : CmpOp} {P : Bool → Prop} (h : E X R G a fun d1 => E X R G b fun d2 => W2 X R (compareOp op) d1 d2 fun d => ∃ k, d = .bl k ∧ if k = true then E X R G c fun d3 => W2 X R (compareOp op') d2 d3 fun d => ∃ k, d = .bl k ∧ P k else P false)
    (hm : lastMarks [op, op'] [b, c] = false := by with_unfolding_all rfl) : T X R G (.Compare a [op, op'] [b, c] pos) P := fun σ F H Q ty cc =>
  ttOf.of (pt_chain op_w op_w pe_w pe_w pe_w hm) (h σ F H _ ty fun v F1 H1 d1 ex1 r1 h2 => h2 σ F1 H1 _ (ty.ext ex1) fun w F2 H2 d2 ex2 r2 h3 => h3 F2 H2 v w _ ex2.wf (r1.mono ex2.ff) r2 fun z F3 H3 d3 ex3 r3 ⟨k, e, p⟩ => by
    subst e
    have e12 := ex1.trans ex2
    have e123 := e12.trans ex3
    refine ⟨k, rp_bl.mp r3, ?_⟩
    cases k with
    | false =>
      rw [if_neg (by decide)] at p ⊢
      exact ⟨false, rfl, cc false F3 H3 e123 p⟩
    | true =>
      rw [if_pos rfl] at p ⊢
      exact p σ F3 H3 _ (ty.ext e123) fun u F4 H4 d4 ex4 r4 p4 => p4 F4 H4 w u _ ex4.wf ((r2.mono ex3.ff).mono ex4.ff) r4 fun z F5 H5 d5 ex5 r5 ⟨k, e, p⟩ => by
        subst e
        exact ⟨k, rp_bl.mp r5, cc k F5 H5 ((e123.trans ex4).trans ex5) p⟩)

/-! ### tests -/
theorem t_val {e : Expr} {P : Bool → Prop} (h : E X R G e fun d => ∃ k, d = .bl k ∧ P k) (he : ∀ whole, isTrue e X.env whole = (do let v ← whole; standAt e.pos; holding [v] (truthy v)) := by intro _; rfl) : T X R G e P := fun σ F H Q ty c =>
  ttOf.of (pt_val pe_w he) (h σ F H _ ty fun v F1 H1 d1 ex1 r1 ⟨k, e, p⟩ => by
    subst e
    exact ⟨k, rp_bl.mp r1, c k F1 H1 ex1 p⟩)
theorem TW.t {e : Expr} {P : Bool → Prop} (h : TW X R G e P) : T X R G e P := fun σ F H Q ty c => by
  have z := h σ F H Q ty c
  unfold twOf at z
  unfold ttOf
  exact fun pins s I => z _ pins s I
theorem tw_and1 {a : Expr} {P : Bool → Prop} (h : T X R G a P) : TW X R G (.BoolOp .And [a] pos) P := fun σ F H Q ty c => twOf.of (pw_and1 pt_w) (h σ F H Q ty c)
theorem tw_or1 {a : Expr} {P : Bool → Prop} (h : T X R G a P) : TW X R G (.BoolOp .Or [a] pos) P := fun σ F H Q ty c => twOf.of (pw_or1 pt_w) (h σ F H Q ty c)
theorem tw_and {a b : Expr} {es : List Expr} {P : Bool → Prop} (h : T X R G a fun k => if k = true then TW X R G (.BoolOp .And (b :: es) pos) P else P false) : TW X R G (.BoolOp .And (a :: b :: es) pos) P := fun σ F H Q ty c =>
  twOf.of (pw_and pt_w pw_w) (h σ F H _ ty fun k F1 H1 ex1 p => by
    cases k with
    | false => rw [if_neg (by decide)] at p ⊢; exact c false F1 H1 ex1 p
    | true => rw [if_pos rfl] at p ⊢; exact p σ F1 H1 Q (ty.ext ex1) (c.step ex1))
theorem tw_or {a b : Expr} {es : List Expr} {P : Bool → Prop} (h : T X R G a fun k => if k = true then P true else TW X R G (.BoolOp .Or (b :: es) pos) P) : TW X R G (.BoolOp .Or (a :: b :: es) pos) P := fun σ F H Q ty c =>
  twOf.of (pw_or pt_w pw_w) (h σ F H _ ty fun k F1 H1 ex1 p => by
    cases k with
    | true => rw [if_pos rfl] at p ⊢; exact c true F1 H1 ex1 p
    | false => rw [if_neg (by decide)] at p ⊢; exact p σ F1 H1 Q (ty.ext ex1) (c.step ex1))
theorem t_not {a : Expr} {P : Bool → Prop} (h : T X R G a fun k => P (!k)) : T X R G (.UnaryOp .Not a pos) P := fun σ F H Q ty c =>
  ttOf.of (pt_not pt_w) (h σ F H _ ty fun k F1 H1 ex1 p => c _ F1 H1 ex1 p)
/-- and, or, not as values -/
theorem e_and {a b : Expr} {es : List Expr} {P : Dt → Prop} (h : E X R G a fun d => ∃ k, d = .bl k ∧ if k = true then E X R G (.BoolOp .And (b :: es) pos) P else P (.bl false)) : E X R G (.BoolOp .And (a :: b :: es) pos) P := fun σ F H Q ty c =>
  tOf.of (pe_and pe_w pe_w) (h σ F H _ ty fun v F1 H1 d1 ex1 r1 ⟨k, e, p⟩ => by
    subst e
    refine ⟨k, rp_bl.mp r1, ?_⟩
    cases k with
    | false => rw [if_neg (by decide)] at p ⊢; exact c _ F1 H1 _ ex1 (rp_bl.mpr rfl) p
    | true => rw [if_pos rfl] at p ⊢; exact p σ F1 H1 Q (ty.ext ex1) (c.step ex1))
theorem e_one {op} {a : Expr} {P : Dt → Prop} (h : E X R G a P) : E X R G (.BoolOp op [a] pos) P := fun σ F H Q ty c => tOf.of (pe_one pe_w) (h σ F H Q ty c)
/-! ### arguments, displays -/
theorem ea_nil {P : List Dt → Prop} (p : P []) : EA X R G [] P := fun σ F H Q ty c => taOf.of pa_nil (c [] F H [] (.refl ty.wf) .nil p)
theorem ea_cons {e : Expr} {es : List Expr} {P : List Dt → Prop} (h : E X R G e fun d => EA X R G es fun ds => P (d :: ds)) (hs : starEach (e :: es) X.env = (false, eval e X.env) :: starEach es X.env := by rfl) : EA X R G (e :: es) P := fun σ F H Q ty c =>
  taOf.of (pa_cons pe_w pa_w hs) (h σ F H _ ty fun v F1 H1 d1 ex1 r1 h2 => h2 σ F1 H1 _ (ty.ext ex1) fun vs F2 H2 ds ex2 r2 p => c _ F2 H2 _ (ex1.trans ex2) (.cons (r1.mono ex2.ff) r2) p)
theorem rp_tup_new {K : PySem.W.Frag} {F : Hp} {p : Addr} {ds : List Dt} {vs : List V} (hn : F p = none) (r : RpL K F ds vs) : Rp K (upd F p (.tup vs)) (.tup ds) (.ref p) :=
  rp_tup.mpr ⟨p, vs, rfl, SqT.of upd_same, r.mono (same_upd hn)⟩
theorem rp_lst_new {K : PySem.W.Frag} {F : Hp} {p : Addr} {ds : List Dt} {vs : List V} (hn : F p = none) (r : RpL K F ds vs) : Rp K (upd F p (.lst vs)) (.lst ds) (.ref p) :=
  rp_lst.mpr ⟨p, vs, rfl, upd_same, r.mono (same_upd hn)⟩
theorem e_tup {es : List Expr} {x1} {P : Dt → Prop} (h : EA X R G es fun ds => ds.length ≤ 100000 ∧ P (.tup ds)) : E X R G (.Tuple es x1 pos) P := fun σ F H Q ty c =>
  tOf.of (pe_tup pa_w) (h σ F H _ ty fun vs F1 H1 ds ex1 r1 ⟨hl, p⟩ => ⟨by rw [← r1.length]; exact Nat.le_trans hl (by decide), fun q hq => c _ _ _ _ (ex1.trans (ex1.wf.made hq)) (rp_tup_new (ex1.wf.fh.free hq) r1) p⟩)
theorem e_lst {es : List Expr} {P : Dt → Prop} (h : EA X R G es fun ds => ds.length ≤ 100000 ∧ P (.lst ds)) : E X R G (.List es pos) P := fun σ F H Q ty c =>
  tOf.of (pe_lst pa_w) (h σ F H _ ty fun vs F1 H1 ds ex1 r1 ⟨hl, p⟩ => ⟨by rw [← r1.length]; exact Nat.le_trans hl (by decide), fun q hq => c _ _ _ _ (ex1.trans (ex1.wf.made hq)) (rp_lst_new (ex1.wf.fh.free hq) r1) p⟩)

/-! ### the operations -/
theorem w2_int {f : Value → Value → Sem Value} {C : Int → Int → Prop} {g : Int → Int → Int} {i j : Int} {P : Dt → Prop} (ho : OpR X f (rI C fun i j => .int (g i j))) (hc : C i j) (p : P (.int (g i j))) : W2 X R f (.int i) (.int j) P := fun F H x y Q w rx ry c =>
  opOf.of ho ⟨i, j, rp_int.mp rx, rp_int.mp ry, hc, c.here w (rp_int.mpr rfl) p⟩
theorem w2_int0 {f : Value → Value → Sem Value} {g : Int → Int → Int} {i j : Int} {P : Dt → Prop} (ho : OpR X f (rI0 fun i j => .int (g i j))) (p : P (.int (g i j))) : W2 X R f (.int i) (.int j) P := fun F H x y Q w rx ry c =>
  opOf.of ho ⟨i, j, rp_int.mp rx, rp_int.mp ry, c.here w (rp_int.mpr rfl) p⟩
theorem w2_bl0 {f : Value → Value → Sem Value} {g : Int → Int → Bool} {i j : Int} {P : Dt → Prop} (ho : OpR X f (rI0 fun i j => .bl (g i j))) (p : P (.bl (g i j))) : W2 X R f (.int i) (.int j) P := fun F H x y Q w rx ry c =>
  opOf.of ho ⟨i, j, rp_int.mp rx, rp_int.mp ry, c.here w (rp_bl.mpr rfl) p⟩
theorem w_add {i j : Int} {P : Dt → Prop} (p : P (.int (i + j))) : W2 X R (binaryOp .Add) (.int i) (.int j) P := w2_int0 op_add p
theorem w_sub {i j : Int} {P : Dt → Prop} (p : P (.int (i - j))) : W2 X R (binaryOp .Sub) (.int i) (.int j) P := w2_int0 op_sub p
/-- the sizes of ints: below 2 ^ 400000 -/
def Sm (n : Nat) (i : Int) : Prop := i.natAbs < 2 ^ n
theorem w_mulS {i j : Int} {P : Dt → Prop} (hc : CMul i j) (p : P (.int (i * j))) : W2 X R (binaryOp .Mult) (.int i) (.int j) P := w2_int op_mul hc p
theorem w_mod {i j : Int} {P : Dt → Prop} (hc : 0 < j) (p : P (.int (i % j))) : W2 X R (binaryOp .Mod) (.int i) (.int j) P := w2_int op_mod hc p
theorem w_div {i j : Int} {P : Dt → Prop} (hc : CDivW i j) (p : P (.int (i / j))) : W2 X R (binaryOp .FloorDiv) (.int i) (.int j) P := w2_int op_fdivW hc p
/-- // by any divisor but 0 below 2 ^ 9000 -/
def CDivA (_ j : Int) : Prop := j ≠ 0 ∧ j.natAbs.log2 < 9000
theorem op_fdivA : OpR X (binaryOp .FloorDiv) (rI CDivA fun i j => .int (i.fdiv j)) := opI fun i j _ _ _ _ _ hc q => PyProof.Rows.floordiv_int hc.1 q (.inl (PyProof.noPylong_of_log2 hc.2))
theorem w_divA {i j : Int} {P : Dt → Prop} (hc : CDivA i j) (p : P (.int (i.fdiv j))) : W2 X R (binaryOp .FloorDiv) (.int i) (.int j) P := w2_int op_fdivA hc p
theorem w_pow {i j : Int} {P : Dt → Prop} (hc : CPow i j) (p : P (.int (i ^ j.toNat))) : W2 X R (binaryOp .Pow) (.int i) (.int j) P := w2_int op_pow hc p
theorem w_neg {i : Int} {P : Dt → Prop} (p : P (.int (-i))) : W1 X R (unaryOp .USub) (.int i) P := fun F H x Q w rx c => unOf.of un_neg ⟨i, rp_int.mp rx, c.here w (rp_int.mpr rfl) p⟩
theorem w_lt {i j : Int} {P : Dt → Prop} (p : P (.bl (decide (i < j)))) : W2 X R (compareOp .Lt) (.int i) (.int j) P := w2_bl0 op_lt p
theorem w_le {i j : Int} {P : Dt → Prop} (p : P (.bl (decide (i ≤ j)))) : W2 X R (compareOp .LtE) (.int i) (.int j) P := w2_bl0 op_le p
theorem w_gt {i j : Int} {P : Dt → Prop} (p : P (.bl (decide (j < i)))) : W2 X R (compareOp .Gt) (.int i) (.int j) P := w2_bl0 op_gt p
theorem w_ge {i j : Int} {P : Dt → Prop} (p : P (.bl (decide (j ≤ i)))) : W2 X R (compareOp .GtE) (.int i) (.int j) P := w2_bl0 op_ge p
/-- the scalars -/
def scV : Dt → Option V
  | .non => some .non | .bl b => some (.bl b) | .int i => some (.int i) | .str x => some (.str x) | _ => none
theorem rp_sc {K : PySem.W.Frag} {F : Hp} {d : Dt} {v x : V} (h : scV d = some v) (r : Rp K F d x) : x = v := by
  cases d with
  | non => cases h; exact rp_non.mp r
  | bl b => cases h; exact rp_bl.mp r
  | int i => cases h; exact rp_int.mp r
  | str s => cases h; exact rp_str.mp r
  | _ => cases h
theorem w_eqS {a b : Dt} {u v : V} {P : Dt → Prop} (ha : scV a = some u) (hb : scV b = some v) (hs : scal u v = true) (p : P (.bl (decide (u = v)))) : W2 X R (compareOp .Eq) a b P := fun F H x y Q w rx ry c => by
  rw [rp_sc ha rx, rp_sc hb ry]
  exact opOf.of op_eq ⟨hs, c.here w (rp_bl.mpr rfl) p⟩
theorem w_neS {a b : Dt} {u v : V} {P : Dt → Prop} (ha : scV a = some u) (hb : scV b = some v) (hs : scal u v = true) (p : P (.bl (!decide (u = v)))) : W2 X R (compareOp .NotEq) a b P := fun F H x y Q w rx ry c => by
  rw [rp_sc ha rx, rp_sc hb ry]
  exact opOf.of op_ne ⟨hs, c.here w (rp_bl.mpr rfl) p⟩
theorem vint_eq {i j : Int} : decide (V.int i = V.int j) = decide (i = j) := by
  rw [Bool.eq_iff_iff]
  simp
theorem vstr_eq {i j : Str} : decide (V.str i = V.str j) = decide (i = j) := by
  rw [Bool.eq_iff_iff]
  simp
theorem vbl_eq {i j : Bool} : decide (V.bl i = V.bl j) = (i == j) := by
  rw [Bool.eq_iff_iff]
  simp
theorem w_eqI {i j : Int} {P : Dt → Prop} (p : P (.bl (decide (i = j)))) : W2 X R (compareOp .Eq) (.int i) (.int j) P := w_eqS (u := .int i) (v := .int j) rfl rfl rfl (by rw [vint_eq]; exact p)
theorem w_neI {i j : Int} {P : Dt → Prop} (p : P (.bl (!decide (i = j)))) : W2 X R (compareOp .NotEq) (.int i) (.int j) P := w_neS (u := .int i) (v := .int j) rfl rfl rfl (by rw [vint_eq]; exact p)
theorem w_eqT {i j : Str} {P : Dt → Prop} (p : P (.bl (decide (i = j)))) : W2 X R (compareOp .Eq) (.str i) (.str j) P := w_eqS (u := .str i) (v := .str j) rfl rfl rfl (by rw [vstr_eq]; exact p)
theorem w_eqB {i j : Bool} {P : Dt → Prop} (p : P (.bl (i == j))) : W2 X R (compareOp .Eq) (.bl i) (.bl j) P := w_eqS (u := .bl i) (v := .bl j) rfl rfl rfl (by rw [vbl_eq]; exact p)
/-! ### subscripts -/
@[irreducible] def ixOf (X : Cx) : R2 := fun x y H Q => ∀ (value slice : Expr) pins s σ v u, Inv X pins σ H s → RelV x v → RelV y u → subscripted slice false v u = operate [v, u] (getItem v u) → wpAny (model X.prog X.w) X.A (PyProof.Rows.subscriptTail value slice v u) (EP X pins σ Q) X.xe s
theorem ix_w : IxR X (ixOf X) := fun value slice pins s σ H x y v u Q I rx ry h hs => by unfold ixOf at h; exact h value slice pins s σ v u I rx ry hs
theorem ixOf.of {r : R2} {x y : V} {H : Hp} {Q : VK} (h : IxR X r) (q : r x y H Q) : ixOf X x y H Q := by unfold ixOf; exact fun value slice pins s σ v u I rx ry hs => h value slice pins s σ H x y v u Q I rx ry q hs
def WI (X : Cx) (R : Reg) (a b : Dt) (P : Dt → Prop) : Prop := ∀ F H x y Q, Wf R F H → Rp X.K F a x → Rp X.K F b y → Ct X.K R F H P Q → ixOf X x y H Q
theorem e_ix {a b : Expr} {P : Dt → Prop} (h : E X R G a fun d1 => E X R G b fun d2 => WI X R d1 d2 P) (hs : PlainIx b := by intro _ _; rfl) : E X R G (.Subscript a b pos) P := fun σ F H Q ty c =>
  tOf.of (pe_ix ix_w pe_w pe_w hs) (h σ F H _ ty fun v F1 H1 d1 ex1 r1 h2 => h2 σ F1 H1 _ (ty.ext ex1) fun w F2 H2 d2 ex2 r2 h3 => h3 F2 H2 v w Q ex2.wf (r1.mono ex2.ff) r2 (c.step (ex1.trans ex2)))
theorem RpL.at {K : PySem.W.Frag} {F : Hp} {ds : List Dt} {vs : List V} {i : Int} {d : Dt} (r : RpL K F ds vs) (h : atI ds i = some d) : ∃ v, atI vs i = some v ∧ Rp K F d v := by
  unfold atI at h ⊢
  rw [← r.length]
  cases q : ixN ds.length i with
  | none => rw [q] at h; simp at h
  | some j =>
    rw [q] at h
    simp only [Option.bind_some] at h ⊢
    exact r.get h
theorem wi_tup {ds : List Dt} {i : Int} {d : Dt} {P : Dt → Prop} (h : atI ds i = some d) (p : P d) : WI X R (.tup ds) (.int i) P := fun F H x y Q w rx ry c => by
  obtain ⟨a, vs, rfl, sq, rl⟩ := rp_tup.mp rx
  obtain ⟨v, e, r⟩ := rl.at h
  exact ixOf.of ix_tup ⟨a, vs, i, v, rfl, rp_int.mp ry, sq_t w.fh sq, e, c.here w r p⟩
theorem wi_lst {ds : List Dt} {i : Int} {d : Dt} {P : Dt → Prop} (h : atI ds i = some d) (p : P d) : WI X R (.lst ds) (.int i) P := fun F H x y Q w rx ry c => by
  obtain ⟨a, vs, rfl, sq, rl⟩ := rp_lst.mp rx
  obtain ⟨v, e, r⟩ := rl.at h
  exact ixOf.of ix_list ⟨a, vs, i, v, rfl, rp_int.mp ry, SqL.of (w.fh _ _ sq), e, c.here w r p⟩
theorem wi_str {z : Str} {i : Int} {k : Nat} {P : Dt → Prop} (hz : z.length ≤ sizeLine) (h : atI z.cps.toList i = some k) (p : P (.str ⟨#[k]⟩)) : WI X R (.str z) (.int i) P := fun F H x y Q w rx ry c =>
  ixOf.of ix_str ⟨z, i, k, rp_str.mp rx, rp_int.mp ry, hz, h, c.here w (rp_str.mpr rfl) p⟩
theorem wi_tup0 {d : Dt} {ds : List Dt} {P : Dt → Prop} (p : P d) : WI X R (.tup (d :: ds)) (.int 0) P := wi_tup (atI_nat (j := 0) rfl) p
theorem wi_tup1 {d e : Dt} {ds : List Dt} {P : Dt → Prop} (p : P e) : WI X R (.tup (d :: e :: ds)) (.int 1) P := wi_tup (atI_nat (j := 1) rfl) p
theorem wi_tup2 {d e f : Dt} {ds : List Dt} {P : Dt → Prop} (p : P f) : WI X R (.tup (d :: e :: f :: ds)) (.int 2) P := wi_tup (atI_nat (j := 2) rfl) p

/-! ### calls of what the machine brings -/
theorem e_callB {x : Str} {id : String} {e : Expr} {es : List Expr} {p : Pos} {P : Dt → Prop} (hg : Gl X x) (hm : X.mg x = none) (hv : bootBuiltins x = some (.builtin id)) (h : EA X R G (e :: es) fun ds => WC X R (.builtin id) ds P)
    (hn : x ≠ "__name__" := by decide) (hdb : (x == ("__debug__" : Str)) = false := by decide) (he : starEach (e :: es) X.env = (false, eval e X.env) :: starEach es X.env := by rfl) (hpl : (backTo pos (starEach es X.env)).any (·.1) = false := by rfl) : E X R G (.Call (.Name x p) (e :: es) [] pos) P := fun σ F H Q ty c =>
  tOf.of (pe_callB cr_w hg hm hv pa_w hn hdb he hpl) (h σ F H _ ty fun vs F1 H1 ds ex1 r1 h2 => h2 F1 H1 vs Q ex1.wf r1 (c.step ex1))
theorem e_callTy {x : Str} {id : String} {e : Expr} {es : List Expr} {p : Pos} {P : Dt → Prop} (hg : Gl X x) (hm : X.mg x = none) (hv : bootBuiltins x = some (.type id)) (h : EA X R G (e :: es) fun ds => WC X R (.type id) ds P)
    (hn : x ≠ "__name__" := by decide) (hdb : (x == ("__debug__" : Str)) = false := by decide) (he : starEach (e :: es) X.env = (false, eval e X.env) :: starEach es X.env := by rfl) (hpl : (backTo pos (starEach es X.env)).any (·.1) = false := by rfl) : E X R G (.Call (.Name x p) (e :: es) [] pos) P := fun σ F H Q ty c =>
  tOf.of (pe_callTy cr_w hg hm hv pa_w hn hdb he hpl) (h σ F H _ ty fun vs F1 H1 ds ex1 r1 h2 => h2 F1 H1 vs Q ex1.wf r1 (c.step ex1))
theorem RpL.one {K : PySem.W.Frag} {F : Hp} {d : Dt} {vs : List V} (h : RpL K F [d] vs) : ∃ v, vs = [v] ∧ Rp K F d v := by
  obtain ⟨v, r, rfl, h1, h2⟩ := h.of_cons
  rw [h2.of_nil]
  exact ⟨v, rfl, h1⟩
theorem RpL.two {K : PySem.W.Frag} {F : Hp} {d e : Dt} {vs : List V} (h : RpL K F [d, e] vs) : ∃ v w, vs = [v, w] ∧ Rp K F d v ∧ Rp K F e w := by
  obtain ⟨v, r, rfl, h1, h2⟩ := h.of_cons
  obtain ⟨w, rfl, h3⟩ := h2.one
  exact ⟨v, w, rfl, h1, h3⟩
def iabs (i : Int) : Int := if i < 0 then -i else i
theorem iabs_eq (i : Int) : iabs i = (i.natAbs : Int) := by
  unfold iabs
  split <;> omega
theorem wc_abs {i : Int} {P : Dt → Prop} (p : P (.int (i.natAbs : Int))) : WC X R (.builtin "abs") [.int i] P := fun F H xs Q w r c => by
  obtain ⟨v, rfl, h1⟩ := r.one
  rw [rp_int.mp h1]
  refine crOf.of call_abs ⟨i, rfl, ?_⟩
  have q := c.here w (rp_int.mpr rfl) (v := .int (iabs i)) (d := .int (iabs i)) (by rw [iabs_eq]; exact p)
  exact q
theorem wc_int {i : Int} {P : Dt → Prop} (p : P (.int i)) : WC X R (.type "int") [.int i] P := fun F H xs Q w r c => by
  obtain ⟨v, rfl, h1⟩ := r.one
  rw [rp_int.mp h1]
  exact crOf.of call_int1 (.inl ⟨i, rfl, c.here w (rp_int.mpr rfl) p⟩)
theorem wc_len_lst {ds : List Dt} {P : Dt → Prop} (p : P (.int (ds.length : Int))) : WC X R (.builtin "len") [.lst ds] P := fun F H xs Q w r c => by
  obtain ⟨v, rfl, h1⟩ := r.one
  obtain ⟨a, vs, rfl, sq, rl⟩ := rp_lst.mp h1
  refine crOf.of call_len_seq ⟨a, vs, rfl, .inl (SqL.of (w.fh _ _ sq)), ?_⟩
  exact c.here w (d := .int (ds.length : Int)) (rp_int.mpr (by rw [rl.length])) p
theorem wc_len_tup {ds : List Dt} {P : Dt → Prop} (p : P (.int (ds.length : Int))) : WC X R (.builtin "len") [.tup ds] P := fun F H xs Q w r c => by
  obtain ⟨v, rfl, h1⟩ := r.one
  obtain ⟨a, vs, rfl, sq, rl⟩ := rp_tup.mp h1
  refine crOf.of call_len_seq ⟨a, vs, rfl, .inr (sq_t w.fh sq), ?_⟩
  exact c.here w (d := .int (ds.length : Int)) (rp_int.mpr (by rw [rl.length])) p
end
end VS
set_option Elab.async false
set_option linter.all false
set_option maxRecDepth 100000
namespace VS
open PySem PySem.Spec L2

/-! ### statements over data -/
structure Kt where
  nx : List Sl → Prop
  rt : Dt → Prop
  rn : Dt → Prop := fun _ => False
  bk : List Sl → Prop := fun _ => False
  ct : List Sl → Prop := fun _ => False
/-- from the entry F0, H0 on -/
structure Bs (R : Reg) (F0 H0 : Hp) (G : List Sl) (σ : St) (F H : Hp) : Prop where
  ext : Ext R F0 H0 F H
  fresh : ∀ o ∈ owns G σ, H0 o = none
  z : R.Z F0 H0
structure KOk (K : PySem.W.Frag) (R : Reg) (F0 H0 : Hp) (k : Kt) (D : Ends) : Prop where
  nx : ∀ G σ F H, k.nx G → Ty K R G σ F H → Bs R F0 H0 G σ F H → D.nx σ H
  rt : ∀ d v F H, k.rt d → Ext R F0 H0 F H → Rp K F d v → D.rt v H
  rn : ∀ d p F H, k.rn d → Ext R F0 H0 F H → H0 p = none → F p = none → OwO K F H p d → D.rt (.ref p) H
  bk : ∀ G σ F H, k.bk G → Ty K R G σ F H → Bs R F0 H0 G σ F H → D.bk σ H
  ct : ∀ G σ F H, k.ct G → Ty K R G σ F H → Bs R F0 H0 G σ F H → D.ct σ H
def S (X : Cx) (R : Reg) (ss : List Stmt) (G : List Sl) (k : Kt) : Prop := ∀ F0 H0 σ F H D, Ty X.K R G σ F H → Bs R F0 H0 G σ F H → KOk X.K R F0 H0 k D → sOf X ss D σ H
def S1 (X : Cx) (R : Reg) (st : Stmt) (G : List Sl) (k : Kt) : Prop := ∀ F0 H0 σ F H D, Ty X.K R G σ F H → Bs R F0 H0 G σ F H → KOk X.K R F0 H0 k D → s1Of X st D σ H
section
variable {X : Cx} {R : Reg} {G : List Sl} {pos : Pos} {k : Kt} {F0 H0 F H F1 H1 : Hp} {σ : St}
theorem Bs.step (b : Bs R F0 H0 G σ F H) (e : Ext R F H F1 H1) : Bs R F0 H0 G σ F1 H1 := ⟨b.ext.trans e, b.fresh, b.z⟩
/-- the entry moved on to where F stands -/
theorem Bs.here (b : Bs R F0 H0 G σ F H) : Bs R F H0 G σ F H := ⟨⟨b.ext.wf, .refl _, b.ext.hh, fun _ _ h => h⟩, b.fresh, R.zs _ _ _ b.ext.ff b.ext.fr b.z⟩
theorem Ext.back (a : Ext R F0 H0 F H) (b : Ext R F H0 F1 H1) : Ext R F0 H0 F1 H1 := ⟨b.wf, a.ff.trans b.ff, b.hh, fun x h n => b.fr x h (a.fr x h n)⟩
theorem Bs.back {G1 : List Sl} {σ1 : St} (a : Ext R F0 H0 F H) (b : Bs R F H0 G1 σ1 F1 H1) (hz : R.Z F0 H0) : Bs R F0 H0 G1 σ1 F1 H1 := ⟨a.back b.ext, b.fresh, hz⟩
theorem KOk.here {D : Ends} (c : KOk X.K R F0 H0 k D) (a : Ext R F0 H0 F H) (hz : R.Z F0 H0) : KOk X.K R F H0 k D :=
  ⟨fun G σ F1 H1 h ty b => c.nx G σ F1 H1 h ty (b.back a hz), fun d v F1 H1 h e r => c.rt d v F1 H1 h (a.back e) r, fun d p F1 H1 h e => c.rn d p F1 H1 h (a.back e), fun G σ F1 H1 h ty b => c.bk G σ F1 H1 h ty (b.back a hz), fun G σ F1 H1 h ty b => c.ct G σ F1 H1 h ty (b.back a hz)⟩

theorem s_nil (h : k.nx G) : S X R [] G k := fun F0 H0 σ F H D ty b c => sOf.of pss_nil (c.nx G σ F H h ty b)
theorem s_cons {st : Stmt} {ss : List Stmt} (h : S1 X R st G { k with nx := fun G' => S X R ss G' k }) : S X R (st :: ss) G k := fun F0 H0 σ F H D ty b c =>
  sOf.of (pss_cons ps_w pss_w) (h F0 H0 σ F H _ ty b ⟨fun G' σ' F' H' h' ty' b' => h' F0 H0 σ' F' H' D ty' b' c, c.rt, c.rn, c.bk, c.ct⟩)
theorem s_one {st : Stmt} (h : S1 X R st G k) : S X R [st] G k := fun F0 H0 σ F H D ty b c => sOf.of (pss_one ps_w) (h F0 H0 σ F H D ty b c)
/-- a word between a statement and the rest -/
theorem s_cut {st : Stmt} {ss : List Stmt} (M : List Sl → Prop) (h : S1 X R st G { k with nx := M }) (h2 : ∀ G', M G' → S X R ss G' k) : S X R (st :: ss) G k := fun F0 H0 σ F H D ty b c =>
  sOf.of (pss_cons ps_w pss_w) (h F0 H0 σ F H _ ty b ⟨fun G' σ' F' H' h' ty' b' => h2 G' h' F0 H0 σ' F' H' D ty' b' c, c.rt, c.rn, c.bk, c.ct⟩)
theorem Bs.set (b : Bs R F0 H0 G σ F H) (i : Nat) {d : Dt} {x : V} : Bs R F0 H0 (G.set i (.sh d)) (σ.set i (some x)) F H := ⟨b.ext, fun o ho => b.fresh o ((owns_set_sub (g := .sh d) (v := some x) i (fun _ z => nomatch z)).subset ho), b.z⟩

/-- name = e -/
theorem s_asg (i : Nat) {x : Str} {e : Expr} {pos' : Pos} (hN : X.N.Nodup) (hi : X.N[i]? = some x) (hx : Loc X.env.scope x) (h : E X R G e fun d => k.nx (G.set i (.sh d)))
    (hs : swapsWith e (some (.Name x pos')) pos.line X.env = pure false := by rfl) (hf : X.fn x = true ∨ X.env.scope.names.lookup x = some .local := by first | exact .inl rfl | exact .inr rfl | assumption) : S1 X R (.Assign [.Name x pos'] e pos) G k := fun F0 H0 σ F H D ty b c =>
  s1Of.of (ps_set hN hi hx pe_w hs hf) (h σ F H _ ty fun v F1 H1 d ex r p => c.nx _ _ F1 H1 p ((ty.ext ex).set i r) ((b.step ex).set i))
theorem s_expr {e : Expr} (h : E X R G e fun _ => k.nx G) (hs : swapsWith e none pos.line X.env = pure false := by rfl) : S1 X R (.Expr e pos) G k := fun F0 H0 σ F H D ty b c =>
  s1Of.of (ps_expr pe_w hs) (h σ F H _ ty fun v F1 H1 d ex r p => c.nx _ _ F1 H1 p (ty.ext ex) (b.step ex))
theorem s_if {t : Expr} {a b : List Stmt} (h : T X R G t fun c => if c = true then S X R a G k else S X R b G k) : S1 X R (.If t a b pos) G k := fun F0 H0 σ F H D ty bs c =>
  s1Of.of (ps_if pt_w pss_w pss_w) (h σ F H _ ty fun q F1 H1 ex p => by
    cases q with
    | true => rw [if_pos rfl] at p ⊢; exact p F0 H0 σ F1 H1 D (ty.ext ex) (bs.step ex) c
    | false => rw [if_neg (by decide)] at p ⊢; exact p F0 H0 σ F1 H1 D (ty.ext ex) (bs.step ex) c)

/-! ### one's own things given away -/
def vis : Sl → Sl
  | .ow d => .sh d
  | g => g
theorem owo_rp {K : PySem.W.Frag} {F H F1 : Hp} {o : Addr} {d : Dt} (h : OwO K F H o d) (ff : Same F F1) (ho : F1 o = H o) : Rp K F1 d (.ref o) := by
  rcases h.kinds with ⟨xs, rfl⟩ | ⟨ks, xs, rfl⟩ | ⟨ks, xs, rfl⟩ | ⟨C, ns, xs, rfl⟩ | ⟨a, C, ns, xs, rfl⟩ | ⟨a, xs, rfl⟩ | ⟨a, ks, xs, rfl⟩
  · obtain ⟨vs, h1, r⟩ := h
    exact rp_lst.mpr ⟨o, vs, rfl, by rw [ho]; exact h1, r.mono ff⟩
  · obtain ⟨vs, h1, l, r⟩ := h
    exact rp_dT.mpr ⟨o, vs, rfl, .inl (by rw [ho]; exact h1), l, r.mono ff⟩
  · obtain ⟨vs, h1, l, r⟩ := h
    simp only [Rp]
    exact ⟨o, vs, rfl, .inl (by rw [ho]; exact h1), l, r.mono ff⟩
  · obtain ⟨dx, vs, h1, l, r⟩ := h
    exact rp_obj.mpr ⟨o, dx, vs, rfl, by rw [ho]; exact h1, l, r.mono ff⟩
  · obtain ⟨e, dx, vs, h1, l, r⟩ := h
    simp only [Rp]
    exact ⟨by rw [e], o, dx, vs, rfl, by rw [ho]; exact h1, l, r.mono ff⟩
  · obtain ⟨e, vs, h1, r⟩ := h
    simp only [Rp]
    exact ⟨by rw [e], o, vs, rfl, by rw [ho]; exact h1, r.mono ff⟩
  · obtain ⟨e, vs, h1, l, r⟩ := h
    simp only [Rp]
    exact ⟨by rw [e], o, vs, rfl, .inl (by rw [ho]; exact h1), l, r.mono ff⟩
theorem slsOk_vis {K : PySem.W.Frag} {F H F1 : Hp} {G : List Sl} {σ : St} (h : SlsOk K R F H G σ) (ff : Same F F1) (ho : ∀ o ∈ owns G σ, F1 o = H o) : SlsOk K R F1 H (G.map vis) σ := by
  induction h with
  | nil => exact .nil
  | @cons g v Gs vs h t ih =>
    refine .cons ?_ (ih fun o q => ho o ?_)
    · cases g with
      | no => trivial
      | sh d => obtain ⟨x, e, r⟩ := h; exact ⟨x, e, r.mono ff⟩
      | ow d =>
        obtain ⟨o, e, h1, h2, h3⟩ := h
        subst e
        exact ⟨.ref o, rfl, owo_rp h3 ff (ho o (by simp [owns]))⟩
    · cases g with
      | no => simpa [owns] using q
      | sh d => simpa [owns] using q
      | ow d =>
        cases v with
        | none => simpa [owns] using q
        | some x => cases x <;> simp [owns, q]
theorem owns_vis (G : List Sl) (σ : St) : owns (G.map vis) σ = [] := by
  induction G generalizing σ with
  | nil => simp [owns]
  | cons g G ih =>
    cases σ with
    | nil => cases g <;> simp [owns, vis]
    | cons v vs => cases g <;> simp [owns, vis, ih]
theorem Ty.frz {K : PySem.W.Frag} (ty : Ty K R G σ F H) (b : Bs R F0 H0 G σ F H) : ∃ F1, Ty K R (G.map vis) σ F1 H ∧ Bs R F0 H0 (G.map vis) σ F1 H ∧ Same F F1 := by
  have hno : ∀ o ∈ owns G σ, F o = none ∧ ¬ R.M o ∧ H o ≠ none := fun o ho => by
    obtain ⟨i, d, e1, e2⟩ := owns_mem ho
    obtain ⟨v, e3, p, e4, h1, h2, h3⟩ := ty.sl.get e1
    rw [e2] at e3
    cases e3
    cases e4
    exact ⟨h1, h2, h3.some⟩
  have ff : Same F (fun a => if a ∈ owns G σ then H a else F a) := fun a o h => by
    show (if a ∈ owns G σ then H a else F a) = some o
    by_cases q : a ∈ owns G σ
    · rw [(hno a q).1] at h; cases h
    · rw [if_neg q]; exact h
  have wf : Wf R (fun a => if a ∈ owns G σ then H a else F a) H := by
    refine ⟨fun a o h => ?_, fun a m => ?_, ty.wf.oc, ty.wf.b⟩
    · by_cases q : a ∈ owns G σ
      · have h' : (if a ∈ owns G σ then H a else F a) = some o := h
        rw [if_pos q] at h'; exact h'
      · have h' : (if a ∈ owns G σ then H a else F a) = some o := h
        rw [if_neg q] at h'; exact ty.wf.fh a o h'
    · show (if a ∈ owns G σ then H a else F a) = none
      by_cases q : a ∈ owns G σ
      · exact absurd m (hno a q).2.1
      · rw [if_neg q]; exact ty.wf.off a m
  refine ⟨_, ⟨wf, slsOk_vis ty.sl ff fun o ho => if_pos ho, by rw [owns_vis]; exact .nil⟩, ⟨⟨wf, b.ext.ff.trans ff, b.ext.hh, fun a h n => ?_⟩, (by rw [owns_vis]; intro o ho; cases ho), b.z⟩, ff⟩
  show (if a ∈ owns G σ then H a else F a) = none
  by_cases q : a ∈ owns G σ
  · exact absurd (b.fresh a q) h.ne
  · rw [if_neg q]; exact b.ext.fr a h n
/-- from here on nothing is one's own -/
theorem s_frz {ss : List Stmt} (h : S X R ss (G.map vis) k) : S X R ss G k := fun F0 H0 σ F H D ty b c => by
  obtain ⟨F1, ty1, b1, ff⟩ := ty.frz b
  exact h F0 H0 σ F1 H D ty1 b1 c
theorem s1_frz {st : Stmt} (h : S1 X R st (G.map vis) k) : S1 X R st G k := fun F0 H0 σ F H D ty b c => by
  obtain ⟨F1, ty1, b1, ff⟩ := ty.frz b
  exact h F0 H0 σ F1 H D ty1 b1 c
theorem s_ret {e : Expr} (h : E X R (G.map vis) e k.rt) : S1 X R (.Return (some e) pos) G k := s1_frz fun F0 H0 σ F H D ty b c =>
  s1Of.of (ps_ret pe_w) (h σ F H _ ty fun v F1 H1 d ex r p => c.rt d v F1 H1 p (b.ext.trans ex) r)
/-! ### while -/
theorem s_while {t : Expr} {body : List Stmt} (I : Nat → List Sl → Prop) (m0 : Nat) (h0 : I m0 G) (hp : PassesOwn (model X.prog X.w) X.A X.env X.xe)
    (hs : ∀ m G, I m G → T X R G t fun c => if c = true then S X R body G { k with nx := fun G' => ∃ m', m' < m ∧ I m' G', ct := fun G' => ∃ m', m' < m ∧ I m' G', bk := k.nx } else k.nx G) : S1 X R (.While t body [] pos) G k := fun F0 H0 σ F H D ty b c =>
  s1Of.of (ps_while hp pt_w pss_w) ⟨fun m σ H => ∃ G F, I m G ∧ Ty X.K R G σ F H ∧ Bs R F0 H0 G σ F H, ⟨m0, G, F, h0, ty, b⟩, fun m σ H ⟨G, F, hI, ty, b⟩ => by
    refine hs m G hI σ F H _ ty fun q F1 H1 ex p => ?_
    cases q with
    | false => rw [if_neg (by decide)] at p ⊢; exact c.nx G σ F1 H1 p (ty.ext ex) (b.step ex)
    | true =>
      rw [if_pos rfl] at p ⊢
      refine ⟨_, fun σ' H' z => z, p F0 H0 σ F1 H1 _ (ty.ext ex) (b.step ex) ⟨fun G' σ' F' H' ⟨m', hm, z⟩ ty' b' => ⟨m', hm, G', F', z, ty', b'⟩, c.rt, c.rn, c.nx, fun G' σ' F' H' ⟨m', hm, z⟩ ty' b' => ⟨m', hm, G', F', z, ty', b'⟩⟩⟩⟩
/-- a, b = x, y -/
theorem s_par (i j : Nat) {x y : Str} {a b : Expr} {px py pt : Pos} {kt k2 pt2} (hc : X.calm = true) (hN : X.N.Nodup) (hi : X.N[i]? = some x) (hj : X.N[j]? = some y) (hij : i ≠ j)
    (hx : X.env.scope.names.lookup x = some .local) (hy : X.env.scope.names.lookup y = some .local) (h : EA X R G [a, b] fun ds => ∃ d e, ds = [d, e] ∧ k.nx ((G.set i (.sh d)).set j (.sh e)))
    (hw : swappedStores [.Tuple [.Name x px, .Name y py] kt pt] (.Tuple [a, b] k2 pt2) X.env = pure (some [x, y]))
    (hs : swapsWithSole [.Tuple [.Name x px, .Name y py] kt pt] (.Tuple [a, b] k2 pt2) pos.line X.env = pure false := by rfl) :
    S1 X R (.Assign [.Tuple [.Name x px, .Name y py] kt pt] (.Tuple [a, b] k2 pt2) pos) G k := fun F0 H0 σ F H D ty bs c =>
  s1Of.of (ps_par hc hN hi hj hij hx hy pa_w hw hs) (h σ F H _ ty fun vs F1 H1 ds ex r ⟨d, e, q, p⟩ => by
    subst q
    obtain ⟨v, w, rfl, r1, r2⟩ := r.two
    exact ⟨v, w, rfl, c.nx _ _ F1 H1 p (((ty.ext ex).set i r1).set j r2) (((bs.step ex).set i).set j)⟩)
end

/-! ### defs -/
/-- an error that leaves: its class, its own attributes -/
abbrev XD := Addr → List Str → List Dt → Prop
/-- a def's promise over data: the arguments, what is wanted of the value, of an error -/
abbrev Ph := List Dt → (Dt → Prop) → XD → Prop
def XOk (K : PySem.W.Frag) (R : Reg) (F H : Hp) (x : XD) (E : XK) : Prop := (∀ C ns ds dx vs F' H', x C ns ds → Ext R F H F' H' → H' dx = some (.xd (ns.zip vs)) → ns.length = vs.length → RpL K F' ds vs → H dx = none → E (.ref C) (some dx) H') ∧ (∀ C F' H', x C [] [] → Ext R F H F' H' → E (.ref C) none H')
def spD (K : PySem.W.Frag) (n : Nat) (φ : Ph) : Sp := fun vs H Q E => vs.length = n ∧ ∃ F ds q x, Same F H ∧ RpL K F ds vs ∧ φ ds q x ∧ (∀ v F' H' d, Ext .nil F H F' H' → Rp K F' d v → q d → Q v H') ∧ XOk K .nil F H x E
structure Fn (P : Program) (w : World) (K : PySem.W.Frag) (mg : Str → Option Value) (base : Heap) (k : Nat) (x : Str) (ps : List Str) (dvs : List V) (sp : Sp) : Prop where
  ex : ∃ (f : Addr) (fd : FuncData) (ds : List Value), mg x = some (.ref f) ∧ PySem.W.keepIn K (.ref f) = true ∧ Binds K fd ps ds ∧ Vals dvs ds ∧ FnOk P w K mg base (L2N.CX P w) k f fd ps sp
theorem Fn.mono {P : Program} {w : World} {K : PySem.W.Frag} {mg : Str → Option Value} {base : Heap} {j k : Nat} {x : Str} {ps : List Str} {dvs : List V} {sp : Sp} (F : Fn P w K mg base j x ps dvs sp) (h : j ≤ k) : Fn P w K mg base k x ps dvs sp := by
  obtain ⟨f, fd, ds, a, b, c, d, e⟩ := F.ex
  exact ⟨f, fd, ds, a, b, c, d, e.mono h⟩
theorem wf_nil {F H : Hp} (s : Same F H) : Wf .nil F H := ⟨s, fun _ z => z.elim, fun _ z => z.elim, trivial⟩
theorem Ext.of_nil {R : Reg} {F H F' H' : Hp} (w : Wf R F H) (e : Ext .nil F H F' H') : Ext R F H F' H' := w.grow (fun a o h => e.hh a o (fun z => z) h) e.ff e.wf.fh e.fr
section
variable {X : Cx} {R : Reg} {G : List Sl} {pos : Pos}
/-- f(e, ..): nothing is raised -/
theorem e_call {x : Str} {ps : List Str} {dvs : List V} {dds : List Dt} {φ : Ph} {n j : Nat} {e : Expr} {es : List Expr} {p : Pos} {P : Dt → Prop} (F : Fn X.prog X.w X.K X.mg X.base j x ps dvs (spD X.K n φ)) (hr : Room j X.A) (hg : Gl X x) (hd : ∀ F, RpL X.K F dds dvs)
    (h : EA X R G (e :: es) fun ds => (ds ++ dds).length = n ∧ φ (ds ++ dds) P fun _ _ _ => False)
    (hdb : (x == ("__debug__" : Str)) = false := by decide) (he : starEach (e :: es) X.env = (false, eval e X.env) :: starEach es X.env := by rfl) (hpl : (backTo pos (starEach es X.env)).any (·.1) = false := by rfl) : E X R G (.Call (.Name x p) (e :: es) [] pos) P := fun σ F' H Q ty c => by
  obtain ⟨f, fd, ds, a1, a2, a3, a4, a5⟩ := F.ex
  refine tOf.of (pe_call a5 hr hg a1 a2 a3 a4 passLn pa_w hdb he hpl) (h σ F' H _ ty fun vs F1 H1 ds ex r ⟨hl, hφ⟩ => ?_)
  have rr : RpL X.K F1 (ds ++ dds) (vs ++ dvs) := r.append (hd F1)
  exact ⟨by rw [← hl]; exact rr.length.symm, F1, _, P, fun _ _ _ => False, ex.wf.fh, rr, hφ, fun v F2 H2 d ex2 r2 p => c v F2 H2 d (ex.trans (Ext.of_nil ex.wf ex2)) r2 p, ⟨fun _ _ _ _ _ _ _ z => z.elim, fun _ _ _ z => z.elim⟩⟩
end

/-! ### a def keeps its promise -/
def st0 (N : List Str) (ds : List Dt) : List Sl := ds.map .sh ++ List.replicate (N.length - ds.length) .no
theorem sls0 {K : PySem.W.Frag} {R : Reg} {F H : Hp} : ∀ {ds : List Dt} {vs : List V} (n : Nat), RpL K F ds vs → SlsOk K R F H (ds.map .sh ++ List.replicate n .no) (vs.map some ++ List.replicate n none)
  | [], _, n, r => by
    rw [r.of_nil]
    simp only [List.map_nil, List.nil_append]
    induction n with
    | zero => exact .nil
    | succ n ih => exact .cons trivial ih
  | d :: ds, _, n, r => by
    obtain ⟨v, t, rfl, h1, h2⟩ := r.of_cons
    exact .cons ⟨v, rfl, h1⟩ (sls0 n h2)
theorem owns0 : ∀ (ds : List Dt) (σ : St) (n : Nat), owns (ds.map Sl.sh ++ List.replicate n .no) σ = []
  | [], σ, n => by
    simp only [List.map_nil, List.nil_append]
    induction n generalizing σ with
    | zero => simp [owns]
    | succ n ih =>
      cases σ with
      | nil => simp [owns, List.replicate_succ]
      | cons v vs => simp [owns, List.replicate_succ, ih]
  | d :: ds, [], n => by simp [owns]
  | d :: ds, v :: vs, n => by simp [owns, owns0 ds vs n]
section
variable {P : Program} {w : World} {K : PySem.W.Frag} {mg : Str → Option Value} {base : Heap}
/-- a def of the text as it stands behind the top -/
abbrev FD (K : PySem.W.Frag) (x qual : Str) (st : Stmt) (dvs : List V) (kws : List (Str × V)) (f : Addr) (fd : FuncData) : Prop := FunD K x qual (defArgs st) (defBody st) (defScope st) dvs kws f fd
theorem fn_ok {x qual : Str} {st : Stmt} {f : Addr} {fd : FuncData} {dvs : List V} {kws : List (Str × V)} {N ps : List Str} {k n : Nat} {φ : Ph} (F : FD K x qual st dvs kws f fd) (Sc : FnScope N ps (defScope st)) (hn : n = ps.length)
    (h : ∀ (X : Cx) (cdv : Value) (A : Around) (outer : List Env) (s : Shared) (H : Hp) (E : XK) (ds : List Dt) (q : Dt → Prop) (xd : XD), X = cxOf (L2N.CX P w) P w K mg base N qual (defScope st) f cdv A outer s H E → Room k X.A → φ ds q xd → ds.length = n →
      (∀ F, Wf .nil F H → XOk K .nil F H xd E → S X .nil (defBody st) (st0 N ds) { nx := fun _ => q .non, rt := q })) : FnOk P w K mg base (L2N.CX P w) (k + 1) f fd ps (spD K n φ) := by
  refine FunD.ok F Sc (fun vs H Q E hh => by rw [hh.1, hn]) fun cdv A outer s H vs Q E hr hh => ?_
  obtain ⟨hl, F0, ds, q, xd, sf, r, hφ, hq, hx⟩ := hh
  have hS := h _ cdv A outer s H E ds q xd rfl hr hφ (by rw [r.length, hl]) F0 (wf_nil sf) hx
  refine ⟨_, pss_w, hS F0 H _ F0 H _ ⟨wf_nil sf, ?_, by unfold st0; rw [owns0]; exact .nil⟩ ⟨.refl (wf_nil sf), (by unfold st0; rw [owns0]; intro o ho; cases ho), trivial⟩ ⟨fun G σ F1 H1 z _ b => hq .non F1 H1 .non b.ext (rp_non.mpr rfl) z, fun d v F1 H1 z e rd => hq v F1 H1 d e rd z, fun _ _ _ _ z => z.elim, fun _ _ _ _ z => z.elim, fun _ _ _ _ z => z.elim⟩⟩
  unfold st0 L2.start
  rw [r.length]
  exact sls0 _ r
end
end VS
set_option Elab.async false
set_option linter.all false
set_option maxRecDepth 100000
namespace VS
open PySem PySem.Spec L2

/-! ### what is walked, over data -/
@[irreducible] def tiOf (X : Cx) (tg iter : Expr) : TI := fun σ H R => ∀ pins s, Inv X pins σ H s → wpAny (model X.prog X.w) X.A (eval iter X.env) (fun v s1 => wpAny (model X.prog X.w) X.A (pyIter v) (PIE X pins σ tg R) X.xe s1) X.xe s
@[irreducible] def tgOf (X : Cx) (tg : Expr) : TG := fun v σ H Q => ∀ pins s u, Inv X pins σ H s → RelV v u → wpAny (model X.prog X.w) X.A (assign tg X.env u) (fun _ s' => ∃ σ' H', Inv X pins σ' H' s' ∧ Q σ' H') X.xe s
theorem pi_w {X : Cx} {tg iter : Expr} : PI X tg iter (tiOf X tg iter) := ⟨fun pins s σ H R I h => by unfold tiOf at h; exact h pins s I⟩
theorem pg_w {X : Cx} {tg : Expr} : PG X tg (tgOf X tg) := ⟨fun pins s σ H v u Q I r h => by unfold tgOf at h; exact h pins s u I r⟩
theorem tiOf.of {X : Cx} {tg iter : Expr} {t : TI} {σ : St} {H : Hp} {R : It → Hp → Prop} (h : PI X tg iter t) (q : t σ H R) : tiOf X tg iter σ H R := by unfold tiOf; exact fun pins s I => h.run pins s σ H R I q
theorem tgOf.of {X : Cx} {tg : Expr} {t : TG} {v : V} {σ : St} {H : Hp} {Q : St → Hp → Prop} (h : PG X tg t) (q : t v σ H Q) : tgOf X tg v σ H Q := by unfold tgOf; exact fun pins s u I r => h.run pins s σ H v u Q I r q
/-- the iterator J gives out the data ds, where F1 is known -/
def Itd (K : PySem.W.Frag) (R : Reg) (F1 : Hp) (J : It) (ds : List Dt) : Prop := ∀ F H, Same F1 F → Wf R F H → (∀ i, ds.length ≤ i → J.stop i H) ∧
  ∀ i d, ds[i]? = some d → J.go i H ∧ ∀ x H', J.yld i H x H' → ∃ F', Ext R F H F' H' ∧ Rp K F' d x
def I (X : Cx) (R : Reg) (G : List Sl) (tg iter : Expr) (P : List Dt → Prop) : Prop := ∀ σ F H Q, Ty X.K R G σ F H → (∀ J F' H' ds, Ext R F H F' H' → Itd X.K R F' J ds → P ds → Q J H') → tiOf X tg iter σ H Q
/-- slots set, one after another -/
def setsV (σ : St) (l : List (Nat × V)) : St := l.foldl (fun σ p => σ.set p.1 (some p.2)) σ
def setsD (G : List Sl) (l : List (Nat × Dt)) : List Sl := l.foldl (fun G p => G.set p.1 (.sh p.2)) G
/-- a target takes d: the slots js hold what ds tells -/
def A (X : Cx) (tg : Expr) (d : Dt) (js : List (Nat × Dt)) : Prop := ∀ σ F H v (Q : St → Hp → Prop), Same F H → Rp X.K F d v → (∀ vs, js.length = vs.length → RpL X.K F (js.map (·.2)) vs → Q (setsV σ ((js.map (·.1)).zip vs)) H) → tgOf X tg v σ H Q
section
variable {X : Cx} {R : Reg} {G : List Sl} {pos : Pos} {k : Kt}
theorem Ty.sets {K : PySem.W.Frag} {F H : Hp} : ∀ {js : List (Nat × Dt)} {vs : List V} {G : List Sl} {σ : St}, Ty K R G σ F H → RpL K F (js.map (·.2)) vs → Ty K R (setsD G js) (setsV σ ((js.map (·.1)).zip vs)) F H
  | [], vs, G, σ, ty, r => ty
  | (j, d) :: js, _, G, σ, ty, r => by
    obtain ⟨v, t, rfl, h1, h2⟩ := r.of_cons
    exact Ty.sets (js := js) (ty.set j h1) h2
theorem owns_sets : ∀ {js : List (Nat × Dt)} {vs : List V} {G : List Sl} {σ : St} {o : Addr}, js.length = vs.length → o ∈ owns (setsD G js) (setsV σ ((js.map (·.1)).zip vs)) → o ∈ owns G σ
  | [], vs, G, σ, o, _, h => h
  | (j, d) :: js, [], G, σ, o, hl, h => by simp at hl
  | (j, d) :: js, v :: vs, G, σ, o, hl, h => (owns_set_sub (g := .sh d) (v := some v) j (fun _ z => nomatch z)).subset (owns_sets (js := js) (vs := vs) (by simpa using hl) h)
theorem a_name (j : Nat) {x : Str} {d : Dt} (hN : X.N.Nodup) (hi : X.N[j]? = some x) (hx : Loc X.env.scope x) (hf : X.fn x = true ∨ X.env.scope.names.lookup x = some .local := by first | exact .inl rfl | exact .inr rfl | assumption) : A X (.Name x pos) d [(j, d)] := fun σ F H v Q _ r c =>
  tgOf.of (pg_name hN hi hx hf) (c [v] rfl (.cons r .nil))
/-- several targets take several data -/
def As (X : Cx) (ts : List Expr) (ds : List Dt) (js : List (Nat × Dt)) : Prop := ∃ t, PGs X ts t ∧ ∀ σ F H vs (Q : St → Hp → Prop), Same F H → RpL X.K F ds vs → (∀ ws, js.length = ws.length → RpL X.K F (js.map (·.2)) ws → Q (setsV σ ((js.map (·.1)).zip ws)) H) → t vs σ H Q
theorem as_nil : As X [] [] [] := ⟨_, pgs_nil, fun σ F H vs Q _ r c => ⟨r.of_nil, c [] rfl .nil⟩⟩
theorem zip_app {α β : Type} : ∀ {l1 : List α} {m1 : List β} {l2 : List α} {m2 : List β}, l1.length = m1.length → (l1 ++ l2).zip (m1 ++ m2) = l1.zip m1 ++ l2.zip m2
  | [], [], _, _, _ => rfl
  | [], _ :: _, _, _, h => by simp at h
  | _ :: _, [], _, _, h => by simp at h
  | a :: l1, b :: m1, l2, m2, h => by
    simp only [List.cons_append, List.zip_cons_cons]
    rw [zip_app (by simpa using h)]
theorem as_cons {t : Expr} {ts : List Expr} {d : Dt} {ds : List Dt} {js ls : List (Nat × Dt)} (h : A X t d js) (hr : As X ts ds ls) (hs : (assignEach (t :: ts) X.env).map (·.2) = assign t X.env :: (assignEach ts X.env).map (·.2) := by rfl) : As X (t :: ts) (d :: ds) (js ++ ls) := by
  obtain ⟨u, hu, hq⟩ := hr
  refine ⟨_, pgs_cons pg_w hu hs, fun σ F H vs Q sf r c => ?_⟩
  obtain ⟨v, w, rfl, r1, r2⟩ := r.of_cons
  refine ⟨v, w, rfl, h σ F H v _ sf r1 fun ws hw rw1 => hq _ F H w _ sf r2 fun zs hz rz => ?_⟩
  have e := c (ws ++ zs) (by simp [hw, hz]) (by rw [List.map_append]; exact rw1.append rz)
  rw [List.map_append, zip_app (by simpa using hw)] at e
  unfold setsV at e ⊢
  rw [List.foldl_append] at e
  exact e
theorem a_tup {es : List Expr} {kk : Nat} {ds : List Dt} {js : List (Nat × Dt)} (hc : X.calm = true) (h : As X es ds js) (hn : (assignEach es X.env).length = ds.length := by rfl) (hst : (assignEach es X.env).findIdx? (·.1) = none := by rfl) : A X (.Tuple es kk pos) (.tup ds) js := fun σ F H v Q sf r c => by
  obtain ⟨t, ht, hq⟩ := h
  obtain ⟨a, vs, rfl, sq, rl⟩ := rp_tup.mp r
  exact tgOf.of (pg_tup hc ht hn hst) ⟨a, vs, rfl, sq_t sf sq, rl.length.symm, hq σ F H vs Q sf rl c⟩
/-- a, b = e -/
theorem s_unpack {tg e : Expr} (h : E X R G e fun d => ∃ js, A X tg d js ∧ k.nx (setsD G js)) (hs : swapsWithSole [tg] e pos.line X.env = pure false := by rfl) (hw : swappedStores [tg] e X.env = pure none := by rfl)
    (h1 : (assignEach [tg] X.env).map (·.2) = [assign tg X.env] := by rfl) : S1 X R (.Assign [tg] e pos) G k := fun F0 H0 σ F H D ty b c =>
  s1Of.of (ps_asg pe_w pg_w hs hw h1) (h σ F H _ ty fun v F1 H1 d ex r ⟨js, ha, p⟩ => ha σ F1 H1 v _ ex.wf.fh r fun vs hl rv => c.nx _ _ F1 H1 p ((ty.ext ex).sets rv) ⟨(b.step ex).ext, fun o ho => b.fresh o (owns_sets hl ho), b.z⟩)

/-! ### for -/
theorem s_for {tg iter : Expr} {body : List Stmt} (hp : PassesOwn (model X.prog X.w) X.A X.env X.xe) (hc : X.calm = true)
    (h : I X R G tg iter fun ds => ∃ J : Nat → List Sl → Prop, J 0 G ∧ (∀ i d G, ds[i]? = some d → J i G → ∃ js, A X tg d js ∧ S X R body (setsD G js) { k with nx := J (i + 1), ct := J (i + 1), bk := k.nx }) ∧ ∀ G, J ds.length G → k.nx G)
    (hs : ∀ x, foldedSetIterable iter X.env x = pure x := by intro _; rfl) : S1 X R (.For tg iter body [] pos) G k := fun F0 H0 σ F H D ty b c => by
  refine s1Of.of (ps_for hp hc pi_w pg_w pss_w hs) (h σ F H _ ty fun Jt F1 H1 ds ex it ⟨J, j0, jt, jd⟩ => ?_)
  refine ⟨fun i m σ H => m = ds.length - i ∧ i ≤ ds.length ∧ ∃ G F, J i G ∧ Ty X.K R G σ F H ∧ Bs R F0 H0 G σ F H ∧ Same F1 F, ⟨_, rfl, Nat.zero_le _, G, F1, j0, ty.ext ex, b.step ex, .refl _⟩, ?_⟩
  rintro i m σ2 H2 ⟨rfl, hi, G2, F2, jg, ty2, b2, s2⟩
  obtain ⟨hstop, hgo⟩ := it F2 H2 s2 ty2.wf
  by_cases hlt : i < ds.length
  · obtain ⟨g1, g2⟩ := hgo i ds[i] (List.getElem?_eq_getElem hlt)
    refine .inr ⟨g1, _, fun σ' H' z => z, fun x H' y => ?_⟩
    obtain ⟨F3, ex3, r3⟩ := g2 x H' y
    obtain ⟨js, ha, hS⟩ := jt i ds[i] G2 (List.getElem?_eq_getElem hlt) jg
    refine ha σ2 F3 H' x _ ex3.wf.fh r3 fun vs hl rv => ?_
    have b3 := b2.step ex3
    have b4 : Bs R F0 H0 (setsD G2 js) (setsV σ2 ((js.map (·.1)).zip vs)) F3 H' := ⟨b3.ext, fun o ho => b3.fresh o (owns_sets hl ho), b3.z⟩
    have nxt : ∀ G' σ' F' H'', J (i + 1) G' → Ty X.K R G' σ' F' H'' → Bs R F3 H0 G' σ' F' H'' → ∃ m', m' < ds.length - i ∧ m' = ds.length - (i + 1) ∧ i + 1 ≤ ds.length ∧ ∃ G F, J (i + 1) G ∧ Ty X.K R G σ' F H'' ∧ Bs R F0 H0 G σ' F H'' ∧ Same F1 F :=
      fun G' σ' F' H'' z tz bz => ⟨_, by omega, rfl, hlt, G', F', z, tz, Bs.back b3.ext bz b3.z, (s2.trans ex3.ff).trans bz.ext.ff⟩
    have c2 := c.here b3.ext b3.z
    exact hS F3 H0 _ F3 H' _ ((ty2.ext ex3).sets rv) b4.here ⟨nxt, c2.rt, c2.rn, c2.nx, nxt⟩
  · have e : i = ds.length := by omega
    subst e
    exact .inl ⟨hstop _ (Nat.le_refl _), c.nx G2 σ2 F2 H2 (jd G2 jg) ty2 b2⟩
theorem i_lst {tg e : Expr} {P : List Dt → Prop} (h : E X R G e fun d => ∃ ds, d = .lst ds ∧ P ds) : I X R G tg e P := fun σ F H Q ty c =>
  tiOf.of (pi_list pe_w) (h σ F H _ ty fun v F1 H1 d ex r ⟨ds, e, p⟩ => by
    subst e
    obtain ⟨a, vs, rfl, sq, rl⟩ := rp_lst.mp r
    refine ⟨a, rfl, ⟨vs, SqL.of (ex.wf.fh _ _ sq)⟩, c _ F1 H1 ds ex (fun F2 H2 sf wf => ?_) p⟩
    have sq2 : SqL X.K H2 a vs := SqL.of (wf.fh _ _ (sf _ _ sq))
    refine ⟨fun i hi => ⟨vs, sq2, by rw [← rl.length]; exact hi⟩, fun i d hd => ?_⟩
    obtain ⟨v, hv, rv⟩ := rl.get hd
    refine ⟨⟨vs, v, sq2, hv⟩, fun x H' y => ?_⟩
    obtain ⟨rfl, y⟩ := y
    have e := y vs sq2
    rw [hv] at e
    cases e
    exact ⟨F2, .refl wf, rv.mono sf⟩)
theorem i_tup {tg e : Expr} {P : List Dt → Prop} (h : E X R G e fun d => ∃ ds, d = .tup ds ∧ P ds) : I X R G tg e P := fun σ F H Q ty c =>
  tiOf.of (pi_tup pe_w) (h σ F H _ ty fun v F1 H1 d ex r ⟨ds, e, p⟩ => by
    subst e
    obtain ⟨a, vs, rfl, sq, rl⟩ := rp_tup.mp r
    refine ⟨a, rfl, ⟨vs, sq_t ex.wf.fh sq⟩, c _ F1 H1 ds ex (fun F2 H2 sf wf => ?_) p⟩
    have sq2 : SqT X.K H2 a vs := sq_t wf.fh (sq_t sf sq)
    refine ⟨fun i hi => ⟨vs, sq2, by rw [← rl.length]; exact hi⟩, fun i d hd => ?_⟩
    obtain ⟨v, hv, rv⟩ := rl.get hd
    refine ⟨⟨vs, v, sq2, hv⟩, fun x H' y => ?_⟩
    obtain ⟨rfl, y⟩ := y
    have e := y vs sq2
    rw [hv] at e
    cases e
    exact ⟨F2, .refl wf, rv.mono sf⟩)
/-- lo, lo + 1, .. n of them -/
def rangeD (lo : Int) (n : Nat) : List Dt := (List.range n).map fun i => .int (lo + (i : Nat))
theorem rangeD_length (lo : Int) (n : Nat) : (rangeD lo n).length = n := by simp [rangeD]
theorem rangeD_get {lo : Int} {n i : Nat} {d : Dt} (h : (rangeD lo n)[i]? = some d) : i < n ∧ d = .int (lo + (i : Nat)) := by
  unfold rangeD at h
  rw [List.getElem?_map] at h
  by_cases hi : i < n
  · rw [List.getElem?_range hi] at h
    exact ⟨hi, (Option.some.inj h).symm⟩
  · rw [List.getElem?_eq_none (by simpa using hi)] at h
    cases h
theorem itd_range {F1 : Hp} {lo : Int} {n : Nat} : Itd X.K R F1 (Itr lo n) (rangeD lo n) := fun F H sf wf => ⟨fun i hi => by rw [rangeD_length] at hi; exact hi, fun i d hd => by
  obtain ⟨h1, h2⟩ := rangeD_get hd
  refine ⟨h1, fun x H' y => ?_⟩
  obtain ⟨rfl, rfl⟩ := y
  exact ⟨F, .refl wf, by rw [h2]; exact rp_int.mpr rfl⟩⟩
theorem i_range1 {tg a : Expr} {p : Pos} {P : List Dt → Prop} (hg : Gl X "range") (hm : X.mg "range" = none) (h : EA X R G [a] fun ds => ∃ n : Int, ds = [.int n] ∧ -(2 ^ 62) ≤ n ∧ n < 2 ^ 62 ∧ P (rangeD 0 n.toNat)) (hs : starEach [a] X.env = [(false, eval a X.env)] := by rfl) : I X R G tg (.Call (.Name "range" p) [a] [] pos) P := fun σ F H Q ty c =>
  tiOf.of (pi_range1 hg hm pa_w hs) (h σ F H _ ty fun v F1 H1 d ex r ⟨n, e, h1, h2, p⟩ => by
    subst e
    obtain ⟨v, rfl, r1⟩ := r.one
    exact ⟨n, by rw [rp_int.mp r1], h1, h2, c _ F1 H1 _ ex itd_range p⟩)
theorem i_range2 {tg a b : Expr} {p : Pos} {P : List Dt → Prop} (hg : Gl X "range") (hm : X.mg "range" = none) (h : EA X R G [a, b] fun ds => ∃ lo n : Int, ds = [.int lo, .int n] ∧ (-(2 ^ 62) ≤ lo ∧ lo < 2 ^ 62 ∧ -(2 ^ 62) ≤ n ∧ n < 2 ^ 62) ∧ P (rangeD lo (n - lo).toNat))
    (hs : starEach [a, b] X.env = [(false, eval a X.env), (false, eval b X.env)] := by rfl) (hs2 : starEach [b] X.env = [(false, eval b X.env)] := by rfl) : I X R G tg (.Call (.Name "range" p) [a, b] [] pos) P := fun σ F H Q ty c =>
  tiOf.of (pi_range2 hg hm pa_w hs hs2) (h σ F H _ ty fun v F1 H1 d ex r ⟨lo, n, e, h3, p⟩ => by
    subst e
    obtain ⟨v, w, rfl, r1, r2⟩ := r.two
    exact ⟨lo, n, by rw [rp_int.mp r1, rp_int.mp r2], h3, c _ F1 H1 _ ex itd_range p⟩)

/-! ### comprehensions -/
theorem wipe_set (σ : St) (j : Nat) (v : Option V) : ∀ {vs : List Nat}, j ∈ vs → wipe (σ.set j v) vs = wipe σ vs
  | [], h => by simp at h
  | u :: vs, h => by
    show (wipe (σ.set j v) vs).set u none = (wipe σ vs).set u none
    by_cases q : j ∈ vs
    · rw [wipe_set σ j v q]
    · have e : j = u := by
        rcases List.mem_cons.mp h with z | z
        · exact z
        · exact absurd z q
      subst e
      have w : ∀ (us : List Nat) (τ : St), j ∉ us → wipe (τ.set j v) us = (wipe τ us).set j v := fun us => by
        induction us with
        | nil => intro τ _; rfl
        | cons a us ih =>
          intro τ hn
          simp only [List.mem_cons, not_or] at hn
          show (wipe (τ.set j v) us).set a none = ((wipe τ us).set a none).set j v
          rw [ih τ hn.2, List.set_comm _ _ hn.1]
      rw [w vs σ q, List.set_set]
theorem wipe_sets {vs : List Nat} : ∀ {js : List (Nat × V)} {σ : St}, (∀ p ∈ js, p.1 ∈ vs) → wipe (setsV σ js) vs = wipe σ vs
  | [], σ, _ => rfl
  | (j, v) :: js, σ, h => by
    show wipe (setsV (σ.set j (some v)) js) vs = wipe σ vs
    rw [wipe_sets (js := js) fun p hp => h p (List.mem_cons_of_mem _ hp), wipe_set σ j (some v) (h (j, v) (List.mem_cons_self ..))]
theorem wipe_wipe (σ : St) (vs : List Nat) : wipe (wipe σ vs) vs = wipe σ vs := by
  have w : ∀ (us : List Nat) (τ : St), (∀ u ∈ us, u ∈ vs) → wipe (wipe τ us) vs = wipe τ vs := fun us => by
    induction us with
    | nil => intro τ _; rfl
    | cons a us ih =>
      intro τ hn
      show wipe ((wipe τ us).set a none) vs = wipe τ vs
      rw [wipe_set _ a none (hn a (List.mem_cons_self ..)), ih τ fun u hu => hn u (List.mem_cons_of_mem _ hu)]
  exact w vs σ fun u hu => hu
def wipeD (G : List Sl) : List Nat → List Sl
  | [] => G
  | v :: vs => (wipeD G vs).set v .no
theorem Ty.no {K : PySem.W.Frag} {F H : Hp} {σ : St} (h : Ty K R G σ F H) (i : Nat) {v : Option V} : Ty K R (G.set i .no) (σ.set i v) F H := ⟨h.wf, h.sl.set i trivial, h.nd.sublist (owns_set_sub i fun _ z => nomatch z)⟩
theorem Ty.wipe {K : PySem.W.Frag} {F H : Hp} {σ : St} (h : Ty K R G σ F H) : ∀ vs : List Nat, Ty K R (wipeD G vs) (L2.wipe σ vs) F H
  | [] => h
  | v :: vs => (Ty.wipe h vs).no v
/-- a block's context -/
def Blk (X : Cx) (scope : Scope) (Y : Cx) : Prop := ∃ s H C cl fp, Y = X.blk s H scope (compEnvC scope cl C X.env) fp
theorem Blk.K {scope : Scope} {Y : Cx} (b : Blk X scope Y) : Y.K = X.K := by
  obtain ⟨s, H, C, cl, fp, rfl⟩ := b
  rfl
@[irreducible] def tsOf (X : Cx) (ifs : List Expr) : TT := fun σ H Q => ∀ pins s, Inv X pins σ H s → wpAny (model X.prog X.w) X.A (forIn ifs true fun c r => if r = true then do let ok ← isTrue c X.env (eval c X.env); pure (ForInStep.yield ok) else pure (ForInStep.yield r)) (TP X pins σ Q) X.xe s
theorem tsOf.of {ifs : List Expr} {t : TT} {σ : St} {H : Hp} {Q : Bool → Hp → Prop} (h : PTs X ifs t) (q : t σ H Q) : tsOf X ifs σ H Q := by unfold tsOf; exact fun pins s I => h.run pins s σ H Q I q
def Ts (X : Cx) (R : Reg) (G : List Sl) (ifs : List Expr) (P : Bool → Prop) : Prop := ∀ σ F H Q, Ty X.K R G σ F H → CtB R F H P Q → tsOf X ifs σ H Q
theorem ts_nil {P : Bool → Prop} (p : P true) : Ts X R G [] P := fun σ F H Q ty c => tsOf.of pts_nil (c.here ty.wf p)
theorem ts_one {t : Expr} {P : Bool → Prop} (h : T X R G t P) : Ts X R G [t] P := fun σ F H Q ty c => tsOf.of (pts_one pt_w) (h σ F H Q ty c)
def tgB (X : Cx) (scope : Scope) (tg : Expr) : TG := fun v σ H Q => ∀ Y, Blk X scope Y → tgOf Y tg v σ H Q
def ttB (X : Cx) (scope : Scope) (ifs : List Expr) : TT := fun σ H Q => ∀ Y, Blk X scope Y → tsOf Y ifs σ H Q
def teB (X : Cx) (scope : Scope) (e : Expr) : TE := fun σ H Q => ∀ Y, Blk X scope Y → tOf Y e σ H Q
/-- what a comprehension's turns give: J turn (what is gathered) -/
structure Lc (X : Cx) (R : Reg) (G : List Sl) (tg elt : Expr) (ifs : List Expr) (scope : Scope) (vs : List Nat) (ds : List Dt) (J : Nat → List Dt → Prop) : Prop where
  start : J 0 []
  step : ∀ i d acc, ds[i]? = some d → J i acc → acc.length ≤ i → ∃ js, (∀ Y, Blk X scope Y → A Y tg d js) ∧ (∀ p ∈ js, p.1 ∈ vs) ∧
    ∀ Y, Blk X scope Y → Ts Y R (setsD (wipeD G vs) js) ifs fun b => if b = true then ∀ Z, Blk X scope Z → E Z R (setsD (wipeD G vs) js) elt fun y => J (i + 1) (acc ++ [y]) else J (i + 1) acc
theorem lc_run {tg iter elt : Expr} {ifs : List Expr} {scope : Scope} {vs : List Nat} {σ : St} {F H : Hp} {Q : VK} (ty : Ty X.K R G σ F H) (h : I X R G tg iter fun ds => ds.length ≤ 100000 ∧ ∃ J, Lc X R G tg elt ifs scope vs ds J ∧
      ∀ acc, J ds.length acc → ∀ D F' H' vacc, Ext R F H F' H' → H D = none → ¬ R.M D → H' D = some (.lst vacc) → F' D = none → RpL X.K F' acc vacc → Q (.ref D) H') : tLc (tiOf X tg iter) (tgB X scope tg) (ttB X scope ifs) (teB X scope elt) vs σ H Q := by
  refine h σ F H _ ty fun Jt F1 H1 ds ex it ⟨hl, J, lc, fin⟩ => fun D hD => ?_
  have hD0 : H D = none := by
    cases q : H D with
    | none => rfl
    | some o => exact absurd hD (ex.keep0 (by rw [q]; exact fun z => nomatch z))
  have nM : ¬ R.M D := ex.wf.new hD
  refine ⟨fun i m H2 => m = ds.length - i ∧ i ≤ ds.length ∧ ∃ F2 acc vacc, J i acc ∧ acc.length ≤ i ∧ H2 D = some (.lst vacc) ∧ F2 D = none ∧ RpL X.K F2 acc vacc ∧ Ext R F1 H1 F2 H2, ⟨_, rfl, Nat.zero_le _, F1, [], [], lc.start, Nat.le_refl _, upd_same, ex.wf.fh.free hD, .nil, ex.wf.own hD⟩, ?_⟩
  rintro i m H2 ⟨rfl, hi, F2, acc, vacc, j, hla, hD2, fD2, ra, ex2⟩
  obtain ⟨hstop, hgo⟩ := it F2 H2 ex2.ff ex2.wf
  by_cases hlt : i < ds.length
  · obtain ⟨g1, g2⟩ := hgo i ds[i] (List.getElem?_eq_getElem hlt)
    refine .inr ⟨g1, _, fun H' z => z, fun x H' y => ?_⟩
    obtain ⟨F3, ex3, r3⟩ := g2 x H' y
    obtain ⟨js, ha, hjs, hS⟩ := lc.step i ds[i] acc (List.getElem?_eq_getElem hlt) j hla
    intro Y bY
    refine ha Y bY (wipe σ vs) F3 H' x _ ex3.wf.fh (by rw [bY.K]; exact r3) fun ws hw rw1 => ⟨?_, ?_⟩
    · rw [wipe_sets fun p hp => ?_, wipe_wipe]
      have q := (List.of_mem_zip hp).1
      obtain ⟨z, hz, e⟩ := List.mem_map.mp q
      rw [← e]
      exact hjs z hz
    · intro Y2 bY2
      have tyW : Ty X.K R (setsD (wipeD G vs) js) (setsV (wipe σ vs) ((js.map (·.1)).zip ws)) F3 H' := Ty.sets (((ty.ext ((ex.trans ex2).trans ex3))).wipe vs) (by rw [← bY.K]; exact rw1)
      have hD3 : H' D = some (.lst vacc) := ex3.hh D _ nM hD2
      have fD3 : F3 D = none := ex3.fr D (by rw [hD2]; exact ⟨_, rfl, fun _ z => nomatch z⟩) fD2
      refine hS Y2 bY2 _ F3 H' _ (by rw [bY2.K]; exact tyW) fun b F4 H4 ex4 p => ?_
      have hD4 : H4 D = some (.lst vacc) := ex4.hh D _ nM hD3
      have fD4 : F4 D = none := ex4.fr D (by rw [hD3]; exact ⟨_, rfl, fun _ z => nomatch z⟩) fD3
      cases b with
      | false =>
        rw [if_neg (by decide)] at p ⊢
        exact ⟨_, by omega, rfl, hlt, F4, acc, vacc, p, Nat.le_succ_of_le hla, hD4, fD4, ra.mono (ex3.ff.trans ex4.ff), (ex2.trans ex3).trans ex4⟩
      | true =>
        rw [if_pos rfl] at p ⊢
        intro Y3 bY3
        refine p Y3 bY3 _ F4 H4 _ (by rw [bY3.K]; exact tyW.ext ex4) fun y F5 H5 d ex5 r5 pj => ?_
        have hD5 : H5 D = some (.lst vacc) := ex5.hh D _ nM hD4
        have fD5 : F5 D = none := ex5.fr D (by rw [hD4]; exact ⟨_, rfl, fun _ z => nomatch z⟩) fD4
        have ra5 := ra.mono ((ex3.ff.trans ex4.ff).trans ex5.ff)
        have e5 := ((ex2.trans ex3).trans ex4).trans ex5
        have mk : Ext R F1 H1 F5 (upd H5 D (.lst (vacc ++ [y]))) := by
          refine ⟨⟨fun a o h => ?_, e5.wf.off, fun a m => ?_, ?_⟩, e5.ff, fun a o n h => ?_, e5.fr⟩
          · rw [upd_ne (fun z => by rw [z, fD5] at h; cases h)]
            exact e5.wf.fh a o h
          · have nz : a ≠ D := fun z => nM (z ▸ m)
            rw [upd_ne nz]
            exact e5.wf.oc a m
          · exact R.st H5 _ (fun a o m h => by
              have nz : a ≠ D := fun z => nM (z ▸ m)
              rw [upd_ne nz]
              exact h) e5.wf.b
          · rw [upd_ne (ne_of_none h hD)]
            exact e5.hh a o n h
        refine ⟨vacc, hD5, ?_, ⟨_, by omega, rfl, hlt, F5, acc ++ [d], vacc ++ [y], pj, by simp; omega, upd_same, fD5, ra5.append (.cons (by rw [← bY3.K]; exact r5) .nil), mk⟩⟩
        rw [← ra5.length]
        exact Nat.lt_of_le_of_lt hla (Nat.lt_of_lt_of_le hlt (Nat.le_trans hl (by decide)))
  · have e : i = ds.length := by omega
    subst e
    exact .inl ⟨hstop _ (Nat.le_refl _), fin acc j D F2 H2 vacc (ex.trans ex2) hD0 nM hD2 fD2 ra⟩
/-- [elt for tg in iter if ..] -/
theorem e_lc {tg iter elt : Expr} {ifs : List Expr} {scope : Scope} {own : List (Str × Nat)} {P : Dt → Prop} (hc : X.calm = true) (hN : X.N.Nodup) (ok : BlkOk X.N X.env.scope scope own)
    (h : I X R G tg iter fun ds => ds.length ≤ 100000 ∧ ∃ J, Lc X R G tg elt ifs scope (own.map (·.2)) ds J ∧ ∀ acc, J ds.length acc → P (.lst acc)) (hs : ∀ x, foldedSetIterable iter X.env x = pure x := by intro _; rfl) : E X R G (.ListComp elt [⟨tg, iter, ifs, 0⟩] scope pos) P := fun σ F H Q ty c => by
  refine tOf.of (pe_lc (g := tgB X scope tg) (tt := ttB X scope ifs) (te := teB X scope elt) hc hN pi_w ok (fun s H C cl fp => ⟨fun pins s' σ H' v u Q I r h => by have z := h _ ⟨s, H, C, cl, fp, rfl⟩; unfold tgOf at z; exact z pins s' u I r⟩) (fun s H C cl fp => ⟨fun pins s' σ H' Q I h => by have z := h _ ⟨s, H, C, cl, fp, rfl⟩; unfold tsOf at z; exact z pins s' I⟩) (fun s H C cl fp => ⟨fun pins s' σ H' Q I h => by have z := h _ ⟨s, H, C, cl, fp, rfl⟩; unfold tOf at z; exact z pins s' I⟩) hs) (lc_run ty ?_)
  intro σ1 F1 H1 Q1 ty1 c1
  refine h σ1 F1 H1 Q1 ty1 fun J F2 H2 ds ex it ⟨hl, Jd, lc, fin⟩ => c1 J F2 H2 ds ex it ⟨hl, Jd, lc, fun acc ja D F' H' vacc ex' hD nM hD' fD' ra => ?_⟩
  refine c (.ref D) (upd F' D (.lst vacc)) H' (.lst acc) ⟨⟨fun a o h => ?_, fun a m => ?_, ex'.wf.oc, ex'.wf.b⟩, ex'.ff.trans (same_upd fD'), ex'.hh, fun a h n => ?_⟩ (rp_lst_new fD' ra) (fin acc ja)
  · by_cases q : a = D
    · subst q; rw [upd_same] at h; rw [hD']; exact h
    · rw [upd_ne q] at h; exact ex'.wf.fh a o h
  · rw [upd_ne (fun z => nM (by rw [← z]; exact m))]
    exact ex'.wf.off a m
  · rw [upd_ne (fun z => h.ne (by rw [z]; exact hD))]
    exact ex'.fr a h n
end
end VS
set_option Elab.async false
set_option linter.all false
set_option maxRecDepth 100000
namespace VS
open PySem PySem.Spec L2
section
variable {X : Cx} {R : Reg} {G : List Sl} {pos : Pos} {k : Kt}

/-! ### is, isinstance -/
theorem w_isB {i j : Bool} {P : Dt → Prop} (p : P (.bl (i == j))) : W2 X R (compareOp .Is) (.bl i) (.bl j) P := fun F H x y Q w rx ry c => by
  rw [rp_bl.mp rx, rp_bl.mp ry]
  refine opOf.of op_is_bl ⟨i, j, rfl, rfl, ?_⟩
  have e : decide (i = j) = (i == j) := by rw [Bool.eq_iff_iff]; simp
  rw [e]
  exact c.here w (rp_bl.mpr rfl) p
theorem w_isNB {i j : Bool} {P : Dt → Prop} (p : P (.bl (!(i == j)))) : W2 X R (compareOp .IsNot) (.bl i) (.bl j) P := fun F H x y Q w rx ry c => by
  rw [rp_bl.mp rx, rp_bl.mp ry]
  refine opOf.of op_isnot_bl ⟨i, j, rfl, rfl, ?_⟩
  have e : decide (i = j) = (i == j) := by rw [Bool.eq_iff_iff]; simp
  rw [e]
  exact c.here w (rp_bl.mpr rfl) p
def isNon : Dt → Bool
  | .non => true
  | _ => false
theorem rp_isNon {K : PySem.W.Frag} {F : Hp} {d : Dt} {v : V} (r : Rp K F d v) : decide (v = .non) = isNon d := by
  cases d with
  | non => rw [rp_non.mp r]; rfl
  | bl b => rw [rp_bl.mp r]; rfl
  | int b => rw [rp_int.mp r]; rfl
  | str b => rw [rp_str.mp r]; rfl
  | ty b => rw [rp_ty.mp r]; rfl
  | adr b => rw [rp_adr.mp r]; rfl
  | tup xs => obtain ⟨a, vs, rfl, _⟩ := rp_tup.mp r; rfl
  | lst xs => obtain ⟨a, vs, rfl, _⟩ := rp_lst.mp r; rfl
  | frl xs => obtain ⟨a, vs, rfl, _⟩ := rp_frl.mp r; rfl
  | dT ks xs => obtain ⟨a, vs, rfl, _⟩ := rp_dT.mp r; rfl
  | dK ks xs => simp only [Rp] at r; obtain ⟨a, vs, rfl, _⟩ := r; rfl
  | at_ a d => simp only [Rp] at r; obtain ⟨rfl, _⟩ := r; rfl
  | obj C ns xs => obtain ⟨a, dx, vs, rfl, _⟩ := rp_obj.mp r; rfl
  | exv a ns xs d => rw [(rp_exv.mp r).1]; rfl
  | key ks => obtain ⟨a, rfl, _⟩ := rp_key.mp r; rfl
theorem w_isNN {d : Dt} {P : Dt → Prop} (p : P (.bl (!isNon d))) : W2 X R (compareOp .IsNot) d .non P := fun F H x y Q w rx ry c => by
  refine opOf.of op_notN ⟨rp_non.mp ry, ?_⟩
  rw [rp_isNon rx]
  exact c.here w (rp_bl.mpr rfl) p
/-- a datum's type -/
def TyD (K : PySem.W.Frag) (d : Dt) (t : Value) : Prop := ∀ F H x, Same F H → Rp K F d x → TyX K H x t
theorem tyd_int {K : PySem.W.Frag} {i : Int} : TyD K (.int i) (.type "int") := fun F H x s r => by rw [rp_int.mp r]; exact .base (.int i)
theorem wc_isiC {d : Dt} {t : Value} {C : Addr} {b : Bool} {P : Dt → Prop} (ty : TyD X.K d t) (hk : PySem.W.kitOne X.K t (.ref C) = some b) (p : P (.bl b)) : WC X R (.builtin "isinstance") [d, .adr C] P := fun F H xs Q w r c => by
  obtain ⟨v, u, rfl, h1, h2⟩ := r.two
  rw [rp_adr.mp h2]
  exact crOf.of call_isi ⟨v, _, t, _, b, rfl, .own C, ty F H v w.fh h1, hk, c.here w (rp_bl.mpr rfl) p⟩
/-- an own class's name -/
theorem e_cls {x : Str} {C : Addr} {P : Dt → Prop} (hg : Gl X x) (hm : X.mg x = some (.ref C)) (p : P (.adr C)) (hd : (x == ("__debug__" : Str)) = false := by decide) : E X R G (.Name x pos) P := fun σ F H Q ty c =>
  tOf.of (pe_glob (v := .ref C) hg hm rfl hd) (c.here ty.wf (rp_adr.mpr rfl) p)

/-! ### slices -/
def cutD (xs : List Dt) (lo hi : Option Int) : List Dt := (xs.drop (HT.sIx xs.length 0 lo)).take (HT.sIx xs.length xs.length hi - HT.sIx xs.length 0 lo)
theorem RpL.cut {K : PySem.W.Frag} {F : Hp} {ds : List Dt} {vs : List V} (r : RpL K F ds vs) (lo hi : Option Int) : RpL K F (cutD ds lo hi) (cutV vs lo hi) := by
  unfold cutD cutV
  rw [r.length]
  exact (r.drop _).take _
@[irreducible] def slOf (X : Cx) : V → Option Int → Option Int → Hp → VK → Prop := fun x lo hi H Q => ∀ pins s σ v vl vu sl, Inv X pins σ H s → RelV x v → s.heap.IsSliceOf sl vl vu .none → IsPart vl lo → IsPart vu hi → ∃ T id, typeLookup (.type T) "__getitem__" = pure (some (.builtin id)) ∧ s.TypeIs v T ∧ wpAny (model X.prog X.w) X.A (getItem v (.ref sl)) (EP X pins σ Q) X.xe s
theorem sl_w : SlR X (slOf X) := fun pins s σ H x v vl vu lo hi sl Q I rx h1 h2 h3 h => by unfold slOf at h; exact h pins s σ v vl vu sl I rx h1 h2 h3
theorem slOf.of {r : V → Option Int → Option Int → Hp → VK → Prop} {x : V} {lo hi : Option Int} {H : Hp} {Q : VK} (h : SlR X r) (q : r x lo hi H Q) : slOf X x lo hi H Q := by unfold slOf; exact fun pins s σ v vl vu sl I rx h1 h2 h3 => h pins s σ H x v vl vu lo hi sl Q I rx h1 h2 h3 q
def WSl (X : Cx) (R : Reg) (d : Dt) (lo hi : Option Int) (P : Dt → Prop) : Prop := ∀ F H x Q, Wf R F H → Rp X.K F d x → Ct X.K R F H P Q → slOf X x lo hi H Q
def EO (X : Cx) (R : Reg) (G : List Sl) (e : Option Expr) (P : Option Int → Prop) : Prop := match e with
  | none => P none
  | some e => E X R G e fun d => ∃ i, d = .int i ∧ P (some i)
def toOf (X : Cx) : Option Expr → TO
  | none => tNoPart
  | some e => tPart (tOf X e)
theorem po_w {e : Option Expr} : PO X e (toOf X e) := by
  cases e with
  | none => exact po_none
  | some e => exact po_some pe_w
theorem EO.run {e : Option Expr} {P : Option Int → Prop} {σ : St} {F H : Hp} {Q : Option Int → Hp → Prop} (h : EO X R G e P) (ty : Ty X.K R G σ F H) (c : ∀ o F' H', Ext R F H F' H' → P o → Q o H') : toOf X e σ H Q := by
  cases e with
  | none => exact c none F H (.refl ty.wf) h
  | some e =>
    refine (show E X R G e _ from h) σ F H _ ty fun v F1 H1 d ex r hh => ?_
    obtain ⟨i, e, p⟩ := hh
    subst e
    exact ⟨i, rp_int.mp r, c _ F1 H1 ex p⟩
theorem e_slice {e : Expr} {lo hi : Option Expr} {p2 : Pos} {P : Dt → Prop} (h : E X R G e fun d => EO X R G lo fun l => EO X R G hi fun u => WSl X R d l u P) : E X R G (.Subscript e (.Slice lo hi none p2) pos) P := fun σ F H Q ty c =>
  tOf.of (pe_slice sl_w pe_w po_w po_w) (h σ F H _ ty fun v F1 H1 d ex r h2 => h2.run (ty.ext ex) fun l F2 H2 ex2 h3 => h3.run ((ty.ext ex).ext ex2) fun u F3 H3 ex3 h4 => h4 F3 H3 v Q ex3.wf ((r.mono ex2.ff).mono ex3.ff) (c.step ((ex.trans ex2).trans ex3)))
theorem wsl_frl {ds : List Dt} {lo hi : Option Int} {P : Dt → Prop} (p : P (.lst (cutD ds lo hi))) : WSl X R (.frl ds) lo hi P := fun F H x Q w r c => by
  obtain ⟨a, vs, rfl, sq, rl⟩ := rp_frl.mp r
  exact slOf.of sl_list ⟨a, vs, rfl, w.fh.seq sq, fun q hq => c _ _ _ _ (w.made hq) (rp_lst_new (w.fh.free hq) (rl.cut lo hi)) p⟩

/-! ### one's own lists -/
theorem Ty.own {K : PySem.W.Frag} {σ : St} {F H : Hp} (ty : Ty K R G σ F H) {i : Nat} {d : Dt} (hg : G[i]? = some (.ow d)) : ∃ o, σ[i]? = some (some (.ref o)) ∧ F o = none ∧ ¬ R.M o ∧ OwO K F H o d := by
  obtain ⟨v, e, o, e2, h1, h2, h3⟩ := ty.sl.get hg
  exact ⟨o, by rw [e, e2], h1, h2, h3⟩
theorem slsOk_mut {K : PySem.W.Frag} {F H : Hp} {o : Addr} {u : HO} {d' : Dt} (fo : F o = none) (nM : ¬ R.M o) (hd : OwO K F (upd H o u) o d') : ∀ {G : List Sl} {σ : St} {i : Nat}, SlsOk K R F H G σ → (owns G σ).Nodup → (∃ d, G[i]? = some (.ow d)) → σ[i]? = some (some (.ref o)) → SlsOk K R F (upd H o u) (G.set i (.ow d')) σ := by
  have keep : ∀ {g : Sl} {v : Option V}, SlOk K R F H g v → (∀ d, g = .ow d → v ≠ some (.ref o)) → SlOk K R F (upd H o u) g v := fun {g v} h hn => by
    cases g with
    | no => trivial
    | sh d => exact h
    | ow d =>
      obtain ⟨p, e, h1, h2, h3⟩ := h
      have ne : p ≠ o := fun z => hn d rfl (by rw [e, z])
      exact ⟨p, e, h1, h2, h3.mono (.refl _) fun u' q => by rw [upd_ne ne]; exact q⟩
  intro G σ i h
  induction h generalizing i with
  | nil => intro _ hg _; obtain ⟨d, hg⟩ := hg; simp at hg
  | @cons g v Gs vs h t ih =>
    intro nd hg hs
    obtain ⟨d, hg⟩ := hg
    cases i with
    | zero =>
      have e1 := Option.some.inj hg
      have e2 := Option.some.inj hs
      subst e1 e2
      simp only [owns, List.nodup_cons] at nd
      refine .cons ⟨o, rfl, fo, nM, hd⟩ ?_
      have all : ∀ {Gs : List Sl} {vs : List (Option V)}, SlsOk K R F H Gs vs → o ∉ owns Gs vs → SlsOk K R F (upd H o u) Gs vs := fun {Gs vs} t => by
        induction t with
        | nil => intro _; exact .nil
        | @cons g v Gs vs h t ih2 =>
          intro hn
          have hn2 : o ∉ owns Gs vs ∧ ∀ d, g = .ow d → v ≠ some (.ref o) := by
            cases g with
            | no => exact ⟨by simpa [owns] using hn, fun d z => nomatch z⟩
            | sh d => exact ⟨by simpa [owns] using hn, fun d z => nomatch z⟩
            | ow d =>
              cases v with
              | none => exact ⟨by simpa [owns] using hn, fun d _ z => nomatch z⟩
              | some x =>
                cases x with
                | ref p =>
                  simp only [owns, List.mem_cons, not_or] at hn
                  exact ⟨hn.2, fun d _ z => hn.1 (by injection z with z; injection z with z; exact z.symm)⟩
                | _ => exact ⟨by simpa [owns] using hn, fun d _ z => nomatch z⟩
          exact .cons (keep h hn2.2) (ih2 hn2.1)
      exact all t nd.1
    | succ j =>
      have hg' : Gs[j]? = some (.ow d) := by simpa using hg
      have hs' : vs[j]? = some (some (.ref o)) := by simpa using hs
      have mo := mem_owns hg' hs'
      have nd2 : (owns Gs vs).Nodup ∧ ∀ d, g = .ow d → v ≠ some (.ref o) := by
        cases g with
        | no => exact ⟨by simpa [owns] using nd, fun d z => nomatch z⟩
        | sh d => exact ⟨by simpa [owns] using nd, fun d z => nomatch z⟩
        | ow d =>
          cases v with
          | none => exact ⟨by simpa [owns] using nd, fun d _ z => nomatch z⟩
          | some x =>
            cases x with
            | ref p =>
              simp only [owns, List.nodup_cons] at nd
              exact ⟨nd.2, fun d _ z => nd.1 (by injection z with z; injection z with z; rw [z]; exact mo)⟩
            | _ => exact ⟨by simpa [owns] using nd, fun d _ z => nomatch z⟩
      exact .cons (keep h nd2.2) (ih nd2.1 ⟨d, hg'⟩ hs')
theorem owns_same {G : List Sl} {σ : St} {i : Nat} {d d' : Dt} (hg : G[i]? = some (.ow d)) : owns (G.set i (.ow d')) σ = owns G σ := by
  induction G generalizing σ i with
  | nil => simp
  | cons g G ih =>
    cases σ with
    | nil =>
      cases i with
      | zero => simp [owns]
      | succ j => simp [owns]
    | cons v vs =>
      cases i with
      | zero =>
        have e1 := Option.some.inj hg
        subst e1
        show owns (.ow d' :: G) (v :: vs) = owns (.ow d :: G) (v :: vs)
        cases v with
        | none => simp [owns]
        | some x => cases x <;> simp [owns]
      | succ j =>
        have q := ih (σ := vs) (i := j) (by simpa using hg)
        show owns (g :: G.set j (.ow d')) (v :: vs) = owns (g :: G) (v :: vs)
        cases g with
        | no => simpa [owns] using q
        | sh d => simpa [owns] using q
        | ow d =>
          cases v with
          | none => simpa [owns] using q
          | some x => cases x <;> simp [owns, q]
theorem Ty.mut {K : PySem.W.Frag} {σ : St} {F H : Hp} (ty : Ty K R G σ F H) {i : Nat} {d d' : Dt} {o : Addr} {u : HO} (hg : G[i]? = some (.ow d)) (hs : σ[i]? = some (some (.ref o))) (hd : OwO K F (upd H o u) o d') : Ty K R (G.set i (.ow d')) σ F (upd H o u) := by
  obtain ⟨o2, e, fo, nM, ho⟩ := ty.own hg
  rw [hs] at e
  cases e
  refine ⟨⟨fun a z h => ?_, ty.wf.off, fun a m => ?_, R.st H _ (fun a z m h => ?_) ty.wf.b⟩, slsOk_mut fo nM hd ty.sl ty.nd ⟨d, hg⟩ hs, by rw [owns_same hg]; exact ty.nd⟩
  · rw [upd_ne (fun z => by rw [z, fo] at h; cases h)]
    exact ty.wf.fh a z h
  · have nz : a ≠ o := fun z => nM (z ▸ m)
    rw [upd_ne nz]
    exact ty.wf.oc a m
  · have nz : a ≠ o := fun z => nM (z ▸ m)
    rw [upd_ne nz]
    exact h
theorem Bs.mut {F0 H0 F H : Hp} {σ : St} (b : Bs R F0 H0 G σ F H) {K : PySem.W.Frag} {i : Nat} {d d' : Dt} {o : Addr} {u : HO} (ty : Ty K R (G.set i (.ow d')) σ F (upd H o u)) (hg : G[i]? = some (.ow d)) (hs : σ[i]? = some (some (.ref o))) : Bs R F0 H0 (G.set i (.ow d')) σ F (upd H o u) := by
  have fo := b.fresh o (mem_owns hg hs)
  exact ⟨⟨ty.wf, b.ext.ff, fun a z n h => by rw [upd_ne (ne_of_none h fo)]; exact b.ext.hh a z n h, b.ext.fr⟩, (by rw [owns_same hg]; exact b.fresh), b.z⟩
/-- xs.append(e), xs one's own -/
theorem s_app (i : Nat) {x : Str} {e : Expr} {ds : List Dt} {apos cpos p : Pos} (hg : G[i]? = some (.ow (.lst ds))) (hN : X.N[i]? = some x) (hv : Vis X.env.scope x) (hl : ds.length < 100000) (h : E X R G e fun d => k.nx (G.set i (.ow (.lst (ds ++ [d])))))
    (hd : (x == ("__debug__" : Str)) = false := by decide) (hcd : (x == ("__classdict__" : Str)) = false := by decide)
    (hbase : attributeBase (.Name x p) "append" X.env (eval (.Name x p) X.env) = eval (.Name x p) X.env := by rfl)
    (hfew : ((backTo cpos (starEach [e] X.env)).all (fun x => !x.1) && (backToKw cpos (keywordEach [] X.env)).all (fun x => x.1.isSome) && decide ([e].length + ([] : List Keyword).length + (if ([] : List Keyword).isEmpty then 0 else 1) < 30)) = true := by rfl)
    (hline : (apos.endLine == cpos.line) = true := by rfl) (hs : starEach [e] X.env = (false, eval e X.env) :: starEach [] X.env := by rfl) (hplain : (backTo cpos (starEach [] X.env)).any (·.1) = false := by rfl)
    (hsw : swapsWith (.Call (.Attribute (.Name x p) "append" apos) [e] [] cpos) none pos.line X.env = pure false := by rfl) :
    S1 X R (.Expr (.Call (.Attribute (.Name x p) "append" apos) [e] [] cpos) pos) G k := fun F0 H0 σ F H D ty b c => by
  obtain ⟨o, so, fo, nM, vs, ho, rl⟩ := ty.own hg
  refine s1Of.of (ps_expr (pe_bm PySem.F.plainAttrs_list PySem.F.slot_list_append PySem.F.type_list_append mt_append (pe_var hN hv hd hcd) (pa_cons pe_w pa_nil hs) hbase hfew hline hs hplain) hsw) ?_
  refine ⟨.ref o, so, .inl ⟨rfl, vs, SqL.of ho⟩, h σ F H _ ty fun v F1 H1 d ex r p => ?_⟩
  have ho1 := ex.hh o _ nM ho
  refine ⟨o, vs, v, rfl, rfl, ho1, ?_, ?_⟩
  · rw [← rl.length]
    exact Nat.lt_of_lt_of_le hl (by decide)
  · have ty1 := (ty.ext ex).mut (d' := .lst (ds ++ [d])) (u := .lst (vs ++ [v])) hg so ⟨_, upd_same, (rl.mono ex.ff).append (.cons r .nil)⟩
    exact c.nx _ _ _ _ p ty1 ((b.step ex).mut ty1 hg so)
end
end VS
set_option Elab.async false
set_option linter.all false
set_option maxRecDepth 100000
namespace VS
open PySem PySem.Spec L2
section
variable {X : Cx} {R : Reg} {G : List Sl} {pos : Pos} {k : Kt}

/-! ### a new list, one's own -/
def CtN (K : PySem.W.Frag) (R : Reg) (F H : Hp) (P : List Dt → Prop) (Q : VK) : Prop := ∀ p F' H' ds vs, Ext R F H F' H' → H p = none → ¬ R.M p → H' p = some (.lst vs) → F' p = none → RpL K F' ds vs → P ds → Q (.ref p) H'
def EN (X : Cx) (R : Reg) (G : List Sl) (e : Expr) (P : List Dt → Prop) : Prop := ∀ σ F H Q, Ty X.K R G σ F H → CtN X.K R F H P Q → tOf X e σ H Q
theorem Ext.free {F H F1 H1 : Hp} (e : Ext R F H F1 H1) {p : Addr} (h : H1 p = none) : H p = none := by
  cases q : H p with
  | none => rfl
  | some o => exact absurd h (e.keep0 (by rw [q]; exact fun z => nomatch z))
theorem en_lst {es : List Expr} {P : List Dt → Prop} (h : EA X R G es fun ds => ds.length ≤ 100000 ∧ P ds) : EN X R G (.List es pos) P := fun σ F H Q ty c =>
  tOf.of (pe_lst pa_w) (h σ F H _ ty fun vs F1 H1 ds ex1 r1 ⟨hl, p⟩ => ⟨by rw [← r1.length]; exact Nat.le_trans hl (by decide), fun q hq => c q F1 _ ds vs (ex1.trans (ex1.wf.own hq)) (ex1.free hq) (ex1.wf.new hq) upd_same (ex1.wf.fh.free hq) r1 p⟩)
theorem Ty.setOwn {K : PySem.W.Frag} {σ : St} {F H F' H' : Hp} (ty : Ty K R G σ F H) (ex : Ext R F H F' H') (i : Nat) {p : Addr} {d : Dt} (hp : H p = none) (nM : ¬ R.M p) (fp : F' p = none) (ho : OwO K F' H' p d) : Ty K R (G.set i (.ow d)) (σ.set i (some (.ref p))) F' H' := by
  refine ⟨ex.wf, (ty.sl.ext ex).set i ⟨p, rfl, fp, nM, ho⟩, owns_nodup_set i ty.nd fun z => ?_⟩
  have z2 := (owns_set_sub (g := .no) (v := none) i (fun _ z => nomatch z)).subset z
  obtain ⟨j, d', h1, h2⟩ := owns_mem z2
  obtain ⟨o, so, _, _, oo⟩ := ty.own h1
  rw [h2] at so
  cases so
  exact oo.some hp
theorem Bs.setOwn {F0 H0 F H F' H' : Hp} {σ : St} (b : Bs R F0 H0 G σ F H) (ex : Ext R F H F' H') (i : Nat) {p : Addr} {d : Dt} (hp : H p = none) : Bs R F0 H0 (G.set i (.ow d)) (σ.set i (some (.ref p))) F' H' := by
  refine ⟨(b.step ex).ext, fun o ho => ?_, b.z⟩
  rcases owns_set_own i o ho with e | e
  · rw [e]; exact b.ext.free hp
  · exact b.fresh o e
theorem s_asgN (i : Nat) {x : Str} {e : Expr} {pos' : Pos} (hN : X.N.Nodup) (hi : X.N[i]? = some x) (hx : Loc X.env.scope x) (h : EN X R G e fun ds => k.nx (G.set i (.ow (.lst ds))))
    (hs : swapsWith e (some (.Name x pos')) pos.line X.env = pure false := by rfl) (hf : X.fn x = true ∨ X.env.scope.names.lookup x = some .local := by first | exact .inl rfl | exact .inr rfl | assumption) : S1 X R (.Assign [.Name x pos'] e pos) G k := fun F0 H0 σ F H D ty b c =>
  s1Of.of (ps_set hN hi hx pe_w hs hf) (h σ F H _ ty fun p F1 H1 ds vs ex hp nM ho fp rl q => c.nx _ _ F1 H1 q (ty.setOwn ex i hp nM fp ⟨vs, ho, rl⟩) (b.setOwn ex i hp))
theorem blk_pe {scope : Scope} {e : Expr} (s : Shared) (H : Hp) (C : Addr) (cl : List (Str × Addr)) (fp : List Addr) : PE (X.blk s H scope (compEnvC scope cl C X.env) fp) e (teB X scope e) := ⟨fun pins s' σ H' Q I h => by have z := h _ ⟨s, H, C, cl, fp, rfl⟩; unfold tOf at z; exact z pins s' I⟩
theorem blk_pts {scope : Scope} {ifs : List Expr} (s : Shared) (H : Hp) (C : Addr) (cl : List (Str × Addr)) (fp : List Addr) : PTs (X.blk s H scope (compEnvC scope cl C X.env) fp) ifs (ttB X scope ifs) := ⟨fun pins s' σ H' Q I h => by have z := h _ ⟨s, H, C, cl, fp, rfl⟩; unfold tsOf at z; exact z pins s' I⟩
theorem blk_pg {scope : Scope} {tg : Expr} (s : Shared) (H : Hp) (C : Addr) (cl : List (Str × Addr)) (fp : List Addr) : PG (X.blk s H scope (compEnvC scope cl C X.env) fp) tg (tgB X scope tg) := ⟨fun pins s' σ H' v u Q I r h => by have z := h _ ⟨s, H, C, cl, fp, rfl⟩; unfold tgOf at z; exact z pins s' u I r⟩
theorem en_lc {tg iter elt : Expr} {ifs : List Expr} {scope : Scope} {own : List (Str × Nat)} {P : List Dt → Prop} (hc : X.calm = true) (hN : X.N.Nodup) (ok : BlkOk X.N X.env.scope scope own)
    (h : I X R G tg iter fun ds => ds.length ≤ 100000 ∧ ∃ J, Lc X R G tg elt ifs scope (own.map (·.2)) ds J ∧ ∀ acc, J ds.length acc → P acc) (hs : ∀ x, foldedSetIterable iter X.env x = pure x := by intro _; rfl) : EN X R G (.ListComp elt [⟨tg, iter, ifs, 0⟩] scope pos) P := fun σ F H Q ty c => by
  refine tOf.of (pe_lc hc hN pi_w ok blk_pg blk_pts blk_pe hs) (lc_run ty ?_)
  intro σ1 F1 H1 Q1 ty1 c1
  exact h σ1 F1 H1 Q1 ty1 fun J F2 H2 ds ex it ⟨hl, Jd, lc, fin⟩ => c1 J F2 H2 ds ex it ⟨hl, Jd, lc, fun acc ja D F' H' vacc ex' hD nM hD' fD' ra => c D F' H' acc vacc ex' hD nM hD' fD' ra (fin acc ja)⟩
/-- .. y shared -/
theorem s_lc (i : Nat) {y : Str} {py cpos : Pos} {tg iter elt : Expr} {ifs : List Expr} {scope : Scope} {own : List (Str × Nat)} (hc : X.calm = true) (hN : X.N.Nodup) (hy : X.N[i]? = some y) (hyl : X.env.scope.names.lookup y = some .local)
    (hsw : swapsWith (.ListComp elt [⟨tg, iter, ifs, 0⟩] scope cpos) (some (.Name y py)) pos.line X.env = pure true) (ok : BlkOk X.N X.env.scope scope own)
    (h : I X R G tg iter fun ds => ds.length ≤ 100000 ∧ ∃ J, Lc X R G tg elt ifs scope (own.map (·.2)) ds J ∧ ∀ acc, J ds.length acc → k.nx (G.set i (.sh (.lst acc)))) (hs : ∀ x, foldedSetIterable iter X.env x = pure x := by intro _; rfl) :
    S1 X R (.Assign [.Name y py] (.ListComp elt [⟨tg, iter, ifs, 0⟩] scope cpos) pos) G k := fun F0 H0 σ F H D ty b c => by
  refine s1Of.of (ps_setLc hc hN hy hyl hsw pi_w ok blk_pg blk_pts blk_pe hs) (lc_run ty ?_)
  intro σ1 F1 H1 Q1 ty1 c1
  refine h σ1 F1 H1 Q1 ty1 fun J F2 H2 ds ex it ⟨hl, Jd, lc, fin⟩ => c1 J F2 H2 ds ex it ⟨hl, Jd, lc, fun acc ja D' F' H' vacc ex' hD nM hD' fD' ra => ?_⟩
  have ex2 : Ext R F H (upd F' D' (.lst vacc)) H' := by
    refine ⟨⟨fun a o h => ?_, fun a m => ?_, ex'.wf.oc, ex'.wf.b⟩, ex'.ff.trans (same_upd fD'), ex'.hh, fun a h n => ?_⟩
    · by_cases q : a = D'
      · subst q; rw [upd_same] at h; rw [hD']; exact h
      · rw [upd_ne q] at h; exact ex'.wf.fh a o h
    · rw [upd_ne (fun z => nM (by rw [← z]; exact m))]
      exact ex'.wf.off a m
    · rw [upd_ne (fun z => h.ne (by rw [z]; exact hD))]
      exact ex'.fr a h n
  exact c.nx _ _ _ H' (fin acc ja) ((ty.ext ex2).set i (rp_lst_new fD' ra)) ((b.step ex2).set i)
end

/-! ### the box of a law: [[cells], place, seed] -/
def boxB (b c : Addr) (n : Nat) (H : Hp) : Prop := ∃ (cells : List Int) (p s : Int), H b = some (.lst [.ref c, .int p, .int s]) ∧ H c = some (.lst (cells.map .int)) ∧ cells.length = n ∧ (∀ x ∈ cells, 0 ≤ x) ∧ 0 ≤ s ∧ s < 2147483647
def boxR (b c : Addr) (n : Nat) : Reg := ⟨fun a => a = b ∨ a = c, fun H => b ≠ c ∧ n ≤ 63 ∧ boxB b c n H, fun H H' h ⟨nb, hn, cells, p, s, h1, h2, h3⟩ => ⟨nb, hn, cells, p, s, h b _ (.inl rfl) h1, h c _ (.inr rfl) h2, h3⟩, fun _ _ => True, fun _ _ _ _ _ _ => trivial⟩
/-- stores by values -/
@[irreducible] def seOf (X : Cx) : TSet := fun o i v H Q => ∀ pins s σ ov iv u, Inv X pins σ H s → RelV o ov → RelV i iv → RelV v u → wpAny (model X.prog X.w) X.A (setItem ov iv u) (fun _ s' => ∃ H', Inv X pins σ H' s' ∧ Q H') X.xe s
theorem se_w {X : Cx} : PSet X (seOf X) := fun pins s σ H o i v ov iv u Q I ro ri rv h => by unfold seOf at h; exact h pins s σ ov iv u I ro ri rv
theorem seOf.of {X : Cx} {t : TSet} {o i v : V} {H : Hp} {Q : Hp → Prop} (h : PSet X t) (q : t o i v H Q) : seOf X o i v H Q := by unfold seOf; exact fun pins s σ ov iv u I ro ri rv => h pins s σ H o i v ov iv u Q I ro ri rv q
def WS (X : Cx) (R : Reg) (o i v : Dt) (P : Prop) : Prop := ∀ F H x y z Q, Wf R F H → Rp X.K F o x → Rp X.K F i y → Rp X.K F v z → (∀ H', Ext R F H F H' → P → Q H') → seOf X x y z H Q
section
variable {X : Cx} {R : Reg} {G : List Sl} {pos : Pos} {k : Kt} {b c : Addr} {n : Nat}
theorem s_set {o ix e : Expr} {spos : Pos} (h : E X R G e fun dv => E X R G o fun d => E X R G ix fun di => WS X R d di dv (k.nx G))
    (ha : ∀ v, assign (.Subscript o ix spos) X.env v = (do
      let ov ← holding [v] (eval o X.env)
      let iv ← holding [v, ov] (eval ix X.env)
      standAt spos
      holding [v, ov, iv] (setItem ov iv v)
      release [v, ov, iv] []) := by intro _; rfl)
    (hs : swapsWithSole [.Subscript o ix spos] e pos.line X.env = pure false := by rfl) (hw : swappedStores [.Subscript o ix spos] e X.env = pure none := by rfl)
    (h1 : (assignEach [.Subscript o ix spos] X.env).map (·.2) = [assign (.Subscript o ix spos) X.env] := by rfl) : S1 X R (.Assign [.Subscript o ix spos] e pos) G k := fun F0 H0 σ F H D ty b c =>
  s1Of.of (ps_asg pe_w (pg_sub pe_w pe_w se_w ha) hs hw h1) (h σ F H _ ty fun v F1 H1 d ex r h2 => h2 σ F1 H1 _ (ty.ext ex) fun w F2 H2 d2 ex2 r2 h3 => h3 σ F2 H2 _ ((ty.ext ex).ext ex2) fun u F3 H3 d3 ex3 r3 h4 =>
    h4 F3 H3 w u v _ ex3.wf (r2.mono ex3.ff) r3 ((r.mono ex2.ff).mono ex3.ff) fun H' exn p => c.nx _ _ F3 H' p ((((ty.ext ex).ext ex2).ext ex3).ext exn) ((((b.step ex).step ex2).step ex3).step exn))
theorem wi_box0 {P : Dt → Prop} (p : P (.adr c)) : WI X (boxR b c n) (.adr b) (.int 0) P := fun F H x y Q w rx ry ct => by
  obtain ⟨nb, hn, cells, pl, s, h1, h2, h3⟩ := w.b
  rw [rp_adr.mp rx, rp_int.mp ry]
  exact ixOf.of ix_list ⟨b, _, 0, .ref c, rfl, rfl, SqL.of h1, atI_nat (j := 0) rfl, ct.here w (rp_adr.mpr rfl) p⟩
theorem wi_box1 {P : Dt → Prop} (p : ∀ i, P (.int i)) : WI X (boxR b c n) (.adr b) (.int 1) P := fun F H x y Q w rx ry ct => by
  obtain ⟨nb, hn, cells, pl, s, h1, h2, h3⟩ := w.b
  rw [rp_adr.mp rx, rp_int.mp ry]
  exact ixOf.of ix_list ⟨b, _, 1, .int pl, rfl, rfl, SqL.of h1, atI_nat (j := 1) rfl, ct.here w (rp_int.mpr rfl) (p pl)⟩
theorem wi_box2 {P : Dt → Prop} (p : ∀ i : Int, 0 ≤ i → i < 2147483647 → P (.int i)) : WI X (boxR b c n) (.adr b) (.int 2) P := fun F H x y Q w rx ry ct => by
  obtain ⟨nb, hn, cells, pl, s, h1, h2, h3, h4, h5, h6⟩ := w.b
  rw [rp_adr.mp rx, rp_int.mp ry]
  exact ixOf.of ix_list ⟨b, _, 2, .int s, rfl, rfl, SqL.of h1, atI_nat (j := 2) rfl, ct.here w (rp_int.mpr rfl) (p s h5 h6)⟩
theorem wi_cell {i : Int} {P : Dt → Prop} (h0 : 0 ≤ i) (hi : i < n) (p : ∀ x : Int, 0 ≤ x → P (.int x)) : WI X (boxR b c n) (.adr c) (.int i) P := fun F H x y Q w rx ry ct => by
  obtain ⟨nb, hn, cells, pl, s, h1, h2, h3, h4, h5, h6⟩ := w.b
  rw [rp_adr.mp rx, rp_int.mp ry]
  obtain ⟨j, rfl⟩ : ∃ j : Nat, i = (j : Int) := ⟨i.toNat, by omega⟩
  have hj : j < cells.length := by omega
  refine ixOf.of ix_list ⟨c, _, j, .int cells[j], rfl, rfl, SqL.of h2, atI_nat (j := j) (by rw [List.getElem?_map, List.getElem?_eq_getElem hj]; rfl), ct.here w (rp_int.mpr rfl) (p _ (h4 _ (List.getElem_mem hj)))⟩
theorem wc_lenc {P : Dt → Prop} (p : n ≤ 63 → P (.int (n : Int))) : WC X (boxR b c n) (.builtin "len") [.adr c] P := fun F H xs Q w r ct => by
  obtain ⟨nb, hn, cells, pl, s, h1, h2, h3, h4, h5, h6⟩ := w.b
  obtain ⟨v, rfl, r1⟩ := r.one
  rw [rp_adr.mp r1]
  refine crOf.of call_len_seq ⟨c, _, rfl, .inl (SqL.of h2), ?_⟩
  exact ct.here w (d := .int (n : Int)) (rp_int.mpr (by simp [h3])) (p hn)
theorem box_ext {F H : Hp} {a : Addr} {o : HO} (w : Wf (boxR b c n) F H) (ha : a = b ∨ a = c) (hb : boxB b c n (upd H a o)) : Ext (boxR b c n) F H F (upd H a o) := by
  have fa : F a = none := w.off a ha
  have hb0 := hb
  refine ⟨⟨fun x u h => ?_, w.off, fun x m => ?_, w.b.1, w.b.2.1, hb⟩, .refl _, fun x u nm h => ?_, fun _ _ h => h⟩
  · rw [upd_ne (fun z => by rw [z, fa] at h; cases h)]
    exact w.fh x u h
  · obtain ⟨cells, i, s, q1, q2, _⟩ := hb0
    rcases m with rfl | rfl
    · exact ⟨_, q1, fun _ z => nomatch z⟩
    · exact ⟨_, q2, fun _ z => nomatch z⟩
  · rw [upd_ne (fun z => nm (by rw [z]; exact ha))]
    exact h
theorem ws_cell {i v : Int} {P : Prop} (h0 : 0 ≤ i) (hi : i < n) (hv : 0 ≤ v) (p : P) : WS X (boxR b c n) (.adr c) (.int i) (.int v) P := fun F H x y z Q w rx ry rz ct => by
  obtain ⟨nb, hn, cells, pl, s, h1, h2, h3, h4, h5, h6⟩ := id w.b
  rw [rp_adr.mp rx, rp_int.mp ry, rp_int.mp rz]
  obtain ⟨j, rfl⟩ : ∃ j : Nat, i = (j : Int) := ⟨i.toNat, by omega⟩
  have hj : j < cells.length := by omega
  refine seOf.of set_list ⟨c, _, j, j, rfl, rfl, h2, ?_, ct _ (box_ext w (.inr rfl) ⟨cells.set j v, pl, s, ?_, ?_, ?_, ?_, h5, h6⟩) p⟩
  · unfold ixN
    rw [List.length_map, if_pos (by omega), if_pos (by omega)]
    simp
  · rw [upd_ne nb]; exact h1
  · rw [upd_same, List.map_set]
  · simp [h3]
  · intro u hu
    rcases List.mem_or_eq_of_mem_set hu with z | z
    · exact h4 u z
    · rw [z]; exact hv
theorem ws_box1 {v : Int} {P : Prop} (p : P) : WS X (boxR b c n) (.adr b) (.int 1) (.int v) P := fun F H x y z Q w rx ry rz ct => by
  obtain ⟨nb, hn, cells, pl, s, h1, h2, h3, h4, h5, h6⟩ := id w.b
  rw [rp_adr.mp rx, rp_int.mp ry, rp_int.mp rz]
  exact seOf.of set_list ⟨b, _, 1, 1, rfl, rfl, h1, rfl, ct _ (box_ext w (.inl rfl) ⟨cells, v, s, upd_same, by rw [upd_ne (Ne.symm nb)]; exact h2, h3, h4, h5, h6⟩) p⟩
theorem ws_box2 {v : Int} {P : Prop} (hv : 0 ≤ v) (hv2 : v < 2147483647) (p : P) : WS X (boxR b c n) (.adr b) (.int 2) (.int v) P := fun F H x y z Q w rx ry rz ct => by
  obtain ⟨nb, hn, cells, pl, s, h1, h2, h3, h4, h5, h6⟩ := id w.b
  rw [rp_adr.mp rx, rp_int.mp ry, rp_int.mp rz]
  exact seOf.of set_list ⟨b, _, 2, 2, rfl, rfl, h1, rfl, ct _ (box_ext w (.inl rfl) ⟨cells, pl, v, upd_same, by rw [upd_ne (Ne.symm nb)]; exact h2, h3, h4, hv, hv2⟩) p⟩
end
/-- a def's promise whose first argument is the box -/
def spB (K : PySem.W.Frag) (m : Nat) (φ : Ph) : Sp := fun vs H Q E => vs.length = m ∧ ∃ b c n F ds q x, Wf (boxR b c n) F H ∧ RpL K F (.adr b :: ds) vs ∧ φ ds q x ∧ (∀ v F' H' d, Ext (boxR b c n) F H F' H' → Rp K F' d v → q d → Q v H') ∧ XOk K (boxR b c n) F H x E
section
variable {X : Cx} {G : List Sl} {pos : Pos} {b c : Addr} {n : Nat}
theorem e_callX {x : Str} {ps : List Str} {φ : Ph} {m j : Nat} {e : Expr} {es : List Expr} {p : Pos} {P : Dt → Prop} (F : Fn X.prog X.w X.K X.mg X.base j x ps [] (spB X.K m φ)) (hr : Room j X.A) (hg : Gl X x)
    (h : EA X (boxR b c n) G (e :: es) fun ds => ∃ ds', ds = .adr b :: ds' ∧ ds.length = m ∧ φ ds' P fun _ _ _ => False)
    (hdb : (x == ("__debug__" : Str)) = false := by decide) (he : starEach (e :: es) X.env = (false, eval e X.env) :: starEach es X.env := by rfl) (hpl : (backTo pos (starEach es X.env)).any (·.1) = false := by rfl) : E X (boxR b c n) G (.Call (.Name x p) (e :: es) [] pos) P := fun σ F' H Q ty ct => by
  obtain ⟨f, fd, ds, a1, a2, a3, a4, a5⟩ := F.ex
  cases a4
  refine tOf.of (pe_call a5 hr hg a1 a2 a3 .nil passLn pa_w hdb he hpl) (h σ F' H _ ty fun vs F1 H1 ds ex r ⟨ds', e1, hl, hφ⟩ => ?_)
  subst e1
  rw [List.append_nil]
  exact ⟨by rw [← hl]; exact r.length.symm, b, c, n, F1, ds', P, fun _ _ _ => False, ex.wf, r, hφ, fun v F2 H2 d ex2 r2 p => ct v F2 H2 d (ex.trans ex2) r2 p, ⟨fun _ _ _ _ _ _ _ z => z.elim, fun _ _ _ z => z.elim⟩⟩
end
section
variable {P : Program} {w : World} {K : PySem.W.Frag} {mg : Str → Option Value} {base : Heap}
theorem fn_okX {x qual : Str} {st : Stmt} {f : Addr} {fd : FuncData} {dvs : List V} {kws : List (Str × V)} {N ps : List Str} {k m : Nat} {φ : Ph} (F : FD K x qual st dvs kws f fd) (Sc : FnScope N ps (defScope st)) (hn : m = ps.length)
    (h : ∀ (X : Cx) (cdv : Value) (A : Around) (outer : List Env) (s : Shared) (H : Hp) (E : XK) (b c : Addr) (n : Nat) (ds : List Dt) (q : Dt → Prop) (xd : XD), X = cxOf (L2N.CX P w) P w K mg base N qual (defScope st) f cdv A outer s H E → Room k X.A → φ ds q xd → ds.length + 1 = m →
      (∀ F, Wf (boxR b c n) F H → XOk K (boxR b c n) F H xd E → S X (boxR b c n) (defBody st) (st0 N (.adr b :: ds)) { nx := fun _ => q .non, rt := q })) : FnOk P w K mg base (L2N.CX P w) (k + 1) f fd ps (spB K m φ) := by
  refine FunD.ok F Sc (fun vs H Q E hh => by rw [hh.1, hn]) fun cdv A outer s H vs Q E hr hh => ?_
  obtain ⟨hl, b, c, n, F0, ds, q, xd, wf, r, hφ, hq, hx⟩ := hh
  have hS := h _ cdv A outer s H E b c n ds q xd rfl hr hφ (by rw [← hl, ← r.length]; rfl) F0 wf hx
  refine ⟨_, pss_w, hS F0 H _ F0 H _ ⟨wf, ?_, by unfold st0; rw [owns0]; exact .nil⟩ ⟨.refl wf, (by unfold st0; rw [owns0]; intro o ho; cases ho), trivial⟩ ⟨fun G σ F1 H1 z _ b => hq .non F1 H1 .non b.ext (rp_non.mpr rfl) z, fun d v F1 H1 z e rd => hq v F1 H1 d e rd z, fun _ _ _ _ z => z.elim, fun _ _ _ _ z => z.elim, fun _ _ _ _ z => z.elim⟩⟩
  unfold st0 L2.start
  rw [r.length]
  exact sls0 _ r
end
end VS
set_option Elab.async false
set_option linter.all false
set_option maxRecDepth 100000
namespace VS
open PySem PySem.Spec L2
section
variable {X : Cx} {R : Reg} {G : List Sl} {pos : Pos} {k : Kt}
/-- the name in slot i -/
theorem e_v (i : Nat) {x : Str} {d : Dt} {P : Dt → Prop} (p : P d) (hg : G[i]? = some (.sh d) := by rfl) (hN : X.N[i]? = some x := by rfl) (hv : Vis X.env.scope x := by first | exact Or.inl rfl | exact Or.inr (Or.inl rfl) | exact Or.inr (Or.inr rfl))
    (hd : (x == ("__debug__" : Str)) = false := by decide) (hcd : (x == ("__classdict__" : Str)) = false := by decide) : E X R G (.Name x pos) P := e_var i hg hN hv p hd hcd
theorem s_a (i : Nat) {x : Str} {e : Expr} {pos' : Pos} (hN : X.N.Nodup) (h : E X R G e fun d => k.nx (G.set i (.sh d))) (hi : X.N[i]? = some x := by rfl) (hx : Loc X.env.scope x := by first | exact Or.inl rfl | exact Or.inr rfl)
    (hs : swapsWith e (some (.Name x pos')) pos.line X.env = pure false := by rfl) (hf : X.fn x = true ∨ X.env.scope.names.lookup x = some .local := by first | exact .inl rfl | exact .inr rfl | assumption) : S1 X R (.Assign [.Name x pos'] e pos) G k := s_asg i hN hi hx h hs hf
theorem s_aN (i : Nat) {x : Str} {e : Expr} {pos' : Pos} (hN : X.N.Nodup) (h : EN X R G e fun ds => k.nx (G.set i (.ow (.lst ds)))) (hi : X.N[i]? = some x := by rfl) (hx : Loc X.env.scope x := by first | exact Or.inl rfl | exact Or.inr rfl)
    (hs : swapsWith e (some (.Name x pos')) pos.line X.env = pure false := by rfl) (hf : X.fn x = true ∨ X.env.scope.names.lookup x = some .local := by first | exact .inl rfl | exact .inr rfl | assumption) : S1 X R (.Assign [.Name x pos'] e pos) G k := s_asgN i hN hi hx h hs hf
theorem a_n (j : Nat) {x : Str} {d : Dt} (hN : X.N.Nodup) (hi : X.N[j]? = some x := by rfl) (hx : Loc X.env.scope x := by first | exact Or.inl rfl | exact Or.inr rfl) (hf : X.fn x = true ∨ X.env.scope.names.lookup x = some .local := by first | exact .inl rfl | exact .inr rfl | assumption) : A X (.Name x pos) d [(j, d)] := a_name j hN hi hx hf

/-! ### tests with an answer that is known -/
theorem ite_b {b : Bool} {A B : Prop} (h1 : b = true → A) (h2 : b = false → B) : if b = true then A else B := by
  cases b with
  | true => rw [if_pos rfl]; exact h1 rfl
  | false => rw [if_neg (by decide)]; exact h2 rfl
theorem ite_t {b : Bool} {A B : Prop} (h : b = true) (h1 : A) : if b = true then A else B := by rw [if_pos h]; exact h1
theorem ite_f {b : Bool} {A B : Prop} (h : b = false) (h1 : B) : if b = true then A else B := by rw [if_neg (by rw [h]; decide)]; exact h1
theorem tw_andD {a b : Expr} {es : List Expr} {u v : Bool} {P : Bool → Prop} (h1 : T X R G a fun k => k = u) (h2 : u = true → TW X R G (.BoolOp .And (b :: es) pos) fun k => k = v) (p : P (u && v)) : TW X R G (.BoolOp .And (a :: b :: es) pos) P := tw_and (h1.imp fun k e => by
  subst e
  cases k with
  | true => rw [if_pos rfl]; exact fun σ F H Q ty c => h2 rfl σ F H Q ty fun b F' H' ex e => c b F' H' ex (by rw [e]; exact p)
  | false => rw [if_neg (by decide)]; exact p)
theorem tw_orD {a b : Expr} {es : List Expr} {u v : Bool} {P : Bool → Prop} (h1 : T X R G a fun k => k = u) (h2 : u = false → TW X R G (.BoolOp .Or (b :: es) pos) fun k => k = v) (p : P (u || v)) : TW X R G (.BoolOp .Or (a :: b :: es) pos) P := tw_or (h1.imp fun k e => by
  subst e
  cases k with
  | false => rw [if_neg (by decide)]; exact fun σ F H Q ty c => h2 rfl σ F H Q ty fun b F' H' ex e => c b F' H' ex (by rw [e]; exact p)
  | true => rw [if_pos rfl]; exact p)
theorem e_andD {a b : Expr} {es : List Expr} {u v : Bool} {P : Dt → Prop} (h1 : E X R G a fun d => d = .bl u) (h2 : u = true → E X R G (.BoolOp .And (b :: es) pos) fun d => d = .bl v) (p : P (.bl (u && v))) : E X R G (.BoolOp .And (a :: b :: es) pos) P := e_and (h1.imp fun d e => ⟨u, e, by
  cases u with
  | true => rw [if_pos rfl]; exact (h2 rfl).imp fun d e => by rw [e]; exact p
  | false => rw [if_neg (by decide)]; exact p⟩)
/-- a op1 b op2 c, with answers that are known -/
theorem e_chainD {a b c : Expr} {op op' : CmpOp} {u v : Bool} {P : Dt → Prop} (h : E X R G a fun d1 => E X R G b fun d2 => W2 X R (compareOp op) d1 d2 fun d => d = .bl u ∧ (u = true → E X R G c fun d3 => W2 X R (compareOp op') d2 d3 fun d => d = .bl v)) (p : P (.bl (u && v)))
    (hm : lastMarks [op, op'] [b, c] = false := by with_unfolding_all rfl) : E X R G (.Compare a [op, op'] [b, c] pos) P := by
  refine e_chain ?_ hm
  refine h.imp fun d1 h1 => h1.imp fun d2 h2 => fun F H x y Q w rx ry ct => h2 F H x y Q w rx ry fun z F' H' d ex r hh => ct z F' H' d ex r ⟨u, hh.1, ?_⟩
  cases u with
  | true => rw [if_pos rfl]; exact (hh.2 rfl).imp fun d3 h3 => fun F H x y Q w rx ry ct => h3 F H x y Q w rx ry fun z F' H' d ex r e => ct z F' H' d ex r (by rw [e]; exact p)
  | false => rw [if_neg (by decide)]; exact p
theorem t_chainD {a b c : Expr} {op op' : CmpOp} {u v : Bool} {P : Bool → Prop} (h : E X R G a fun d1 => E X R G b fun d2 => W2 X R (compareOp op) d1 d2 fun d => d = .bl u ∧ (u = true → E X R G c fun d3 => W2 X R (compareOp op') d2 d3 fun d => d = .bl v)) (p : P (u && v))
    (hm : lastMarks [op, op'] [b, c] = false := by with_unfolding_all rfl) : T X R G (.Compare a [op, op'] [b, c] pos) P := by
  refine t_chain ?_ hm
  refine h.imp fun d1 h1 => h1.imp fun d2 h2 => fun F H x y Q w rx ry ct => h2 F H x y Q w rx ry fun z F' H' d ex r hh => ct z F' H' d ex r ⟨u, hh.1, ?_⟩
  cases u with
  | true => rw [if_pos rfl]; exact (hh.2 rfl).imp fun d3 h3 => fun F H x y Q w rx ry ct => h3 F H x y Q w rx ry fun z F' H' d ex r e => ct z F' H' d ex r ⟨v, e, p⟩
  | false => rw [if_neg (by decide)]; exact p

/-! ### a comprehension that maps, that filters and maps -/
theorem lc_map {tg elt : Expr} {scope : Scope} {vs : List Nat} {ds : List Dt} (g : Nat → Dt → Dt) (js : Dt → List (Nat × Dt)) (ha : ∀ (i : Nat) d, ds[i]? = some d → ∀ Y, Blk X scope Y → A Y tg d (js d)) (hj : ∀ d, ∀ p ∈ js d, p.1 ∈ vs)
    (he : ∀ (i : Nat) d, ds[i]? = some d → ∀ Y, Blk X scope Y → E Y R (setsD (wipeD G vs) (js d)) elt fun y => y = g i d) : Lc X R G tg elt [] scope vs ds fun i acc => acc = (ds.take i).mapIdx g := by
  refine ⟨rfl, fun i d acc hd hacc hl => ⟨js d, ha i d hd, hj d, fun Y bY => ts_nil ?_⟩⟩
  rw [if_pos rfl]
  intro Z bZ
  refine (he i d hd Z bZ).imp fun y hy => ?_
  have hi : i < ds.length := (List.getElem?_eq_some_iff.mp hd).1
  have e2 : ds.take (i + 1) = ds.take i ++ [d] := by rw [List.take_add_one, hd]; rfl
  show acc ++ [y] = (ds.take (i + 1)).mapIdx g
  rw [e2, List.mapIdx_append, hacc, hy]
  simp [List.length_take, Nat.min_eq_left (Nat.le_of_lt hi)]
/-- an item of a written list at a drawn place -/
theorem wi_any {ds : List Dt} {i : Int} {P : Dt → Prop} (h0 : 0 ≤ i) (h1 : i < (ds.length : Nat)) (p : ∀ d ∈ ds, P d) : WI X R (.lst ds) (.int i) P := by
  obtain ⟨j, rfl⟩ : ∃ j : Nat, i = (j : Int) := ⟨i.toNat, by omega⟩
  have hj : j < ds.length := by omega
  exact wi_lst (atI_nat (j := j) (List.getElem?_eq_getElem hj)) (p _ (List.getElem_mem hj))
theorem eo_none {P : Option Int → Prop} (p : P none) : EO X R G none P := p
theorem eo_some {e : Expr} {P : Option Int → Prop} (h : E X R G e fun d => ∃ i, d = .int i ∧ P (some i)) : EO X R G (some e) P := h
theorem b_abs : bootBuiltins "abs" = some (.builtin "abs") := by decide +kernel
theorem b_len : bootBuiltins "len" = some (.builtin "len") := by decide +kernel
theorem b_int : bootBuiltins "int" = some (.type "int") := by decide +kernel
theorem b_str : bootBuiltins "str" = some (.type "str") := by decide +kernel
theorem b_list : bootBuiltins "list" = some (.type "list") := by decide +kernel
theorem b_tuple : bootBuiltins "tuple" = some (.type "tuple") := by decide +kernel
theorem b_dict : bootBuiltins "dict" = some (.type "dict") := by decide +kernel
theorem b_isinstance : bootBuiltins "isinstance" = some (.builtin "isinstance") := by decide +kernel
theorem b_any : bootBuiltins "any" = some (.builtin "any") := by decide +kernel
end
end VS
set_option Elab.async false
set_option linter.all false
set_option maxRecDepth 100000
namespace VS
open PySem PySem.Spec L2

/-! ### the box made -/
def spBox (K : PySem.W.Frag) : Sp := fun vs H Q _ => vs.length = 1 ∧ ∃ (F : Hp) (ns : List Int) (v : V), Same F H ∧ vs = [v] ∧ Rp K F (.frl (ns.map .int)) v ∧ ns.length ≤ 63 ∧
  ∀ (b c : Addr) (H' : Hp) (cells : List Int), b ≠ c → H b = none → H c = none → Same H H' → H' b = some (.lst [.ref c, .int 0, .int 1]) → H' c = some (.lst (cells.map .int)) → cells.length ≤ 63 → (∀ x ∈ cells, 0 ≤ x) → Q (.ref b) H'
section
variable {X : Cx} {G : List Sl} {pos : Pos}
theorem s_retBox {e : Expr} {j1 j2 p1 p2 lp} {D : Ends} {σ : St} {F H : Hp} {i0 i1 : Int} (ty : Ty X.K .nil G σ F H) (h : EN X .nil G e fun ds => ∃ cells : List Int, ds = cells.map .int ∧ cells.length ≤ 63 ∧ ∀ x ∈ cells, 0 ≤ x)
    (q : ∀ (b c : Addr) (H' : Hp) (cells : List Int), b ≠ c → H b = none → H c = none → Same H H' → H' b = some (.lst [.ref c, .int i0, .int i1]) → H' c = some (.lst (cells.map .int)) → cells.length ≤ 63 → (∀ x ∈ cells, 0 ≤ x) → D.rt (.ref b) H')
    (hs : starEach [e, .Constant (.int i0) j1 p1, .Constant (.int i1) j2 p2] X.env = (false, eval e X.env) :: starEach [.Constant (.int i0) j1 p1, .Constant (.int i1) j2 p2] X.env := by rfl)
    (hs2 : starEach [.Constant (.int i0) j1 p1, .Constant (.int i1) j2 p2] X.env = (false, eval (.Constant (.int i0) j1 p1) X.env) :: starEach [.Constant (.int i1) j2 p2] X.env := by rfl)
    (hs3 : starEach [.Constant (.int i1) j2 p2] X.env = (false, eval (.Constant (.int i1) j2 p2) X.env) :: starEach [] X.env := by rfl) :
    s1Of X (.Return (some (.List [e, .Constant (.int i0) j1 p1, .Constant (.int i1) j2 p2] lp)) pos) D σ H := by
  refine s1Of.of (ps_ret (pe_lst (pa_cons pe_w (pa_cons pe_int (pa_cons pe_int pa_nil hs3) hs2) hs))) (h σ F H _ ty fun c F1 H1 ds vs ex hc nM hc1 fc rl hh => ?_)
  obtain ⟨cells, rfl, hl, hp⟩ := hh
  refine ⟨by show 3 ≤ sizeLine; decide, fun b hb => ?_⟩
  have ne : b ≠ c := fun z => by rw [z, hc1] at hb; cases hb
  have sm : Same H H1 := fun a o h => ex.hh a o (fun z => z) h
  refine q b c _ cells ne (sm.free hb) hc (sm.trans (same_upd hb)) upd_same ?_ hl hp
  rw [upd_ne (Ne.symm ne), hc1, rl.ints]
end
/-- the law's promise -/
def spLaw (K : PySem.W.Frag) : Sp := fun vs H Q _ => ∃ (a : Addr) (ns : List Int), vs = [.ref a] ∧ SqL K H a (ns.map V.int) ∧ ns.length ≤ 63 ∧ ∀ H', Q (.bl true) H'
section
variable {P : Program} {w : World} {K : PySem.W.Frag} {mg : Str → Option Value} {base : Heap}
theorem box_ok {x qual : Str} {st : Stmt} {f : Addr} {fd : FuncData} {N : List Str} {p : Str} {k : Nat} (F : FD K x qual st [] [] f fd) (Sc : FnScope N [p] (defScope st))
    (h : ∀ (X : Cx) (cdv : Value) (A : Around) (outer : List Env) (s : Shared) (H : Hp) (E : XK) (ns : List Int) (F : Hp) (σ : St) (D : Ends), X = cxOf (L2N.CX P w) P w K mg base N qual (defScope st) f cdv A outer s H E → ns.length ≤ 63 → Ty K .nil (st0 N [.frl (ns.map .int)]) σ F H →
      (∀ (b c : Addr) (H' : Hp) (cells : List Int), b ≠ c → H b = none → H c = none → Same H H' → H' b = some (.lst [.ref c, .int 0, .int 1]) → H' c = some (.lst (cells.map .int)) → cells.length ≤ 63 → (∀ x ∈ cells, 0 ≤ x) → D.rt (.ref b) H') → sOf X (defBody st) D σ H) :
    FnOk P w K mg base (L2N.CX P w) (k + 1) f fd [p] (spBox K) := by
  refine FunD.ok F Sc (fun vs H Q E hh => by rw [hh.1]; rfl) fun cdv A outer s H vs Q E hr hh => ?_
  obtain ⟨hl, F0, ns, v, sf, rfl, r, hn, q⟩ := hh
  refine ⟨_, pss_w, h _ cdv A outer s H E ns F0 _ _ rfl hn ⟨wf_nil sf, ?_, by unfold st0; rw [owns0]; exact .nil⟩ q⟩
  have r1 : RpL K F0 [.frl (ns.map .int)] [v] := .cons r .nil
  unfold st0 L2.start
  exact sls0 _ r1
/-- the law's own body: the box is made, then the rest is shown for any box -/
theorem law_ok {st : Stmt} {f : Addr} {fd : FuncData} {N : List Str} {p bx : Str} {k : Nat} {p1 p2 p3 p4 pos : Pos} {rest : List Stmt} (F : FD K "law" "law" st [] [] f fd) (Sc : FnScope N [p] (defScope st)) (B : Fn P w K mg base k "_law_box" ["_law_script"] [] (spBox K))
    (hbody : defBody st = .Assign [.Name bx p1] (.Call (.Name "_law_box" p2) [.Name p p3] [] p4) pos :: rest)
    (hN0 : N[0]? = some p) (hN1 : N[1]? = some bx) (hn2 : 2 ≤ N.length) (hl : Loc (defScope st) bx) (hv : Vis (defScope st) p) (hgl : (defScope st).names.lookup ("_law_box" : Str) = some .globalImplicit) (hpd : (p == ("__debug__" : Str)) = false) (hpd2 : (p == ("__classdict__" : Str)) = false)
    (hsw : ∀ env : Env, env.scope = defScope st → swapsWith (.Call (.Name "_law_box" p2) [.Name p p3] [] p4) (some (.Name bx p1)) pos.line env = pure false)
    (hse : ∀ env : Env, starEach [.Name p p3] env = (false, eval (.Name p p3) env) :: starEach [] env)
    (h : ∀ (X : Cx) (cdv : Value) (A : Around) (outer : List Env) (s : Shared) (H : Hp) (E : XK) (b c : Addr) (n : Nat) (ns : List Int), X = cxOf (L2N.CX P w) P w K mg base N "law" (defScope st) f cdv A outer s H E → Room k X.A →
      S X (boxR b c n) rest (.sh (.frl (ns.map .int)) :: .sh (.adr b) :: List.replicate (N.length - 2) .no) { nx := fun _ => False, rt := fun d => d = .bl true }) :
    FnOk P w K mg base (L2N.CX P w) (k + 1) f fd [p] (spLaw K) := by
  refine FunD.ok F Sc (fun vs H Q E hh => by obtain ⟨a, ns, rfl, _⟩ := hh; rfl) fun cdv A outer s H vs Q E hr hh => ?_
  obtain ⟨a, ns, rfl, hS, hn, q⟩ := hh
  obtain ⟨f2, fd2, ds2, a1, a2, a3, a4, a5⟩ := B.ex
  cases a4
  generalize hX : cxOf (L2N.CX P w) P w K mg base N "law" (defScope st) f cdv A outer s H E = X
  have hXN : X.N = N := by rw [← hX]; rfl
  have hXs : X.env.scope = defScope st := by rw [← hX]; rfl
  have hXK : X.K = K := by rw [← hX]; rfl
  have hXm : X.mg = mg := by rw [← hX]; rfl
  have a5' : FnOk X.prog X.w X.K X.mg X.base (L2N.CX X.prog X.w) k f2 fd2 ["_law_script"] (spBox X.K) := by rw [← hX]; exact a5
  have hr' : Room k X.A := by rw [← hX]; exact hr
  have nd : X.N.Nodup := by rw [hXN]; exact Sc.nd
  refine ⟨_, pss_w, ?_⟩
  rw [hbody]
  refine sOf.of (pss_cons (ps_set (i := 1) nd (by rw [hXN]; exact hN1) (by rw [hXs]; exact hl) (pe_call a5' hr' (show X.env.kindOf _ = _ by show X.env.scope.names.lookup _ = _; rw [hXs]; exact hgl) (by rw [hXm]; exact a1) (by rw [hXK]; exact a2) (by rw [hXK]; exact a3) .nil passLn (pa_cons (pe_var (i := 0) (by rw [hXN]; exact hN0) (by rw [hXs]; exact hv) hpd hpd2) pa_nil (hse _)) (by decide) (hse _) rfl) (hsw _ hXs) (by rw [← hX]; exact .inl rfl)) pss_w) ?_
  have hs0 : ∃ r, L2.start N [V.ref a] = some (V.ref a) :: r ∧ r.length = N.length - 1 := ⟨List.replicate (N.length - 1) none, rfl, List.length_replicate⟩
  obtain ⟨r, e0, hr0⟩ := hs0
  refine ⟨.ref a, by rw [e0]; rfl, rfl, H, ns, .ref a, .refl _, rfl, rp_frl.mpr ⟨a, ns.map V.int, rfl, by rw [hXK]; exact hS, RpL.of_ints⟩, hn, fun b c H' cells ne hb hc sm hb' hc' hl' hp' => ?_⟩
  obtain ⟨g, r2, e2⟩ : ∃ g r2, r = g :: r2 := by
    cases r with
    | nil => simp at hr0; omega
    | cons g r2 => exact ⟨g, r2, rfl⟩
  subst e2
  have wf : Wf (boxR b c cells.length) H H' := by
    refine ⟨sm, fun x m => ?_, fun x m => ?_, ne, hl', cells, 0, 1, hb', hc', rfl, hp', by decide, by decide⟩
    · rcases m with m | m
      · rw [m]; exact hb
      · rw [m]; exact hc
    · rcases m with m | m
      · rw [m, hb']; exact ⟨_, rfl, fun _ z => nomatch z⟩
      · rw [m, hc']; exact ⟨_, rfl, fun _ z => nomatch z⟩
  have hst : (L2.start N [V.ref a]).set 1 (some (V.ref b)) = some (V.ref a) :: some (V.ref b) :: r2 := by rw [e0]; rfl
  show sOf X rest _ ((L2.start N [V.ref a]).set 1 (some (V.ref b))) H'
  rw [hst]
  have sl : SlsOk X.K (boxR b c cells.length) H H' (.sh (.frl (ns.map .int)) :: .sh (.adr b) :: List.replicate (N.length - 2) .no) (some (V.ref a) :: some (V.ref b) :: r2) := by
    refine .cons ⟨.ref a, rfl, rp_frl.mpr ⟨a, ns.map V.int, rfl, by rw [hXK]; exact hS, RpL.of_ints⟩⟩ (.cons ⟨.ref b, rfl, rp_adr.mpr rfl⟩ ?_)
    have hlen : N.length - 2 = r2.length := by
      have := hr0
      simp only [List.length_cons] at this
      omega
    rw [hlen]
    clear hst hr0 e0 hlen
    induction r2 with
    | nil => exact .nil
    | cons g r ih => exact .cons trivial ih
  have ow : owns (.sh (.frl (ns.map .int)) :: .sh (.adr b) :: List.replicate (N.length - 2) Sl.no) (some (V.ref a) :: some (V.ref b) :: r2) = [] := owns0 [.frl (ns.map .int), .adr b] _ _
  refine h X cdv A outer s H E b c cells.length ns hX.symm hr' H H' _ H H' _ ⟨wf, sl, by rw [ow]; exact .nil⟩ ⟨.refl wf, (by rw [ow]; intro o ho; cases ho), trivial⟩ ⟨fun _ _ _ _ z => z.elim, fun d v F1 H1 z _ rd => ?_, fun _ _ _ _ z => z.elim, fun _ _ _ _ z => z.elim, fun _ _ _ _ z => z.elim⟩
  subst z
  rw [rp_bl.mp rd]
  exact q H1
end
/-- a law's end over a head by facts, where errors may fly -/
theorem walk_ofW {l : PySem.W.OpenLaw} {n k : Nat} {q : Program} {loose : List Str} {XP : (Str → Option Value) → Heap → Prop} {YP : World → Heap → Prop} {d : DefRec} {x : Str}
    (hn : l.most = some n) (hn2 : n ≤ sizeLine) (hdf : d.params.defaults = []) (hr : Room k callerA)
    (F : ∀ (w : World) (mg : Str → Option Value) (fa : Addr) (h : Heap), YP w h → h.Ns mainGlobals mg → mg d.name = some (.ref fa) →
      ∃ (K : PySem.W.Frag) (fd : FuncData) (sp : Sp), K.In h ∧ (∀ (s : Shared) (u : Value), BindsTo s fd ⟨[u], []⟩ [(x, u)]) ∧
        (∀ (H : Hp) (a : Addr) (ns : List Int), ns.length ≤ n → Only H → SqL K H a (ns.map V.int) → sp [.ref a] H (fun v _ => v = .bl true) fun _ _ _ => False) ∧
        ∀ base : Heap, K.In base → base.Ns mainGlobals mg → FnOk l.prog w K mg base (L2N.CX l.prog w) k fa fd [x] sp) :
    PySem.W.WalkO q loose XP YP l.row.toRowW d [] (fun f vs => PySem.call f vs) := by
  refine Att.attach_call hn hdf fun w s₀ s₁ mg mb fa o pm cd doc a vs ns G Y ho hd hcd hmg hobj hints hlen hg => ?_
  obtain ⟨K, fd, sp, KX, hb, hsp, hF⟩ := F w mg fa _ Y G.T.g hmg
  refine law_call KX G.T.g G.T.b G.T.builtins G.T.nolimit hg hobj hints (Nat.le_trans hlen hn2) hr hF hb (fun H hO hS => hsp H a ns hlen hO hS) fun H e s' hx => ?_
  obtain ⟨_, _, _, _, _, _, _, _, _, _, _, _, z⟩ := hx
  exact z
end VS
set_option Elab.async false
set_option linter.all false
set_option maxRecDepth 100000
namespace VS
open PySem PySem.Spec L2

/-! ### equality of data -/
mutual
def toP : Dt → PyData
  | .non => .none
  | .bl b => .bool b
  | .int i => .int i
  | .str x => .str x
  | .tup xs => .tuple (toPs xs)
  | .lst xs => .list (toPs xs)
  | .ty _ | .adr _ | .frl _ | .dT _ _ | .dK _ _ | .obj _ _ _ | .exv _ _ _ _ | .at_ _ _ | .key _ => .none
def toPs : List Dt → List PyData
  | [] => []
  | x :: xs => toP x :: toPs xs
end
/-- plain data of depth n -/
def okN : Nat → Dt → Bool
  | _, .non => true
  | _, .bl _ => true
  | _, .int _ => true
  | _, .str x => PyData.strOk x
  | n + 1, .tup xs => xs.all (okN n)
  | n + 1, .lst xs => xs.all (okN n)
  | _, _ => false
abbrev okD (d : Dt) : Bool := okN 12 d
def eqD (a b : Dt) : Bool := PyData.eqv (toP a) (toP b)
theorem okN_list {K : PySem.W.Frag} {F H : Hp} {n : Nat} (sf : Same F H) (ih : ∀ d v, okN n d = true → Rp K F d v → Dp K H v (toP d) ∧ (toP d).canLay0 = true ∧ (toP d).depth ≤ n) : ∀ {xs : List Dt} {vs : List V}, xs.all (okN n) = true → RpL K F xs vs → DpAll K H vs (toPs xs) ∧ PyData.canLayAll0 (toPs xs) = true ∧ PyData.depthAll (toPs xs) ≤ n
  | [], vs, _, r => by
    rw [r.of_nil]
    exact ⟨.nil, by simp [toPs, PyData.canLayAll0], by simp [toPs, PyData.depthAll]⟩
  | x :: xs, vs, h, r => by
    obtain ⟨v, t, rfl, r1, r2⟩ := r.of_cons
    rw [List.all_cons, Bool.and_eq_true] at h
    obtain ⟨a1, a2, a3⟩ := ih x v h.1 r1
    obtain ⟨b1, b2, b3⟩ := okN_list sf ih h.2 r2
    refine ⟨.cons a1 b1, ?_, ?_⟩
    · simp only [toPs, PyData.canLayAll0, a2, b2, Bool.and_self]
    · simp only [toPs, PyData.depthAll]
      omega
theorem okN_dp {K : PySem.W.Frag} {F H : Hp} (sf : Same F H) : ∀ (n : Nat) (d : Dt) (v : V), okN n d = true → Rp K F d v → Dp K H v (toP d) ∧ (toP d).canLay0 = true ∧ (toP d).depth ≤ n
  | n, .non, v, h, r => by rw [rp_non.mp r]; exact ⟨.non, by simp [toP, PyData.canLay0], by simp [toP, PyData.depth]⟩
  | n, .bl b, v, h, r => by rw [rp_bl.mp r]; exact ⟨.bl b, by simp [toP, PyData.canLay0], by simp [toP, PyData.depth]⟩
  | n, .int b, v, h, r => by rw [rp_int.mp r]; exact ⟨.int b, by simp [toP, PyData.canLay0], by simp [toP, PyData.depth]⟩
  | n, .str b, v, h, r => by
    rw [rp_str.mp r]
    have h' : PyData.strOk b = true := by
      cases n with
      | zero => simpa [okN] using h
      | succ n => simpa [okN] using h
    exact ⟨.str b, by simp only [toP, PyData.canLay0]; exact h', by simp [toP, PyData.depth]⟩
  | n + 1, .tup xs, v, h, r => by
    obtain ⟨a, vs, rfl, sq, rl⟩ := rp_tup.mp r
    have h' : xs.all (okN n) = true := by simpa [okN] using h
    obtain ⟨b1, b2, b3⟩ := okN_list sf (fun d v => okN_dp sf n d v) h' rl
    exact ⟨by simp only [toP]; exact .tup (sq_t sf sq) b1, by simp only [toP, PyData.canLay0]; exact b2, by simp only [toP, PyData.depth]; omega⟩
  | n + 1, .lst xs, v, h, r => by
    obtain ⟨a, vs, rfl, sq, rl⟩ := rp_lst.mp r
    have h' : xs.all (okN n) = true := by simpa [okN] using h
    obtain ⟨b1, b2, b3⟩ := okN_list sf (fun d v => okN_dp sf n d v) h' rl
    exact ⟨by simp only [toP]; exact .lst (SqL.of (sf _ _ sq)) b1, by simp only [toP, PyData.canLay0]; exact b2, by simp only [toP, PyData.depth]; omega⟩
  | 0, .tup _, v, h, _ => by simp [okN] at h
  | 0, .lst _, v, h, _ => by simp [okN] at h
  | 0, .ty _, v, h, _ => by simp [okN] at h
  | 0, .adr _, v, h, _ => by simp [okN] at h
  | 0, .frl _, v, h, _ => by simp [okN] at h
  | 0, .dT _ _, v, h, _ => by simp [okN] at h
  | 0, .key _, v, h, _ => by simp [okN] at h
  | 0, .dK _ _, v, h, _ => by simp [okN] at h
  | 0, .obj _ _ _, v, h, _ => by simp [okN] at h
  | 0, .exv _ _ _ _, v, h, _ => by simp [okN] at h
  | 0, .at_ _ _, v, h, _ => by simp [okN] at h
  | n + 1, .ty _, v, h, _ => by simp [okN] at h
  | n + 1, .adr _, v, h, _ => by simp [okN] at h
  | n + 1, .frl _, v, h, _ => by simp [okN] at h
  | n + 1, .dT _ _, v, h, _ => by simp [okN] at h
  | n + 1, .key _, v, h, _ => by simp [okN] at h
  | n + 1, .dK _ _, v, h, _ => by simp [okN] at h
  | n + 1, .obj _ _ _, v, h, _ => by simp [okN] at h
  | n + 1, .exv _ _ _ _, v, h, _ => by simp [okN] at h
  | n + 1, .at_ _ _, v, h, _ => by simp [okN] at h
theorem ok_shaped {K : PySem.W.Frag} {F H : Hp} {d : Dt} {v : V} (sf : Same F H) (h : okD d = true) (r : Rp K F d v) : Dp K H v (toP d) ∧ SeqAt.shaped (toP d) = true := by
  obtain ⟨a, b, c⟩ := okN_dp sf 12 d v h r
  refine ⟨a, ?_⟩
  unfold SeqAt.shaped
  rw [b, decide_eq_true (Nat.le_trans c (by decide))]
  rfl
section
variable {X : Cx} {R : Reg} {G : List Sl} {pos : Pos} {k : Kt}
theorem w_eqD {a b : Dt} {P : Dt → Prop} (hu : X.A.units + 64 < cLine) (ha : okD a = true) (hb : okD b = true) (p : P (.bl (eqD a b))) : W2 X R (compareOp .Eq) a b P := fun F H x y Q w rx ry c => by
  obtain ⟨a1, a2⟩ := ok_shaped w.fh ha rx
  obtain ⟨b1, b2⟩ := ok_shaped w.fh hb ry
  exact opOf.of (op_eqD hu) ⟨_, _, a1, b1, a2, b2, c.here w (rp_bl.mpr rfl) p⟩
theorem w_neD {a b : Dt} {P : Dt → Prop} (hu : X.A.units + 64 < cLine) (ha : okD a = true) (hb : okD b = true) (p : P (.bl (!eqD a b))) : W2 X R (compareOp .NotEq) a b P := fun F H x y Q w rx ry c => by
  obtain ⟨a1, a2⟩ := ok_shaped w.fh ha rx
  obtain ⟨b1, b2⟩ := ok_shaped w.fh hb ry
  exact opOf.of (op_neD hu) ⟨_, _, a1, b1, a2, b2, c.here w (rp_bl.mpr rfl) p⟩
end
theorem canLay_of_ok {n : Nat} {d : Dt} (h : okN n d = true) : (toP d).canLay0 = true := by
  have go : ∀ (n : Nat) (d : Dt), okN n d = true → (toP d).canLay0 = true := fun n => by
    induction n with
    | zero =>
      intro d h
      cases d <;> simp_all [okN, toP, PyData.canLay0]
    | succ n ih =>
      have all : ∀ xs : List Dt, xs.all (okN n) = true → PyData.canLayAll0 (toPs xs) = true := fun xs => by
        induction xs with
        | nil => intro _; simp [toPs, PyData.canLayAll0]
        | cons x xs ih2 =>
          intro h
          rw [List.all_cons, Bool.and_eq_true] at h
          simp only [toPs, PyData.canLayAll0, ih x h.1, ih2 h.2, Bool.and_self]
      intro d h
      cases d with
      | tup xs => simp only [toP, PyData.canLay0]; exact all xs (by simpa [okN] using h)
      | lst xs => simp only [toP, PyData.canLay0]; exact all xs (by simpa [okN] using h)
      | _ => simp_all [okN, toP, PyData.canLay0]
  exact go n d h
theorem eqD_refl {d : Dt} (h : okD d = true) : eqD d d = true := SeqAt.eqv_refl _ (canLay_of_ok h)
theorem eqvAll_ints : ∀ xs ys : List Int, PyData.eqvAll (toPs (xs.map .int)) (toPs (ys.map .int)) = decide (xs = ys)
  | [], [] => by simp [toPs, PyData.eqvAll]
  | [], y :: ys => by simp [toPs, PyData.eqvAll]
  | x :: xs, [] => by simp [toPs, PyData.eqvAll]
  | x :: xs, y :: ys => by
    simp only [List.map_cons, toPs, toP, PyData.eqvAll, PyData.eqv]
    rw [eqvAll_ints xs ys]
    by_cases h : x = y <;> by_cases h2 : xs = ys <;> simp [h, h2]
theorem eqD_ints (xs ys : List Int) : eqD (.lst (xs.map .int)) (.lst (ys.map .int)) = decide (xs = ys) := by
  unfold eqD
  simp only [toP, PyData.eqv]
  exact eqvAll_ints xs ys
theorem eqD_intsT (xs ys : List Int) : eqD (.tup (xs.map .int)) (.tup (ys.map .int)) = decide (xs = ys) := by
  unfold eqD
  simp only [toP, PyData.eqv]
  exact eqvAll_ints xs ys
theorem ok_ints (xs : List Int) : okD (.lst (xs.map .int)) = true := by
  simp [okN, List.all_map, List.all_eq_true]
theorem ok_intsT (xs : List Int) : okD (.tup (xs.map .int)) = true := by
  simp [okN, List.all_map, List.all_eq_true]
section
variable {X : Cx} {R : Reg} {G : List Sl} {pos : Pos} {k : Kt}
/-! ### more operations -/
theorem w_catL {xs ys : List Dt} {P : Dt → Prop} (hl : xs.length + ys.length ≤ 100000) (p : P (.lst (xs ++ ys))) : W2 X R (binaryOp .Add) (.lst xs) (.lst ys) P := fun F H x y Q w rx ry c => by
  obtain ⟨a, vs, rfl, h1, r1⟩ := rp_lst.mp rx
  obtain ⟨b, ws, rfl, h2, r2⟩ := rp_lst.mp ry
  exact opOf.of op_cat ⟨a, b, vs, ws, rfl, rfl, w.fh _ _ h1, w.fh _ _ h2, by rw [← r1.length, ← r2.length]; exact Nat.le_trans hl (by decide), fun q hq => c _ _ _ _ (w.made hq) (rp_lst_new (w.fh.free hq) (r1.append r2)) p⟩
theorem wc_list_lst {xs : List Dt} {P : Dt → Prop} (p : P (.lst xs)) : WC X R (.type "list") [.lst xs] P := fun F H vs Q w r c => by
  obtain ⟨v, rfl, r1⟩ := r.one
  obtain ⟨a, ws, rfl, h1, rl⟩ := rp_lst.mp r1
  exact crOf.of call_list_of ⟨a, ws, rfl, .inl (SqL.of (w.fh _ _ h1)), fun q hq => c _ _ _ _ (w.made hq) (rp_lst_new (w.fh.free hq) rl) p⟩
theorem wc_tuple_lst {xs : List Dt} {P : Dt → Prop} (p : P (.tup xs)) : WC X R (.type "tuple") [.lst xs] P := fun F H vs Q w r c => by
  obtain ⟨v, rfl, r1⟩ := r.one
  obtain ⟨a, ws, rfl, h1, rl⟩ := rp_lst.mp r1
  exact crOf.of call_tuple_of ⟨a, ws, rfl, .inl ⟨SqL.of (w.fh _ _ h1), fun q hq => c _ _ _ _ (w.made hq) (rp_tup_new (w.fh.free hq) rl) p⟩⟩
theorem wc_tuple_tup {xs : List Dt} {P : Dt → Prop} (p : P (.tup xs)) : WC X R (.type "tuple") [.tup xs] P := fun F H vs Q w r c => by
  obtain ⟨v, rfl, r1⟩ := r.one
  obtain ⟨a, ws, rfl, h1, rl⟩ := rp_tup.mp r1
  exact crOf.of call_tuple_of ⟨a, ws, rfl, .inr ⟨sq_t w.fh h1, c.here w r1 p⟩⟩
theorem RpL.bools {K : PySem.W.Frag} {F : Hp} : ∀ {ns : List Bool} {vs : List V}, RpL K F (ns.map Dt.bl) vs → vs = ns.map V.bl
  | [], _, h => h.of_nil
  | n :: ns, _, h => by
    obtain ⟨v, r, rfl, h1, h2⟩ := h.of_cons
    rw [rp_bl.mp h1, RpL.bools h2]
    rfl
theorem wc_any {bs : List Bool} {P : Dt → Prop} (hc : X.calm = true) (p : P (.bl (bs.any id))) : WC X R (.builtin "any") [.lst (bs.map .bl)] P := fun F H xs Q w r c => by
  obtain ⟨v, rfl, r1⟩ := r.one
  obtain ⟨a, ws, rfl, h1, rl⟩ := rp_lst.mp r1
  have e := rl.bools
  subst e
  exact crOf.of (cr_any hc) ⟨a, bs, rfl, SqL.of (w.fh _ _ h1), c.here w (rp_bl.mpr rfl) p⟩
theorem log9 {n : Int} {k : Nat} (h : 0 < n) (hb : n.natAbs < 2 ^ k) (h0 : 0 < k) (hk : k ≤ 9000) : 0 < n ∧ n.natAbs.log2 < 9000 := ⟨h, Nat.lt_of_lt_of_le (PySem.Flt.log2_lt_of h0 hb) hk⟩
theorem wc_len_str {z : Str} {P : Dt → Prop} (hz : z.length ≤ sizeLine) (p : P (.int (z.length : Int))) : WC X R (.builtin "len") [.str z] P := fun F H xs Q w r c => by
  obtain ⟨v, rfl, h1⟩ := r.one
  rw [rp_str.mp h1]
  exact crOf.of call_len_str ⟨z, rfl, hz, c.here w (rp_int.mpr rfl) p⟩
theorem w_addS {y z : Str} {P : Dt → Prop} (h : y.length + z.length ≤ sizeLine) (p : P (.str (y ++ z))) : W2 X R (binaryOp .Add) (.str y) (.str z) P := fun F H a b Q w rx ry c => by
  rw [rp_str.mp rx, rp_str.mp ry]
  exact opOf.of op_add_str ⟨y, z, rfl, rfl, h, c.here w (rp_str.mpr rfl) p⟩
end
end VS
set_option Elab.async false
set_option linter.all false
set_option maxRecDepth 100000
namespace VS
open PySem PySem.Spec L2

/-! ### defs with a star parameter -/
/-- def f(*v) -/
def spSt (K : PySem.W.Frag) (φ : Ph) : Sp := fun vs H Q E => vs.length ≤ sizeLine ∧ ∀ p, H p = none → spD K 1 φ [.ref p] (upd H p (.tup vs)) Q E
structure FnS (P : Program) (w : World) (K : PySem.W.Frag) (mg : Str → Option Value) (base : Heap) (k : Nat) (x : Str) (φ : Ph) : Prop where
  ex : ∃ f : Addr, mg x = some (.ref f) ∧ PySem.W.keepIn K (.ref f) = true ∧ FnR P w K mg base (L2N.CX P w) k f (spSt K φ)
section
variable {X : Cx} {R : Reg} {G : List Sl} {pos : Pos} {k : Kt}
theorem pe_callR {CX : CXT} {j : Nat} {f : Addr} {sp : Sp} {E : XK} {x : Str} {e : Expr} {es : List Expr} {t : TA} {p : Pos} (F : FnR X.prog X.w X.K X.mg X.base CX j f sp) (hr : Room j X.A) (hg : Gl X x) (hm : X.mg x = some (.ref f)) (hk : PySem.W.keepIn X.K (.ref f) = true) (hx : Passes CX X E)
    (ha : PA X (e :: es) t) (hdb : (x == ("__debug__" : Str)) = false := by decide) (he : starEach (e :: es) X.env = (false, eval e X.env) :: starEach es X.env := by rfl) (hpl : (backTo pos (starEach es X.env)).any (·.1) = false := by rfl) :
    PE X (.Call (.Name x p) (e :: es) [] pos) (fun σ H Q => t σ H fun vs H1 => sp vs H1 Q E) := by
  refine ⟨fun pins s σ H Q I h => ?_⟩
  refine wpAny_Call_Name_kw (ld_glob I hg hm ?_ hdb)
  refine PySem.W.callWith_K (h₀ := X.base) I.ok.mod.kin hk (thn (ha.run pos pins s σ H _ I h) fun us s1 ⟨vs, H1, I1, r, q⟩ => ⟨I1.kIn, ?_⟩) he hpl
  exact wpAny_call (run_fnR F hr hx I1 r q)
end
section
variable {P : Program} {w : World} {K : PySem.W.Frag} {mg : Str → Option Value} {base : Heap}
end
end VS
set_option Elab.async false
set_option linter.all false
set_option maxRecDepth 100000
/-! Fractions in lowest terms, in plain Lean. -/
namespace VS
open PySem PySem.Spec L2

def gcdS (n d : Int) : Int := if d < 0 then -(Int.gcd n d : Int) else (Int.gcd n d : Int)
def mkR (n d : Int) : Int × Int := (n.fdiv (gcdS n d), d.fdiv (gcdS n d))
def IsR (r : Int × Int) : Prop := 1 ≤ r.2 ∧ Int.gcd r.1 r.2 = 1
def ratD (r : Int × Int) : Dt := .tup [.int r.1, .int r.2]
theorem gcdS_ne {n d : Int} (hd : d ≠ 0) : gcdS n d ≠ 0 := by
  have h : 0 < Int.gcd n d := Int.gcd_pos_of_ne_zero_right n hd
  unfold gcdS
  split <;> omega
theorem gcdS_abs (n d : Int) : (gcdS n d).natAbs = Int.gcd n d := by
  unfold gcdS
  split <;> omega
theorem mkR_ex {n d : Int} (hd : d ≠ 0) : ∃ k l : Int, n = gcdS n d * k ∧ d = gcdS n d * l ∧ mkR n d = (k, l) := by
  have h1 : gcdS n d ∣ n := by
    have : (Int.gcd n d : Int) ∣ n := Int.gcd_dvd_left n d
    unfold gcdS
    split
    · exact (Int.neg_dvd).mpr this
    · exact this
  have h2 : gcdS n d ∣ d := by
    have : (Int.gcd n d : Int) ∣ d := Int.gcd_dvd_right n d
    unfold gcdS
    split
    · exact (Int.neg_dvd).mpr this
    · exact this
  obtain ⟨k, hk⟩ := h1
  obtain ⟨l, hl⟩ := h2
  refine ⟨k, l, hk, hl, ?_⟩
  have hg := gcdS_ne (n := n) hd
  unfold mkR
  generalize gcdS n d = g at *
  rw [hk, hl, Int.mul_fdiv_cancel_left k hg, Int.mul_fdiv_cancel_left l hg]
theorem mkR_spec {n d : Int} (hd : d ≠ 0) : IsR (mkR n d) ∧ (mkR n d).1 * d = n * (mkR n d).2 := by
  obtain ⟨k, l, hk, hl, e⟩ := mkR_ex (n := n) hd
  rw [e]
  have hg := gcdS_ne (n := n) hd
  have ha := gcdS_abs n d
  have hs : (gcdS n d < 0 ∧ d < 0) ∨ (0 < gcdS n d ∧ 0 < d) := by
    have h : 0 < Int.gcd n d := Int.gcd_pos_of_ne_zero_right n hd
    by_cases q : d < 0
    · left; unfold gcdS; rw [if_pos q]; omega
    · right; unfold gcdS; rw [if_neg q]; omega
  generalize hG : gcdS n d = g at *
  refine ⟨⟨?_, ?_⟩, ?_⟩
  · show 1 ≤ l
    rcases hs with ⟨h1, h2⟩ | ⟨h1, h2⟩
    · have : 0 < l := by
        rcases Int.lt_trichotomy l 0 with h | h | h
        · have := Int.mul_pos_of_neg_of_neg h1 h
          omega
        · rw [h, Int.mul_zero] at hl; omega
        · exact h
      omega
    · have : 0 < l := by
        rcases Int.lt_trichotomy l 0 with h | h | h
        · have := Int.mul_neg_of_pos_of_neg h1 h
          omega
        · rw [h, Int.mul_zero] at hl; omega
        · exact h
      omega
  · show Int.gcd k l = 1
    have e1 : Int.gcd n d = Int.gcd (g * k) (g * l) := by rw [← hk, ← hl]
    rw [Int.gcd_mul_left] at e1
    rw [ha] at e1
    have h : 0 < Int.gcd n d := Int.gcd_pos_of_ne_zero_right n hd
    have e2 : Int.gcd n d * 1 = Int.gcd n d * Int.gcd k l := by rw [Nat.mul_one]; exact e1
    exact (Nat.eq_of_mul_eq_mul_left h e2).symm
  · show k * d = n * l
    have : k * (g * l) = g * k * l := by rw [← Int.mul_assoc, Int.mul_comm k g]
    rw [← hl, ← hk] at this
    exact this
theorem mkR_le2 {n d : Int} (hd : d ≠ 0) : (mkR n d).2.natAbs ≤ d.natAbs := by
  obtain ⟨k, l, hk, hl, e⟩ := mkR_ex (n := n) hd
  rw [e]
  have hg := gcdS_ne (n := n) hd
  have : d.natAbs = (gcdS n d).natAbs * l.natAbs := by rw [← Int.natAbs_mul, ← hl]
  rw [this]
  exact Nat.le_mul_of_pos_left _ (by omega)
theorem sz_up {a b : Nat} {i : Int} (ha : i.natAbs < 2 ^ a) (h : a ≤ b) : i.natAbs < 2 ^ b := Nat.lt_of_lt_of_le ha (Nat.pow_le_pow_right (by decide) h)
def addR (t u : Int × Int) : Int × Int := mkR (t.1 * u.2 + u.1 * t.2) (t.2 * u.2)
def sumR (ts : List (Int × Int)) : Int × Int := ts.foldl addR (0, 1)
/-- a fraction below 2 ^ B -/
def SzR (B : Nat) (r : Int × Int) : Prop := r.1.natAbs < 2 ^ B ∧ r.2.natAbs < 2 ^ B
def mulR (t u : Int × Int) : Int × Int := mkR (t.1 * u.1) (t.2 * u.2)
def prodR (ts : List (Int × Int)) : Int × Int := ts.foldl mulR (1, 1)
/-- the sum with no lowering -/
def ndA (s t : Int × Int) : Int × Int := (s.1 * t.2 + t.1 * s.2, s.2 * t.2)
def ndM (s t : Int × Int) : Int × Int := (s.1 * t.1, s.2 * t.2)
theorem eqD_rat (a b : Int × Int) : eqD (ratD a) (ratD b) = decide (a = b) := by
  have h := eqD_intsT [a.1, a.2] [b.1, b.2]
  have e : ([a.1, a.2] = [b.1, b.2]) ↔ a = b := by
    constructor
    · intro h
      injection h with h1 h2
      injection h2 with h2 _
      exact Prod.ext h1 h2
    · rintro rfl; rfl
  rw [decide_eq_decide.mpr e] at h
  exact h
def ph_gcd : Ph := fun ds q _ => ∃ a b, ds = [.int a, .int b] ∧ q (.int (Int.gcd a b : Nat))
theorem u_gcd {a b : Int} {q : Dt → Prop} {x : XD} (_ : True) (p : q (.int (Int.gcd a b : Nat))) : ph_gcd [.int a, .int b] q x := ⟨a, b, rfl, p⟩
theorem gcd_logG {n d : Int} (hd : d ≠ 0) (h : Int.gcd n d < 2 ^ 8999) : CDivA n (gcdS n d) ∧ CDivA d (gcdS n d) := by
  have hg := gcdS_ne (n := n) hd
  have ha := gcdS_abs n d
  have l : (gcdS n d).natAbs.log2 < 9000 := Nat.lt_of_lt_of_le (PySem.Flt.log2_lt_of (k := 8999) (by decide) (by rw [ha]; exact h)) (by decide)
  exact ⟨⟨hg, l⟩, ⟨hg, l⟩⟩
def ph_ratio : Ph := fun ds q _ => ∃ n d : Int, ds = [.int n, .int d] ∧ (d ≠ 0 ∧ Int.gcd n d < 2 ^ 8999) ∧ q (ratD (mkR n d))
theorem u_ratioG {n d : Int} {q : Dt → Prop} {x : XD} (h : d ≠ 0 ∧ Int.gcd n d < 2 ^ 8999) (p : q (ratD (mkR n d))) : ph_ratio [.int n, .int d] q x := ⟨n, d, rfl, h, p⟩
theorem u_ratio {n d : Int} {q : Dt → Prop} {x : XD} (h : d ≠ 0 ∧ d.natAbs < 2 ^ 8999) (p : q (ratD (mkR n d))) : ph_ratio [.int n, .int d] q x := u_ratioG ⟨h.1, Nat.lt_of_le_of_lt (Int.gcd_le_natAbs_right n h.1) h.2⟩ p
end VS
set_option Elab.async false
set_option linter.all false
set_option maxRecDepth 100000
set_option maxHeartbeats 2000000
/-! own error classes: super().__init__(text) in their __init__, raise, try .. except .. as e -/
namespace VS
open PySem PySem.Spec L2

/-! ### the __init__ -/
/-- what K says of an own error class and its __init__ -/
structure IniD (P : Program) (K : PySem.W.Frag) (C fI : Addr) (qual : Str) (params : Arguments) (body : List Stmt) (scope : Scope) (fd : FuncData) : Prop where
  oc : OexC K C
  iC : PySem.W.findIn K (.ref C) "__init__" = some (some (.ref fI))
  tI : PySem.W.typeIn K (.ref fI) = some (.type "function")
  fn : ∃ (oc : Value) (od : Option Addr) (kV doc pm : Value) (an : Option Addr) (ct : Value) (osl : Array (Option Value)) (cda cc : Addr),
    fd = PySem.W.ksFn "__init__" qual params body scope .none kV doc pm an (.ref cda) ct cc ∧ K.lookup fI = some ⟨oc, od, .func fd, osl⟩ ∧ PySem.W.codeIn K (.ref cda) qual = true ∧
    (∃ ccl cdd vs ccs file tf, K.lookup cda = some ⟨ccl, cdd, .fields vs, ccs⟩ ∧ vs[2]? = some (.str file tf) ∧ ((P.main.file : Str) == file) = true) ∧ ∃ cl cld csl, K.lookup cc = some ⟨cl, cld, .cell (some (.ref C)), csl⟩
  cD : ∃ cd, PySem.W.clsIn K C = some cd
  sub : PySem.W.mroIn K C (.ref C) = some true
  any : PySem.W.nsIn K cStatics "thirdparty.any" = some none
  si : PySem.W.ks_superIn K C C "__init__" = some (some (.builtin "ValueError.__init__"))
  sV : PySem.W.subIn K (.ref C) (.type "ValueError") = some true
/-- self, value: the one field f is laid -/
def spI1 (C : Addr) (f : Str) : Sp := fun vs H Q _ => ∃ a y, vs = [.ref a, y] ∧ H a = some (exo a C none) ∧ ∀ dx, H dx = none → dx ≠ a → Q .non (upd (upd H dx (exd dx [(f, y)])) a (exo a C (some dx)))
section
variable {P : Program} {w : World} {K : PySem.W.Frag} {mg : Str → Option Value} {base : Heap}
theorem init_run {CX : CXT} {C fI : Addr} {qual : Str} {params : Arguments} {scope : Scope} {fd : FuncData} {ps N : List Str} {k : Nat} {sp : Sp} {rest : List Stmt} {txt : Str} {p0 p1 p2 p3 p4 p5 : Pos} {j0 : Nat} {ar : Arg}
    {body : List Stmt} (hbody : body = .Expr (.Call (.Attribute (.Call (.Name "super" p0) [] [] p1) "__init__" p2) [.Constant (.str txt) j0 p3] [] p4) p5 :: rest)
    (D : IniD P K C fI qual params body scope fd) (hsup : mg "super" = none) (htop : (P.main.scope.names.lookup ("super" : Str)).isSome = false)
    (Sc : NdefX.NScope N ps ["__class__"] scope) (hks : scope.names.lookup ("super" : Str) = some .globalImplicit) (har : (params.posonlyargs ++ params.args).head? = some ar) (hps : ps.head? = some ar.arg)
    (hev : ∀ env : Env, env.scope = scope → ∃ pl : Sem Bool, eval (.Call (.Attribute (.Call (.Name "super" p0) [] [] p1) "__init__" p2) [.Constant (.str txt) j0 p3] [] p4) env = (do
      let ov ← attributeBase (.Call (.Name "super" p0) [] [] p1) "__init__" env (eval (.Call (.Name "super" p0) [] [] p1) env)
      standAt p2.atName
      let (f, first) ← holding [ov] (getMethod ov "__init__" pl)
      callWith p4 f first (backTo p4 (starEach [.Constant (.str txt) j0 p3] env)) []))
    (hsw : ∀ env : Env, env.scope = scope → swapsWith (.Call (.Attribute (.Call (.Name "super" p0) [] [] p1) "__init__" p2) [.Constant (.str txt) j0 p3] [] p4) none p5.line env = pure false)
    (len : ∀ vs H Q E, sp vs H Q E → vs.length = ps.length)
    (hself : ∀ vs H Q E, sp vs H Q E → ∃ a r, vs = .ref a :: r ∧ H a = some (exo a C none))
    (hrest : ∀ (X : Cx) (H : Hp) (vs : List V) (Q : VK) (E : XK), X.prog = P → X.w = w → X.K = K → X.N = N → X.env.scope = scope → sp vs H Q E → ∃ t, PSs X rest t ∧ t { nx := fun _ H' => Q .non H', rt := Q } (NdefX.startF N vs [none]) H) :
    FnOk P w K mg base CX (k + 1) fI fd ps sp := by
  subst hbody
  refine ⟨len, fun A outer s H args us vs Q E hr e0 hb r hsp => ?_⟩
  obtain ⟨oc, od, kV, doc, pm, an, ct, osl, cda, cc, rfl, lk, hcd, ⟨ccl, cdd, cvs, ccs, file, tf, lcd, hvs, hfile⟩, cl, cld, csl, lcc⟩ := D.fn
  have kpB : ∀ b o, base.get? b = some o → s.heap.get? b = some o := fun b o e => (e0.bs b o e).1
  have KX : K.In s.heap := e0.mod.kin.keeps kpB
  have lim : s.heap.NoLimit := e0.mod.nolimit.keeps kpB
  have hl := len _ _ _ _ hsp
  obtain ⟨a, vr, hvs1, ha⟩ := hself _ _ _ _ hsp
  have hlu : us.length = ps.length := by rw [← r.length]; exact hl
  refine PySem.ks_codeAny_call_defAt (binds := ps.zip us) (body := _) hr.depth (KX _ _ lk) rfl lim (PySem.W.codeRec_of KX hcd) rfl hb Sc.nocell (fun x hx => Sc.par _ (List.of_mem_zip hx).1) (fun h₁ hns kp => ?_) Sc.co Sc.gen Sc.kind
  have hH : H cc = none := (e0.bs _ _ (e0.mod.kin _ _ lcc)).2
  have cellC : s.heap.IsCell cc (some (.ref C)) := ⟨_, KX _ _ lcc, rfl⟩
  have CA : NdefX.CellsAt [("__class__", cc)] ["__class__"] [none] s.heap H := by
    have key : ∀ y c, ([("__class__", cc)] : List (Str × Addr)).lookup y = some c → y = "__class__" ∧ c = cc := fun y c e => by
      rw [List.lookup_cons] at e
      split at e
      · rename_i h
        exact ⟨eq_of_beq h, (Option.some.inj e).symm⟩
      · cases e
    refine ⟨rfl, fun y c e => ?_, fun x y c e1 e2 => (key _ _ e1).1.trans (key _ _ e2).1.symm, fun i y e => ?_⟩
    · obtain ⟨_, rfl⟩ := key y c e
      exact ⟨hH, _, cellC⟩
    · cases i with
      | zero =>
        cases e
        exact ⟨cc, rfl, fun v z => by cases z⟩
      | succ i => cases e
  have I0 := NdefX.inv_startN (CX := CX) (F := ⟨"__init__", qual, params, [], scope, [("__class__", cc)], cda⟩) (f := fI) (tk := s.toks + (ps.zip us).length) (E := E) Sc hr.hd e0 hl r CA hns kp
  obtain ⟨t, ht, hq⟩ := hrest (NdefX.ncx CX P w K mg base N ⟨"__init__", qual, params, [], scope, [("__class__", cc)], cda⟩ fI A outer s H E) H vs Q E rfl rfl rfl rfl rfl hsp
  obtain ⟨t1, ho⟩ := exo_at I0.hok ha
  have KX1 : K.In h₁ := KX.keeps kp
  obtain ⟨cdC, hcC⟩ := D.cD
  obtain ⟨oC, hC1, hC2⟩ : ∃ oC, h₁.get? C = some oC ∧ oC.data = .cls cdC := by
    have hD := hcC
    unfold PySem.W.clsIn at hD
    split at hD
    · rename_i c d cd' sl ho
      cases hD
      exact ⟨_, KX1 _ _ ho, rfl⟩
    · cases hD
  have IA : PySem.W.InstAt h₁ a { cls := .ref C, dict := none, data := .fields #[.ref t1, .none, .none, .none, .bool false, .none] } C none := ⟨ho, rfl, rfl, trivial⟩
  have hmself : (ps.zip us).reverse.lookup ar.arg = some (.ref a) := by
    subst hvs1
    cases r with
    | @cons _ u0 _ ur ra rw' =>
      obtain rfl : u0 = Value.ref a := ra
      obtain ⟨p0', pr, rfl⟩ : ∃ p0' pr, ps = p0' :: pr := by
        cases ps with
        | nil => cases hps
        | cons x y => exact ⟨x, y, rfl⟩
      have e : p0' = ar.arg := Option.some.inj hps
      subst e
      have ndP : (ar.arg :: pr).Nodup := by
        have q := Sc.nd.sublist (List.take_sublist ((ar.arg :: pr).length + 1) N)
        have e2 : N.take ((ar.arg :: pr).length + 1) = (ar.arg :: pr) ++ ([("__class__" : Str)] : List Str) := Sc.pre
        rw [e2] at q
        exact (List.nodup_append.mp q).1
      exact NdefX.zip_look (i := 0) ndP rfl rfl
  obtain ⟨pl, hpl⟩ := hev (PySem.W.ksEnv qual scope s.heap.objs.size fI (.ref cda) cc) rfl
  refine PySem.ks_wpAt_execs_cons (PySem.ks_wpAt_Expr_any (PySem.ks_wpAt_MethodCall (pl := pl) ?_ hpl) (by show (scope.kind == .module && _) = false; rw [Sc.kind]; rfl) (hsw _ rfl))
  have hkc : scope.names.lookup ("__class__" : Str) = some .free := Sc.frk _ (List.mem_singleton.mpr rfl)
  have hka : scope.names.lookup ar.arg = some .local := Sc.par _ (List.mem_of_head? hps)
  refine PySem.ks_wpAt_super_base hks hkc (by decide) rfl (KX1 _ _ lk) rfl har rfl (KX1 _ _ lcd) rfl hvs hfile htop ?_
  obtain ⟨mb, hb1, hb2⟩ := e0.mod.blt
  have kpB1 : ∀ b o, base.get? b = some o → h₁.get? b = some o := fun b o e => kp b o (kpB b o e)
  refine PySem.W.ks_loadName_global Sc.kind hks (Calls.loadGlobal_builtin (e0.mod.glob.keeps kpB1) hsup (hb1.keeps kpB1) ((hb2 _ (by decide)).trans PyProof.Rows.Boot.«super») ⟨rfl, ?_⟩)
  refine wpAny_loadName_free Sc.kind hkc rfl (cellC.keeps kp) ?_
  refine wpAny_loadName_local Sc.kind hka hns hmself ?_
  refine PySem.ks_wpAny_isType_cls hC1 hC2 ⟨rfl, ?_⟩
  refine PySem.ks_wpAny_call_super hC1 hC2 ho rfl (fun c e => by cases e) (PySem.W.looks_mroIn KX1 D.sub) (fun h2 hso kp2 => ?_)
  have KX2 : K.In h2 := KX1.keeps kp2
  have ho2 := kp2 _ _ ho
  have hne : a ≠ C := fun z => by
    rw [z, hC1] at ho
    cases ho
    cases hC2
  refine PySem.W.kxs_getMethod PySem.W.kxs_ValueError hso (PySem.W.looks_opaque KX2 D.any) (l₀ := cdC.mro) ((PySem.W.looks_clsIn KX2 hcC).andThen .now) rfl KX2 (by
    have q := D.si
    unfold PySem.W.ks_superIn at q
    rw [hcC] at q
    exact q) ((show PySem.W.InstAt h2 a { cls := .ref C, dict := none, data := .fields #[.ref t1, .none, .none, .none, .bool false, .none] } C none from ⟨ho2, rfl, rfl, trivial⟩).type.andThen (PySem.W.looks_subIn KX2 D.sV)) hne (by decide) ?_
  have sz12 : h₁.objs.size < h2.objs.size := Heap.lt_size hso
  have szL : s.heap.objs.size < h₁.objs.size := by
    obtain ⟨oL, _, _, e, _⟩ := hns
    exact Heap.lt_size e
  have kp3 : ∀ b o, h₁.get? b = some o → (h2.push (PySem.W.kxs_mw "ValueError.__init__" a)).get? b = some o := fun b o e => Heap.get?_push_of_some _ (kp2 b o e)
  have ho3 := kp3 _ _ ho
  have eu : upd H a (exo a C none) = H := by
    funext b
    by_cases hb : b = a
    · rw [hb, upd_same, ha]
    · rw [upd_ne hb]
  have I3 := I0.write (t' := s.toks + (ps.zip us).length + 1) (x := a) (e := a) (o := exo a C none) (h' := h2.push (PySem.W.kxs_mw "ValueError.__init__" a)) (by rw [ha]; exact True.intro) (.inl rfl) (fun b u _ e => kp3 b u e) ⟨_, ho3⟩ (exo_ok ho3)
  rw [eu] at I3
  have I4 := I3.pins_of (pins' := [(h2.objs.size, PySem.W.kxs_mw "ValueError.__init__" a)]) (fun p hp => by
    rw [List.mem_singleton] at hp
    subst hp
    refine ⟨Heap.get?_push_size _ rfl, I0.hok.fresh (Nat.le_of_lt sz12), ?_, ?_, fun v => by intro z; cases z⟩
    · intro z
      have z : h2.objs.size = s.heap.objs.size := z
      omega
    · intro z
      obtain ⟨_, o, ho', _⟩ := e0.funs.mem z
      have q : h2.objs.size < s.heap.objs.size := Heap.lt_size ho'
      omega)
  refine PySem.W.kxs_callWith (i := "ValueError.__init__") (x := a) rfl (PySem.Calls.evalArgs_plain (thn ((pa_cons pe_str pa_nil).run p4 [(h2.objs.size, PySem.W.kxs_mw "ValueError.__init__" a)] _ (NdefX.startF N vs [none]) H (fun vs' H1 => H1 = H ∧ vs'.length ≤ 10) I4 ⟨rfl, Nat.le_of_ble_eq_true rfl⟩) fun us' s1 hap => ?_))
  obtain ⟨vs', H1, I5, rv, hH1, hlen⟩ := hap
  subst hH1
  have hu := (I5.pin _ (List.mem_append_right _ (List.mem_singleton.mpr rfl))).1
  refine ⟨hu, ?_⟩
  obtain ⟨t5, ho5⟩ := exo_at I5.hok ha
  obtain ⟨nm, q0, N0, bs, bm, sn, sub, ab, col, dd, k0, k1, k2, k3, k5, lC, hbm⟩ := D.oc.cls
  have hCC := I5.kIn _ _ lC
  have hlus : us'.length ≤ sizeLine := by rw [← rv.length, sizeLine_eq]; omega
  obtain ⟨hp, g5, d5, tk5, os5⟩ := s1
  refine wpAny_call (codeAny_of_tree ?_)
  show wpAny _ _ (callAny (.ref h2.objs.size) ⟨[] ++ us', []⟩) _ _ _
  simp only [callAny, List.nil_append]
  refine wpAny_bind (wpAny_load hu ?_)
  simp only [PySem.W.kxs_mw, show (Value.type "method-wrapper" == Value.type "method" || Value.type "method-wrapper" == Value.type "builtin_function_or_method" || Value.type "method-wrapper" == Value.type "method-wrapper") = true by decide, if_true]
  refine PySem.W.KFB.if_so (by decide) ?_
  refine wpAny_bind (PySem.W.check_bound_init F.excBase_ValueError.toExcCallFacts hCC ho5 rfl ?_)
  refine wpAny_bind (wpAny_pure (wpAny_pure ?_))
  refine ⟨plainId_quiet F.excBase_ValueError.init.plain _, codeAny_builtin F.excBase_ValueError.initEntry ?_⟩
  refine PySem.W.exc_init_tree (cls := .ref C) (t0 := t5) (dv := none) (c2 := .none) (c3 := .none) (b4 := .bool false) ho5 hlus (fun h' k6 e6 _ => ?_)
  have J := I5.write (t' := tk5) (x := a) (e := a) (o := exo a C none) (h' := h') (by rw [ha]; exact True.intro) (.inl rfl) (fun b u hb e => k6 b u hb e) ⟨_, e6⟩ (exo_ok e6)
  rw [eu] at J
  refine wpAt_of_wpAny (wpAny_mono (ht.run _ _ _ _ _ J hq) (fun fl s' hs => ?_) fun e s' hs => hs)
  cases fl with
  | ret u =>
    obtain ⟨v, σ', H', J', rv', q'⟩ := hs
    exact ⟨v, H', J'.os, J'.bare, J'.base, J'.hok, rv', q'⟩
  | next =>
    obtain ⟨σ', H', J', q'⟩ := hs
    exact ⟨V.non, H', J'.os, J'.bare, J'.base, J'.hok, rfl, q'⟩
  | brk =>
    obtain ⟨_, _, _, q'⟩ := hs
    exact False.elim q'
  | cont =>
    obtain ⟨_, _, _, q'⟩ := hs
    exact False.elim q'
/-- __init__(self, v): super().__init__(text); self.f = v -/
theorem init_ok1 {CX : CXT} {C fI : Addr} {qual : Str} {params : Arguments} {scope : Scope} {fd : FuncData} {k : Nat} {f v : Str} {txt : Str} {p0 p1 p2 p3 p4 p5 r0 r1 r2 r3 : Pos} {j0 : Nat} {ar : Arg}
    {body : List Stmt} (hbody : body = [.Expr (.Call (.Attribute (.Call (.Name "super" p0) [] [] p1) "__init__" p2) [.Constant (.str txt) j0 p3] [] p4) p5, .Assign [.Attribute (.Name "self" r0) f r1] (.Name v r2) r3])
    (D : IniD P K C fI qual params body scope fd) (hf : PySem.W.findIn K (.ref C) f = some none) (hsup : mg "super" = none) (htop : (P.main.scope.names.lookup ("super" : Str)).isSome = false)
    (Sc : NdefX.NScope ["self", v, "__class__"] ["self", v] ["__class__"] scope) (hks : scope.names.lookup ("super" : Str) = some .globalImplicit) (har : (params.posonlyargs ++ params.args).head? = some ar) (hps : ar.arg = "self")
    (hev : ∀ env : Env, env.scope = scope → ∃ pl : Sem Bool, eval (.Call (.Attribute (.Call (.Name "super" p0) [] [] p1) "__init__" p2) [.Constant (.str txt) j0 p3] [] p4) env = (do
      let ov ← attributeBase (.Call (.Name "super" p0) [] [] p1) "__init__" env (eval (.Call (.Name "super" p0) [] [] p1) env)
      standAt p2.atName
      let (f, first) ← holding [ov] (getMethod ov "__init__" pl)
      callWith p4 f first (backTo p4 (starEach [.Constant (.str txt) j0 p3] env)) []))
    (hsw : ∀ env : Env, env.scope = scope → swapsWith (.Call (.Attribute (.Call (.Name "super" p0) [] [] p1) "__init__" p2) [.Constant (.str txt) j0 p3] [] p4) none p5.line env = pure false)
    (hsw2 : ∀ env : Env, env.scope = scope → swapsWith (.Name v r2) (some (.Attribute (.Name "self" r0) f r1)) r3.line env = pure false)
    (hdv : (v == ("__debug__" : Str)) = false) (hcv : (v == ("__classdict__" : Str)) = false) : FnOk P w K mg base CX (k + 1) fI fd ["self", v] (spI1 C f) := by
  refine init_run hbody D hsup htop Sc hks har (by rw [hps]; rfl) hev hsw (fun vs H Q E ⟨a, y, e, _⟩ => by rw [e]; rfl) (fun vs H Q E ⟨a, y, e, h, _⟩ => ⟨a, [y], e, h⟩) fun X H vs Q E e1 e2 e3 e4 e5 ⟨a, y, ev, ha, hq⟩ => ?_
  subst ev
  refine ⟨_, pss_one (ps_ost (pe_var (i := 0) (x := "self") (by rw [e4]; rfl) (.inl (by rw [e5]; exact Sc.par _ (by simp)))) (pe_var (i := 1) (x := v) (by rw [e4]; rfl) (.inl (by rw [e5]; exact Sc.par _ (by simp))) hdv hcv) (hsw2 _ e5)), ?_⟩
  refine ⟨y, rfl, .ref a, rfl, a, C, rfl, by rw [e3]; exact D.oc, by rw [e3]; exact hf, .inl ⟨ha, fun dx hd hn => hq dx hd hn⟩⟩
end
end VS
set_option Elab.async false
set_option linter.all false
set_option maxRecDepth 100000
set_option maxHeartbeats 2000000
namespace VS
open PySem PySem.Spec L2

/-! ### a region with a word on errors -/
/-- how the error's own fields lie -/
def XDat (K : PySem.W.Frag) (R : Reg) (H0 F H : Hp) (ns : List Str) (ds : List Dt) (d : Option Addr) : Prop :=
  (∃ dx vs, d = some dx ∧ H0 dx = none ∧ ¬ R.M dx ∧ H dx = some (.xd (ns.zip vs)) ∧ ns.length = vs.length ∧ RpL K F ds vs) ∨ (d = none ∧ ns = [] ∧ ds = [])
/-- from the base F0, H0 on: an error that xq allows at the slots G is taken -/
def XKOk (K : PySem.W.Frag) (R : Reg) (F0 H0 : Hp) (xq : List Sl → XD) (W : WX) : Prop :=
  ∀ G σ F H C ns ds d, xq G C ns ds → Ty K R G σ F H → Ext R F0 H0 F H → (∀ o ∈ owns G σ, H0 o = none) → XDat K R H0 F H ns ds d → W (.ref C) d σ H
def Reg.wX (R : Reg) (K : PySem.W.Frag) (xq : List Sl → XD) (W : WX) : Reg := { R with
  Z := fun F0 H0 => XKOk K R F0 H0 xq W
  zs := fun F H F' ff fr z G σ F1 H1 C ns ds d hx ty ex fo dat => z G σ F1 H1 C ns ds d hx ty ⟨ex.wf, ff.trans ex.ff, ex.hh, fun a h n => ex.fr a h (fr a h n)⟩ fo dat }
section
variable {R : Reg} {K : PySem.W.Frag} {xq : List Sl → XD} {W : WX} {F H F' H' : Hp} {G : List Sl} {σ : St}
theorem Wf.un (w : Wf (R.wX K xq W) F H) : Wf R F H := ⟨w.fh, w.off, w.oc, w.b⟩
theorem Wf.wX (w : Wf R F H) : Wf (R.wX K xq W) F H := ⟨w.fh, w.off, w.oc, w.b⟩
theorem Ext.un (e : Ext (R.wX K xq W) F H F' H') : Ext R F H F' H' := ⟨e.wf.un, e.ff, e.hh, e.fr⟩
theorem SlsOk.un {K' : PySem.W.Frag} {vs : List (Option V)} (h : SlsOk K' (R.wX K xq W) F H G vs) : SlsOk K' R F H G vs := by
  induction h with
  | nil => exact .nil
  | cons h _ ih => exact .cons (by rename_i g v _ _; cases g <;> exact h) ih
theorem Ty.un {K' : PySem.W.Frag} (t : Ty K' (R.wX K xq W) G σ F H) : Ty K' R G σ F H := ⟨t.wf.un, t.sl.un, t.nd⟩
end

/-! ### a def that may raise -/
section
variable {P : Program} {w : World} {K : PySem.W.Frag} {mg : Str → Option Value} {base : Heap}
theorem fn_okE {x qual : Str} {st : Stmt} {f : Addr} {fd : FuncData} {dvs : List V} {kws : List (Str × V)} {N ps : List Str} {k n : Nat} {φ : Ph} (F : FD K x qual st dvs kws f fd) (Sc : FnScope N ps (defScope st)) (hn : n = ps.length)
    (h : ∀ (X : Cx) (cdv : Value) (A : Around) (outer : List Env) (s : Shared) (H : Hp) (E : XK) (ds : List Dt) (q : Dt → Prop) (xd : XD), X = cxOf (L2N.CX P w) P w K mg base N qual (defScope st) f cdv A outer s H E → Room k X.A → φ ds q xd → ds.length = n →
      L2N.Takes X (fun cls d _ H => E cls d H) → S X (Reg.nil.wX K (fun _ => xd) (fun cls d _ H => E cls d H)) (defBody st) (st0 N ds) { nx := fun _ => q .non, rt := q }) : FnOk P w K mg base (L2N.CX P w) (k + 1) f fd ps (spD K n φ) := by
  refine FunD.ok F Sc (fun vs H Q E hh => by rw [hh.1, hn]) fun cdv A outer s H vs Q E hr hh => ?_
  obtain ⟨hl, F0, ds, q, xd, sf, r, hφ, hq, hx⟩ := hh
  have hS := h _ cdv A outer s H E ds q xd rfl hr hφ (by rw [r.length, hl]) (L2N.takes_of rfl rfl rfl rfl)
  refine ⟨_, pss_w, hS F0 H _ F0 H _ ⟨(wf_nil sf).wX, ?_, by unfold st0; rw [owns0]; exact .nil⟩ ⟨.refl (wf_nil sf).wX, (by unfold st0; rw [owns0]; intro o ho; cases ho), ?_⟩ ⟨fun G σ F1 H1 z _ b => hq .non F1 H1 .non b.ext.un (rp_non.mpr rfl) z, fun d v F1 H1 z e rd => hq v F1 H1 d e.un rd z, fun _ _ _ _ z => z.elim, fun _ _ _ _ z => z.elim, fun _ _ _ _ z => z.elim⟩⟩
  · unfold st0 L2.start
    rw [r.length]
    exact sls0 _ r
  · intro G σ F1 H1 C ns ds' d hxd ty ex fo dat
    rcases dat with ⟨dx, vs', rfl, e0, _, e1, e2, e3⟩ | ⟨rfl, rfl, rfl⟩
    · exact hx.1 C ns ds' dx vs' F1 H1 hxd ex e1 e2 e3 e0
    · exact hx.2 C F1 H1 hxd ex
end

/-! ### raise -/
/-- an own error class of one field -/
structure Er (P : Program) (w : World) (K : PySem.W.Frag) (mg : Str → Option Value) (base : Heap) (k : Nat) (x f v : Str) (C : Addr) : Prop where
  gl : mg x = some (.ref C)
  oc : OexC K C
  ini : ∃ fI fd, PySem.W.findIn K (.ref C) "__init__" = some (some (.ref fI)) ∧ PySem.W.typeIn K (.ref fI) = some (.type "function") ∧ Binds K fd ["self", v] [] ∧ FnOk P w K mg base (L2N.CX P w) k fI fd ["self", v] (spI1 C f)
section
variable {X : Cx} {R : Reg} {G : List Sl} {pos : Pos} {k : Kt} {xq : List Sl → XD} {W : WX}
theorem mk_heap {H1 : Hp} {a dx C : Addr} {y : V} {f : Str} (ha : H1 a = none) (hd : dx ≠ a) : upd (del (upd (upd (upd H1 a (exo a C none)) dx (exd dx [(f, y)])) a (exo a C (some dx))) a) dx (.xd [(f, y)]) = upd H1 dx (.xd [(f, y)]) := by
  funext b
  by_cases h1 : b = dx
  · rw [h1, upd_same, upd_same]
  · rw [upd_ne h1, upd_ne h1]
    by_cases h2 : b = a
    · rw [h2, del_same, ha]
    · rw [del_ne h2, upd_ne h2, upd_ne h1, upd_ne h2]
theorem s_raise1 {j : Nat} {x f v : Str} {C : Addr} {e : Expr} {p pos' : Pos} (tk : L2N.Takes X W) (Er1 : Er X.prog X.w X.K X.mg X.base j x f v C) (hr : Room (j + 1) X.A) (hg : Gl X x) (h : EA X (R.wX X.K xq W) G [e] fun ds => ds.length = 1 ∧ xq G C [f] ds)
    (hc : X.calm = true := by rfl) (hdb : (x == ("__debug__" : Str)) = false := by decide) (he : starEach [e] X.env = (false, eval e X.env) :: starEach [] X.env := by rfl) (hpl : (backTo pos (starEach [] X.env)).any (·.1) = false := by rfl) :
    S1 X (R.wX X.K xq W) (.Raise (some (.Call (.Name x p) [e] [] pos)) none pos') G k := fun F0 H0 σ F H D ty b c => by
  obtain ⟨fI, fd, a1, a2, a3, a4⟩ := Er1.ini
  refine s1Of.of (L2N.ps_raise hc tk (pmk_oexn Er1.oc a1 a2 a4 hr a3 passLn hg Er1.gl pa_w hdb he hpl)) ?_
  refine h σ F H _ ty fun vs F1 H1 ds ex r ⟨hl, hx⟩ => ?_
  have hl2 : vs.length = 1 := by rw [← r.length]; exact hl
  obtain ⟨y, rfl⟩ : ∃ y, vs = [y] := by
    match vs, hl2 with
    | [y], _ => exact ⟨y, rfl⟩
  refine ⟨by rw [hl2]; decide, fun a ha => ⟨a, y, rfl, upd_same .., fun dx hd hne => ⟨rfl, dx, [(f, y)], upd_same .., ?_, ?_, ?_⟩⟩⟩
  · rw [upd_ne hne, upd_same]
  · have q : upd H1 a (exo a C none) dx = none := hd
    rw [upd_ne hne] at q
    exact q
  · have q : H1 dx = none := by
      have q : upd H1 a (exo a C none) dx = none := hd
      rw [upd_ne hne] at q
      exact q
    rw [mk_heap ha hne]
    have ex2 := ex.trans (ex.wf.own (o := .xd [(f, y)]) q)
    exact b.z G σ F1 _ C [f] ds (some dx) hx (ty.ext ex2).un (b.ext.trans ex2).un b.fresh (.inl ⟨dx, [y], rfl, (b.ext.trans ex).free q, ex.wf.new q, upd_same .., rfl, r⟩)
/-! ### expressions that may raise -/
def EX (X : Cx) (R : Reg) (G : List Sl) (W : WX) (e : Expr) (P : Dt → Prop) (xd : XD) : Prop := ∀ σ F H Q, Ty X.K R G σ F H → Ct X.K R F H P Q →
  (∀ F' H' C ns ds d, xd C ns ds → Ext R F H F' H' → XDat X.K R H F' H' ns ds d → W (.ref C) d σ H') → tOf X e σ H Q
/-! ### try .. except x as n -/
/-! ### in the suite: isinstance(e, C), e.f -/
end
end VS
set_option Elab.async false
set_option linter.all false
set_option maxRecDepth 100000
set_option maxHeartbeats 2000000
/-! the head's facts, own error classes among them -/
namespace VS
open PySem PySem.Spec L2

/-! which objects are looked at: a set of addresses as the bits of a number -/
theorem clsB_ok {K : PySem.W.Frag} {C : Addr} (q : clsB K C = true) : ∃ nm q N bs bm sn sub ab col dd k0 k1 k2 k3 k5, K.lookup C = some (excClassObj nm q C N bs bm true sn sub ab col dd k0 k1 k2 k3 k5 "ValueError.__new__") ∧ PySem.HandSPX.refsVE bm = true := by
  unfold clsB at q
  split at q
  · rename_i dd cd sl ho
    split at q
    · rename_i C' bm k0 k1 k2 k3 n k5 hm hs
      simp only [Bool.and_eq_true, beq_iff_eq, Bool.not_eq_true'] at q
      obtain ⟨⟨⟨⟨rfl, rfl⟩, hdel⟩, hdc⟩, ht⟩ := q
      obtain ⟨nm, bs, mro, ns, qn, hd, sn, sub, ab, col, del⟩ := cd
      dsimp only at hm hdel hdc
      subst hm hdel hdc
      have hsl : sl = #[k0, k1, k2, k3, some (.builtin "ValueError.__new__"), k5] := by
        obtain ⟨l⟩ := sl
        simp only at hs
        rw [hs]
      subst hsl
      exact ⟨nm, qn, ns, bs, bm, sn, sub, ab, col, dd, k0, k1, k2, k3, k5, ho, ht⟩
    · cases q
  · cases q
structure ExC (K : PySem.W.Frag) (C : Addr) : Prop where
  oc : OexC K C
  ec : ExcC K C
  xf : XfC K C
theorem excB_ok {K : PySem.W.Frag} {C : Addr} (h : excB K C = true) : ExC K C := by
  unfold excB at h
  obtain ⟨h1, h⟩ := He.ba h
  obtain ⟨h2, h⟩ := He.ba h
  obtain ⟨h3, h⟩ := He.ba h
  obtain ⟨h4, h⟩ := He.ba h
  obtain ⟨h5, h⟩ := He.ba h
  obtain ⟨h6, h⟩ := He.ba h
  obtain ⟨h7, h⟩ := He.ba h
  obtain ⟨h8, h⟩ := He.ba h
  obtain ⟨h9, h⟩ := He.ba h
  obtain ⟨h10, h⟩ := He.ba h
  obtain ⟨h11, h12⟩ := He.ba h
  exact ⟨⟨clsB_ok h1, He.eqO_ok h2, of_decide_eq_true h3, of_decide_eq_true h4, h5⟩, ⟨He.eqO_ok h6, He.eqO_ok h7, of_decide_eq_true h3, h8, He.eqO_ok h9, He.eqO_ok h10, of_decide_eq_true h11, of_decide_eq_true h12⟩, ⟨He.eqO_ok h6, He.eqO_ok h7, of_decide_eq_true h3, h8⟩⟩
theorem iniB_ok {P : Program} {K : PySem.W.Frag} {d : ErD} (h : iniB P.main.file K d = true) (e : iniW K d.x = d.val) : ∃ fd, IniD P K (He.ga K d.x) (He.ma K (He.ga K d.x) "__init__") d.qual d.params d.body d.scope fd ∧ ExC K (He.ga K d.x) ∧ (∀ f ∈ d.fs, PySem.W.findIn K (.ref (He.ga K d.x)) f = some none) := by
  unfold iniB at h
  obtain ⟨h1, h⟩ := He.ba h
  obtain ⟨h2, h⟩ := He.ba h
  obtain ⟨h3, h⟩ := He.ba h
  obtain ⟨h4, h⟩ := He.ba h
  obtain ⟨h5, h⟩ := He.ba h
  obtain ⟨h6, h⟩ := He.ba h
  obtain ⟨h7, h⟩ := He.ba h
  obtain ⟨h8, h⟩ := He.ba h
  obtain ⟨h9, h10⟩ := He.ba h
  have E := excB_ok h1
  unfold iniW at e
  cases q : K.lookup (He.ma K (He.ga K d.x) "__init__") with
  | none => rw [q] at h10; cases h10
  | some o =>
    obtain ⟨oc, od, dt, osl⟩ := o
    rw [q] at h10 e
    cases dt with
    | func fd =>
      obtain ⟨n1, n2, n3, n4, n5, n6, n7, n8, n9, n10, n11, n12, n13, n14, n15⟩ := fd
      have e2 : (some (n1, n2, n3, n4, n5, n6, n7.map (·.1), n15) : InW) = some (("__init__" : Str), d.qual, d.params, FuncBody.stmts d.body, d.scope, mainGlobals, [("__class__" : Str)], builtinsNs) := e
      simp only [Option.some.injEq, Prod.mk.injEq] at e2
      obtain ⟨g1, g2, g3, g4, g5, g6, g7, g8⟩ := e2
      subst g1 g2 g3 g4 g5 g6 g8
      have hc : codeB P.main.file K (He.ga K d.x) d.qual ⟨"__init__", d.qual, d.params, .stmts d.body, d.scope, mainGlobals, n7, n8, n9, n10, n11, n12, n13, n14, builtinsNs⟩ = true := h10
      unfold codeB at hc
      dsimp only at hc
      split at hc
      · rename_i cda nm cc
        obtain ⟨k1, k2⟩ := He.ba hc
        obtain ⟨k2, k3⟩ := He.ba k2
        have en : nm = "__class__" := by
          have : [nm] = [("__class__" : Str)] := g7
          injection this
        subst en
        split at k2
        · rename_i ccl cdd cvs ccs lcd
          split at k2
          · rename_i f tf hv
            split at k3
            · rename_i cl cld C' csl lcc
              have eC : C' = He.ga K d.x := eq_of_beq k3
              subst eC
              refine ⟨_, ⟨E.oc, He.eqO_ok h2, of_decide_eq_true h3, ⟨oc, od, n9, n10, n11, n12, n14, osl, cda, cc, rfl, q, k1, ⟨ccl, cdd, cvs, ccs, f, tf, lcd, hv, k2⟩, cl, cld, csl, lcc⟩, Option.isSome_iff_exists.mp h4, of_decide_eq_true h5, He.eqO_ok h6, He.eqO_ok h7, of_decide_eq_true h8⟩, E, fun f hf => He.eqO_ok (List.all_eq_true.mp h9 f hf)⟩
            · cases k3
          · cases k2
        · cases k2
      · cases hc
    | _ => cases h10
/-! ### the hook -/
section
variable {P : Program} {fa : List He.Fa} {fn : List He5.DefA} {es : List ErD} {ex : PySem.W.Frag → Bool} {K : PySem.W.Frag}
theorem SaysV.d {file : Str} (c : SaysV file fa fn es ex K) : He5.SaysA fa fn K := congrArg (fun z : AlV => z.1) c
theorem SaysV.more {file : Str} (c : SaysV file fa fn es ex K) : ex K = true := (He.ba (show ((es.all fun d => iniB file K d) && ex K) = true from congrArg (fun z : AlV => z.2.1) c)).2
theorem SaysV.err (c : SaysV P.main.file fa fn es ex K) (i : Nat) {d : ErD} (h : es[i]? = some d := by rfl) : ∃ fd, IniD P K (He.ga K d.x) (He.ma K (He.ga K d.x) "__init__") d.qual d.params d.body d.scope fd ∧ ExC K (He.ga K d.x) ∧ (∀ f ∈ d.fs, PySem.W.findIn K (.ref (He.ga K d.x)) f = some none) := by
  have c1 := (He.ba (show ((es.all fun d => iniB P.main.file K d) && ex K) = true from congrArg (fun z : AlV => z.2.1) c)).1
  have c2 : es.map (fun d => iniW K d.x) = es.map ErD.val := congrArg (fun z : AlV => z.2.2) c
  have hm := List.mem_of_getElem? h
  refine iniB_ok (List.all_eq_true.mp c1 d hm) ?_
  have e := congrArg (fun l => l[i]?) c2
  simp only [List.getElem?_map, h, Option.map_some, Option.some.injEq] at e
  exact e
end
end VS
namespace VS
open PySem PySem.Spec L2
theorem binds_ks {P : Program} {K : PySem.W.Frag} {C fI : Addr} {qual : Str} {params : Arguments} {body : List Stmt} {scope : Scope} {fd : FuncData} {ps : List Str} (D : IniD P K C fI qual params body scope fd)
    (h : ∀ (kV doc pm : Value) (an : Option Addr) (cdv ct : Value) (cc : Addr) (us : List Value), us.length = ps.length → bindArgs (PySem.W.ksFn "__init__" qual params body scope .none kV doc pm an cdv ct cc) ⟨us, []⟩ = pure (ps.zip us)) : Binds K fd ps [] := by
  obtain ⟨oc, od, kV, doc, pm, an, ct, osl, cda, cc, rfl, _⟩ := D.fn
  exact .all (h kV doc pm an (.ref cda) ct cc)
section
variable {fa : List He.Fa} {fn : List He5.DefA} {es : List ErD} {xs : List Xa} {K : PySem.W.Frag} {file : Str}
theorem SaysV.xa (c : SaysV file fa fn es (exOf xs) K) (i : Nat) {x : Xa} (h : xs[i]? = some x) : x K = true := List.all_eq_true.mp c.more x (List.mem_of_getElem? h)
theorem SaysV.tup (c : SaysV file fa fn es (exOf xs) K) (i : Nat) {x : Str} {vs : List He.Dv} (h : xs[i]? = some (Xa.tup x vs)) (F : Hp) : SqT K F (He.ga K x) (vs.map (He.Dv.v K)) := He.tupB_ok (c.xa i h) F
end
end VS
set_option Elab.async false
set_option linter.all false
set_option maxRecDepth 100000
set_option maxHeartbeats 2000000
/-! calls with keywords -/
namespace VS
open PySem PySem.Spec L2
/-- a def called with n values and the keywords ks: g says how they stand in the parameters' order -/
structure FnK (P : Program) (w : World) (K : PySem.W.Frag) (mg : Str → Option Value) (base : Heap) (k : Nat) (x : Str) (n : Nat) (ks : List Str) (g : {α : Type} → List α → List α → List α) (dvs : List V) (sp : Sp) : Prop where
  ex : ∃ (f : Addr) (fd : FuncData) (ps : List Str) (ds : List Value), mg x = some (.ref f) ∧ PySem.W.keepIn K (.ref f) = true ∧ KBn K fd ps n ks (fun us ws => g us ws ++ ds) (fun vs zs => g vs zs ++ dvs) ∧ FnOk P w K mg base (L2N.CX P w) k f fd ps sp
section
variable {X : Cx} {R : Reg} {G : List Sl} {pos : Pos} {k : Kt}
end
end VS
set_option Elab.async false
set_option linter.all false
set_option maxRecDepth 100000
set_option maxHeartbeats 2000000
/-! texts as lists of code points -/
namespace VS
open PySem PySem.Spec L2
abbrev St' := SX.S
section
variable {X : Cx} {R : Reg} {G : List Sl} {pos : Pos} {k : Kt}
/-- o.partition(e) -/
theorem e_partition {o e : Expr} {apos : Pos} {P : Dt → Prop} (h : E X R G o fun d => ∃ a, d = .str a ∧ E X R G e fun d' => ∃ b, d' = .str b ∧ (b.length == 0) = false ∧ a.length ≤ 100000 ∧ P (.tup [.str (Txt.partition a b).1, .str (Txt.partition a b).2.1, .str (Txt.partition a b).2.2]))
    (hs : starEach [e] X.env = [(false, eval e X.env)] := by rfl) (hbase : attributeBase o "partition" X.env (eval o X.env) = eval o X.env := by rfl) (hline : (apos.endLine == pos.line) = true := by rfl) : E X R G (.Call (.Attribute o "partition" apos) [e] [] pos) P := fun σ F H Q ty c => by
  refine tOf.of (pe_partition pe_w pe_w hs hbase hline) (h σ F H _ ty fun v F1 H1 d ex r ⟨a, ed, h2⟩ => ?_)
  subst ed
  refine ⟨⟨a, rp_str.mp r⟩, ?_⟩
  refine h2 σ F1 H1 _ (ty.ext ex) fun v2 F2 H2 d2 ex2 r2 ⟨b, eb, hb, hl, p⟩ => ?_
  subst eb
  refine ⟨a, b, rp_str.mp r, by rw [rp_str.mp r2], hb, Nat.le_trans hl (by decide), fun q hq => ?_⟩
  have ex3 := ex2.wf.made (o := .tup [.str (Txt.partition a b).1, .str (Txt.partition a b).2.1, .str (Txt.partition a b).2.2]) hq
  exact c _ _ _ _ ((ex.trans ex2).trans ex3) (rp_tup_new (ex2.wf.fh.free hq) (.cons (rp_str.mpr rfl) (.cons (rp_str.mpr rfl) (.cons (rp_str.mpr rfl) .nil)))) p
/-- o.startswith(e) -/
theorem e_startswith {o e : Expr} {apos : Pos} {P : Dt → Prop} (h : E X R G o fun d => ∃ a, d = .str a ∧ E X R G e fun d' => ∃ b, d' = .str b ∧ P (.bl (Txt.startswith a b)))
    (hs : starEach [e] X.env = [(false, eval e X.env)] := by rfl) (hbase : attributeBase o "startswith" X.env (eval o X.env) = eval o X.env := by rfl) (hline : (apos.endLine == pos.line) = true := by rfl) : E X R G (.Call (.Attribute o "startswith" apos) [e] [] pos) P := fun σ F H Q ty c => by
  refine tOf.of (pe_m1 PySem.F.slot_str_startswith PySem.F.type_str_startswith mt_startswith pe_w pe_w hs hbase hline) (h σ F H _ ty fun v F1 H1 d ex r ⟨a, ed, h2⟩ => ?_)
  subst ed
  refine ⟨⟨a, rp_str.mp r⟩, ?_⟩
  refine h2 σ F1 H1 _ (ty.ext ex) fun v2 F2 H2 d2 ex2 r2 ⟨b, eb, p⟩ => ?_
  subst eb
  exact ⟨a, b, rp_str.mp r, by rw [rp_str.mp r2], c _ _ _ _ (ex.trans ex2) (rp_bl.mpr rfl) p⟩
theorem w_notInS {c : Nat} {z : Str} {P : Dt → Prop} (p : P (.bl (!decide (c ∈ z.cps.toList)))) : W2 X R (compareOp .NotIn) (.str ⟨#[c]⟩) (.str z) P := fun F H x y Q w rx ry ct =>
  opOf.of op_notIn_sign ⟨c, z, rp_str.mp rx, rp_str.mp ry, ct.here w (rp_bl.mpr rfl) p⟩
theorem wc_intS {a : Str} {n : Int} {P : Dt → Prop} (hn : intText? a = some n) (hl : a.length ≤ 640) (p : P (.int n)) : WC X R (.type "int") [.str a] P := fun F H xs Q w r c => by
  obtain ⟨v, rfl, h1⟩ := r.one
  rw [rp_str.mp h1]
  exact crOf.of call_int_str ⟨a, n, rfl, hn, hl, c.here w (rp_int.mpr rfl) p⟩
theorem wc_strI {i : Int} {P : Dt → Prop} (hl : i.natAbs.log2 < 1920) (p : P (.str (toString i))) : WC X R (.type "str") [.int i] P := fun F H xs Q w r c => by
  obtain ⟨v, rfl, h1⟩ := r.one
  rw [rp_int.mp h1]
  exact crOf.of call_str_int ⟨i, rfl, hl, c.here w (rp_str.mpr rfl) p⟩
theorem wsl_str {z : Str} {lo hi : Option Int} {P : Dt → Prop} (hz : z.length ≤ 100000) (p : P (.str (cutS z lo hi))) : WSl X R (.str z) lo hi P := fun F H x Q w r c => by
  rw [rp_str.mp r]
  exact slOf.of sl_str ⟨z, rfl, Nat.le_trans hz (by decide), c.here w (rp_str.mpr rfl) p⟩
/-- for c in text -/
theorem i_str {tg e : Expr} {P : List Dt → Prop} (h : E X R G e fun d => ∃ z : Str, d = .str z ∧ P (z.cps.toList.map fun c => .str ⟨#[c]⟩)) : I X R G tg e P := fun σ F H Q ty c =>
  tiOf.of (pi_str pe_w) (h σ F H _ ty fun v F1 H1 d ex r ⟨z, e, p⟩ => by
    subst e
    refine ⟨z, rp_str.mp r, c _ F1 H1 _ ex (fun F2 H2 sf wf => ?_) p⟩
    refine ⟨fun i hi => ?_, fun i d hd => ?_⟩
    · rw [List.length_map, Array.length_toList] at hi
      exact hi
    · rw [List.getElem?_map] at hd
      cases e : z.cps.toList[i]? with
      | none => rw [e] at hd; cases hd
      | some c0 =>
        rw [e] at hd
        cases hd
        rw [Array.getElem?_toList] at e
        refine ⟨(Array.getElem?_eq_some_iff.mp e).1, fun x H' y => ?_⟩
        obtain ⟨rfl, c1, e1, rfl⟩ := y
        rw [e] at e1
        cases e1
        exact ⟨F2, .refl wf, rp_str.mpr rfl⟩)
/-- [.. for c in text], a row of Bools -/
theorem lc_boolS {tg elt : Expr} {scope : Scope} {vs : List Nat} {l : List Nat} (f : Nat → Bool) (j : Nat) (ha : ∀ c Y, Blk X scope Y → A Y tg (.str ⟨#[c]⟩) [(j, .str ⟨#[c]⟩)]) (hj : j ∈ vs)
    (he : ∀ c Y, Blk X scope Y → E Y R (setsD (wipeD G vs) [(j, .str ⟨#[c]⟩)]) elt fun y => y = .bl (f c)) : Lc X R G tg elt [] scope vs (l.map fun c => .str ⟨#[c]⟩) fun i acc => acc = ((l.map f).take i).map .bl := by
  refine ⟨rfl, fun i d acc hd hacc hl => ?_⟩
  rw [List.getElem?_map] at hd
  cases e : l[i]? with
  | none => rw [e] at hd; cases hd
  | some c =>
    rw [e] at hd
    cases hd
    refine ⟨[(j, .str ⟨#[c]⟩)], ha c, fun p hp => by rw [List.mem_singleton] at hp; rw [hp]; exact hj, fun Y bY => ts_nil ?_⟩
    rw [if_pos rfl]
    intro Z bZ
    refine (he c Z bZ).imp fun y hy => ?_
    rw [hy, hacc, List.take_add_one, List.getElem?_map, e, List.map_append]
    rfl
/-! ### f-strings -/
def EJ (X : Cx) (R : Reg) (G : List Sl) (es : List Expr) (acc : Str) (P : Str → Prop) : Prop := ∀ σ F H (Q : Str → Hp → Prop), Ty X.K R G σ F H → (∀ out F' H', Ext R F H F' H' → P out → Q out H') → tJs (es.map (tOf X)) acc σ H Q
end
end VS
set_option Elab.async false
set_option linter.all false
namespace VS
open PySem PySem.Spec L2
theorem starts_pre {l p : List Nat} : Txt.startswith (SX.S l) (SX.S p) = decide (l.take p.length = p) := by
  unfold Txt.startswith
  rw [StrLaws.subAt_eq, List.drop_zero, SX.S_len, SX.S_len]
  show (decide (0 + p.length ≤ l.length) && (l.take p.length == p)) = _
  by_cases h : l.take p.length = p
  · have hl : p.length ≤ l.length := by
      have := congrArg List.length h
      rw [List.length_take] at this
      omega
    rw [decide_eq_true h, decide_eq_true (by omega), h]
    simp
  · rw [decide_eq_false h]
    have : (l.take p.length == p) = false := by
      cases hb : l.take p.length == p
      · rfl
      · exact absurd (eq_of_beq hb) h
    rw [this, Bool.and_false]
theorem numL_head {n : Nat} (h : 0 < n) : (TL.numL n).head? ≠ some 48 := by
  induction n using Nat.strongRecOn with
  | _ n ih =>
    by_cases hn : n < 10
    · rw [TL.numL_lt hn]
      intro e
      have := Option.some.inj e
      omega
    · rw [TL.numL_step (by omega), List.head?_append]
      have hd := ih (n / 10) (by omega) (by omega)
      have hne := TL.numL_ne (n / 10)
      cases e : (TL.numL (n / 10)).head? with
      | none => exact absurd (List.head?_eq_none_iff.mp e) hne
      | some c =>
        rw [e] at hd
        exact hd
end VS
set_option Elab.async false
set_option linter.all false
set_option maxRecDepth 100000
/-! small tactics: sizes of ints, preconditions. -/
namespace VS
open PySem PySem.Spec L2
end VS
set_option Elab.async false
set_option linter.all false
set_option maxRecDepth 100000
/-! own classes: instances as data. -/
namespace VS
open PySem PySem.Spec L2
def fldO (f : Str) : List Str → List Dt → Option Dt
  | n :: ns, x :: xs => if n == f then some x else fldO f ns xs
  | _, _ => none
def putO (f : Str) (d : Dt) : List Str → List Dt → List Str × List Dt
  | n :: ns, x :: xs => if n == f then (n :: ns, d :: xs) else (n :: (putO f d ns xs).1, x :: (putO f d ns xs).2)
  | _, _ => ([f], [d])
section
variable {K : PySem.W.Frag} {F : Hp}
theorem fld_get {f : Str} : ∀ {ns : List Str} {xs : List Dt} {vs : List V} {d : Dt}, RpL K F xs vs → ns.length = vs.length → fldO f ns xs = some d → ∃ v, (ns.zip vs).lookup f = some v ∧ Rp K F d v
  | [], _, vs, d, r, hl, h => by cases h
  | n :: ns, [], vs, d, r, hl, h => by cases h
  | n :: ns, x :: xs, vs, d, r, hl, h => by
    obtain ⟨v, t, rfl, r1, r2⟩ := r.of_cons
    unfold fldO at h
    by_cases e : (n == f) = true
    · rw [if_pos e] at h
      cases h
      have e' : (f == n) = true := by rw [beq_iff_eq] at e ⊢; exact e.symm
      exact ⟨v, by simp [List.zip_cons_cons, List.lookup, e'], r1⟩
    · rw [if_neg e] at h
      obtain ⟨v', h1, h2⟩ := fld_get (ns := ns) (xs := xs) r2 (by simpa using hl) h
      have e' : (f == n) = false := by rw [Bool.eq_false_iff]; intro z; apply e; rw [beq_iff_eq] at z ⊢; exact z.symm
      exact ⟨v', by simp [List.zip_cons_cons, List.lookup, e', h1], h2⟩
theorem fld_none {f : Str} : ∀ {ns : List Str} {vs : List V}, (ns.any fun n => n == f) = false → (ns.zip vs).lookup f = none
  | [], _, _ => by simp
  | n :: ns, [], _ => by simp
  | n :: ns, v :: vs, h => by
    simp only [List.any_cons, Bool.or_eq_false_iff] at h
    have e' : (f == n) = false := by rw [Bool.eq_false_iff]; intro z; have := h.1; rw [Bool.eq_false_iff] at this; apply this; rw [beq_iff_eq] at z ⊢; exact z.symm
    simp [List.zip_cons_cons, List.lookup, e', fld_none h.2]
theorem put_zip {f : Str} {y : V} {d : Dt} : ∀ {ns : List Str} {xs : List Dt} {vs : List V}, RpL K F xs vs → ns.length = vs.length → Rp K F d y → ∃ vs', putF f y (ns.zip vs) = (putO f d ns xs).1.zip vs' ∧ (putO f d ns xs).1.length = vs'.length ∧ RpL K F (putO f d ns xs).2 vs' ∧ vs'.length ≤ vs.length + 1
  | [], xs, vs, r, hl, ry => by
    have e : vs = [] := List.length_eq_zero_iff.mp (by simpa using hl.symm)
    subst e
    refine ⟨[y], ?_, ?_, ?_, by simp⟩
    · cases xs <;> rfl
    · cases xs <;> rfl
    · cases xs <;> exact .cons ry .nil
  | n :: ns, xs, vs, r, hl, ry => by
    cases xs with
    | nil => have e := r.of_nil; subst e; simp at hl
    | cons x xs =>
      obtain ⟨v, t, rfl, r1, r2⟩ := r.of_cons
      by_cases e : (n == f) = true
      · refine ⟨y :: t, ?_, ?_, ?_, by simp⟩
        · unfold putO
          rw [if_pos e]
          have e' := beq_iff_eq.mp e
          subst e'
          simp [List.zip_cons_cons, putF]
        · unfold putO; rw [if_pos e]; simpa using hl
        · unfold putO; rw [if_pos e]; exact .cons ry r2
      · obtain ⟨vs', h1, h2, h3, h4⟩ := put_zip (f := f) (y := y) (d := d) (ns := ns) (xs := xs) (vs := t) r2 (by simpa using hl) ry
        refine ⟨v :: vs', ?_, ?_, ?_, by simp; omega⟩
        · unfold putO
          rw [if_neg e]
          have e' : n ≠ f := fun z => e (beq_iff_eq.mpr z)
          simp [List.zip_cons_cons, putF, h1, e']
        · unfold putO; rw [if_neg e]; simp [h2]
        · unfold putO; rw [if_neg e]; exact .cons r1 h3
end
section
variable {X : Cx} {R : Reg} {G : List Sl} {pos : Pos} {k : Kt}
/-- e.f -/
theorem e_fld {e : Expr} {f : Str} {P : Dt → Prop} (h : E X R G e fun d => ∃ C ns xs r, d = .obj C ns xs ∧ Cls X.K C ∧ NoAttr X.K C f ∧ fldO f ns xs = some r ∧ P r) (hb : attributeBase e f X.env (eval e X.env) = eval e X.env := by rfl) : E X R G (.Attribute e f pos) P := fun σ F H Q ty c =>
  tOf.of (pe_fld pe_w hb) (h σ F H _ ty fun v F1 H1 d ex r ⟨C, ns, xs, r', ed, cl, na, hf, p⟩ => by
    subst ed
    obtain ⟨a, dx, vs, rfl, h1, hl, rl⟩ := rp_obj.mp r
    obtain ⟨v, h2, rv⟩ := fld_get rl hl hf
    exact ⟨a, C, dx, _, v, rfl, ex.wf.fh _ _ h1, cl, na, h2, c v F1 H1 r' ex rv p⟩)
/-- o.f = e, o one's own object -/
theorem s_fldO (i : Nat) {x : Str} {f : Str} {e : Expr} {p pos' : Pos} {C a0 : Addr} {ns : List Str} {xs : List Dt} (hg : G[i]? = some (.ow (.at_ a0 (.obj C ns xs)))) (hN : X.N[i]? = some x) (hv : Vis X.env.scope x) (cl : Cls X.K C) (na : NoAttr X.K C f) (hn : ns.length < 900)
    (h : E X R G e fun d => k.nx (G.set i (.ow (.at_ a0 (.obj C (putO f d ns xs).1 (putO f d ns xs).2)))))
    (hd : (x == ("__debug__" : Str)) = false := by decide) (hcd : (x == ("__classdict__" : Str)) = false := by decide) (hs : swapsWith e (some (.Attribute (.Name x p) f pos')) pos.line X.env = pure false := by rfl) : S1 X R (.Assign [.Attribute (.Name x p) f pos'] e pos) G k := fun F0 H0 σ F H D ty b c =>
  s1Of.of (ps_fld (pe_var hN hv hd hcd) pe_w hs) (h σ F H _ ty fun y F1 H1 d ex r q => by
    have ty1 := ty.ext ex
    obtain ⟨o, ho, fo, nM, ea, dx, vs, h1, hl, rl⟩ := ty1.own hg
    refine ⟨.ref o, by rw [ho], o, C, dx, _, rfl, h1, cl, na, by rw [List.length_zip]; omega, ?_⟩
    obtain ⟨vs', e1, e2, e3, _⟩ := put_zip (f := f) (y := y) (d := d) rl hl r
    have ty2 := ty1.mut (d' := .at_ a0 (.obj C (putO f d ns xs).1 (putO f d ns xs).2)) (u := .ins C dx (putF f y (ns.zip vs))) hg ho ⟨ea, dx, vs', by rw [upd_same, e1], e2, e3⟩
    exact c.nx _ _ _ _ q ty2 ((b.step ex).mut ty2 hg ho))
/-- a borrowed thing -/
def lfree : Dt → Bool
  | .lst _ => false
  | .frl _ => false
  | .tup xs => lfreeL xs
  | .dT _ xs => lfreeL xs
  | .dK _ xs => lfreeL xs
  | .obj _ _ xs => lfreeL xs
  | .exv .. => false
  | .at_ .. => false
  | _ => true
where lfreeL : List Dt → Bool
  | [] => true
  | x :: xs => lfree x && lfreeL xs
end
end VS
set_option Elab.async false
set_option linter.all false
set_option maxRecDepth 100000
/-! own classes: making, methods. -/
namespace VS
open PySem PySem.Spec L2
section
variable {P : Program} {w : World} {K : PySem.W.Frag} {mg : Str → Option Value} {base : Heap}
/-- C(..): a class called, by its __init__ -/
theorem mk_fnR {CX : CXT} {C fI : Addr} {k : Nat} {sp : Sp} (M : Mk K C fI) (F : FnR P w K mg base CX k fI sp) (hup : StX.CXUp CX) :
    FnR P w K mg base CX (k + 1) C (fun vs H Q E => ∀ x dx, H x = none → H dx = none → dx ≠ x → sp (.ref x :: vs) (upd (upd H dx (.own x)) x (.ins C dx [])) (fun v H2 => v = .non ∧ Q (.ref x) H2) E) := by
  intro A outer s H us vs Q E hr e0 r h
  have hn0 : H s.heap.objs.size = none := e0.hok.fresh (Nat.le_refl _)
  have hn1 : H (s.heap.objs.size + 1) = none := e0.hok.fresh (Nat.le_succ _)
  have nn : s.heap.objs.size ≠ s.heap.objs.size + 1 := by omega
  have hq := h (s.heap.objs.size + 1) s.heap.objs.size hn1 hn0 nn
  have KX : K.In s.heap := e0.mod.kin.keeps fun b o e => (e0.bs b o e).1
  have sz1 : (s.heap.push PySem.W.emptyDict).objs.size = s.heap.objs.size + 1 := Heap.size_push _ _
  have g1 : (s.heap.push PySem.W.emptyDict).get? s.heap.objs.size = some PySem.W.emptyDict := Heap.get?_push_size s.heap rfl
  have g2 : ((s.heap.push PySem.W.emptyDict).push (PySem.W.instObj C s.heap.objs.size)).get? (s.heap.objs.size + 1) = some (PySem.W.instObj C s.heap.objs.size) := by
    rw [← sz1]
    exact Heap.get?_push_size _ rfl
  have n3 : (s.heap.push PySem.W.emptyDict).Ns s.heap.objs.size (fun _ => none) := ⟨_, #[], _, g1, rfl, (fun e he => absurd he (by simp)), fun _ => rfl⟩
  have e1 := StX.env0_laid (o := PySem.W.emptyDict) (u := .own (s.heap.objs.size + 1)) e0 ⟨_, g1⟩
  have hn2 : (upd H s.heap.objs.size (.own (s.heap.objs.size + 1))) (s.heap.push PySem.W.emptyDict).objs.size = none := by
    rw [sz1, upd_ne (Ne.symm nn)]
    exact hn1
  have e2 := StX.env0_laid (s := { s with heap := s.heap.push PySem.W.emptyDict }) (o := PySem.W.instObj C s.heap.objs.size) (u := .ins C s.heap.objs.size []) e1 (by
    show ObjOk P w (upd _ (s.heap.push PySem.W.emptyDict).objs.size _) _ (s.heap.push PySem.W.emptyDict).objs.size _
    rw [sz1]
    exact ⟨by rw [upd_ne nn, upd_same], Nat.zero_le _, nn, g2, fun _ => none, (Heap.Ns1.of_empty n3).at fun o q => Heap.get?_push_of_some _ q, fun _ => True.intro, fun y hy => absurd rfl hy⟩)
  have u1 := StX.un_laid (fs := frs outer) (s := s) (o := PySem.W.emptyDict) (u := .own (s.heap.objs.size + 1)) hn0
  have u2 := StX.un_laid (fs := frs outer) (s := { s with heap := s.heap.push PySem.W.emptyDict }) (o := PySem.W.instObj C s.heap.objs.size) (u := .ins C s.heap.objs.size []) hn2
  have e2' : Env0 P w K mg base A outer { s with heap := (s.heap.push PySem.W.emptyDict).push (PySem.W.instObj C s.heap.objs.size) } (upd (upd H s.heap.objs.size (.own (s.heap.objs.size + 1))) (s.heap.objs.size + 1) (.ins C s.heap.objs.size [])) := by
    have := e2
    simp only [sz1] at this
    exact this
  have u3 : Un (frs outer) [] H (upd (upd H s.heap.objs.size (.own (s.heap.objs.size + 1))) (s.heap.objs.size + 1) (.ins C s.heap.objs.size [])) s.heap ((s.heap.push PySem.W.emptyDict).push (PySem.W.instObj C s.heap.objs.size)) := by
    have := u1.trans u2
    simp only [sz1] at this
    exact this
  refine make_map (f := fI) KX M.makes M.init (beq_iff_eq.mp M.fn) (codeAny_mono (F _ outer _ _ (Value.ref (s.heap.objs.size + 1) :: us) (V.ref (s.heap.objs.size + 1) :: vs) _ E (hr.make C us []) (e2'.make C us []) (.cons rfl r) hq) fun r' s' hq' => ?_)
  cases r' with
  | error e => exact hup outer s H { s with heap := (s.heap.push PySem.W.emptyDict).push (PySem.W.instObj C s.heap.objs.size) } _ E e s' u3 (fun b o q => Heap.get?_push_of_some _ (Heap.get?_push_of_some _ q)) rfl hq'
  | ok fl =>
    cases fl with
    | ret u =>
      obtain ⟨v, H', ho, hb, un, hok, rv, ev, q3⟩ := hq'
      subst ev
      exact ⟨rv, ⟨V.ref (s.heap.objs.size + 1), H', ho, hb, u3.trans un, hok, rfl, q3⟩⟩
    | next => exact False.elim hq'
    | brk => exact False.elim hq'
    | cont => exact False.elim hq'
/-- the promise of an __init__ -/
def spIni (K : PySem.W.Frag) (C : Addr) (m : Nat) (φ : Ph) : Sp := fun vs H Q E => vs.length = m + 1 ∧ ∃ (x dx : Addr) (args : List V) (F0 H0 F : Hp) (ds : List Dt) (q : Dt → Prop) (xd : XD), vs = .ref x :: args ∧ Same F0 H0 ∧ Ext .nil F0 H0 F H ∧ H0 x = none ∧ F x = none ∧ H x = some (.ins C dx []) ∧ RpL K F ds args ∧ φ ds q xd ∧
  (∀ F' H' d, Ext .nil F0 H0 F' H' → Rp K F' d (.ref x) → q d → Q .non H') ∧ XOk K .nil F0 H0 xd E
def stI (N : List Str) (x C : Addr) (ds : List Dt) : List Sl := .ow (.at_ x (.obj C [] [])) :: (ds.map .sh ++ List.replicate (N.length - (ds.length + 1)) .no)
theorem ini_run {CX : CXT} {N : List Str} {C : Addr} {m : Nat} {φ : Ph} {vs : List V} {H : Hp} {Q : VK} {E : XK} {X : Cx} {body : List Stmt} (hh : spIni K C m φ vs H Q E) (hK : X.K = K)
    (h : ∀ (x : Addr) (ds : List Dt) (q : Dt → Prop) (xd : XD), φ ds q xd → ds.length = m → ∀ F H0, Wf .nil F H0 → XOk K .nil F H0 xd E → S X .nil body (stI N x C ds) { nx := fun G => ∃ d G', G = .ow (.at_ x d) :: G' ∧ q d, rt := fun _ => False }) :
    ∃ t, PSs X body t ∧ t { nx := fun _ H' => Q .non H', rt := Q } (L2.start N vs) H := by
  obtain ⟨hl, x, dx, args, F0, H0, F, ds, q, xd, rfl, sf, ex, h0, fx, hx, r, hφ, hq, hxo⟩ := hh
  subst hK
  have hl' : args.length = m := by simpa using hl
  have hS := h x ds q xd hφ (by rw [r.length, hl']) F0 H0 (wf_nil sf) hxo
  refine ⟨_, pss_w, hS F0 H0 _ F H _ ⟨ex.wf, ?_, ?_⟩ ⟨ex, ?_, trivial⟩ ⟨fun G σ F1 H1 z ty b => ?_, fun d v F1 H1 z e rd => z.elim, fun _ _ _ _ z => z.elim, fun _ _ _ _ z => z.elim, fun _ _ _ _ z => z.elim⟩⟩
  · unfold stI L2.start
    show SlsOk _ _ _ _ _ (some (V.ref x) :: (args.map some ++ List.replicate (N.length - (args.length + 1)) none))
    refine .cons ⟨x, rfl, fx, fun z => z.elim, rfl, dx, [], hx, rfl, .nil⟩ ?_
    rw [r.length]
    exact sls0 _ r
  · unfold stI L2.start
    show (owns (_ :: _) (some (V.ref x) :: _)).Nodup
    simp only [owns, owns0]
    simp
  · unfold stI L2.start
    show ∀ o ∈ owns (_ :: _) (some (V.ref x) :: _), _
    simp only [owns, owns0]
    intro o ho
    simp at ho
    rw [ho]
    exact h0
  · obtain ⟨d, G', rfl, hd⟩ := z
    obtain ⟨F2, ty2, b2, sf2⟩ := ty.frz b
    obtain ⟨v0, e0, y, ey, ry⟩ := ty2.sl.get (i := 0) (g := .sh (.at_ x d)) rfl
    simp only [Rp] at ry
    exact hq F2 H1 d b2.ext (by rw [← ry.1]; exact ry.2) hd
end
section
variable {X : Cx} {R : Reg} {G : List Sl} {pos : Pos} {k : Kt}
theorem spD_of {K : PySem.W.Frag} {φ : Ph} {n : Nat} {F H : Hp} {ds : List Dt} {vs : List V} {P : Dt → Prop} {Q : VK} {E : XK} (wf : Wf R F H) (r : RpL K F ds vs) (hl : ds.length = n) (hφ : φ ds P fun _ _ _ => False) (c : Ct K R F H P Q) : spD K n φ vs H Q E :=
  ⟨by rw [← r.length, hl], F, ds, P, fun _ _ _ => False, wf.fh, r, hφ, fun v F2 H2 d ex2 r2 p => c v F2 H2 d (Ext.of_nil wf ex2) r2 p, ⟨fun _ _ _ _ _ _ _ z => z.elim, fun _ _ _ z => z.elim⟩⟩
/-- a method of a class -/
structure FnM (P : Program) (w : World) (K : PySem.W.Frag) (mg : Str → Option Value) (base : Heap) (k : Nat) (C : Addr) (m : Str) (ps : List Str) (dvs : List V) (sp : Sp) : Prop where
  ex : ∃ f fd ds, Meth K C m f ∧ Binds K fd ps ds ∧ Vals dvs ds ∧ FnOk P w K mg base (L2N.CX P w) k f fd ps sp
theorem FnM.mono {P : Program} {w : World} {K : PySem.W.Frag} {mg : Str → Option Value} {base : Heap} {j k : Nat} {C : Addr} {m : Str} {ps : List Str} {dvs : List V} {sp : Sp} (F : FnM P w K mg base j C m ps dvs sp) (h : j ≤ k) : FnM P w K mg base k C m ps dvs sp := by
  obtain ⟨f, fd, ds, a, b, c, d⟩ := F.ex
  exact ⟨f, fd, ds, a, b, c, d.mono h⟩
/-- o.m(e, ..) -/
theorem e_meth {C : Addr} {m : Str} {ps : List Str} {dvs : List V} {dds : List Dt} {φ : Ph} {n j : Nat} {o e : Expr} {es : List Expr} {apos : Pos} {pl : Sem Bool} {P : Dt → Prop} (cl : Cls X.K C) (F : FnM X.prog X.w X.K X.mg X.base j C m ps dvs (spD X.K n φ)) (hr : Room j X.A) (hd : ∀ F, RpL X.K F dds dvs)
    (h : E X R G o fun d => ∃ ns xs, d = .obj C ns xs ∧ (ns.any fun z => z == m) = false ∧ EA X R G (e :: es) fun ds => (d :: (ds ++ dds)).length = n ∧ φ (d :: (ds ++ dds)) P fun _ _ _ => False)
    (hst : starEach (e :: es) X.env = (false, eval e X.env) :: starEach es X.env := by rfl) (hpl : (backTo pos (starEach es X.env)).any (·.1) = false := by rfl)
    (ht : eval (.Call (.Attribute o m apos) (e :: es) [] pos) X.env = (do
      let ov ← eval o X.env
      standAt apos.atName
      let (f, first) ← holding [ov] (getMethod ov m pl)
      callWith pos f first (backTo pos (starEach (e :: es) X.env)) (backToKw pos (keywordEach [] X.env))) := by rfl) : E X R G (.Call (.Attribute o m apos) (e :: es) [] pos) P := fun σ F' H Q ty c => by
  obtain ⟨f, fd, ds, a1, a3, a4, a5⟩ := F.ex
  refine tOf.of (pe_meth (pl := pl) pe_w cl a1 a5 hr a3 a4 passLn pa_w hst hpl ht) (h σ F' H _ ty fun v F1 H1 d ex r ⟨ns, xs, ed, hno, h2⟩ => ?_)
  have r0 := r
  subst ed
  obtain ⟨a, dx, vs, rfl, h1, hl, rl⟩ := rp_obj.mp r
  refine ⟨a, dx, _, rfl, ex.wf.fh _ _ h1, fld_none hno, h2 σ F1 H1 _ (ty.ext ex) fun ws F2 H2 ds' ex2 r2 ⟨hl2, hφ⟩ => ?_⟩
  exact spD_of ex2.wf (.cons (r0.mono ex2.ff) (r2.append (hd F2))) hl2 hφ (c.step (ex.trans ex2))
theorem e_meth0 {C : Addr} {m : Str} {ps : List Str} {dvs : List V} {dds : List Dt} {φ : Ph} {n j : Nat} {o : Expr} {apos : Pos} {pl : Sem Bool} {P : Dt → Prop} (cl : Cls X.K C) (F : FnM X.prog X.w X.K X.mg X.base j C m ps dvs (spD X.K n φ)) (hr : Room j X.A) (hd : ∀ F, RpL X.K F dds dvs)
    (h : E X R G o fun d => ∃ ns xs, d = .obj C ns xs ∧ (ns.any fun z => z == m) = false ∧ (d :: dds).length = n ∧ φ (d :: dds) P fun _ _ _ => False)
    (ht : eval (.Call (.Attribute o m apos) [] [] pos) X.env = (do
      let ov ← eval o X.env
      standAt apos.atName
      let (f, first) ← holding [ov] (getMethod ov m pl)
      callWith pos f first (backTo pos (starEach [] X.env)) (backToKw pos (keywordEach [] X.env))) := by rfl) : E X R G (.Call (.Attribute o m apos) [] [] pos) P := fun σ F' H Q ty c => by
  obtain ⟨f, fd, ds, a1, a3, a4, a5⟩ := F.ex
  refine tOf.of (pe_meth0 (pl := pl) pe_w cl a1 a5 hr a3 a4 passLn ht) (h σ F' H _ ty fun v F1 H1 d ex r ⟨ns, xs, ed, hno, hl2, hφ⟩ => ?_)
  have r0 := r
  subst ed
  obtain ⟨a, dx, vs, rfl, h1, hl, rl⟩ := rp_obj.mp r
  refine ⟨a, dx, _, rfl, ex.wf.fh _ _ h1, fld_none hno, ?_⟩
  exact spD_of ex.wf (.cons r0 (hd F1)) hl2 hφ (c.step ex)
/-- e.f, a property -/
structure FnP (P : Program) (w : World) (K : PySem.W.Frag) (mg : Str → Option Value) (base : Heap) (k : Nat) (C : Addr) (m : Str) (φ : Ph) : Prop where
  ex : ∃ j p g fd ps, j + 1 ≤ k ∧ PropOf K C m p g ∧ Binds K fd ps [] ∧ FnOk P w K mg base (L2N.CX P w) j g fd ps (spD K 1 φ)
/-- C.m(e, ..), a classmethod -/
structure FnCm (P : Program) (w : World) (K : PySem.W.Frag) (mg : Str → Option Value) (base : Heap) (k : Nat) (C : Addr) (m : Str) (n : Nat) (φ : Ph) : Prop where
  ex : ∃ mc p g, ClX.CRead K C mc ∧ ClX.CMet K C mc m p g ∧ FnR P w K mg base (L2N.CX P w) k g (spD K n φ)
/-! ### special methods -/
theorem FnM.run {C : Addr} {m : Str} {ps : List Str} {φ : Ph} {n j : Nat} (F : FnM X.prog X.w X.K X.mg X.base j C m ps [] (spD X.K n φ)) : ∃ f, Meth X.K C m f ∧
    (∀ {pins : List (Addr × Obj)} {σ : St} {H : Hp} {s : Shared} {Q : VK} {us : List Value} {vs : List V}, Room j X.A → Inv X pins σ H s → Vals vs us → spD X.K n φ vs H Q E0 → wpAny (model X.prog X.w) X.A (call (.ref f) us) (EP X pins σ Q) X.xe s) ∧
    (∀ {pins : List (Addr × Obj)} {σ : St} {H : Hp} {s : Shared} {Q : VK} {us : List Value} {vs : List V} {E' : Value → Shared → Prop}, Room (j + 1) X.A → Inv X pins σ H s → Vals vs us → spD X.K n φ vs H Q E0 → wpAny (model X.prog X.w) X.A.in1 (call (.ref f) us) (EP X pins σ Q) E' s) := by
  obtain ⟨f, fd, ds, a1, a3, a4, a5⟩ := F.ex
  have e : ds = [] := by cases a4; rfl
  subst e
  refine ⟨f, a1, fun hr I r h => run_fn a5 hr a3 .nil passLn I r (by rw [List.append_nil]; exact h), fun {pins σ H s Q us vs E'} hr I r h => ?_⟩
  have hl : (us ++ []).length = ps.length := by rw [List.append_nil, ← r.length]; exact a5.len _ _ _ _ h
  refine wpAny_call (codeAny_mono (a5.run X.A.in1 X.stack s H ⟨us, []⟩ (us ++ []) vs Q E0 hr.in1 I.env0.in1 (a3 s us I.kIn hl) (by rw [List.append_nil]; exact r) h) fun r s' hq => ?_)
  cases r with
  | error er => exact (passLn (X := X.nox) pins σ H s er s' (I.wish _) hq).elim
  | ok fl =>
    cases fl with
    | ret u => exact I.after hq
    | next => exact False.elim hq
    | brk => exact False.elim hq
    | cont => exact False.elim hq
theorem back_of {pins : List (Addr × Obj)} {σ : St} {Q : VK} {v : Value} {s : Shared} (h : EP X pins σ Q v s) : PySem.W.CmpBack (EP X pins σ Q) v s := by
  have h0 := h
  obtain ⟨x, H, I, r, q⟩ := h
  cases v <;> first | exact h0 | (cases x <;> first | exact absurd r (fun z => nomatch z) | (obtain ⟨_, z⟩ := r; cases z) | cases r)
end
end VS
set_option Elab.async false
set_option linter.all false
set_option maxRecDepth 100000
/-! own classes: operators. -/
namespace VS
open PySem PySem.Spec L2
section
open PySem.W (InstAt Looks)
variable {prog : Program} {w : World} {A : Around} {E : Value → Shared → Prop} {s : Shared} {K : PySem.W.Frag} {x C f : Addr} {ox : Obj} {od : Option Obj} {nm : String}
end
section
variable {X : Cx} {R : Reg} {G : List Sl} {pos : Pos} {k : Kt}
/-- where an instance lies -/
theorem inst_at {pins : List (Addr × Obj)} {σ : St} {F H : Hp} {s : Shared} {a C dx : Addr} {fs : List (Str × V)} (I : Inv X pins σ H s) (w : Wf R F H) (h : F a = some (.ins C dx fs)) : ∃ od, PySem.W.InstAt s.heap a (PySem.W.instObj C dx) C (some od) := by
  obtain ⟨mA, O, _⟩ := ins_get I.hok (w.fh _ _ h)
  obtain ⟨od, J, _⟩ := O.look
  exact ⟨od, J⟩
/-- what C and int tell of an operator -/
structure NumC (K : PySem.W.Frag) (C : Addr) (nm : String) : Prop where
  first : PySem.W.selfFirst K C = true
  r : ∃ rc, PySem.W.findIn K (.ref C) (dunderR nm) = some rc ∧ (rc = none ∨ ∃ g : Addr, rc = some (.ref g))
  l : ∃ fo, PySem.W.findIn K (.type "int") (PySem.dunder nm) = some fo
  rr : ∃ ro, PySem.W.findIn K (.type "int") (dunderR nm) = some ro
  sub : PySem.W.subIn K (.type "int") (.ref C) = some false
  sub2 : PySem.W.subIn K (.ref C) (.type "int") = some false
/-- p == d -/
theorem w_eqO {C : Addr} {ps : List Str} {φ : Ph} {j : Nat} {ns : List Str} {xs : List Dt} {d : Dt} {t : Value} {P : Dt → Prop} (F : FnM X.prog X.w X.K X.mg X.base j C "__eq__" ps [] (spD X.K 2 φ)) (hr : Room j X.A) (hu : X.A.units < cLine) (ht : TyD X.K d t) (hn : PySem.W.notFirst X.K C t = true)
    (hφ : φ [.obj C ns xs, d] P fun _ _ _ => False) : W2 X R (compareOp .Eq) (.obj C ns xs) d P := fun F0 H x y Q w rx ry c => by
  have rx0 := rx
  obtain ⟨a, dx, vs, rfl, h1, _, _⟩ := rp_obj.mp rx
  obtain ⟨f, hM, run, _⟩ := F.run
  unfold opOf
  intro pins s σ v u I rv ru
  cases rv
  obtain ⟨od, J⟩ := inst_at I w h1
  obtain ⟨m', hF⟩ := I.fr
  have hty := ht F0 H y w.fh ry
  refine PySem.W.cmp_K (op := .Eq) hu hF I.ok.mod.kin J ?_ hn hM.at_ hM.fn (wpAny_mono (run (vs := [.ref a, y]) hr I (.cons rfl (.cons ru .nil)) (spD_of w (.cons rx0 (.cons ry .nil)) rfl hφ c)) (fun _ _ h => back_of h) fun _ _ h => h)
  obtain ⟨P', kx, hp⟩ := kit_of I ru hty
  exact kx.ty _ _ I.kIn hp.1
end
end VS
set_option Elab.async false
set_option linter.all false
set_option maxRecDepth 100000
/-! own classes: making; reflected and op= -/
namespace VS
open PySem PySem.Spec L2
section
variable {X : Cx} {R : Reg} {G : List Sl} {pos : Pos} {k : Kt}
/-- int's own method of an operator -/
structure IntOp (nm : String) : Prop where
  ex : ∃ (id fn : String) (f : Int → Int → Sem Fin), fillsNumberSlot (.type "int") nm = pure true ∧ Slot "int" (PySem.dunder nm) id ∧ entryFor table id = some (Builtin.Int.intBinary fn f) ∧ ∀ a b, argsOk id ⟨[a, b], []⟩
/-! ### op= -/
@[irreducible] def ipOf (X : Cx) (op : Operator) : TIp := fun x y H Q => ∀ pins s σ v u, Inv X pins σ H s → RelV x v → RelV y u → wpAny (model X.prog X.w) X.A (inplaceOp op v u) (EP X pins σ Q) X.xe s
def WA (X : Cx) (R : Reg) (op : Operator) (a b : Dt) (P : Dt → Prop) : Prop := ∀ F H x y Q, Wf R F H → Rp X.K F a x → Rp X.K F b y → Ct X.K R F H P Q → ipOf X op x y H Q
/-- C has no op= of its own -/
structure NoInp (K : PySem.W.Frag) (C : Addr) (nm : String) : Prop where
  ex : ∃ cd, PySem.W.clsIn K C = some cd ∧ cd.mro = [.ref C, .type "object"] ∧ PySem.W.findIn K (.ref C) (dunderI nm) = some none ∧ PySem.W.findIn K (.type "object") (dunderI nm) = some none
end
/-! ### making -/
section
variable {P : Program} {w : World} {K : PySem.W.Frag} {mg : Str → Option Value} {base : Heap}
/-- from an __init__'s promise to the class's: given arguments one by one -/
theorem mk_spD {CX : CXT} {C fI : Addr} {k m : Nat} {φ : Ph} (M : Mk K C fI) (F : FnR P w K mg base CX k fI (spIni K C m φ)) (hup : StX.CXUp CX) : FnR P w K mg base CX (k + 1) C (spD K m φ) := by
  refine (mk_fnR M F hup).imp fun vs H Q E hs x dx hx hdx ne => ?_
  obtain ⟨hl, F0, ds, q, xd, sf, r, hφ, hq, hxo⟩ := hs
  have ex1 := (wf_nil sf).own (o := .own x) hdx
  have hx' : (upd H dx (.own x)) x = none := by rw [upd_ne (Ne.symm ne)]; exact hx
  have ex2 := ex1.wf.own (o := .ins C dx []) hx'
  exact ⟨by rw [List.length_cons, hl], x, dx, vs, F0, H, F0, ds, q, xd, rfl, sf, ex1.trans ex2, hx, sf.free hx, upd_same, r, hφ, fun F' H' d ex rd qd => ⟨rfl, hq _ F' H' d ex rd qd⟩, hxo⟩
def spIniS (K : PySem.W.Frag) (C : Addr) (φ : Ph) : Sp := fun vs H Q E => ∃ ws rest, vs = ws ++ rest ∧ ws.length = 1 ∧ rest.length ≤ sizeLine ∧ ∀ p, H p = Option.none → spIni K C 1 φ (ws ++ [V.ref p]) (upd H p (.tup rest)) Q E
/-- __init__(self, a, ..) -/
theorem iniD_ok {x qual : Str} {st : Stmt} {f C : Addr} {fd : FuncData} {dvs : List V} {kws : List (Str × V)} {N ps : List Str} {k m : Nat} {φ : Ph} (F : FD K x qual st dvs kws f fd) (Sc : FnScope N ps (defScope st)) (hn : m + 1 = ps.length)
    (h : ∀ (X : Cx) (cdv : Value) (A : Around) (outer : List Env) (s : Shared) (H : Hp) (E : XK) (a : Addr) (ds : List Dt) (q : Dt → Prop) (xd : XD), X = cxOf (L2N.CX P w) P w K mg base N qual (defScope st) f cdv A outer s H E → Room k X.A → φ ds q xd → ds.length = m →
      S X .nil (defBody st) (stI N a C ds) { nx := fun G => ∃ d G', G = .ow (.at_ a d) :: G' ∧ q d, rt := fun _ => False }) : FnOk P w K mg base (L2N.CX P w) (k + 1) f fd ps (spIni K C m φ) := by
  refine FunD.ok F Sc (fun vs H Q E hh => by rw [hh.1, hn]) fun cdv A outer s H vs Q E hr hh => ?_
  exact ini_run (CX := L2N.CX P w) hh rfl fun a ds q xd hφ hl F1 H0 _ _ => h _ cdv A outer s H E a ds q xd rfl hr hφ hl
theorem raw0 {CX : CXT} {f : Addr} {fd : FuncData} {ps : List Str} {k : Nat} {sp : Sp} (F : FnOk P w K mg base CX k f fd ps sp) (hb : Binds K fd ps []) : FnR P w K mg base CX k f sp := (F.raw hb .nil).imp fun vs H Q E h => by rw [List.append_nil]; exact h
/-- a class called with so many arguments -/
structure FnC (P : Program) (w : World) (K : PySem.W.Frag) (mg : Str → Option Value) (base : Heap) (k : Nat) (x : Str) (n : Nat) (φ : Ph) : Prop where
  ex : ∃ f : Addr, mg x = some (.ref f) ∧ PySem.W.keepIn K (.ref f) = true ∧ FnR P w K mg base (L2N.CX P w) k f (spD K n φ)
theorem FnC.mono {P : Program} {w : World} {K : PySem.W.Frag} {mg : Str → Option Value} {base : Heap} {j k : Nat} {x : Str} {n : Nat} {φ : Ph} (F : FnC P w K mg base j x n φ) (h : j ≤ k) : FnC P w K mg base k x n φ := by
  obtain ⟨f, a, b, c⟩ := F.ex
  exact ⟨f, a, b, c.mono h⟩
/-- a method that is called one unit deeper -/
structure FnI (P : Program) (w : World) (K : PySem.W.Frag) (mg : Str → Option Value) (base : Heap) (k : Nat) (C : Addr) (m : Str) (ps : List Str) (dvs : List V) (sp : Sp) : Prop where
  ex : ∃ j, j + 1 ≤ k ∧ FnM P w K mg base j C m ps dvs sp
end
end VS
set_option Elab.async false
set_option linter.all false
set_option maxRecDepth 100000
/-! own classes: instances called. -/
namespace VS
open PySem PySem.Spec L2
section
variable {M : Model} {A : Around} {E : Value → Shared → Prop} {s : Shared} {env : Env} {pos : Pos} {x C : Addr} {Q : Value → Shared → Prop}
end
section
variable {X : Cx} {R : Reg} {G : List Sl} {pos : Pos} {k : Kt}
end
end VS
set_option Elab.async false
set_option linter.all false
set_option maxRecDepth 100000
/-! the class Poly: what its text tells. -/
namespace VS
open PySem PySem.Spec L2
theorem tyB_ok {K : PySem.W.Frag} {C : Addr} (h : tyB K C = true) (cl : Cls K C) (ns : List Str) (xs : List Dt) : TyD K (.obj C ns xs) (.ref C) := fun F H x s r => by
  obtain ⟨h1, h⟩ := He.ba h
  obtain ⟨h2, h⟩ := He.ba h
  obtain ⟨h3, h4⟩ := He.ba h
  obtain ⟨a, dx, vs, rfl, e, _⟩ := rp_obj.mp r
  exact .base (.ins (s _ _ e) cl (of_decide_eq_true h1) (of_decide_eq_true h2) (of_decide_eq_true h3) (of_decide_eq_true h4))
theorem clsC_ok {K : PySem.W.Frag} {C : Addr} (h : clsC K C = true) : Cls K C := by
  obtain ⟨h1, h⟩ := He.ba h
  obtain ⟨h2, h⟩ := He.ba h
  obtain ⟨h3, h4⟩ := He.ba h
  exact ⟨h1, h2, h3, of_decide_eq_true h4⟩
theorem mkB_ok {K : PySem.W.Frag} {C : Addr} (h : mkB K C = true) : Mk K C (He.ma K C "__init__") := by
  obtain ⟨h1, h⟩ := He.ba h
  obtain ⟨h2, h⟩ := He.ba h
  obtain ⟨h3, h4⟩ := He.ba h
  exact ⟨h1, of_decide_eq_true h2, h3, h4⟩
theorem methB_ok {K : PySem.W.Frag} {C : Addr} {m : Str} (h : methB K C m = true) : Meth K C m (He.ma K C m) := by
  obtain ⟨h1, h⟩ := He.ba h
  obtain ⟨h2, h3⟩ := He.ba h
  exact ⟨of_decide_eq_true h1, h2, h3⟩
theorem creadB_ok {K : PySem.W.Frag} {C : Addr} (h : creadB K C = true) : ClX.CRead K C (.type "type") := by
  obtain ⟨h1, h2⟩ := He.ba h
  exact ⟨h1, of_decide_eq_true h2⟩
/-- the plain types that are no Poly -/
theorem notB_ok {K : PySem.W.Frag} {C : Addr} (h : notB K C = true) {T : String} (hT : T ∈ plainT) : PySem.W.kitOne K (.type T) (.ref C) = some false ∧ PySem.W.notFirst K C (.type T) = true := by
  obtain ⟨h1, h2⟩ := He.ba (List.all_eq_true.mp h T hT)
  exact ⟨of_decide_eq_true h1, h2⟩
structure PolyC (K : PySem.W.Frag) (C : Addr) : Prop where
  cl : Cls K C
  na_coefs : NoAttr K C "coefs"
  ty : ∀ ns xs, TyD K (.obj C ns xs) (.ref C)
  add : NumC K C "add"
  sub : NumC K C "sub"
  mul : NumC K C "mul"
  fdiv : NumC K C "floordiv"
  pow : NumC K C "pow"
  iadd : NoInp K C "add"
  isub : NoInp K C "sub"
  imul : NoInp K C "mul"
  self : PySem.W.kitOne K (.ref C) (.ref C) = some true
  no : ∀ T, T ∈ plainT → PySem.W.kitOne K (.type T) (.ref C) = some false ∧ PySem.W.notFirst K C (.type T) = true
  seq : PySem.W.noSeq K C = true
  call : ∀ f, PySem.W.findIn K (.ref C) "__call__" = some (some (.ref f)) → PySem.W.fnIn K f = true
section
variable {X : Cx} {R : Reg} {G : List Sl} {pos : Pos} {k : Kt}
end
/-! ### names of the operators -/
end VS
set_option Elab.async false
set_option linter.all false
set_option maxRecDepth 100000
/-! operators that may raise; an error without a field; text.split. -/
namespace VS
open PySem PySem.Spec L2
section
variable {X : Cx} {R : Reg} {G : List Sl} {pos : Pos} {k : Kt} {xq : List Sl → XD} {W : WX}
@[irreducible] def opAt (X : Cx) (f : Value → Value → Sem Value) (σ : St) : R2 := fun x y H Q => ∀ pins s v u, Inv X pins σ H s → RelV x v → RelV y u → wpAny (model X.prog X.w) X.A (f v u) (EP X pins σ Q) X.xe s
/-- an own error class without a field and without __init__ -/
structure Er0 (K : PySem.W.Frag) (mg : Str → Option Value) (x : Str) (C : Addr) : Prop where
  gl : mg x = some (.ref C)
  q : PySem.W.excIn K C [.type "ValueError", .type "Exception", .type "BaseException", .type "object"] "ValueError.__new__" = true
  kp : PySem.W.keepIn K (.ref C) = true
  sub : PySem.W.subIn K (.ref C) (.type "BaseException") = some true
  ty : PySem.W.typeIn K (.ref C) = some (.type "type")
end
end VS
set_option Elab.async false
set_option linter.all false
set_option maxRecDepth 100000
/-! range downwards; a new list of one's own from a list or tuple. -/
namespace VS
open PySem PySem.Spec L2
/-- hi, hi - 1, .. n of them -/
def downD (hi : Int) (n : Nat) : List Dt := (List.range n).map fun i => .int (hi - (i : Nat))
section
variable {X : Cx} {R : Reg} {G : List Sl} {pos : Pos} {k : Kt}
/-- list(e), one's own -/
theorem en_list {e : Expr} {p : Pos} {P : List Dt → Prop} (hg : Gl X "list") (hm : X.mg "list" = none) (h : EA X R G [e] fun ds => ∃ d xs, ds = [d] ∧ (d = .lst xs ∨ d = .tup xs) ∧ P xs)
    (he : starEach [e] X.env = (false, eval e X.env) :: starEach [] X.env := by rfl) (hpl : (backTo pos (starEach [] X.env)).any (·.1) = false := by rfl) : EN X R G (.Call (.Name "list" p) [e] [] pos) P := fun σ F H Q ty c => by
  refine tOf.of (pe_callTy call_list_of hg hm b_list pa_w (by decide) (by decide) he hpl) (h σ F H _ ty fun vs F1 H1 ds ex1 r1 h2 => ?_)
  obtain ⟨d, xs, rfl, hd, hp⟩ := h2
  obtain ⟨v, rfl, r⟩ := r1.one
  rcases hd with rfl | rfl
  · obtain ⟨a, ws, rfl, h1, rl⟩ := rp_lst.mp r
    exact ⟨a, ws, rfl, .inl (SqL.of (ex1.wf.fh _ _ h1)), fun q hq => c q F1 _ xs ws (ex1.trans (ex1.wf.own hq)) (ex1.free hq) (ex1.wf.new hq) upd_same (ex1.wf.fh.free hq) rl hp⟩
  · obtain ⟨a, ws, rfl, h1, rl⟩ := rp_tup.mp r
    exact ⟨a, ws, rfl, .inr (sq_t ex1.wf.fh h1), fun q hq => c q F1 _ xs ws (ex1.trans (ex1.wf.own hq)) (ex1.free hq) (ex1.wf.new hq) upd_same (ex1.wf.fh.free hq) rl hp⟩
end
end VS
set_option Elab.async false
set_option linter.all false
set_option maxRecDepth 100000
/-! a thing of one's own: given back by a def, lent for a while. -/
namespace VS
open PySem PySem.Spec L2
/-- kinds of things: 0 lists, 1 dicts, 2 objects -/
def isK : Nat → HO → Prop
  | 0, o => ∃ xs, o = .lst xs
  | 1, o => (∃ kvs, o = .dT kvs) ∨ ∃ kvs, o = .dK kvs
  | _, o => ∃ C dx fs, o = .ins C dx fs
mutual
/-- data in which no thing of the kind stands -/
def fre (κ : Nat) : Dt → Bool
  | .tup xs => freL κ xs
  | .lst xs => decide (κ ≠ 0) && freL κ xs
  | .frl xs => decide (κ ≠ 0) && freL κ xs
  | .dT _ xs => decide (κ ≠ 1) && freL κ xs
  | .dK _ xs => decide (κ ≠ 1) && freL κ xs
  | .obj _ _ xs => decide (κ ≤ 1) && freL κ xs
  | .exv _ _ xs _ => freL κ xs
  | .at_ _ d => fre κ d
  | .non => true
  | .bl _ => true
  | .int _ => true
  | .str _ => true
  | .ty _ => true
  | .adr _ => true
  | .key _ => true
def freL (κ : Nat) : List Dt → Bool
  | [] => true
  | x :: xs => fre κ x && freL κ xs
end
section
variable {K : PySem.W.Frag} {F : Hp} {p : Addr} {o : HO} {κ : Nat}
theorem isK_tup {vs : List V} (hk : isK κ o) : o ≠ .tup vs ∧ ∀ z u, o ≠ .frz z u := by
  match κ, hk with
  | 0, ⟨xs, h⟩ => subst h; exact ⟨fun z => (nomatch z), fun _ _ z => (nomatch z)⟩
  | 1, .inl ⟨xs, h⟩ => subst h; exact ⟨fun z => (nomatch z), fun _ _ z => (nomatch z)⟩
  | 1, .inr ⟨xs, h⟩ => subst h; exact ⟨fun z => (nomatch z), fun _ _ z => (nomatch z)⟩
  | n + 2, ⟨C, dx, fs, h⟩ => subst h; exact ⟨fun z => (nomatch z), fun _ _ z => (nomatch z)⟩
theorem isK_lst {vs : List V} (hk : isK κ o) (h : κ ≠ 0) : o ≠ .lst vs := by
  match κ, hk, h with
  | 0, _, h => exact absurd rfl h
  | 1, .inl ⟨xs, h⟩, _ => subst h; exact fun z => (nomatch z)
  | 1, .inr ⟨xs, h⟩, _ => subst h; exact fun z => (nomatch z)
  | n + 2, ⟨C, dx, fs, h⟩, _ => subst h; exact fun z => (nomatch z)
theorem isK_dT {vs : List (List Key × V)} (hk : isK κ o) (h : κ ≠ 1) : o ≠ .dT vs := by
  match κ, hk, h with
  | 0, ⟨xs, h⟩, _ => subst h; exact fun z => (nomatch z)
  | 1, _, h => exact absurd rfl h
  | n + 2, ⟨C, dx, fs, h⟩, _ => subst h; exact fun z => (nomatch z)
theorem isK_dK {vs : List (Key × V)} (hk : isK κ o) (h : κ ≠ 1) : o ≠ .dK vs := by
  match κ, hk, h with
  | 0, ⟨xs, h⟩, _ => subst h; exact fun z => (nomatch z)
  | 1, _, h => exact absurd rfl h
  | n + 2, ⟨C, dx, fs, h⟩, _ => subst h; exact fun z => (nomatch z)
theorem isK_ins {C dx : Addr} {fs : List (Str × V)} (hk : isK κ o) (h : κ ≤ 1) : o ≠ .ins C dx fs := by
  match κ, hk, h with
  | 0, ⟨xs, h⟩, _ => subst h; exact fun z => (nomatch z)
  | 1, .inl ⟨xs, h⟩, _ => subst h; exact fun z => (nomatch z)
  | 1, .inr ⟨xs, h⟩, _ => subst h; exact fun z => (nomatch z)
  | n + 2, _, h => omega
theorem isK_xd {fs : List (Str × V)} (hk : isK κ o) : o ≠ .xd fs := by
  match κ, hk with
  | 0, ⟨xs, h⟩ => subst h; exact fun z => (nomatch z)
  | 1, .inl ⟨xs, h⟩ => subst h; exact fun z => (nomatch z)
  | 1, .inr ⟨xs, h⟩ => subst h; exact fun z => (nomatch z)
  | n + 2, ⟨C, dx, fs', h⟩ => subst h; exact fun z => (nomatch z)
theorem del_at {a : Addr} {u : HO} (hp : F p = some o) (hn : o ≠ u) (h : F a = some u) : del F p a = some u := by
  have e : a ≠ p := fun z => by
    subst z
    rw [hp] at h
    exact hn (Option.some.inj h)
  rw [del_ne e]
  exact h
theorem rd_del {a : Addr} {u : HO} (hp : F p = some o) (hk : isK κ o) (hn : o ≠ u) (h : Rd F a u) : Rd (del F p) a u := by
  rcases h with h | ⟨z, h⟩
  · exact .inl (del_at hp hn h)
  · exact .inr ⟨z, del_at hp ((isK_tup (vs := []) hk).2 _ _) h⟩
theorem sqt_del {a : Addr} {vs : List V} (hp : F p = some o) (hk : isK κ o) (h : SqT K F a vs) : SqT K (del F p) a vs := by
  rcases h with (h | ⟨z, h⟩) | h
  · exact .inl (.inl (del_at hp (isK_tup hk).1 h))
  · exact .inl (.inr ⟨z, del_at hp ((isK_tup (vs := []) hk).2 _ _) h⟩)
  · exact .inr h
theorem sql_del {a : Addr} {vs : List V} (hp : F p = some o) (hk : isK κ o) (hn : κ ≠ 0) (h : SqL K F a vs) : SqL K (del F p) a vs := by
  rcases h with (h | ⟨z, h⟩) | h
  · exact .inl (.inl (del_at hp (isK_lst hk hn) h))
  · exact .inl (.inr ⟨z, del_at hp ((isK_tup (vs := []) hk).2 _ _) h⟩)
  · exact .inr h
mutual
theorem rp_del (hp : F p = some o) (hk : isK κ o) : ∀ {d : Dt} {v : V}, Rp K F d v → fre κ d = true → Rp K (del F p) d v
  | .non, _, h, _ => by simp only [Rp] at h ⊢; exact h
  | .bl _, _, h, _ => by simp only [Rp] at h ⊢; exact h
  | .int _, _, h, _ => by simp only [Rp] at h ⊢; exact h
  | .str _, _, h, _ => by simp only [Rp] at h ⊢; exact h
  | .ty _, _, h, _ => by simp only [Rp] at h ⊢; exact h
  | .adr _, _, h, _ => by simp only [Rp] at h ⊢; exact h
  | .tup xs, _, h, hf => by
    simp only [Rp] at h ⊢
    simp only [fre] at hf
    obtain ⟨a, vs, h1, h2, h3⟩ := h
    exact ⟨a, vs, h1, sqt_del hp hk h2, rpL_del hp hk h3 hf⟩
  | .lst xs, _, h, hf => by
    simp only [Rp] at h ⊢
    simp only [fre, Bool.and_eq_true, decide_eq_true_eq] at hf
    obtain ⟨a, vs, h1, h2, h3⟩ := h
    exact ⟨a, vs, h1, del_at hp (isK_lst hk hf.1) h2, rpL_del hp hk h3 hf.2⟩
  | .frl xs, _, h, hf => by
    simp only [Rp] at h ⊢
    simp only [fre, Bool.and_eq_true, decide_eq_true_eq] at hf
    obtain ⟨a, vs, h1, h2, h3⟩ := h
    exact ⟨a, vs, h1, sql_del hp hk hf.1 h2, rpL_del hp hk h3 hf.2⟩
  | .dT ks xs, _, h, hf => by
    simp only [Rp] at h ⊢
    simp only [fre, Bool.and_eq_true, decide_eq_true_eq] at hf
    obtain ⟨a, vs, h1, h2, h4, h3⟩ := h
    exact ⟨a, vs, h1, rd_del hp hk (isK_dT hk hf.1) h2, h4, rpL_del hp hk h3 hf.2⟩
  | .dK ks xs, _, h, hf => by
    simp only [Rp] at h ⊢
    simp only [fre, Bool.and_eq_true, decide_eq_true_eq] at hf
    obtain ⟨a, vs, h1, h2, h4, h3⟩ := h
    exact ⟨a, vs, h1, rd_del hp hk (isK_dK hk hf.1) h2, h4, rpL_del hp hk h3 hf.2⟩
  | .key ks, _, h, hf => by
    simp only [Rp] at h ⊢
    obtain ⟨a, h1, h2⟩ := h
    exact ⟨a, h1, del_at hp (isK_tup hk).1 h2⟩
  | .obj C ns xs, _, h, hf => by
    simp only [Rp] at h ⊢
    simp only [fre, Bool.and_eq_true, decide_eq_true_eq] at hf
    obtain ⟨a, dx, vs, h1, h2, h4, h3⟩ := h
    exact ⟨a, dx, vs, h1, del_at hp (isK_ins hk hf.1) h2, h4, rpL_del hp hk h3 hf.2⟩
  | .exv a ns xs d, _, h, hf => by
    simp only [Rp] at h ⊢
    simp only [fre] at hf
    refine ⟨h.1, fun dx hd => ?_⟩
    obtain ⟨vs, h1, h2, h3⟩ := h.2 dx hd
    exact ⟨vs, del_at hp (isK_xd hk) h1, h2, rpL_del hp hk h3 hf⟩
  | .at_ a d, _, h, hf => by
    simp only [Rp] at h ⊢
    simp only [fre] at hf
    exact ⟨h.1, rp_del hp hk h.2 hf⟩
theorem rpL_del (hp : F p = some o) (hk : isK κ o) : ∀ {ds : List Dt} {vs : List V}, RpL K F ds vs → freL κ ds = true → RpL K (del F p) ds vs
  | [], _, h, _ => by simp only [RpL] at h ⊢; exact h
  | d :: ds, _, h, hf => by
    simp only [RpL] at h ⊢
    simp only [freL, Bool.and_eq_true] at hf
    obtain ⟨v, r, h1, h2, h3⟩ := h
    exact ⟨v, r, h1, rp_del hp hk h2 hf.1, rpL_del hp hk h3 hf.2⟩
end
end
/-- the kind of one's own thing -/
def kOf : Dt → Nat
  | .lst _ => 0
  | .dT _ _ => 1
  | .dK _ _ => 1
  | .at_ _ (.lst _) => 0
  | .at_ _ (.dT _ _) => 1
  | _ => 2
/-- its parts -/
def freO (κ : Nat) : Dt → Bool
  | .lst xs => freL κ xs
  | .dT _ xs => freL κ xs
  | .dK _ xs => freL κ xs
  | .obj _ _ xs => freL κ xs
  | .at_ _ (.obj _ _ xs) => freL κ xs
  | .at_ _ (.lst xs) => freL κ xs
  | .at_ _ (.dT _ xs) => freL κ xs
  | _ => false
theorem OwO.kd {K : PySem.W.Frag} {F H : Hp} {o : Addr} {d : Dt} (h : OwO K F H o d) : ∃ u, H o = Option.some u ∧ isK (kOf d) u := by
  rcases h.kinds with ⟨xs, rfl⟩ | ⟨ks, xs, rfl⟩ | ⟨ks, xs, rfl⟩ | ⟨C, ns, xs, rfl⟩ | ⟨a, C, ns, xs, rfl⟩ | ⟨a, xs, rfl⟩ | ⟨a, ks, xs, rfl⟩
  · obtain ⟨vs, h, _⟩ := h; exact ⟨_, h, _, rfl⟩
  · obtain ⟨vs, h, _⟩ := h; exact ⟨_, h, .inl ⟨_, rfl⟩⟩
  · obtain ⟨vs, h, _⟩ := h; exact ⟨_, h, .inr ⟨_, rfl⟩⟩
  · obtain ⟨dx, vs, h, _⟩ := h; exact ⟨_, h, _, _, _, rfl⟩
  · obtain ⟨_, dx, vs, h, _⟩ := h; exact ⟨_, h, _, _, _, rfl⟩
  · obtain ⟨_, vs, h, _⟩ := h; exact ⟨_, h, _, rfl⟩
  · obtain ⟨_, vs, h, _⟩ := h; exact ⟨_, h, .inl ⟨_, rfl⟩⟩
theorem OwO.del {K : PySem.W.Frag} {F H : Hp} {o p : Addr} {u : HO} {κ : Nat} {d : Dt} (hp : F p = Option.some u) (hk : isK κ u) (h : OwO K F H o d) (hf : freO κ d = true) : OwO K (del F p) H o d := by
  rcases h.kinds with ⟨xs, rfl⟩ | ⟨ks, xs, rfl⟩ | ⟨ks, xs, rfl⟩ | ⟨C, ns, xs, rfl⟩ | ⟨a, C, ns, xs, rfl⟩ | ⟨a, xs, rfl⟩ | ⟨a, ks, xs, rfl⟩
  · obtain ⟨vs, h, r⟩ := h; exact ⟨vs, h, rpL_del hp hk r hf⟩
  · obtain ⟨vs, h, l, r⟩ := h; exact ⟨vs, h, l, rpL_del hp hk r hf⟩
  · obtain ⟨vs, h, l, r⟩ := h; exact ⟨vs, h, l, rpL_del hp hk r hf⟩
  · obtain ⟨dx, vs, h, l, r⟩ := h; exact ⟨dx, vs, h, l, rpL_del hp hk r hf⟩
  · obtain ⟨e, dx, vs, h, l, r⟩ := h; exact ⟨e, dx, vs, h, l, rpL_del hp hk r hf⟩
  · obtain ⟨e, vs, h, r⟩ := h; exact ⟨e, vs, h, rpL_del hp hk r hf⟩
  · obtain ⟨e, vs, h, l, r⟩ := h; exact ⟨e, vs, h, l, rpL_del hp hk r hf⟩
/-! ### slots, place by place -/
section
variable {K : PySem.W.Frag} {R : Reg} {F H : Hp} {G : List Sl} {σ : St}
theorem sls_of : ∀ {G : List Sl} {σ : St}, G.length = σ.length → (∀ (j : Nat) (g : Sl), G[j]? = some g → ∃ v, σ[j]? = some v ∧ SlOk K R F H g v) → SlsOk K R F H G σ
  | [], [], _, _ => .nil
  | [], _ :: _, h, _ => by simp at h
  | _ :: _, [], h, _ => by simp at h
  | g :: G, v :: σ, h, q => by
    refine .cons ?_ (sls_of (by simpa using h) fun j g' hg => ?_)
    · obtain ⟨v', e, s⟩ := q 0 g rfl
      cases e
      exact s
    · have := q (j + 1) g' (by simpa using hg)
      simpa using this
theorem own_inj : ∀ {G : List Sl} {σ : St}, (owns G σ).Nodup → ∀ {i j : Nat} {d d' : Dt} {o : Addr}, G[i]? = some (.ow d) → σ[i]? = some (some (.ref o)) → G[j]? = some (.ow d') → σ[j]? = some (some (.ref o)) → i = j
  | [], _, _, i, j, d, d', o, h1, _, _, _ => by simp at h1
  | g :: G, [], _, i, j, d, d', o, _, h2, _, _ => by simp at h2
  | g :: G, v :: σ, nd, i, j, d, d', o, h1, h2, h3, h4 => by
    have nd' : (owns G σ).Nodup := by
      cases g with
      | no => simpa [owns] using nd
      | sh d => simpa [owns] using nd
      | ow d =>
        cases v with
        | none => simpa [owns] using nd
        | some x =>
          cases x with
          | ref q => simp only [owns, List.nodup_cons] at nd; exact nd.2
          | _ => simpa [owns] using nd
    have head : ∀ {j : Nat} {d' : Dt}, g = .ow d → v = some (.ref o) → G[j]? = some (.ow d') → σ[j]? = some (some (.ref o)) → False := fun e1 e2 g3 g4 => by
      rw [e1, e2] at nd
      simp only [owns, List.nodup_cons] at nd
      exact nd.1 (mem_owns g3 g4)
    have head' : ∀ {j : Nat} {d1 : Dt}, g = .ow d' → v = some (.ref o) → G[j]? = some (.ow d1) → σ[j]? = some (some (.ref o)) → False := fun e1 e2 g3 g4 => by
      rw [e1, e2] at nd
      simp only [owns, List.nodup_cons] at nd
      exact nd.1 (mem_owns g3 g4)
    cases i with
    | zero =>
      cases j with
      | zero => rfl
      | succ j => exact (head (Option.some.inj h1) (Option.some.inj h2) (by simpa using h3) (by simpa using h4)).elim
    | succ i =>
      cases j with
      | zero => exact (head' (Option.some.inj h3) (Option.some.inj h4) (by simpa using h1) (by simpa using h2)).elim
      | succ j => rw [own_inj nd' (i := i) (j := j) (by simpa using h1) (by simpa using h2) (by simpa using h3) (by simpa using h4)]
theorem same_upd1 {o : Addr} {u : HO} (fo : F o = none) : Same F (upd F o u) := fun a z h => by
  rw [upd_ne (fun e => by rw [e, fo] at h; cases h)]
  exact h
theorem wf_one {o : Addr} {u : HO} (w : Wf R F H) (nM : ¬ R.M o) (hu : H o = some u) : Wf R (upd F o u) H := by
  refine ⟨fun a z h => ?_, fun a m => ?_, w.oc, w.b⟩
  · by_cases e : a = o
    · subst e; rw [upd_same] at h; rw [hu]; exact h
    · rw [upd_ne e] at h; exact w.fh a z h
  · rw [upd_ne (fun e => nM (by rw [← e]; exact m))]
    exact w.off a m
theorem wf_del {F' H' : Hp} {o : Addr} (w : Wf R F' H') : Wf R (del F' o) H' := by
  refine ⟨fun a z h => ?_, fun a m => ?_, w.oc, w.b⟩
  · by_cases e : a = o
    · subst e; rw [del_same] at h; cases h
    · rw [del_ne e] at h; exact w.fh a z h
  · by_cases e : a = o
    · subst e; exact del_same
    · rw [del_ne e]; exact w.off a m
theorem ext_del {F' H' : Hp} {o : Addr} {u : HO} (fo : F o = none) (ex : Ext R (upd F o u) H F' H') : Ext R F H (del F' o) H' := by
  refine ⟨wf_del ex.wf, fun a z h => ?_, ex.hh, fun a h n => ?_⟩
  · have e : a ≠ o := fun e => by rw [e, fo] at h; cases h
    rw [del_ne e]
    exact ex.ff a z (by rw [upd_ne e]; exact h)
  · by_cases e : a = o
    · subst e; exact del_same
    · rw [del_ne e]; exact ex.fr a h (by rw [upd_ne e]; exact n)
/-- a slot, when the thing at o is lent -/
theorem SlOk.lend {o : Addr} {u : HO} {g : Sl} {v : Option V} (fo : F o = none) (h : SlOk K R F H g v) (hn : ∀ d, g = .ow d → v ≠ some (.ref o)) : SlOk K R (upd F o u) H g v := by
  cases g with
  | no => trivial
  | sh d => obtain ⟨x, e, r⟩ := h; exact ⟨x, e, r.mono (same_upd1 fo)⟩
  | ow d =>
    obtain ⟨q, e, h1, h2, h3⟩ := h
    have ne : q ≠ o := fun z => hn d rfl (by rw [e, z])
    exact ⟨q, e, by rw [upd_ne ne]; exact h1, h2, h3.mono (same_upd1 fo) fun _ z => z⟩
theorem Ty.lend {i : Nat} {d0 : Dt} {o : Addr} {u : HO} (ty : Ty K R G σ F H) (hg : G[i]? = some (.ow d0)) (hs : σ[i]? = some (some (.ref o))) (fo : F o = none) (nM : ¬ R.M o) (ow : OwO K F H o d0) (hu : H o = some u) : Ty K R (G.set i (.sh d0)) σ (upd F o u) H := by
  refine ⟨wf_one ty.wf nM hu, sls_of (by rw [List.length_set]; exact ty.sl.len) fun j g hj => ?_, ?_⟩
  · by_cases e : j = i
    · subst e
      have hl : j < G.length := (List.getElem?_eq_some_iff.mp hg).1
      rw [List.getElem?_set_self hl] at hj
      cases hj
      exact ⟨_, hs, .ref o, rfl, owo_rp ow (same_upd1 fo) (by rw [upd_same, hu])⟩
    · rw [List.getElem?_set_ne (Ne.symm e)] at hj
      obtain ⟨v, h1, h2⟩ := ty.sl.get hj
      refine ⟨v, h1, h2.lend fo fun d hd hv => ?_⟩
      subst hd hv
      exact e (own_inj ty.nd hj h1 hg hs)
  · have hsσ : σ.set i (some (.ref o)) = σ := by
      apply List.ext_getElem?
      intro j
      by_cases e : j = i
      · subst e
        have hl : j < σ.length := (List.getElem?_eq_some_iff.mp hs).1
        rw [List.getElem?_set_self hl, hs]
      · rw [List.getElem?_set_ne (Ne.symm e)]
    have := owns_set_sub (G := G) (σ := σ) i (g := .sh d0) (v := some (.ref o)) (fun _ z => nomatch z)
    rw [hsσ] at this
    exact ty.nd.sublist this
end
section
variable {X : Cx} {R : Reg} {G : List Sl} {pos : Pos} {k : Kt}
/-- e with one's own thing in slot i lent -/
theorem e_bor (i : Nat) {d0 : Dt} {e : Expr} {P : Dt → Prop} (hg : G[i]? = some (.ow d0)) (h : E X R (G.set i (.sh d0)) e fun d => fre (kOf d0) d = true ∧ P d) : E X R G e P := fun σ F H Q ty c => by
  obtain ⟨o, hs, fo, nM, ow⟩ := ty.own hg
  obtain ⟨u, hu, hk⟩ := ow.kd
  exact h σ (upd F o u) H Q (ty.lend hg hs fo nM ow hu) fun v F' H' d ex r ⟨hf, p⟩ => c v (del F' o) H' d (ext_del fo ex) (rp_del (ex.ff _ _ upd_same) hk r hf) p
theorem t_bor (i : Nat) {d0 : Dt} {e : Expr} {P : Bool → Prop} (hg : G[i]? = some (.ow d0)) (h : T X R (G.set i (.sh d0)) e P) : T X R G e P := fun σ F H Q ty c => by
  obtain ⟨o, hs, fo, nM, ow⟩ := ty.own hg
  obtain ⟨u, hu, hk⟩ := ow.kd
  exact h σ (upd F o u) H Q (ty.lend hg hs fo nM ow hu) fun b F' H' ex p => c b (del F' o) H' (ext_del fo ex) p
/-! ### new things of any kind -/
def CtW (K : PySem.W.Frag) (R : Reg) (F H : Hp) (P : Dt → Prop) (Q : VK) : Prop := ∀ p F' H' d, Ext R F H F' H' → H p = none → ¬ R.M p → F' p = none → OwO K F' H' p d → P d → Q (.ref p) H'
def EW (X : Cx) (R : Reg) (G : List Sl) (e : Expr) (P : Dt → Prop) : Prop := ∀ σ F H Q, Ty X.K R G σ F H → CtW X.K R F H P Q → tOf X e σ H Q
theorem ew_of {e : Expr} {P : Dt → Prop} (h : EN X R G e fun ds => P (.lst ds)) : EW X R G e P := fun σ F H Q ty c => h σ F H Q ty fun p F' H' ds vs ex hp nM ho fp r q => c p F' H' (.lst ds) ex hp nM fp ⟨vs, ho, r⟩ q
theorem ew_bor (i : Nat) {d0 : Dt} {e : Expr} {P : Dt → Prop} (hg : G[i]? = some (.ow d0)) (h : EW X R (G.set i (.sh d0)) e fun d => freO (kOf d0) d = true ∧ P d) : EW X R G e P := fun σ F H Q ty c => by
  obtain ⟨o, hs, fo, nM, ow⟩ := ty.own hg
  obtain ⟨u, hu, hk⟩ := ow.kd
  refine h σ (upd F o u) H Q (ty.lend hg hs fo nM ow hu) fun p F' H' d ex hp nMp fp ho ⟨hf, q⟩ => c p (del F' o) H' d (ext_del fo ex) hp nMp ?_ (ho.del (ex.ff _ _ upd_same) hk hf) q
  by_cases e : p = o
  · subst e; exact del_same
  · rw [del_ne e]; exact fp
theorem s_aO (i : Nat) {x : Str} {e : Expr} {pos' : Pos} (hN : X.N.Nodup) (h : EW X R G e fun d => k.nx (G.set i (.ow d))) (hi : X.N[i]? = some x := by rfl) (hx : Loc X.env.scope x := by first | exact Or.inl rfl | exact Or.inr rfl)
    (hs : swapsWith e (some (.Name x pos')) pos.line X.env = pure false := by rfl) (hf : X.fn x = true ∨ X.env.scope.names.lookup x = some .local := by first | exact .inl rfl | exact .inr rfl | assumption) : S1 X R (.Assign [.Name x pos'] e pos) G k := fun F0 H0 σ F H D ty b c =>
  s1Of.of (ps_set hN hi hx pe_w hs hf) (h σ F H _ ty fun p F1 H1 d ex hp nM fp ho q => c.nx _ _ F1 H1 q (ty.setOwn ex i hp nM fp ho) (b.setOwn ex i hp))
/-- return of a new thing, of one's own thing -/
theorem s_retO {e : Expr} (h : EW X R (G.map vis) e k.rn) : S1 X R (.Return (some e) pos) G k := s1_frz fun F0 H0 σ F H D ty b c =>
  s1Of.of (ps_ret pe_w) (h σ F H _ ty fun p F1 H1 d ex hp nM fp ho q => c.rn d p F1 H1 q (b.ext.trans ex) (b.ext.free hp) fp ho)
end
/-! ### defs that give back new things -/
def spN (K : PySem.W.Frag) (n : Nat) (φ : Ph) : Sp := fun vs H Q E => vs.length = n ∧ ∃ F ds q x, Same F H ∧ RpL K F ds vs ∧ φ ds q x ∧ (∀ p F' H' d, Ext .nil F H F' H' → H p = none → F' p = none → OwO K F' H' p d → q d → Q (.ref p) H') ∧ XOk K .nil F H x E
theorem spN_of {K : PySem.W.Frag} {n : Nat} {φ : Ph} {vs : List V} {H : Hp} {Q : VK} {E : XK} (h : spD K n φ vs H Q E) : spN K n φ vs H Q E := by
  obtain ⟨hl, F, ds, q, x, sf, r, hφ, hq, hx⟩ := h
  refine ⟨hl, F, ds, q, x, sf, r, hφ, fun p F' H' d ex hp fp ho qd => ?_, hx⟩
  obtain ⟨u, hu, _⟩ := ho.kd
  refine hq (.ref p) (upd F' p u) H' d ⟨wf_one ex.wf (fun z => z) hu, ex.ff.trans (same_upd1 fp), ex.hh, fun a h n => ?_⟩ (owo_rp ho (same_upd1 fp) (by rw [upd_same, hu])) qd
  rw [upd_ne (fun z => h.ne (by rw [z]; exact hp))]
  exact ex.fr a h n
section
variable {P : Program} {w : World} {K : PySem.W.Frag} {mg : Str → Option Value} {base : Heap}
theorem fn_ND {f : Addr} {fd : FuncData} {ps : List Str} {k n : Nat} {φ : Ph} (F : FnOk P w K mg base (L2N.CX P w) k f fd ps (spN K n φ)) : FnOk P w K mg base (L2N.CX P w) k f fd ps (spD K n φ) := by
  obtain ⟨a, b⟩ := F
  exact ⟨fun vs H Q E h => a vs H Q E (spN_of h), fun A st s H ca us vs Q E h1 h2 h3 h4 h5 => b A st s H ca us vs Q E h1 h2 h3 h4 (spN_of h5)⟩
theorem fn_okN {x qual : Str} {st : Stmt} {f : Addr} {fd : FuncData} {dvs : List V} {kws : List (Str × V)} {N ps : List Str} {k n : Nat} {φ : Ph} (F : FD K x qual st dvs kws f fd) (Sc : FnScope N ps (defScope st)) (hn : n = ps.length)
    (h : ∀ (X : Cx) (cdv : Value) (A : Around) (outer : List Env) (s : Shared) (H : Hp) (E : XK) (ds : List Dt) (q : Dt → Prop) (xd : XD), X = cxOf (L2N.CX P w) P w K mg base N qual (defScope st) f cdv A outer s H E → Room k X.A → φ ds q xd → ds.length = n →
      (∀ F, Wf .nil F H → XOk K .nil F H xd E → S X .nil (defBody st) (st0 N ds) { nx := fun _ => False, rt := fun _ => False, rn := q })) : FnOk P w K mg base (L2N.CX P w) (k + 1) f fd ps (spN K n φ) := by
  refine FunD.ok F Sc (fun vs H Q E hh => by rw [hh.1, hn]) fun cdv A outer s H vs Q E hr hh => ?_
  obtain ⟨hl, F0, ds, q, xd, sf, r, hφ, hq, hx⟩ := hh
  have hS := h _ cdv A outer s H E ds q xd rfl hr hφ (by rw [r.length, hl]) F0 (wf_nil sf) hx
  refine ⟨_, pss_w, hS F0 H _ F0 H _ ⟨wf_nil sf, ?_, by unfold st0; rw [owns0]; exact .nil⟩ ⟨.refl (wf_nil sf), (by unfold st0; rw [owns0]; intro o ho; cases ho), trivial⟩ ⟨fun _ _ _ _ z => z.elim, fun _ _ _ _ z => z.elim, fun d p F1 H1 z e hp fp ho => hq p F1 H1 d e hp fp ho z, fun _ _ _ _ z => z.elim, fun _ _ _ _ z => z.elim⟩⟩
  unfold st0 L2.start
  rw [r.length]
  exact sls0 _ r
end
section
variable {X : Cx} {R : Reg} {G : List Sl} {pos : Pos} {k : Kt}
end
end VS
set_option Elab.async false
set_option linter.all false
set_option maxRecDepth 100000
/-! a thing of one's own, lent for a statement. -/
namespace VS
open PySem PySem.Spec L2
/-- data that lie at a place -/
def placed : Dt → Bool
  | .lst _ => true
  | .frl _ => true
  | .tup _ => true
  | .dT _ _ => true
  | .dK _ _ => true
  | .obj _ _ _ => true
  | .adr _ => true
  | .key _ => true
  | _ => false
/-- slots with their places told: those of G, as they stand while the thing in slot i is lent -/
inductive Tg (tg : Nat → Addr) (i : Nat) (d0 : Dt) : Nat → List Sl → List Sl → Prop where
  | nil {n : Nat} : Tg tg i d0 n [] []
  | keep {n : Nat} {g : Sl} {G T : List Sl} (hn : n ≠ i) (h : Tg tg i d0 (n + 1) G T) : Tg tg i d0 n (g :: G) (g :: T)
  | tag {n : Nat} {d : Dt} {G T : List Sl} (hn : n ≠ i) (hd : placed d = true) (h : Tg tg i d0 (n + 1) G T) : Tg tg i d0 n (.sh d :: G) (.sh (.at_ (tg n) d) :: T)
  | me {G T : List Sl} (h : Tg tg i d0 (i + 1) G T) : Tg tg i d0 i (.ow d0 :: G) (.sh (.at_ (tg i) d0) :: T)
/-- A as it stands at the end, G as it stood, what is left then -/
inductive Bk (κ : Nat) (tg : Nat → Addr) (i : Nat) (d0 : Dt) : Nat → List Sl → List Sl → List Sl → Prop where
  | nil {n : Nat} : Bk κ tg i d0 n [] [] []
  | no {n : Nat} {a g : Sl} {A G B : List Sl} (hn : n ≠ i) (h : Bk κ tg i d0 (n + 1) A G B) : Bk κ tg i d0 n (a :: A) (g :: G) (.no :: B)
  | free {n : Nat} {d : Dt} {g : Sl} {A G B : List Sl} (hn : n ≠ i) (hf : fre κ d = true) (h : Bk κ tg i d0 (n + 1) A G B) : Bk κ tg i d0 n (.sh d :: A) (g :: G) (.sh d :: B)
  | tag {n : Nat} {d : Dt} {A G B : List Sl} (hn : n ≠ i) (hd : placed d = true) (h : Bk κ tg i d0 (n + 1) A G B) : Bk κ tg i d0 n (.sh (.at_ (tg n) d) :: A) (.sh d :: G) (.sh d :: B)
  | own {n : Nat} {d : Dt} {g : Sl} {A G B : List Sl} (hn : n ≠ i) (hf : freO κ d = true) (h : Bk κ tg i d0 (n + 1) A G B) : Bk κ tg i d0 n (.ow d :: A) (g :: G) (.ow d :: B)
  | me {A G B : List Sl} (h : Bk κ tg i d0 (i + 1) A G B) : Bk κ tg i d0 i (.sh (.at_ (tg i) d0) :: A) (.ow d0 :: G) (.ow d0 :: B)
section
variable {K : PySem.W.Frag} {R : Reg} {F H : Hp} {tg : Nat → Addr} {i : Nat} {d0 : Dt} {κ : Nat}
end
section
variable {X : Cx} {R : Reg} {G : List Sl} {pos : Pos} {k : Kt}
/-- a variable whose place is told -/
theorem e_vA (i : Nat) {x : Str} {a : Addr} {d : Dt} {P : Dt → Prop} (p : P d) (hg : G[i]? = some (.sh (.at_ a d)) := by rfl) (hN : X.N[i]? = some x := by rfl) (hv : Vis X.env.scope x := by first | exact Or.inl rfl | exact Or.inr (Or.inl rfl) | exact Or.inr (Or.inr rfl))
    (hd : (x == ("__debug__" : Str)) = false := by decide) (hcd : (x == ("__classdict__" : Str)) = false := by decide) : E X R G (.Name x pos) P := fun σ F H Q ty c => by
  obtain ⟨v, e1, y, e2, r⟩ := ty.sl.get hg
  simp only [Rp] at r
  exact tOf.of (pe_var hN hv hd hcd) ⟨y, by rw [e1, e2], c.here ty.wf r.2 p⟩
/-- the address that a slot holds -/
def adrOf : Option (Option V) → Addr
  | some (some (.ref a)) => a
  | _ => default
mutual
theorem rp_ref {K : PySem.W.Frag} {F : Hp} : ∀ {d : Dt} {v : V}, Rp K F d v → (∃ xs, d = .lst xs) ∨ (∃ xs, d = .frl xs) ∨ (∃ xs, d = .tup xs) ∨ (∃ ks xs, d = .dT ks xs) ∨ (∃ ks xs, d = .dK ks xs) ∨ (∃ C ns xs, d = .obj C ns xs) ∨ (∃ a, d = .adr a) ∨ (∃ ks, d = .key ks) → ∃ a, v = .ref a
  | d, v, h, hd => by
    rcases hd with ⟨xs, rfl⟩ | ⟨xs, rfl⟩ | ⟨xs, rfl⟩ | ⟨ks, xs, rfl⟩ | ⟨ks, xs, rfl⟩ | ⟨C, ns, xs, rfl⟩ | ⟨a, rfl⟩ | ⟨ks, rfl⟩
    · obtain ⟨a, _, e, _⟩ := rp_lst.mp h; exact ⟨a, e⟩
    · obtain ⟨a, _, e, _⟩ := rp_frl.mp h; exact ⟨a, e⟩
    · obtain ⟨a, _, e, _⟩ := rp_tup.mp h; exact ⟨a, e⟩
    · obtain ⟨a, _, e, _⟩ := rp_dT.mp h; exact ⟨a, e⟩
    · simp only [Rp] at h; obtain ⟨a, _, e, _⟩ := h; exact ⟨a, e⟩
    · obtain ⟨a, _, _, e, _⟩ := rp_obj.mp h; exact ⟨a, e⟩
    · exact ⟨a, rp_adr.mp h⟩
    · obtain ⟨a, e, _⟩ := rp_key.mp h; exact ⟨a, e⟩
end
end
end VS
set_option Elab.async false
set_option linter.all false
set_option maxRecDepth 100000
/-! a list within a thing, changed: at a law's top, where nothing need stay. -/
namespace VS
open PySem PySem.Spec L2
/-- no reference -/
def flatD : Dt → Bool
  | .non => true
  | .bl _ => true
  | .int _ => true
  | .str _ => true
  | .ty _ => true
  | _ => false
def headF : List Dt → Bool
  | [] => true
  | x :: _ => flatD x
mutual
/-- data in which no list stands that begins with a reference -/
def freQ : Dt → Bool
  | .tup xs => freQL xs
  | .lst xs => headF xs && freQL xs
  | .frl xs => headF xs && freQL xs
  | .dT _ xs => freQL xs
  | .dK _ xs => freQL xs
  | .obj _ _ xs => freQL xs
  | .exv _ _ xs _ => freQL xs
  | .at_ _ d => freQ d
  | .non => true
  | .bl _ => true
  | .int _ => true
  | .str _ => true
  | .ty _ => true
  | .adr _ => true
  | .key _ => true
def freQL : List Dt → Bool
  | [] => true
  | x :: xs => freQ x && freQL xs
end
section
variable {K : PySem.W.Frag} {F : Hp} {p : Addr} {x : Addr} {ws : List V}
theorem flat_head {ds : List Dt} {vs : List V} (h : RpL K F ds vs) (hf : headF ds = true) : vs ≠ .ref x :: ws := fun e => by
  cases ds with
  | nil => rw [show vs = [] from by simpa only [RpL] using h] at e; cases e
  | cons d ds =>
    obtain ⟨v, r, rfl, h1, h2⟩ := RpL.of_cons h
    injection e with e1 e2
    subst e1
    cases d <;> simp only [headF, flatD, Bool.false_eq_true] at hf <;> simp only [Rp] at h1 <;> cases h1
mutual
theorem rp_delQ (hp : F p = some (.lst (.ref x :: ws))) : ∀ {d : Dt} {v : V}, Rp K F d v → freQ d = true → Rp K (del F p) d v
  | .non, _, h, _ => by simp only [Rp] at h ⊢; exact h
  | .bl _, _, h, _ => by simp only [Rp] at h ⊢; exact h
  | .int _, _, h, _ => by simp only [Rp] at h ⊢; exact h
  | .str _, _, h, _ => by simp only [Rp] at h ⊢; exact h
  | .ty _, _, h, _ => by simp only [Rp] at h ⊢; exact h
  | .adr _, _, h, _ => by simp only [Rp] at h ⊢; exact h
  | .tup xs, _, h, hf => by
    simp only [Rp] at h ⊢
    simp only [freQ] at hf
    obtain ⟨a, vs, h1, h2, h3⟩ := h
    exact ⟨a, vs, h1, sqt_del (κ := 0) hp ⟨_, rfl⟩ h2, rpL_delQ hp h3 hf⟩
  | .lst xs, _, h, hf => by
    simp only [Rp] at h ⊢
    simp only [freQ, Bool.and_eq_true] at hf
    obtain ⟨a, vs, h1, h2, h3⟩ := h
    exact ⟨a, vs, h1, del_at hp (fun z => flat_head h3 hf.1 (HO.lst.inj z).symm) h2, rpL_delQ hp h3 hf.2⟩
  | .frl xs, _, h, hf => by
    simp only [Rp] at h ⊢
    simp only [freQ, Bool.and_eq_true] at hf
    obtain ⟨a, vs, h1, h2, h3⟩ := h
    refine ⟨a, vs, h1, ?_, rpL_delQ hp h3 hf.2⟩
    rcases h2 with (h | ⟨z, h⟩) | h
    · exact .inl (.inl (del_at hp (fun z => flat_head h3 hf.1 (HO.lst.inj z).symm) h))
    · exact .inl (.inr ⟨z, del_at hp (fun z => nomatch z) h⟩)
    · exact .inr h
  | .dT ks xs, _, h, hf => by
    simp only [Rp] at h ⊢
    simp only [freQ] at hf
    obtain ⟨a, vs, h1, h2, h4, h3⟩ := h
    exact ⟨a, vs, h1, rd_del (κ := 0) hp ⟨_, rfl⟩ (fun z => nomatch z) h2, h4, rpL_delQ hp h3 hf⟩
  | .dK ks xs, _, h, hf => by
    simp only [Rp] at h ⊢
    simp only [freQ] at hf
    obtain ⟨a, vs, h1, h2, h4, h3⟩ := h
    exact ⟨a, vs, h1, rd_del (κ := 0) hp ⟨_, rfl⟩ (fun z => nomatch z) h2, h4, rpL_delQ hp h3 hf⟩
  | .key ks, _, h, hf => by
    simp only [Rp] at h ⊢
    obtain ⟨a, h1, h2⟩ := h
    exact ⟨a, h1, del_at hp (fun z => nomatch z) h2⟩
  | .obj C ns xs, _, h, hf => by
    simp only [Rp] at h ⊢
    simp only [freQ] at hf
    obtain ⟨a, dx, vs, h1, h2, h4, h3⟩ := h
    exact ⟨a, dx, vs, h1, del_at hp (fun z => nomatch z) h2, h4, rpL_delQ hp h3 hf⟩
  | .exv a ns xs d, _, h, hf => by
    simp only [Rp] at h ⊢
    simp only [freQ] at hf
    refine ⟨h.1, fun dx hd => ?_⟩
    obtain ⟨vs, h1, h2, h3⟩ := h.2 dx hd
    exact ⟨vs, del_at hp (fun z => nomatch z) h1, h2, rpL_delQ hp h3 hf⟩
  | .at_ a d, _, h, hf => by
    simp only [Rp] at h ⊢
    simp only [freQ] at hf
    exact ⟨h.1, rp_delQ hp h.2 hf⟩
theorem rpL_delQ (hp : F p = some (.lst (.ref x :: ws))) : ∀ {ds : List Dt} {vs : List V}, RpL K F ds vs → freQL ds = true → RpL K (del F p) ds vs
  | [], _, h, _ => by simp only [RpL] at h ⊢; exact h
  | d :: ds, _, h, hf => by
    simp only [RpL] at h ⊢
    simp only [freQL, Bool.and_eq_true] at hf
    obtain ⟨v, r, h1, h2, h3⟩ := h
    exact ⟨v, r, h1, rp_delQ hp h2 hf.1, rpL_delQ hp h3 hf.2⟩
end
end
/-- what may be said still when such a list was changed -/
inductive Nb : List Sl → List Sl → Prop where
  | nil : Nb [] []
  | no {g : Sl} {G B : List Sl} (h : Nb G B) : Nb (g :: G) (.no :: B)
  | sh {d : Dt} {G B : List Sl} (hf : freQ d = true) (h : Nb G B) : Nb (.sh d :: G) (.sh d :: B)
section
variable {K : PySem.W.Frag} {R : Reg} {F H : Hp} {p : Addr} {x : Addr} {ws ws' : List V}
end
/-- statements after which nothing need stay -/
structure KM (K : PySem.W.Frag) (R : Reg) (k : Kt) (D : Ends) : Prop where
  nx : ∀ G σ F H, k.nx G → Ty K R G σ F H → D.nx σ H
  rt : ∀ d v F H, k.rt d → Wf R F H → Rp K F d v → D.rt v H
  rn : ∀ d, ¬ k.rn d
  bk : ∀ G, ¬ k.bk G
  ct : ∀ G, ¬ k.ct G
def SM (X : Cx) (R : Reg) (ss : List Stmt) (G : List Sl) (k : Kt) : Prop := ∀ σ F H D, Ty X.K R G σ F H → KM X.K R k D → sOf X ss D σ H
section
variable {X : Cx} {R : Reg} {G : List Sl} {pos : Pos} {k : Kt}
open Classical in
/-- only the region is kept -/
noncomputable def regH (R : Reg) (H : Hp) : Hp := fun a => if R.M a then H a else none
end
section
variable {P : Program} {w : World} {K : PySem.W.Frag} {mg : Str → Option Value} {base : Heap}
end
end VS
set_option Elab.async false
set_option linter.all false
set_option maxRecDepth 100000
/-! own classes: len, repr, [], != ; text.join. -/
namespace VS
open PySem PySem.Spec L2
section
open PySem.W (InstAt Looks)
variable {prog : Program} {w : World} {A : Around} {E : Value → Shared → Prop} {s : Shared} {K : PySem.W.Frag} {x C f : Addr} {ox : Obj} {od : Option Obj}
theorem ifBoundB {M : Model} {id : String} {name : Str} {args : List Value} {Q : Option Value → Shared → Prop} (KX : K.In s.heap) (J : InstAt s.heap x ox C od) (hs : PySem.W.findIn K (.ref C) name = some (some (.builtin id))) (S : Slot "object" name id)
    (h : wpAny M A (call (.builtin id) (.ref x :: args)) (fun v => Q (some v)) E s) : wpAny M A (callSpecialIfBound? (.ref x) name args) Q E s := by
  simp only [callSpecialIfBound?, bindSpecialIfBound?]
  refine wpAny_holding (wpAny_bind (wpAny_bind (wpAny_bind (J.type.here ((PySem.W.looks_findIn KX hs).here ?_)))))
  simp only [S.bind]
  refine wpAny_bind (wpAny_askSetting (wpAny_ite ?_))
  have fin : wpAny M A (call (.builtin id) ([.ref x] ++ args) >>= fun v => pure (some v)) Q E s := wpAny_bind (wpAny_mono h (fun v s' h' => wpAny_pure h') fun _ _ h' => h')
  split
  · exact wpAny_bind (wpAny_pure (wpAny_pure fin))
  · exact wpAny_tryCatch (wpAny_bind (wpAny_pure (wpAny_pure fin)))
theorem ne_entry {b : Value} {Q : Fin → Shared → Prop} (hu : A.units < cLine) (KX : K.In s.heap) (J : InstAt s.heap x ox C od) (hs : PySem.W.findIn K (.ref C) "__eq__" = some (some (.ref f))) (hf : PySem.W.isFn K (.ref f) = true)
    (h : wpAny (model prog w) A (call (.ref f) [.ref x, b]) (fun v s' => ∃ c, v = .bool c ∧ Q (.done (.ret (.bool (!c)))) s') E s) : wpAny (model prog w) A (Builtin.«object.__ne__» ⟨[.ref x, b], []⟩) Q E s := by
  unfold Builtin.«object.__ne__»
  repeat (first
    | with_reducible refine wpAny_cRoomFor hu ?_
    | (refine wpAny_bind (m := callSpecialIfBound? (.ref x) (Str.ofString "__eq__") [b])
        (PySem.W.ifBound_K KX J hs hf (wpAny_mono h (fun r s' hr => by
          obtain ⟨c, rfl, hq⟩ := hr
          repeat (first | exact hq | exact wpAny_pure hq | exact wpAny_truthy_bool hq | (refine wpAny_bind (m := truthy (.bool _)) (wpAny_truthy_bool ?_)) | wp_step)) fun _ _ e => e)))
    | wp_step)
theorem cmp_ne {b tb : Value} {Q : Value → Shared → Prop} (hu : A.units + 1 < cLine) (KX : K.In s.heap) (J : InstAt s.heap x ox C od) (hb : Looks (model prog w) s.heap (typeOf b) tb) (hn : PySem.W.notFirst K C tb = true)
    (hne : PySem.W.findIn K (.ref C) "__ne__" = some (some (.builtin "object.__ne__"))) (hso : PySem.W.subIn K (.ref C) (.type "object") = some true) (hs : PySem.W.findIn K (.ref C) "__eq__" = some (some (.ref f))) (hf : PySem.W.isFn K (.ref f) = true)
    (h : wpAny (model prog w) A.in1 (call (.ref f) [.ref x, b]) (fun v s' => ∃ c, v = .bool c ∧ Q (.bool (!c)) s') E s) : wpAny (model prog w) A (richCompare .NotEq (.ref x) b) Q E s := by
  have one : wpAny (model prog w) A (tryCompare (.ref x) (cmpInfo .NotEq).2.1 b) (fun r s' => ∃ v, r = some v ∧ Q v s') E s := by
    rw [cmpInfo_NotEq]
    unfold tryCompare
    refine wpAny_bind (ifBoundB KX J hne PySem.F.cmp_object.ne (wpAny_call (codeAny_call_builtin PySem.F.cmp_object.ne.plain PySem.F.cmpEntry_ne (PySem.W.check_slot PySem.F.cmpKind_ne PySem.F.cmpSplit_ne (J.type.andThen (PySem.W.looks_subIn KX hso)) (PySem.F.cmpArgs_ne _ _) (ne_entry (A := A.in1) hu KX J hs hf (wpAny_mono h (fun v s' hv => ?_) fun _ _ e => e))))))
    obtain ⟨c, rfl, hq⟩ := hv
    first | exact ⟨c, rfl, wpAny_pure ⟨_, rfl, hq⟩⟩ | exact ⟨c, rfl, wpAny_pure (wpAny_pure ⟨_, rfl, hq⟩)⟩ | exact ⟨c, rfl, _, rfl, hq⟩
  unfold richCompare
  simp only [oneThing_ref]
  refine wpAny_holding (wpAny_bind (wpAny_cRoomFor (Nat.lt_of_succ_lt hu) ?_))
  refine wpAny_bind (J.type.here (wpAny_bind (hb.here ?_)))
  split
  · rename_i q
    have e : PySem.W.subIn K tb (.ref C) = some false := by
      rcases Bool.or_eq_true_iff.mp hn with e | e
      · rw [beq_iff_eq.mp e] at q; simp at q
      · exact beq_iff_eq.mp e
    refine wpAny_bind ((PySem.W.looks_subIn KX e).here ?_)
    simp only [Bool.false_eq_true, if_false]
    refine wpAny_bind (wpAny_mono one (fun r s' z => ?_) fun _ _ e => e)
    obtain ⟨v, rfl, hq⟩ := z
    exact wpAny_pure hq
  · refine wpAny_bind (wpAny_pure ?_)
    simp only [Bool.false_eq_true, if_false]
    refine wpAny_bind (wpAny_mono one (fun r s' z => ?_) fun _ _ e => e)
    obtain ⟨v, rfl, hq⟩ := z
    exact wpAny_pure hq
end
section
variable {X : Cx} {R : Reg} {G : List Sl} {pos : Pos} {k : Kt}
/-- what a class tells of != -/
structure NeC (K : PySem.W.Frag) (C : Addr) : Prop where
  ne : PySem.W.findIn K (.ref C) "__ne__" = some (some (.builtin "object.__ne__"))
  sub : PySem.W.subIn K (.ref C) (.type "object") = some true
theorem neB_ok {K : PySem.W.Frag} {C : Addr} (h : neB K C = true) : NeC K C := by
  obtain ⟨h1, h2⟩ := He.ba h
  exact ⟨of_decide_eq_true h1, of_decide_eq_true h2⟩
theorem nf_self {K : PySem.W.Frag} {C : Addr} : PySem.W.notFirst K C (.ref C) = true := by simp [PySem.W.notFirst]
/-- p != d -/
theorem w_neO {C : Addr} {ps : List Str} {φ : Ph} {j : Nat} {ns : List Str} {xs : List Dt} {d : Dt} {t : Value} {P : Dt → Prop} (F : FnI X.prog X.w X.K X.mg X.base j C "__eq__" ps [] (spD X.K 2 φ)) (hr : Room j X.A) (hu : X.A.units + 1 < cLine) (nc : NeC X.K C) (ht : TyD X.K d t) (hn : PySem.W.notFirst X.K C t = true)
    (hφ : φ [.obj C ns xs, d] (fun r => ∃ b, r = .bl b ∧ P (.bl (!b))) fun _ _ _ => False) : W2 X R (compareOp .NotEq) (.obj C ns xs) d P := fun F0 H x y Q w rx ry c => by
  have rx0 := rx
  obtain ⟨a, dx, vs, rfl, h1, _, _⟩ := rp_obj.mp rx
  obtain ⟨j', hj, F'⟩ := F.ex
  obtain ⟨f, hM, _, run⟩ := F'.run
  unfold opOf
  intro pins s σ v u I rv ru
  cases rv
  obtain ⟨od, J⟩ := inst_at I w h1
  have hty := ht F0 H y w.fh ry
  refine cmp_ne hu I.kIn J ?_ hn nc.ne nc.sub hM.at_ hM.fn (wpAny_mono (run (Q := fun v H' => ∃ b, v = .bl b ∧ Q (.bl (!b)) H') (vs := [.ref a, y]) (hr.mono hj) I (.cons rfl (.cons ru .nil)) (spD_of w (.cons rx0 (.cons ry .nil)) rfl hφ fun v F1 H1 d ex r ⟨b, e, p⟩ => by
    subst e
    exact ⟨b, rp_bl.mp r, c _ F1 H1 _ ex (rp_bl.mpr rfl) p⟩)) (fun v s' h => ?_) fun _ _ h => h)
  · obtain ⟨P', kx, hp⟩ := kit_of I ru hty
    exact kx.ty _ _ I.kIn hp.1
  · obtain ⟨z, H', I', rz, b, e, q⟩ := h
    subst e
    obtain rfl : v = Value.bool b := rz
    exact ⟨b, rfl, .bl (!b), H', I', rfl, q⟩
end
end VS
set_option Elab.async false
set_option linter.all false
set_option maxRecDepth 100000
/-! dicts whose keys are tuples. -/
namespace VS
open PySem PySem.Spec L2
def keyD : Key → Dt
  | .inl i => .int i
  | .inr z => .str z
theorem rpL_keys {K : PySem.W.Frag} {F : Hp} : ∀ ks : List Key, RpL K F (ks.map keyD) (ks.map kV)
  | [] => .nil
  | .inl i :: ks => .cons (rp_int.mpr rfl) (rpL_keys ks)
  | .inr z :: ks => .cons (rp_str.mpr rfl) (rpL_keys ks)
theorem rpL_keys_of {K : PySem.W.Frag} {F : Hp} : ∀ {ks : List Key} {vs : List V}, RpL K F (ks.map keyD) vs → vs = ks.map kV
  | [], _, h => h.of_nil
  | .inl i :: ks, _, h => by
    obtain ⟨v, r, rfl, h1, h2⟩ := h.of_cons
    rw [rp_int.mp h1, rpL_keys_of h2]
    rfl
  | .inr z :: ks, _, h => by
    obtain ⟨v, r, rfl, h1, h2⟩ := h.of_cons
    rw [rp_str.mp h1, rpL_keys_of h2]
    rfl
theorem rp_key_tup {K : PySem.W.Frag} {F : Hp} {ks : List Key} {v : V} (h : Rp K F (.key ks) v) : Rp K F (.tup (ks.map keyD)) v := by
  obtain ⟨a, e, h⟩ := rp_key.mp h
  exact rp_tup.mpr ⟨a, _, e, .inl (.inl h), rpL_keys ks⟩
/-- what a dict holds -/
def lookT : List (List Key) → List Dt → List Key → Option Dt
  | k :: ks, x :: xs, q => if k = q then some x else lookT ks xs q
  | _, _, _ => none
theorem look_val {K : PySem.W.Frag} {F : Hp} {q : List Key} : ∀ {ks : List (List Key)} {xs : List Dt} {vs : List V}, RpL K F xs vs → ks.length = vs.length →
    (lookT ks xs q = none → L2.valV (ks.zip vs) q = none) ∧ ∀ d, lookT ks xs q = some d → ∃ v, L2.valV (ks.zip vs) q = some v ∧ Rp K F d v
  | [], xs, vs, r, hl => ⟨fun _ => rfl, fun d h => by cases xs <;> cases h⟩
  | k :: ks, [], vs, r, hl => by
    have := r.of_nil
    subst this
    simp at hl
  | k :: ks, x :: xs, vs, r, hl => by
    obtain ⟨v, t, rfl, r1, r2⟩ := r.of_cons
    have ih := look_val (q := q) (ks := ks) r2 (by simpa using hl)
    unfold lookT
    by_cases h : k = q
    · rw [if_pos h]
      refine ⟨fun z => (nomatch z), fun d e => ⟨v, ?_, by cases e; exact r1⟩⟩
      unfold L2.valV
      rw [List.zip_cons_cons, List.find?_cons_of_pos (by simpa using h)]
      rfl
    · rw [if_neg h]
      have e : L2.valV ((k :: ks).zip (v :: t)) q = L2.valV (ks.zip t) q := by
        unfold L2.valV
        rw [List.zip_cons_cons, List.find?_cons_of_neg (by simpa using h)]
      rw [e]
      exact ih
def repV {α : Type} (q : List Key) (y : α) : List (List Key) → List α → List α
  | k :: ks, x :: xs => (if k = q then y else x) :: repV q y ks xs
  | _, xs => xs
theorem rep_len {α : Type} (q : List Key) (y : α) : ∀ (ks : List (List Key)) (xs : List α), (repV q y ks xs).length = xs.length
  | [], xs => by simp [repV]
  | k :: ks, [] => rfl
  | k :: ks, x :: xs => by simp [repV, rep_len q y ks xs]
theorem rep_rp {K : PySem.W.Frag} {F : Hp} {q : List Key} {d : Dt} {v : V} (rd : Rp K F d v) : ∀ {ks : List (List Key)} {xs : List Dt} {vs : List V}, RpL K F xs vs → RpL K F (repV q d ks xs) (repV q v ks vs)
  | [], xs, vs, r => by simpa [repV] using r
  | k :: ks, [], vs, r => by rw [r.of_nil]; exact .nil
  | k :: ks, x :: xs, vs, r => by
    obtain ⟨w, t, rfl, r1, r2⟩ := r.of_cons
    show RpL K F ((if k = q then d else x) :: repV q d ks xs) ((if k = q then v else w) :: repV q v ks t)
    refine .cons ?_ (rep_rp rd r2)
    by_cases h : k = q
    · rw [if_pos h, if_pos h]; exact rd
    · rw [if_neg h, if_neg h]; exact r1
theorem rep_zip (q : List Key) (v : V) : ∀ (ks : List (List Key)) (vs : List V), (ks.zip vs).map (fun kv => if kv.1 = q then (kv.1, v) else kv) = ks.zip (repV q v ks vs)
  | [], vs => by simp
  | k :: ks, [] => by simp [repV]
  | k :: ks, w :: vs => by
    show (if k = q then (k, v) else (k, w)) :: ((ks.zip vs).map fun kv => if kv.1 = q then (kv.1, v) else kv) = (k, if k = q then v else w) :: ks.zip (repV q v ks vs)
    rw [rep_zip q v ks vs]
    by_cases h : k = q
    · rw [if_pos h, if_pos h]
    · rw [if_neg h, if_neg h]
def hasT (ks : List (List Key)) (q : List Key) : Bool := ks.any fun k => decide (k = q)
def putT (ks : List (List Key)) (q : List Key) : List (List Key) := if hasT ks q = true then ks else ks ++ [q]
def putX (ks : List (List Key)) (xs : List Dt) (q : List Key) (d : Dt) : List Dt := if hasT ks q = true then repV q d ks xs else xs ++ [d]
theorem put_zipT {K : PySem.W.Frag} {F : Hp} {ks : List (List Key)} {xs : List Dt} {vs : List V} {q : List Key} {d : Dt} {v : V} (r : RpL K F xs vs) (hl : ks.length = vs.length) (rd : Rp K F d v) :
    ∃ ws, L2.putK (ks.zip vs) q v = (putT ks q).zip ws ∧ (putT ks q).length = ws.length ∧ RpL K F (putX ks xs q d) ws := by
  have ha : ((ks.zip vs).any fun kv => decide (kv.1 = q)) = hasT ks q := by
    unfold hasT
    rw [Bool.eq_iff_iff, List.any_eq_true, List.any_eq_true]
    constructor
    · rintro ⟨kv, h1, h2⟩
      exact ⟨kv.1, (List.of_mem_zip h1).1, h2⟩
    · rintro ⟨z, h, h2⟩
      obtain ⟨i, hi, e⟩ := List.mem_iff_getElem.mp h
      have hz : i < (ks.zip vs).length := by rw [List.length_zip]; omega
      exact ⟨(ks.zip vs)[i], List.getElem_mem hz, by rw [List.getElem_zip, e]; exact h2⟩
  unfold L2.putK putT putX
  rw [ha]
  by_cases h : hasT ks q = true
  · rw [if_pos h, if_pos h, if_pos h, rep_zip]
    exact ⟨_, rfl, by rw [rep_len]; exact hl, rep_rp rd r⟩
  · rw [if_neg h, if_neg h, if_neg h]
    exact ⟨vs ++ [v], by rw [List.zip_append hl]; rfl, by simp [hl], r.append (.cons rd .nil)⟩
section
variable {X : Cx} {R : Reg} {G : List Sl} {pos : Pos} {k : Kt}
/-- a key read as a tuple -/
theorem e_asT {e : Expr} {P : Dt → Prop} (h : E X R G e fun d => ∃ ks, d = .key ks ∧ P (.tup (ks.map keyD))) : E X R G e P := fun σ F H Q ty c => h σ F H Q ty fun v F' H' d ex r ⟨ks, ed, p⟩ => by
  subst ed
  exact c v F' H' _ ex (rp_key_tup r) p
/-- (e, ..), a key -/
theorem e_key {es : List Expr} {x1} {P : Dt → Prop} (h : EA X R G es fun ds => ∃ ks : List Key, ds = ks.map keyD ∧ ds.length ≤ 100000 ∧ P (.key ks)) : E X R G (.Tuple es x1 pos) P := fun σ F H Q ty c =>
  tOf.of (pe_tup pa_w) (h σ F H _ ty fun vs F1 H1 ds ex1 r1 ⟨ks, e, hl, p⟩ => by
    subst e
    have ev := rpL_keys_of r1
    refine ⟨by rw [← r1.length]; exact Nat.le_trans hl (by decide), fun q hq => c _ _ _ _ (ex1.trans (ex1.wf.made hq)) (rp_key.mpr ⟨q, rfl, ?_⟩) p⟩
    rw [upd_same, ev])
theorem dget_of {F H : Hp} {ks : List (List Key)} {xs : List Dt} {q : List Key} {v y : V} (s : Same F H) (r : Rp X.K F (.dT ks xs) v) (ry : Rp X.K F (.key q) y) : ∃ a o, v = .ref a ∧ L2.DGet H a y o ∧ L2.IsD H a ∧ (lookT ks xs q = none → o = none) ∧ ∀ d, lookT ks xs q = some d → ∃ w, o = some w ∧ Rp X.K F d w := by
  obtain ⟨a, vs, e, h1, hl, rl⟩ := rp_dT.mp r
  obtain ⟨b, eb, hb⟩ := rp_key.mp ry
  obtain ⟨n1, n2⟩ := look_val (q := q) rl hl
  exact ⟨a, _, e, .inr ⟨_, q, b, rd_mono s h1, eb, s _ _ hb, rfl⟩, .inr ⟨_, rd_mono s h1⟩, n1, n2⟩
/-- d[q] -/
theorem e_dget {o i : Expr} {P : Dt → Prop} (hu : X.A.units + 1 < cLine) (h : E X R G o fun d => ∃ ks xs, d = .dT ks xs ∧ E X R G i fun d' => ∃ q x, d' = .key q ∧ lookT ks xs q = some x ∧ P x) (hs : NoSl i := by intro _ _; rfl) : E X R G (.Subscript o i pos) P := fun σ F H Q ty c =>
  tOf.of (pe_dget hu pe_w pe_w hs) (h σ F H _ ty fun v F1 H1 d ex r ⟨ks, xs, e, h2⟩ => by
    subst e
    refine h2 σ F1 H1 _ (ty.ext ex) fun y F2 H2 d2 ex2 r2 ⟨q, x, e2, hx, p⟩ => ?_
    subst e2
    obtain ⟨a, ov, ea, g, _, _, n2⟩ := dget_of ex2.wf.fh (r.mono ex2.ff) r2
    obtain ⟨w, ew, rw'⟩ := n2 x hx
    subst ew
    exact ⟨a, w, ea, g, c w F2 H2 x (ex.trans ex2) rw' p⟩)
/-- d.get(q) -/
theorem e_dget1 {o e : Expr} {apos : Pos} {P : Dt → Prop} (hu : X.A.units + 1 < cLine) (h : E X R G o fun d => ∃ ks xs, d = .dT ks xs ∧ E X R G e fun d' => ∃ q, d' = .key q ∧ P ((lookT ks xs q).getD .non))
    (m : M1 X o "get" apos e pos := by exact ⟨rfl, rfl, rfl, rfl⟩) : E X R G (.Call (.Attribute o "get" apos) [e] [] pos) P := fun σ F H Q ty c =>
  tOf.of (pe_dget1 hu pe_w pe_w m) (h σ F H _ ty fun v F1 H1 d ex r ⟨ks, xs, e, h2⟩ => by
    subst e
    have r0 := r
    obtain ⟨a, vs, ea, h1, _, _⟩ := rp_dT.mp r
    refine ⟨a, ea, .inr ⟨_, rd_mono ex.wf.fh h1⟩, h2 σ F1 H1 _ (ty.ext ex) fun y F2 H2 d2 ex2 r2 ⟨q, e2, p⟩ => ?_⟩
    subst e2
    obtain ⟨a', ov, ea', g, _, n1, n2⟩ := dget_of ex2.wf.fh (r0.mono ex2.ff) r2
    rw [ea] at ea'
    cases ea'
    refine ⟨ov, g, ?_⟩
    cases hx : lookT ks xs q with
    | none =>
      rw [hx] at p
      rw [n1 hx]
      exact c .non F2 H2 .non (ex.trans ex2) (rp_non.mpr rfl) p
    | some x =>
      rw [hx] at p
      obtain ⟨w, ew, rw'⟩ := n2 x hx
      subst ew
      exact c w F2 H2 x (ex.trans ex2) rw' p)
/-- d.get(q, x) -/
theorem e_dget2 {o e f : Expr} {apos : Pos} {P : Dt → Prop} (hu : X.A.units + 1 < cLine) (h : E X R G o fun d => ∃ ks xs, d = .dT ks xs ∧ E X R G e fun d' => ∃ q, d' = .key q ∧ E X R G f fun d3 => P ((lookT ks xs q).getD d3))
    (m : M2 X o "get" apos e f pos := by exact ⟨rfl, rfl, rfl, rfl⟩) : E X R G (.Call (.Attribute o "get" apos) [e, f] [] pos) P := fun σ F H Q ty c =>
  tOf.of (pe_dget2 hu pe_w pe_w pe_w m) (h σ F H _ ty fun v F1 H1 d ex r ⟨ks, xs, e, h2⟩ => by
    subst e
    have r0 := r
    obtain ⟨a, vs, ea, h1, _, _⟩ := rp_dT.mp r
    refine ⟨a, ea, .inr ⟨_, rd_mono ex.wf.fh h1⟩, h2 σ F1 H1 _ (ty.ext ex) fun y F2 H2 d2 ex2 r2 ⟨q, e2, h3⟩ => ?_⟩
    subst e2
    refine h3 σ F2 H2 _ (ty.ext (ex.trans ex2)) fun z F3 H3 d3 ex3 r3 p => ?_
    obtain ⟨a', ov, ea', g, _, n1, n2⟩ := dget_of ex3.wf.fh (r0.mono (ex2.ff.trans ex3.ff)) (r2.mono ex3.ff)
    rw [ea] at ea'
    cases ea'
    refine ⟨ov, g, ?_⟩
    cases hx : lookT ks xs q with
    | none =>
      rw [hx] at p
      rw [n1 hx]
      exact c z F3 H3 d3 ((ex.trans ex2).trans ex3) r3 p
    | some x =>
      rw [hx] at p
      obtain ⟨w, ew, rw'⟩ := n2 x hx
      subst ew
      exact c w F3 H3 x ((ex.trans ex2).trans ex3) rw' p)
/-- q in d, q not in d -/
theorem e_din {i o : Expr} {P : Dt → Prop} (hu : X.A.units + 1 < cLine) (h : E X R G i fun d' => ∃ q, d' = .key q ∧ E X R G o fun d => ∃ ks xs, d = .dT ks xs ∧ P (.bl (lookT ks xs q).isSome)) (hb : behindInMarks .In o = false := by first | exact nobehind _ (by decide) (by decide) | rfl) : E X R G (.Compare i [.In] [o] pos) P := fun σ F H Q ty c =>
  tOf.of (pe_cmp (pc_din hu pe_w pe_w) hb) (h σ F H _ ty fun y F1 H1 d ex r ⟨q, e, h2⟩ => by
    subst e
    refine h2 σ F1 H1 _ (ty.ext ex) fun v F2 H2 d2 ex2 r2 ⟨ks, xs, e2, p⟩ => ?_
    subst e2
    obtain ⟨a, ov, ea, g, _, n1, n2⟩ := dget_of ex2.wf.fh r2 (r.mono ex2.ff)
    have e : ov.isSome = (lookT ks xs q).isSome := by
      cases hx : lookT ks xs q with
      | none => rw [n1 hx]; rfl
      | some x => obtain ⟨w, ew, _⟩ := n2 x hx; rw [ew]; rfl
    refine ⟨a, ov, ea, g, ?_⟩
    rw [e]
    exact c _ F2 H2 _ (ex.trans ex2) (rp_bl.mpr rfl) p)
theorem e_dnotin {i o : Expr} {P : Dt → Prop} (hu : X.A.units + 1 < cLine) (h : E X R G i fun d' => ∃ q, d' = .key q ∧ E X R G o fun d => ∃ ks xs, d = .dT ks xs ∧ P (.bl (!(lookT ks xs q).isSome))) (hb : behindInMarks .NotIn o = false := by first | exact nobehind _ (by decide) (by decide) | rfl) : E X R G (.Compare i [.NotIn] [o] pos) P := fun σ F H Q ty c =>
  tOf.of (pe_cmp (pc_dnotin hu pe_w pe_w) hb) (h σ F H _ ty fun y F1 H1 d ex r ⟨q, e, h2⟩ => by
    subst e
    refine h2 σ F1 H1 _ (ty.ext ex) fun v F2 H2 d2 ex2 r2 ⟨ks, xs, e2, p⟩ => ?_
    subst e2
    obtain ⟨a, ov, ea, g, _, n1, n2⟩ := dget_of ex2.wf.fh r2 (r.mono ex2.ff)
    have e : ov.isSome = (lookT ks xs q).isSome := by
      cases hx : lookT ks xs q with
      | none => rw [n1 hx]; rfl
      | some x => obtain ⟨w, ew, _⟩ := n2 x hx; rw [ew]; rfl
    refine ⟨a, ov, ea, g, ?_⟩
    rw [e]
    exact c _ F2 H2 _ (ex.trans ex2) (rp_bl.mpr rfl) p)
/-- the same as a test -/
theorem t_din {i o : Expr} {P : Bool → Prop} (hu : X.A.units + 1 < cLine) (h : E X R G i fun d' => ∃ q, d' = .key q ∧ E X R G o fun d => ∃ ks xs, d = .dT ks xs ∧ P (lookT ks xs q).isSome) (hb : behindInMarks .In o = false := by first | exact nobehind _ (by decide) (by decide) | rfl) : T X R G (.Compare i [.In] [o] pos) P := fun σ F H Q ty c =>
  ttOf.of (pt_cmp (pc_din hu pe_w pe_w) hb) (h σ F H _ ty fun y F1 H1 d ex r ⟨q, e, h2⟩ => by
    subst e
    refine h2 σ F1 H1 _ (ty.ext ex) fun v F2 H2 d2 ex2 r2 ⟨ks, xs, e2, p⟩ => ?_
    subst e2
    obtain ⟨a, ov, ea, g, _, n1, n2⟩ := dget_of ex2.wf.fh r2 (r.mono ex2.ff)
    have e : ov.isSome = (lookT ks xs q).isSome := by
      cases hx : lookT ks xs q with
      | none => rw [n1 hx]; rfl
      | some x => obtain ⟨w, ew, _⟩ := n2 x hx; rw [ew]; rfl
    refine ⟨a, ov, ea, g, _, rfl, ?_⟩
    rw [e]
    exact c _ F2 H2 (ex.trans ex2) p)
/-- {}, one's own -/
theorem ew_dnew {P : Dt → Prop} (p : P (.dT [] [])) : EW X R G (.Dict [] [] pos) P := fun σ F H Q ty c =>
  tOf.of pe_dnewT fun q hq => c q F _ (.dT [] []) (ty.wf.own hq) hq (ty.wf.new hq) (ty.wf.fh.free hq) ⟨[], upd_same, rfl, .nil⟩ p
/-- x[q] = e, x one's own dict -/
theorem s_dput (i : Nat) {x : Str} {e qe : Expr} {p pos' : Pos} {ks : List (List Key)} {xs : List Dt} (hu : X.A.units + 1 < cLine) (hg : G[i]? = some (.ow (.dT ks xs))) (hN : X.N[i]? = some x) (hv : Vis X.env.scope x) (hl : ks.length < 100000)
    (h : E X R G e fun d => E X R G qe fun d' => ∃ q, d' = .key q ∧ k.nx (G.set i (.ow (.dT (putT ks q) (putX ks xs q d)))))
    (hd : (x == ("__debug__" : Str)) = false := by decide) (hcd : (x == ("__classdict__" : Str)) = false := by decide) (hs : swapsWith e (some (.Subscript (.Name x p) qe pos')) pos.line X.env = pure false := by rfl) : S1 X R (.Assign [.Subscript (.Name x p) qe pos'] e pos) G k := fun F0 H0 σ F H D ty b c =>
  s1Of.of (ps_dput hu (pe_var hN hv hd hcd) pe_w pe_w hs) (h σ F H _ ty fun y F1 H1 d ex r h2 => by
    have ty1 := ty.ext ex
    obtain ⟨o, ho, fo, nM, vs, h1, hl1, rl⟩ := ty1.own hg
    refine ⟨.ref o, by rw [ho], h2 σ F1 H1 _ ty1 fun z F2 H2 d2 ex2 r2 ⟨q, e2, hk⟩ => ?_⟩
    subst e2
    have ty2 := ty1.ext ex2
    obtain ⟨o', ho', fo', nM', vs', h1', hl1', rl'⟩ := ty2.own hg
    rw [ho] at ho'
    cases ho'
    obtain ⟨bq, eb, hb⟩ := rp_key.mp r2
    subst eb
    refine ⟨o, _, rfl, L2.DPut.t h1' (ex2.wf.fh _ _ hb) (by rw [List.length_zip]; exact Nat.lt_of_le_of_lt (Nat.min_le_left _ _) (Nat.lt_of_lt_of_le hl (by decide))), ?_⟩
    obtain ⟨ws, e1, e3, e4⟩ := put_zipT (q := q) (d := d) (v := y) rl' hl1' (r.mono ex2.ff)
    have ty3 := ty2.mut (d' := .dT (putT ks q) (putX ks xs q d)) (u := .dT (L2.putK (ks.zip vs') q y)) hg ho ⟨ws, by rw [upd_same, e1], e3, e4⟩
    exact c.nx _ _ _ _ hk ty3 ((b.step (ex.trans ex2)).mut ty3 hg ho))
end
end VS
set_option Elab.async false
set_option linter.all false
set_option maxRecDepth 100000
set_option maxHeartbeats 2000000
/-! {k: v for ..} whose keys are tuples. -/
namespace VS
open PySem PySem.Spec L2 PyProof.Rows
/-- a pair stored by a comprehension, its key a tuple -/
theorem dset_tup {X : Cx} {pn : List (Addr × Obj)} {τ : L2.St} {H : Hp} {t : Shared} {Er : Value → Shared → Prop} {D b : Addr} {kvs : List (List Key × V)} {q : List Key} {y : V} {r : Value} {Q : Unit → Shared → Prop} (hu : X.A.units < cLine) (J : Inv X pn τ H t) (hD : H D = some (.dT kvs)) (hz : kvs.length < sizeLine)
    (hb : H b = some (.tup (q.map kV))) (ry : RelV y r) (h : ∀ t', Inv X pn τ (upd H D (.dT (L2.putK kvs q y))) t' → Q () t') : wpAny (model X.prog X.w) X.A (dictSet D (.ref b) r) Q Er t := by
  obtain ⟨z, hd, xs, rel, dd⟩ := L2.dt_of J.hok hD
  have hx : xs.length ≤ sizeLine := by
    have e := Paired.length rel
    omega
  have hp : (L2.putK kvs q y).length ≤ sizeLine := by
    have e := L2.length_putK kvs q y
    omega
  refine wpAny_dictSet_heap (hsz := hx) hu (L2.key_of J.hok hb) dd fun h' dd' hs => h _ ?_
  obtain ⟨u, es, ep, g1, g2, g3, g4, _, g5⟩ := dd'
  refine L2.d_write J (by rw [hD]; exact True.intro) hs ⟨u, g1⟩ ⟨hp, hd, _, (rel.put q hb ry).keeps fun c ys ec => ?_, u, es, ep, g1, g2, g3, g4, g5⟩
  have ne : c ≠ D := fun z => by
    rw [z, hD] at ec
    cases ec
  rw [upd_ne ne]
  exact ec
section
variable {X : Cx}
/-- the reading: D is the new dict -/
def tDcT (wi : TI) (g : TG) (tt : TT) (tk tv : TE) (vs : List Nat) : TE := fun τ H Q => wi τ H fun It H1 => ∀ D, H1 D = none → ∃ W : Nat → Nat → Hp → Prop, (∃ m, W 0 m (upd H1 D (.dT []))) ∧ ∀ i m H, W i m H →
  (It.stop i H ∧ Q (.ref D) H) ∨ (It.go i H ∧ ∃ Nx : Hp → Prop, (∀ H', Nx H' → ∃ m', m' < m ∧ W (i + 1) m' H') ∧ ∀ x H', It.yld i H x H' → g x (wipe τ vs) H' fun τ2 H2 => wipe τ2 vs = wipe τ vs ∧ tt τ2 H2 fun c H3 =>
    if c = true then tk τ2 H3 fun y H4 => tv τ2 H4 fun z H5 => ∃ kvs q b, y = .ref b ∧ H5 b = some (.tup (q.map kV)) ∧ H5 D = some (.dT kvs) ∧ kvs.length < sizeLine ∧ Nx (upd H5 D (.dT (L2.putK kvs q z))) else Nx H3)
theorem dcT_core {pn : List (Addr × Obj)} {t : Shared} {τ : L2.St} {H : Hp} {Q : VK} {kx vx tg src : Expr} {tests : List Expr} {sco : Scope} {mine : List (Str × Nat)} {ps ps' : Pos} {wi : TI} {g : TG} {tt : TT} {tk tv : TE} {use : Option (Value → Sem Unit)} {Qf : Value → Shared → Prop}
    (hu : X.A.units < cLine) (calm : X.calm = true) (nodup : X.N.Nodup) (J : Inv X pn τ H t) (hi : PI X tg src wi) (bo : BlkOk X.N X.env.scope sco mine)
    (hg : ∀ t H C cl fp, PG (X.blk t H sco (compEnvC sco cl C X.env) fp) tg g) (ht : ∀ t H C cl fp, PTs (X.blk t H sco (compEnvC sco cl C X.env) fp) tests tt)
    (hk : ∀ t H C cl fp, PE (X.blk t H sco (compEnvC sco cl C X.env) fp) kx tk) (hv : ∀ t H C cl fp, PE (X.blk t H sco (compEnvC sco cl C X.env) fp) vx tv) (hs : ∀ x, foldedSetIterable src X.env x = pure x)
    (h : tDcT wi g tt tk tv (mine.map (·.2)) τ H Q)
    (fine : ∀ D C t' m H', Inv X pn τ H' t' → Q (.ref D) H' → t'.heap.Ns C m → FpOk X pn H' C → compPost (model X.prog X.w) X.A X.xe use Qf (.ref D) C (.ok .next) t') :
    wpAny (model X.prog X.w) X.A (comprehension (.DictComp kx vx [⟨tg, src, tests, 0⟩] sco ps) sco X.env ps' newDict false (eval src X.env) use) Qf X.xe t := by
  have free : ∀ y ∈ sco.names, y.2 = .free → ∃ c, X.env.cells.lookup y.1 = some c := fun y hy e => J.ok.has _ (bo.free y hy e)
  refine wpAny_comprehension_free (use := use) rfl hs (closure_ok free) bo.kind (fun y hy e => by rw [bo.uniq y hy, e]) (thn (hi.run pn t τ H _ J h) fun xv t1 hx => thn hx fun itv t2 h2 => ?_)
  obtain ⟨it, fp, tn, It, K2, rfl, J2, Tn, st2, f2, q⟩ := h2
  refine wpAny_newObj_type (newEnv_comp ?_); generalize eD : t2.heap.objs.size = D
  obtain ⟨W, ⟨m0, w0⟩, turn⟩ := q D (J2.hok.fresh (Nat.le_of_eq eD))
  generalize e3 : ({ t2 with heap := t2.heap.push { cls := .type "dict", data := .dict #[] } } : Shared) = t3
  have J3 : Inv X pn τ (upd K2 D (.dT [])) t3 := by
    subst e3
    exact J2.laid (t' := t2.toks) (fun b o e => Heap.get?_push_of_some _ e) (Nat.le_of_eq eD) (by subst eD; exact dt_empty t2.heap J2.big)
  have hp3 : t3.heap = t2.heap.push { cls := .type "dict", data := .dict #[] } := by subst e3; rfl
  have below : ∀ b ∈ fp, b < t2.heap.objs.size := fun b hb => let ⟨o, e, _⟩ := Tn.obj _ _ st2 b hb; Heap.lt_size e
  have f3 : ∀ b ∈ fp, FpOk X pn (upd K2 D (.dT [])) b ∧ b < t3.heap.objs.size := fun b hb =>
    ⟨⟨by rw [upd_ne (by subst eD; exact Nat.ne_of_lt (below b hb))]; exact (f2 b hb).1, (f2 b hb).2⟩, by rw [hp3, Heap.size_push]; exact Nat.lt_succ_of_lt (below b hb)⟩
  have st3 : tn 0 t3.heap := Tn.keep _ _ _ st2 fun b _ o e => hp3 ▸ Heap.get?_push_of_some _ e
  have J4 := block_start J3 bo nodup f3
  have none3 : ∀ b ∈ fp, (upd K2 D (.dT [])) b = none := fun b hb => (f3 b hb).1.1
  have pg := hg t3 (upd K2 D (.dT [])) t3.heap.objs.size (cellsFrom (t3.heap.objs.size + 1) sco.names (cloFrom X.env.cells sco.names [])) fp
  have pt := ht t3 (upd K2 D (.dT [])) t3.heap.objs.size (cellsFrom (t3.heap.objs.size + 1) sco.names (cloFrom X.env.cells sco.names [])) fp
  have pk := hk t3 (upd K2 D (.dT [])) t3.heap.objs.size (cellsFrom (t3.heap.objs.size + 1) sco.names (cloFrom X.env.cells sco.names [])) fp
  have pv := hv t3 (upd K2 D (.dT [])) t3.heap.objs.size (cellsFrom (t3.heap.objs.size + 1) sco.names (cloFrom X.env.cells sco.names [])) fp
  show codeAny _ _ (.compStart (.DictComp kx vx [⟨tg, src, tests, 0⟩] sco ps) 0 (.ref it) (.ref D) (compEnvC sco (cellsFrom (t3.heap.objs.size + 1) sco.names (cloFrom X.env.cells sco.names [])) t3.heap.objs.size X.env)) (compPost (model X.prog X.w) X.A X.xe use Qf (.ref D) t3.heap.objs.size) { t3 with heap := pushCells (t3.heap.push { cls := .type "dict", data := .dict #[] }) sco.names }
  generalize ee : compEnvC sco (cellsFrom (t3.heap.objs.size + 1) sco.names (cloFrom X.env.cells sco.names [])) t3.heap.objs.size X.env = en at J4 pg pt pk pv ⊢
  have eloc : en.locals = t3.heap.objs.size := by subst ee; rfl
  generalize eK : upd K2 D (.dT []) = K3 at J3 J4 pg pt pk pv w0 none3 f3
  generalize e4 : ({ t3 with heap := pushCells (t3.heap.push { cls := .type "dict", data := .dict #[] }) sco.names } : Shared) = t4 at J4 ⊢
  have st4 : tn 0 t4.heap := Tn.keep _ _ _ st3 fun b _ o e => by subst e4; exact pushCells_keeps _ _ _ _ (Heap.get?_push_of_some _ e)
  have okfp : ∀ {τ' : L2.St} {H' : Hp} {t' : Shared}, Inv (X.blk t3 K3 sco en fp) [] τ' H' t' → (∀ b ∈ fp, H' b = none) → ∀ b ∈ fp, FpOk (X.blk t3 K3 sco en fp) [] H' b := fun {τ' H' t'} J' hn b hb =>
    ⟨hn b hb, (J'.ok.exf b hb).1, J'.ok.exfs b hb, .inl hb, fun x c e => (J'.ok.exf b hb).2 x c e, fun p hp => absurd (show p ∈ ([] : List (Addr × Obj)) ++ [] from hp) (by simp)⟩
  have loop : codeAny (model X.prog X.w) X.A (.compLoop (.DictComp kx vx [⟨tg, src, tests, 0⟩] sco ps) 0 (.ref it) (.ref D) en) (compPost (model X.prog X.w) X.A X.xe use Qf (.ref D) t3.heap.objs.size) t4 := by
    refine compLoop_anyD (fun n t' => ∃ i H', Inv (X.blk t3 K3 sco en fp) [] (wipe τ (mine.map (·.2))) H' t' ∧ tn i t'.heap ∧ (∀ b ∈ fp, H' b = none) ∧ W i n H') ?_ m0 ⟨0, K3, J4, st4, none3, w0⟩
    rintro n t5 ⟨i, H5, J5, st5, n5, w5⟩
    rcases turn i n H5 w5 with ⟨stop, qq⟩ | ⟨go, Nx, hNx, step⟩
    · refine thnF (Tn.done (X.blk t3 K3 sco en fp) rfl rfl rfl calm i [] t5 _ H5 (fun _ _ => False) J5 (okfp J5 n5) st5 stop) fun r t6 ⟨hr, J6⟩ => ?_
      subst hr
      have J7 : Inv X pn τ H5 t6 := J3.call' (ch := fp) J6.os J6.base J6.hok J6.bare fun b hb => ⟨(f3 b hb).1.2.2.2.1, (f3 b hb).1.2.1, (f3 b hb).1.2.2.2.2.1, (f3 b hb).1.2.2.2.2.2⟩
      have nC : H5 t3.heap.objs.size = none := eloc ▸ (show H5 en.locals = none from J6.free)
      obtain ⟨m, hns, _⟩ := J6.loc
      exact fine D t3.heap.objs.size t6 m H5 J7 qq (eloc ▸ (show t6.heap.Ns en.locals m from hns)) (J3.fpOk (Nat.le_refl _) nC)
    · refine thnF (Tn.item (X.blk t3 K3 sco en fp) rfl rfl rfl calm i [] t5 _ H5 (fun _ _ => False) J5 (okfp J5 n5) st5 go) fun r t6 ⟨u, hr, h6⟩ => ?_
      subst hr
      refine thnF h6 fun _ t7 ⟨x, H7, J7, r7, y7, st7, n7⟩ => ?_
      refine thnF (pg.run _ t7 _ H7 x u _ (J7.pinned (okfp J7 n7) (Tn.obj _ _ st7)) r7 (step x H7 y7)) fun _ t8 ⟨τ8, H8, J8, hw8, q8⟩ => thnF (pt.run _ t8 τ8 H8 _ J8 q8) fun c t9 ⟨H9, J9, q9⟩ => ?_
      have last : ∀ {t' : Shared} {H' : Hp}, Inv (X.blk t3 K3 sco en fp) ([] ++ pinsAt fp t7.heap) τ8 H' t' → Nx H' → ∃ m, m < n ∧ ∃ i H', Inv (X.blk t3 K3 sco en fp) [] (wipe τ (mine.map (·.2))) H' t' ∧ tn i t'.heap ∧ (∀ b ∈ fp, H' b = none) ∧ W i m H' := fun {t' H'} J' nx => by
        obtain ⟨m', hm, w'⟩ := hNx H' nx
        have kept : ∀ b ∈ fp, ∀ o, t7.heap.get? b = some o → t'.heap.get? b = some o ∧ H' b = none := fun b hb o e => (fun z => ⟨z.1, z.2.1⟩) (J'.pin (b, o) (List.mem_append_right _ (List.mem_append_right _ (mem_pinsAt hb e))))
        have len8 : (wipe τ (mine.map (·.2))).length = τ8.length := by rw [← hw8, wipe_length]
        refine ⟨m', hm, i + 1, H', (J'.unpinned (pins := [])).weak len8 (fun j v e => (wipe_some (by rw [hw8]; exact e)).1), Tn.keep _ _ _ st7 fun b hb o e => (kept b hb o e).1, fun b hb => ?_, w'⟩
        obtain ⟨o, e, _⟩ := Tn.obj _ _ st7 b hb
        exact (kept b hb o e).2
      cases c with
      | false => simp only [Bool.false_eq_true, if_false] at q9 ⊢; exact last J9 q9
      | true =>
        simp only [if_true] at q9 ⊢
        refine thnF (pk.run _ t9 τ8 H9 _ J9 q9) fun z t10 ⟨yk, H10, J10, r10, q10⟩ => thnF (pv.run _ t10 τ8 H10 _ J10 q10) fun z2 t11 ⟨yv, H11, J11, r11, kvs, kq, kb, ek, hkb, hD11, hz11, nx⟩ => ?_
        subst ek
        cases (show z = Value.ref kb from r10)
        exact dset_tup (X := X.blk t3 K3 sco en fp) hu J11 hD11 hz11 hkb r11 fun t12 J12 => last J12 nx
  exact codeAny_compStart_dict loop (Tn.self X.A 0 _ _ _ st4 loop)
theorem pe_dcT {kx vx tg src : Expr} {tests : List Expr} {sco : Scope} {mine : List (Str × Nat)} {ps : Pos} {wi : TI} {g : TG} {tt : TT} {tk tv : TE} (hu : X.A.units < cLine) (calm : X.calm = true) (nodup : X.N.Nodup) (hi : PI X tg src wi) (bo : BlkOk X.N X.env.scope sco mine)
    (hg : ∀ t H C cl fp, PG (X.blk t H sco (compEnvC sco cl C X.env) fp) tg g) (ht : ∀ t H C cl fp, PTs (X.blk t H sco (compEnvC sco cl C X.env) fp) tests tt)
    (hk : ∀ t H C cl fp, PE (X.blk t H sco (compEnvC sco cl C X.env) fp) kx tk) (hv : ∀ t H C cl fp, PE (X.blk t H sco (compEnvC sco cl C X.env) fp) vx tv) (hs : ∀ x, foldedSetIterable src X.env x = pure x := by intro _; rfl) :
    PE X (.DictComp kx vx [⟨tg, src, tests, 0⟩] sco ps) (tDcT wi g tt tk tv (mine.map (·.2))) := by
  refine ⟨fun pn t τ H Q J h => ?_⟩
  rw [arm_eval_DictComp]
  refine dcT_core hu calm nodup J hi bo hg ht hk hv hs h fun D C t' m H' J' q hn fo => ⟨m, hn, fun h'' sb => ?_⟩
  obtain ⟨a0, a1, _, a3, a4, a5⟩ := fo
  exact ⟨.ref D, H', J'.turned (t' := t'.toks) (fun b o hb e => (sb.2 b hb).trans e) a0 a1 a3 a4 a5, rfl, q⟩
/-- what a dict comprehension's turns give -/
structure Dc (X : Cx) (R : Reg) (G : List Sl) (tg kx vx : Expr) (ifs : List Expr) (scope : Scope) (vs : List Nat) (ds : List Dt) (J : Nat → List (List Key) → List Dt → Prop) : Prop where
  start : J 0 [] []
  step : ∀ i d ks xs, ds[i]? = some d → J i ks xs → ks.length ≤ i → ∃ js, (∀ Y, Blk X scope Y → A Y tg d js) ∧ (∀ p ∈ js, p.1 ∈ vs) ∧
    ∀ Y, Blk X scope Y → Ts Y R (setsD (wipeD G vs) js) ifs fun b => if b = true then ∀ Z, Blk X scope Z → E Z R (setsD (wipeD G vs) js) kx fun dk => ∃ q, dk = .key q ∧ ∀ Z', Blk X scope Z' → E Z' R (setsD (wipeD G vs) js) vx fun y => J (i + 1) (putT ks q) (putX ks xs q y) else J (i + 1) ks xs
theorem putT_len (ks : List (List Key)) (q : List Key) : (putT ks q).length ≤ ks.length + 1 := by
  unfold putT
  split
  · omega
  · simp
variable {R : Reg} {G : List Sl} {pos : Pos} {k : Kt}
theorem dc_rd {tg iter kx vx : Expr} {ifs : List Expr} {scope : Scope} {own : List (Str × Nat)} {P : Dt → Prop} {σ : L2.St} {F H : Hp} {Q : VK} (ty : Ty X.K R G σ F H) (c : CtW X.K R F H P Q)
    (h : I X R G tg iter fun ds => ds.length ≤ 100000 ∧ ∃ J, Dc X R G tg kx vx ifs scope (own.map (·.2)) ds J ∧ ∀ ks xs, J ds.length ks xs → P (.dT ks xs)) : tDcT (tiOf X tg iter) (tgB X scope tg) (ttB X scope ifs) (teB X scope kx) (teB X scope vx) (own.map (·.2)) σ H Q := by
  refine h σ F H _ ty fun Jt F1 H1 ds ex it ⟨hl, J, dc, fin⟩ => fun D hD => ?_
  have hD0 : H D = none := ex.free hD
  have nM : ¬ R.M D := ex.wf.new hD
  refine ⟨fun i m H2 => m = ds.length - i ∧ i ≤ ds.length ∧ ∃ F2 ks xs vacc, J i ks xs ∧ ks.length ≤ i ∧ H2 D = some (.dT (ks.zip vacc)) ∧ ks.length = vacc.length ∧ F2 D = none ∧ RpL X.K F2 xs vacc ∧ Ext R F1 H1 F2 H2, ⟨_, rfl, Nat.zero_le _, F1, [], [], [], dc.start, Nat.le_refl _, upd_same, rfl, ex.wf.fh.free hD, .nil, ex.wf.own hD⟩, ?_⟩
  rintro i m H2 ⟨rfl, hi, F2, ks, xs, vacc, j, hla, hD2, hlv, fD2, ra, ex2⟩
  obtain ⟨hstop, hgo⟩ := it F2 H2 ex2.ff ex2.wf
  by_cases hlt : i < ds.length
  · obtain ⟨g1, g2⟩ := hgo i ds[i] (List.getElem?_eq_getElem hlt)
    refine .inr ⟨g1, _, fun H' z => z, fun x H' y => ?_⟩
    obtain ⟨F3, ex3, r3⟩ := g2 x H' y
    obtain ⟨js, ha, hjs, hS⟩ := dc.step i ds[i] ks xs (List.getElem?_eq_getElem hlt) j hla
    intro Y bY
    show tgOf Y tg x (L2.wipe σ (own.map (·.2))) H' _
    refine ha Y bY (L2.wipe σ (own.map (·.2))) F3 H' x _ ex3.wf.fh (by rw [bY.K]; exact r3) ?_
    intro ws hw rw1
    refine ⟨?_, ?_⟩
    · rw [wipe_sets fun p hp => ?_, wipe_wipe]
      have q := (List.of_mem_zip hp).1
      obtain ⟨z, hz, e⟩ := List.mem_map.mp q
      rw [← e]
      exact hjs z hz
    · intro Y2 bY2
      have tyW : Ty X.K R (setsD (wipeD G (own.map (·.2))) js) (setsV (wipe σ (own.map (·.2))) ((js.map (·.1)).zip ws)) F3 H' := Ty.sets (((ty.ext ((ex.trans ex2).trans ex3))).wipe _) (by rw [← bY.K]; exact rw1)
      have hD3 : H' D = some (.dT (ks.zip vacc)) := ex3.hh D _ nM hD2
      have fD3 : F3 D = none := ex3.fr D (by rw [hD2]; exact ⟨_, rfl, fun _ z => nomatch z⟩) fD2
      refine hS Y2 bY2 _ F3 H' _ (by rw [bY2.K]; exact tyW) fun b F4 H4 ex4 p => ?_
      have hD4 : H4 D = some (.dT (ks.zip vacc)) := ex4.hh D _ nM hD3
      have fD4 : F4 D = none := ex4.fr D (by rw [hD3]; exact ⟨_, rfl, fun _ z => nomatch z⟩) fD3
      cases b with
      | false =>
        rw [if_neg (by decide)] at p ⊢
        exact ⟨_, by omega, rfl, hlt, F4, ks, xs, vacc, p, Nat.le_succ_of_le hla, hD4, hlv, fD4, ra.mono (ex3.ff.trans ex4.ff), (ex2.trans ex3).trans ex4⟩
      | true =>
        rw [if_pos rfl] at p ⊢
        intro Y3 bY3
        refine p Y3 bY3 _ F4 H4 _ (by rw [bY3.K]; exact tyW.ext ex4) fun y F5 H5 dk ex5 r5 ⟨kq, ek, pv⟩ => ?_
        subst ek
        intro Y4 bY4
        refine pv Y4 bY4 _ F5 H5 _ (by rw [bY4.K]; exact (tyW.ext ex4).ext ex5) fun z F6 H6 dz ex6 r6 pj => ?_
        have hD6 : H6 D = some (.dT (ks.zip vacc)) := ex6.hh D _ nM (ex5.hh D _ nM hD4)
        have fD5 : F5 D = none := ex5.fr D (by rw [hD4]; exact ⟨_, rfl, fun _ z => nomatch z⟩) fD4
        have fD6 : F6 D = none := ex6.fr D (by rw [ex5.hh D _ nM hD4]; exact ⟨_, rfl, fun _ z => nomatch z⟩) fD5
        have ra6 := ra.mono (((ex3.ff.trans ex4.ff).trans ex5.ff).trans ex6.ff)
        have e6 := (((ex2.trans ex3).trans ex4).trans ex5).trans ex6
        rw [bY3.K] at r5
        rw [bY4.K] at r6
        obtain ⟨bq, eb, hb⟩ := rp_key.mp (r5.mono ex6.ff)
        obtain ⟨us, p1, p2, p3⟩ := put_zipT (q := kq) (d := dz) (v := z) ra6 hlv r6
        have mk : Ext R F1 H1 F6 (upd H6 D (.dT (L2.putK (ks.zip vacc) kq z))) := by
          refine ⟨⟨fun a o h => ?_, e6.wf.off, fun a m => ?_, ?_⟩, e6.ff, fun a o n h => ?_, e6.fr⟩
          · rw [upd_ne (fun z => by rw [z, fD6] at h; cases h)]
            exact e6.wf.fh a o h
          · have nz : a ≠ D := fun e => nM (e ▸ m)
            rw [upd_ne nz]
            exact e6.wf.oc a m
          · refine R.st H6 _ (fun a o m h => ?_) e6.wf.b
            have nz : a ≠ D := fun e => nM (e ▸ m)
            rw [upd_ne nz]
            exact h
          · rw [upd_ne (ne_of_none h hD)]
            exact e6.hh a o n h
        refine ⟨_, kq, bq, eb, e6.wf.fh _ _ hb, hD6, ?_, ⟨_, by omega, rfl, hlt, F6, putT ks kq, putX ks xs kq dz, us, pj, Nat.le_trans (putT_len ks kq) (by omega), by rw [upd_same, p1], p2, fD6, p3, mk⟩⟩
        rw [List.length_zip]
        exact Nat.lt_of_le_of_lt (Nat.min_le_left _ _) (Nat.lt_of_le_of_lt hla (Nat.lt_of_lt_of_le hlt (Nat.le_trans hl (by decide))))
  · have e : i = ds.length := by omega
    subst e
    exact .inl ⟨hstop _ (Nat.le_refl _), c D F2 H2 (.dT ks xs) (ex.trans ex2) hD0 nM fD2 ⟨vacc, hD2, hlv, ra⟩ (fin ks xs j)⟩
theorem ew_dc {tg iter kx vx : Expr} {ifs : List Expr} {scope : Scope} {own : List (Str × Nat)} {P : Dt → Prop} (hu : X.A.units < cLine) (hc : X.calm = true) (hN : X.N.Nodup) (ok : BlkOk X.N X.env.scope scope own)
    (h : I X R G tg iter fun ds => ds.length ≤ 100000 ∧ ∃ J, Dc X R G tg kx vx ifs scope (own.map (·.2)) ds J ∧ ∀ ks xs, J ds.length ks xs → P (.dT ks xs)) (hs : ∀ x, foldedSetIterable iter X.env x = pure x := by intro _; rfl) : EW X R G (.DictComp kx vx [⟨tg, iter, ifs, 0⟩] scope pos) P := fun σ F H Q ty c => tOf.of (pe_dcT hu hc hN pi_w ok blk_pg blk_pts blk_pe blk_pe hs) (dc_rd ty c h)
/-- a new thing, given away at once -/
theorem e_ofW {e : Expr} {P : Dt → Prop} (h : EW X R G e P) : E X R G e P := fun σ F H Q ty c => h σ F H Q ty fun p F' H' d ex hp nM fp ho q => by
  obtain ⟨u, hu, _⟩ := ho.kd
  refine c (.ref p) (upd F' p u) H' d ⟨wf_one ex.wf nM hu, ex.ff.trans (same_upd1 fp), ex.hh, fun a h n => ?_⟩ (owo_rp ho (same_upd1 fp) (by rw [upd_same, hu])) q
  rw [upd_ne (fun z => h.ne (by rw [z]; exact hp))]
  exact ex.fr a h n
end
end VS
set_option Elab.async false
set_option linter.all false
set_option maxRecDepth 100000
set_option maxHeartbeats 2000000
/-! {k: v} with a tuple as key; x in xs; two fors in one comprehension; x in o of an own class. -/
namespace VS
open PySem PySem.Spec L2
section
variable {X : Cx} {R : Reg} {G : List Sl} {pos : Pos} {k : Kt}
theorem ew_disp1 {ke ve : Expr} {P : Dt → Prop} (hu : X.A.units < cLine) (h : E X R G ke fun d => ∃ q, d = .key q ∧ E X R G ve fun y => P (.dT [q] [y]))
    (hshape : (evalEachOpt [some ke] X.env).zip ((evalEach [ve] X.env).map fun v => do let x ← v; standAt pos; pure x) = (pairTrees [some ke] [ve] X.env pos).map fun p => (some p.1, p.2) := by rfl) (hl : (pairTrees [some ke] [ve] X.env pos).length = 1 := by rfl) : EW X R G (.Dict [some ke] [ve] pos) P := fun σ F H Q ty c => by
  unfold tOf
  intro pins s I
  have hn := I.hok.fresh (Nat.le_refl s.heap.objs.size)
  have I1 := I.laid (a := s.heap.objs.size) (o := .dT []) (h' := s.heap.push { cls := .type "dict", data := .dict #[] }) (t' := s.toks) (fun _ _ q => Heap.get?_push_of_some _ q) (Nat.le_refl _) (dt_empty s.heap I.big)
  generalize hp : s.heap.objs.size = p at *
  have ex0 : Ext R F H F (upd H p (.dT [])) := ty.wf.own hn
  have nM : ¬ R.M p := ty.wf.new hn
  have fp : F p = none := ty.wf.fh.free hn
  have hh := h σ F (upd H p (.dT [])) (fun x H1 => tOf X ve σ H1 fun y H2 => ∃ F2 q d b, x = .ref b ∧ F2 b = some (.tup (q.map kV)) ∧ Rp X.K F2 d y ∧ Ext R F (upd H p (.dT [])) F2 H2 ∧ P (.dT [q] [d])) (ty.ext ex0) fun x F1 H1 d ex r ⟨q, e, h2⟩ => by
    subst e
    obtain ⟨b, eb, hb⟩ := rp_key.mp r
    exact h2 σ F1 H1 _ ((ty.ext ex0).ext ex) fun y F2 H2 d2 ex2 r2 pp => ⟨F2, q, d2, b, eb, ex2.ff _ _ hb, r2, ex.trans ex2, pp⟩
  rw [arm_eval_Dict, hshape, dictDisplay_pairs _ (fun z => by rw [z] at hl; cases hl) (by omega)]
  refine wpAny_bind (wpAny_standAt (wpAny_bind (wpAny_subDictH (knd := tupleKind (mixKind X.prog X.w)) (Q := fun d s' => wpAny (model X.prog X.w) X.A (pure (Value.ref d)) (EP X pins σ Q) X.xe s') hu (by omega) ?_)))
  rw [hp]
  refine thn ((pps_cons pe_w pe_w pps_nil).run pins _ σ (upd H p (.dT [])) (fun ps H2 => ∃ x y, ps = [(x, y)] ∧ ∃ F2 q d b, x = .ref b ∧ F2 b = some (.tup (q.map kV)) ∧ Rp X.K F2 d y ∧ Ext R F (upd H p (.dT [])) F2 H2 ∧ P (.dT [q] [d])) I1 ?_) fun ws s2 z => ?_
  · unfold tPairs
    have mono : ∀ {e : Expr} {H : Hp} {Q1 Q2 : VK}, (∀ v H', Q1 v H' → Q2 v H') → tOf X e σ H Q1 → tOf X e σ H Q2 := fun {e H Q1 Q2} i z => by
      unfold tOf at z ⊢
      exact fun pins s I => wpAny_mono (z pins s I) (fun v s' ⟨y, H', a, b, q⟩ => ⟨y, H', a, b, i y H' q⟩) fun _ _ w => w
    refine mono (fun x H1 z => mono (fun y H2 z2 => ?_) z) hh
    unfold tPairs
    exact ⟨x, y, rfl, z2⟩
  · obtain ⟨ps, H2, I2, rel, x, y, e, F2, q, d, b, eb, hb, rd, ex, pp⟩ := z
    subst e eb
    cases rel with
    | @cons a1 a2 as bs r1 r2 =>
      cases r2
      obtain ⟨u1, u2⟩ := a2
      obtain ⟨r1, r1'⟩ := r1
      cases (show u1 = Value.ref b from r1)
      have hp2 : H2 p = some (.dT []) := ex.hh p _ nM upd_same
      have fp2 : F2 p = none := ex.fr p (by rw [upd_same]; exact ⟨_, rfl, fun _ z => nomatch z⟩) fp
      have hb2 := ex.wf.fh _ _ hb
      obtain ⟨z, hd, xs, kt, dd⟩ := L2.dt_of I2.hok hp2
      cases kt
      refine ⟨[(q, b, u2)], ⟨rfl, rfl, L2.key_of I2.hok hb2, trivial⟩, dd, fun h' tk dd' hs => wpAny_pure ?_⟩
      obtain ⟨o, es, ep, g1, g2, g3, g4, _, g5⟩ := dd'
      have nb : b ≠ p := fun z => by rw [z, hp2] at hb2; cases hb2
      have I3 := L2.d_write I2 (by rw [hp2]; exact True.intro) hs ⟨o, g1⟩ (t' := tk) (ob := .dT [(q, y)]) ⟨Nat.le_of_ble_eq_true rfl, hd, _, .cons ⟨rfl, by rw [upd_ne nb]; exact hb2, r1'⟩ .nil, o, es, ep, g1, g2, g3, g4, g5⟩
      refine ⟨.ref p, upd H2 p (.dT [(q, y)]), I3, rfl, ?_⟩
      refine c p F2 _ (.dT [q] [d]) ?_ hn nM fp2 ⟨[y], upd_same, rfl, .cons rd .nil⟩ pp
      refine ⟨⟨fun a z hz => ?_, ex.wf.off, fun a m => ?_, ?_⟩, ex.ff, fun a z nm hz => ?_, fun a ha nf => ?_⟩
      · rw [upd_ne (fun e => by rw [e, fp2] at hz; cases hz)]
        exact ex.wf.fh a z hz
      · have nz : a ≠ p := fun e => nM (e ▸ m)
        rw [upd_ne nz]
        exact ex.wf.oc a m
      · refine R.st H2 _ (fun a z m hz => ?_) ex.wf.b
        have nz : a ≠ p := fun e => nM (e ▸ m)
        rw [upd_ne nz]
        exact hz
      · have nz := ne_of_none hz hn
        rw [upd_ne nz]
        exact ex.hh a z nm (by rw [upd_ne nz]; exact hz)
      · have nz : a ≠ p := fun e => ha.ne (by rw [e]; exact hn)
        exact ex.fr a (by rw [upd_ne nz]; exact ha) nf
/-- i in a tuple, a list of ints -/
theorem inV_ints (i : Int) (l : List Int) : L2.inV (.int i) (l.map V.int) = l.any fun z => decide (z = i) := by
  unfold L2.inV
  rw [List.any_map]
  rfl
theorem flat_ints (l : List Int) : (l.map V.int).all L2.flatV = true := by
  rw [List.all_eq_true]
  intro x hx
  obtain ⟨z, _, rfl⟩ := List.mem_map.mp hx
  rfl
theorem w_inT {i : Int} {l : List Int} {P : Dt → Prop} (p : P (.bl (l.any fun z => decide (z = i)))) : W2 X R (compareOp .In) (.int i) (.tup (l.map .int)) P := fun F H x y Q w rx ry c => by
  obtain ⟨a, vs, rfl, sq, rl⟩ := rp_tup.mp ry
  have e := rl.ints
  subst e
  refine opOf.of op_in_seq ⟨a, _, rfl, .inr (sq_t w.fh sq), by rw [rp_int.mp rx]; rfl, flat_ints l, ?_⟩
  rw [rp_int.mp rx, if_neg (by decide), inV_ints]
  exact c.here w (rp_bl.mpr rfl) p
theorem w_inL {i : Int} {l : List Int} {P : Dt → Prop} (p : P (.bl (l.any fun z => decide (z = i)))) : W2 X R (compareOp .In) (.int i) (.lst (l.map .int)) P := fun F H x y Q w rx ry c => by
  obtain ⟨a, vs, rfl, sq, rl⟩ := rp_lst.mp ry
  have e := rl.ints
  subst e
  refine opOf.of op_in_seq ⟨a, _, rfl, .inl (SqL.of (w.fh _ _ sq)), by rw [rp_int.mp rx]; rfl, flat_ints l, ?_⟩
  rw [rp_int.mp rx, if_neg (by decide), inV_ints]
  exact c.here w (rp_bl.mpr rfl) p
/-- d in o, o of a class with __contains__ -/
theorem w_inO {C : Addr} {ps : List Str} {φ : Ph} {j : Nat} {ns : List Str} {xs : List Dt} {d : Dt} {P : Dt → Prop} (F : FnM X.prog X.w X.K X.mg X.base j C "__contains__" ps [] (spD X.K 2 φ)) (hr : Room j X.A)
    (hφ : φ [.obj C ns xs, d] (fun r => ∃ b, r = .bl b ∧ P (.bl b)) fun _ _ _ => False) : W2 X R (compareOp .In) d (.obj C ns xs) P := fun F0 H x y Q w rx ry c => by
  have ry0 := ry
  obtain ⟨a, dx, vs, rfl, h1, _, _⟩ := rp_obj.mp ry
  obtain ⟨f, hM, run, _⟩ := F.run
  unfold opOf
  intro pins s σ v u I rv ru
  cases ru
  obtain ⟨od, J⟩ := inst_at I w h1
  obtain ⟨m', hF⟩ := I.fr
  refine PySem.W.in_K hF I.ok.mod.kin J hM.at_ hM.fn (wpAny_mono (run (Q := fun v H' => ∃ b, v = .bl b ∧ Q (.bl b) H') (vs := [.ref a, x]) hr I (.cons rfl (.cons rv .nil)) (spD_of w (.cons ry0 (.cons rx .nil)) rfl hφ fun v F1 H1 d ex r ⟨b, e, p⟩ => by
    subst e
    exact ⟨b, rp_bl.mp r, c _ F1 H1 _ ex (rp_bl.mpr rfl) p⟩)) (fun v s' h => ?_) fun _ _ h => h)
  obtain ⟨z, H', I', rz, b, e, q⟩ := h
  subst e
  obtain rfl : v = Value.bool b := rz
  exact wpAny_truthy_bool ⟨.bl b, H', I', rfl, q⟩
/-! ### [elt for tg in iter for tg1 in iter1] -/
def tiB (X : Cx) (scope : Scope) (tg iter : Expr) : TI := fun σ H Rr => ∀ Y, Blk X scope Y → tiOf Y tg iter σ H Rr
theorem blk_pi {scope : Scope} {tg iter : Expr} (s : Shared) (H : Hp) (C : Addr) (cl : List (Str × Addr)) (fp : List Addr) : PI (X.blk s H scope (compEnvC scope cl C X.env) fp) tg iter (tiB X scope tg iter) := by
  have z := @pi_w (X.blk s H scope (compEnvC scope cl C X.env) fp) tg iter
  exact ⟨fun pins s' σ H' Q I h => z.run pins s' σ H' Q I (h _ ⟨s, H, C, cl, fp, rfl⟩)⟩
structure Lc2 (X : Cx) (R : Reg) (G : List Sl) (tg tg1 iter1 elt : Expr) (scope : Scope) (vs vs1 : List Nat) (ds : List Dt) (J : Nat → List Dt → Prop) : Prop where
  start : J 0 []
  step : ∀ i d acc, ds[i]? = some d → J i acc → ∃ js, (∀ Y, Blk X scope Y → A Y tg d js) ∧ (∀ p ∈ js, p.1 ∈ vs) ∧ ∀ Y, Blk X scope Y → I Y R (setsD (wipeD G vs) js) tg1 iter1 fun es => ∃ J1 : Nat → List Dt → Prop, J1 0 acc ∧
    (∀ j e acc', es[j]? = some e → J1 j acc' → acc'.length < 100000 ∧ ∃ js1, (∀ Z, Blk X scope Z → A Z tg1 e js1) ∧ (∀ p ∈ js1, p.1 ∈ vs1) ∧ ∀ Z, Blk X scope Z → E Z R (setsD (wipeD (setsD (wipeD G vs) js) vs1) js1) elt fun y => J1 (j + 1) (acc' ++ [y])) ∧ ∀ acc', J1 es.length acc' → J (i + 1) acc'
theorem lc2_run {tg iter tg1 iter1 elt : Expr} {scope : Scope} {own : List (Str × Nat)} {vs1 : List Nat} {P : Dt → Prop} {σ : St} {F H : Hp} {Q : VK} (hc : X.calm = true) (hN : X.N.Nodup) (ok : BlkOk X.N X.env.scope scope own) (hv1 : ∀ i ∈ vs1, i ∈ own.map (·.2))
    (h : I X R G tg iter fun ds => ∃ J, Lc2 X R G tg tg1 iter1 elt scope (own.map (·.2)) vs1 ds J ∧ ∀ acc, J ds.length acc → P (.lst acc)) (ty : Ty X.K R G σ F H) (c : CtW X.K R F H P Q) :
    tLc2 (tiOf X tg iter) (tgB X scope tg) (ttB X scope []) (tiB X scope tg1 iter1) (tgB X scope tg1) (ttB X scope []) (teB X scope elt) (own.map (·.2)) vs1 σ H Q := by
  refine h σ F H _ ty fun Jt F1 H1 ds ex it ⟨J, lc, fin⟩ => fun D hD => ?_
  have hD0 : H D = none := ex.free hD
  have nM : ¬ R.M D := ex.wf.new hD
  refine ⟨fun i m H2 => m = ds.length - i ∧ i ≤ ds.length ∧ ∃ F2 acc vacc, J i acc ∧ H2 D = some (.lst vacc) ∧ F2 D = none ∧ RpL X.K F2 acc vacc ∧ Ext R F1 H1 F2 H2, ⟨_, rfl, Nat.zero_le _, F1, [], [], lc.start, upd_same, ex.wf.fh.free hD, .nil, ex.wf.own hD⟩, ?_⟩
  rintro i m H2 ⟨rfl, hi, F2, acc, vacc, j, hD2, fD2, ra, ex2⟩
  obtain ⟨hstop, hgo⟩ := it F2 H2 ex2.ff ex2.wf
  by_cases hlt : i < ds.length
  · obtain ⟨g1, g2⟩ := hgo i ds[i] (List.getElem?_eq_getElem hlt)
    refine .inr ⟨g1, _, fun H' z => z, fun x H' y => ?_⟩
    obtain ⟨F3, ex3, r3⟩ := g2 x H' y
    obtain ⟨js, ha, hjs, hS⟩ := lc.step i ds[i] acc (List.getElem?_eq_getElem hlt) j
    intro Y bY
    refine ha Y bY (L2.wipe σ (own.map (·.2))) F3 H' x _ ex3.wf.fh (by rw [bY.K]; exact r3) ?_
    intro ws hw rw1
    have hwp : ∀ p ∈ (js.map (·.1)).zip ws, p.1 ∈ own.map (·.2) := fun p hp => by
      obtain ⟨z, hz, e⟩ := List.mem_map.mp (List.of_mem_zip hp).1
      rw [← e]
      exact hjs z hz
    refine ⟨by rw [wipe_sets hwp, wipe_wipe], ?_⟩
    intro Y2 bY2
    have tyW : Ty X.K R (setsD (wipeD G (own.map (·.2))) js) (setsV (L2.wipe σ (own.map (·.2))) ((js.map (·.1)).zip ws)) F3 H' := Ty.sets (((ty.ext ((ex.trans ex2).trans ex3))).wipe _) (by rw [← bY.K]; exact rw1)
    have hD3 : H' D = some (.lst vacc) := ex3.hh D _ nM hD2
    have fD3 : F3 D = none := ex3.fr D (by rw [hD2]; exact ⟨_, rfl, fun _ z => nomatch z⟩) fD2
    refine ts_nil (P := fun b => b = true) rfl _ F3 H' _ (by rw [bY2.K]; exact tyW) fun b F4 H4 ex4 eb => ?_
    subst eb
    rw [if_pos rfl]
    intro Y3 bY3
    refine hS Y3 bY3 _ F4 H4 _ (by rw [bY3.K]; exact tyW.ext ex4) fun Jt1 F5 H5 es ex5 it1 ⟨J1, j0, st1, fin1⟩ => ?_
    have hD5 : H5 D = some (.lst vacc) := ex5.hh D _ nM (ex4.hh D _ nM hD3)
    have fD4 : F4 D = none := ex4.fr D (by rw [hD3]; exact ⟨_, rfl, fun _ z => nomatch z⟩) fD3
    have fD5 : F5 D = none := ex5.fr D (by rw [ex4.hh D _ nM hD3]; exact ⟨_, rfl, fun _ z => nomatch z⟩) fD4
    have tyV := (tyW.ext ex4).ext ex5
    have e5 := ((ex2.trans ex3).trans ex4).trans ex5
    refine ⟨fun a n H6 => n = es.length - a ∧ a ≤ es.length ∧ ∃ F6 acc' vacc', J1 a acc' ∧ H6 D = some (.lst vacc') ∧ F6 D = none ∧ RpL X.K F6 acc' vacc' ∧ Ext R F1 H1 F6 H6 ∧ Same F5 F6 ∧ Ty X.K R (setsD (wipeD G (own.map (·.2))) js) (setsV (L2.wipe σ (own.map (·.2))) ((js.map (·.1)).zip ws)) F6 H6, ⟨_, rfl, Nat.zero_le _, F5, acc, vacc, j0, hD5, fD5, ra.mono ((ex3.ff.trans ex4.ff).trans ex5.ff), e5, .refl _, tyV⟩, ?_⟩
    rintro a n H6 ⟨rfl, han, F6, acc', vacc', ja, hD6, fD6, ra6, e6, s56, ty6⟩
    obtain ⟨hstop1, hgo1⟩ := it1 F6 H6 s56 e6.wf
    by_cases hal : a < es.length
    · obtain ⟨k1, k2⟩ := hgo1 a es[a] (List.getElem?_eq_getElem hal)
      refine .inr ⟨k1, _, fun H' z => z, fun x1 H7 y1 => ?_⟩
      obtain ⟨F7, ex7, r7⟩ := k2 x1 H7 y1
      obtain ⟨hlen, js1, ha1, hjs1, hE⟩ := st1 a es[a] acc' (List.getElem?_eq_getElem hal) ja
      intro Y4 bY4
      refine ha1 Y4 bY4 (L2.wipe _ vs1) F7 H7 x1 _ ex7.wf.fh (by rw [bY3.K] at r7; rw [bY4.K]; exact r7) ?_
      intro ws1 hw1 rw2
      have hwp1 : ∀ p ∈ (js1.map (·.1)).zip ws1, p.1 ∈ vs1 := fun p hp => by
        obtain ⟨z, hz, e⟩ := List.mem_map.mp (List.of_mem_zip hp).1
        rw [← e]
        exact hjs1 z hz
      refine ⟨by rw [wipe_sets hwp1, wipe_wipe], ?_⟩
      intro Y5 bY5
      have tyU : Ty X.K R (setsD (wipeD (setsD (wipeD G (own.map (·.2))) js) vs1) js1) (setsV (L2.wipe (setsV (L2.wipe σ (own.map (·.2))) ((js.map (·.1)).zip ws)) vs1) ((js1.map (·.1)).zip ws1)) F7 H7 := Ty.sets ((ty6.ext ex7).wipe vs1) (by rw [← bY4.K]; exact rw2)
      refine ts_nil (P := fun b => b = true) rfl _ F7 H7 _ (by rw [bY5.K]; exact tyU) fun b F8 H8 ex8 eb => ?_
      subst eb
      rw [if_pos rfl]
      intro Y6 bY6
      refine hE Y6 bY6 _ F8 H8 _ (by rw [bY6.K]; exact tyU.ext ex8) fun y F9 H9 d ex9 r9 pj => ?_
      have hD9 : H9 D = some (.lst vacc') := ex9.hh D _ nM (ex8.hh D _ nM (ex7.hh D _ nM hD6))
      have fD7 : F7 D = none := ex7.fr D (by rw [hD6]; exact ⟨_, rfl, fun _ z => nomatch z⟩) fD6
      have fD8 : F8 D = none := ex8.fr D (by rw [ex7.hh D _ nM hD6]; exact ⟨_, rfl, fun _ z => nomatch z⟩) fD7
      have fD9 : F9 D = none := ex9.fr D (by rw [ex8.hh D _ nM (ex7.hh D _ nM hD6)]; exact ⟨_, rfl, fun _ z => nomatch z⟩) fD8
      have e9 := ((e6.trans ex7).trans ex8).trans ex9
      have mkW : Wf R F9 (upd H9 D (.lst (vacc' ++ [y]))) := by
        refine ⟨fun z o hz => ?_, e9.wf.off, fun z m => ?_, ?_⟩
        · rw [upd_ne (fun e => by rw [e, fD9] at hz; cases hz)]
          exact e9.wf.fh z o hz
        · have nz : z ≠ D := fun e => nM (e ▸ m)
          rw [upd_ne nz]
          exact e9.wf.oc z m
        · refine R.st H9 _ (fun z o m hz => ?_) e9.wf.b
          have nz : z ≠ D := fun e => nM (e ▸ m)
          rw [upd_ne nz]
          exact hz
      have mk : Ext R F1 H1 F9 (upd H9 D (.lst (vacc' ++ [y]))) := ⟨mkW, e9.ff, fun z o nm hz => by
        rw [upd_ne (ne_of_none hz hD)]
        exact e9.hh z o nm hz, e9.fr⟩
      refine ⟨vacc', hD9, ?_, ⟨_, by omega, rfl, hal, F9, acc' ++ [d], vacc' ++ [y], pj, upd_same, fD9, (ra6.mono ((ex7.ff.trans ex8.ff).trans ex9.ff)).append (.cons (by rw [← bY6.K]; exact r9) .nil), mk, ((s56.trans ex7.ff).trans ex8.ff).trans ex9.ff, ?_⟩⟩
      · rw [← ra6.length]
        exact Nat.lt_of_lt_of_le hlen (by decide)
      · have rw1' : RpL X.K F3 (js.map (·.2)) ws := by rw [← bY.K]; exact rw1
        exact Ty.sets ((ty.ext (ex.trans mk)).wipe _) (rw1'.mono (((((ex4.ff.trans ex5.ff).trans s56).trans ex7.ff).trans ex8.ff).trans ex9.ff))
    · have e : a = es.length := by omega
      subst e
      exact .inl ⟨hstop1 _ (Nat.le_refl _), ⟨_, by omega, rfl, hlt, F6, acc', vacc', fin1 acc' ja, hD6, fD6, ra6, e6⟩⟩
  · have e : i = ds.length := by omega
    subst e
    exact .inl ⟨hstop _ (Nat.le_refl _), c D F2 H2 (.lst acc) (ex.trans ex2) hD0 nM fD2 ⟨vacc, hD2, ra⟩ (fin acc j)⟩
/-- y = [.. for .. for ..] on one line, y shared -/
theorem s_lc2 (i : Nat) {y : Str} {py cpos : Pos} {tg iter tg1 iter1 elt : Expr} {scope : Scope} {own : List (Str × Nat)} {vs1 : List Nat} (hc : X.calm = true) (hN : X.N.Nodup) (hy : X.N[i]? = some y) (hyl : X.env.scope.names.lookup y = some .local)
    (hsw : swapsWith (.ListComp elt [⟨tg, iter, [], 0⟩, ⟨tg1, iter1, [], 0⟩] scope cpos) (some (.Name y py)) pos.line X.env = pure true) (ok : BlkOk X.N X.env.scope scope own) (hv1 : ∀ i ∈ vs1, i ∈ own.map (·.2))
    (h : I X R G tg iter fun ds => ∃ J, Lc2 X R G tg tg1 iter1 elt scope (own.map (·.2)) vs1 ds J ∧ ∀ acc, J ds.length acc → k.nx (G.set i (.sh (.lst acc)))) (hs : ∀ x, foldedSetIterable iter X.env x = pure x := by intro _; rfl) (hs1 : ∀ env x, foldedSetIterable iter1 env x = pure x := by intro _ _; rfl) :
    S1 X R (.Assign [.Name y py] (.ListComp elt [⟨tg, iter, [], 0⟩, ⟨tg1, iter1, [], 0⟩] scope cpos) pos) G k := fun F0 H0 σ F H D ty b c => by
  refine s1Of.of (ps_setLc2 hc hN hy hyl hsw pi_w ok hv1 blk_pg blk_pts blk_pi blk_pg blk_pts blk_pe hs hs1) (lc2_run (P := fun d => k.nx (G.set i (.sh d))) hc hN ok hv1 h ty fun p F' H' d ex hp nM fp ho q => ?_)
  obtain ⟨u, hu, _⟩ := ho.kd
  have ex2 : Ext R F H (upd F' p u) H' := by
    refine ⟨wf_one ex.wf nM hu, ex.ff.trans (same_upd1 fp), ex.hh, fun a h n => ?_⟩
    rw [upd_ne (fun z => h.ne (by rw [z]; exact hp))]
    exact ex.fr a h n
  exact c.nx _ _ _ H' q ((ty.ext ex2).set i (owo_rp ho (same_upd1 fp) (by rw [upd_same, hu]))) ((b.step ex2).set i)
end
end VS
set_option Elab.async false
set_option linter.all false
set_option maxRecDepth 100000
set_option maxHeartbeats 2000000
/-! dict(d), its keys tuples. -/
namespace VS
open PySem PySem.Spec L2
section
variable {prog : Program} {w : World} {K : Type} [DecidableEq K] {knd : HeapKind prog w K} {A : Around} {E : Value → Shared → Prop} {s : Shared}
theorem dict_copyT {o : Addr} {more : List (K × Addr × Value)} {Q : Value → Shared → Prop} (hu : knd.room A.in1.in1) (hoS : (o == sysModules) = false) (hne : s.heap.objs.size ≠ o) (ho' : (s.heap.push { cls := .type "dict", data := .dict #[] }).DictOfH knd o more) (hsz : more.length ≤ sizeLine)
    (hty : ∀ x ∈ more, (⟨s.heap.push { cls := .type "dict", data := .dict #[] }, s.gens, s.drawn, s.toks, s.os⟩ : Shared).TypeIs (.ref x.2.1) "tuple") (hap : (more.map fun x => knd.hash x.1).Nodup)
    (h : ∀ h', h'.DictOfH knd s.heap.objs.size (storedAllH [] more) → Heap.SameBut s.heap.objs.size (s.heap.push { cls := .type "dict", data := .dict #[] }) h' → Q (.ref s.heap.objs.size) { s with heap := h' }) :
    wpAny (model prog w) A (call (.type "dict") [.ref o]) Q E s := by
  refine callType_codes (Q₁ := fun b t => b = .ref s.heap.objs.size ∧ t = { s with heap := s.heap.push { cls := .type "dict", data := .dict #[] } }) F.kt_called_dict (F.kt_typeCall_dict_1 _) F.entry_dict_init (kt_code_dict_new _ ⟨rfl, rfl⟩) ?_
  rintro b t ⟨rfl, rfl⟩
  have hnew : (s.heap.push { cls := .type "dict", data := .dict #[] }).DictOfH knd s.heap.objs.size [] := Heap.DictOfH.new s.heap
  refine ⟨hnew.typeIs, F.args_dict_init_2 _ _, ?_⟩
  unfold Builtin.«dict.__init__» Builtin.Dict.selfAndRest
  refine wpAny_bind (wpAny_bind (wpAny_notOrdered_dict hnew.typeIs (wpAny_pure ?_)))
  show wpAny _ _ (Builtin.Dict.updateFrom "dict.__init__" s.heap.objs.size (.ref o) [] .none) _ _ _
  unfold Builtin.Dict.updateFrom
  refine wpAny_bind (wpAny_typeOf ho'.typeIs ?_); rw [if_neg (by decide)]
  unfold Builtin.Dict.merge Builtin.Dict.readDirectly
  refine wpAny_bind (wpAny_bind (wpAny_bind (wpAny_isInstance ho'.typeIs isSubtype_dict_dict ?_)))
  simp only [Bool.not_true, Bool.false_eq_true, if_false]
  refine wpAny_bind (wpAny_specialOf ho'.typeIs F.slot_dict_iter.lookup (wpAny_pure ?_)); simp only [beq_self_eq_true, if_true]
  refine wpAny_bind (wpAny_pure (wpAny_mergeDict_heap (hsz := by simpa using hsz) hu hne hoS hnew ho' (.inr ⟨hty, hap⟩) fun h' hd' _ hs' => ?_))
  show wpAny _ _ (Builtin.Dict.addKeywords s.heap.objs.size [] >>= _) _ _ _
  exact wpAny_bind (wpAny_pure (wpAny_pure ⟨rfl, h h' hd' hs'⟩))
end
section
variable {X : Cx} {R : Reg} {G : List Sl} {pos : Pos} {k : Kt}
theorem call_dictT (hu : X.A.units + 2 < cLine) : CallR X (.type "dict") (fun xs H Q => ∃ (a : Addr) (kvs : List (List Key × V)), xs = [.ref a] ∧ Rd H a (.dT kvs) ∧ (kvs.map fun kv => (tupleKind (mixKind X.prog X.w)).hash kv.1).Nodup ∧ ∀ p, H p = none → Q (.ref p) (upd H p (.dT kvs))) := by
  intro pins s σ H xs us Q I r q
  obtain ⟨a, kvs, ex, hd, hh, q⟩ := q
  subst ex
  cases r with
  | cons r1 r2 =>
    cases r2
    cases r1
    have hn := I.hok.fresh (Nat.le_refl s.heap.objs.size)
    have I1 := I.laid (a := s.heap.objs.size) (o := .dT []) (h' := s.heap.push { cls := .type "dict", data := .dict #[] }) (t' := s.toks) (fun _ _ q => Heap.get?_push_of_some _ q) (Nat.le_refl _) (dt_empty s.heap I.big)
    have na : s.heap.objs.size ≠ a := fun e => by
      rcases hd with hd | ⟨o, hd⟩ <;> rw [← e, hn] at hd <;> cases hd
    have hd1 : Rd (upd H s.heap.objs.size (.dT [])) a (.dT kvs) := by
      rcases hd with hd | ⟨o, hd⟩
      · exact .inl (by rw [upd_ne (Ne.symm na)]; exact hd)
      · exact .inr ⟨o, by rw [upd_ne (Ne.symm na)]; exact hd⟩
    obtain ⟨z, hs0, more, rel, dd⟩ := L2.dt_rd I1.hok hd1
    have hk : more.map (fun x => (tupleKind (mixKind X.prog X.w)).hash x.1) = kvs.map fun kv => (tupleKind (mixKind X.prog X.w)).hash kv.1 := by
      clear dd hd1 hh q hd z
      induction rel with
      | nil => rfl
      | cons h _ ih => rw [List.map_cons, List.map_cons, ih, h.1]
    refine dict_copyT (knd := tupleKind (mixKind X.prog X.w)) (more := more) hu hs0 na dd (by rw [← Paired.length rel]; exact z) (keyed_apart (s := { s with heap := s.heap.push { cls := .type "dict", data := .dict #[] } }) tupleKind_stays dd) (by rw [hk]; exact hh) fun h' dd' hs => ?_
    rw [storedAllH_nil_of_nodup more dd.nodup] at dd'
    obtain ⟨o, es, ep, g1, g2, g3, g4, _, g5⟩ := dd'
    have hm : (s.heap.objs.size == sysModules) = false := beq_eq_false_iff_ne.mpr (Nat.ne_of_gt I.big)
    have I2 := L2.d_write I1 (a := s.heap.objs.size) (by rw [upd_same]; exact True.intro) hs ⟨o, g1⟩ (t' := s.toks) (ob := .dT kvs) ⟨z, hm, more, rel.keeps fun c ys ec => ?_, o, es, ep, g1, g2, g3, g4, g5⟩
    · have eu : upd (upd H s.heap.objs.size (.dT [])) s.heap.objs.size (.dT kvs) = upd H s.heap.objs.size (.dT kvs) := by
        funext b
        by_cases e : b = s.heap.objs.size
        · rw [e, upd_same, upd_same]
        · rw [upd_ne e, upd_ne e, upd_ne e]
      rw [eu] at I2
      exact ⟨.ref s.heap.objs.size, _, I2, rfl, q _ hn⟩
    · have ne : c ≠ s.heap.objs.size := fun e => by
        rw [e, upd_same] at ec
        cases ec
      rw [upd_ne ne]
      exact ec
/-- dict(e), a new dict -/
theorem ew_dictOf {e : Expr} {p : Pos} {P : Dt → Prop} (hu : X.A.units + 2 < cLine) (hg : Gl X "dict") (hm : X.mg "dict" = none) (h : EA X R G [e] fun ds => ∃ ks xs, ds = [.dT ks xs] ∧ (ks.map fun q => (tupleKind (mixKind X.prog X.w)).hash q).Nodup ∧ P (.dT ks xs))
    (he : starEach [e] X.env = (false, eval e X.env) :: starEach [] X.env := by rfl) (hpl : (backTo pos (starEach [] X.env)).any (·.1) = false := by rfl) : EW X R G (.Call (.Name "dict" p) [e] [] pos) P := fun σ F H Q ty c => by
  refine tOf.of (pe_callTy (call_dictT hu) hg hm b_dict pa_w (by decide) (by decide) he hpl) (h σ F H _ ty fun vs F1 H1 ds ex1 r1 h2 => ?_)
  obtain ⟨ks, xs, rfl, hh, hp⟩ := h2
  obtain ⟨v, rfl, r⟩ := r1.one
  obtain ⟨a, ws, rfl, hd, hl, rl⟩ := rp_dT.mp r
  refine ⟨a, _, rfl, rd_mono ex1.wf.fh hd, ?_, fun q hq => c q F1 _ (.dT ks xs) (ex1.trans (ex1.wf.own hq)) (ex1.free hq) (ex1.wf.new hq) (ex1.wf.fh.free hq) ⟨ws, upd_same, hl, rl⟩ hp⟩
  have e : (ks.zip ws).map (fun kv => (tupleKind (mixKind X.prog X.w)).hash kv.1) = ks.map fun q => (tupleKind (mixKind X.prog X.w)).hash q := by
    rw [← List.map_fst_zip (l₁ := ks) (l₂ := ws) (by omega)]
    rw [List.map_map]
    simp [List.map_fst_zip, hl]
  rw [e]
  exact hh
end
end VS
set_option Elab.async false
set_option linter.all false
set_option maxRecDepth 100000
/-! the keys (wins, losses) hash apart. -/
namespace VS
open PySem PySem.Spec L2
def hp (a b : Int) : Int := reduceHash (Builtin.Tuple.tupleHashOf [hashInt a, hashInt b])
theorem hp_eq (P : Program) (w : World) (a b : Int) : (tupleKind (mixKind P w)).hash [.inl a, .inl b] = hp a b := rfl
/-- the places of a table -/
def spots : List (Nat × Nat) := (List.range 31).flatMap fun t => (List.range (t + 1)).map fun a => (a, t - a)
theorem hp_nodup : (spots.map fun p => hp (p.1 : Int) (p.2 : Int)).Nodup := by decide +kernel
end VS
set_option Elab.async false
set_option linter.all false
set_option maxRecDepth 100000
set_option maxHeartbeats 2000000
/-! for a, b in d: a dict walked, its keys pairs of ints. -/
namespace VS
open PySem PySem.Spec L2
/-- what stands at d while it is walked, and else -/
def Lk (kvs : List (List Key × V)) (w : HO) : Prop := w = .dT kvs ∨ ∃ od, w = .frz od (.dT kvs)
section
variable {K : PySem.W.Frag} {F : Hp} {d : Addr} {w : HO} {kvs : List (List Key × V)}
theorem lk_ne {a : Addr} {u : HO} (hd : Rd F d (.dT kvs)) (h : F a = some u) (h1 : u ≠ .dT kvs) (h2 : ∀ od, u ≠ .frz od (.dT kvs)) : a ≠ d := fun e => by
  subst e
  rcases hd with hd | ⟨od, hd⟩
  · rw [hd] at h
    exact h1 (Option.some.inj h).symm
  · rw [hd] at h
    exact h2 od (Option.some.inj h).symm
theorem lk_rd {a : Addr} {u : HO} (hd : Rd F d (.dT kvs)) (hw : Lk kvs w) (h : Rd F a u) (h0 : ∀ od x, u ≠ .frz od x) : Rd (upd F d w) a u := by
  by_cases e : a = d
  · subst e
    have eu : u = .dT kvs := by
      rcases hd with hd | ⟨od, hd⟩
      · rcases h with h | ⟨o, h⟩
        · rw [hd] at h; exact (Option.some.inj h).symm
        · rw [hd] at h; cases h
      · rcases h with h | ⟨o, h⟩
        · rw [hd] at h; exact absurd (Option.some.inj h).symm (h0 _ _)
        · rw [hd] at h; cases h; rfl
    subst eu
    rcases hw with hw | ⟨od, hw⟩
    · exact .inl (by rw [upd_same, hw])
    · exact .inr ⟨od, by rw [upd_same, hw]⟩
  · rcases h with h | ⟨o, h⟩
    · exact .inl (by rw [upd_ne e]; exact h)
    · exact .inr ⟨o, by rw [upd_ne e]; exact h⟩
theorem lk_t {a : Addr} {xs : List V} (hd : Rd F d (.dT kvs)) (hw : Lk kvs w) (h : SqT K F a xs) : SqT K (upd F d w) a xs := by
  rcases h with h | h
  · exact .inl (lk_rd hd hw h fun _ _ z => nomatch z)
  · exact .inr h
theorem lk_l {a : Addr} {xs : List V} (hd : Rd F d (.dT kvs)) (hw : Lk kvs w) (h : SqL K F a xs) : SqL K (upd F d w) a xs := by
  rcases h with h | h
  · exact .inl (lk_rd hd hw h fun _ _ z => nomatch z)
  · exact .inr h
theorem lk_at {a : Addr} {u : HO} (hd : Rd F d (.dT kvs)) (h : F a = some u) (h1 : u ≠ .dT kvs) (h2 : ∀ od, u ≠ .frz od (.dT kvs)) : upd F d w a = some u := by
  rw [upd_ne (lk_ne hd h h1 h2)]
  exact h
mutual
theorem rp_lk (hd : Rd F d (.dT kvs)) (hw : Lk kvs w) : ∀ {x : Dt} {v : V}, Rp K F x v → Rp K (upd F d w) x v
  | .non, _, h => by simp only [Rp] at h ⊢; exact h
  | .bl _, _, h => by simp only [Rp] at h ⊢; exact h
  | .int _, _, h => by simp only [Rp] at h ⊢; exact h
  | .str _, _, h => by simp only [Rp] at h ⊢; exact h
  | .ty _, _, h => by simp only [Rp] at h ⊢; exact h
  | .adr _, _, h => by simp only [Rp] at h ⊢; exact h
  | .tup xs, _, h => by
    simp only [Rp] at h ⊢
    obtain ⟨a, vs, h1, h2, h3⟩ := h
    exact ⟨a, vs, h1, lk_t hd hw h2, rpL_lk hd hw h3⟩
  | .lst xs, _, h => by
    simp only [Rp] at h ⊢
    obtain ⟨a, vs, h1, h2, h3⟩ := h
    exact ⟨a, vs, h1, lk_at hd h2 (fun z => nomatch z) (fun _ z => nomatch z), rpL_lk hd hw h3⟩
  | .frl xs, _, h => by
    simp only [Rp] at h ⊢
    obtain ⟨a, vs, h1, h2, h3⟩ := h
    exact ⟨a, vs, h1, lk_l hd hw h2, rpL_lk hd hw h3⟩
  | .dT ks xs, _, h => by
    simp only [Rp] at h ⊢
    obtain ⟨a, vs, h1, h2, h4, h3⟩ := h
    exact ⟨a, vs, h1, lk_rd hd hw h2 (fun _ _ z => nomatch z), h4, rpL_lk hd hw h3⟩
  | .dK ks xs, _, h => by
    simp only [Rp] at h ⊢
    obtain ⟨a, vs, h1, h2, h4, h3⟩ := h
    exact ⟨a, vs, h1, lk_rd hd hw h2 (fun _ _ z => nomatch z), h4, rpL_lk hd hw h3⟩
  | .obj C ns xs, _, h => by
    simp only [Rp] at h ⊢
    obtain ⟨a, dx, vs, h1, h2, h4, h3⟩ := h
    exact ⟨a, dx, vs, h1, lk_at hd h2 (fun z => nomatch z) (fun _ z => nomatch z), h4, rpL_lk hd hw h3⟩
  | .exv a ns xs o, _, h => by
    simp only [Rp] at h ⊢
    refine ⟨h.1, fun dx hdx => ?_⟩
    obtain ⟨vs, h1, h2, h3⟩ := h.2 dx hdx
    exact ⟨vs, lk_at hd h1 (fun z => nomatch z) (fun _ z => nomatch z), h2, rpL_lk hd hw h3⟩
  | .at_ a x, _, h => by
    simp only [Rp] at h ⊢
    exact ⟨h.1, rp_lk hd hw h.2⟩
  | .key ks, _, h => by
    simp only [Rp] at h ⊢
    obtain ⟨a, h1, h2⟩ := h
    exact ⟨a, h1, lk_at hd h2 (fun z => nomatch z) (fun _ z => nomatch z)⟩
theorem rpL_lk (hd : Rd F d (.dT kvs)) (hw : Lk kvs w) : ∀ {xs : List Dt} {vs : List V}, RpL K F xs vs → RpL K (upd F d w) xs vs
  | [], _, h => by simp only [RpL] at h ⊢; exact h
  | x :: xs, _, h => by
    simp only [RpL] at h ⊢
    obtain ⟨v, r, h1, h2, h3⟩ := h
    exact ⟨v, r, h1, rp_lk hd hw h2, rpL_lk hd hw h3⟩
end
theorem owo_lk {H : Hp} {o : Addr} {x : Dt} (hd : Rd F d (.dT kvs)) (hw : Lk kvs w) (ne : o ≠ d) (h : OwO K F H o x) : OwO K (upd F d w) (upd H d w) o x := by
  rcases h.kinds with ⟨xs, rfl⟩ | ⟨ks, xs, rfl⟩ | ⟨ks, xs, rfl⟩ | ⟨C, ns, xs, rfl⟩ | ⟨a, C, ns, xs, rfl⟩ | ⟨a, xs, rfl⟩ | ⟨a, ks, xs, rfl⟩
  · obtain ⟨vs, h, r⟩ := h; exact ⟨vs, by rw [upd_ne ne]; exact h, rpL_lk hd hw r⟩
  · obtain ⟨vs, h, l, r⟩ := h; exact ⟨vs, by rw [upd_ne ne]; exact h, l, rpL_lk hd hw r⟩
  · obtain ⟨vs, h, l, r⟩ := h; exact ⟨vs, by rw [upd_ne ne]; exact h, l, rpL_lk hd hw r⟩
  · obtain ⟨dx, vs, h, l, r⟩ := h; exact ⟨dx, vs, by rw [upd_ne ne]; exact h, l, rpL_lk hd hw r⟩
  · obtain ⟨e, dx, vs, h, l, r⟩ := h; exact ⟨e, dx, vs, by rw [upd_ne ne]; exact h, l, rpL_lk hd hw r⟩
  · obtain ⟨e, vs, h, r⟩ := h; exact ⟨e, vs, by rw [upd_ne ne]; exact h, rpL_lk hd hw r⟩
  · obtain ⟨e, vs, h, l, r⟩ := h; exact ⟨e, vs, by rw [upd_ne ne]; exact h, l, rpL_lk hd hw r⟩
theorem same_lk {H : Hp} (s : Same F H) : Same (upd F d w) (upd H d w) := fun a o h => by
  by_cases e : a = d
  · subst e; rw [upd_same] at h ⊢; exact h
  · rw [upd_ne e] at h ⊢; exact s a o h
theorem rd_some {u : HO} (h : Rd F d u) : F d ≠ none := by
  rcases h with h | ⟨o, h⟩ <;> rw [h] <;> exact fun z => nomatch z
theorem Wf.lk {R : Reg} {H : Hp} (wf : Wf R F H) (hd : Rd F d (.dT kvs)) : Wf R (upd F d w) (upd H d w) := by
  have nM : ¬ R.M d := fun m => rd_some hd (wf.off d m)
  have ne : ∀ {a}, R.M a → a ≠ d := fun m e => nM (e ▸ m)
  exact ⟨same_lk wf.fh, fun a m => by rw [upd_ne (ne m)]; exact wf.off a m, fun a m => by rw [upd_ne (ne m)]; exact wf.oc a m, R.st H _ (fun a o m h => by rw [upd_ne (ne m)]; exact h) wf.b⟩
theorem Ty.lk {R : Reg} {G : List Sl} {σ : St} {H : Hp} (ty : Ty K R G σ F H) (hd : Rd F d (.dT kvs)) (hw : Lk kvs w) : Ty K R G σ (upd F d w) (upd H d w) := by
  refine ⟨ty.wf.lk hd, sls_of ty.sl.len fun j g hj => ?_, ty.nd⟩
  obtain ⟨v, e, s⟩ := ty.sl.get hj
  refine ⟨v, e, ?_⟩
  cases g with
  | no => trivial
  | sh x => obtain ⟨y, e1, r⟩ := s; exact ⟨y, e1, rp_lk hd hw r⟩
  | ow x =>
    obtain ⟨o, e1, f1, nM, ow⟩ := s
    have ne : o ≠ d := fun z => rd_some hd (by rw [← z]; exact f1)
    exact ⟨o, e1, by rw [upd_ne ne]; exact f1, nM, owo_lk hd hw ne ow⟩
end
section
variable {X : Cx} {R : Reg} {G : List Sl} {pos : Pos} {k : Kt}
/-- what the turns of the walk want -/
def Kw (X : Cx) (R : Reg) (G : List Sl) (k : Kt) (tg : Expr) (body : List Stmt) (ks : List (List Key)) : Prop := ∃ J : Nat → List Sl → Prop, J 0 G ∧
  (∀ i q G, ks[i]? = some q → J i G → ∃ (js : List (Nat × Int)), A X tg (.tup (q.map keyD)) (js.map fun p => (p.1, Dt.int p.2)) ∧ S X R body (setsD G (js.map fun p => (p.1, Dt.int p.2))) { k with nx := J (i + 1), ct := J (i + 1), bk := k.nx }) ∧ ∀ G, J ks.length G → k.nx G
theorem forK_core {tg : Expr} {x : Str} {body : List Stmt} {ks : List (List Key)} {vs : List V} {d : Addr} {od : Obj} {i0 : Nat} {F0 H0 F H : Hp} {σ : St} {D : Ends} (hN : X.N[i0]? = some x) (hv : Vis X.env.scope x) (h : Kw X R G k tg body ks) (hl : ks.length = vs.length) (hsl : σ[i0]? = some (some (.ref d)))
    (hF : F d = some (.frz od (.dT (ks.zip vs)))) (ty : Ty X.K R G σ F H) (b : Bs R F0 H0 G σ F H) (c : KOk X.K R F0 H0 k D) : tFor (iKeys fun τ H Q => ∃ v, τ[i0]? = some (some v) ∧ Q v H) (tgOf X tg) (sOf X body) D σ H := by
  obtain ⟨J, j0, jt, jd⟩ := h
  have hz : (ks.zip vs).length = ks.length := by rw [List.length_zip]; omega
  refine ⟨.ref d, hsl, d, od, rfl, .inr ⟨_, ty.wf.fh _ _ hF, ?_⟩⟩
  refine ⟨fun i m σ H => m = ks.length - i ∧ i ≤ ks.length ∧ ∃ G F, J i G ∧ Ty X.K R G σ F H ∧ Bs R F0 H0 G σ F H ∧ F d = some (.frz od (.dT (ks.zip vs))), ⟨_, rfl, Nat.zero_le _, G, F, j0, ty, b, hF⟩, ?_⟩
  rintro i m σ2 H2 ⟨rfl, hi, G2, F2, jg, ty2, b2, hF2⟩
  have hd2 := ty2.wf.fh _ _ hF2
  by_cases hlt : i < ks.length
  · refine .inr ⟨⟨hd2, by rw [hz]; exact hlt⟩, _, fun σ' H' z => z, fun y H' yy => ?_⟩
    obtain ⟨rfl, q, v, a, e1, e2, e3⟩ := yy
    subst e2
    have eq : ks[i]? = some q := by
      rw [List.getElem?_zip_eq_some] at e1
      exact e1.1
    obtain ⟨js, ha, hS⟩ := jt i q G2 eq jg
    have sm : Same (upd F2 a (.tup (q.map kV))) H' := fun z o hz' => by
      by_cases e : z = a
      · subst e; rw [upd_same] at hz'; rw [e3]; exact hz'
      · rw [upd_ne e] at hz'; exact ty2.wf.fh z o hz'
    refine ha σ2 (upd F2 a (.tup (q.map kV))) H' (.ref a) _ sm (rp_tup.mpr ⟨a, _, rfl, .inl (.inl upd_same), rpL_keys q⟩) fun ws hw rw' => ?_
    have rv : RpL X.K F2 ((js.map fun p => (p.1, Dt.int p.2)).map (·.2)) ws := by
      have e : (js.map fun p => (p.1, Dt.int p.2)).map (·.2) = (js.map (·.2)).map Dt.int := by rw [List.map_map, List.map_map]; rfl
      rw [e] at rw' ⊢
      rw [rw'.ints]
      exact RpL.of_ints
    have b4 : Bs R F0 H0 (setsD G2 (js.map fun p => (p.1, Dt.int p.2))) (setsV σ2 (((js.map fun p => (p.1, Dt.int p.2)).map (·.1)).zip ws)) F2 H' := ⟨b2.ext, fun o ho => b2.fresh o (owns_sets hw ho), b2.z⟩
    have c2 := c.here b2.ext b2.z
    have nxt : ∀ G' σ' F' H'', J (i + 1) G' → Ty X.K R G' σ' F' H'' → Bs R F2 H0 G' σ' F' H'' → ∃ m', m' < ks.length - i ∧ m' = ks.length - (i + 1) ∧ i + 1 ≤ ks.length ∧ ∃ G F, J (i + 1) G ∧ Ty X.K R G σ' F H'' ∧ Bs R F0 H0 G σ' F H'' ∧ F d = some (.frz od (.dT (ks.zip vs))) :=
      fun G' σ' F' H'' z tz bz => ⟨_, by omega, rfl, hlt, G', F', z, tz, Bs.back b2.ext bz b2.z, bz.ext.ff _ _ hF2⟩
    exact hS F2 H0 _ F2 H' _ (ty2.sets rv) b4.here ⟨nxt, c2.rt, c2.rn, c2.nx, nxt⟩
  · have e : i = ks.length := by omega
    subst e
    exact .inl ⟨⟨hd2, by rw [hz]; exact Nat.le_refl _⟩, c.nx G2 σ2 F2 H2 (jd G2 jg) ty2 b2⟩
/-- for .. in x, x a variable that holds a dict -/
theorem s_forK (i0 : Nat) {tg : Expr} {x : Str} {p : Pos} {body : List Stmt} {ks : List (List Key)} {xs : List Dt} (hZ : ∀ F H, R.Z F H) (hp : PassesOwn (model X.prog X.w) X.A X.env X.xe) (hc : X.calm = true) (hg : G[i0]? = some (.sh (.dT ks xs))) (h : Kw X R G k tg body ks)
    (hN : X.N[i0]? = some x := by rfl) (hv : Vis X.env.scope x := by first | exact Or.inl rfl | exact Or.inr (Or.inl rfl) | exact Or.inr (Or.inr rfl)) (hdb : (x == ("__debug__" : Str)) = false := by decide) (hcd : (x == ("__classdict__" : Str)) = false := by decide)
    (hs : ∀ z, foldedSetIterable (.Name x p) X.env z = pure z := by intro _; rfl) : S1 X R (.For tg (.Name x p) body [] pos) G k := fun F0 H0 σ F H D ty b c => by
  obtain ⟨v0, e1, y, e2, r⟩ := ty.sl.get hg
  obtain ⟨d, vs, rfl, hd, hl, rl⟩ := rp_dT.mp r
  subst e2
  have pv : PE X (.Name x p) (fun τ H Q => ∃ v, τ[i0]? = some (some v) ∧ Q v H) := ⟨fun pins s τ H Q I hq => (pe_var hN hv hdb hcd).run pins s τ H Q I hq⟩
  rcases hd with hd | ⟨od, hd⟩
  · refine s1Of.of (ps_lock (ps_for hp hc (pi_keys pv) pg_w pss_w hs)) ⟨d, .dT (ks.zip vs), ty.wf.fh _ _ hd, trivial, fun od => ?_⟩
    generalize hu : ks.zip vs = kvs at *
    have nM : ¬ R.M d := fun m => by rw [ty.wf.off d m] at hd; cases hd
    have w1 : Lk kvs (.frz od (.dT kvs)) := .inr ⟨od, rfl⟩
    have ty1 := ty.lk (.inl hd) w1
    have bs1 : Bs R (upd F d (.frz od (.dT kvs))) (upd H0 d (.frz od (.dT kvs))) G σ (upd F d (.frz od (.dT kvs))) (upd H d (.frz od (.dT kvs))) := by
      refine ⟨⟨ty1.wf, .refl _, fun a o nm ha => ?_, fun _ _ n => n⟩, fun o ho => ?_, hZ _ _⟩
      · by_cases e : a = d
        · subst e; rw [upd_same] at ha ⊢; exact ha
        · rw [upd_ne e] at ha ⊢; exact b.ext.hh a o nm ha
      · obtain ⟨j, z, q1, q2⟩ := owns_mem ho
        obtain ⟨o', q3, f1, _⟩ := ty.own q1
        rw [q2] at q3
        cases q3
        rw [upd_ne (fun e => by rw [e, hd] at f1; cases f1)]
        exact b.fresh o ho
    have back : ∀ {F' H' : Hp}, Ext R (upd F d (.frz od (.dT kvs))) (upd H0 d (.frz od (.dT kvs))) F' H' → F' d = some (.frz od (.dT kvs)) ∧ H' d = some (.frz od (.dT kvs)) ∧ Ext R F0 H0 (upd F' d (.dT kvs)) (upd H' d (.dT kvs)) := fun {F' H'} ex => by
      have f1 : F' d = some (.frz od (.dT kvs)) := ex.ff _ _ upd_same
      refine ⟨f1, ex.wf.fh _ _ f1, ex.wf.lk (kvs := kvs) (.inr ⟨od, f1⟩), fun a o ha => ?_, fun a o nm ha => ?_, fun a ha n => ?_⟩
      · have hf := b.ext.ff a o ha
        by_cases e : a = d
        · subst e; rw [hd] at hf; rw [upd_same]; exact hf
        · rw [upd_ne e]; exact ex.ff a o (by rw [upd_ne e]; exact hf)
      · by_cases e : a = d
        · subst e
          have := b.ext.hh a o nm ha
          rw [ty.wf.fh _ _ hd] at this
          rw [upd_same]
          exact this
        · rw [upd_ne e]; exact ex.hh a o nm (by rw [upd_ne e]; exact ha)
      · have hf := b.ext.fr a ha n
        by_cases e : a = d
        · subst e; rw [hd] at hf; cases hf
        · rw [upd_ne e]; exact ex.fr a (by rw [upd_ne e]; exact ha) (by rw [upd_ne e]; exact hf)
    have w2 : Lk kvs (.dT kvs) := .inl rfl
    have fr0 : ∀ {o : Addr}, (upd H0 d (.frz od (.dT kvs))) o = none → o ≠ d ∧ H0 o = none := fun {o} ho => by
      have ne : o ≠ d := fun e => by rw [e, upd_same] at ho; cases ho
      rw [upd_ne ne] at ho
      exact ⟨ne, ho⟩
    have bb : ∀ {G' : List Sl} {σ' : St} {F' H' : Hp}, Bs R (upd F d (.frz od (.dT kvs))) (upd H0 d (.frz od (.dT kvs))) G' σ' F' H' → Bs R F0 H0 G' σ' (upd F' d (.dT kvs)) (upd H' d (.dT kvs)) := fun bs => ⟨(back bs.ext).2.2, fun o ho => (fr0 (bs.fresh o ho)).2, b.z⟩
    refine forK_core hN hv h hl e1 (by rw [upd_same, hu]) ty1 bs1 ⟨fun G' σ' F' H' hk ty' b' => ?_, fun dd v F' H' hk ex rr => ?_, fun dd q F' H' hk ex h0 fq ow => ?_, fun G' σ' F' H' hk ty' b' => ?_, fun G' σ' F' H' hk ty' b' => ?_⟩
    · obtain ⟨f1, f2, f3⟩ := back b'.ext
      exact ⟨f2, c.nx G' σ' _ _ hk (ty'.lk (.inr ⟨od, f1⟩) w2) (bb b')⟩
    · obtain ⟨f1, f2, f3⟩ := back ex
      exact ⟨f2, c.rt dd v _ _ hk f3 (rp_lk (.inr ⟨od, f1⟩) w2 rr)⟩
    · obtain ⟨f1, f2, f3⟩ := back ex
      obtain ⟨ne, h0'⟩ := fr0 h0
      exact ⟨f2, c.rn dd q _ _ hk f3 h0' (by rw [upd_ne ne]; exact fq) (owo_lk (.inr ⟨od, f1⟩) w2 ne ow)⟩
    · obtain ⟨f1, f2, f3⟩ := back b'.ext
      exact ⟨f2, c.bk G' σ' _ _ hk (ty'.lk (.inr ⟨od, f1⟩) w2) (bb b')⟩
    · obtain ⟨f1, f2, f3⟩ := back b'.ext
      exact ⟨f2, c.ct G' σ' _ _ hk (ty'.lk (.inr ⟨od, f1⟩) w2) (bb b')⟩
  · exact s1Of.of (ps_for hp hc (pi_keys pv) pg_w pss_w hs) (forK_core hN hv h hl e1 hd ty b c)
end
end VS
set_option Elab.async false
set_option linter.all false
set_option maxRecDepth 100000
/-! dicts whose keys are pairs of ints as association lists; x in a list of data; methods that give back new things. -/
namespace VS
open PySem PySem.Spec L2
abbrev Al (α : Type) := List ((Int × Int) × α)
def kk (p : Int × Int) : List Key := [.inl p.1, .inl p.2]
theorem kk_inj {p q : Int × Int} : kk p = kk q ↔ p = q := by
  constructor
  · intro h
    unfold kk at h
    injection h with h1 h2
    injection h2 with h2 h3
    injection h1 with h1
    injection h2 with h2
    exact Prod.ext h1 h2
  · rintro rfl; rfl
def keysA {α : Type} (m : Al α) : List (List Key) := m.map fun e => kk e.1
def dA {α : Type} (f : α → Dt) (m : Al α) : Dt := .dT (keysA m) (m.map fun e => f e.2)
def lk {α : Type} : Al α → Int × Int → Option α
  | [], _ => none
  | e :: m, p => if e.1 = p then some e.2 else lk m p
def has {α : Type} (m : Al α) (p : Int × Int) : Bool := (lk m p).isSome
def put {α : Type} (m : Al α) (p : Int × Int) (a : α) : Al α := if has m p = true then m.map fun e => if e.1 = p then (e.1, a) else e else m ++ [(p, a)]
theorem look_dA {α : Type} (f : α → Dt) (p : Int × Int) : ∀ m : Al α, lookT (keysA m) (m.map fun e => f e.2) (kk p) = (lk m p).map f
  | [] => rfl
  | e :: m => by
    show lookT (kk e.1 :: keysA m) (f e.2 :: m.map fun e => f e.2) (kk p) = _
    unfold lookT lk
    by_cases h : e.1 = p
    · rw [if_pos (kk_inj.mpr h), if_pos h]; rfl
    · rw [if_neg (fun z => h (kk_inj.mp z)), if_neg h]; exact look_dA f p m
theorem hasT_A {α : Type} (p : Int × Int) : ∀ m : Al α, hasT (keysA m) (kk p) = has m p
  | [] => rfl
  | e :: m => by
    have ih := hasT_A p m
    unfold hasT at ih ⊢
    unfold has lk
    show (List.any (kk e.1 :: keysA m) _) = _
    rw [List.any_cons, ih]
    by_cases h : e.1 = p
    · rw [if_pos h, decide_eq_true (kk_inj.mpr h)]; rfl
    · rw [if_neg h, decide_eq_false (fun z => h (kk_inj.mp z))]; rfl
theorem repV_A {α : Type} (f : α → Dt) (p : Int × Int) (a : α) : ∀ m : Al α, repV (kk p) (f a) (keysA m) (m.map fun e => f e.2) = (m.map fun e => if e.1 = p then (e.1, a) else e).map fun e => f e.2
  | [] => rfl
  | e :: m => by
    show repV (kk p) (f a) (kk e.1 :: keysA m) (f e.2 :: m.map fun e => f e.2) = _
    unfold repV
    rw [repV_A f p a m]
    simp only [List.map_cons]
    by_cases h : e.1 = p
    · rw [if_pos (kk_inj.mpr h), if_pos h]
    · rw [if_neg (fun z => h (kk_inj.mp z)), if_neg h]
theorem put_dA {α : Type} (f : α → Dt) (m : Al α) (p : Int × Int) (a : α) : Dt.dT (putT (keysA m) (kk p)) (putX (keysA m) (m.map fun e => f e.2) (kk p) (f a)) = dA f (put m p a) := by
  unfold dA putT putX put
  rw [hasT_A]
  cases h : has m p
  · rw [if_neg (by decide), if_neg (by decide), if_neg (by decide)]
    unfold keysA
    rw [List.map_append, List.map_append]; rfl
  · rw [if_pos rfl, if_pos rfl, if_pos rfl, repV_A]
    congr 1
    unfold keysA
    rw [List.map_map]
    refine List.map_congr_left fun e _ => ?_
    show kk e.1 = kk (if e.1 = p then (e.1, a) else e).1
    split <;> rfl
theorem put_len {α : Type} (m : Al α) (p : Int × Int) (a : α) : (put m p a).length ≤ m.length + 1 := by
  unfold put
  split
  · simp
  · simp
theorem keysA_len {α : Type} (m : Al α) : (keysA m).length = m.length := by unfold keysA; simp
theorem lk_map {α : Type} (p q : Int × Int) (a : α) : ∀ m : Al α, lk (m.map fun e => if e.1 = p then (e.1, a) else e) q = if p = q then (lk m q).map fun _ => a else lk m q
  | [] => by unfold lk; simp
  | e :: m => by
    have ih := lk_map p q a m
    simp only [List.map_cons]
    unfold lk
    by_cases h : e.1 = p
    · rw [if_pos h]
      by_cases h2 : e.1 = q
      · rw [if_pos h2, if_pos (h.symm.trans h2), if_pos h2]; rfl
      · rw [if_neg h2, ih, if_neg (fun z => h2 (h.trans z)), if_neg (fun z => h2 (h.trans z)), if_neg h2]
    · rw [if_neg h, ih]
      by_cases h2 : e.1 = q
      · rw [if_pos h2, if_neg (fun z => h (h2.trans z.symm)), if_pos h2]
      · rw [if_neg h2, if_neg h2]
theorem lk_app {α : Type} (p q : Int × Int) (a : α) : ∀ m : Al α, lk (m ++ [(p, a)]) q = match lk m q with | some x => some x | none => if p = q then some a else none
  | [] => by rw [List.nil_append]; unfold lk; unfold lk; rfl
  | e :: m => by
    have ih := lk_app p q a m
    rw [List.cons_append]
    unfold lk
    by_cases h : e.1 = q
    · rw [if_pos h, if_pos h]
    · rw [if_neg h, if_neg h]; exact ih
theorem lk_put {α : Type} (m : Al α) (p q : Int × Int) (a : α) : lk (put m p a) q = if p = q then some a else lk m q := by
  unfold put
  cases h : has m p
  · rw [if_neg (by decide), lk_app]
    by_cases e : p = q
    · subst e
      rw [if_pos rfl, if_pos rfl]
      unfold has at h
      cases z : lk m p
      · rfl
      · rw [z] at h; cases h
    · rw [if_neg e, if_neg e]
      cases lk m q <;> rfl
  · rw [if_pos rfl, lk_map]
    by_cases e : p = q
    · subst e
      rw [if_pos rfl, if_pos rfl]
      unfold has at h
      cases z : lk m p
      · rw [z] at h; cases h
      · rfl
    · rw [if_neg e, if_neg e]
theorem lk_mem {α : Type} {p : Int × Int} {a : α} : ∀ {m : Al α}, lk m p = some a → (p, a) ∈ m
  | [], h => by cases h
  | e :: m, h => by
    unfold lk at h
    split at h
    · rename_i z; cases h; subst z; exact List.mem_cons_self
    · exact List.mem_cons_of_mem _ (lk_mem h)
theorem fre_ints {α : Type} (κ : Nat) (f : α → Int) (l : List α) : freL κ (l.map fun e => Dt.int (f e)) = true := by
  induction l with
  | nil => rfl
  | cons x l ih => show (fre κ (.int (f x)) && freL κ _) = true; rw [ih]; rfl
theorem fre_strs {α : Type} (κ : Nat) (f : α → Str) (l : List α) : freL κ (l.map fun e => Dt.str (f e)) = true := by
  induction l with
  | nil => rfl
  | cons x l ih => show (fre κ (.str (f x)) && freL κ _) = true; rw [ih]; rfl
theorem nd_map {α β : Type} {f g : α → β} {s ks : List α} (e : ∀ p, f p = g p) (h : (s.map g).Nodup) (hk : ks.Sublist s) : (ks.map f).Nodup := by
  rw [show f = g from funext e]
  exact (hk.map _).nodup h
/-- keys among the counts of at most 30 tries hash apart -/
theorem hash_kk (P : Program) (w : World) (a b : Int) : (tupleKind (mixKind P w)).hash (kk (a, b)) = hp a b := hp_eq P w a b
theorem hash_nd (P : Program) (w : World) {ks : List (Nat × Nat)} (h : ks.Sublist spots) : (ks.map fun p => (tupleKind (mixKind P w)).hash (kk ((p.1 : Int), (p.2 : Int)))).Nodup := nd_map (fun p => hash_kk P w _ _) hp_nodup h
section
variable {X : Cx} {R : Reg} {G : List Sl} {pos : Pos} {k : Kt}
theorem spN_put {K : PySem.W.Frag} {φ : Ph} {n : Nat} {F H : Hp} {ds : List Dt} {vs : List V} {P : Dt → Prop} {Q : VK} {E : XK} (wf : Wf R F H) (r : RpL K F ds vs) (hl : ds.length = n) (hφ : φ ds P fun _ _ _ => False) (c : CtW K R F H P Q) : spN K n φ vs H Q E :=
  ⟨by rw [← r.length, hl], F, ds, P, fun _ _ _ => False, wf.fh, r, hφ, fun p F2 H2 d ex2 hp fp ho q => c p F2 H2 d (Ext.of_nil wf ex2) hp (wf.new hp) fp ho q, ⟨fun _ _ _ _ _ _ _ z => z.elim, fun _ _ _ z => z.elim⟩⟩
theorem CtW.step {K : PySem.W.Frag} {F H F1 H1 : Hp} {P : Dt → Prop} {Q : VK} (c : CtW K R F H P Q) (ex : Ext R F H F1 H1) : CtW K R F1 H1 P Q := fun p F2 H2 d ex2 hp nM fp ho q => c p F2 H2 d (ex.trans ex2) (ex.free hp) nM fp ho q
theorem ew_meth0 {C : Addr} {m : Str} {ps : List Str} {φ : Ph} {n j : Nat} {o : Expr} {apos : Pos} {pl : Sem Bool} {P : Dt → Prop} (cl : Cls X.K C) (F : FnM X.prog X.w X.K X.mg X.base j C m ps [] (spN X.K n φ)) (hr : Room j X.A)
    (h : E X R G o fun d => ∃ ns xs, d = .obj C ns xs ∧ (ns.any fun z => z == m) = false ∧ 1 = n ∧ φ [d] P fun _ _ _ => False)
    (ht : eval (.Call (.Attribute o m apos) [] [] pos) X.env = (do
      let ov ← eval o X.env
      standAt apos.atName
      let (f, first) ← holding [ov] (getMethod ov m pl)
      callWith pos f first (backTo pos (starEach [] X.env)) (backToKw pos (keywordEach [] X.env))) := by rfl) : EW X R G (.Call (.Attribute o m apos) [] [] pos) P := fun σ F' H Q ty c => by
  obtain ⟨f, fd, ds, a1, a3, a4, a5⟩ := F.ex
  refine tOf.of (pe_meth0 (pl := pl) pe_w cl a1 a5 hr a3 a4 passLn ht) (h σ F' H _ ty fun v F1 H1 d ex r ⟨ns, xs, ed, hno, hl2, hφ⟩ => ?_)
  have r0 := r
  subst ed
  obtain ⟨a, dx, vs, rfl, h1, hl, rl⟩ := rp_obj.mp r
  exact ⟨a, dx, _, rfl, ex.wf.fh _ _ h1, fld_none hno, spN_put ex.wf (.cons r0 .nil) hl2 hφ (c.step ex)⟩
theorem _root_.L2.Room.u0 {k : Nat} {A : Around} (r : Room k A) : A.units < cLine := by have := r.un; omega
theorem _root_.L2.Room.u1 {k : Nat} {A : Around} (r : Room k A) : A.units + 1 < cLine := by have := r.un; omega
theorem _root_.L2.Room.u2 {k : Nat} {A : Around} (r : Room k A) : A.units + 2 < cLine := by have := r.un; omega
/-- a key read as a pair -/
theorem e_asK {e : Expr} {P : Dt → Prop} (h : E X R G e fun d => ∃ p, d = .key (kk p) ∧ P (.tup [.int p.1, .int p.2])) : E X R G e P :=
  e_asT fun σ F H Q ty c => h σ F H Q ty fun v F' H' d ex r ⟨p, e, q⟩ => c v F' H' d ex r ⟨kk p, e, q⟩
/-- a class called with plain arguments -/
theorem e_callC {x : Str} {φ : Ph} {n j : Nat} {e : Expr} {es : List Expr} {p : Pos} {P : Dt → Prop} (F : FnC X.prog X.w X.K X.mg X.base j x n φ) (hr : Room j X.A) (hg : Gl X x) (h : EA X R G (e :: es) fun ds => ds.length = n ∧ φ ds P fun _ _ _ => False)
    (hdb : (x == ("__debug__" : Str)) = false := by decide) (he : starEach (e :: es) X.env = (false, eval e X.env) :: starEach es X.env := by rfl) (hpl : (backTo pos (starEach es X.env)).any (·.1) = false := by rfl) : E X R G (.Call (.Name x p) (e :: es) [] pos) P := fun σ F' H Q ty c => by
  obtain ⟨f, a1, a2, a3⟩ := F.ex
  exact tOf.of (pe_callR a3 hr hg a1 a2 passLn pa_w hdb he hpl) (h σ F' H _ ty fun vs F1 H1 ds ex r ⟨hl, hφ⟩ => spD_of ex.wf r hl hφ (c.step ex))
/-- dicts of counts: in, [], get, [] = -/
theorem e_kk {a b : Expr} {x1} {P : Dt → Prop} (h : EA X R G [a, b] fun ds => ∃ p : Int × Int, ds = [.int p.1, .int p.2] ∧ P (.key (kk p))) : E X R G (.Tuple [a, b] x1 pos) P :=
  e_key fun σ F H Q ty c => h σ F H Q ty fun vs F' H' ds ex r ⟨p, e, q⟩ => c vs F' H' ds ex r ⟨kk p, e, by rw [e]; exact Nat.le_of_ble_eq_true rfl, q⟩
theorem e_dinA {i o : Expr} {P : Dt → Prop} (hu : X.A.units + 1 < cLine) (h : E X R G i fun d' => ∃ p, d' = .key (kk p) ∧ E X R G o fun d => ∃ (α : Type) (f : α → Dt) (m : Al α), d = dA f m ∧ P (.bl (has m p))) (hb : behindInMarks .In o = false := by first | exact nobehind _ (by decide) (by decide) | rfl) : E X R G (.Compare i [.In] [o] pos) P :=
  e_din hu (fun σ F H Q ty c => h σ F H Q ty fun v F' H' d ex r ⟨p, e, h2⟩ => c v F' H' d ex r ⟨kk p, e, fun σ F H Q ty c => h2 σ F H Q ty fun v F' H' d ex r ⟨α, f, m, e2, q⟩ => c v F' H' d ex r ⟨_, _, e2, by rw [look_dA, Option.isSome_map]; exact q⟩⟩) hb
theorem t_dinA {i o : Expr} {P : Bool → Prop} (hu : X.A.units + 1 < cLine) (h : E X R G i fun d' => ∃ p, d' = .key (kk p) ∧ E X R G o fun d => ∃ (α : Type) (f : α → Dt) (m : Al α), d = dA f m ∧ P (has m p)) (hb : behindInMarks .In o = false := by first | exact nobehind _ (by decide) (by decide) | rfl) : T X R G (.Compare i [.In] [o] pos) P :=
  t_din hu (fun σ F H Q ty c => h σ F H Q ty fun v F' H' d ex r ⟨p, e, h2⟩ => c v F' H' d ex r ⟨kk p, e, fun σ F H Q ty c => h2 σ F H Q ty fun v F' H' d ex r ⟨α, f, m, e2, q⟩ => c v F' H' d ex r ⟨_, _, e2, by rw [look_dA, Option.isSome_map]; exact q⟩⟩) hb
theorem e_dnotinA {i o : Expr} {P : Dt → Prop} (hu : X.A.units + 1 < cLine) (h : E X R G i fun d' => ∃ p, d' = .key (kk p) ∧ E X R G o fun d => ∃ (α : Type) (f : α → Dt) (m : Al α), d = dA f m ∧ P (.bl (!has m p))) (hb : behindInMarks .NotIn o = false := by first | exact nobehind _ (by decide) (by decide) | rfl) : E X R G (.Compare i [.NotIn] [o] pos) P :=
  e_dnotin hu (fun σ F H Q ty c => h σ F H Q ty fun v F' H' d ex r ⟨p, e, h2⟩ => c v F' H' d ex r ⟨kk p, e, fun σ F H Q ty c => h2 σ F H Q ty fun v F' H' d ex r ⟨α, f, m, e2, q⟩ => c v F' H' d ex r ⟨_, _, e2, by rw [look_dA, Option.isSome_map]; exact q⟩⟩) hb
theorem e_dgetA {i o : Expr} {P : Dt → Prop} (hu : X.A.units + 1 < cLine) (h : E X R G o fun d => ∃ (α : Type) (f : α → Dt) (m : Al α), d = dA f m ∧ E X R G i fun d' => ∃ p a, d' = .key (kk p) ∧ lk m p = some a ∧ P (f a)) (hs : NoSl i := by intro _ _; rfl) : E X R G (.Subscript o i pos) P :=
  e_dget hu (fun σ F H Q ty c => h σ F H Q ty fun v F' H' d ex r ⟨α, f, m, e2, h2⟩ => c v F' H' d ex r ⟨_, _, e2, fun σ F H Q ty c => h2 σ F H Q ty fun v F' H' d ex r ⟨p, a, e, el, q⟩ => c v F' H' d ex r ⟨kk p, f a, e, by rw [look_dA, el]; rfl, q⟩⟩) hs
theorem e_dget1A {o e : Expr} {apos : Pos} {P : Dt → Prop} (hu : X.A.units + 1 < cLine) (h : E X R G o fun d => ∃ (α : Type) (f : α → Dt) (m : Al α), d = dA f m ∧ E X R G e fun d' => ∃ p, d' = .key (kk p) ∧ P (((lk m p).map f).getD .non))
    (m : M1 X o "get" apos e pos := by exact ⟨rfl, rfl, rfl, rfl⟩) : E X R G (.Call (.Attribute o "get" apos) [e] [] pos) P :=
  e_dget1 hu (fun σ F H Q ty c => h σ F H Q ty fun v F' H' d ex r ⟨α, f, m, e2, h2⟩ => c v F' H' d ex r ⟨_, _, e2, fun σ F H Q ty c => h2 σ F H Q ty fun v F' H' d ex r ⟨p, e, q⟩ => c v F' H' d ex r ⟨kk p, e, by rw [look_dA]; exact q⟩⟩) m
theorem e_dget2A {o e g : Expr} {apos : Pos} {P : Dt → Prop} (hu : X.A.units + 1 < cLine) (h : E X R G o fun d => ∃ (m : Al Int), d = dA .int m ∧ E X R G e fun d' => ∃ p, d' = .key (kk p) ∧ E X R G g fun d3 => ∃ z, d3 = .int z ∧ P (.int ((lk m p).getD z)))
    (m : M2 X o "get" apos e g pos := by exact ⟨rfl, rfl, rfl, rfl⟩) : E X R G (.Call (.Attribute o "get" apos) [e, g] [] pos) P :=
  e_dget2 hu (fun σ F H Q ty c => h σ F H Q ty fun v F' H' d ex r ⟨m, e2, h2⟩ => c v F' H' d ex r ⟨_, _, e2, fun σ F H Q ty c => h2 σ F H Q ty fun v F' H' d ex r ⟨p, e, h3⟩ => c v F' H' d ex r ⟨kk p, e, fun σ F H Q ty c => h3 σ F H Q ty fun v F' H' d ex r ⟨z, e3, q⟩ => c v F' H' d ex r (by
    rw [look_dA, e3]
    cases hl : lk m p <;> rw [hl] at q <;> exact q)⟩⟩) m
theorem s_dputA (i : Nat) {x : Str} {e qe : Expr} {p pos' : Pos} {α : Type} {f : α → Dt} {m : Al α} (hu : X.A.units + 1 < cLine) (hg : G[i]? = some (.ow (dA f m))) (hN : X.N[i]? = some x) (hv : Vis X.env.scope x) (hl : m.length < 100000)
    (h : E X R G e fun d => ∃ a, d = f a ∧ E X R G qe fun d' => ∃ q, d' = .key (kk q) ∧ k.nx (G.set i (.ow (dA f (put m q a)))))
    (hd : (x == ("__debug__" : Str)) = false := by decide) (hcd : (x == ("__classdict__" : Str)) = false := by decide) (hs : swapsWith e (some (.Subscript (.Name x p) qe pos')) pos.line X.env = pure false := by rfl) : S1 X R (.Assign [.Subscript (.Name x p) qe pos'] e pos) G k :=
  s_dput i hu hg hN hv (by rw [keysA_len]; exact hl) (fun σ F H Q ty c => h σ F H Q ty fun v F' H' d ex r ⟨a, e1, h2⟩ => c v F' H' d ex r fun σ F H Q ty c => h2 σ F H Q ty fun v F' H' d' ex r ⟨q, e2, hk⟩ => c v F' H' d' ex r ⟨kk q, e2, by rw [e1, put_dA]; exact hk⟩) hd hcd hs
theorem ew_disp1A {α : Type} (f : α → Dt) {ke ve : Expr} {P : Dt → Prop} (hu : X.A.units < cLine) (h : E X R G ke fun d => ∃ p, d = .key (kk p) ∧ E X R G ve fun y => ∃ a, y = f a ∧ P (dA f [(p, a)])) : EW X R G (.Dict [some ke] [ve] pos) P :=
  ew_disp1 hu fun σ F H Q ty c => h σ F H Q ty fun v F' H' d ex r ⟨p, e, h2⟩ => c v F' H' d ex r ⟨kk p, e, fun σ F H Q ty c => h2 σ F H Q ty fun v F' H' d ex r ⟨a, e2, q⟩ => c v F' H' d ex r (by rw [e2]; exact q)⟩
end
/-- the facts of class Table -/
structure TableC (K : PySem.W.Frag) (C : Addr) : Prop where
  cl : Cls K C
  na_limit : NoAttr K C "limit"
  na_looks : NoAttr K C "looks"
  na_entries : NoAttr K C "entries"
  na_reached : NoAttr K C "reached"
  na_stops : NoAttr K C "stops"
  ty : ∀ ns xs, TyD K (.obj C ns xs) (.ref C)
  self : PySem.W.kitOne K (.ref C) (.ref C) = some true
  no : ∀ T, T ∈ plainT → PySem.W.kitOne K (.type T) (.ref C) = some false ∧ PySem.W.notFirst K C (.type T) = true
theorem tableB_ok {K : PySem.W.Frag} {C : Addr} (h : tableB K C = true) : TableC K C := by
  obtain ⟨h1, h⟩ := He.ba h
  obtain ⟨h2, h⟩ := He.ba h
  obtain ⟨h3, h⟩ := He.ba h
  obtain ⟨h4, h⟩ := He.ba h
  obtain ⟨h5, h⟩ := He.ba h
  obtain ⟨h6, h⟩ := He.ba h
  obtain ⟨h7, h⟩ := He.ba h
  obtain ⟨h8, h9⟩ := He.ba h
  exact ⟨clsC_ok h1, (show PySem.W.findIn K (.ref C) "limit" = some none from of_decide_eq_true h2), (show PySem.W.findIn K (.ref C) "looks" = some none from of_decide_eq_true h3), (show PySem.W.findIn K (.ref C) "entries" = some none from of_decide_eq_true h4), (show PySem.W.findIn K (.ref C) "reached" = some none from of_decide_eq_true h5), (show PySem.W.findIn K (.ref C) "stops" = some none from of_decide_eq_true h6), tyB_ok h7 (clsC_ok h1), of_decide_eq_true h8, fun T hT => notB_ok h9 hT⟩
end VS
set_option Elab.async false
set_option linter.all false
set_option maxRecDepth 100000
set_option maxHeartbeats 2000000
/-! methods called with keywords: o.m(k = v, ..) -/
namespace VS
open PySem PySem.Spec L2
structure FnMK (P : Program) (w : World) (K : PySem.W.Frag) (mg : Str → Option Value) (base : Heap) (k : Nat) (C : Addr) (m : Str) (ks : List Str) (gV : List V → List V → List V) (sp : Sp) : Prop where
  ex : ∃ f fd ps g, Meth K C m f ∧ KBn K fd ps 1 ks g gV ∧ FnOk P w K mg base (L2N.CX P w) k f fd ps sp
def tMethK (C : Addr) (m : Str) (n : Nat) (sp : Sp) (gV : List V → List V → List V) (E : XK) (ta : TE) (tk : TA) : TE := fun σ H Q => ta σ H fun x H1 => ∃ a dx fs, x = .ref a ∧ H1 a = some (.ins C dx fs) ∧ fs.lookup m = none ∧ tk σ H1 fun zs H2 => zs.length = n ∧ sp (gV [.ref a] zs) H2 Q E
section
variable {X : Cx} {R : Reg} {G : List Sl} {pos : Pos} {k : Kt}
end
end VS
set_option Elab.async false
set_option linter.all false
set_option maxRecDepth 100000
set_option maxHeartbeats 2000000
/-! functions called with two keyword-only arguments: f(e, .., k = v, l = u) -/
namespace VS
open PySem PySem.Spec L2
structure FnKK (P : Program) (w : World) (K : PySem.W.Frag) (mg : Str → Option Value) (base : Heap) (k : Nat) (x : Str) (n : Nat) (ks : List Str) (sp : Sp) : Prop where
  ex : ∃ f fd ps g, mg x = some (.ref f) ∧ PySem.W.keepIn K (.ref f) = true ∧ KBn K fd ps n ks g (fun vs zs => vs ++ zs) ∧ FnOk P w K mg base (L2N.CX P w) k f fd ps sp
section
variable {X : Cx} {R : Reg} {G : List Sl} {pos : Pos} {k : Kt}
end
end VS
set_option Elab.async false
set_option linter.all false
set_option maxRecDepth 100000
/-! a thing that a call has made is new: a list within it may be changed, what was known before stays. -/
namespace VS
open PySem PySem.Spec L2
open Classical in
/-- F without the lists that F0 has not -/
noncomputable def keepF (F0 F : Hp) : Hp := fun a => if (∃ xs, F a = some (.lst xs)) ∧ F0 a = none then none else F a
section
variable {F0 F : Hp} {a : Addr} {u : HO}
end
mutual
/-- data without a list -/
def nol : Dt → Bool
  | .tup xs => nolL xs
  | .lst _ => false
  | .frl _ => false
  | .dT _ xs => nolL xs
  | .dK _ xs => nolL xs
  | .obj _ _ xs => nolL xs
  | .exv _ _ xs _ => nolL xs
  | .at_ _ d => nol d
  | .non => true
  | .bl _ => true
  | .int _ => true
  | .str _ => true
  | .ty _ => true
  | .adr _ => true
  | .key _ => true
def nolL : List Dt → Bool
  | [] => true
  | x :: xs => nol x && nolL xs
end
section
variable {K : PySem.W.Frag} {F F' : Hp}
theorem rd_kp {a : Addr} {u : HO} (hk : ∀ a u, F a = some u → (∀ xs, u ≠ .lst xs) → F' a = some u) (hu : ∀ xs, u ≠ .lst xs) (h : Rd F a u) : Rd F' a u := by
  rcases h with h | ⟨o, h⟩
  · exact .inl (hk _ _ h hu)
  · exact .inr ⟨o, hk _ _ h fun _ z => nomatch z⟩
mutual
theorem rp_nol (hk : ∀ a u, F a = some u → (∀ xs, u ≠ .lst xs) → F' a = some u) : ∀ {d : Dt} {v : V}, Rp K F d v → nol d = true → Rp K F' d v
  | .non, _, h, _ => by simp only [Rp] at h ⊢; exact h
  | .bl _, _, h, _ => by simp only [Rp] at h ⊢; exact h
  | .int _, _, h, _ => by simp only [Rp] at h ⊢; exact h
  | .str _, _, h, _ => by simp only [Rp] at h ⊢; exact h
  | .ty _, _, h, _ => by simp only [Rp] at h ⊢; exact h
  | .adr _, _, h, _ => by simp only [Rp] at h ⊢; exact h
  | .tup xs, _, h, hf => by
    simp only [Rp] at h ⊢
    simp only [nol] at hf
    obtain ⟨a, vs, h1, h2, h3⟩ := h
    refine ⟨a, vs, h1, ?_, rpL_nol hk h3 hf⟩
    rcases h2 with h2 | h2
    · exact .inl (rd_kp hk (fun _ z => nomatch z) h2)
    · exact .inr h2
  | .lst xs, _, h, hf => by simp only [nol] at hf; cases hf
  | .frl xs, _, h, hf => by simp only [nol] at hf; cases hf
  | .dT ks xs, _, h, hf => by
    simp only [Rp] at h ⊢
    simp only [nol] at hf
    obtain ⟨a, vs, h1, h2, h4, h3⟩ := h
    exact ⟨a, vs, h1, rd_kp hk (fun _ z => nomatch z) h2, h4, rpL_nol hk h3 hf⟩
  | .dK ks xs, _, h, hf => by
    simp only [Rp] at h ⊢
    simp only [nol] at hf
    obtain ⟨a, vs, h1, h2, h4, h3⟩ := h
    exact ⟨a, vs, h1, rd_kp hk (fun _ z => nomatch z) h2, h4, rpL_nol hk h3 hf⟩
  | .key ks, _, h, hf => by
    simp only [Rp] at h ⊢
    obtain ⟨a, h1, h2⟩ := h
    exact ⟨a, h1, hk _ _ h2 fun _ z => nomatch z⟩
  | .obj C ns xs, _, h, hf => by
    simp only [Rp] at h ⊢
    simp only [nol] at hf
    obtain ⟨a, dx, vs, h1, h2, h4, h3⟩ := h
    exact ⟨a, dx, vs, h1, hk _ _ h2 (fun _ z => nomatch z), h4, rpL_nol hk h3 hf⟩
  | .exv a ns xs d, _, h, hf => by
    simp only [Rp] at h ⊢
    simp only [nol] at hf
    refine ⟨h.1, fun dx hd => ?_⟩
    obtain ⟨vs, h1, h2, h3⟩ := h.2 dx hd
    exact ⟨vs, hk _ _ h1 (fun _ z => nomatch z), h2, rpL_nol hk h3 hf⟩
  | .at_ a d, _, h, hf => by
    simp only [Rp] at h ⊢
    simp only [nol] at hf
    exact ⟨h.1, rp_nol hk h.2 hf⟩
theorem rpL_nol (hk : ∀ a u, F a = some u → (∀ xs, u ≠ .lst xs) → F' a = some u) : ∀ {ds : List Dt} {vs : List V}, RpL K F ds vs → nolL ds = true → RpL K F' ds vs
  | [], _, h, _ => by simp only [RpL] at h ⊢; exact h
  | d :: ds, _, h, hf => by
    simp only [RpL] at h ⊢
    simp only [nolL, Bool.and_eq_true] at hf
    obtain ⟨v, r, h1, h2, h3⟩ := h
    exact ⟨v, r, h1, rp_nol hk h2 hf.1, rpL_nol hk h3 hf.2⟩
end
end
/-- what is known still without the new lists; what has a place is known by what stood there -/
inductive Cv (K : PySem.W.Frag) (F0 : Hp) : List Sl → List Sl → Prop where
  | nil : Cv K F0 [] []
  | no {g : Sl} {G B : List Sl} (h : Cv K F0 G B) : Cv K F0 (g :: G) (.no :: B)
  | sh {d : Dt} {G B : List Sl} (hf : nol d = true) (h : Cv K F0 G B) : Cv K F0 (.sh d :: G) (.sh d :: B)
  | ow {ds : List Dt} {G B : List Sl} (hf : nolL ds = true) (h : Cv K F0 G B) : Cv K F0 (.ow (.lst ds) :: G) (.ow (.lst ds) :: B)
  | tg {a : Addr} {d d' : Dt} {G B : List Sl} (r : Rp K F0 d (.ref a)) (h : Cv K F0 G B) : Cv K F0 (.sh (.at_ a d') :: G) (.sh d :: B)
section
variable {K : PySem.W.Frag} {R : Reg} {F0 F F' H H' : Hp}
end
/-- statements from one entry on -/
def SB (X : Cx) (R : Reg) (F0 H0 : Hp) (ss : List Stmt) (G : List Sl) (k : Kt) : Prop := ∀ σ F H D, Ty X.K R G σ F H → Bs R F0 H0 G σ F H → KOk X.K R F0 H0 k D → sOf X ss D σ H
section
variable {X : Cx} {R : Reg} {G : List Sl} {pos : Pos} {k : Kt} {F0 H0 : Hp}
end
end VS
set_option Elab.async false
set_option linter.all false
set_option maxRecDepth 100000
/-! f(e, .., k = v), k keyword-only; data without its places -/
namespace VS
open PySem PySem.Spec L2
section
variable {X : Cx} {R : Reg} {G : List Sl} {pos : Pos} {k : Kt}
end
mutual
/-- without places -/
def er : Dt → Dt
  | .tup xs => .tup (erL xs)
  | .lst xs => .lst (erL xs)
  | .frl xs => .frl (erL xs)
  | .dT ks xs => .dT ks (erL xs)
  | .dK ks xs => .dK ks (erL xs)
  | .obj C ns xs => .obj C ns (erL xs)
  | .exv a ns xs d => .exv a ns (erL xs) d
  | .at_ _ d => er d
  | .non => .non
  | .bl b => .bl b
  | .int i => .int i
  | .str x => .str x
  | .ty n => .ty n
  | .adr a => .adr a
  | .key ks => .key ks
def erL : List Dt → List Dt
  | [] => []
  | x :: xs => er x :: erL xs
end
section
variable {K : PySem.W.Frag} {F : Hp}
mutual
theorem rp_er : ∀ {d : Dt} {v : V}, Rp K F d v → Rp K F (er d) v
  | .non, _, h => by simp only [Rp, er] at h ⊢; exact h
  | .bl _, _, h => by simp only [Rp, er] at h ⊢; exact h
  | .int _, _, h => by simp only [Rp, er] at h ⊢; exact h
  | .str _, _, h => by simp only [Rp, er] at h ⊢; exact h
  | .ty _, _, h => by simp only [Rp, er] at h ⊢; exact h
  | .adr _, _, h => by simp only [Rp, er] at h ⊢; exact h
  | .key ks, _, h => by simp only [Rp, er] at h ⊢; exact h
  | .tup xs, _, h => by
    simp only [Rp, er] at h ⊢
    obtain ⟨a, vs, h1, h2, h3⟩ := h
    exact ⟨a, vs, h1, h2, rpL_er h3⟩
  | .lst xs, _, h => by
    simp only [Rp, er] at h ⊢
    obtain ⟨a, vs, h1, h2, h3⟩ := h
    exact ⟨a, vs, h1, h2, rpL_er h3⟩
  | .frl xs, _, h => by
    simp only [Rp, er] at h ⊢
    obtain ⟨a, vs, h1, h2, h3⟩ := h
    exact ⟨a, vs, h1, h2, rpL_er h3⟩
  | .dT ks xs, _, h => by
    simp only [Rp, er] at h ⊢
    obtain ⟨a, vs, h1, h2, h4, h3⟩ := h
    exact ⟨a, vs, h1, h2, h4, rpL_er h3⟩
  | .dK ks xs, _, h => by
    simp only [Rp, er] at h ⊢
    obtain ⟨a, vs, h1, h2, h4, h3⟩ := h
    exact ⟨a, vs, h1, h2, h4, rpL_er h3⟩
  | .obj C ns xs, _, h => by
    simp only [Rp, er] at h ⊢
    obtain ⟨a, dx, vs, h1, h2, h4, h3⟩ := h
    exact ⟨a, dx, vs, h1, h2, h4, rpL_er h3⟩
  | .exv a ns xs d, _, h => by
    simp only [Rp, er] at h ⊢
    refine ⟨h.1, fun dx hd => ?_⟩
    obtain ⟨vs, h1, h2, h3⟩ := h.2 dx hd
    exact ⟨vs, h1, h2, rpL_er h3⟩
  | .at_ a d, _, h => by
    simp only [Rp] at h
    simp only [er]
    exact rp_er h.2
theorem rpL_er : ∀ {ds : List Dt} {vs : List V}, RpL K F ds vs → RpL K F (erL ds) vs
  | [], _, h => by simp only [RpL, erL] at h ⊢; exact h
  | d :: ds, _, h => by
    simp only [RpL, erL] at h ⊢
    obtain ⟨v, r, h1, h2, h3⟩ := h
    exact ⟨v, r, h1, rp_er h2, rpL_er h3⟩
end
end
/-- rows with their places -/
def rowsA (ps : List (Addr × Dt)) : List Dt := ps.map fun p => .at_ p.1 p.2
end VS
set_option Elab.async false
set_option linter.all false
set_option maxRecDepth 100000
/-! the ring's class, as the head looks at it -/
namespace VS
open PySem PySem.Spec L2
def ringB (K : PySem.W.Frag) (C : Addr) : Bool := clsC K C && (decide (PySem.W.findIn K (.ref C) "rows" = some none) && (decide (PySem.W.findIn K (.ref C) "start" = some none) && (tyB K C && (decide (PySem.W.kitOne K (.ref C) (.ref C) = some true) && notB K C))))
/-- Poly as a class that is made and read, its operators aside -/
def polymB (K : PySem.W.Frag) (C : Addr) : Bool := clsC K C && (decide (PySem.W.findIn K (.ref C) "coefs" = some none) && (tyB K C && (decide (PySem.W.kitOne K (.ref C) (.ref C) = some true) && notB K C)))
end VS
set_option Elab.async false
set_option linter.all false
set_option maxRecDepth 100000
set_option maxHeartbeats 2000000
/-! a class called with one keyword-only argument: C(e, .., k = v) -/
namespace L2
open PySem PySem.Spec PyProof.Rows
section
variable {X : Cx} {CX : CXT} {k n : Nat} {f C : Addr} {fd : FuncData} {ps ks : List Str} {sp : Sp} {E : XK} {x : Str} {p pos : Pos} {e : Expr} {es : List Expr} {kws : List Keyword} {tv : TE} {t tk : TA} {g : List Value → List Value → List Value} {gV : List V → List V → List V}
end
end L2
namespace VS
open PySem PySem.Spec L2
structure FnCK (P : Program) (w : World) (K : PySem.W.Frag) (mg : Str → Option Value) (base : Heap) (k : Nat) (n : Nat) (ks : List Str) (C : Addr) (φ : Ph) : Prop where
  ex : ∃ i fI fd ps g, i + 1 ≤ k ∧ Mk K C fI ∧ KBn K fd ps (n + 1) ks g (fun vs zs => vs ++ zs) ∧ FnOk P w K mg base (L2N.CX P w) i fI fd ps (spIni K C (n + ks.length) φ)
section
variable {X : Cx} {R : Reg} {G : List Sl} {pos : Pos} {k : Kt}
end
/-- the facts of class Ring -/
structure RingC (K : PySem.W.Frag) (C : Addr) : Prop where
  cl : Cls K C
  na_rows : NoAttr K C "rows"
  na_start : NoAttr K C "start"
  ty : ∀ ns xs, TyD K (.obj C ns xs) (.ref C)
  self : PySem.W.kitOne K (.ref C) (.ref C) = some true
  no : ∀ T, T ∈ plainT → PySem.W.kitOne K (.type T) (.ref C) = some false ∧ PySem.W.notFirst K C (.type T) = true
/-- the facts of class Poly, its operators aside -/
structure PolymC (K : PySem.W.Frag) (C : Addr) : Prop where
  cl : Cls K C
  na_coefs : NoAttr K C "coefs"
  ty : ∀ ns xs, TyD K (.obj C ns xs) (.ref C)
  self : PySem.W.kitOne K (.ref C) (.ref C) = some true
  no : ∀ T, T ∈ plainT → PySem.W.kitOne K (.type T) (.ref C) = some false ∧ PySem.W.notFirst K C (.type T) = true
end VS
set_option Elab.async false
set_option linter.all false
set_option maxRecDepth 100000
/-! o.m(e, ..) that may raise -/
namespace VS
open PySem PySem.Spec L2
section
variable {X : Cx} {R : Reg} {G : List Sl} {pos : Pos} {k : Kt} {W : WX}
def tMethSD (C : Addr) (m : Str) (sp : Sp) (dvs : List V) (E : L2.St → XK) (ta : TE) (t : TA) : TE := fun σ H Q => ta σ H fun x H1 => ∃ a dx fs, x = .ref a ∧ H1 a = some (.ins C dx fs) ∧ fs.lookup m = none ∧ t σ H1 fun vs H2 => sp (x :: (vs ++ dvs)) H2 Q (E σ)
end
end VS
set_option Elab.async false
set_option linter.all false
set_option maxRecDepth 100000
set_option maxHeartbeats 2000000
/-! a class called with one keyword-only argument, whose __init__ may raise -/
namespace L2
open PySem PySem.Spec PyProof.Rows
def tMakeKS (C : Addr) (n m : Nat) (sp : Sp) (gV : List V → List V → List V) (E : St → XK) (t tk : TA) : TE := fun σ H Q => t σ H fun vs H1 => tk σ H1 fun zs H2 => vs.length = n ∧ zs.length = m ∧ ∀ x dx, H2 x = none → H2 dx = none → dx ≠ x →
  sp (gV (.ref x :: vs) zs) (upd (upd H2 dx (.own x)) x (.ins C dx [])) (fun v H3 => v = .non ∧ Q (.ref x) H3) (E σ)
section
variable {X : Cx} {CX : CXT} {k n : Nat} {f C : Addr} {fd : FuncData} {ps ks : List Str} {sp : Sp} {E : St → XK} {x : Str} {p pos : Pos} {e : Expr} {es : List Expr} {kws : List Keyword} {tv : TE} {t tk : TA} {g : List Value → List Value → List Value} {gV : List V → List V → List V}
end
end L2
namespace VS
open PySem PySem.Spec L2
section
variable {X : Cx} {R : Reg} {G : List Sl} {pos : Pos} {k : Kt} {W : WX}
/-- C.f, a constant of the class -/
theorem e_cval {o : Expr} {C : Addr} {mc u : Value} {f : Str} {v : V} {d0 : Dt} {P : Dt → Prop} (r : ClX.CRead X.K C mc) (cv : ClX.CVal X.K C mc f v u) (hd : ∀ F, Rp X.K F d0 v) (h : E X R G o fun d => d = .adr C ∧ P d0) (hb : attributeBase o f X.env (eval o X.env) = eval o X.env := by rfl) : E X R G (.Attribute o f pos) P := fun σ F H Q ty c =>
  tOf.of (ClX.pe_cval pe_w hb) (h σ F H _ ty fun y F1 H1 d ex rd ⟨ed, p⟩ => by
    subst ed
    exact ⟨C, mc, v, u, rp_adr.mp rd, r, cv, c v F1 H1 d0 ex (hd F1) p⟩)
end
def cvalB (K : PySem.W.Frag) (C : Addr) (f : Str) (i : Int) : Bool := match PySem.W.findCls K (.ref C) (.type "type") f with
  | some (.val (.int j _)) => decide (j = i)
  | _ => false
theorem cvalB_ok {K : PySem.W.Frag} {C : Addr} {f : Str} {i : Int} (h : cvalB K C f i = true) : ∃ u, ClX.CVal K C (.type "type") f (.int i) u := by
  unfold cvalB at h
  split at h
  · rename_i j t hj
    have e := of_decide_eq_true h
    subst e
    exact ⟨_, hj, ⟨t, rfl⟩⟩
  · cases h
/-! __init__ that may raise -/
section
variable {P : Program} {w : World} {K : PySem.W.Frag} {mg : Str → Option Value} {base : Heap}
end
end VS
set_option Elab.async false
set_option linter.all false
set_option maxRecDepth 100000
set_option maxHeartbeats 4000000
namespace Lk
open PySem PySem.Spec L2 VS
def topS (i : Nat) : Stmt := PySem.Challenge.pw_lookstop_k27_tables_as_values.main.body.getD i (.Pass ⟨0, 0, 0, 0⟩)
abbrev s__law_box : Stmt := topS 20
abbrev s__law_take : Stmt := topS 21
abbrev s__law_gcd : Stmt := topS 22
abbrev s__law_ratio : Stmt := topS 23
abbrev s__law_word : Stmt := topS 24
abbrev s__law_parts : Stmt := topS 25
abbrev s_common_divisor : Stmt := topS 6
abbrev s_is_share : Stmt := topS 7
abbrev s_read_number : Stmt := topS 12
abbrev s_read_share : Stmt := topS 13
abbrev s_read_word : Stmt := topS 14
abbrev s_check_table : Stmt := topS 17
abbrev s_Table_is_end : Stmt := inClass (topS 18) 5
abbrev s_Table_spread : Stmt := inClass (topS 18) 2
abbrev s_Table___contains__ : Stmt := inClass (topS 18) 17
abbrev s_Table___init__ : Stmt := inClass (topS 18) 1
abbrev s__law_table : Stmt := topS 26
abbrev s_Table_rule : Stmt := inClass (topS 18) 3
abbrev s_Table_word_at : Stmt := inClass (topS 18) 4
abbrev s__law_agrees : Stmt := topS 28
abbrev s_Table___eq__ : Stmt := inClass (topS 18) 18
abbrev s__law_unequal : Stmt := topS 29
abbrev s_law : Stmt := topS 30
def d__law_box : He5.DefA := ⟨fun K => He.ga K "_law_box", "_law_box", "_law_box", defArgs s__law_box, defBody s__law_box, defScope s__law_box, [], []⟩
def d__law_take : He5.DefA := ⟨fun K => He.ga K "_law_take", "_law_take", "_law_take", defArgs s__law_take, defBody s__law_take, defScope s__law_take, [], []⟩
def d__law_gcd : He5.DefA := ⟨fun K => He.ga K "_law_gcd", "_law_gcd", "_law_gcd", defArgs s__law_gcd, defBody s__law_gcd, defScope s__law_gcd, [], []⟩
def d__law_ratio : He5.DefA := ⟨fun K => He.ga K "_law_ratio", "_law_ratio", "_law_ratio", defArgs s__law_ratio, defBody s__law_ratio, defScope s__law_ratio, [], []⟩
def d__law_word : He5.DefA := ⟨fun K => He.ga K "_law_word", "_law_word", "_law_word", defArgs s__law_word, defBody s__law_word, defScope s__law_word, [], []⟩
def d__law_parts : He5.DefA := ⟨fun K => He.ga K "_law_parts", "_law_parts", "_law_parts", defArgs s__law_parts, defBody s__law_parts, defScope s__law_parts, [], []⟩
def d_common_divisor : He5.DefA := ⟨fun K => He.ga K "common_divisor", "common_divisor", "common_divisor", defArgs s_common_divisor, defBody s_common_divisor, defScope s_common_divisor, [], []⟩
def d_is_share : He5.DefA := ⟨fun K => He.ga K "is_share", "is_share", "is_share", defArgs s_is_share, defBody s_is_share, defScope s_is_share, [], []⟩
def d_read_number : He5.DefA := ⟨fun K => He.ga K "read_number", "read_number", "read_number", defArgs s_read_number, defBody s_read_number, defScope s_read_number, [], []⟩
def d_read_share : He5.DefA := ⟨fun K => He.ga K "read_share", "read_share", "read_share", defArgs s_read_share, defBody s_read_share, defScope s_read_share, [], []⟩
def d_read_word : He5.DefA := ⟨fun K => He.ga K "read_word", "read_word", "read_word", defArgs s_read_word, defBody s_read_word, defScope s_read_word, [], []⟩
def d_check_table : He5.DefA := ⟨fun K => He.ga K "check_table", "check_table", "check_table", defArgs s_check_table, defBody s_check_table, defScope s_check_table, [], []⟩
def d_Table_is_end : He5.DefA := ⟨fun K => He.ma K (He.ga K "Table") "is_end", "is_end", "Table.is_end", defArgs s_Table_is_end, defBody s_Table_is_end, defScope s_Table_is_end, [], []⟩
def d_Table_spread : He5.DefA := ⟨fun K => He.ma K (He.ga K "Table") "spread", "spread", "Table.spread", defArgs s_Table_spread, defBody s_Table_spread, defScope s_Table_spread, [], []⟩
def d_Table___contains__ : He5.DefA := ⟨fun K => He.ma K (He.ga K "Table") "__contains__", "__contains__", "Table.__contains__", defArgs s_Table___contains__, defBody s_Table___contains__, defScope s_Table___contains__, [], []⟩
def d_Table___init__ : He5.DefA := ⟨fun K => He.ma K (He.ga K "Table") "__init__", "__init__", "Table.__init__", defArgs s_Table___init__, defBody s_Table___init__, defScope s_Table___init__, [], []⟩
def d__law_table : He5.DefA := ⟨fun K => He.ga K "_law_table", "_law_table", "_law_table", defArgs s__law_table, defBody s__law_table, defScope s__law_table, [], []⟩
def d_Table_rule : He5.DefA := ⟨fun K => He.ma K (He.ga K "Table") "rule", "rule", "Table.rule", defArgs s_Table_rule, defBody s_Table_rule, defScope s_Table_rule, [], []⟩
def d_Table_word_at : He5.DefA := ⟨fun K => He.ma K (He.ga K "Table") "word_at", "word_at", "Table.word_at", defArgs s_Table_word_at, defBody s_Table_word_at, defScope s_Table_word_at, [], []⟩
def d__law_agrees : He5.DefA := ⟨fun K => He.ga K "_law_agrees", "_law_agrees", "_law_agrees", defArgs s__law_agrees, defBody s__law_agrees, defScope s__law_agrees, [], []⟩
def d_Table___eq__ : He5.DefA := ⟨fun K => He.ma K (He.ga K "Table") "__eq__", "__eq__", "Table.__eq__", defArgs s_Table___eq__, defBody s_Table___eq__, defScope s_Table___eq__, [], []⟩
def d__law_unequal : He5.DefA := ⟨fun K => He.ga K "_law_unequal", "_law_unequal", "_law_unequal", defArgs s__law_unequal, defBody s__law_unequal, defScope s__law_unequal, [], []⟩
def d_law : He5.DefA := ⟨fun K => He.ga K "law", "law", "law", defArgs s_law, defBody s_law, defScope s_law, [], []⟩
def fn : List He5.DefA := [d__law_box, d__law_take, d__law_gcd, d__law_ratio, d__law_word, d__law_parts, d_common_divisor, d_is_share, d_read_number, d_read_share, d_read_word, d_check_table, d_Table_is_end, d_Table_spread, d_Table___contains__, d_Table___init__, d__law_table, d_Table_rule, d_Table_word_at, d__law_agrees, d_Table___eq__, d__law_unequal, d_law]
def fa : List He.Fa := [.glo "_law_box", .glo "_law_take", .glo "_law_gcd", .glo "_law_ratio", .glo "_law_word", .glo "_law_parts", .glo "common_divisor", .glo "is_share", .glo "read_number", .glo "read_share", .glo "read_word", .glo "check_table", .glo "_law_table", .glo "_law_agrees", .glo "_law_unequal", .glo "law", .free "abs", .free "any", .free "dict", .free "int", .free "isinstance", .free "len", .free "list", .free "range", .free "str", .free "tuple", .glo "InvalidTable", .glo "InvalidWord", .glo "Table", .free "super", .glo "KINDS", .int "MOST_DIGITS" 30, .int "MOST_TRIES" 30, .str "SILENT" "no word"]
abbrev Rw : PySem.W.OpenRow := PySem.W.OpenLaw.row PySem.Challenge.rw_lookstop_k27_tables_as_values
abbrev Pg : Program := Rw.prog
abbrev si_InvalidWord : Stmt := inClass (topS 3) 0
def de_InvalidWord : ErD := ⟨"InvalidWord", "InvalidWord.__init__", defArgs si_InvalidWord, defBody si_InvalidWord, defScope si_InvalidWord, ["word"]⟩
def es : List ErD := [de_InvalidWord]
def xs : List Xa := [fun K => tableB K (He.ga K "Table"), Xa.tup "KINDS" [.str "at least", .str "below"], fun K => creadB K (He.ga K "Table"), fun K => cvalB K (He.ga K "Table") "LONGEST" 30, fun K => neB K (He.ga K "Table"), fun K => methB K (He.ga K "Table") "is_end", fun K => methB K (He.ga K "Table") "spread", fun K => methB K (He.ga K "Table") "__contains__", fun K => mkB K (He.ga K "Table"), fun K => methB K (He.ga K "Table") "rule", fun K => methB K (He.ga K "Table") "word_at", fun K => methB K (He.ga K "Table") "__eq__"]
abbrev hk : PySem.W.Hook := hookV 6 Pg.main.file fa fn es (exOf xs)
def ob (s : PySem.W.SharedT) : AlV := obsVG 6 Pg.main.file fa fn es (exOf xs) (HandSHeadRun.getT s)
theorem ob_eq (s : PySem.W.SharedT) : ob s = hk.obs s.abs := obsVG_eq (HandSHeadRun.getT_eq s)
def loose : List Str := (["_wall", "StopError", "InvalidWord", "InvalidTable", "common_divisor", "is_share", "read_number", "read_share", "read_word", "check_table", "Table", "_law_box", "_law_take", "_law_gcd", "_law_ratio", "_law_word", "_law_parts", "_law_table", "_law_is_integer", "_law_agrees"] : List Str) ++ (["_law_unequal", "KINDS", "SILENT", "MOST_DIGITS", "MOST_TRIES"] : List Str)
theorem run (w : World) : HandSHeadRun.RunEq Rw (PySem.W.view Rw.prog [30]) hk ob 8000 loose w := by
  intro os
  kernel_rfl
end Lk
set_option Elab.async false
set_option linter.all false
set_option maxRecDepth 100000
set_option maxHeartbeats 2000000
/-! tuples: cut, joined, repeated; zip -/
namespace VS
open PySem PySem.Spec L2 PyProof.Rows
section
variable {X : Cx} {R : Reg}
theorem w_catT {xs ys : List Dt} {P : Dt → Prop} (hl : xs.length + ys.length ≤ 100000) (p : P (.tup (xs ++ ys))) : W2 X R (binaryOp .Add) (.tup xs) (.tup ys) P := fun F H x y Q w rx ry c => by
  have rx0 := rx
  have ry0 := ry
  obtain ⟨a, vs, rfl, h1, r1⟩ := rp_tup.mp rx
  obtain ⟨b, ws, rfl, h2, r2⟩ := rp_tup.mp ry
  refine opOf.of op_catA ⟨a, b, vs, ws, rfl, rfl, sq_t w.fh h1, sq_t w.fh h2, by rw [← r1.length, ← r2.length]; exact Nat.le_trans hl (by decide), fun e => ?_, fun _ e => ?_, fun _ _ q hq => ?_⟩
  · have : xs = [] := List.eq_nil_of_length_eq_zero (by rw [r1.length, e]; rfl)
    rw [this] at p
    exact c.here w ry0 p
  · have : ys = [] := List.eq_nil_of_length_eq_zero (by rw [r2.length, e]; rfl)
    rw [this, List.append_nil] at p
    exact c.here w rx0 p
  · exact c _ _ _ _ (w.made hq) (rp_tup_new (w.fh.free hq) (r1.append r2)) p
def zipD (xs ys : List Dt) : List Dt := (xs.zip ys).map fun p => .tup [p.1, p.2]
theorem take_map_all {τ υ : Type} (ts : List τ) (f : τ → υ) : ts.take (ts.map f).length = ts := by rw [List.length_map, List.take_length]
/-- a comprehension over what is known item by item -/
theorem lc_of {G : List Sl} {τ : Type} (ts : List τ) (inj out : τ → Dt) (js : τ → List (Nat × Dt)) {tg elt : Expr} {scope : Scope} {vs : List Nat} (ha : ∀ t ∈ ts, ∀ Y, Blk X scope Y → A Y tg (inj t) (js t)) (hj : ∀ t, ∀ p ∈ js t, p.1 ∈ vs)
    (he : ∀ t ∈ ts, ∀ Y, Blk X scope Y → E Y R (setsD (wipeD G vs) (js t)) elt fun y => y = out t) : Lc X R G tg elt [] scope vs (ts.map inj) fun i acc => acc = (ts.take i).map out := by
  refine ⟨rfl, fun i d acc hd hacc hl => ?_⟩
  rw [List.getElem?_map] at hd
  cases e : ts[i]? with
  | none => rw [e] at hd; cases hd
  | some t =>
    rw [e] at hd
    have ed : d = inj t := (Option.some.inj hd).symm
    subst ed
    have ht := List.mem_of_getElem? e
    refine ⟨js t, ha t ht, hj t, fun Y bY => ts_nil ?_⟩
    rw [if_pos rfl]
    intro Z bZ
    refine (he t ht Z bZ).imp fun y hy => ?_
    have e2 : ts.take (i + 1) = ts.take i ++ [t] := by rw [List.take_add_one, e]; rfl
    show acc ++ [y] = (ts.take (i + 1)).map out
    rw [e2, List.map_append, hacc, hy]
    rfl
/-- .. with a test -/
theorem lc_if {G : List Sl} {τ : Type} (ts : List τ) (inj out : τ → Dt) (f : τ → Bool) (js : τ → List (Nat × Dt)) {tg elt tst : Expr} {scope : Scope} {vs : List Nat} (ha : ∀ t ∈ ts, ∀ Y, Blk X scope Y → A Y tg (inj t) (js t)) (hj : ∀ t, ∀ p ∈ js t, p.1 ∈ vs)
    (ht : ∀ t ∈ ts, ∀ Y, Blk X scope Y → T Y R (setsD (wipeD G vs) (js t)) tst fun b => b = f t) (he : ∀ t ∈ ts, f t = true → ∀ Y, Blk X scope Y → E Y R (setsD (wipeD G vs) (js t)) elt fun y => y = out t) : Lc X R G tg elt [tst] scope vs (ts.map inj) fun i acc => acc = ((ts.take i).filter f).map out := by
  refine ⟨rfl, fun i d acc hd hacc hl => ?_⟩
  rw [List.getElem?_map] at hd
  cases e : ts[i]? with
  | none => rw [e] at hd; cases hd
  | some t =>
    rw [e] at hd
    have ed : d = inj t := (Option.some.inj hd).symm
    subst ed
    have hm := List.mem_of_getElem? e
    have e2 : ts.take (i + 1) = ts.take i ++ [t] := by rw [List.take_add_one, e]; rfl
    refine ⟨js t, ha t hm, hj t, fun Y bY => ts_one ((ht t hm Y bY).imp fun b hb => ?_)⟩
    subst hb
    by_cases hf : f t = true
    · rw [if_pos hf]
      intro Z bZ
      refine (he t hm hf Z bZ).imp fun y hy => ?_
      show acc ++ [y] = ((ts.take (i + 1)).filter f).map out
      rw [e2, List.filter_append, List.filter_cons_of_pos hf, List.map_append, hacc, hy]
      rfl
    · rw [if_neg hf]
      show acc = ((ts.take (i + 1)).filter f).map out
      rw [e2, List.filter_append, List.filter_cons_of_neg hf, List.filter_nil, List.append_nil, hacc]
/-- .. of which only a word is known of each item -/
theorem lc_all {G : List Sl} {ds : List Dt} (Pd : Dt → Prop) (js : Dt → List (Nat × Dt)) {tg elt : Expr} {scope : Scope} {vs : List Nat} (ha : ∀ d ∈ ds, ∀ Y, Blk X scope Y → A Y tg d (js d)) (hj : ∀ t, ∀ p ∈ js t, p.1 ∈ vs)
    (he : ∀ d ∈ ds, ∀ Y, Blk X scope Y → E Y R (setsD (wipeD G vs) (js d)) elt Pd) : Lc X R G tg elt [] scope vs ds fun i acc => acc.length = i ∧ ∀ y ∈ acc, Pd y := by
  refine ⟨⟨rfl, fun y hy => nomatch hy⟩, fun i d acc hd hacc hl => ?_⟩
  have hm := List.mem_of_getElem? hd
  refine ⟨js d, ha d hm, hj d, fun Y bY => ts_nil ?_⟩
  rw [if_pos rfl]
  intro Z bZ
  refine (he d hm Z bZ).imp fun y hy => ?_
  refine ⟨by rw [List.length_append, hacc.1]; rfl, fun z hz => ?_⟩
  rcases List.mem_append.mp hz with h | h
  · exact hacc.2 z h
  · rw [List.mem_singleton.mp h]; exact hy
end
end VS
set_option Elab.async false
set_option linter.all false
set_option maxRecDepth 100000
set_option maxHeartbeats 2000000
/-! t[::-1] of a tuple -/
namespace VS
open PySem PySem.Spec L2 PyProof.Rows
section
variable {prog : Program} {w : World} {A : Around} {E : Value → Shared → Prop} {s : Shared}
end
section
variable {X : Cx} {R : Reg} {G : List Sl} {pos : Pos}
end
end VS
set_option Elab.async false
set_option linter.all false
set_option maxRecDepth 100000
set_option maxHeartbeats 2000000
/-! enumerate over lists, tuples and texts, from a count on. -/
namespace VS
open PySem PySem.Spec L2 PyProof.Rows
section
variable {prog : Program} {w : World} {A : Around} {E : Value → Shared → Prop} {s : Shared}
end
/-- pairs of a count and an item -/
def ItE (k0 : Int) (xs : List V) (Src : Hp → Prop) : It :=
  ⟨fun i H => i < xs.length ∧ Src H, fun i H v H' => ∃ T x, v = .ref T ∧ H T = none ∧ H' = upd H T (.tup [.int (k0 + (i : Nat)), x]) ∧ xs[i]? = some x, fun i H => xs.length ≤ i ∧ Src H⟩
section
variable {X : Cx} {R : Reg} {G : List Sl} {pos : Pos}
def enumD (k0 : Int) (ds : List Dt) : List Dt := ds.mapIdx fun i d => .tup [.int (k0 + (i : Nat)), d]
/-- what is walked, as data -/
def WkD : Dt → Option (List Dt)
  | .lst ds => some ds
  | .tup ds => some ds
  | .str z => some (z.cps.toList.map fun c => .str ⟨#[c]⟩)
  | _ => none
end
end VS
set_option Elab.async false
set_option linter.all false
set_option maxRecDepth 100000
/-! plain: words and their shares. -/
namespace VS
open PySem PySem.Spec L2
def ph_take : Ph := fun ds q _ => ∃ n : Int, ds = [.int n] ∧ (0 < n ∧ n.natAbs.log2 < 9000) ∧ ∀ v : Int, 0 ≤ v → v < n → q (.int v)
theorem u_take {n : Int} {q : Dt → Prop} {x : XD} (h : 0 < n ∧ n.natAbs.log2 < 9000) (p : ∀ v : Int, 0 ≤ v → v < n → q (.int v)) : ph_take [.int n] q x := ⟨n, rfl, h, p⟩
/-! compare -/
def cmpR (a b : Int × Int) : Int := if a.1 * b.2 - b.1 * a.2 = 0 then 0 else if 0 < a.1 * b.2 - b.1 * a.2 then 1 else -1
def ph_compare : Ph := fun ds q _ => ∃ (a b : Int × Int) (B : Nat), ds = [ratD a, ratD b] ∧ (SzR B a ∧ SzR B b ∧ B ≤ 100000) ∧ q (.int (cmpR a b))
/-! is_share -/
def isShare (n d : Int) : Bool := decide (1 ≤ d) && ((decide (0 ≤ n) && decide (n ≤ d)) && decide ((Int.gcd n d : Int) = 1))
def ph_is_share : Ph := fun ds q _ => ∃ n d, ds = [.tup [.int n, .int d]] ∧ q (.bl (isShare n d))
theorem u_is_share {n d : Int} {q : Dt → Prop} {x : XD} (_ : True) (p : q (.bl (isShare n d))) : ph_is_share [.tup [.int n, .int d]] q x := ⟨n, d, rfl, p⟩
/-! _law_less -/
def lessR (a b : Int × Int) : Bool := decide (a.1 * b.2 < b.1 * a.2)
def ph__law_less : Ph := fun ds q _ => ∃ (a b : Int × Int) (B : Nat), ds = [ratD a, ratD b] ∧ (SzR B a ∧ SzR B b ∧ B ≤ 100000) ∧ q (.bl (lessR a b))
/-! _law_share -/
def ph__law_share : Ph := fun ds q _ => ∃ m : Int, ds = [.int m] ∧ (0 < m ∧ m ≤ 10 ^ 31) ∧ ∀ r : Int × Int, IsR r → SzR 110 r → 0 ≤ r.1 → r.1 ≤ r.2 → r.2 ≤ m → q (ratD r)
/-! read_number -/
def dg : List Nat := [48, 49, 50, 51, 52, 53, 54, 55, 56, 57]
def rdNum (l : List Nat) (most : Int) : Int := if l = [] ∨ most < l.length ∨ (∃ c ∈ l, c ∉ dg) then -1 else if l.head? = some 48 ∧ 1 < l.length then -1 else ((NumText.digitsVal l : Nat) : Int)
def ph_read_number : Ph := fun ds q _ => ∃ (l : List Nat) (most : Int), ds = [.str (SX.S l), .int most] ∧ (l.length ≤ 90000 ∧ most ≤ 600) ∧ q (.int (rdNum l most))
theorem u_read_number {l : List Nat} {most : Int} {q : Dt → Prop} {x : XD} (h : l.length ≤ 90000 ∧ most ≤ 600) (p : q (.int (rdNum l most))) : ph_read_number [.str (SX.S l), .int most] q x := ⟨l, most, rfl, h, p⟩
/-! read_share -/
def okSh (n d : Int) : Bool := isShare n d && (!decide (n = 0) && !decide (n = d))
/-- the share that a text tells -/
def rdShare (l : List Nat) : Option (Int × Int) := match TL.par [47] [] l with
  | some (p, q) => if okSh (rdNum p 30) (rdNum q 30) = true then some (rdNum p 30, rdNum q 30) else none
  | none => none
def shD : Option (Int × Int) → Dt
  | some r => ratD r
  | none => .non
theorem par_len0 : ∀ (l acc : List Nat) {p q : List Nat}, TL.par [47] acc l = some (p, q) → p.length ≤ acc.length + l.length ∧ q.length ≤ l.length
  | [], acc, p, q, h => by cases h
  | c :: r, acc, p, q, h => by
    unfold TL.par at h
    split at h
    · cases h
      exact ⟨by omega, by simp⟩
    · have := par_len0 r (acc ++ [c]) h
      simp only [List.length_append, List.length_cons, List.length_nil] at this ⊢
      omega
theorem par_len {l p q : List Nat} (h : TL.par [47] [] l = some (p, q)) : p.length ≤ l.length ∧ q.length ≤ l.length := by
  have := par_len0 l [] h
  simpa using this
def ph_read_share : Ph := fun ds q _ => ∃ l : List Nat, ds = [.str (SX.S l)] ∧ l.length ≤ 90000 ∧ q (shD (rdShare l))
theorem u_read_share {l : List Nat} {q : Dt → Prop} {x : XD} (h : l.length ≤ 90000) (p : q (shD (rdShare l))) : ph_read_share [.str (SX.S l)] q x := ⟨l, rfl, h, p⟩
/-! read_word -/
def restL (k : Str) (l : List Nat) : List Nat := (cutS (SX.S l) (some ((k.length : Int) + 1)) none).cps.toList
def tryK (k : Str) (l : List Nat) : Option (Int × Int) := if Txt.startswith (SX.S l) (k ++ Str.ofString " ") = true then rdShare (restL k l) else none
def rdWord (l : List Nat) : Option (Str × Option (Int × Int)) := if SX.S l = Str.ofString "no word" then some (Str.ofString "no word", none) else match tryK "at least" l with
  | some r => some (Str.ofString "at least", some r)
  | none => match tryK "below" l with
    | some r => some (Str.ofString "below", some r)
    | none => none
def wdD (w : Str × Option (Int × Int)) : Dt := .tup [.str w.1, shD w.2]
theorem rdNum_num {n : Nat} (h0 : 0 < n) (h : n < 10 ^ 30) : rdNum (TL.numL n) 30 = (n : Int) := by
  unfold rdNum
  have hl := TL.numL_len (k := 30) (by decide) h
  rw [if_neg, if_neg, TL.numL_val]
  · rintro ⟨h1, _⟩
    exact numL_head h0 h1
  · rintro (h1 | h1 | ⟨c, hc, hd⟩)
    · exact TL.numL_ne n h1
    · omega
    · have := TL.numL_digits n c hc
      apply hd
      unfold dg
      simp only [List.mem_cons, List.not_mem_nil, or_false]
      omega
theorem rdShare_num {n d : Nat} (hn : 0 < n) (hnd : n < d) (hd : d < 10 ^ 30) (hg : Nat.gcd n d = 1) : rdShare (TL.numL n ++ 47 :: TL.numL d) = some ((n : Int), (d : Int)) := by
  unfold rdShare
  have e : TL.par [47] [] (TL.numL n ++ 47 :: TL.numL d) = some (TL.numL n, TL.numL d) := SX.par_head (sep := []) (TL.numL d) (TL.numL_free (by omega))
  rw [e]
  dsimp only
  rw [rdNum_num hn (by omega), rdNum_num (by omega) hd, if_pos]
  unfold okSh isShare
  have hg2 : Int.gcd (n : Int) (d : Int) = 1 := hg
  rw [hg2, decide_eq_true (show (1 : Int) ≤ (d : Int) by omega), decide_eq_true (show (0 : Int) ≤ (n : Int) by omega), decide_eq_true (show (n : Int) ≤ (d : Int) by omega), decide_eq_false (show ¬ (n : Int) = 0 by omega), decide_eq_false (show ¬ (n : Int) = (d : Int) by omega)]
  rfl
theorem rest_app (k : Str) (r : List Nat) : restL k (k.cps.toList ++ 32 :: r) = r := by
  unfold restL
  rw [C8.cutS_slice, SX.slice_from (by omega)]
  show (k.cps.toList ++ 32 :: r).drop ((k.length : Int) + 1).toNat = r
  have e : ((k.length : Int) + 1).toNat = k.cps.toList.length + 1 := by rw [Array.length_toList]; show _ = k.length + 1; omega
  rw [e, List.drop_append]
  simp
theorem tryK_app (k : Str) (r : List Nat) : tryK k (k.cps.toList ++ 32 :: r) = rdShare r := by
  unfold tryK
  have e : k ++ Str.ofString " " = SX.S (k.cps.toList ++ [32]) := by
    have := SX.S_cat k.cps.toList [32]
    rw [SX.S_tl] at this
    exact this
  rw [e, starts_pre, if_pos, rest_app]
  refine decide_eq_true ?_
  rw [show k.cps.toList ++ 32 :: r = (k.cps.toList ++ [32]) ++ r by simp, List.take_left]
def ph_read_word (C : Addr) : Ph := fun ds q x => ∃ l : List Nat, ds = [.str (SX.S l)] ∧ l.length ≤ 90000 ∧ (∀ w, rdWord l = some w → q (wdD w)) ∧ (rdWord l = none → x C ["word"] [.str (SX.S l)])
theorem u_read_word {C : Addr} {l : List Nat} {w : Str × Option (Int × Int)} {q : Dt → Prop} {x : XD} (h : l.length ≤ 90000 ∧ rdWord l = some w) (p : q (wdD w)) : ph_read_word C [.str (SX.S l)] q x :=
  ⟨l, rfl, h.1, fun w' e => by rw [h.2] at e; cases e; exact p, fun e => by rw [h.2] at e; cases e⟩
/-! is_wrong -/
def wrongW (w : Str × Option (Int × Int)) (s : Int × Int) : Bool := match w.2 with
  | none => false
  | some a => if w.1 = Str.ofString "at least" then decide (cmpR s a < 0) else decide (0 ≤ cmpR s a)
def ph_is_wrong : Ph := fun ds q _ => ∃ (l : List Nat) (w : Str × Option (Int × Int)) (s : Int × Int) (B : Nat), ds = [.str (SX.S l), ratD s] ∧ (l.length ≤ 90000 ∧ rdWord l = some w ∧ SzR B s ∧ (∀ a, w.2 = some a → SzR B a) ∧ B ≤ 100000) ∧ q (.bl (wrongW w s))
/-! words written -/
theorem num_S (n : Nat) : Str.ofString (toString (n : Int)) = SX.S (TL.numL n) := by
  have := SX.S_tl (Str.ofString (toString (n : Int)))
  rw [← this]
  exact congrArg SX.S (TL.tl_num n)
theorem len_num {n : Nat} (h : n < 10 ^ 32) : (TL.numL n).length ≤ 32 := TL.numL_len (k := 32) (by decide) h
theorem rdWord_kat (r : List Nat) : rdWord ((Str.ofString "at least").cps.toList ++ 32 :: r) = (rdShare r).map fun s => (Str.ofString "at least", some s) := by
  unfold rdWord
  have e1 : tryK "below" ((Str.ofString "at least").cps.toList ++ 32 :: r) = none := by
    unfold tryK
    rw [show ("below" : Str) ++ Str.ofString " " = SX.S (Str.ofString "below ").cps.toList by decide, starts_pre, if_neg]
    rw [decide_eq_true_eq]
    intro h
    cases h
  rw [if_neg, tryK_app, e1]
  · cases rdShare r <;> rfl
  intro h
  have := SX.S_inj (b := (Str.ofString "no word").cps.toList) h
  cases this
theorem rdWord_kbe (r : List Nat) : rdWord ((Str.ofString "below").cps.toList ++ 32 :: r) = (rdShare r).map fun s => (Str.ofString "below", some s) := by
  unfold rdWord
  have e1 : tryK "at least" ((Str.ofString "below").cps.toList ++ 32 :: r) = none := by
    unfold tryK
    rw [show ("at least" : Str) ++ Str.ofString " " = SX.S (Str.ofString "at least ").cps.toList by decide, starts_pre, if_neg]
    rw [decide_eq_true_eq]
    intro h
    cases h
  rw [if_neg, e1, tryK_app]
  · cases rdShare r <;> rfl
  intro h
  have := SX.S_inj (b := (Str.ofString "no word").cps.toList) h
  cases this
/-- the two kinds of words -/
def IsKind (k : Str) : Prop := k = Str.ofString "at least" ∨ k = Str.ofString "below"
def wordL (k : Str) (n d : Nat) : List Nat := k.cps.toList ++ 32 :: (TL.numL n ++ 47 :: TL.numL d)
theorem rdWord_k {k : Str} (hk : IsKind k) (n d : Nat) : rdWord (wordL k n d) = (rdShare (TL.numL n ++ 47 :: TL.numL d)).map fun s => (k, some s) := by
  rcases hk with rfl | rfl
  · exact rdWord_kat _
  · exact rdWord_kbe _
theorem wordL_S (k : Str) (n d : Nat) : SX.S (wordL k n d) = k ++ Str.ofString " " ++ Str.ofString (toString (n : Int)) ++ Str.ofString "/" ++ Str.ofString (toString (d : Int)) := by
  unfold wordL
  have ek : k = SX.S k.cps.toList := (SX.S_tl k).symm
  rw [num_S, num_S, show Str.ofString "/" = SX.S [47] by decide, show Str.ofString " " = SX.S [32] by decide]
  conv => rhs; rw [ek]
  rw [SX.S_cat, SX.S_cat, SX.S_cat, SX.S_cat]
  simp
theorem IsKind.len {k : Str} (h : IsKind k) : k.length ≤ 8 := by rcases h with rfl | rfl <;> decide
theorem wordL_len {k : Str} (hk : IsKind k) {n d : Nat} (hn : n < 10 ^ 32) (hd : d < 10 ^ 32) : (wordL k n d).length ≤ 90 := by
  unfold wordL
  have h1 := len_num hn
  have h2 := len_num hd
  have h3 := hk.len
  have h4 : k.cps.toList.length = k.length := Array.length_toList
  simp only [List.length_append, List.length_cons]
  omega
theorem num_len {n : Nat} (h : n < 10 ^ 32) : (Str.ofString (toString (n : Int))).length ≤ 32 := by rw [num_S, SX.S_len]; exact len_num h
theorem num_log {n : Nat} (h : n < 10 ^ 32) : (n : Int).natAbs.log2 < 1920 := Nat.lt_of_lt_of_le (PySem.Flt.log2_lt_of (k := 120) (by decide) (show n < 2 ^ 120 by omega)) (by decide)
def ph_made_word (C : Addr) : Ph := fun ds q x => ∃ (k : Str) (n d : Nat), ds = [.str k, ratD ((n : Int), (d : Int))] ∧ (IsKind k ∧ n < 10 ^ 32 ∧ d < 10 ^ 32) ∧ (rdShare (TL.numL n ++ 47 :: TL.numL d) ≠ none → q (.str (SX.S (wordL k n d)))) ∧ (rdShare (TL.numL n ++ 47 :: TL.numL d) = none → x C ["word"] [.str (SX.S (wordL k n d))])
abbrev kAt : Str := Str.ofString "at least"
abbrev kBe : Str := Str.ofString "below"
def ph_made_k (k : Str) (C : Addr) : Ph := fun ds q x => ph_made_word C (.str k :: ds) q x
theorem IsKind.ok {k : Str} (h : IsKind k) : PyData.strOk k = true := by rcases h with rfl | rfl <;> decide +kernel
end VS
set_option Elab.async false
set_option linter.all false
set_option maxRecDepth 100000
/-! plain: words, split at the slash. -/
namespace VS
open PySem PySem.Spec L2
def dueS : List (List Nat) → Option (Int × Int)
  | [p, q] => if okSh (rdNum p 30) (rdNum q 30) = true then some (rdNum p 30, rdNum q 30) else none
  | _ => none
def wdO : Option (Str × Option (Int × Int)) → Dt
  | some w => wdD w
  | none => .non
def ph__law_number : Ph := fun ds q _ => ∃ l : List Nat, ds = [.str (SX.S l)] ∧ l.length ≤ 90000 ∧ q (.int (rdNum l 30))
def ph__law_due : Ph := fun ds q _ => ∃ l : List Nat, ds = [.str (SX.S l)] ∧ l.length ≤ 90000 ∧ q (wdO (rdWord l))
def ph__law_written : Ph := fun ds q _ => ds = [] ∧ ∀ l : List Nat, l.length ≤ 50 → q (.str (SX.S l))
def ph__law_text : Ph := fun ds q _ => ds = [] ∧ ∀ l : List Nat, l.length ≤ 200 → q (.str (SX.S l))
def ph__law_refused : Ph := fun ds q _ => ∃ (i : Int) (l : List Nat), ds = [.int i, .str (SX.S l)] ∧ (l.length ≤ 90000 ∧ rdWord l = none) ∧ q (.bl true)
def ph_is_wrongE (C : Addr) : Ph := fun ds q x => ∃ (l : List Nat) (s : Int × Int), ds = [.str (SX.S l), ratD s] ∧ (l.length ≤ 90000 ∧ SzR 400 s) ∧ (∀ w, rdWord l = some w → q (.bl (wrongW w s))) ∧ (rdWord l = none → x C ["word"] [.str (SX.S l)])
end VS
set_option Elab.async false
set_option linter.all false
set_option maxRecDepth 100000
/-! plain: polynomials as lists of ints. -/
namespace VS
open PySem PySem.Spec L2
/-- the i-th coefficient -/
def cf (l : List Int) (i : Nat) : Int := l.getD i 0
@[simp] theorem cf_nil (i : Nat) : cf [] i = 0 := by simp [cf]
@[simp] theorem cf_zero (x : Int) (l : List Int) : cf (x :: l) 0 = x := by simp [cf]
@[simp] theorem cf_succ (x : Int) (l : List Int) (i : Nat) : cf (x :: l) (i + 1) = cf l i := by simp [cf]
theorem cf_lt {l : List Int} {i : Nat} (h : i < l.length) : l[i]? = some (cf l i) := by
  unfold cf
  rw [List.getD_eq_getElem?_getD, List.getElem?_eq_getElem h]
  rfl
/-- without zeros at the end -/
def trimL : List Int → List Int
  | [] => []
  | x :: l => if trimL l = [] ∧ x = 0 then [] else x :: trimL l
/-- trimmed -/
def Tr (l : List Int) : Prop := trimL l = l
/-- sums -/
def addL : List Int → List Int → List Int
  | [], b => b
  | a, [] => a
  | x :: a, y :: b => (x + y) :: addL a b
def scL (c : Int) (l : List Int) : List Int := l.map (c * ·)
/-- sizes -/
def SzL (B : Nat) (l : List Int) : Prop := ∀ x ∈ l, x.natAbs < 2 ^ B
theorem SzL.nil {B : Nat} : SzL B [] := fun x h => nomatch h
/-- a polynomial as an object -/
def polD (C : Addr) (l : List Int) : Dt := .obj C ["coefs"] [.tup (l.map .int)]
def iL (l : List Int) : Dt := .lst (l.map .int)
def iT (l : List Int) : Dt := .tup (l.map .int)
theorem at_cf {s : List Int} {z : Int} {j : Nat} (e : z = (j : Int)) (h : j < s.length) : atI (s.map Dt.int) z = some (.int (cf s j)) := by
  rw [e]
  refine atI_nat ?_
  rw [List.getElem?_map, cf_lt h]
  rfl
def ph_trim : Ph := fun ds q _ => ∃ (l : List Int) (d : Dt), ds = [d] ∧ (d = iL l ∨ d = iT l) ∧ l.length ≤ 100000 ∧ q (iT (trimL l))
def padL (l : List Int) (n : Int) : List Int := l ++ List.replicate (n - (l.length : Int)).toNat 0
def ph_padded : Ph := fun ds q _ => ∃ (l : List Int) (n : Int), ds = [iT l, .int n] ∧ (l.length ≤ 50000 ∧ n ≤ 1000 ∧ -1000 ≤ n) ∧ q (iT (padL l n))
def ph_plus : Ph := fun ds q _ => ∃ (a b : List Int), ds = [iT a, iT b] ∧ (a.length ≤ 900 ∧ b.length ≤ 900) ∧ q (iT (trimL (addL a b)))
def ph_scaled : Ph := fun ds q _ => ∃ (a : List Int) (c : Int) (B C : Nat), ds = [iT a, .int c] ∧ (a.length ≤ 900 ∧ SzL B a ∧ c.natAbs < 2 ^ C ∧ C + B ≤ 900000) ∧ q (iT (trimL (scL c a)))
def subL (a b : List Int) : List Int := addL a (scL (-1) b)
def ph_minus : Ph := fun ds q _ => ∃ (a b : List Int) (B : Nat), ds = [iT a, iT b] ∧ (a.length ≤ 900 ∧ b.length ≤ 900 ∧ SzL B b ∧ B ≤ 800000) ∧ q (iT (trimL (subL a b)))
/-- the class Poly's methods -/
def ph_Poly___init__ (C : Addr) : Ph := fun ds q _ => ∃ l : List Int, ds = [iT l] ∧ l.length ≤ 100000 ∧ q (polD C (trimL l))
def ph_Poly_of (C : Addr) : Ph := fun ds q _ => ∃ (l : List Int) (d : Dt), ds = [.adr C, d] ∧ (d = iL l ∨ d = iT l) ∧ l.length ≤ 90000 ∧ q (polD C (trimL l))
/-- a polynomial or an int, by its coefficients -/
def Oth (C : Addr) (d : Dt) (b : List Int) : Prop := d = polD C b ∨ ∃ i, d = .int i ∧ b = trimL [i]
def ph_coefs_of (C : Addr) : Ph := fun ds q _ => ∃ (d : Dt) (b : List Int), ds = [d] ∧ Oth C d b ∧ q (iT b)
def ph_add2 (f : List Int → List Int → List Int) (C : Addr) : Ph := fun ds q _ => ∃ (a b : List Int) (d : Dt) (B : Nat), ds = [polD C a, d] ∧ Oth C d b ∧ (a.length ≤ 900 ∧ b.length ≤ 900 ∧ SzL B a ∧ SzL B b ∧ B ≤ 800000) ∧ q (polD C (trimL (f a b)))
abbrev ph_Poly___add__ := ph_add2 addL
abbrev ph_Poly___radd__ := ph_add2 addL
abbrev ph_Poly___sub__ := ph_add2 subL
abbrev ph_Poly___rsub__ := ph_add2 fun a b => subL b a
def ph_Poly___neg__ (C : Addr) : Ph := fun ds q _ => ∃ (a : List Int) (B : Nat), ds = [polD C a] ∧ (a.length ≤ 900 ∧ SzL B a ∧ B ≤ 800000) ∧ q (polD C (trimL (scL (-1) a)))
def ph__law_row (C : Addr) : Ph := fun ds q _ => ∃ l : List Int, ds = [polD C l] ∧ (Tr l ∧ l.length ≤ 90000) ∧ q (iL l)
def ph__law_trim : Ph := fun ds q _ => ∃ l : List Int, ds = [iL l] ∧ l.length ≤ 100000 ∧ q (iL (trimL l))
def ph__law_plus : Ph := fun ds q _ => ∃ a b : List Int, ds = [iL a, iL b] ∧ (a.length ≤ 40000 ∧ b.length ≤ 40000) ∧ q (iL (trimL (addL a b)))
def ph__law_scaled : Ph := fun ds q _ => ∃ (a : List Int) (c : Int) (B C : Nat), ds = [iL a, .int c] ∧ (a.length ≤ 90000 ∧ SzL B a ∧ c.natAbs < 2 ^ C ∧ C + B ≤ 900000) ∧ q (iL (trimL (scL c a)))
def ph__law_coefs : Ph := fun ds q _ => ds = [] ∧ ∀ l : List Int, l.length ≤ 7 → SzL 80 l → q (iL l)
theorem rangeD_nat (n : Nat) : rangeD 0 ((n : Int)).toNat = (List.range n).map fun i => Dt.int (i : Nat) := by
  unfold rangeD
  rw [Int.toNat_natCast]
  refine List.map_congr_left fun i _ => ?_
  rw [Int.zero_add]
/-- products -/
def mulL : List Int → List Int → List Int
  | [], _ => []
  | x :: a, b => addL (scL x b) (0 :: mulL a b)
def ph_times : Ph := fun ds q _ => ∃ (a b : List Int) (A B : Nat), ds = [iT a, iT b] ∧ (a.length ≤ 900 ∧ b.length ≤ 900 ∧ SzL A a ∧ SzL B b ∧ A + B ≤ 900000) ∧ q (iT (trimL (mulL a b)))
def ph__law_times : Ph := fun ds q _ => ∃ (a b : List Int) (A B : Nat), ds = [iL a, iL b] ∧ (a.length ≤ 900 ∧ b.length ≤ 900 ∧ SzL A a ∧ SzL B b ∧ A + B ≤ 900000) ∧ q (iL (trimL (mulL a b)))
def powT (a : List Int) : Nat → List Int
  | 0 => [1]
  | n + 1 => trimL (mulL (powT a n) a)
def ph_mul2 (C : Addr) : Ph := fun ds q _ => ∃ (a b : List Int) (d : Dt) (B : Nat), ds = [polD C a, d] ∧ Oth C d b ∧ (a.length ≤ 900 ∧ b.length ≤ 900 ∧ SzL B a ∧ SzL B b ∧ B ≤ 400000) ∧ q (polD C (trimL (mulL a b)))
abbrev ph_Poly___mul__ := ph_mul2
abbrev ph_Poly___rmul__ := ph_mul2
def ph_Poly___pow__ (C : Addr) : Ph := fun ds q _ => ∃ (a : List Int) (n B L : Nat), ds = [polD C a, .int (n : Int)] ∧ (SzL B a ∧ a.length ≤ L ∧ n * L ≤ 880 ∧ n ≤ 100 ∧ B ≤ 4000) ∧ q (polD C (powT a n))
/-! values -/
def tv (p q : Int) : List Int → Int
  | [] => 0
  | x :: r => tv p q r * p + x * q ^ r.length
def valR (l : List Int) (r : Int × Int) : Int × Int := mkR (tv r.1 r.2 l * r.2) (r.2 ^ l.length)
def ph_value_of : Ph := fun ds q _ => ∃ (l : List Int) (r : Int × Int) (A B : Nat), ds = [iT l, ratD r] ∧ (SzL A l ∧ SzR B r ∧ A + (B + 2) * (l.length + 1) ≤ 400000) ∧ q (ratD (tv r.1 r.2 l * r.2, r.2 ^ l.length))
def ph_Poly___call__ (C : Addr) : Ph := fun ds q _ => ∃ (l : List Int) (r : Int × Int) (A B : Nat), ds = [polD C l, ratD r] ∧ (SzL A l ∧ SzR B r ∧ 1 ≤ r.2 ∧ A + (B + 2) * (l.length + 1) ≤ 8000) ∧ q (ratD (valR l r))
def ph__law_value : Ph := fun ds q _ => ∃ (l : List Int) (r : Int × Int) (A B : Nat), ds = [iL l, ratD r] ∧ (SzL A l ∧ SzR B r ∧ 1 ≤ r.2 ∧ A + (B + 2) * (l.length + 1) ≤ 400000 ∧ Int.gcd (tv r.1 r.2 l * r.2) (r.2 ^ l.length) < 2 ^ 8999) ∧ q (ratD (valR l r))
/-! derivatives -/
def derL (a : List Int) : List Int := ((List.range a.length).map fun k => ((k : Nat) : Int) * cf a k).drop 1
def ph_derived : Ph := fun ds q _ => ∃ (l : List Int) (B : Nat), ds = [iT l] ∧ (l.length ≤ 900 ∧ SzL B l ∧ B ≤ 800000) ∧ q (iT (trimL (derL l)))
def ph_Poly_derivative (C : Addr) : Ph := fun ds q _ => ∃ (l : List Int) (B : Nat), ds = [polD C l] ∧ (l.length ≤ 900 ∧ SzL B l ∧ B ≤ 800000) ∧ q (polD C (trimL (derL l)))
end VS
set_option Elab.async false
set_option linter.all false
set_option maxRecDepth 100000
/-! plain: choices and paths. -/
namespace VS
open PySem PySem.Spec L2
def bin : Nat → Nat → Nat
  | _, 0 => 1
  | 0, _ + 1 => 0
  | n + 1, k + 1 => bin n k + bin n (k + 1)
def sg (k : Nat) : Int := 1 - 2 * ((k : Int) % 2)
def sgnL (l : Nat) : List Int := (List.range (l + 1)).map fun k => (bin l k : Int) * sg k
def pathL (w l : Nat) : List Int := List.replicate w 0 ++ sgnL l
def pthT (w : Nat) : Nat → List Int
  | 0 => powT [0, 1] w
  | l + 1 => trimL (mulL (pthT w l) [1, -1])
def tot (n : Nat) : Nat → List Int
  | 0 => []
  | k + 1 => trimL (addL (tot n k) (trimL (mulL (pathL k (n - k)) (trimL [(bin n k : Int)]))))
def orL (n : Nat) : List Int := (List.range (n + 1)).map fun k => (bin n k : Int)
def ph_choose : Ph := fun ds q _ => ∃ n k : Nat, ds = [.int (n : Int), .int (k : Int)] ∧ (k ≤ n ∧ n ≤ 1000) ∧ q (.int (bin n k : Int))
def ph_path_coefs : Ph := fun ds q _ => ∃ w l : Nat, ds = [.int (w : Int), .int (l : Int)] ∧ (w ≤ 1000 ∧ l ≤ 1000) ∧ q (iT (pathL w l))
def ph_Poly_path (C : Addr) : Ph := fun ds q _ => ∃ w l : Nat, ds = [.adr C, .int (w : Int), .int (l : Int)] ∧ (w ≤ 1000 ∧ l ≤ 1000) ∧ q (polD C (pathL w l))
def ph_Poly_degree (C : Addr) : Ph := fun ds q _ => ∃ l : List Int, ds = [polD C l] ∧ l.length ≤ 100000 ∧ q (.int ((l.length : Int) - 1))
def ph__law_path : Ph := fun ds q _ => ∃ w l : Nat, ds = [.int (w : Int), .int (l : Int)] ∧ (w ≤ 100 ∧ l ≤ 100) ∧ q (iL (pathL w l))
def ph__law_orders : Ph := fun ds q _ => ∃ n : Nat, ds = [.int (n : Int)] ∧ n ≤ 100 ∧ q (iL (orL n))
end VS
set_option Elab.async false
set_option linter.all false
set_option maxRecDepth 100000
/-! plain: exact quotients. -/
namespace VS
open PySem PySem.Spec L2
def IsQ (a b q : List Int) : Prop := ∀ i, cf a i = cf (mulL q b) i
/-! sizes in the division -/
def ph_quotient : Ph := fun ds q _ => ∃ (a b : List Int) (A B : Nat), ds = [iT a, iT b] ∧ (a.length ≤ 900 ∧ b.length ≤ 900 ∧ Tr b ∧ SzL A a ∧ SzL B b ∧ B ≤ 8000 ∧ A + (a.length + 2) * (B + 1) ≤ 800000) ∧ (∀ z, b ≠ [] → Tr z → IsQ a b z → q (iT z)) ∧ ((b = [] ∨ ∀ z, Tr z → ¬ IsQ a b z) → q .non)
def ph_Poly___floordiv__ (C N : Addr) : Ph := fun ds q x => ∃ (a b : List Int) (d : Dt) (A B : Nat), ds = [polD C a, d] ∧ Oth C d b ∧ (a.length ≤ 900 ∧ b.length ≤ 900 ∧ Tr b ∧ SzL A a ∧ SzL B b ∧ B ≤ 8000 ∧ A + (a.length + 2) * (B + 1) ≤ 800000) ∧ (∀ z, b ≠ [] → Tr z → IsQ a b z → q (polD C z)) ∧ ((b = [] ∨ ∀ z, Tr z → ¬ IsQ a b z) → x N [] [])
/-- all that a division wants -/
def QOk (a b : List Int) : Prop := ∃ A B, a.length ≤ 900 ∧ b.length ≤ 900 ∧ Tr b ∧ SzL A a ∧ SzL B b ∧ B ≤ 8000 ∧ A + (a.length + 2) * (B + 1) ≤ 800000
/-! what the law of quotients asks -/
def ph__law_inexact (C : Addr) : Ph := fun ds q _ => ∃ (a b : List Int) (d : Dt), ds = [polD C a, d] ∧ Oth C d b ∧ (QOk a b ∧ (b = [] ∨ ∀ z, Tr z → ¬ IsQ a b z)) ∧ q (.bl true)
end VS
set_option Elab.async false
set_option linter.all false
set_option maxRecDepth 100000
/-! plain: sign rows. -/
namespace VS
open PySem PySem.Spec L2
def tp (a E C : List Int) : Nat → List Int
  | 0 => [cf a (a.length - 1)]
  | j + 1 => trimL (addL (trimL (mulL (tp a E C j) E)) (trimL (scL (cf a (a.length - 2 - j)) (powT C (j + 1)))))
def tl (a E C : List Int) : Nat → List Int
  | 0 => []
  | j + 1 => trimL (addL (tl a E C j) (trimL (scL (cf a (a.length - 1 - j)) (trimL (mulL (powT E (a.length - 1 - j)) (powT C j))))))
def comR (lo hi : Int × Int) : Int := lo.2 * hi.2 / (Int.gcd lo.2 hi.2 : Int)
def endL (lo hi : Int × Int) : List Int := [lo.1 * (comR lo hi / lo.2), hi.1 * (comR lo hi / hi.2)]
def comL (lo hi : Int × Int) : List Int := [comR lo hi, comR lo hi]
def srow (a : List Int) (lo hi : Int × Int) : List Int := if a = [] then [] else padL (tp a (endL lo hi) (comL lo hi) (a.length - 1)) (a.length : Int)
/-- what is wanted of a row and a stretch -/
def SrOk (a : List Int) (lo hi : Int × Int) : Prop := ∃ A B, Tr a ∧ a.length ≤ 60 ∧ SzL A a ∧ SzR B lo ∧ SzR B hi ∧ 1 ≤ lo.2 ∧ 1 ≤ hi.2 ∧ A ≤ 4100 ∧ (B ≤ 2000 ∨ a.length ≤ 25 ∧ B ≤ 4400)
def ph_sign_row_of : Ph := fun ds q _ => ∃ (a : List Int) (lo hi : Int × Int), ds = [iT a, ratD lo, ratD hi] ∧ SrOk a lo hi ∧ q (iL (srow a lo hi))
def ph__law_signs : Ph := fun ds q _ => ∃ (a : List Int) (lo hi : Int × Int), ds = [iL a, ratD lo, ratD hi] ∧ SrOk a lo hi ∧ q (iL (srow a lo hi))
def ph_check_stretch : Ph := fun ds q _ => ∃ (lo hi : Int × Int) (B : Nat), ds = [ratD lo, ratD hi] ∧ (SzR B lo ∧ SzR B hi ∧ B ≤ 100000 ∧ lessR lo hi = true) ∧ q .non
def ph_sign_row (C : Addr) : Ph := fun ds q _ => ∃ (a : List Int) (lo hi : Int × Int), ds = [polD C a, ratD lo, ratD hi] ∧ (SrOk a lo hi ∧ lessR lo hi = true) ∧ q (iL (srow a lo hi))
/-! stretches of the laws -/
def StOk (lo hi : Int × Int) : Prop := IsR lo ∧ IsR hi ∧ SzR 60 lo ∧ SzR 60 hi ∧ lessR lo hi = true
def ph_strt : Ph := fun ds q _ => ∃ m : Int, ds = [.int m] ∧ (0 < m ∧ m ≤ 10 ^ 12) ∧ ∀ lo hi : Int × Int, StOk lo hi → q (.tup [ratD lo, ratD hi])
end VS
set_option Elab.async false
set_option linter.all false
set_option maxRecDepth 100000
/-! own classes: <=, >= , also with an int on the left -/
namespace VS
open PySem PySem.Spec L2
section
open PySem.W (InstAt Looks)
variable {prog : Program} {w : World} {A : Around} {E : Value → Shared → Prop} {s : Shared} {K : PySem.W.Frag} {x C f : Addr} {ox : Obj} {od : Option Obj}
end
section
variable {X : Cx} {R : Reg} {G : List Sl} {pos : Pos} {k : Kt}
/-- n op p -/
structure IntCmp (op : CmpOp) : Prop where
  ex : ∃ (id fn : String) (o : Int → Int → Sem Fin), Slot "int" (cmpInfo op).2.1 id ∧ entryFor table id = some (Builtin.Int.intBinary fn o) ∧ ∀ a b : Value, argsOk id ⟨[a, b], []⟩
end
end VS
set_option Elab.async false
set_option linter.all false
set_option maxRecDepth 100000
/-! plain: polynomials as values, shown. -/
namespace VS
open PySem PySem.Spec L2
def sI (x : Int) : Str := Str.ofString (toString x)
def joinI (a : List Int) : Str := Txt.join (Str.ofString ", ") (a.map sI)
def shown (a : List Int) : Str := Str.ofString "Poly(" ++ joinI a ++ Str.ofString ")"
def ph_Poly___len__ (C : Addr) : Ph := fun ds q _ => ∃ a : List Int, ds = [polD C a] ∧ q (.int (a.length : Int))
def ph_Poly___getitem__ (C : Addr) : Ph := fun ds q _ => ∃ (a : List Int) (n : Nat), ds = [polD C a, .int (n : Int)] ∧ q (.int (cf a n))
def ph_Poly___repr__ (C : Addr) : Ph := fun ds q _ => ∃ (a : List Int) (B : Nat), ds = [polD C a] ∧ (SzL B a ∧ B ≤ 1900 ∧ a.length ≤ 100) ∧ q (.str (shown a))
def ph__law_shown : Ph := fun ds q _ => ∃ (a : List Int) (B : Nat), ds = [iL a] ∧ (SzL B a ∧ B ≤ 1900 ∧ a.length ≤ 100) ∧ q (.str (shown a))
/-- data that are no object -/
def plainD (d : Dt) : Prop := (∃ i, d = .int i) ∨ (∃ xs, d = .tup xs) ∨ (∃ xs, d = .lst xs) ∨ ∃ z, d = .str z
def ph_Poly___eq__ (C : Addr) : Ph := fun ds q _ => ∃ (a : List Int) (d : Dt), ds = [polD C a, d] ∧ ((∃ b, d = polD C b ∧ q (.bl (decide (a = b)))) ∨ (plainD d ∧ q (.bl false)))
end VS
set_option Elab.async false
set_option linter.all false
set_option maxRecDepth 100000
/-! list(d.values()), for .. in d.items(), d a dict with tuple keys. -/
namespace VI
open PySem PySem.Spec PyProof.Rows L2
def tListValsT (te : TE) : TE := fun σ H Q => te σ H fun x H1 => ∃ (d : Addr) (kvs : List (List Key × V)), x = .ref d ∧ Rd H1 d (.dT kvs) ∧ ∀ q, H1 q = none → Q (.ref q) (upd H1 q (.lst (kvs.map (·.2))))
section
variable {X : Cx} {e : Expr} {te : TE} {p apos cpos pos : Pos}
end
section
variable {X : Cx} {pins : List (Addr × Obj)} {σ : L2.St} {H : Hp} {s : Shared} {d : Addr} {o : Obj}
end
/-- the pairs of the locked dict at d, each a new tuple -/
def Itit (d : Addr) (o : Obj) (kvs : List (List Key × V)) : It :=
  ⟨fun i H => H d = some (.frz o (.dT kvs)) ∧ i < kvs.length, fun i H x H' => ∃ (T q : Addr) (k : List Key) (v : V), kvs[i]? = some (k, v) ∧ H q = some (.tup (k.map kV)) ∧ x = .ref T ∧ H T = none ∧ H' = upd H T (.tup [.ref q, v]), fun i H => H d = some (.frz o (.dT kvs)) ∧ kvs.length ≤ i⟩
section
variable {P : Program} {w : World} {K : PySem.W.Frag} {d : Addr} {o : Obj} {es : Array DictEntry} {ep : Nat}
end
def iItemsT (td : TE) : TI := fun σ H R => td σ H fun x H1 => ∃ d o kvs, x = .ref d ∧ H1 d = some (.frz o (.dT kvs)) ∧ R (Itit d o kvs) H1
section
variable {X : Cx} {e : Expr} {td : TE} {apos cpos : Pos}
end
end VI
set_option Elab.async false
set_option linter.all false
set_option maxRecDepth 100000
/-! the same over data -/
namespace VS
open PySem PySem.Spec L2
section
variable {X : Cx} {R : Reg} {G : List Sl} {pos : Pos} {k : Kt}
/-- what the turns want -/
def Kwi (X : Cx) (R : Reg) (G : List Sl) (k : Kt) (tg : Expr) (body : List Stmt) (ks : List (List Key)) (xs : List Dt) : Prop := ∃ J : Nat → List Sl → Prop, J 0 G ∧
  (∀ i q y G, ks[i]? = some q → xs[i]? = some y → J i G → ∃ (js : List (Nat × Dt)), A X tg (.tup [.tup (q.map keyD), y]) js ∧ (∀ p ∈ js, flatD p.2 = true) ∧ S X R body (setsD G js) { k with nx := J (i + 1), ct := J (i + 1), bk := k.nx }) ∧ ∀ G, J ks.length G → k.nx G
end
end VS
set_option Elab.async false
set_option linter.all false
set_option maxRecDepth 100000
set_option maxHeartbeats 2000000
/-! functions called with their two keyword-only arguments in the other order -/
namespace VS
open PySem PySem.Spec L2
structure FnKX (P : Program) (w : World) (K : PySem.W.Frag) (mg : Str → Option Value) (base : Heap) (k : Nat) (x : Str) (n : Nat) (ks : List Str) (sp : Sp) : Prop where
  ex : ∃ f fd ps g, mg x = some (.ref f) ∧ PySem.W.keepIn K (.ref f) = true ∧ KBn K fd ps n ks g (fun vs zs => vs ++ (zs.drop 1 ++ zs.take 1)) ∧ FnOk P w K mg base (L2N.CX P w) k f fd ps sp
section
variable {X : Cx} {R : Reg} {G : List Sl} {pos : Pos} {k : Kt}
end
end VS
set_option Elab.async false
set_option linter.all false
set_option maxRecDepth 100000
/-! unpacking a list; a def with a star behind positional parameters. -/
namespace VS
open PySem PySem.Spec L2
section
variable {X : Cx} {R : Reg} {G : List Sl} {pos : Pos} {k : Kt}
end

/-- def f(a, .., *v): n positional parameters ahead of the star -/
def spTn (K : PySem.W.Frag) (n : Nat) (φ : Ph) : Sp := fun vs H Q E => ∃ ws rest, vs = ws ++ rest ∧ ws.length = n ∧ rest.length ≤ sizeLine ∧ ∀ p, H p = none → spD K (n + 1) φ (ws ++ [.ref p]) (upd H p (.tup rest)) Q E
structure FnT (P : Program) (w : World) (K : PySem.W.Frag) (mg : Str → Option Value) (base : Heap) (k : Nat) (x : Str) (n : Nat) (φ : Ph) : Prop where
  ex : ∃ f : Addr, mg x = some (.ref f) ∧ PySem.W.keepIn K (.ref f) = true ∧ FnR P w K mg base (L2N.CX P w) k f (spTn K n φ)
section
variable {X : Cx} {R : Reg} {G : List Sl} {pos : Pos} {k : Kt}
end
section
variable {P : Program} {w : World} {K : PySem.W.Frag} {mg : Str → Option Value} {base : Heap}
end
end VS
set_option Elab.async false
set_option linter.all false
set_option maxRecDepth 100000
/-! plain: stopping tables. -/
namespace VS
open PySem PySem.Spec L2
/-! counts -/
def castP (p : Nat × Nat) : Int × Int := ((p.1 : Int), (p.2 : Int))
def cnN (n : Nat) : List (Nat × Nat) := (List.range n).flatMap fun i => (List.range (i + 2)).map fun j => (j, i + 1 - j)
def cRow (t : Int) (j : Nat) : List (Int × Int) := (List.range j).map fun a => ((a : Nat) : Int) |> fun a => (a, t - a)
/-- the counts of 1 .. n tries -/
def cnt (n : Nat) : List (Int × Int) := (List.range n).flatMap fun i => cRow (1 + (i : Nat)) (i + 2)
theorem cnt_succ (n : Nat) : cnt (n + 1) = cnt n ++ cRow (1 + (n : Nat)) (n + 2) := by unfold cnt; rw [List.range_succ, List.flatMap_append]; simp
theorem cRow_succ (t : Int) (j : Nat) : cRow t (j + 1) = cRow t j ++ [((j : Int), t - j)] := by unfold cRow; rw [List.range_succ, List.map_append]; rfl
theorem mem_cRow {t : Int} {j : Nat} {p : Int × Int} : p ∈ cRow t j ↔ 0 ≤ p.1 ∧ p.1 < j ∧ p.1 + p.2 = t := by
  unfold cRow
  rw [List.mem_map]
  constructor
  · rintro ⟨a, ha, rfl⟩
    have := List.mem_range.mp ha
    exact ⟨by show (0 : Int) ≤ (a : Int); omega, by show (a : Int) < (j : Int); omega, by show (a : Int) + (t - (a : Int)) = t; omega⟩
  · rintro ⟨h0, h1, h2⟩
    refine ⟨p.1.toNat, List.mem_range.mpr (by omega), ?_⟩
    show (((p.1.toNat : Nat) : Int), t - ((p.1.toNat : Nat) : Int)) = p
    exact Prod.ext (by show ((p.1.toNat : Nat) : Int) = p.1; omega) (by show t - ((p.1.toNat : Nat) : Int) = p.2; omega)
theorem mem_cnt {n : Nat} {p : Int × Int} : p ∈ cnt n ↔ 0 ≤ p.1 ∧ 0 ≤ p.2 ∧ 1 ≤ p.1 + p.2 ∧ p.1 + p.2 ≤ n := by
  unfold cnt
  rw [List.mem_flatMap]
  constructor
  · rintro ⟨i, hi, h⟩
    have := List.mem_range.mp hi
    have := mem_cRow.mp h
    omega
  · intro h
    refine ⟨(p.1 + p.2 - 1).toNat, List.mem_range.mpr (by omega), mem_cRow.mpr ?_⟩
    omega
theorem cnt_cast (n : Nat) : cnt n = (cnN n).map castP := by
  unfold cnt cnN
  rw [List.map_flatMap]
  refine congrArg (fun f => (List.range n).flatMap f) (funext fun i => ?_)
  unfold cRow
  rw [List.map_map]
  refine List.map_congr_left fun a ha => ?_
  have := List.mem_range.mp ha
  refine Prod.ext rfl ?_
  show (1 : Int) + (i : Int) - (a : Int) = ((i + 1 - a : Nat) : Int)
  omega
theorem cnN_succ (n : Nat) : cnN (n + 1) = cnN n ++ (List.range (n + 2)).map fun j => (j, n + 1 - j) := by unfold cnN; rw [List.range_succ, List.flatMap_append]; simp
theorem cnN_pre : ∀ (k n : Nat), (cnN n).Sublist (cnN (n + k))
  | 0, n => List.Sublist.refl _
  | k + 1, n => by rw [show n + (k + 1) = (n + k) + 1 by omega, cnN_succ]; exact (cnN_pre k n).trans (List.sublist_append_left _ _)
theorem cnN_spots {n : Nat} (h : n ≤ 30) : (cnN n).Sublist spots := by
  have e : spots = (0, 0) :: cnN 30 := by decide +kernel
  have h2 := cnN_pre (30 - n) n
  rw [show n + (30 - n) = 30 by omega] at h2
  rw [e]
  exact h2.cons _
theorem castP_inj {p q : Nat × Nat} (h : castP p = castP q) : p = q := by
  have h1 : ((p.1 : Nat) : Int) = (q.1 : Nat) := congrArg Prod.fst h
  have h2 : ((p.2 : Nat) : Int) = (q.2 : Nat) := congrArg Prod.snd h
  exact Prod.ext (by omega) (by omega)
theorem cnt_len {n : Nat} (h : n ≤ 30) : (cnt n).length ≤ 500 := by
  rw [cnt_cast, List.length_map]
  have := (cnN_spots h).length_le
  have e : spots.length = 496 := by decide +kernel
  omega
/-! ways -/
def stepM (go : Int × Int → Bool) (m : Al Int) (c : Int × Int) : Al Int := match lk m c with
  | none => m
  | some v => if go c = true then
      let m1 := put m (c.1 + 1, c.2) ((lk m (c.1 + 1, c.2)).getD 0 + v)
      put m1 (c.1, c.2 + 1) ((lk m1 (c.1, c.2 + 1)).getD 0 + v)
    else m
theorem stepM_none {go : Int × Int → Bool} {m : Al Int} {c : Int × Int} (h : lk m c = none) : stepM go m c = m := by unfold stepM; rw [h]
theorem stepM_stop {go : Int × Int → Bool} {m : Al Int} {c : Int × Int} (h : go c = false) : stepM go m c = m := by
  unfold stepM
  split
  · rfl
  · rw [if_neg (by rw [h]; decide)]
theorem stepM_go {go : Int × Int → Bool} {m : Al Int} {c : Int × Int} {v : Int} (h : lk m c = some v) (hg : go c = true) : stepM go m c = put (put m (c.1 + 1, c.2) ((lk m (c.1 + 1, c.2)).getD 0 + v)) (c.1, c.2 + 1) ((lk (put m (c.1 + 1, c.2) ((lk m (c.1 + 1, c.2)).getD 0 + v)) (c.1, c.2 + 1)).getD 0 + v) := by
  unfold stepM
  rw [h]
  dsimp only
  rw [if_pos hg]
theorem stepM_len (go : Int × Int → Bool) (m : Al Int) (c : Int × Int) : (stepM go m c).length ≤ m.length + 2 := by
  unfold stepM
  split
  · omega
  · split
    · rename_i v _ _
      have h1 := put_len m (c.1 + 1, c.2) ((lk m (c.1 + 1, c.2)).getD 0 + v)
      have h2 := put_len (put m (c.1 + 1, c.2) ((lk m (c.1 + 1, c.2)).getD 0 + v)) (c.1, c.2 + 1) ((lk (put m (c.1 + 1, c.2) ((lk m (c.1 + 1, c.2)).getD 0 + v)) (c.1, c.2 + 1)).getD 0 + v)
      dsimp only
      omega
    · omega
def sRow (w t : Int) (j : Nat) : List (Int × Int) := (List.range j).map fun a => (w + (a : Nat), t - (w + (a : Nat)))
/-- the cells that are gone through -/
def sCells (w l : Int) (n : Nat) : List (Int × Int) := (List.range n).flatMap fun i => sRow w (w + l + (i : Nat)) (w + l + (i : Nat) - l + 1 - w).toNat
def sprI (go : Int × Int → Bool) (w l : Int) (n : Nat) : Al Int := (sCells w l n).foldl (stepM go) [((w, l), 1)]
theorem sRow_succ (w t : Int) (j : Nat) : sRow w t (j + 1) = sRow w t j ++ [(w + (j : Nat), t - (w + (j : Nat)))] := by unfold sRow; rw [List.range_succ, List.map_append]; rfl
theorem sprI_succ (go : Int × Int → Bool) (w l : Int) (n : Nat) : sprI go w l (n + 1) = (sRow w (w + l + (n : Nat)) (w + l + (n : Nat) - l + 1 - w).toNat).foldl (stepM go) (sprI go w l n) := by
  unfold sprI sCells
  rw [List.range_succ, List.flatMap_append, List.foldl_append]
  simp
theorem fold_len (go : Int × Int → Bool) : ∀ (L : List (Int × Int)) (m : Al Int), (L.foldl (stepM go) m).length ≤ m.length + 2 * L.length
  | [], m => by simp
  | c :: L, m => by
    have h1 := fold_len go L (stepM go m c)
    have h2 := stepM_len go m c
    simp only [List.foldl_cons, List.length_cons]
    omega
theorem sRow_len (w t : Int) (j : Nat) : (sRow w t j).length = j := by unfold sRow; simp
theorem sCells_len (w l : Int) : ∀ n : Nat, n ≤ 31 → (sCells w l n).length ≤ n * 40
  | 0, _ => by simp [sCells]
  | n + 1, h => by
    have ih := sCells_len w l n (by omega)
    have e : sCells w l (n + 1) = sCells w l n ++ sRow w (w + l + (n : Nat)) (w + l + (n : Nat) - l + 1 - w).toNat := by unfold sCells; rw [List.range_succ, List.flatMap_append]; simp
    rw [e, List.length_append, sRow_len]
    omega
theorem spr_len (go : Int × Int → Bool) {w l : Int} {n j : Nat} (h : n ≤ 31) (hj : j ≤ 40) {t : Int} : ((sRow w t j).foldl (stepM go) (sprI go w l n)).length ≤ 5000 := by
  have h1 := fold_len go (sRow w t j) (sprI go w l n)
  have h2 := fold_len go (sCells w l n) [((w, l), 1)]
  have h3 := sCells_len w l n h
  rw [sRow_len] at h1
  have h4 : (sprI go w l n).length ≤ 1 + 2 * (sCells w l n).length := h2
  omega
/-! the sum over all cells -/
def sumL (f : Int × Int → Int) : List (Int × Int) → Int
  | [] => 0
  | p :: L => f p + sumL f L
def pw2 (lim : Nat) (p : Int × Int) : Int := 2 ^ (lim - (p.1 + p.2).toNat)
/-- what is not gone through yet, and the ends -/
def wt (lim : Nat) (go : Int × Int → Bool) (D : List (Int × Int)) (p : Int × Int) : Int := if p ∈ D ∧ go p = true then 0 else pw2 lim p
def totA (lim : Nat) (go : Int × Int → Bool) (D : List (Int × Int)) (m : Al Int) : Int := sumL (fun p => wt lim go D p * (lk m p).getD 0) ((0, 0) :: cnt lim)
end VS
set_option Elab.async false
set_option linter.all false
set_option maxRecDepth 100000
/-! plain: what a table is, and what the law counts. -/
namespace VS
open PySem PySem.Spec L2
def inI (l : List Int) (t : Int) : Bool := l.any fun z => decide (z = t)
def entStep (rl : Al Str) (m : Al Str) (c : Int × Int) : Al Str := match lk rl c with
  | some x => put m c x
  | none => m
def entOf (rl : Al Str) (n : Nat) : Al Str := (cnt n).foldl (entStep rl) []
structure Tb where
  lim : Nat
  looks : List Int
  ent : Al Str
namespace Tb
def isEnd (T : Tb) (c : Int × Int) : Bool := inI T.looks (c.1 + c.2) && has T.ent c
def go (T : Tb) (s c : Int × Int) : Bool := decide (c = s) || !T.isEnd c
def reached (T : Tb) : Al Int := sprI (T.go (0, 0)) 0 0 T.lim
def isIn (T : Tb) (c : Int × Int) : Bool := has T.reached c && T.isEnd c
def word (T : Tb) (c : Int × Int) : Str := (lk T.ent c).getD Str.empty
def stops (T : Tb) : List ((Int × Int) × Str) := ((cnt T.lim).filter T.isIn).map fun c => (c, T.word c)
end Tb
def mkT (lim : Nat) (looks : List Int) (rl : Al Str) : Tb := ⟨lim, looks, entOf rl lim⟩
def stD (e : (Int × Int) × Str) : Dt := .tup [.int e.1.1, .int e.1.2, .str e.2]
/-- a table's data, some fields to come -/
abbrev tb3 (C : Addr) (T : Tb) (ns : List Str) (xs : List Dt) : Dt := .obj C ("limit" :: "looks" :: "entries" :: ns) (.int (T.lim : Nat) :: .tup (T.looks.map .int) :: dA .str T.ent :: xs)
abbrev tb4 (C : Addr) (T : Tb) (ns : List Str) (xs : List Dt) : Dt := tb3 C T ("reached" :: ns) (dA .int T.reached :: xs)
abbrev tabD (C : Addr) (T : Tb) : Dt := tb4 C T ["stops"] [.lst (T.stops.map stD)]
theorem ent_fold (rl : Al Str) (c : Int × Int) : ∀ (L : List (Int × Int)) (m : Al Str), lk (L.foldl (entStep rl) m) c = if c ∈ L ∧ has rl c = true then lk rl c else lk m c
  | [], m => by rw [if_neg (fun z => by cases z.1)]; rfl
  | a :: L, m => by
    rw [List.foldl_cons, ent_fold rl c L]
    unfold entStep
    cases h : lk rl a with
    | none =>
      dsimp only
      by_cases e : c ∈ L ∧ has rl c = true
      · rw [if_pos e, if_pos ⟨List.mem_cons_of_mem _ e.1, e.2⟩]
      · rw [if_neg e, if_neg]
        rintro ⟨z, y⟩
        cases z with
        | head => unfold has at y; rw [h] at y; cases y
        | tail _ z => exact e ⟨z, y⟩
    | some x =>
      dsimp only
      by_cases e : c ∈ L ∧ has rl c = true
      · rw [if_pos e, if_pos ⟨List.mem_cons_of_mem _ e.1, e.2⟩]
      · rw [if_neg e, lk_put]
        by_cases e2 : a = c
        · subst e2
          rw [if_pos rfl, if_pos ⟨List.mem_cons_self, by unfold has; rw [h]; rfl⟩, h]
        · rw [if_neg e2, if_neg]
          rintro ⟨z, y⟩
          cases z with
          | head => exact e2 rfl
          | tail _ z => exact e ⟨z, y⟩
/-- a word that read_word reads -/
def WdF (x : Str) : Prop := x = Str.ofString "no word" ∨ ∃ (k : Str) (n d : Nat), IsKind k ∧ 0 < n ∧ n < d ∧ d < 10 ^ 30 ∧ Nat.gcd n d = 1 ∧ x = SX.S (wordL k n d)
def Wd (x : Str) : Prop := WdF x ∧ PyData.strOk x = true
/-- a word with a small share -/
def SmW (x : Str) : Prop := x = Str.ofString "no word" ∨ ∃ (k : Str) (n d : Nat), IsKind k ∧ 0 < n ∧ n < d ∧ d ≤ 20 ∧ Nat.gcd n d = 1 ∧ x = SX.S (wordL k n d)
/-- a rule with few words, all of them small -/
def Few (rl : Al Str) : Prop := ∃ mn : List Str, mn.length ≤ 8 ∧ (∀ e ∈ rl, e.2 ∈ mn) ∧ ∀ x ∈ mn, SmW x
/-- the parts are a table -/
structure Vr (lim : Nat) (looks : List Int) (rl : Al Str) : Prop where
  l1 : 1 ≤ lim
  l30 : lim ≤ 30
  len : looks.length ≤ 30
  asc : looks.Pairwise (· < ·)
  one : ∀ z ∈ looks, 1 ≤ z
  last : ∃ l', looks = l' ++ [(lim : Int)]
  keys : ∀ e ∈ rl, 0 ≤ e.1.1 ∧ 0 ≤ e.1.2 ∧ 1 ≤ e.1.1 + e.1.2 ∧ e.1.1 + e.1.2 ≤ lim
  words : ∀ e ∈ rl, Wd e.2
  full : ∀ j : Nat, j ≤ lim → has rl ((j : Int), (lim : Int) - j) = true
/-- at most three words -/
def Few3 (rl : Al Str) : Prop := ∃ mn : List Str, mn.length ≤ 3 ∧ (∀ e ∈ rl, e.2 ∈ mn) ∧ ∀ x ∈ mn, SmW x
/-- the same with its counts in order -/
structure Vt (lim : Nat) (looks : List Int) (rl : Al Str) : Prop extends Vr lim looks rl where
  ord : ∃ ks : List (Nat × Nat), ks.Sublist (cnN lim) ∧ rl.map (·.1) = ks.map castP
theorem lk_ent {lim : Nat} {rl : Al Str} (h : ∀ e ∈ rl, 0 ≤ e.1.1 ∧ 0 ≤ e.1.2 ∧ 1 ≤ e.1.1 + e.1.2 ∧ e.1.1 + e.1.2 ≤ lim) (c : Int × Int) : lk (entOf rl lim) c = lk rl c := by
  unfold entOf
  rw [ent_fold]
  by_cases e : c ∈ cnt lim ∧ has rl c = true
  · rw [if_pos e]
  · rw [if_neg e]
    cases z : lk rl c with
    | none => rfl
    | some x =>
      refine absurd ⟨mem_cnt.mpr ?_, by unfold has; rw [z]; rfl⟩ e
      exact h _ (lk_mem z)
theorem has_ent {lim : Nat} {rl : Al Str} (h : ∀ e ∈ rl, 0 ≤ e.1.1 ∧ 0 ≤ e.1.2 ∧ 1 ≤ e.1.1 + e.1.2 ∧ e.1.1 + e.1.2 ≤ lim) (c : Int × Int) : has (entOf rl lim) c = has rl c := by unfold has; rw [lk_ent h]
/-! the law's counting -/
def stopL (looks : List Int) (rl : Al Str) (c : Int × Int) : Bool := inI looks (c.1 + c.2) && has rl c
def wysL (lim : Nat) (looks : List Int) (rl : Al Str) : Al Int := sprI (fun c => !stopL looks rl c) 0 0 lim
def endP (lim : Nat) (looks : List Int) (rl : Al Str) (c : Int × Int) : Bool := stopL looks rl c && has (wysL lim looks rl) c
def enV (lim : Nat) (looks : List Int) (rl : Al Str) (c : Int × Int) : Dt := .tup [.int c.1, .int c.2, .str ((lk rl c).getD Str.empty), .int ((lk (wysL lim looks rl) c).getD 0)]
/-- the law's ends -/
def endC (lim : Nat) (looks : List Int) (rl : Al Str) : List (Int × Int) := (cnt lim).filter (endP lim looks rl)
theorem isEnd_mk {lim : Nat} {looks : List Int} {rl : Al Str} (h : Vr lim looks rl) (c : Int × Int) : (mkT lim looks rl).isEnd c = stopL looks rl c := by
  unfold Tb.isEnd stopL mkT
  rw [has_ent h.keys]
/-! promises -/
abbrev ptD (lim : Nat) (looks : List Int) (rl : Al Str) : Dt := .tup [.int (lim : Nat), .lst (looks.map .int), dA .str rl]
def ph__law_word : Ph := fun ds q _ => ds = [] ∧ ∀ x, Wd x → SmW x → q (.str x)
def ph__law_parts : Ph := fun ds q _ => ∃ m : Int, ds = [.int m] ∧ (0 < m ∧ m ≤ 30) ∧ ∀ lim looks rl, Vt lim looks rl → (lim : Int) ≤ m → Few3 rl → q (ptD lim looks rl)
def ph_check_table : Ph := fun ds q _ => ∃ lim looks rl, ds = [.int (lim : Nat), .lst (looks.map .int), dA .str rl] ∧ Vr lim looks rl ∧ q .non
def ph_Table___init__ (C : Addr) : Ph := fun ds q _ => ∃ lim looks rl, ds = [.int (lim : Nat), .lst (looks.map .int), dA .str rl] ∧ Vr lim looks rl ∧ q (tabD C (mkT lim looks rl))
def ph__law_table (C : Addr) : Ph := fun ds q _ => ∃ lim looks rl, ds = [ptD lim looks rl] ∧ Vt lim looks rl ∧ q (tabD C (mkT lim looks rl))
theorem u__law_table {C : Addr} {lim : Nat} {looks : List Int} {rl : Al Str} {q : Dt → Prop} {x : XD} (h : Vt lim looks rl) (p : q (tabD C (mkT lim looks rl))) : ph__law_table C [ptD lim looks rl] q x := ⟨_, _, _, rfl, h, p⟩
def ph__law_ways : Ph := fun ds q _ => ∃ lim looks rl, ds = [ptD lim looks rl] ∧ Vt lim looks rl ∧ q (dA .int (wysL lim looks rl))
def ph__law_ends : Ph := fun ds q _ => ∃ lim looks rl, ds = [ptD lim looks rl] ∧ Vt lim looks rl ∧ q (.lst ((endC lim looks rl).map (enV lim looks rl)))
def ph_Table_is_end (C : Addr) : Ph := fun ds q _ => ∃ T ns xs w l, ds = [tb3 C T ns xs, .int w, .int l] ∧ q (.bl (T.isEnd (w, l)))
theorem u_Table_is_end {C : Addr} {T : Tb} {ns : List Str} {xs : List Dt} {w l : Int} {q : Dt → Prop} {x : XD} (_ : True) (p : q (.bl (T.isEnd (w, l)))) : ph_Table_is_end C [tb3 C T ns xs, .int w, .int l] q x := ⟨_, _, _, _, _, rfl, p⟩
def noE (ns : List Str) : Prop := (ns.any fun z => z == ("is_end" : Str)) = false
def ph_Table_spread (C : Addr) : Ph := fun ds q _ => ∃ T ns xs w l, ds = [tb3 C T ns xs, .int w, .int l] ∧ (noE ns ∧ T.lim ≤ 30 ∧ 0 ≤ w ∧ 0 ≤ l ∧ w + l ≤ 1000) ∧ q (dA .int (sprI (T.go (w, l)) w l (T.lim - (w + l)).toNat))
theorem u_Table_spread {C : Addr} {T : Tb} {ns : List Str} {xs : List Dt} {w l : Int} {q : Dt → Prop} {x : XD} (h : noE ns ∧ T.lim ≤ 30 ∧ 0 ≤ w ∧ 0 ≤ l ∧ w + l ≤ 1000) (p : q (dA .int (sprI (T.go (w, l)) w l (T.lim - (w + l)).toNat))) : ph_Table_spread C [tb3 C T ns xs, .int w, .int l] q x := ⟨_, _, _, _, _, rfl, h, p⟩
def ph_Table___contains__ (C : Addr) : Ph := fun ds q _ => ∃ T ns xs c, ds = [tb4 C T ns xs, .key (kk c)] ∧ noE ns ∧ q (.bl (T.isIn c))
theorem u_Table___contains__ {C : Addr} {T : Tb} {ns : List Str} {xs : List Dt} {c : Int × Int} {q : Dt → Prop} {x : XD} (h : noE ns) (p : q (.bl (T.isIn c))) : ph_Table___contains__ C [tb4 C T ns xs, .key (kk c)] q x := ⟨_, _, _, _, rfl, h, p⟩
def ph_Table_ways (C : Addr) : Ph := fun ds q _ => ∃ T w l, ds = [tabD C T, .int w, .int l] ∧ q (.int ((lk T.reached (w, l)).getD 0))
def ph_Table_ends (C : Addr) : Ph := fun ds q _ => ∃ T, ds = [tabD C T] ∧ q (.lst (T.stops.map stD))
def ph_Table___len__ (C : Addr) : Ph := fun ds q _ => ∃ T, ds = [tabD C T] ∧ q (.int (T.stops.length : Nat))
/-- words in the order of their first occurrence -/
def addW (l : List Str) (x : Str) : List Str := if x ∈ l then l else l ++ [x]
def wordsT (l : List ((Int × Int) × Str)) : List Str := l.foldl (fun a e => addW a e.2) []
def okSt (T : Tb) : Prop := (∀ e ∈ T.stops, PyData.strOk e.2 = true) ∧ T.stops.length ≤ 1000
def ph_Table_words (C : Addr) : Ph := fun ds q _ => ∃ T, ds = [tabD C T] ∧ okSt T ∧ q (.tup ((wordsT T.stops).map .str))
theorem eqD_str (a b : Str) : eqD (.str a) (.str b) = decide (a = b) := by
  unfold eqD
  simp only [toP, PyData.eqv]
  rw [Bool.eq_iff_iff]
  simp
theorem map_bl {α : Type} (g : α → Bool) (l : List α) : (l.map fun i => Dt.bl (g i)) = (l.map g).map Dt.bl := by rw [List.map_map]; rfl
theorem any_false {α : Type} {g : α → Bool} {l : List α} (h : ∀ x ∈ l, g x = false) : (l.map g).any id = false := by
  rw [List.any_map, List.any_eq_false]
  intro x hx
  show ¬ g x = true
  rw [h x hx]; decide
theorem at_lastC (l : List Int) (z : Int) : atI ((l ++ [z]).map Dt.int) (-1) = some (.int z) := by
  unfold atI ixN
  simp
  rw [if_pos (by omega)]
  show (l.map Dt.int ++ [Dt.int z])[(-1 + ((l.length : Int) + 1)).toNat]? = _
  rw [show (-1 + ((l.length : Int) + 1)).toNat = (l.map Dt.int).length by rw [List.length_map]; omega, List.getElem?_concat_length]
theorem pw_cf {l : List Int} (h : l.Pairwise (· < ·)) {i : Nat} (hi : i + 1 < l.length) : cf l i < cf l (i + 1) := by
  have e1 : l[i]? = some (cf l i) := cf_lt (by omega)
  have e2 : l[i + 1]? = some (cf l (i + 1)) := cf_lt hi
  rw [List.getElem?_eq_getElem (by omega)] at e1
  rw [List.getElem?_eq_getElem hi] at e2
  have := List.pairwise_iff_getElem.mp h i (i + 1) (by omega) hi (by omega)
  rw [Option.some.inj e1, Option.some.inj e2] at this
  exact this
theorem keys_get {α : Type} {m : Al α} {i : Nat} {q : List Key} (h : (keysA m)[i]? = some q) : ∃ e ∈ m, q = kk e.1 := by
  unfold keysA at h
  rw [List.getElem?_map] at h
  cases z : m[i]? with
  | none => rw [z] at h; cases h
  | some e => rw [z] at h; cases h; exact ⟨e, List.mem_of_getElem? z, rfl⟩
theorem fre_stops (κ : Nat) (l : List ((Int × Int) × Str)) : freL κ (l.map stD) = true := by
  induction l with
  | nil => rfl
  | cons e l ih => show (fre κ (stD e) && freL κ _) = true; rw [ih]; rfl
theorem fre_dA_int {m : Al Int} : fre 2 (dA .int m) = true := fre_ints 2 (fun e : (Int × Int) × Int => e.2) m
theorem take_get {α : Type} {L : List α} {i : Nat} {c : α} (h : L[i]? = some c) : L.take (i + 1) = L.take i ++ [c] := by
  rw [List.take_succ, h]; rfl
theorem isIn_word {T : Tb} {c : Int × Int} (h : T.isIn c = true) : lk T.ent c = some (T.word c) := by
  unfold Tb.isIn Tb.isEnd at h
  rw [Bool.and_eq_true, Bool.and_eq_true] at h
  obtain ⟨x, hx⟩ := Option.isSome_iff_exists.mp h.2.2
  unfold Tb.word
  rw [hx]; rfl
theorem strs_of {p : Str → Prop} : ∀ {acc : List Dt}, (∀ y ∈ acc, ∃ x : Str, y = .str x ∧ p x) → ∃ l : List Str, acc = l.map .str ∧ l.length = acc.length ∧ ∀ x ∈ l, p x
  | [], _ => ⟨[], rfl, rfl, fun _ h => by cases h⟩
  | a :: acc, h => by
    obtain ⟨x, rfl, px⟩ := h a List.mem_cons_self
    obtain ⟨l, rfl, hl, hp⟩ := strs_of (acc := acc) fun y hy => h y (List.mem_cons_of_mem _ hy)
    refine ⟨x :: l, rfl, by simp, fun z hz => ?_⟩
    cases hz with
    | head => exact px
    | tail _ hz => exact hp z hz
theorem strOk_S {l : List Nat} (h : ∀ c ∈ l, c < 0x110000) : PyData.strOk (SX.S l) = true := by
  unfold PyData.strOk
  rw [Array.all_eq_true]
  intro i hi
  have : (SX.S l).cps[i] ∈ (SX.S l).cps.toList := Array.mem_toList_iff.mpr (Array.getElem_mem hi)
  exact decide_eq_true (h _ this)
theorem wordL_ok {k : Str} (hk : IsKind k) (n d : Nat) : PyData.strOk (SX.S (wordL k n d)) = true := by
  refine strOk_S fun c hc => ?_
  unfold wordL at hc
  rw [List.mem_append, List.mem_cons, List.mem_append, List.mem_cons] at hc
  rcases hc with h | h | h | h | h
  · have := hk.ok
    unfold PyData.strOk at this
    rw [Array.all_eq_true] at this
    obtain ⟨i, hi, e⟩ := List.getElem_of_mem h
    have := this i (by simpa using hi)
    rw [← e]
    simpa using of_decide_eq_true this
  · omega
  · have := TL.numL_digits n c h; omega
  · omega
  · have := TL.numL_digits d c h; omega
theorem wd_k {k : Str} (hk : IsKind k) {n d : Nat} (hn : 0 < n) (hnd : n < d) (hd : d < 10 ^ 30) (hg : Nat.gcd n d = 1) : Wd (SX.S (wordL k n d)) := ⟨.inr ⟨k, n, d, hk, hn, hnd, hd, hg, rfl⟩, wordL_ok hk n d⟩
theorem wd_no : Wd (Str.ofString "no word") := ⟨.inl rfl, by decide +kernel⟩
theorem Wd.rd {x : Str} (h : Wd x) : ∃ l w, x = SX.S l ∧ l.length ≤ 90000 ∧ rdWord l = some w := by
  rcases h.1 with rfl | ⟨k, n, d, hk, hn, hnd, hd, hg, rfl⟩
  · refine ⟨(Str.ofString "no word").cps.toList, (Str.ofString "no word", none), (SX.S_tl _).symm, by decide, ?_⟩
    unfold rdWord
    rw [if_pos (SX.S_tl _)]
  · refine ⟨_, (k, some ((n : Int), (d : Int))), rfl, ?_, ?_⟩
    · exact Nat.le_trans (wordL_len hk (by omega) (by omega)) (by decide)
    · rw [rdWord_k hk, rdShare_num hn hnd hd hg]; rfl
/-! the law's rule as it is drawn -/
def RlOk (L : List (Nat × Nat)) (rl : Al Str) : Prop := ∃ ks : List (Nat × Nat), ks.Sublist L ∧ rl.map (·.1) = ks.map castP ∧ ∀ e ∈ rl, Wd e.2
def nRow (i j : Nat) : List (Nat × Nat) := (List.range j).map fun a => (a, i + 1 - a)
theorem nRow_succ (i j : Nat) : nRow i (j + 1) = nRow i j ++ [(j, i + 1 - j)] := by unfold nRow; rw [List.range_succ, List.map_append]; rfl
theorem RlOk.nil : RlOk (cnN 0) [] := ⟨[], List.Sublist.refl _, rfl, fun _ h => by cases h⟩
theorem RlOk.skip {L : List (Nat × Nat)} {rl : Al Str} (h : RlOk L rl) (c : Nat × Nat) : RlOk (L ++ [c]) rl := by
  obtain ⟨ks, a, b, d⟩ := h
  exact ⟨ks, a.trans (List.sublist_append_left _ _), b, d⟩
theorem lk_none {α : Type} {p : Int × Int} : ∀ {m : Al α}, p ∉ m.map (·.1) → lk m p = none
  | [], _ => rfl
  | e :: m, h => by
    unfold lk
    rw [if_neg (fun z => h (by rw [List.map_cons, z]; exact List.mem_cons_self))]
    exact lk_none fun z => h (by rw [List.map_cons]; exact List.mem_cons_of_mem _ z)
theorem RlOk.add {L : List (Nat × Nat)} {rl : Al Str} (h : RlOk L rl) {c : Nat × Nat} (hc : c ∉ L) {x : Str} (hx : Wd x) : RlOk (L ++ [c]) (put rl (castP c) x) ∧ put rl (castP c) x = rl ++ [(castP c, x)] := by
  obtain ⟨ks, a, b, d⟩ := h
  have e : put rl (castP c) x = rl ++ [(castP c, x)] := by
    unfold put
    rw [if_neg]
    unfold has
    rw [lk_none]
    · decide
    · rw [b]
      intro z
      obtain ⟨p, hp, ep⟩ := List.mem_map.mp z
      rw [castP_inj ep] at hp
      exact hc (a.subset hp)
  refine ⟨?_, e⟩
  rw [e]
  refine ⟨ks ++ [c], a.append (List.Sublist.refl _), by rw [List.map_append, List.map_append, b]; rfl, fun z hz => ?_⟩
  rcases List.mem_append.mp hz with hz | hz
  · exact d z hz
  · rw [List.mem_singleton.mp hz]; exact hx
/-- the same, all words from a menu -/
def RlM (mn : List Str) (L : List (Nat × Nat)) (rl : Al Str) : Prop := RlOk L rl ∧ ∀ e ∈ rl, e.2 ∈ mn
theorem RlM.nil {mn : List Str} : RlM mn (cnN 0) [] := ⟨RlOk.nil, fun _ h => by cases h⟩
theorem RlM.skip {mn : List Str} {L : List (Nat × Nat)} {rl : Al Str} (h : RlM mn L rl) (c : Nat × Nat) : RlM mn (L ++ [c]) rl := ⟨h.1.skip c, h.2⟩
theorem RlM.add {mn : List Str} {L : List (Nat × Nat)} {rl : Al Str} (h : RlM mn L rl) {c : Nat × Nat} (hc : c ∉ L) {x : Str} (hm : x ∈ mn) (hx : Wd x) : RlM mn (L ++ [c]) (put rl (castP c) x) := by
  obtain ⟨a, b⟩ := h.1.add hc hx
  refine ⟨a, fun e he => ?_⟩
  rw [b] at he
  rcases List.mem_append.mp he with he | he
  · exact h.2 e he
  · rw [List.mem_singleton.mp he]; exact hm
theorem RlOk.len {L : List (Nat × Nat)} {rl : Al Str} (h : RlOk L rl) : rl.length ≤ L.length := by
  obtain ⟨ks, a, b, _⟩ := h
  have e : (rl.map (·.1)).length = (ks.map castP).length := by rw [b]
  rw [List.length_map, List.length_map] at e
  have := a.length_le
  omega
theorem nRow_new {i j : Nat} (hj : j ≤ i + 1) : (j, i + 1 - j) ∉ cnN i ++ nRow i j := by
  rw [List.mem_append]
  rintro (h | h)
  · have : castP (j, i + 1 - j) ∈ cnt i := by rw [cnt_cast]; exact List.mem_map_of_mem h
    have := mem_cnt.mp this
    have h2 : ((castP (j, i + 1 - j)).1 : Int) + (castP (j, i + 1 - j)).2 = (j : Int) + ((i + 1 - j : Nat) : Int) := rfl
    omega
  · unfold nRow at h
    obtain ⟨a, ha, e⟩ := List.mem_map.mp h
    have := List.mem_range.mp ha
    have : a = j := congrArg Prod.fst e
    omega
theorem has_put {α : Type} {m : Al α} {p q : Int × Int} {a : α} (h : has m q = true ∨ p = q) : has (put m p a) q = true := by
  unfold has
  rw [lk_put]
  by_cases e : p = q
  · rw [if_pos e]; rfl
  · rw [if_neg e]
    rcases h with h | h
    · exact h
    · exact absurd h e
theorem rl_lens {i j : Nat} {rl : Al Str} (h : RlOk (cnN i ++ nRow i j) rl) (hi : i ≤ 30) (hj : j ≤ 31) : rl.length < 100000 := by
  have h1 := h.len
  have h2 := cnt_len hi
  rw [cnt_cast, List.length_map] at h2
  rw [List.length_append] at h1
  have h3 : (nRow i j).length = j := by unfold nRow; simp
  omega
theorem vt_of {lim : Nat} {l : List Int} {rl : Al Str} (h1 : 1 ≤ lim) (h30 : lim ≤ 30) (hp : l.Pairwise (· < ·)) (hb : ∀ z ∈ l, 1 ≤ z ∧ z < lim) (hl : l.length < lim) (hr : RlOk (cnN lim) rl) (hf : ∀ j : Nat, j ≤ lim → has rl ((j : Int), (lim : Int) - j) = true) : Vt lim (l ++ [(lim : Int)]) rl := by
  obtain ⟨ks, a, b, d⟩ := hr
  refine ⟨⟨h1, h30, by rw [List.length_append]; show l.length + 1 ≤ 30; omega, ?_, ?_, ⟨l, rfl⟩, ?_, d, hf⟩, ⟨ks, a, b⟩⟩
  · rw [List.pairwise_append]
    refine ⟨hp, List.pairwise_singleton _ _, fun x hx y hy => ?_⟩
    rw [List.mem_singleton.mp hy]
    exact (hb x hx).2
  · intro z hz
    rcases List.mem_append.mp hz with hz | hz
    · exact (hb z hz).1
    · rw [List.mem_singleton.mp hz]; omega
  · intro e he
    have : e.1 ∈ rl.map (·.1) := List.mem_map_of_mem he
    rw [b] at this
    obtain ⟨p, hp, ep⟩ := List.mem_map.mp this
    have : e.1 ∈ cnt lim := by rw [cnt_cast, ← ep]; exact List.mem_map_of_mem (a.subset hp)
    exact mem_cnt.mp this
/-! for the laws -/
end VS
set_option Elab.async false
set_option linter.all false
set_option maxRecDepth 100000
/-! plain: chances and costs of tables. -/
namespace VS
open PySem PySem.Spec L2
/-- what a sum of paths comes to -/
def accS (f : Int × Int → Int) (a : List Int) (c : Int × Int) : List Int := trimL (addL a (trimL (scL (f c) (pathL c.1.toNat c.2.toNat))))
def accP (f : Int × Int → Int) (L : List (Int × Int)) : List Int := L.foldl (accS f) []
/-! tables whose sums are small -/
structure OkT (T : Tb) : Prop where
  lim : T.lim ≤ 30
  looks : T.looks.length ≤ 30
  stops : ∀ e ∈ T.stops, 0 ≤ e.1.1 ∧ 0 ≤ e.1.2 ∧ e.1.1 + e.1.2 ≤ 30 ∧ 0 ≤ (lk T.reached e.1).getD 0 ∧ (lk T.reached e.1).getD 0 ≤ 2 ^ 30
  st : okSt T
def cntL (looks : List Int) (t : Int) : Nat := (looks.filter fun z => decide (z ≤ t)).length
def wayF (T : Tb) (c : Int × Int) : Int := (lk T.reached c).getD 0
def costF (T : Tb) (a b : Int) (c : Int × Int) : Int := (a * (c.1 + c.2) + b * (cntL T.looks (c.1 + c.2) : Nat)) * wayF T c
abbrev ends_ (T : Tb) : List (Int × Int) := T.stops.map (·.1)
def ph_Table_mean_cost (C CP : Addr) : Ph := fun ds q _ => ∃ T a b, ds = [tabD C T, .int a, .int b] ∧ (OkT T ∧ a.natAbs ≤ 2 ^ 20 ∧ b.natAbs ≤ 2 ^ 20) ∧ q (polD CP (accP (costF T a b) (ends_ T)))
def ph_Table_mean_length (C CP : Addr) : Ph := fun ds q _ => ∃ T, ds = [tabD C T] ∧ OkT T ∧ q (polD CP (accP (costF T 1 0) (ends_ T)))
def sayL (T : Tb) (x : Str) : List (Int × Int) := (T.stops.filter fun e => decide (e.2 = x)).map (·.1)
def ph_Table_chance (C CP : Addr) : Ph := fun ds q _ => ∃ T x, ds = [tabD C T, .str x] ∧ OkT T ∧ q (polD CP (accP (wayF T) (sayL T x)))
def ph__law_cost : Ph := fun ds q _ => ∃ lim looks rl a b, ds = [ptD lim looks rl, .int a, .int b] ∧ (Vt lim looks rl ∧ a.natAbs ≤ 2 ^ 20 ∧ b.natAbs ≤ 2 ^ 20) ∧ q (iL (accP (costF (mkT lim looks rl) a b) (endC lim looks rl)))
def ph__law_length : Ph := fun ds q _ => ∃ lim looks rl, ds = [ptD lim looks rl] ∧ Vt lim looks rl ∧ q (iL (accP (costF (mkT lim looks rl) 1 0) (endC lim looks rl)))
end VS
set_option Elab.async false
set_option linter.all false
set_option maxRecDepth 100000
/-! plain: what is kept on the way to the ends, for any weight. -/
namespace VS
open PySem PySem.Spec L2
def wtG (W : Int × Int → Int) (go : Int × Int → Bool) (D : List (Int × Int)) (p : Int × Int) : Int := if p ∈ D ∧ go p = true then 0 else W p
def totG (W : Int × Int → Int) (lim : Nat) (go : Int × Int → Bool) (D : List (Int × Int)) (m : Al Int) : Int := sumL (fun p => wtG W go D p * (lk m p).getD 0) ((0, 0) :: cnt lim)
/-! values at a share, all over one power -/
def hvN (p q : Int) (f : Nat → Int) : Nat → Int
  | 0 => f 0
  | n + 1 => hvN p q f n * q + f (n + 1) * p ^ (n + 1)
/-! the same backwards -/
def bkC (looks : List Int) (rl : Al Str) (x : Str) (p q : Int) : Nat → Int × Int → Int
  | 0, c => if stopL looks rl c = true then (if (lk rl c).getD Str.empty = x then 1 else 0) else 0
  | n + 1, c => if stopL looks rl c = true then q ^ (n + 1) * (if (lk rl c).getD Str.empty = x then 1 else 0) else p * bkC looks rl x p q n (c.1 + 1, c.2) + (q - p) * bkC looks rl x p q n (c.1, c.2 + 1)
def bkL (looks : List Int) (rl : Al Str) (p q : Int) : Nat → Int × Int → Int
  | 0, c => 0
  | n + 1, c => if stopL looks rl c = true then 0 else p * bkL looks rl p q n (c.1 + 1, c.2) + (q - p) * bkL looks rl p q n (c.1, c.2 + 1) + q ^ (n + 1)
def sayN (S : List ((Int × Int) × Str)) (x : Str) (i : Nat) : List (Int × Int) := ((S.take i).filter fun e => decide (e.2 = x)).map (·.1)
def ph__law_back : Ph := fun ds q _ => ∃ lim looks rl x p r, ds = [ptD lim looks rl, .str x, .tup [.int p, .int r]] ∧ (Vt lim looks rl ∧ p.natAbs < 2 ^ 20 ∧ 1 ≤ r ∧ r < 2 ^ 20) ∧ q (.tup [.int (bkC looks rl x p r lim (0, 0)), .int (bkL looks rl p r lim (0, 0)), .int (r ^ lim)])
/-- the dicts of _law_back -/
def BkD (lim : Nat) (looks : List Int) (rl : Al Str) (x : Str) (p r : Int) (mc ml : Al Int) (t : Int) (j : Nat) : Prop := ∀ c : Int × Int, 0 ≤ c.1 → 0 ≤ c.2 → c.1 + c.2 ≤ lim → (t < c.1 + c.2 ∨ (c.1 + c.2 = t ∧ c.1 < j)) → lk mc c = some (bkC looks rl x p r (lim - (c.1 + c.2).toNat) c) ∧ lk ml c = some (bkL looks rl p r (lim - (c.1 + c.2).toNat) c)
end VS
set_option Elab.async false
set_option linter.all false
set_option maxRecDepth 100000
/-! plain: wrong words. -/
namespace VS
open PySem PySem.Spec L2
def rdS (x : Str) : Option (Str × Option (Int × Int)) := rdWord x.cps.toList
def wrongS (x : Str) (s : Int × Int) : Bool := match rdS x with
  | some w => wrongW w s
  | none => false
theorem S_cps (l : List Nat) : (SX.S l).cps.toList = l := SX.S_inj (SX.S_tl _)
theorem rdS_k {k : Str} (hk : IsKind k) {n d : Nat} (hn : 0 < n) (hnd : n < d) (hd : d < 10 ^ 30) (hg : Nat.gcd n d = 1) : rdS (SX.S (wordL k n d)) = some (k, some ((n : Int), (d : Int))) := by
  unfold rdS
  rw [S_cps, rdWord_k hk, rdShare_num hn hnd hd hg]
  rfl
def ph__law_is_wrong : Ph := fun ds q _ => ∃ (x : Str) (s : Int × Int), ds = [.str x, ratD s] ∧ (Wd x ∧ SzR 400 s) ∧ q (.bl (wrongS x s))
/-! sums over words -/
def sumW (f : Str → Int) : List Str → Int
  | [] => 0
  | x :: l => f x + sumW f l
/-! wrong_at -/
def chP (T : Tb) (x : Str) : List Int := accP (wayF T) (sayL T x)
def wrongR (T : Tb) (s : Int × Int) : Int × Int := sumR (((wordsT T.stops).filter fun x => wrongS x s).map fun x => valR (chP T x) s)
def WdT (T : Tb) : Prop := ∀ e ∈ T.stops, Wd e.2
def ph_wrong_at (C : Addr) : Ph := fun ds q _ => ∃ (T : Tb) (s : Int × Int) (B : Nat), ds = [tabD C T, ratD s] ∧ (OkT T ∧ T.stops.length ≤ 500 ∧ WdT T ∧ SzR B s ∧ 1 ≤ s.2 ∧ B ≤ 100 ∧ (40 * B + 300) * (wordsT T.stops).length ≤ 7000) ∧ q (ratD (wrongR T s))
/-! points -/
def insP (ps : List (Int × Int)) (a : Int × Int) : List (Int × Int) := ps.filter (fun p => lessR p a) ++ [a] ++ ps.filter (fun p => lessR a p)
def insW (ps : List (Int × Int)) (x : Str) : List (Int × Int) := match rdS x with
  | some (_, some a) => insP ps a
  | _ => ps
def ptsL (ws : List Str) : List (Int × Int) := ws.foldl insW [(0, 1), (1, 1)]
def PtOk (p : Int × Int) : Prop := IsR p ∧ 0 ≤ p.1 ∧ p.1 ≤ p.2 ∧ p.2 ≤ 20
abbrev Pt3 : Type := Nat × List Int × Al Str
abbrev pt3D (p : Pt3) : Dt := ptD p.1 p.2.1 p.2.2
abbrev wdE (rl : Al Str) (c : Int × Int) : Str := (lk rl c).getD Str.empty
def wordsE (p : Pt3) : List Str := (endC p.1 p.2.1 p.2.2).map (wdE p.2.2)
theorem nd_len {α : Type} [DecidableEq α] : ∀ {l m : List α}, l.Nodup → (∀ x ∈ l, x ∈ m) → l.length ≤ m.length
  | [], m, _, _ => Nat.zero_le _
  | x :: l, m, nd, h => by
    obtain ⟨h1, h2⟩ := List.nodup_cons.mp nd
    have hx := h x List.mem_cons_self
    have := nd_len (m := m.erase x) h2 fun y hy => (List.mem_erase_of_ne (fun z : y = x => h1 (by rw [← z]; exact hy))).mpr (h y (List.mem_cons_of_mem _ hy))
    rw [List.length_erase_of_mem hx] at this
    have := List.length_pos_of_mem hx
    rw [List.length_cons]
    omega
def ph__law_points : Ph := fun ds q _ => ∃ Ls : List Pt3, ds = [.lst (Ls.map pt3D)] ∧ (Ls.length ≤ 10 ∧ ∀ p ∈ Ls, Vt p.1 p.2.1 p.2.2 ∧ Few p.2.2) ∧ q (.lst ((ptsL (Ls.flatMap wordsE)).map ratD))
/-- the row of the wrong words -/
def wrF (rl : Al Str) (s : Int × Int) (c : Int × Int) : Bool := wrongS (wdE rl c) s
def wrongP (lim : Nat) (looks : List Int) (rl : Al Str) (s : Int × Int) : List Int := accP (wayF (mkT lim looks rl)) ((endC lim looks rl).filter (wrF rl s))
def ph__law_wrong_row : Ph := fun ds q _ => ∃ lim looks rl s, ds = [ptD lim looks rl, ratD s] ∧ (Vt lim looks rl ∧ SzR 400 s) ∧ q (iL (wrongP lim looks rl s))
end VS
set_option Elab.async false
set_option linter.all false
set_option maxRecDepth 100000
/-! plain: several tables. -/
namespace VS
open PySem PySem.Spec L2
abbrev mulT (a b : List Int) : List Int := trimL (mulL a b)
def prodP (cs : List (List Int)) : List Int := cs.foldl mulT [1]
def cpl (c : List Int) : List Int := trimL (subL (trimL [1]) c)
def PolyOk (c : List Int) : Prop := SzL 110 c ∧ c.length ≤ 35
abbrev mk3 (p : Pt3) : Tb := mkT p.1 p.2.1 p.2.2
def TsOk (Ts : List Tb) : Prop := (∀ T ∈ Ts, OkT T ∧ T.stops.length ≤ 500) ∧ Ts.length ≤ 8
def ph_all_say (C CP : Addr) : Ph := fun ds q _ => ∃ (x : Str) (Ts : List Tb), ds = [.str x, .tup (Ts.map (tabD C))] ∧ TsOk Ts ∧ q (polD CP (prodP (Ts.map fun T => chP T x)))
def anyP (cs : List (List Int)) : List Int := cpl (prodP (cs.map cpl))
def ph_any_says (C CP : Addr) : Ph := fun ds q _ => ∃ (x : Str) (Ts : List Tb), ds = [.str x, .tup (Ts.map (tabD C))] ∧ TsOk Ts ∧ q (polD CP (anyP (Ts.map fun T => chP T x)))
/-! the law's side -/
def wsF (rl : Al Str) (x : Str) (c : Int × Int) : Bool := decide (wdE rl c = x)
def ph__law_chance : Ph := fun ds q _ => ∃ lim looks rl x, ds = [ptD lim looks rl, .str x] ∧ Vt lim looks rl ∧ q (iL (chP (mkT lim looks rl) x))
def LsOk (Ls : List Pt3) : Prop := (∀ p ∈ Ls, Vt p.1 p.2.1 p.2.2) ∧ Ls.length ≤ 8
def ph__law_all : Ph := fun ds q _ => ∃ (Ls : List Pt3) (x : Str), ds = [.lst (Ls.map pt3D), .str x] ∧ LsOk Ls ∧ q (iL (prodP (Ls.map fun p => chP (mk3 p) x)))
def ph__law_any : Ph := fun ds q _ => ∃ (Ls : List Pt3) (x : Str), ds = [.lst (Ls.map pt3D), .str x] ∧ LsOk Ls ∧ q (iL (anyP (Ls.map fun p => chP (mk3 p) x)))
/-! a text that is no word -/
def sevP (p o : Pt3) : List Pt3 := [p, o, p, o, p, p, o]
def ph__law_more (C : Addr) : Ph := fun ds q _ => ∃ (x : Str) (p o : Pt3), ds = [.str x, .tup [tabD C (mk3 p), tabD C (mk3 o), tabD C (mk3 p)], .lst ((sevP p o).map pt3D)] ∧ (Vt p.1 p.2.1 p.2.2 ∧ Vt o.1 o.2.1 o.2.2) ∧ q (.bl true)
end VS
set_option Elab.async false
set_option linter.all false
set_option maxRecDepth 100000
/-! plain: tables that differ a little. -/
namespace VS
open PySem PySem.Spec L2
theorem put_keys {α : Type} {m : Al α} {p : Int × Int} {a : α} (h : has m p = true) : (put m p a).map (·.1) = m.map (·.1) := by
  unfold put
  rw [if_pos h, List.map_map]
  refine List.map_congr_left fun e _ => ?_
  show (if e.1 = p then (e.1, a) else e).1 = e.1
  split <;> rfl
theorem put_mem {α : Type} {m : Al α} {p : Int × Int} {a : α} {e : (Int × Int) × α} (he : e ∈ put m p a) : e ∈ m ∨ e.2 = a := by
  unfold put at he
  split at he
  · obtain ⟨e', h', rfl⟩ := List.mem_map.mp he
    by_cases c : e'.1 = p
    · right; rw [if_pos c]
    · left; rw [if_neg c]; exact h'
  · rcases List.mem_append.mp he with h | h
    · exact .inl h
    · right; rw [List.mem_singleton.mp h]
/-- another word at a count of the rule -/
theorem Vt.put {lim : Nat} {looks : List Int} {rl : Al Str} (h : Vt lim looks rl) {c : Int × Int} {x : Str} (hc : has rl c = true) (hx : Wd x) : Vt lim looks (VS.put rl c x) := by
  obtain ⟨⟨a1, a2, a3, a4, a5, a6, a7, a8, a9⟩, ks, b1, b2⟩ := h
  refine ⟨⟨a1, a2, a3, a4, a5, a6, ?_, ?_, fun j hj => has_put (.inl (a9 j hj))⟩, ks, b1, by rw [put_keys hc]; exact b2⟩
  · intro e he
    have : e.1 ∈ (VS.put rl c x).map (·.1) := List.mem_map_of_mem he
    rw [put_keys hc] at this
    obtain ⟨e', he', eq⟩ := List.mem_map.mp this
    rw [← eq]
    exact a7 e' he'
  · intro e he
    rcases put_mem he with z | z
    · exact a8 e z
    · rw [z]; exact hx
/-- all looks -/
def oneTo (n : Nat) : List Int := (List.range n).map fun i : Nat => (1 : Int) + (i : Nat)
theorem Vt.hash {P : Program} {w : World} {lim : Nat} {looks : List Int} {rl : Al Str} (hv : Vt lim looks rl) : ((keysA rl).map fun q => (tupleKind (mixKind P w)).hash q).Nodup := by
  obtain ⟨ks, hks, ek⟩ := hv.ord
  have e : keysA rl = ks.map fun p => kk (castP p) := by
    unfold keysA
    rw [show (rl.map fun e => kk e.1) = (rl.map (·.1)).map kk by rw [List.map_map]; rfl, ek, List.map_map]
    rfl
  rw [e, List.map_map]
  exact hash_nd P w (hks.trans (cnN_spots hv.l30))
theorem Vt.rlen {lim : Nat} {looks : List Int} {rl : Al Str} (hv : Vt lim looks rl) : rl.length ≤ 500 := by
  obtain ⟨ks, hks, ek⟩ := hv.ord
  have h1 := congrArg List.length ek
  rw [List.length_map, List.length_map] at h1
  have h2 := hks.length_le
  have h3 := cnt_len hv.l30
  rw [cnt_cast, List.length_map] at h3
  omega
end VS
set_option Elab.async false
set_option linter.all false
set_option maxRecDepth 100000
/-! list(range(..)). -/
namespace VS
open PySem PySem.Spec L2
section
variable {X : Cx} {R : Reg} {G : List Sl} {pos : Pos}
end
end VS
set_option Elab.async false
set_option linter.all false
set_option maxRecDepth 100000
/-! plain: wishers. -/
namespace VS
open PySem PySem.Spec L2
def addA (a : Al Int) (c : Int × Int) (v : Int) : Al Int := put a c ((lk a c).getD 0 + v)
def sumE (f : Int × Int → Int) : Al Int → Int
  | [] => 0
  | e :: a => e.2 * f e.1 + sumE f a
def Nk (a : Al Int) : Prop := (a.map (·.1)).Nodup
/-- one more try -/
def aftS (a : Al Int) (e : (Int × Int) × Int) : Al Int := addA (addA a e.1 e.2) (e.1.1 + 1, e.1.2) e.2
def aftT (h : Al Int) : Al Int := h.foldl aftS []
/-- counts, values and places of the ways -/
def Wy (t : Nat) (a : Al Int) : Prop := Nk a ∧ (∀ e ∈ a, 0 ≤ e.1.1 ∧ e.1.1 ≤ t ∧ 0 ≤ e.1.2 ∧ e.1.2 ≤ t ∧ 0 ≤ e.2) ∧ sumE (fun _ => 1) a ≤ 2 ^ t
/-! values tell a polynomial -/
/-! the greatest chance -/
def wCond (T : Tb) (x : Str) (ea : Bool) (c : Int × Int) : Bool := decide (lk T.ent c = some x) && (T.isEnd c || ea)
abbrev atW (t : Nat) (e : (Int × Int) × Int) : Int × Int := (e.1.1, (t : Int) - e.1.1)
def wS (T : Tb) (x : Str) (sk : Int) (ea : Bool) (t : Nat) (st : List Int × Al Int) (e : (Int × Int) × Int) : List Int × Al Int :=
  if wCond T x ea (atW t e) = true then (accS (fun _ => e.2) st.1 (atW t e), st.2)
  else if T.isEnd (atW t e) = false then (st.1, put st.2 e.1 e.2)
  else if (t : Int) < T.lim ∧ e.1.2 < sk then (st.1, put st.2 (e.1.1, e.1.2 + 1) e.2)
  else st
def wT (T : Tb) (x : Str) (sk : Int) (ea : Bool) (t : Nat) (st : List Int × Al Int) : List Int × Al Int := (aftT st.2).foldl (wS T x sk ea t) (st.1, [])
def wN (T : Tb) (x : Str) (sk : Int) (ea : Bool) : Nat → List Int × Al Int
  | 0 => ([], [((0, 0), 1)])
  | i + 1 => wT T x sk ea (i + 1) (wN T x sk ea i)
/-- the greatest chance, as a polynomial -/
def wishP (T : Tb) (x : Str) (sk : Int) (ea : Bool) : List Int := (wN T x sk ea T.lim).1
section
variable (T : Tb) (x : Str) (sk : Int) (ea : Bool) (p q : Int)
/-- what may be reached still, with n tries left: G when the next try is made, W at a count -/
def wiG : Nat → Int × Int → Int → Int
  | 0, _, _ => 0
  | n + 1, c, m =>
    let W := fun (c : Int × Int) => if wCond T x ea c = true then q ^ n else if T.isEnd c = false then wiG n c m else if m < sk then wiG n c (m + 1) else 0
    p * W (c.1 + 1, c.2) + (q - p) * W (c.1, c.2 + 1)
def wiW (n : Nat) (c : Int × Int) (m : Int) : Int := if wCond T x ea c = true then q ^ n else if T.isEnd c = false then wiG T x sk ea p q n c m else if m < sk then wiG T x sk ea p q n c (m + 1) else 0
/-- the weight of a place at t tries -/
def wgG (n t : Nat) (k : Int × Int) : Int := p ^ k.1.toNat * (q - p) ^ ((t : Int) - k.1).toNat * wiG T x sk ea p q n (k.1, (t : Int) - k.1) k.2
def wgW (n t : Nat) (k : Int × Int) : Int := p ^ k.1.toNat * (q - p) ^ ((t : Int) - k.1).toNat * wiW T x sk ea p q n (k.1, (t : Int) - k.1) k.2
end
section
variable {T : Tb} {x : Str} {sk : Int} {ea : Bool} {p q : Int}
def keyW (T : Tb) (t : Nat) (e : (Int × Int) × Int) : Int × Int := if T.isEnd (atW t e) = false then e.1 else (e.1.1, e.1.2 + 1)
end
/-- the ways that wait and what is gathered after t tries -/
def Wj (N t : Nat) (b : Int) (st : List Int × Al Int) : Prop := Nk st.2 ∧ (∀ e ∈ st.2, 0 ≤ e.1.1 ∧ e.1.1 ≤ t ∧ 0 ≤ e.1.2 ∧ e.1.2 ≤ t ∧ 0 ≤ e.2) ∧ st.1.length ≤ N + 1 ∧ Tr st.1 ∧ ∃ S : Int, 0 ≤ S ∧ (∀ j, ((cf st.1 j).natAbs : Int) ≤ S * 2 ^ 31) ∧ S + sumE (fun _ => 1) st.2 ≤ b
def grid (n : Nat) : List (Int × Int) := (List.range n).flatMap fun i => (List.range n).map fun j => (((i : Nat) : Int), ((j : Nat) : Int))
end VS
namespace VS
open PySem PySem.Spec L2
end VS
set_option Elab.async false
set_option linter.all false
set_option maxRecDepth 100000
set_option maxHeartbeats 2000000
/-! the best of a wisher, backwards -/
namespace VS
open PySem PySem.Spec L2
def k3 (c : Int × Int) (m : Int) : List Key := [.inl c.1, .inl c.2, .inl m]
section
variable {T : Tb} {x : Str} {sk : Int} {ea : Bool} {p q : Int}
end
def mxS (b c : Int) : Int := if c > b then c else b
/-- the choices at a count -/
def chA (rl : Al Str) (x : Str) (ea : Bool) (e : Bool) (c : Int × Int) (s : Int) : List Int := if (e || (ea && has rl c)) = true then [s * (if decide ((lk rl c).getD Str.empty = x) = true then 1 else 0)] else []
def chs (looks : List Int) (rl : Al Str) (x : Str) (ea : Bool) (c : Int × Int) (s g g1 : Int) (fr : Bool) : List Int := (chA rl x ea (stopL looks rl c) c s ++ (if stopL looks rl c = false then [g] else [])) ++ if (stopL looks rl c && fr) = true then [g1] else []
section
variable {X : Cx} {R : Reg} {G : List Sl} {pos : Pos} {k : Kt}
end
section
variable {X : Cx} {R : Reg} {G : List Sl} {k : Kt}
end
/-- what the law's dict holds: all counts after t tries, and those at t with fewer wins, and at i wins the first j misses -/
def BsD (V : Int × Int → Int → Int) (lim : Nat) (mo : Int) (ks : List (List Key)) (xs : List Dt) (t : Int) (i j : Nat) : Prop := ks.length = xs.length ∧ ∀ (c : Int × Int) (m : Int), 0 ≤ c.1 → 0 ≤ c.2 → 0 ≤ m → m ≤ mo → c.1 + c.2 ≤ lim → (t < c.1 + c.2 ∨ (c.1 + c.2 = t ∧ (c.1 < i ∨ (c.1 = i ∧ m < j)))) → lookT ks xs (k3 c m) = some (.int (V c m))
end VS
set_option Elab.async false
set_option linter.all false
set_option maxRecDepth 100000
set_option maxHeartbeats 2000000
/-! sums over the counts of a level; a behaviour is no better than the best wisher -/
namespace VS
open PySem PySem.Spec L2
def sumF : Nat → (Nat → Int) → Int
  | 0, _ => 0
  | k + 1, h => h 0 + sumF k fun d => h (d + 1)
/-- what lies at the counts after w wins and j misses at t tries -/
abbrev Cel := Int × Int → Int → Int
def cellV (f g : Cel) (t w m : Nat) : Int := f ((w : Int), (t : Int) - w) m * g ((w : Int), (t : Int) - w) m
def rowS (f g : Cel) (mo t w j : Nat) : Int := sumF (mo + 1 - j) fun d => cellV f g t w (j + d)
def levS (f g : Cel) (mo t i : Nat) : Int := sumF (t + 1 - i) fun d => rowS f g mo t (i + d) 0
/-- f with v more at one place -/
def addF (f : Cel) (c : Int × Int) (m v : Int) : Cel := fun d k => if d = c ∧ k = m then f d k + v else f d k
/-- what a behaviour may still reach: the row so far, the counts not yet looked at after t tries, and all of the next -/
def potB (f g0 g1 : Cel) (mo t w j : Nat) : Int := (rowS f g0 mo t w j + levS f g0 mo t (w + 1)) + levS f g1 mo (t + 1) 0
section
variable (lim : Nat) (looks : List Int) (rl : Al Str) (x : Str) (mo : Nat) (qu : Bool) (p q : Int)
def wtC (c : Int × Int) : Int := p ^ c.1.toNat * (q - p) ^ c.2.toNat
/-- the weight of a count after t tries -/
def gB (t : Nat) : Cel := fun c m => wtC p q c * wiG (mkT lim looks rl) x mo qu p q (lim - t) c m
def vB (t : Nat) : Cel := fun c m => wtC p q c * wiW (mkT lim looks rl) x mo qu p q (lim - t) c m
/-- whether one may turn -/
def freeB (t : Nat) (c : Int × Int) (m : Nat) : Bool := (stopL looks rl c && (decide (t + 1 < lim) && decide (m < mo))) || (!stopL looks rl c && (qu && has rl c))
/-- one try handed on: `tn` whether one turned -/
def halfB (tn : Bool) (m : Nat) (many : Int) (c : Int × Int) (s : List Int × Cel) : List Int × Cel :=
  (if ((stopL looks rl c != tn) && decide (lk rl c = some x)) = true then accS (fun _ => many) s.1 c else s.1,
   if (stopL looks rl c != tn) = false then addF s.2 c (m + if stopL looks rl c = true then 1 else 0) many else s.2)
end
end VS
set_option Elab.async false
set_option linter.all false
set_option maxRecDepth 100000
set_option maxHeartbeats 2000000
/-! the state of a behaviour -/
namespace VS
open PySem PySem.Spec L2
def oneC : Cel := fun _ _ => 1
def twoC : Cel := fun _ _ => 2
/-- what every half step keeps -/
structure BhK (lim mo t w j : Nat) (b : Int) (s : List Int × Cel) : Prop where
  tr : Tr s.1
  len : s.1.length ≤ lim + 1
  nn : ∀ c m, 0 ≤ s.2 c m
  far : ∀ (c : Int × Int) (m : Int), (t : Int) + 1 < c.1 + c.2 → s.2 c m = 0
  sz : ∃ S : Int, 0 ≤ S ∧ (∀ i, ((cf s.1 i).natAbs : Int) ≤ S * 2 ^ 31) ∧ S + potB s.2 twoC oneC mo t w j ≤ b
structure Bh (lim : Nat) (looks : List Int) (rl : Al Str) (x : Str) (mo : Nat) (qu : Bool) (t w j : Nat) (s : List Int × Cel) : Prop where
  k : BhK lim mo t w j (2 ^ (t + 1)) s
  val : ∀ p q : Int, 0 ≤ p → p ≤ q → hvN p q (cf s.1) lim + potB s.2 (gB lim looks rl x mo qu p q t) (gB lim looks rl x mo qu p q (t + 1)) mo t w j ≤ wiG (mkT lim looks rl) x mo qu p q lim (0, 0) 0
variable {lim : Nat} {looks : List Int} {rl : Al Str} {x : Str} {mo : Nat} {qu : Bool} {t w j : Nat} {s : List Int × Cel}
def delC : Cel := addF (fun _ _ => 0) ((0 : Nat), ((0 : Nat) : Int) - (0 : Nat)) (0 : Nat) 1
end VS
set_option Elab.async false
set_option linter.all false
set_option maxRecDepth 100000
set_option maxHeartbeats 2000000
/-! tuples put together stand as keys; a dict that counts ways -/
namespace VS
open PySem PySem.Spec L2
section
variable {X : Cx} {R : Reg} {G : List Sl} {pos : Pos} {k : Kt}
end
/-- the dict that holds the ways f -/
def WyD (f : Cel) (ks : List (List Key)) (xs : List Dt) : Prop := ks.length = xs.length ∧ ∀ (c : Int × Int) (m : Int), (lookT ks xs (k3 c m)).getD (.int 0) = .int (f c m)
end VS
set_option Elab.async false
set_option linter.all false
set_option maxRecDepth 100000
/-! == of dicts whose keys are tuples, also inside tuples and lists -/
namespace PySem.SeqAt
open Lean Elab Tactic Meta PySem PySem.Calls PyProof.Rows PyProof.V PySem.Spec
section
variable {prog : Program} {w : World} {K : Type} [DecidableEq K] {knd : HeapKind prog w K} {A : Around} {E : Value → Shared → Prop} {s : Shared}
inductive HitsH (prog : Program) (w : World) {K : Type} [DecidableEq K] (A : Around) (s : Shared) (ys : List (K × Addr × Value)) : List (K × Addr × Value) → Bool → Prop
  | nil : HitsH prog w A s ys [] true
  | miss {k : K} {p : Addr} {v : Value} {r : List (K × Addr × Value)} : atKey ys k = none → HitsH prog w A s ys ((k, p, v) :: r) false
  | hit {k : K} {p q : Addr} {v y : Value} {r : List (K × Addr × Value)} {e b : Bool} : atKey ys k = some (q, y) → EqIn prog w A s v y e → HitsH prog w A s ys r b → HitsH prog w A s ys ((k, p, v) :: r) (e && b)
theorem HitsH.inv {ys : List (K × Addr × Value)} {k : K} {p : Addr} {v : Value} {r : List (K × Addr × Value)} {b : Bool} (h : HitsH prog w A s ys ((k, p, v) :: r) b) :
    (atKey ys k = none ∧ b = false) ∨ ∃ q y e b', atKey ys k = some (q, y) ∧ EqIn prog w A s v y e ∧ HitsH prog w A s ys r b' ∧ b = (e && b') := by
  cases h with
  | miss hn => exact .inl ⟨hn, rfl⟩
  | hit hy he hr => exact .inr ⟨_, _, _, _, hy, he, hr, rfl⟩
theorem samePairsH {nm : String} {a b : Addr} {xs ys : List (K × Addr × Value)} {r : Bool} {Q : Bool → Shared → Prop} (hu : knd.room A) (ha : (a == sysModules) = false) (hb : (b == sysModules) = false)
    (da : s.heap.DictOfH knd a xs) (db : s.heap.DictOfH knd b ys) (hits : xs.length = ys.length → HitsH prog w A s ys xs r) (h : Q (xs.length == ys.length && r) s) :
    wpAny (model prog w) A (Builtin.Dict.samePairs nm a b) Q E s := by
  obtain ⟨oa, es, ep, hoa, _, hda, hea, hia, _⟩ := da
  obtain ⟨ob, es', ep', hob, _, hdb, heb, hib, hnb⟩ := db
  have hla : xs.length = es.size := (size_of_entries hea).symm
  have hlb : ys.length = es'.size := (size_of_entries heb).symm
  rw [hla, hlb] at h
  unfold Builtin.Dict.samePairs Builtin.Dict.showsAll
  rw [if_neg (show ¬ (a == sysModules) = true by rw [ha]; exact Bool.false_ne_true), if_neg (show ¬ (b == sysModules) = true by rw [hb]; exact Bool.false_ne_true)]
  refine wpAny_bind (wpAny_pure (wpAny_bind (wpAny_pure ?_)))
  refine wpAny_bind (wpAny_dictEntries hoa hda ?_)
  dsimp only
  refine wpAny_bind (wpAny_dictEntries hob hdb ?_)
  by_cases hsz : es.size = es'.size
  case neg =>
    rw [if_pos (by simpa using hsz)]
    have hbf : (es.size == es'.size) = false := by simpa using hsz
    rw [hbf, Bool.false_and] at h
    exact wpAny_bind (wpAny_rule (wpAny_pure h))
  case pos =>
    have h' : Q r s := by simpa [hsz] using h
    have hits' := hits (by rw [hla, hlb]; exact hsz)
    rw [if_neg (by rw [hsz]; simp)]
    refine wpAny_bind (wpAny_dictEpoch hoa hda ?_)
    refine wpAny_bind ?_
    rw [Std.Legacy.Range.forIn_eq_forIn_range']
    simp only [Std.Legacy.Range.size, Nat.sub_zero, Nat.add_sub_cancel, Nat.div_one]
    refine wpAny_forIn_list _
      (fun rest q s' => s' = s ∧ q = (none, ()) ∧ ∃ i, rest = List.range' i (es.size - i) ∧ i ≤ es.size ∧ HitsH prog w A s ys (xs.drop i) r)
      _ ?_ ?_ _ _ ⟨rfl, rfl, 0, by simp, Nat.zero_le _, hits'⟩
    · rintro x rest q s' ⟨rfl, rfl, i, hr, hi, hpre⟩
      have hlt : i < es.size := by
        rcases Nat.lt_or_ge i es.size with h | h
        · exact h
        · rw [Nat.sub_eq_zero_of_le h] at hr; simp at hr
      obtain ⟨rfl, hrest⟩ : x = i ∧ rest = List.range' (i + 1) (es.size - (i + 1)) := by
        have e : es.size - i = (es.size - (i + 1)) + 1 := by omega
        rw [e, List.range'_succ] at hr
        injection hr with h1 h2
        exact ⟨h1, h2⟩
      refine wpAny_bind (wpAny_dictEntries hoa hda ?_)
      have hlt' : x < xs.length := by rw [hla]; exact hlt
      obtain ⟨k, p, v, hkv⟩ : ∃ k p v, xs[x] = (k, p, v) := ⟨_, _, _, rfl⟩
      have hdrop : xs.drop x = (k, p, v) :: xs.drop (x + 1) := by rw [← hkv]; exact List.drop_eq_getElem_cons hlt'
      have hxe : es[x]? = some (entryOfKey knd (k, p, v)) := by rw [entry_at hea x, List.getElem?_eq_getElem hlt', hkv]; rfl
      have hkey : knd.is s'.heap k p := hia (k, p, v) (by rw [← hkv]; exact List.getElem_mem hlt')
      rw [hxe]
      rw [hdrop] at hpre
      show wpAny _ _ (holding [Value.ref p, v] _ >>= _) _ _ _
      refine wpAny_bind (wpAny_holding (wpAny_bind (wpAny_dictFind_heap hu hkey hob hdb heb hib hnb (fun hno => ?_) (fun j pq hj => ?_))))
      · have hn : atKey ys k = none := atKey_none_of_get hno
        rcases hpre.inv with ⟨_, er⟩ | ⟨q, y, _, _, hy, _⟩
        · rw [er] at h'
          refine wpAny_pure ?_
          show wpAny _ _ (if (!false) = true then _ else _) _ _ _
          rw [if_pos (by decide)]
          exact wpAny_pure (wpAny_pure h')
        · rw [hn] at hy; exact nomatch hy
      · obtain ⟨q0, y0⟩ := pq
        have hv' : atKey ys k = some (q0, y0) := atKey_of_get hnb hj
        refine wpAny_bind (wpAny_dictEntries hob hdb ?_)
        rw [entry_at heb j, hj]
        rcases hpre.inv with ⟨hn, _⟩ | ⟨q, y, e, b', hy, he, hrr, er⟩
        · rw [hv'] at hn; exact nomatch hn
        · obtain ⟨rfl, rfl⟩ : q0 = q ∧ y0 = y := by
            have := Option.some.inj (hv'.symm.trans hy)
            exact ⟨congrArg Prod.fst this, congrArg Prod.snd this⟩
          refine wpAny_holding (he _ _ ?_)
          cases e with
          | false =>
            rw [er, Bool.false_and] at h'
            show wpAny _ _ (if (!false) = true then _ else _) _ _ _
            rw [if_pos (by decide)]
            exact wpAny_pure (wpAny_pure h')
          | true =>
            rw [Bool.true_and] at er
            rw [← er] at hrr
            show wpAny _ _ (if (!true) = true then _ else _) _ _ _
            rw [if_neg (by decide)]
            refine wpAny_bind (wpAny_dictEpoch hoa hda ?_)
            rw [if_neg (by simp)]
            exact wpAny_pure ⟨rfl, rfl, x + 1, hrest, hlt, hrr⟩
    · rintro q s' ⟨rfl, rfl, i, hr, hi, hpre⟩
      have hin : i = es.size := by
        rcases Nat.lt_or_ge i es.size with h | h
        · have e : es.size - i = (es.size - (i + 1)) + 1 := by omega
          rw [e, List.range'_succ] at hr; exact nomatch hr
        · exact Nat.le_antisymm hi h
      refine wpAny_pure ?_
      rw [hin, ← hla, List.drop_length] at hpre
      cases hpre
      exact h'
theorem rcH_dicts {a b : Addr} {xs ys : List (K × Addr × Value)} {r : Bool} (hk : knd.room A.in1) (ha : (a == sysModules) = false) (hb : (b == sysModules) = false)
    (da : s.heap.DictOfH knd a xs) (db : s.heap.DictOfH knd b ys) (hu : A.units < cLine) (hits : xs.length = ys.length → HitsH prog w A.in1 s ys xs r) (E Q : Value → Shared → Prop) (h : Q (.bool (xs.length == ys.length && r)) s) : wpAny (model prog w) A (richCompare .Eq (.ref a) (.ref b)) Q E s := by
  refine wpAny_richCompare_same_room (op := .Eq) da.typeIs db.typeIs PySem.F.slot_dict_eq (wpAny_call_entry PySem.F.slot_dict_eq da.typeIs PySem.F.entry_dict_eq ?_ (PySem.F.args_dict_eq_2 _ _)) hu
  show wpAny _ _ (Builtin.Dict.dictSlotArgs "__eq__" ⟨[.ref a, .ref b], []⟩ >>= _) _ _ s
  refine wpAny_bind ?_
  unfold Builtin.Dict.dictSlotArgs
  refine wpAny_bind (wpAny_notOrdered_dict da.typeIs ?_)
  show wpAny _ _ (pure (Value.ref a, Value.ref b)) _ _ s
  refine wpAny_pure ?_
  refine wpAny_bind (wpAny_isInstance (T := "dict") db.typeIs PySem.F.sub_dict_dict ?_)
  simp only [Bool.not_true, Bool.false_eq_true, if_false]
  refine wpAny_bind (wpAny_pure (wpAny_bind (wpAny_pure ?_)))
  refine wpAny_bind (samePairsH hk ha hb da db hits ?_)
  refine wpAny_pure ⟨_, rfl, ?_, ?_⟩
  · exact fun x => nomatch x
  · simpa using h
end
end PySem.SeqAt
namespace VS
open PySem PySem.Spec L2 PySem.SeqAt
/-- == of data that hold dicts -/
def eqX : Nat → Dt → Dt → Bool
  | n + 1, .tup xs, .tup ys => if (okD (.tup xs) && okD (.tup ys)) = true then eqD (.tup xs) (.tup ys) else (xs.length == ys.length) && (xs.zip ys).all fun p => eqX n p.1 p.2
  | n + 1, .dT ks xs, .dT ls ys => ks.length == ls.length && (ks.zip xs).all fun p => match lookT ls ys p.1 with | none => false | some y => eqX n p.2 y
  | _, a, b => eqD a b
def okP : Nat → Dt → Dt → Bool
  | n + 1, .tup xs, .tup ys => (okD (.tup xs) && okD (.tup ys)) || (xs.zip ys).all fun p => okP n p.1 p.2
  | n + 1, .dT ks xs, .dT ls ys => (ks.zip xs).all fun p => match lookT ls ys p.1 with | none => true | some y => okP n p.2 y
  | _, a, b => okD a && okD b
theorem eqX_ok {n : Nat} {a b : Dt} (ha : okD a = true) (hb : okD b = true) : eqX n a b = eqD a b := by
  unfold eqX
  split
  · rw [if_pos (by rw [ha, hb]; rfl)]
  · simp [okN] at ha
  · rfl
theorem okP_ok {n : Nat} {a b : Dt} (ha : okD a = true) (hb : okD b = true) : okP n a b = true := by
  unfold okP
  split
  · rw [ha, hb]; rfl
  · simp [okN] at ha
  · rw [ha, hb]; rfl
theorem rp_get {K : PySem.W.Frag} {F : Hp} : ∀ {ds : List Dt} {vs : List V}, RpL K F ds vs → ∀ j (h : j < ds.length) (h2 : j < vs.length), Rp K F ds[j] vs[j]
  | [], _, _, j, h, _ => absurd h (Nat.not_lt_zero _)
  | d :: ds, vs, r, j, h, h2 => by
    obtain ⟨v, t, rfl, r1, r2⟩ := r.of_cons
    cases j with
    | zero => exact r1
    | succ j => exact rp_get r2 j (Nat.lt_of_succ_lt_succ h) (Nat.lt_of_succ_lt_succ h2)
theorem vals_get : ∀ {xs : List V} {us : List Value}, Vals xs us → ∀ j (h : j < xs.length) (h2 : j < us.length), RelV xs[j] us[j]
  | [], _, r, j, h, _ => absurd h (Nat.not_lt_zero _)
  | x :: xs, us, r, j, h, h2 => by
    cases r with
    | cons a t =>
      cases j with
      | zero => exact a
      | succ j => exact vals_get t j (Nat.lt_of_succ_lt_succ h) (Nat.lt_of_succ_lt_succ h2)
theorem zip_all {f : Dt → Dt → Bool} : ∀ xs ys : List Dt, (xs.zip ys).all (fun p => f p.1 p.2) = (List.range (min xs.length ys.length)).all fun j => f (xs.getD j .non) (ys.getD j .non)
  | [], ys => by simp
  | x :: xs, [] => by simp
  | x :: xs, y :: ys => by
    rw [List.zip_cons_cons, List.all_cons, zip_all xs ys, show min (x :: xs).length (y :: ys).length = min xs.length ys.length + 1 by simp only [List.length_cons]; omega, List.range_succ_eq_map, List.all_cons, List.all_map]
    rfl
section
variable {X : Cx} {pins : List (Addr × Obj)} {σ : St} {F H : Hp} {s : Shared}
theorem eqOk_run (I : Inv X pins σ H s) (sf : Same F H) {A : Around} (hu : A.units + 64 < cLine) {a b : Dt} {x y : V} {v u : Value} (ha : okD a = true) (hb : okD b = true) (ra : Rp X.K F a x) (rb : Rp X.K F b y) (rx : RelV x v) (ry : RelV y u) : EqIn X.prog X.w A s v u (eqD a b) := by
  obtain ⟨a1, a2⟩ := ok_shaped sf ha ra
  obtain ⟨b1, b2⟩ := ok_shaped sf hb rb
  obtain ⟨as, r1⟩ := Dp.reads I _ _ _ a1 rx
  obtain ⟨bs, r2⟩ := Dp.reads I _ _ _ b1 ry
  exact (SeqAt.eqAt_reads _ _ A s v u as bs r1 r2 (SeqAt.canLay_of_shaped a2) (SeqAt.canLay_of_shaped b2) (SeqAt.room_of_shaped a2 hu)).inModel _ _
theorem eqOk_same (I : Inv X pins σ H s) (sf : Same F H) {a b : Dt} {x : V} {v : Value} (ha : okD a = true) (hb : okD b = true) (ra : Rp X.K F a x) (rb : Rp X.K F b x) (rx : RelV x v) : eqD a b = true := by
  obtain ⟨a1, a2⟩ := ok_shaped sf ha ra
  obtain ⟨b1, b2⟩ := ok_shaped sf hb rb
  obtain ⟨as, r1⟩ := Dp.reads I _ _ _ a1 rx
  obtain ⟨bs, r2⟩ := Dp.reads I _ _ _ b1 rx
  unfold eqD
  rw [(r1.unique _ _ r2).1]
  exact SeqAt.eqv_refl _ (canLay_of_ok hb)
theorem rd_same {F H : Hp} {a : Addr} {u : HO} (sf : Same F H) (h : Rd F a u) : Rd H a u := h.elim (fun e => .inl (sf _ _ e)) fun ⟨o, e⟩ => .inr ⟨o, sf _ _ e⟩
theorem rd_inj {H : Hp} {a : Addr} {ks ls : List (List Key × V)} (h : Rd H a (.dT ks)) (g : Rd H a (.dT ls)) : ks = ls := by
  rcases h with h | ⟨o, h⟩ <;> rcases g with g | ⟨q, g⟩ <;> rw [h] at g <;> cases g <;> rfl
theorem zip_inj {α β : Type} : ∀ {ks ls : List α} {vs ws : List β}, ks.length = vs.length → ls.length = ws.length → ks.zip vs = ls.zip ws → ks = ls ∧ vs = ws
  | [], [], [], [], _, _, _ => ⟨rfl, rfl⟩
  | [], l :: ls, [], w :: ws, _, _, h => by simp at h
  | k :: ks, [], v :: vs, [], _, _, h => by simp at h
  | k :: ks, l :: ls, v :: vs, w :: ws, h1, h2, h => by
    rw [List.zip_cons_cons, List.zip_cons_cons] at h
    injection h with a b
    obtain ⟨c, d⟩ := zip_inj (by simpa using h1) (by simpa using h2) b
    injection a with a1 a2
    rw [c, d, a1, a2]
    exact ⟨rfl, rfl⟩
theorem look_nd : ∀ {ks : List (List Key)} {xs : List Dt}, ks.Nodup → ∀ {i : Nat} {k : List Key} {x : Dt}, ks[i]? = some k → xs[i]? = some x → lookT ks xs k = some x
  | [], _, _, i, k, x, h, _ => by simp at h
  | _ :: _, [], _, i, k, x, _, h => by simp at h
  | q :: ks, y :: ys, hn, 0, k, x, h1, h2 => by
    cases h1; cases h2
    unfold lookT
    rw [if_pos rfl]
  | q :: ks, y :: ys, hn, i + 1, k, x, h1, h2 => by
    rw [List.nodup_cons] at hn
    unfold lookT
    rw [if_neg (fun z => hn.1 (by rw [z]; exact List.mem_of_getElem? (by simpa using h1)))]
    exact look_nd hn.2 (by simpa using h1) (by simpa using h2)
theorem KT_keys {H : Hp} {kvs : List (List Key × V)} {xs : List (List Key × Addr × Value)} (r : KT H kvs xs) : kvs.map (·.1) = xs.map (·.1) := by
  induction r with
  | nil => rfl
  | cons h _ ih => rw [List.map_cons, List.map_cons, ih, h.1]
theorem dT_nodup (I : Inv X pins σ H s) {a : Addr} {ks : List (List Key)} {vs : List V} (h : Rd H a (.dT (ks.zip vs))) (hl : ks.length = vs.length) : ks.Nodup := by
  obtain ⟨_, _, xs, r, o, es, ep, _, _, _, _, _, hn⟩ := dt_rd I.hok h
  rw [← KT_keys r, List.map_fst_zip (by omega)] at hn
  exact hn
theorem zip_get {α β : Type} {xs : List α} {ys : List β} {p : α × β} (h : p ∈ xs.zip ys) : ∃ i : Nat, xs[i]? = some p.1 ∧ ys[i]? = some p.2 := by
  obtain ⟨i, hi⟩ := List.mem_iff_getElem?.mp h
  rw [List.getElem?_zip_eq_some] at hi
  exact ⟨i, hi⟩
theorem eqX_same (I : Inv X pins σ H s) (sf : Same F H) : ∀ (n : Nat) (a b : Dt) (x : V) (v : Value), okP n a b = true → Rp X.K F a x → Rp X.K F b x → RelV x v → eqX n a b = true := by
  intro n
  induction n with
  | zero =>
    intro a b x v ho ra rb rx
    have ho : (okD a && okD b) = true := by unfold okP at ho; exact ho
    rw [Bool.and_eq_true] at ho
    rw [eqX_ok ho.1 ho.2]
    exact eqOk_same I sf ho.1 ho.2 ra rb rx
  | succ n ih =>
    intro a b x v ho ra rb rx
    unfold okP at ho
    split at ho
    · rename_i n' xs ys e
      cases e
      unfold eqX
      by_cases hk : (okD (.tup xs) && okD (.tup ys)) = true
      · rw [if_pos hk]
        rw [Bool.and_eq_true] at hk
        exact eqOk_same I sf hk.1 hk.2 ra rb rx
      · rw [if_neg hk]
        rw [Bool.or_eq_true] at ho
        have ho := ho.resolve_left hk
        obtain ⟨p, vs, e1, h1, r1⟩ := rp_tup.mp ra
        obtain ⟨q, ws, e2, h2, r2⟩ := rp_tup.mp rb
        obtain rfl : p = q := by rw [e1] at e2; injection e2
        obtain rfl : vs = ws := I.tuple_inj (sq_t sf h1) (sq_t sf h2)
        have hl : xs.length = ys.length := r1.length.trans r2.length.symm
        rw [Bool.and_eq_true]
        refine ⟨by simp [hl], List.all_eq_true.mpr fun z hz => ?_⟩
        obtain ⟨i, g1, g2⟩ := zip_get hz
        obtain ⟨v1, f1, q1⟩ := r1.get g1
        obtain ⟨v2, f2, q2⟩ := r2.get g2
        obtain rfl : v1 = v2 := Option.some.inj (f1.symm.trans f2)
        obtain ⟨its, t1, _⟩ := I.tuple (sq_t sf h1)
        have hi : i < vs.length := (List.getElem?_eq_some_iff.mp f1).1
        have hi2 : i < its.length := by rw [← t1.length]; exact hi
        have rv := vals_get t1 i hi hi2
        have ev : vs[i] = v1 := (List.getElem?_eq_some_iff.mp f1).2
        rw [ev] at rv
        exact ih _ _ _ _ (List.all_eq_true.mp ho z hz) q1 q2 rv
    · rename_i n' ks xs ls ys e
      cases e
      unfold eqX
      obtain ⟨p, vs, e1, h1, l1, r1⟩ := rp_dT.mp ra
      obtain ⟨q, ws, e2, h2, l2, r2⟩ := rp_dT.mp rb
      obtain rfl : p = q := by rw [e1] at e2; injection e2
      obtain ⟨rfl, rfl⟩ := zip_inj l1 l2 (rd_inj (rd_same sf h1) (rd_same sf h2))
      have hn := dT_nodup I (rd_same sf h1) l1
      obtain ⟨_, _, zs, kt, _⟩ := dt_rd I.hok (rd_same sf h1)
      rw [Bool.and_eq_true]
      refine ⟨by simp, List.all_eq_true.mpr fun z hz => ?_⟩
      have hoz := List.all_eq_true.mp ho z hz
      obtain ⟨i, g1, g2⟩ := zip_get hz
      obtain ⟨v1, f1, q1⟩ := r1.get g2
      obtain ⟨y, f2, q2⟩ := r2.getV f1
      have lk := look_nd (xs := ys) hn g1 f2
      rw [lk] at hoz ⊢
      have hk : (ks.zip vs)[i]? = some (z.1, v1) := List.getElem?_zip_eq_some.mpr ⟨g1, f1⟩
      obtain ⟨u, hu, rr⟩ : ∃ u, zs[i]? = some u ∧ RelV v1 u.2.2 := by
        obtain ⟨hi, e⟩ := List.getElem?_eq_some_iff.mp hk
        have hl := Paired.length kt
        clear hoz lk
        have : ∀ (l : List (List Key × V)) (m : List (List Key × Addr × Value)), KT H l m → ∀ (i : Nat) (c : List Key × V), l[i]? = some c → ∃ u : List Key × Addr × Value, m[i]? = some u ∧ RelV c.2 u.2.2 := by
          intro l m k
          induction k with
          | nil => intro i c h; simp at h
          | cons a _ ih => intro i c h; cases i with
            | zero => cases h; exact ⟨_, rfl, a.2.2⟩
            | succ i => exact ih i c h
        exact this _ _ kt i _ hk
      exact ih _ _ _ _ hoz q1 q2 rr
    · rename_i hnt hnd
      rw [Bool.and_eq_true] at ho
      rw [eqX_ok ho.1 ho.2]
      exact eqOk_same I sf ho.1 ho.2 ra rb rx
/-- the entries of one dict, looked up in another -/
theorem hits_of (I : Inv X pins σ H s) {n : Nat} {A : Around} (ih : ∀ (a b : Dt) (x y : V) (v u : Value), okP n a b = true → Rp X.K F a x → Rp X.K F b y → RelV x v → RelV y u → EqIn X.prog X.w A s v u (eqX n a b))
    {ls : List (List Key)} {ys : List Dt} {ws : List V} {zs : List (List Key × Addr × Value)} (r2 : RpL X.K F ys ws) (l2 : ls.length = ws.length) (k2 : KT H (ls.zip ws) zs) :
    ∀ {ks : List (List Key)} {xs : List Dt} {vs : List V} {us : List (List Key × Addr × Value)}, RpL X.K F xs vs → ks.length = vs.length → KT H (ks.zip vs) us →
      ((ks.zip xs).all fun p => match lookT ls ys p.1 with | none => true | some y => okP n p.2 y) = true →
      HitsH X.prog X.w A s zs us ((ks.zip xs).all fun p => match lookT ls ys p.1 with | none => false | some y => eqX n p.2 y)
  | [], xs, vs, us, r, l, k, _ => by
    rw [List.zip_nil_left] at k
    cases k
    rw [List.zip_nil_left]
    exact .nil
  | q :: ks, [], vs, us, r, l, k, _ => by
    rw [r.of_nil] at l
    simp at l
  | q :: ks, x :: xs, vs, us, r, l, k, ho => by
    obtain ⟨v, t, rfl, r1, r3⟩ := r.of_cons
    rw [List.zip_cons_cons] at k
    cases k with
    | @cons _ z _ us' hz kt =>
      obtain ⟨kq, pq, vq⟩ := z
      obtain ⟨e1, _, rv⟩ := hz
      dsimp only at e1 rv
      subst e1
      rw [List.zip_cons_cons, List.all_cons, Bool.and_eq_true] at ho
      rw [List.zip_cons_cons, List.all_cons]
      have rest := hits_of I ih r2 l2 k2 r3 (by simpa using l) kt ho.2
      have lv := look_val (q := q) r2 l2
      have kv := k2.val q
      dsimp only
      cases hlk : lookT ls ys q with
      | none =>
        rw [lv.1 hlk] at kv
        have : atKey zs q = none := by
          cases ha : atKey zs q with
          | none => rfl
          | some y => rw [ha] at kv; exact kv.elim
        dsimp only
        rw [Bool.false_and]
        exact .miss this
      | some y =>
        obtain ⟨vy, g1, g2⟩ := lv.2 y hlk
        rw [g1] at kv
        obtain ⟨u2, hu2, ru⟩ := kv.some_of
        obtain ⟨⟨q2, y2⟩, hat, rfl⟩ := Option.map_eq_some_iff.mp hu2
        have ho1 := ho.1
        dsimp only at ho1
        rw [hlk] at ho1
        exact .hit hat (ih _ _ _ _ _ _ ho1 r1 g2 rv ru) rest
/-- the comparison itself, where a dict lies inside -/
theorem rcX_step (I : Inv X pins σ H s) (sf : Same F H) (n : Nat) (A : Around) (hu : A.units + n + 71 < cLine) (ih' : ∀ (a b : Dt) (x y : V) (v u : Value), okP n a b = true → Rp X.K F a x → Rp X.K F b y → RelV x v → RelV y u → EqIn X.prog X.w A.in1 s v u (eqX n a b)) {a b : Dt} {x y : V} {v u : Value} (hc : (∃ xs ys, a = .tup xs ∧ b = .tup ys) ∨ ∃ ks xs ls ys, a = .dT ks xs ∧ b = .dT ls ys) (ho : okP (n + 1) a b = true)
    (ra : Rp X.K F a x) (rb : Rp X.K F b y) (rx : RelV x v) (ry : RelV y u) (E Q : Value → Shared → Prop) (hq : Q (.bool (eqX (n + 1) a b)) s) : wpAny (model X.prog X.w) A (richCompare .Eq v u) Q E s := by
  rcases hc with ⟨xs, ys, rfl, rfl⟩ | ⟨ks, xs, ls, ys, rfl, rfl⟩
  · obtain ⟨p, vs, rfl, h1, r1⟩ := rp_tup.mp ra
    obtain ⟨q, ws, rfl, h2, r2⟩ := rp_tup.mp rb
    cases (show v = Value.ref p from rx)
    cases (show u = Value.ref q from ry)
    obtain ⟨its, t1, p1, _⟩ := I.tuple (sq_t sf h1)
    obtain ⟨jts, t2, p2, _⟩ := I.tuple (sq_t sf h2)
    have m1 := t1.length
    have m2 := t2.length
    have m3 := r1.length
    have m4 := r2.length
    have key : ∀ (f : Dt → Dt → Bool), (∀ z ∈ xs.zip ys, ∀ (x y : V) (v u : Value), Rp X.K F z.1 x → Rp X.K F z.2 y → RelV x v → RelV y u → EqIn X.prog X.w A.in1 s v u (f z.1 z.2)) →
        ((xs.length == ys.length) && (xs.zip ys).all fun p => f p.1 p.2) = eqX (n + 1) (.tup xs) (.tup ys) → wpAny (model X.prog X.w) A (richCompare .Eq (.ref p) (.ref q)) Q E s := by
      intro f hf e0
      refine rcIn_tuples (e := fun j => f (xs.getD j .non) (ys.getD j .non)) p1 p2 (by omega) (fun j g1 g2 => ?_) ?_
      · have g1' : j < its.length := by simpa using g1
        have g2' : j < jts.length := by simpa using g2
        have q1 := rp_get r1 j (by omega) (by omega)
        have q2 := rp_get r2 j (by omega) (by omega)
        have q3 := vals_get t1 j (by omega) g1'
        have q4 := vals_get t2 j (by omega) g2'
        have hz : (xs[j]'(by omega), ys[j]'(by omega)) ∈ xs.zip ys := List.mem_iff_getElem?.mpr ⟨j, List.getElem?_zip_eq_some.mpr ⟨List.getElem?_eq_getElem _, List.getElem?_eq_getElem _⟩⟩
        have := hf _ hz _ _ _ _ q1 q2 q3 q4
        have e1 : xs.getD j .non = xs[j]'(by omega) := by rw [List.getD_eq_getElem?_getD, List.getElem?_eq_getElem (by omega)]; rfl
        have e2 : ys.getD j .non = ys[j]'(by omega) := by rw [List.getD_eq_getElem?_getD, List.getElem?_eq_getElem (by omega)]; rfl
        show EqIn _ _ _ _ _ _ (f (xs.getD j .non) (ys.getD j .non))
        rw [e1, e2]
        simpa using this
      · have e : eqX (n + 1) (.tup xs) (.tup ys) = ((List.range (min its.toArray.size jts.toArray.size)).all (fun j => f (xs.getD j .non) (ys.getD j .non)) && its.toArray.size == jts.toArray.size) := by
          rw [← e0, zip_all (f := f), Bool.and_comm, List.size_toArray, List.size_toArray, ← m1, ← m2, ← m3, ← m4]
        rw [← e]
        exact hq
    by_cases hk : (okD (.tup xs) && okD (.tup ys)) = true
    · rw [Bool.and_eq_true] at hk
      obtain ⟨a1, a2⟩ := ok_shaped sf hk.1 ra
      obtain ⟨b1, b2⟩ := ok_shaped sf hk.2 rb
      obtain ⟨as, r1⟩ := Dp.reads I _ _ _ a1 rx
      obtain ⟨bs, r2⟩ := Dp.reads I _ _ _ b1 ry
      refine SeqAt.compareEq_shaped r1 r2 a2 b2 (by omega) ?_
      rw [eqX_ok hk.1 hk.2] at hq
      exact hq
    · have ho1 : ((xs.zip ys).all fun p => okP n p.1 p.2) = true := by
        unfold okP at ho
        rw [Bool.or_eq_true] at ho
        exact ho.resolve_left hk
      refine key (eqX n) (fun z hz x y v u q1 q2 q3 q4 => ih' _ _ _ _ _ _ (List.all_eq_true.mp ho1 z hz) q1 q2 q3 q4) ?_
      show _ = (if (okD (.tup xs) && okD (.tup ys)) = true then eqD (.tup xs) (.tup ys) else (xs.length == ys.length) && (xs.zip ys).all fun p => eqX n p.1 p.2)
      rw [if_neg hk]
  · obtain ⟨p, vs, rfl, h1, l1, r1⟩ := rp_dT.mp ra
    obtain ⟨q, ws, rfl, h2, l2, r2⟩ := rp_dT.mp rb
    cases (show v = Value.ref p from rx)
    cases (show u = Value.ref q from ry)
    obtain ⟨_, y1, us, k1, d1⟩ := dt_rd I.hok (rd_same sf h1)
    obtain ⟨_, y2, zs, k2, d2⟩ := dt_rd I.hok (rd_same sf h2)
    unfold okP at ho
    refine rcH_dicts (A := A) (tupleKind_room_in1 (by omega)) y1 y2 d1 d2 (by omega) (fun _ => hits_of I ih' r2 l2 k2 r1 l1 k1 ho) E Q ?_
    have m1 := Paired.length k1
    have m2 := Paired.length k2
    rw [List.length_zip] at m1 m2
    have e : (us.length == zs.length) = (ks.length == ls.length) := by rw [← m1, ← m2, show min ks.length vs.length = ks.length by omega, show min ls.length ws.length = ls.length by omega]
    unfold eqX at hq
    rw [e]
    exact hq
theorem eqX_run (I : Inv X pins σ H s) (sf : Same F H) : ∀ (n : Nat) (A : Around), A.units + n + 70 < cLine → ∀ (a b : Dt) (x y : V) (v u : Value), okP n a b = true → Rp X.K F a x → Rp X.K F b y → RelV x v → RelV y u → EqIn X.prog X.w A s v u (eqX n a b) := by
  intro n
  induction n with
  | zero =>
    intro A hu a b x y v u ho ra rb rx ry
    have ho : (okD a && okD b) = true := by unfold okP at ho; exact ho
    rw [Bool.and_eq_true] at ho
    rw [eqX_ok ho.1 ho.2]
    exact eqOk_run I sf (by omega) ho.1 ho.2 ra rb rx ry
  | succ n ih =>
    intro A hu a b x y v u ho ra rb rx ry
    have go : ((∃ xs ys, a = .tup xs ∧ b = .tup ys) ∨ ∃ ks xs ls ys, a = .dT ks xs ∧ b = .dT ls ys) → (∃ p, v = .ref p) → (∃ q, u = .ref q) → (v = u → x = y) → EqIn X.prog X.w A s v u (eqX (n + 1) a b) := by
      rintro hc ⟨p, rfl⟩ ⟨q, rfl⟩ hs
      by_cases hpq : p = q
      · subst hpq
        obtain rfl := hs rfl
        rw [eqX_same I sf (n + 1) _ _ _ _ ho ra rb rx]
        exact (SeqAt.EqAt.same _).inModel _ _
      · exact EqIn.of_refs hpq fun E Q hq => rcX_step I sf n A (by omega) (ih A.in1 (by show A.units + 1 + n + 70 < cLine; omega)) hc ho ra rb rx ry E Q hq
    have ho0 := ho
    unfold okP at ho
    split at ho
    · rename_i n' xs ys e
      obtain ⟨p, vs, rfl, h1, r1⟩ := rp_tup.mp ra
      obtain ⟨q, ws, rfl, h2, r2⟩ := rp_tup.mp rb
      cases (show v = Value.ref p from rx)
      cases (show u = Value.ref q from ry)
      exact go (.inl ⟨_, _, rfl, rfl⟩) ⟨_, rfl⟩ ⟨_, rfl⟩ fun z => by injection z with z; rw [z]
    · rename_i n' ks xs ls ys e
      obtain ⟨p, vs, rfl, h1, l1, r1⟩ := rp_dT.mp ra
      obtain ⟨q, ws, rfl, h2, l2, r2⟩ := rp_dT.mp rb
      cases (show v = Value.ref p from rx)
      cases (show u = Value.ref q from ry)
      exact go (.inr ⟨_, _, _, _, rfl, rfl⟩) ⟨_, rfl⟩ ⟨_, rfl⟩ fun z => by injection z with z; rw [z]
    · rename_i hnt hnd
      rw [Bool.and_eq_true] at ho
      rw [eqX_ok ho.1 ho.2]
      exact eqOk_run I sf (by omega) ho.1 ho.2 ra rb rx ry
theorem rcX_run (I : Inv X pins σ H s) (sf : Same F H) (n : Nat) (A : Around) (hu : A.units + n + 71 < cLine) {a b : Dt} {x y : V} {v u : Value} (hc : (∃ xs ys, a = .tup xs ∧ b = .tup ys) ∨ ∃ ks xs ls ys, a = .dT ks xs ∧ b = .dT ls ys) (ho : okP (n + 1) a b = true)
    (ra : Rp X.K F a x) (rb : Rp X.K F b y) (rx : RelV x v) (ry : RelV y u) (E Q : Value → Shared → Prop) (hq : Q (.bool (eqX (n + 1) a b)) s) : wpAny (model X.prog X.w) A (richCompare .Eq v u) Q E s :=
  rcX_step I sf n A hu (eqX_run I sf n A.in1 (by show A.units + 1 + n + 70 < cLine; omega)) hc ho ra rb rx ry E Q hq
end
section
variable {X : Cx} {R : Reg} {G : List Sl} {pos : Pos} {k : Kt}
theorem w_eqX (n : Nat) {a b : Dt} {P : Dt → Prop} (hu : X.A.units + n + 71 < cLine) (hc : (∃ xs ys, a = .tup xs ∧ b = .tup ys) ∨ ∃ ks xs ls ys, a = .dT ks xs ∧ b = .dT ls ys) (ho : okP (n + 1) a b = true) (p : P (.bl (eqX (n + 1) a b))) : W2 X R (compareOp .Eq) a b P := fun F H x y Q w rx ry c => by
  unfold opOf
  intro pins s σ v u I rv ru
  exact rcX_run I w.fh n X.A hu hc ho rx ry rv ru _ _ ⟨.bl _, H, I, rfl, c.here w (rp_bl.mpr rfl) p⟩
end
end VS
set_option Elab.async false
set_option linter.all false
set_option maxRecDepth 100000
/-! tables that are equal -/
namespace VS
open PySem PySem.Spec L2
def alE (a b : Al Str) : Bool := a.length == b.length && a.all fun e => match lk b e.1 with | none => false | some y => decide (e.2 = y)
def tbE (T1 T2 : Tb) : Bool := decide (T1.lim = T2.lim) && (decide (T1.looks = T2.looks) && alE T1.ent T2.ent)
abbrev tripD (T : Tb) : Dt := .tup [.int (T.lim : Nat), .tup (T.looks.map .int), dA .str T.ent]
theorem lk_memE {α : Type} : ∀ {m : Al α} {p : Int × Int} {a : α}, lk m p = some a → (p, a) ∈ m
  | e :: m, p, a, h => by
    unfold lk at h
    by_cases z : e.1 = p
    · rw [if_pos z] at h
      cases h
      rw [← z]
      exact List.mem_cons_self
    · rw [if_neg z] at h
      exact List.mem_cons_of_mem _ (lk_memE h)
theorem lk_nd {α : Type} : ∀ {m : Al α} {e : (Int × Int) × α}, (m.map (·.1)).Nodup → e ∈ m → lk m e.1 = some e.2
  | q :: m, e, nd, h => by
    rw [List.map_cons, List.nodup_cons] at nd
    unfold lk
    rcases List.mem_cons.mp h with rfl | h
    · rw [if_pos rfl]
    · rw [if_neg (fun z => nd.1 (by rw [z]; exact List.mem_map.mpr ⟨e, h, rfl⟩))]
      exact lk_nd nd.2 h
theorem lk_noneE {α : Type} : ∀ {m : Al α} {p : Int × Int}, lk m p = none → p ∉ m.map (·.1)
  | [], _, _ => by simp
  | e :: m, p, h => by
    unfold lk at h
    by_cases z : e.1 = p
    · rw [if_pos z] at h; cases h
    · rw [if_neg z] at h
      rw [List.map_cons, List.mem_cons]
      rintro (q | q)
      · exact z q.symm
      · exact lk_noneE h q
theorem alE_iff {a b : Al Str} (na : (a.map (·.1)).Nodup) (nb : (b.map (·.1)).Nodup) : alE a b = true ↔ ∀ c, lk a c = lk b c := by
  unfold alE
  rw [Bool.and_eq_true, beq_iff_eq, List.all_eq_true]
  constructor
  · rintro ⟨hl, h⟩ c
    have sub : ∀ e ∈ a, lk b e.1 = some e.2 := fun e he => by
      have := h e he
      cases z : lk b e.1 with
      | none => rw [z] at this; cases this
      | some y => rw [z] at this; rw [of_decide_eq_true this]
    cases z : lk a c with
    | some y => exact (sub _ (lk_memE z)).symm
    | none =>
      cases y : lk b c with
      | none => rfl
      | some v =>
        have nc : (c :: a.map (·.1)).Nodup := List.nodup_cons.mpr ⟨lk_noneE z, na⟩
        have := nd_len nc (m := b.map (·.1)) fun x hx => by
          rcases List.mem_cons.mp hx with rfl | hx
          · exact List.mem_map.mpr ⟨_, lk_memE y, rfl⟩
          · obtain ⟨e, he, rfl⟩ := List.mem_map.mp hx
            exact List.mem_map.mpr ⟨_, lk_memE (sub e he), rfl⟩
        rw [List.length_cons, List.length_map, List.length_map] at this
        omega
  · intro h
    refine ⟨?_, fun e he => ?_⟩
    · have sub : ∀ {a b : Al Str}, (a.map (·.1)).Nodup → (∀ c, lk a c = lk b c) → a.length ≤ b.length := fun {a b} na h => by
        have := nd_len na (m := b.map (·.1)) fun x hx => by
          obtain ⟨e, he, rfl⟩ := List.mem_map.mp hx
          exact List.mem_map.mpr ⟨_, lk_memE ((h e.1).symm.trans (lk_nd na he)), rfl⟩
        rwa [List.length_map, List.length_map] at this
      exact Nat.le_antisymm (sub na h) (sub nb fun c => (h c).symm)
    · rw [← h e.1, lk_nd na he]
      simp
theorem put_nd {α : Type} {m : Al α} (h : (m.map (·.1)).Nodup) (p : Int × Int) (a : α) : ((put m p a).map (·.1)).Nodup := by
  unfold put
  split
  · rw [List.map_map]
    have e : ((fun e : (Int × Int) × α => e.1) ∘ fun e : (Int × Int) × α => if e.1 = p then (e.1, a) else e) = fun e => e.1 := by
      funext e
      show (if e.1 = p then (e.1, a) else e).1 = e.1
      split <;> rfl
    rw [e]
    exact h
  · rename_i hz
    rw [List.map_append, List.nodup_append]
    refine ⟨h, by simp, fun x hx y hy => ?_⟩
    simp only [List.map_cons, List.map_nil, List.mem_singleton] at hy
    subst hy
    rintro rfl
    refine lk_noneE (m := m) (p := x) ?_ hx
    unfold has at hz
    cases z : lk m x with
    | none => rfl
    | some v => rw [z] at hz; exact absurd rfl hz
theorem ent_nd (rl : Al Str) : ∀ (L : List (Int × Int)) (m : Al Str), (m.map (·.1)).Nodup → ((L.foldl (entStep rl) m).map (·.1)).Nodup
  | [], m, h => h
  | c :: L, m, h => by
    rw [List.foldl_cons]
    refine ent_nd rl L _ ?_
    unfold entStep
    split
    · exact put_nd h _ _
    · exact h
theorem mkT_nd (lim : Nat) (looks : List Int) (rl : Al Str) : ((mkT lim looks rl).ent.map (·.1)).Nodup := ent_nd rl _ [] List.nodup_nil
theorem mkT_wd {lim : Nat} {looks : List Int} {rl : Al Str} (h : Vr lim looks rl) : ∀ e ∈ (mkT lim looks rl).ent, Wd e.2 := fun e he => by
  have : lk (mkT lim looks rl).ent e.1 = some e.2 := lk_nd (mkT_nd lim looks rl) he
  rw [show (mkT lim looks rl).ent = entOf rl lim from rfl, lk_ent h.keys] at this
  exact h.words _ (lk_memE this)
theorem okD_trip (T : Tb) : okD (tripD T) = false := by
  show ([Dt.int (T.lim : Nat), Dt.tup (T.looks.map Dt.int), dA Dt.str T.ent].all (okN 11)) = false
  simp only [List.all_cons, List.all_nil, Bool.and_true]
  rw [show okN 11 (dA Dt.str T.ent) = false from rfl, Bool.and_false, Bool.and_false]
theorem zip_dA (e : Al Str) : (keysA e).zip (e.map fun z => Dt.str z.2) = e.map fun z => (kk z.1, Dt.str z.2) := by
  unfold keysA
  rw [List.zip_map']
theorem okP_dA {a b : Al Str} (ha : ∀ e ∈ a, PyData.strOk e.2 = true) (hb : ∀ e ∈ b, PyData.strOk e.2 = true) : okP 1 (dA .str a) (dA .str b) = true := by
  unfold dA okP
  rw [zip_dA, List.all_map, List.all_eq_true]
  intro e he
  show (match lookT (keysA b) (b.map fun z => Dt.str z.2) (kk e.1) with | none => true | some y => okP 0 (.str e.2) y) = true
  rw [look_dA]
  cases z : lk b e.1 with
  | none => rfl
  | some y => exact okP_ok (ha e he) (hb _ (lk_memE z))
theorem eqX_dA {a b : Al Str} (ha : ∀ e ∈ a, PyData.strOk e.2 = true) (hb : ∀ e ∈ b, PyData.strOk e.2 = true) : eqX 1 (dA .str a) (dA .str b) = alE a b := by
  unfold dA eqX alE
  rw [zip_dA, List.all_map, keysA, keysA, List.length_map, List.length_map]
  congr 1
  refine Bool.eq_iff_iff.mpr ?_
  rw [List.all_eq_true, List.all_eq_true]
  have key : ∀ e ∈ a, (match lookT (keysA b) (b.map fun z => Dt.str z.2) (kk e.1) with | none => false | some y => eqX 0 (.str e.2) y) = (match lk b e.1 with | none => false | some y => decide (e.2 = y)) := fun e he => by
    rw [look_dA]
    cases z : lk b e.1 with
    | none => rfl
    | some y =>
      show eqX 0 (.str e.2) (.str y) = decide (e.2 = y)
      rw [eqX_ok (a := .str e.2) (b := .str y) (ha e he) (hb _ (lk_memE z)), eqD_str]
  exact ⟨fun h e he => by rw [← key e he]; exact h e he, fun h e he => by have := h e he; rw [← key e he] at this; exact this⟩
theorem okP_trip {T1 T2 : Tb} (h1 : ∀ e ∈ T1.ent, PyData.strOk e.2 = true) (h2 : ∀ e ∈ T2.ent, PyData.strOk e.2 = true) : okP 2 (tripD T1) (tripD T2) = true := by
  show ((okD (tripD T1) && okD (tripD T2)) || (okP 1 (.int (T1.lim : Nat)) (.int (T2.lim : Nat)) && (okP 1 (.tup (T1.looks.map .int)) (.tup (T2.looks.map .int)) && (okP 1 (dA .str T1.ent) (dA .str T2.ent) && true)))) = true
  rw [okP_dA h1 h2, okP_ok (a := .int (T1.lim : Nat)) (b := .int (T2.lim : Nat)) rfl rfl, okP_ok (ok_intsT _) (ok_intsT _)]
  simp
theorem eqX_trip {T1 T2 : Tb} (h1 : ∀ e ∈ T1.ent, PyData.strOk e.2 = true) (h2 : ∀ e ∈ T2.ent, PyData.strOk e.2 = true) : eqX 2 (tripD T1) (tripD T2) = tbE T1 T2 := by
  show (if (okD (tripD T1) && okD (tripD T2)) = true then eqD (tripD T1) (tripD T2) else (3 == 3) && (eqX 1 (.int (T1.lim : Nat)) (.int (T2.lim : Nat)) && (eqX 1 (.tup (T1.looks.map .int)) (.tup (T2.looks.map .int)) && (eqX 1 (dA .str T1.ent) (dA .str T2.ent) && true)))) = tbE T1 T2
  rw [okD_trip, Bool.false_and, if_neg Bool.false_ne_true, eqX_dA h1 h2, eqX_ok (a := .int (T1.lim : Nat)) (b := .int (T2.lim : Nat)) rfl rfl, eqX_ok (ok_intsT _) (ok_intsT _), eqD_intsT]
  unfold tbE
  have : eqD (.int (T1.lim : Nat)) (.int (T2.lim : Nat)) = decide (T1.lim = T2.lim) := by
    show PyData.eqv (.int (T1.lim : Nat)) (.int (T2.lim : Nat)) = _
    simp only [PyData.eqv]
    refine Bool.eq_iff_iff.mpr ?_
    rw [beq_iff_eq, decide_eq_true_eq]
    omega
  rw [this, Bool.and_true]
  rfl
theorem tbE_self {T : Tb} (nd : (T.ent.map (·.1)).Nodup) : tbE T T = true := by
  unfold tbE
  rw [(alE_iff nd nd).mpr fun _ => rfl]
  simp
def StrT (T : Tb) : Prop := (T.ent.map (·.1)).Nodup ∧ ∀ e ∈ T.ent, PyData.strOk e.2 = true
theorem strT_mk {lim : Nat} {looks : List Int} {rl : Al Str} (h : Vr lim looks rl) : StrT (mkT lim looks rl) := ⟨mkT_nd lim looks rl, fun e he => (mkT_wd h e he).2⟩
def ph_Table___eq__ (C : Addr) : Ph := fun ds q _ => ∃ T1 T2 : Tb, ds = [tabD C T1, tabD C T2] ∧ (StrT T1 ∧ StrT T2) ∧ q (.bl (tbE T1 T2))
end VS
set_option Elab.async false
set_option linter.all false
set_option maxRecDepth 100000
/-! name = {k: v for ..}, the keys tuples -/
namespace VS
open PySem PySem.Spec L2
section
variable {X : Cx}
variable {R : Reg} {G : List Sl} {pos : Pos} {k : Kt}
end
end VS
set_option Elab.async false
set_option linter.all false
set_option maxRecDepth 100000
set_option maxHeartbeats 2000000
/-! {k: v for x in d}: a dict with tuple keys walked by a comprehension; plain values -/
namespace VS
open PySem PySem.Spec L2
def flD : Dt → Bool
  | .non | .bl _ | .int _ | .str _ => true
  | _ => false
theorem rp_flD {K : PySem.W.Frag} {F F' : Hp} : ∀ {y : Dt} {v : V}, flD y = true → Rp K F y v → Rp K F' y v
  | .non, _, _, h => rp_non.mpr (rp_non.mp h)
  | .bl _, _, _, h => rp_bl.mpr (rp_bl.mp h)
  | .int _, _, _, h => rp_int.mpr (rp_int.mp h)
  | .str _, _, _, h => rp_str.mpr (rp_str.mp h)
  | .tup _, _, h, _ | .lst _, _, h, _ | .ty _, _, h, _ | .adr _, _, h, _ | .frl _, _, h, _ | .dT _ _, _, h, _ | .dK _ _, _, h, _ | .obj _ _ _, _, h, _ | .exv _ _ _ _, _, h, _ | .at_ _ _, _, h, _ | .key _, _, h, _ => by simp [flD] at h
def noOw : Sl → Bool
  | .ow _ => false
  | _ => true
section
variable {X : Cx} {R : Reg} {G : List Sl} {pos : Pos} {k : Kt}
theorem ty_reveal {σ : L2.St} {F H : Hp} {a : Addr} {xs : List V} (ty : Ty X.K R G σ F H) (hG : G.all noOw = true) (hM : ∀ a, ¬ R.M a) (ha : H a = some (.tup xs)) : Same F (upd F a (.tup xs)) ∧ Ty X.K R G σ (upd F a (.tup xs)) H := by
  have sm : Same F (upd F a (.tup xs)) := fun z o h => by
    by_cases e : z = a
    · subst e
      have := ty.wf.fh _ _ h
      rw [ha] at this
      rw [upd_same, this]
    · rw [upd_ne e]; exact h
  refine ⟨sm, ⟨⟨fun z o h => ?_, fun z m => (hM z m).elim, fun z m => (hM z m).elim, ty.wf.b⟩, sls_of ty.sl.len fun j g hj => ?_, ty.nd⟩⟩
  · by_cases e : z = a
    · subst e; rw [upd_same] at h; rw [ha]; exact h
    · rw [upd_ne e] at h; exact ty.wf.fh _ _ h
  · obtain ⟨v, e, s⟩ := ty.sl.get hj
    refine ⟨v, e, ?_⟩
    cases g with
    | no => trivial
    | sh x => obtain ⟨y, e1, r⟩ := s; exact ⟨y, e1, r.mono sm⟩
    | ow x =>
      have := List.all_eq_true.mp hG _ (List.mem_of_getElem? hj)
      simp [noOw] at this
theorem dcK_rd {tg kx vx : Expr} {scope : Scope} {own : List (Str × Nat)} {P : Dt → Prop} {σ : L2.St} {F H : Hp} {Q : VK} {d : Addr} {od : Obj} {ks : List (List Key)} {vs : List V} {td : TE} (ty : Ty X.K R G σ F H) (c : CtW X.K R F H P Q) (hG : G.all noOw = true) (hM : ∀ a, ¬ R.M a)
    (hF : F d = some (.frz od (.dT (ks.zip vs)))) (hl : ks.length = vs.length) (hz : ks.length ≤ 100000) (htd : ∀ Q' : VK, Q' (.ref d) H → td σ H Q')
    {J : Nat → List (List Key) → List Dt → Prop} (j0 : J 0 [] [])
    (step : ∀ i q ks' xs', ks[i]? = some q → J i ks' xs' → ks'.length ≤ i → ∃ js, (∀ Y, Blk X scope Y → A Y tg (.key q) js) ∧ (∀ p ∈ js, p.1 ∈ own.map (·.2)) ∧
      ∀ Y, Blk X scope Y → E Y R (setsD (wipeD G (own.map (·.2))) js) kx fun dk => ∃ q', dk = .key q' ∧ ∀ Z, Blk X scope Z → E Z R (setsD (wipeD G (own.map (·.2))) js) vx fun y => flD y = true ∧ J (i + 1) (putT ks' q') (putX ks' xs' q' y))
    (fin : ∀ ks' xs', J ks.length ks' xs' → P (.dT ks' xs')) : tDcT (iKeys td) (tgB X scope tg) (ttB X scope []) (teB X scope kx) (teB X scope vx) (own.map (·.2)) σ H Q := by
  refine htd _ ⟨d, od, rfl, .inr ⟨_, ty.wf.fh _ _ hF, fun D hD => ?_⟩⟩
  have hzl : (ks.zip vs).length = ks.length := by rw [List.length_zip]; omega
  have fD : F D = none := ty.wf.fh.free hD
  refine ⟨fun i m H2 => m = ks.length - i ∧ i ≤ ks.length ∧ ∃ ks' xs' vacc, J i ks' xs' ∧ ks'.length ≤ i ∧ H2 D = some (.dT (ks'.zip vacc)) ∧ ks'.length = vacc.length ∧ RpL X.K F xs' vacc ∧ Ext R F H F H2, ⟨_, rfl, Nat.zero_le _, [], [], [], j0, Nat.le_refl _, upd_same, rfl, .nil, ty.wf.own hD⟩, ?_⟩
  rintro i m H2 ⟨rfl, hi, ks', xs', vacc, j, hla, hD2, hlv, ra, ex2⟩
  have hd2 := ex2.wf.fh _ _ hF
  by_cases hlt : i < ks.length
  · refine .inr ⟨⟨hd2, by rw [hzl]; exact hlt⟩, _, fun H' z => z, fun x H' yy => ?_⟩
    obtain ⟨rfl, q, v, a, e1, rfl, e3⟩ := yy
    have eq : ks[i]? = some q := by
      rw [List.getElem?_zip_eq_some] at e1
      exact e1.1
    obtain ⟨js, ha, hjs, hS⟩ := step i q ks' xs' eq j hla
    obtain ⟨sm, ty3⟩ := ty_reveal (ty.ext ex2) hG hM e3
    intro Y bY
    show tgOf Y tg _ (L2.wipe σ (own.map (·.2))) H' _
    refine ha Y bY (L2.wipe σ (own.map (·.2))) (upd F a (.tup (q.map kV))) H' _ _ ty3.wf.fh (by rw [bY.K]; exact rp_key.mpr ⟨a, rfl, upd_same⟩) ?_
    intro ws hw rw1
    refine ⟨?_, ?_⟩
    · rw [wipe_sets fun p hp => ?_, wipe_wipe]
      have q := (List.of_mem_zip hp).1
      obtain ⟨z, hz, e⟩ := List.mem_map.mp q
      rw [← e]
      exact hjs z hz
    · intro Y2 bY2
      have tyW : Ty X.K R (setsD (wipeD G (own.map (·.2))) js) (setsV (wipe σ (own.map (·.2))) ((js.map (·.1)).zip ws)) (upd F a (.tup (q.map kV))) H' := Ty.sets (ty3.wipe _) (by rw [← bY.K]; exact rw1)
      refine ts_nil (X := Y2) (R := R) (G := setsD (wipeD G (own.map (·.2))) js) (P := fun b => b = true) rfl _ (upd F a (.tup (q.map kV))) H' _ (by rw [bY2.K]; exact tyW) fun b F4 H4 ex4 p => ?_
      subst p
      rw [if_pos rfl]
      have nM := hM D
      have hD4 : H4 D = some (.dT (ks'.zip vacc)) := ex4.hh D _ nM hD2
      intro Y3 bY3
      refine hS Y3 bY3 _ F4 H4 _ (by rw [bY3.K]; exact tyW.ext ex4) fun y F5 H5 dk ex5 r5 ⟨kq, ek, pv⟩ => ?_
      subst ek
      intro Y4 bY4
      refine pv Y4 bY4 _ F5 H5 _ (by rw [bY4.K]; exact (tyW.ext ex4).ext ex5) fun z F6 H6 dz ex6 r6 ⟨fl, pj⟩ => ?_
      have hD6 : H6 D = some (.dT (ks'.zip vacc)) := ex6.hh D _ nM (ex5.hh D _ nM hD4)
      rw [bY3.K] at r5
      rw [bY4.K] at r6
      obtain ⟨bq, eb, hb⟩ := rp_key.mp (r5.mono ex6.ff)
      obtain ⟨us, p1, p2, p3⟩ := put_zipT (q := kq) (d := dz) (v := z) ra hlv (rp_flD fl r6)
      have e46 := (ex4.trans ex5).trans ex6
      have e6 : Ext R F H F H6 := ⟨⟨fun z o h => e46.hh z o (hM z) (ex2.wf.fh z o h), fun z m => (hM z m).elim, fun z m => (hM z m).elim, ex6.wf.b⟩, .refl _, fun z o n h => e46.hh z o n (ex2.hh z o n h), fun _ _ h => h⟩
      have mk : Ext R F H F (upd H6 D (.dT (L2.putK (ks'.zip vacc) kq z))) := by
        refine ⟨⟨fun a o h => ?_, fun z m => (hM z m).elim, fun z m => (hM z m).elim, ?_⟩, .refl _, fun a o n h => ?_, fun _ _ h => h⟩
        · rw [upd_ne (fun z => by rw [z, fD] at h; cases h)]
          exact e6.wf.fh a o h
        · refine R.st H6 _ (fun a o m h => (hM a m).elim) e6.wf.b
        · rw [upd_ne (ne_of_none h hD)]
          exact e6.hh a o n h
      refine ⟨_, kq, bq, eb, ex6.wf.fh _ _ hb, hD6, ?_, ⟨_, by omega, rfl, hlt, putT ks' kq, putX ks' xs' kq dz, us, pj, Nat.le_trans (putT_len ks' kq) (by omega), by rw [upd_same, p1], p2, p3, mk⟩⟩
      rw [List.length_zip]
      exact Nat.lt_of_le_of_lt (Nat.min_le_left _ _) (Nat.lt_of_le_of_lt hla (Nat.lt_of_lt_of_le hlt (Nat.le_trans hz (by decide))))
  · have e : i = ks.length := by omega
    subst e
    exact .inl ⟨⟨hd2, by rw [hzl]; exact Nat.le_refl _⟩, c D F H2 (.dT ks' xs') ex2 hD (hM D) fD ⟨vacc, hD2, hlv, ra⟩ (fin ks' xs' j)⟩
/-- the same for a field of a variable, locked while it is walked -/
theorem ew_dcK (i0 : Nat) {x f : Str} {px pf pos : Pos} {tg kx vx : Expr} {scope : Scope} {own : List (Str × Nat)} {P : Dt → Prop} {C : Addr} {ns : List Str} {xs0 : List Dt} {ks : List (List Key)} {xs1 : List Dt} (hu : X.A.units < cLine) (hc : X.calm = true) (hNd : X.N.Nodup) (ok : BlkOk X.N X.env.scope scope own) (hG : G.all noOw = true) (hM : ∀ a, ¬ R.M a)
    (hg : G[i0]? = some (.sh (.obj C ns xs0))) (cl : Cls X.K C) (na : NoAttr X.K C f) (hf : fldO f ns xs0 = some (.dT ks xs1)) (hz : ks.length ≤ 100000) (hN : X.N[i0]? = some x) (hv : Vis X.env.scope x)
    {J : Nat → List (List Key) → List Dt → Prop} (j0 : J 0 [] [])
    (step : ∀ i q ks' xs', ks[i]? = some q → J i ks' xs' → ks'.length ≤ i → ∃ js, (∀ Y, Blk X scope Y → A Y tg (.key q) js) ∧ (∀ p ∈ js, p.1 ∈ own.map (·.2)) ∧
      ∀ Y, Blk X scope Y → E Y R (setsD (wipeD G (own.map (·.2))) js) kx fun dk => ∃ q', dk = .key q' ∧ ∀ Z, Blk X scope Z → E Z R (setsD (wipeD G (own.map (·.2))) js) vx fun y => flD y = true ∧ J (i + 1) (putT ks' q') (putX ks' xs' q' y))
    (fin : ∀ ks' xs', J ks.length ks' xs' → P (.dT ks' xs'))
    (hd : (x == ("__debug__" : Str)) = false := by decide) (hcd : (x == ("__classdict__" : Str)) = false := by decide) (hb : attributeBase (.Name x px) f X.env (eval (.Name x px) X.env) = eval (.Name x px) X.env := by rfl)
    (hs : ∀ z, foldedSetIterable (.Attribute (.Name x px) f pf) X.env z = pure z := by intro _; rfl) : EW X R G (.DictComp kx vx [⟨tg, .Attribute (.Name x px) f pf, [], 0⟩] scope pos) P := fun σ F H Q ty c => by
  obtain ⟨v0, e1, y, e2, r⟩ := ty.sl.get hg
  obtain ⟨a, dx, ws, rfl, h1, hlw, rl⟩ := rp_obj.mp r
  subst e2
  obtain ⟨v, h2, rv⟩ := fld_get rl hlw hf
  obtain ⟨d, vs, rfl, hd0, hl, rvs⟩ := rp_dT.mp rv
  have run := pe_dcT (kx := kx) (vx := vx) (tg := tg) (tests := []) (ps := pos) hu hc hNd (pi_keys (tg := tg) (pe_fld (pos := pf) (pe_var hN hv hd hcd) hb)) ok blk_pg blk_pts blk_pe blk_pe hs
  rcases hd0 with hd0 | ⟨od, hd0⟩
  · refine tOf.of (pe_lock run) ⟨d, .dT (ks.zip vs), ty.wf.fh _ _ hd0, trivial, fun od => ?_⟩
    generalize hu : ks.zip vs = kvs at *
    have w1 : Lk kvs (.frz od (.dT kvs)) := .inr ⟨od, rfl⟩
    have w2 : Lk kvs (.dT kvs) := .inl rfl
    have ty1 := ty.lk (.inl hd0) w1
    have ne : a ≠ d := fun z => by rw [z, hd0] at h1; cases h1
    refine dcK_rd (od := od) (d := d) (ks := ks) (vs := vs) ty1 (fun p F' H' dd ex hp nM fp ho q => ?_) hG hM (by rw [upd_same, hu]) hl hz (fun Q' hq => ⟨_, e1, a, C, dx, _, _, rfl, by rw [upd_ne ne]; exact ty.wf.fh _ _ h1, cl, na, h2, hq⟩) j0 step fin
    have f1 : F' d = some (.frz od (.dT kvs)) := ex.ff _ _ upd_same
    have pd : p ≠ d := fun z => by rw [z, upd_same] at hp; cases hp
    refine ⟨ex.wf.fh _ _ f1, c p (upd F' d (.dT kvs)) (upd H' d (.dT kvs)) dd ⟨ex.wf.lk (kvs := kvs) (.inr ⟨od, f1⟩), fun a o ha => ?_, fun a o nm ha => ?_, fun a ha n => ?_⟩ (by rw [upd_ne pd] at hp; exact hp) nM (by rw [upd_ne pd]; exact fp) (owo_lk (.inr ⟨od, f1⟩) w2 pd ho) q⟩
    · by_cases e : a = d
      · subst e; rw [hd0] at ha; rw [upd_same]; exact ha
      · rw [upd_ne e]; exact ex.ff a o (by rw [upd_ne e]; exact ha)
    · by_cases e : a = d
      · subst e
        rw [ty.wf.fh _ _ hd0] at ha
        rw [upd_same]
        exact ha
      · rw [upd_ne e]; exact ex.hh a o nm (by rw [upd_ne e]; exact ha)
    · by_cases e : a = d
      · subst e; rw [hd0] at n; cases n
      · rw [upd_ne e]; exact ex.fr a (by rw [upd_ne e]; exact ha) (by rw [upd_ne e]; exact n)
  · exact tOf.of run (dcK_rd (od := od) (d := d) (ks := ks) (vs := vs) ty c hG hM hd0 hl hz (fun Q' hq => ⟨_, e1, a, C, dx, _, _, rfl, ty.wf.fh _ _ h1, cl, na, h2, hq⟩) j0 step fin)
end
end VS
set_option Elab.async false
set_option linter.all false
set_option maxRecDepth 100000
set_option maxHeartbeats 2000000
/-! list(d), d a dict with tuple keys -/
namespace VI
open PySem PySem.Spec PyProof.Rows L2
/-- the tuples of the keys -/
def KeyAt (H : Hp) : List (List Key × V) → List V → Prop := Paired fun p x => ∃ a, x = .ref a ∧ H a = some (.tup (p.1.map kV))
def tListKeysT (te : TE) : TE := fun σ H Q => te σ H fun x H1 => ∃ (d : Addr) (kvs : List (List Key × V)), x = .ref d ∧ Rd H1 d (.dT kvs) ∧ ∀ q xs, H1 q = none → KeyAt H1 kvs xs → Q (.ref q) (upd H1 q (.lst xs))
theorem keyAt_of {H : Hp} {kvs : List (List Key × V)} {ks : List (List Key × Addr × Value)} (r : Paired (fun (p : List Key × V) (q : List Key × Addr × Value) => p.1 = q.1 ∧ H q.2.1 = some (.tup (p.1.map kV)) ∧ RelV p.2 q.2.2) kvs ks) : KeyAt H kvs (ks.map fun z => V.ref z.2.1) := by
  induction r with
  | nil => exact .nil
  | cons h _ ih => exact .cons ⟨_, rfl, h.2.1⟩ ih
section
variable {X : Cx} {e : Expr} {te : TE} {p pos : Pos}
theorem pe_listKeysT (hc : X.calm = true) (he : PE X e te) (hg : Gl X "list") (hm : X.mg "list" = none) (hv : bootBuiltins "list" = some (.type "list"))
    (hs : starEach [e] X.env = (false, eval e X.env) :: starEach [] X.env := by rfl) :
    PE X (.Call (.Name "list" p) [e] [] pos) (tListKeysT te) := by
  refine ⟨fun pins s σ H Q I hq => ?_⟩
  refine wpAny_Call_Name_kw (ld_blt I hg hm hv ?_)
  refine PyProof.Rows.callWith_type1 ?_ hs rfl
  rw [hs]
  show wpAny _ _ (spliced ((false, eval e X.env) :: backTo pos (starEach [] X.env))) _ _ s
  refine Calls.spliced_cons ?_
  refine thn (he.run pins s σ H _ I hq) fun u s1 ⟨x, H1, I1, rx, d, kvs, ex, hd, q⟩ => ?_
  subst ex
  obtain rfl : u = Value.ref d := rx
  obtain ⟨z, hs0, ks, pr, o, es, ep, ho, hx, hdt, hen, hn⟩ := (show ObjOk X.prog X.w H1 s1.heap d (.dT kvs) from hd.ok I1.hok)
  have l1 : es.size = ks.length := size_of_entries hen
  have l2 : kvs.length = ks.length := Paired.length pr
  have raw : s1.heap.DictRaw d es ep := ⟨o, ho, hx, hdt⟩
  refine Calls.spliced_nil ?_
  refine PySem.W.kdl_call (PySem.KdlSrc.rawDict (es := es) (ep := ep) (d := d) hs0) (I1.ok.hd hc) raw (by omega) fun h' tk acc' c' kp e it => ?_
  have rv : Vals (ks.map fun z => V.ref z.2.1) acc'.toList := by
    have hl : acc'.toList.length = ks.length := by rw [Array.length_toList, it.1]; exact l1
    refine vals_of_at (by rw [List.length_map, hl]) fun j x w h1 h2 => ?_
    obtain ⟨hi, hv⟩ := it.2 j w (by rw [← Array.getElem?_toList]; exact h2)
    rw [List.getElem?_map] at h1
    cases hk : ks[j]? with
    | none => rw [hk] at h1; cases h1
    | some kv =>
      rw [hk] at h1
      cases h1
      have qe := entry_at hen j
      rw [hk, Array.getElem?_eq_getElem hi] at qe
      have e4 := Option.some.inj qe
      rw [hv, e4]
      rfl
  have hz : (ks.map fun z => V.ref z.2.1).length ≤ sizeLine := by rw [List.length_map]; omega
  refine ⟨.ref _, _, I1.laid (t' := tk) (o := .lst (ks.map fun z => V.ref z.2.1)) kp (Nat.le_refl _) ?_, rfl, q _ _ (I1.hok.fresh (Nat.le_refl _)) (keyAt_of pr)⟩
  exact ⟨hz, acc'.toList, c', rv, by rw [Array.toArray_toList]; exact e⟩
end
end VI
namespace VS
open PySem PySem.Spec L2
theorem Wf.reveal {R : Reg} {F H : Hp} {a : Addr} {xs : List V} (w : Wf R F H) (h : H a = some (.tup xs)) : Ext R F H (upd F a (.tup xs)) H := by
  refine ⟨⟨fun z o hz => ?_, fun z m => ?_, w.oc, w.b⟩, fun z o hz => ?_, fun _ _ _ h => h, fun z nt n => ?_⟩
  · by_cases e : z = a
    · subst e; rw [upd_same] at hz; rw [h]; exact hz
    · rw [upd_ne e] at hz; exact w.fh _ _ hz
  · by_cases e : z = a
    · subst e
      obtain ⟨u, h1, h2⟩ := w.oc z m
      rw [h] at h1
      exact absurd (Option.some.inj h1).symm (h2 xs)
    · rw [upd_ne e]; exact w.off z m
  · by_cases e : z = a
    · subst e
      have := w.fh _ _ hz
      rw [h] at this
      rw [upd_same, this]
    · rw [upd_ne e]; exact hz
  · by_cases e : z = a
    · subst e
      obtain ⟨u, h1, h2⟩ := nt
      rw [h] at h1
      exact absurd (Option.some.inj h1).symm (h2 xs)
    · rw [upd_ne e]; exact n
/-- the keys become known -/
theorem reveal_keys {K : PySem.W.Frag} {R : Reg} {H : Hp} : ∀ {ks : List (List Key)} {vs : List V} {xs : List V} {F : Hp}, ks.length = vs.length → Wf R F H → VI.KeyAt H (ks.zip vs) xs → ∃ F', Ext R F H F' H ∧ RpL K F' (ks.map Dt.key) xs
  | [], vs, xs, F, hl, w, k => by
    rw [List.zip_nil_left] at k
    cases k
    exact ⟨F, Ext.refl w, .nil⟩
  | q :: ks, [], xs, F, hl, w, k => by simp at hl
  | q :: ks, v :: vs, xs, F, hl, w, k => by
    rw [List.zip_cons_cons] at k
    cases k with
    | @cons _ x _ xs' h t =>
      obtain ⟨a, rfl, ha⟩ := h
      obtain ⟨F1, e1, r1⟩ := reveal_keys (K := K) (by simpa using hl) w t
      have e2 := e1.wf.reveal ha
      exact ⟨_, e1.trans e2, .cons (rp_key.mpr ⟨a, rfl, upd_same⟩) (r1.mono e2.ff)⟩
section
variable {X : Cx} {R : Reg} {G : List Sl} {pos : Pos} {k : Kt}
/-- list(d), one's own -/
theorem en_listKeys {e : Expr} {p : Pos} {P : List Dt → Prop} (hc : X.calm = true) (hg : Gl X "list") (hm : X.mg "list" = none) (h : E X R G e fun d => ∃ ks xs, d = .dT ks xs ∧ P (ks.map Dt.key))
    (hs : starEach [e] X.env = (false, eval e X.env) :: starEach [] X.env := by rfl) : EN X R G (.Call (.Name "list" p) [e] [] pos) P := fun σ F H Q ty c => by
  refine tOf.of (VI.pe_listKeysT hc pe_w hg hm b_list hs) (h σ F H _ ty fun v F1 H1 d ex r h2 => ?_)
  obtain ⟨ks, xs, rfl, hp⟩ := h2
  obtain ⟨a, vs, rfl, hd, hl, rl⟩ := rp_dT.mp r
  refine ⟨a, ks.zip vs, rfl, rd_mono ex.wf.fh hd, fun q ys hq hk => ?_⟩
  obtain ⟨F2, e2, r2⟩ := reveal_keys (K := X.K) hl ex.wf hk
  exact c q F2 _ (ks.map Dt.key) ys ((ex.trans e2).trans (e2.wf.own hq)) (ex.free hq) (e2.wf.new hq) upd_same (e2.wf.fh.free hq) r2 hp
end
end VS
set_option Elab.async false
set_option linter.all false
set_option maxRecDepth 100000
/-! != of dicts whose keys are tuples -/
namespace PySem.SeqAt
open Lean Elab Tactic Meta PySem PySem.Calls PyProof.Rows PyProof.V PySem.Spec
section
variable {prog : Program} {w : World} {K : Type} [DecidableEq K] {knd : HeapKind prog w K} {A : Around} {E : Value → Shared → Prop} {s : Shared}
theorem rcH_ne {a b : Addr} {xs ys : List (K × Addr × Value)} {r : Bool} (hk : knd.room A.in1) (ha : (a == sysModules) = false) (hb : (b == sysModules) = false)
    (da : s.heap.DictOfH knd a xs) (db : s.heap.DictOfH knd b ys) (hu : A.units < cLine) (hits : xs.length = ys.length → HitsH prog w A.in1 s ys xs r) (E Q : Value → Shared → Prop) (h : Q (.bool (!(xs.length == ys.length && r))) s) : wpAny (model prog w) A (richCompare .NotEq (.ref a) (.ref b)) Q E s := by
  refine wpAny_richCompare_same_room (op := .NotEq) da.typeIs db.typeIs PySem.F.slot_dict_ne (wpAny_call_entry PySem.F.slot_dict_ne da.typeIs PySem.F.entry_dict_ne ?_ (PySem.F.args_dict_ne_2 _ _)) hu
  show wpAny _ _ (Builtin.Dict.dictSlotArgs "__ne__" ⟨[.ref a, .ref b], []⟩ >>= _) _ _ s
  refine wpAny_bind ?_
  unfold Builtin.Dict.dictSlotArgs
  refine wpAny_bind (wpAny_notOrdered_dict da.typeIs ?_)
  show wpAny _ _ (pure (Value.ref a, Value.ref b)) _ _ s
  refine wpAny_pure ?_
  refine wpAny_bind (wpAny_isInstance (T := "dict") db.typeIs PySem.F.sub_dict_dict ?_)
  simp only [Bool.not_true, Bool.false_eq_true, if_false]
  refine wpAny_bind (wpAny_pure (wpAny_bind (wpAny_pure ?_)))
  refine wpAny_bind (samePairsH hk ha hb da db hits ?_)
  refine wpAny_pure ⟨_, rfl, ?_, ?_⟩
  · exact fun x => nomatch x
  · simpa using h
end
end PySem.SeqAt
namespace VS
open PySem PySem.Spec L2 PySem.SeqAt
section
variable {X : Cx} {R : Reg} {G : List Sl} {pos : Pos} {k : Kt}
theorem w_neDT (n : Nat) {ks ls : List (List Key)} {xs ys : List Dt} {P : Dt → Prop} (hu : X.A.units + n + 71 < cLine) (ho : okP (n + 1) (.dT ks xs) (.dT ls ys) = true) (p : P (.bl (!eqX (n + 1) (.dT ks xs) (.dT ls ys)))) : W2 X R (compareOp .NotEq) (.dT ks xs) (.dT ls ys) P := fun F H x y Q w rx ry c => by
  unfold opOf
  intro pins s σ v u I rv ru
  have ih' := eqX_run I w.fh n X.A.in1 (by show X.A.units + 1 + n + 70 < cLine; omega)
  obtain ⟨a, vs, rfl, h1, l1, r1⟩ := rp_dT.mp rx
  obtain ⟨b, ws, rfl, h2, l2, r2⟩ := rp_dT.mp ry
  cases (show v = Value.ref a from rv)
  cases (show u = Value.ref b from ru)
  obtain ⟨_, y1, us, k1, d1⟩ := dt_rd I.hok (rd_same w.fh h1)
  obtain ⟨_, y2, zs, k2, d2⟩ := dt_rd I.hok (rd_same w.fh h2)
  have ho1 := ho
  unfold okP at ho1
  refine rcH_ne (A := X.A) (tupleKind_room_in1 (by omega)) y1 y2 d1 d2 (by omega) (fun _ => hits_of I ih' r2 l2 k2 r1 l1 k1 ho1) _ _ ⟨.bl _, H, I, rfl, ?_⟩
  have m1 := Paired.length k1
  have m2 := Paired.length k2
  rw [List.length_zip] at m1 m2
  have e : (us.length == zs.length) = (ks.length == ls.length) := by rw [← m1, ← m2, show min ks.length vs.length = ks.length by omega, show min ls.length ws.length = ls.length by omega]
  unfold eqX at p
  rw [e]
  exact c.here w (rp_bl.mpr rfl) p
end
end VS
set_option Elab.async false
set_option linter.all false
set_option maxRecDepth 100000
/-! plain: a look more, a look less -/
namespace VS
open PySem PySem.Spec L2
def addLk (lim : Nat) (looks : List Int) (t : Int) : List Int := (oneTo lim).filter fun k => decide (k = t) || inI looks k
def remLk (looks : List Int) (t : Int) : List Int := looks.filter fun k => !decide (k = t)
def ph_Table_with_look (C CI : Addr) : Ph := fun ds q x => ∃ (lim : Nat) (looks : List Int) (rl : Al Str) (t : Int), ds = [tabD C (mkT lim looks rl), .int t] ∧ Vr lim looks rl ∧ (1 ≤ t ∧ t ≤ lim → q (tabD C (mkT lim (addLk lim looks t) rl))) ∧ (¬ (1 ≤ t ∧ t ≤ lim) → x CI ["place"] [.str "looks"])
def ph_Table_without_look (C CI : Addr) : Ph := fun ds q x => ∃ (lim : Nat) (looks : List Int) (rl : Al Str) (t : Int), ds = [tabD C (mkT lim looks rl), .int t] ∧ Vr lim looks rl ∧ (1 ≤ t ∧ t < lim → q (tabD C (mkT lim (remLk looks t) rl))) ∧ (¬ (1 ≤ t ∧ t < lim) → x CI ["place"] [.str "looks"])
theorem Vr.le {lim : Nat} {looks : List Int} {rl : Al Str} (h : Vr lim looks rl) {z : Int} (hz : z ∈ looks) : z ≤ lim := by
  obtain ⟨l', e⟩ := h.last
  rw [e] at hz
  rcases List.mem_append.mp hz with a | a
  · have := h.asc
    rw [e, List.pairwise_append] at this
    have := this.2.2 z a lim (by simp)
    omega
  · simp at a
    omega
def okL (lim : Nat) (t : Int) (b : Bool) : Bool := decide (1 ≤ t) && (decide (t ≤ lim) && (b || decide (t < lim)))
def chL (lim : Nat) (looks : List Int) (t : Int) (b : Bool) : List Int := if b = true then addLk lim looks t else remLk looks t
def dueF (looks : List Int) (t : Int) (b : Bool) (k : Int) : Bool := (inI looks k && (b || !decide (k = t))) || (b && decide (k = t))
def ph__law_asked (C CI : Addr) : Ph := fun ds q x => ∃ (lim : Nat) (looks : List Int) (rl : Al Str) (t : Int) (b : Bool), ds = [tabD C (mkT lim looks rl), .int t, .bl b] ∧ Vr lim looks rl ∧ (okL lim t b = true → q (tabD C (mkT lim (chL lim looks t b) rl))) ∧ (okL lim t b = false → x CI ["place"] [.str "looks"])
def ph__law_stands (C : Addr) : Ph := fun ds q _ => ∃ (lim : Nat) (looks : List Int) (rl : Al Str), ds = [tabD C (mkT lim looks rl), ptD lim looks rl] ∧ Vt lim looks rl ∧ q (.bl true)
def ph__law_agreesL (C CI : Addr) : Ph := fun ds q _ => ∃ (lim : Nat) (looks : List Int) (rl : Al Str) (t : Int) (b : Bool), ds = [ptD lim looks rl, .int t, .bl b] ∧ Vt lim looks rl ∧ q (.bl true)
end VS
set_option Elab.async false
set_option linter.all false
set_option maxRecDepth 100000
/-! xs[::e], e 1 or -1 -/
namespace VS
open PySem PySem.Spec PyProof.Rows L2
theorem pick1 (items : Array Value) : slicePick items none none (some 1) = items := by
  unfold slicePick
  have hb : sliceBounds none none (some 1) items.size = (0, (items.size : Int), 1) := by
    first
    | rfl
    | simp [sliceBounds]
  rw [hb]
  show ((sliceRange 0 (items.size : Int) 1).filterMap (items[·]?)).toArray = _
  rw [show sliceRange 0 (items.size : Int) 1 = (List.range (items.size - 0)).map (0 + ·) from sliceRange_one 0 items.size, pick_run, List.drop_zero, Nat.sub_zero]
  rw [show items.size = items.toList.length from (Array.length_toList).symm, List.take_length]
def tStepL (K : PySem.W.Frag) (te ts : TE) : TE := fun σ H Q => te σ H fun x H1 => ∃ a xs, x = .ref a ∧ tPart ts σ H1 fun o H2 => ∃ z, o = some z ∧ (z = 1 ∨ z = -1) ∧ SqL K H2 a xs ∧ ∀ p, H2 p = none → Q (.ref p) (upd H2 p (.lst (if z = 1 then xs else xs.reverse)))
theorem pe_stepL {X : Cx} {e s2 : Expr} {te ts : TE} {p3 pos : Pos} (he : PE X e te) (hs : PE X s2 ts) : PE X (.Subscript e (.Slice none none (some s2) p3) pos) (tStepL X.K te ts) := by
  refine ⟨fun pins s σ H Q I h => ?_⟩
  refine Subscript_ (thn (he.run pins s σ H _ I h) fun v s1 ⟨x, H1, I1, r1, q1⟩ => ?_)
  obtain ⟨a, xs, ex, q⟩ := q1
  subst ex
  cases r1
  refine wpAny_Slice (thn (po_none.run pins s1 σ H1 (fun o H2 => o = none ∧ H2 = H1) I1 ⟨rfl, rfl⟩) fun vl s2 ⟨l, H2, I2, pl, el, e2⟩ => ?_)
  subst el e2
  refine thn (po_none.run pins s2 σ H2 (fun o H3 => o = none ∧ H3 = H2) I2 ⟨rfl, rfl⟩) fun vu s3 ⟨u, H3, I3, pu, eu, e3⟩ => ?_
  subst eu e3
  refine thn ((po_some hs).run pins s3 σ H3 (fun o H4 => ∃ z, o = some z ∧ (z = 1 ∨ z = -1) ∧ SqL X.K H4 a xs ∧ ∀ p, H4 p = none → Q (.ref p) (upd H4 p (.lst (if z = 1 then xs else xs.reverse)))) I3 q) fun vs s4 ⟨o, H4, I4, ps, z, eo, hz1, hx, q⟩ => ?_
  subst eo
  have I5 : Inv X pins σ H4 { s4 with heap := s4.heap.push { cls := .type "slice", data := .fields #[vl, vu, vs] } } := I4.kept (t' := s4.toks) fun b ob q => Heap.get?_push_of_some _ q
  obtain ⟨its, r, ht, hz⟩ := I5.list hx
  have hlen := r.length
  show wpAny (model X.prog X.w) X.A (subscriptTail e (.Slice none none (some _) p3) (.ref a) (.ref s4.heap.objs.size)) (EP X pins σ Q) X.xe { s4 with heap := s4.heap.push { cls := .type "slice", data := .fields #[vl, vu, vs] } }
  refine tail_any (ops := [.ref a, .ref s4.heap.objs.size]) ht.isList.typeIs (PySem.slot_list_getitem.lookup) ?_ (by with_unfolding_all rfl)
  refine wpAny_getItem_list_slice ht.isList (Heap.IsSliceOf.new _ vl vu vs) pl pu ps (by rcases hz1 with rfl | rfl <;> decide) ?_ (by rw [List.size_toArray]; omega)
  have hfin : ∀ (ys : List V) (ws : List Value), Vals ys ws → ys.length ≤ sizeLine → (∀ p, H4 p = none → Q (.ref p) (upd H4 p (.lst ys))) → EP X pins σ Q (.ref { s4 with heap := s4.heap.push { cls := .type "slice", data := .fields #[vl, vu, vs] } }.heap.objs.size) { ({ s4 with heap := s4.heap.push { cls := .type "slice", data := .fields #[vl, vu, vs] } } : Shared) with heap := (s4.heap.push { cls := .type "slice", data := .fields #[vl, vu, vs] }).push { cls := .type "list", data := .seq ws.toArray } } := fun ys ws hv hl qq => by
    refine ⟨.ref _, _, I5.laid (t' := s4.toks) (o := .lst ys) (fun b ob q => Heap.get?_push_of_some _ q) (Nat.le_refl _) ?_, rfl, qq _ (I5.hok.fresh (Nat.le_refl _))⟩
    exact ⟨hl, _, 0, hv, Heap.get?_push_size _ rfl⟩
  rcases hz1 with rfl | rfl
  · rw [pick1]
    exact hfin xs its r hz q
  · rw [PySem.W.krv_pick]
    exact hfin xs.reverse its.reverse r.reverse (by rw [List.length_reverse]; exact hz) q
section
variable {X : Cx} {R : Reg} {G : List Sl} {pos : Pos}
theorem rpL_rev {K : PySem.W.Frag} {F : Hp} : ∀ {ds : List Dt} {ws : List V}, RpL K F ds ws → RpL K F ds.reverse ws.reverse
  | [], ws, r => by rw [r.of_nil]; exact .nil
  | d :: ds, ws, r => by
    obtain ⟨v, t, rfl, q1, q2⟩ := r.of_cons
    rw [List.reverse_cons, List.reverse_cons]
    exact (rpL_rev q2).append (.cons q1 .nil)
theorem e_stepL {e s2 : Expr} {p3 : Pos} {P : Dt → Prop} (h : E X R G e fun d => ∃ xs, d = .lst xs ∧ E X R G s2 fun d' => ∃ z, d' = .int z ∧ (z = 1 ∨ z = -1) ∧ P (.lst (if z = 1 then xs else xs.reverse))) : E X R G (.Subscript e (.Slice none none (some s2) p3) pos) P := fun σ F H Q ty c =>
  tOf.of (pe_stepL pe_w pe_w) (h σ F H _ ty fun v F1 H1 d ex r ⟨xs, ed, h2⟩ => by
    subst ed
    obtain ⟨a, vs, rfl, h1, r1⟩ := rp_lst.mp r
    refine ⟨a, vs, rfl, h2 σ F1 H1 _ (ty.ext ex) fun y F2 H2 d' ex2 r2 ⟨z, e2, hz, p⟩ => ?_⟩
    subst e2
    refine ⟨z, rp_int.mp r2, z, rfl, hz, SqL.of (ex2.wf.fh _ _ (ex2.ff _ _ h1)), fun q hq => ?_⟩
    have r3 := r1.mono ex2.ff
    refine c _ _ _ _ ((ex.trans ex2).trans (ex2.wf.made hq)) (rp_lst_new (ex2.wf.fh.free hq) ?_) p
    by_cases e : z = 1
    · rw [if_pos e, if_pos e]; exact r3
    · rw [if_neg e, if_neg e]; exact rpL_rev r3)
end
end VS
set_option Elab.async false
set_option linter.all false
set_option maxRecDepth 100000
/-! the text form of a table -/
namespace VS
open PySem PySem.Spec L2
def nL (z : Int) : List Nat := TL.numL z.toNat
def limL (lim : Nat) : List Nat := [108, 105, 109, 105, 116] ++ 32 :: TL.numL lim
def lookL (looks : List Int) : List Nat := TL.joinL [32] ([108, 111, 111, 107, 115] :: looks.map nL)
def entL (e : (Int × Int) × Str) : List Nat := nL e.1.1 ++ 32 :: (nL e.1.2 ++ 32 :: e.2.cps.toList)
def linesL (lim : Nat) (looks : List Int) (E : Al Str) : List (List Nat) := limL lim :: lookL looks :: E.map entL
def textL (lim : Nat) (looks : List Int) (E : Al Str) : List Nat := TL.joinL [10] (linesL lim looks E)
/-! the order of the entries -/
def ltK (a b : Int × Int) : Prop := a.1 + a.2 < b.1 + b.2 ∨ a.1 + a.2 = b.1 + b.2 ∧ a.1 < b.1
theorem cnt_ltK : ∀ n : Nat, (cnt n).Pairwise ltK
  | 0 => by unfold cnt; simp
  | n + 1 => by
    rw [cnt_succ, List.pairwise_append]
    refine ⟨cnt_ltK n, ?_, fun a ha b hb => ?_⟩
    · unfold cRow
      rw [List.pairwise_map]
      refine (List.pairwise_lt_range (n := n + 2)).imp fun {a b} h => .inr ?_
      show (a : Int) + (1 + (n : Int) - a) = b + (1 + n - b) ∧ (a : Int) < b
      omega
    · have h1 := (mem_cnt.mp ha)
      have h2 := (mem_cRow.mp hb)
      exact .inl (by omega)
theorem ltK_ne {a b : Int × Int} (h : ltK a b) : a ≠ b := fun e => by
  subst e
  rcases h with h | h <;> omega
def entF (rl : Al Str) (L : List (Int × Int)) : Al Str := L.filterMap fun c => (lk rl c).map fun x => (c, x)
theorem ent_foldF (rl : Al Str) : ∀ (L : List (Int × Int)) (m : Al Str), L.Nodup → (∀ c ∈ L, has m c = false) → L.foldl (entStep rl) m = m ++ entF rl L
  | [], m, _, _ => by simp [entF]
  | c :: L, m, hn, hm => by
    obtain ⟨h1, h2⟩ := List.nodup_cons.mp hn
    have hc := hm c List.mem_cons_self
    rw [List.foldl_cons]
    unfold entStep
    cases z : lk rl c with
    | none =>
      show L.foldl (entStep rl) m = _
      rw [ent_foldF rl L m h2 fun d hd => hm d (List.mem_cons_of_mem _ hd)]
      unfold entF
      rw [List.filterMap_cons_none (by rw [z]; rfl)]
    | some x =>
      show L.foldl (entStep rl) (put m c x) = _
      have hp : put m c x = m ++ [(c, x)] := by unfold put; rw [if_neg (by rw [hc]; decide)]
      rw [hp, ent_foldF rl L _ h2 fun d hd => ?_]
      · unfold entF
        rw [List.filterMap_cons_some (b := (c, x)) (by rw [z]; rfl), List.append_assoc]
        rfl
      · have h3 := hm d (List.mem_cons_of_mem _ hd)
        unfold has at h3 ⊢
        rw [lk_app]
        have h4 : lk m d = none := by simpa using h3
        rw [h4]
        show (lk [(c, x)] d).isSome = false
        unfold lk
        rw [if_neg (fun e => h1 (by rw [show c = d from e]; exact hd))]
        rfl
theorem cnt_nodup (n : Nat) : (cnt n).Nodup := (cnt_ltK n).imp fun h => ltK_ne h
theorem entOf_eq (rl : Al Str) (n : Nat) : entOf rl n = entF rl (cnt n) := by
  unfold entOf
  rw [ent_foldF rl _ [] (cnt_nodup n) fun c _ => rfl, List.nil_append]
theorem entF_congr {rl rl' : Al Str} (h : ∀ c, lk rl c = lk rl' c) (L : List (Int × Int)) : entF rl L = entF rl' L := by
  unfold entF
  congr 1
  funext c
  rw [h]
/-! sizes, what stands not in a line -/
/-- entries of a table's text -/
def EnOk (E : Al Str) : Prop := E.length ≤ 500 ∧ ∀ e ∈ E, 0 ≤ e.1.1 ∧ 0 ≤ e.1.2 ∧ e.1.1 + e.1.2 ≤ 30 ∧ Wd e.2
/-! promises -/
def ph_is_word : Ph := fun ds q _ => ∃ x : Str, ds = [.str x] ∧ Wd x ∧ q (.bl true)
def TwOk (T : Tb) : Prop := T.looks ≠ [] ∧ T.lim ≤ 30 ∧ T.looks.length ≤ 30 ∧ (∀ z ∈ T.looks, 0 ≤ z ∧ z ≤ 30) ∧ EnOk T.ent ∧ (T.ent.map (·.1)).Nodup
def ph_write_table (C : Addr) : Ph := fun ds q _ => ∃ T : Tb, ds = [tabD C T] ∧ TwOk T ∧ q (.str (SX.S (textL T.lim T.looks T.ent)))
def ph_read_limit : Ph := fun ds q _ => ∃ lim : Nat, ds = [.str (SX.S (limL lim))] ∧ (1 ≤ lim ∧ lim ≤ 30) ∧ q (.int (lim : Nat))
/-- looks of a table -/
def LkOk (lim : Nat) (looks : List Int) : Prop := looks.length ≤ 30 ∧ lim ≤ 30 ∧ looks.Pairwise (· < ·) ∧ (∀ z ∈ looks, 1 ≤ z ∧ z ≤ 30) ∧ ∃ l', looks = l' ++ [(lim : Int)]
def ph_read_looks : Ph := fun ds q _ => ∃ (lim : Nat) (looks : List Int), ds = [.str (SX.S (lookL looks)), .int (lim : Nat)] ∧ LkOk lim looks ∧ q (.lst (looks.map .int))
def ph_read_entry : Ph := fun ds q _ => ∃ (e : (Int × Int) × Str) (lim : Nat) (k : Int), ds = [.str (SX.S (entL e)), .int (lim : Nat), .int k] ∧ (0 ≤ e.1.1 ∧ 0 ≤ e.1.2 ∧ 1 ≤ e.1.1 + e.1.2 ∧ e.1.1 + e.1.2 ≤ lim ∧ lim ≤ 30 ∧ Wd e.2) ∧ q (.tup [.int (e.1.1 + e.1.2), .int e.1.1, .str e.2])
/-- a text's table -/
def RtOkN (lim : Nat) (looks : List Int) (E : Al Str) : Prop := Vr lim looks E ∧ E.length ≤ 500 ∧ E.Pairwise fun a b => ltK a.1 b.1
def ph_read_table (C : Addr) : Ph := fun ds q _ => ∃ (lim : Nat) (looks : List Int) (E : Al Str), ds = [.str (SX.S (textL lim looks E))] ∧ RtOkN lim looks E ∧ q (tabD C (mkT lim looks E))
def ph__law_lines : Ph := fun ds q _ => ∃ (lim : Nat) (looks : List Int) (rl : Al Str), ds = [ptD lim looks rl] ∧ Vr lim looks rl ∧ q (.lst ((linesL lim looks (entOf rl lim)).map fun l => .str (SX.S l)))
end VS
set_option Elab.async false
set_option linter.all false
set_option maxRecDepth 100000
set_option maxHeartbeats 2000000
/-! {k: v, l: u} with tuples as keys; a text repeated -/
namespace VS
open PySem PySem.Spec L2
def repT (x : Str) (n : Int) : Str := Txt.mul x n
section
variable {X : Cx} {R : Reg} {G : List Sl} {pos : Pos} {k : Kt}
end
end VS
set_option Elab.async false
set_option linter.all false
set_option maxRecDepth 100000
set_option maxHeartbeats 2000000
/-! plain: binomial sums, the plan with one look -/
namespace VS
open PySem PySem.Spec L2
/-- the chance of w wins out of n -/
def binT (p r : Int) (n w : Nat) : Int := (bin n w : Int) * p ^ w * r ^ (n - w)
/-- the mean of g over the wins -/
def binU (p r : Int) : Nat → (Nat → Int) → Int
  | 0, g => g 0
  | n + 1, g => p * binU p r n (fun w => g (w + 1)) + r * binU p r n g
/-- the rule of the plan, w from 0 to i - 1 -/
def planF (n : Nat) (f : Nat → Str) (i : Nat) : Al Str := (List.range i).map fun w : Nat => (((w : Int), (n : Int) - (w : Int)), f w)
end VS
set_option Elab.async false
set_option linter.all false
set_option maxRecDepth 100000
set_option maxHeartbeats 2000000
/-! plain: binomial sums as polynomials; the plan's table -/
namespace VS
open PySem PySem.Spec L2
/-- the counts with s to s + k - 1 wins -/
def rowC (n s k : Nat) : List (Int × Int) := (List.range k).map fun i : Nat => (((s + i : Nat) : Int), ((n - (s + i) : Nat) : Int))
/-- their chance as a polynomial -/
def rowB (n s k : Nat) : List Int := accP (fun c => (bin n c.1.toNat : Int)) (rowC n s k)
def plW (m : Nat) (up down : Str) (w : Nat) : Str := if m ≤ w then up else down
def plT (n m : Nat) (up down : Str) : Tb := mkT n [(n : Int)] (planF n (plW m up down) (n + 1))
abbrev upW (a d : Nat) : Str := SX.S (wordL kAt a d)
abbrev dnW (a d : Nat) : Str := SX.S (wordL kBe a d)
/-- a share strictly between 0 and 1 -/
def InS (a d : Nat) : Prop := 0 < a ∧ a < d ∧ d ≤ 20 ∧ Nat.gcd a d = 1
end VS
set_option Elab.async false
set_option linter.all false
set_option maxRecDepth 100000
/-! texts of tables: what the law makes -/
namespace VS
open PySem PySem.Spec L2
theorem lk_nd_iff {α : Type} {m : Al α} (hn : (m.map (·.1)).Nodup) {c : Int × Int} {x : α} : lk m c = some x ↔ (c, x) ∈ m := ⟨lk_memE, fun h => lk_nd hn h⟩
theorem lk_rev {α : Type} {m : Al α} (hn : (m.map (·.1)).Nodup) (c : Int × Int) : lk m.reverse c = lk m c := by
  have hn' : (m.reverse.map (·.1)).Nodup := by rw [List.map_reverse]; exact List.pairwise_reverse.mpr (hn.imp Ne.symm)
  cases h : lk m c with
  | some x => exact (lk_nd_iff hn').mpr (List.mem_reverse.mpr ((lk_nd_iff hn).mp h))
  | none =>
    cases h' : lk m.reverse c with
    | none => rfl
    | some y => rw [(lk_nd_iff hn).mpr (List.mem_reverse.mp ((lk_nd_iff hn').mp h'))] at h; cases h
def PtK (lim : Nat) (looks : List Int) (rl : Al Str) : Prop := Vr lim looks rl ∧ rl.length ≤ 500 ∧ (rl.map (·.1)).Nodup
theorem PtK.rev {lim : Nat} {looks : List Int} {rl : Al Str} (h : PtK lim looks rl) : PtK lim looks rl.reverse := by
  obtain ⟨⟨a1, a2, a3, a4, a5, a6, a7, a8, a9⟩, hl, hn⟩ := h
  refine ⟨⟨a1, a2, a3, a4, a5, a6, fun e he => a7 e (List.mem_reverse.mp he), fun e he => a8 e (List.mem_reverse.mp he), fun j hj => ?_⟩, by rw [List.length_reverse]; exact hl, by rw [List.map_reverse]; exact List.pairwise_reverse.mpr (hn.imp Ne.symm)⟩
  unfold has
  rw [lk_rev hn]
  exact a9 j hj
theorem PtK.of {lim : Nat} {looks : List Int} {rl : Al Str} (h : Vt lim looks rl) : PtK lim looks rl := by
  refine ⟨h.toVr, h.rlen, ?_⟩
  obtain ⟨ks, hks, ek⟩ := h.ord
  rw [ek]
  have e := cnt_nodup lim
  rw [cnt_cast] at e
  exact e.sublist (hks.map castP)
/-- a dict filled from another one's keys -/
theorem fill_put {m : Al Str} (hn : (m.map (·.1)).Nodup) {i : Nat} {e : (Int × Int) × Str} (he : m[i]? = some e) : put (m.take i) e.1 e.2 = m.take (i + 1) := by
  have h1 : m.take (i + 1) = m.take i ++ [e] := by rw [List.take_add_one, he]; rfl
  have hn2 : ((m.take (i + 1)).map (·.1)).Nodup := hn.sublist ((List.take_sublist _ _).map _)
  rw [h1] at hn2 ⊢
  rw [List.map_append, List.nodup_append] at hn2
  have hh : has (m.take i) e.1 = false := by
    unfold has
    cases z : lk (m.take i) e.1 with
    | none => rfl
    | some y => exact absurd rfl (hn2.2.2 e.1 (List.mem_map.mpr ⟨_, lk_memE z, rfl⟩) e.1 (List.mem_singleton.mpr rfl))
  unfold put
  rw [if_neg (by rw [hh]; decide)]
/-- the entries made here -/
def tabF (c0 : Int × Int) (x0 : Str) (lim : Nat) (f : Nat → Str) (i : Nat) : Al Str := (c0, x0) :: (List.range i).map fun w : Nat => (((w : Int), (lim : Int) - w), f w)
theorem mkT_congr {lim : Nat} {looks : List Int} {rl rl' : Al Str} (h : ∀ c, lk rl c = lk rl' c) : mkT lim looks rl = mkT lim looks rl' := by
  unfold mkT
  rw [entOf_eq, entOf_eq, entF_congr h]
end VS
set_option Elab.async false
set_option linter.all false
set_option maxRecDepth 100000
/-! a def that changes the list it is given: the list is the caller's own, its place is told within. -/
namespace VS
open PySem PySem.Spec L2
/-- d without its place -/
def looseD : Dt → Dt
  | .at_ _ d => d
  | d => d
theorem owo_loose {K : PySem.W.Frag} {F H : Hp} {o : Addr} {d : Dt} (h : OwO K F H o d) : OwO K F H o (looseD d) := by
  rcases h.kinds with ⟨xs, rfl⟩ | ⟨ks, xs, rfl⟩ | ⟨ks, xs, rfl⟩ | ⟨C, ns, xs, rfl⟩ | ⟨a, C, ns, xs, rfl⟩ | ⟨a, xs, rfl⟩ | ⟨a, ks, xs, rfl⟩
  · exact h
  · exact h
  · exact h
  · exact h
  · exact h.2
  · exact h.2
  · exact h.2
theorem slsOk_loose {K : PySem.W.Frag} {R : Reg} {F H : Hp} {G : List Sl} {σ : St} (h : SlsOk K R F H G σ) {i : Nat} {d : Dt} (hg : G[i]? = some (.ow d)) : SlsOk K R F H (G.set i (.ow (looseD d))) σ := by
  obtain ⟨v, hv, o, e, h1, h2, h3⟩ := h.get hg
  have := h.set i (g := .ow (looseD d)) (v := v) ⟨o, e, h1, h2, owo_loose h3⟩
  rwa [show σ.set i v = σ from by
    apply List.ext_getElem?
    intro j
    by_cases q : j = i
    · subst q
      have hl : j < σ.length := (List.getElem?_eq_some_iff.mp hv).1
      rw [List.getElem?_set_self hl, hv]
    · rw [List.getElem?_set_ne (Ne.symm q)]] at this
theorem owns_loose {G : List Sl} {σ : St} {i : Nat} {d d' : Dt} (hg : G[i]? = some (.ow d)) : owns (G.set i (.ow d')) σ = owns G σ := by
  induction G generalizing σ i with
  | nil => simp at hg
  | cons g G ih =>
    cases σ with
    | nil =>
      cases i with
      | zero => simp [owns]
      | succ j => simp [owns]
    | cons v vs =>
      cases i with
      | zero =>
        have e := Option.some.inj hg
        subst e
        show owns (.ow d' :: G) (v :: vs) = _
        cases v with
        | none => simp [owns]
        | some x => cases x <;> simp [owns]
      | succ j =>
        have q := ih (σ := vs) (i := j) (by simpa using hg)
        show owns (g :: G.set j (.ow d')) (v :: vs) = _
        cases g with
        | no => simpa [owns] using q
        | sh d => simpa [owns] using q
        | ow d =>
          cases v with
          | none => simpa [owns] using q
          | some x => cases x <;> simp [owns, q]
theorem Ty.loose {K : PySem.W.Frag} {R : Reg} {F H : Hp} {G : List Sl} {σ : St} (ty : Ty K R G σ F H) {i : Nat} {d : Dt} (hg : G[i]? = some (.ow d)) : Ty K R (G.set i (.ow (looseD d))) σ F H :=
  ⟨ty.wf, slsOk_loose ty.sl hg, by rw [owns_loose hg]; exact ty.nd⟩
section
variable {X : Cx} {R : Reg} {G : List Sl} {pos : Pos} {k : Kt}
theorem e_loose (i : Nat) {d : Dt} {e : Expr} {P : Dt → Prop} (hg : G[i]? = some (.ow d)) (h : E X R (G.set i (.ow (looseD d))) e P) : E X R G e P := fun σ F H Q ty c => h σ F H Q (ty.loose hg) c
theorem ew_loose (i : Nat) {d : Dt} {e : Expr} {P : Dt → Prop} (hg : G[i]? = some (.ow d)) (h : EW X R (G.set i (.ow (looseD d))) e P) : EW X R G e P := fun σ F H Q ty c => h σ F H Q (ty.loose hg) c
end
/-! ### the promise -/
/-- what may change: the list at a -/
def lstR (a : Addr) : Reg := ⟨fun x => x = a, fun _ => True, fun _ _ _ _ => trivial, fun _ _ => True, fun _ _ _ _ _ _ => trivial⟩
def spL (K : PySem.W.Frag) (n : Nat) (φ : Ph) : Sp := fun vs H Q _ => vs.length = n ∧ ∃ a xs ws us F ds q, vs = .ref a :: us ∧ Wf (lstR a) F H ∧ H a = some (.lst ws) ∧ RpL K F xs ws ∧ RpL K F ds us ∧ φ (.lst xs :: ds) q (fun _ _ _ => False) ∧
  ∀ F' H' xs' ws', Ext (lstR a) F H F' H' → H' a = some (.lst ws') → RpL K F' xs' ws' → q (.lst xs') → Q .non H'
/-- the slots of such a def at its start -/
def st0L (N : List Str) (a : Addr) (xs ds : List Dt) : List Sl := .ow (.at_ a (.lst xs)) :: (ds.map .sh ++ List.replicate (N.length - (ds.length + 1)) .no)
section
variable {P : Program} {w : World} {K : PySem.W.Frag} {mg : Str → Option Value} {base : Heap}
theorem owns_sh : ∀ (ds : List Dt) (n : Nat) (σ : St), owns (ds.map .sh ++ List.replicate n .no) σ = []
  | [], 0, σ => by simp [owns]
  | [], n + 1, σ => by
    cases σ with
    | nil => simp [owns, List.replicate_succ]
    | cons v σ => simpa [owns, List.replicate_succ] using owns_sh [] n σ
  | d :: ds, n, σ => by
    cases σ with
    | nil => simp [owns]
    | cons v σ => simpa [owns] using owns_sh ds n σ
end
section
variable {X : Cx} {R : Reg} {G : List Sl} {pos : Pos} {k : Kt}
end
end VS
set_option Elab.async false
set_option linter.all false
set_option maxRecDepth 100000
/-! a class made of one's own list and dict: they stay one's own. -/
namespace VS
open PySem PySem.Spec L2
/-- what is not told of: the things at a and b -/
def twoR (a b : Addr) : Reg := ⟨fun x => x = a ∨ x = b, fun _ => True, fun _ _ _ _ => trivial, fun _ _ => True, fun _ _ _ _ _ _ => trivial⟩
/-- the list at a, the dict at b -/
structure Two (K : PySem.W.Frag) (a b : Addr) (xs : List Dt) (ks : List (List Key)) (ys : List Dt) (F H : Hp) : Prop where
  l : ∃ ws, H a = some (.lst ws) ∧ RpL K F xs ws
  d : ∃ us, H b = some (.dT (ks.zip us)) ∧ ks.length = us.length ∧ RpL K F ys us
theorem Two.ne {K : PySem.W.Frag} {a b : Addr} {xs : List Dt} {ks : List (List Key)} {ys : List Dt} {F H : Hp} (t : Two K a b xs ks ys F H) : a ≠ b := fun e => by
  obtain ⟨ws, h1, _⟩ := t.l
  obtain ⟨us, h2, _⟩ := t.d
  rw [e, h2] at h1
  cases h1
/-- a class's promise: made of a value, one's own list and one's own dict -/
def spP (K : PySem.W.Frag) (φ : Ph) : Sp := fun vs H Q _ => vs.length = 3 ∧ ∃ v0 a b d0 xs ks ys F q, vs = [v0, .ref a, .ref b] ∧ Wf (twoR a b) F H ∧ Rp K F d0 v0 ∧ Two K a b xs ks ys F H ∧ φ [d0, .lst xs, .dT ks ys] q (fun _ _ _ => False) ∧
  ∀ v F' H' d, Ext (twoR a b) F H F' H' → Two K a b xs ks ys F' H' → Rp K F' d v → q d → Q v H'
def spIniP (K : PySem.W.Frag) (C : Addr) (φ : Ph) : Sp := fun vs H Q _ => vs.length = 4 ∧ ∃ x dx v0 a b d0 xs ks ys F0 H0 F q, vs = [.ref x, v0, .ref a, .ref b] ∧ Wf (twoR a b) F0 H0 ∧ Ext (twoR a b) F0 H0 F H ∧ H0 x = none ∧ F x = none ∧ H x = some (.ins C dx []) ∧ Rp K F d0 v0 ∧ Two K a b xs ks ys F H ∧ φ [d0, .lst xs, .dT ks ys] q (fun _ _ _ => False) ∧
  ∀ F' H' d, Ext (twoR a b) F0 H0 F' H' → Two K a b xs ks ys F' H' → Rp K F' d (.ref x) → q d → Q .non H'
def stP (N : List Str) (x C a b : Addr) (d0 : Dt) (xs : List Dt) (ks : List (List Key)) (ys : List Dt) : List Sl := .ow (.at_ x (.obj C [] [])) :: .sh d0 :: .ow (.at_ a (.lst xs)) :: .ow (.at_ b (.dT ks ys)) :: List.replicate (N.length - 4) .no
theorem Two.ext {K : PySem.W.Frag} {a b : Addr} {xs : List Dt} {ks : List (List Key)} {ys : List Dt} {F H F' H' : Hp} (t : Two K a b xs ks ys F H) (ff : Same F F') (ha : H' a = H a) (hb : H' b = H b) : Two K a b xs ks ys F' H' := by
  obtain ⟨ws, h1, r1⟩ := t.l
  obtain ⟨us, h2, l2, r2⟩ := t.d
  exact ⟨⟨ws, by rw [ha]; exact h1, r1.mono ff⟩, us, by rw [hb]; exact h2, l2, r2.mono ff⟩
section
variable {P : Program} {w : World} {K : PySem.W.Frag} {mg : Str → Option Value} {base : Heap}
theorem iniP_ok {x qual : Str} {st : Stmt} {f C : Addr} {fd : FuncData} {dvs : List V} {kws : List (Str × V)} {N ps : List Str} {k : Nat} {φ : Ph} (F : FD K x qual st dvs kws f fd) (Sc : FnScope N ps (defScope st)) (hn : 4 = ps.length)
    (h : ∀ (X : Cx) (cdv : Value) (A : Around) (outer : List Env) (s : Shared) (H : Hp) (E : XK) (o a b : Addr) (d0 : Dt) (xs : List Dt) (ks : List (List Key)) (ys : List Dt) (q : Dt → Prop), X = cxOf (L2N.CX P w) P w K mg base N qual (defScope st) f cdv A outer s H E → Room k X.A → φ [d0, .lst xs, .dT ks ys] q (fun _ _ _ => False) →
      S X .nil (defBody st) (stP N o C a b d0 xs ks ys) { nx := fun G => ∃ d, G[0]? = some (.ow (.at_ o d)) ∧ G[2]? = some (.ow (.at_ a (.lst xs))) ∧ G[3]? = some (.ow (.at_ b (.dT ks ys))) ∧ q d, rt := fun _ => False }) : FnOk P w K mg base (L2N.CX P w) (k + 1) f fd ps (spIniP K C φ) := by
  refine FunD.ok F Sc (fun vs H Q E hh => by rw [hh.1, hn]) fun cdv A outer s H vs Q E hr hh => ?_
  obtain ⟨hl, o, dx, v0, a, b, d0, xs, ks, ys, F0, H0, F, q, e, wf0, ex, h0, fo, ho, r0, two, hφ, hq⟩ := hh
  subst e
  have hab := two.ne
  obtain ⟨ws, la, lr⟩ := two.l
  obtain ⟨us, da, dl, dr⟩ := two.d
  have oa : o ≠ a := fun z => by rw [z] at ho; rw [la] at ho; cases ho
  have ob : o ≠ b := fun z => by rw [z] at ho; rw [da] at ho; cases ho
  have fa : F a = none := ex.wf.off a (.inl rfl)
  have fb : F b = none := ex.wf.off b (.inr rfl)
  have hS := h _ cdv A outer s H E o a b d0 xs ks ys q rfl hr hφ
  -- the entry without the two things
  have hd2 : ∀ z, z ≠ a → z ≠ b → del (del H0 a) b z = H0 z := fun z h1 h2 => by unfold del; rw [if_neg h2, if_neg h1]
  have hda : del (del H0 a) b a = none := by
    unfold del
    by_cases q : a = b
    · rw [if_pos q]
    · rw [if_neg q, if_pos rfl]
  have hdb : del (del H0 a) b b = none := by unfold del; rw [if_pos rfl]
  have hd3 : ∀ z u, del (del H0 a) b z = some u → z ≠ a ∧ z ≠ b ∧ H0 z = some u := fun z u hz => by
    have n1 : z ≠ a := fun q => by rw [q, hda] at hz; cases hz
    have n2 : z ≠ b := fun q => by rw [q, hdb] at hz; cases hz
    exact ⟨n1, n2, by rw [← hd2 z n1 n2]; exact hz⟩
  have wn : Wf .nil F H := wf_nil ex.wf.fh
  have bs0 : ∀ (G : List Sl) (σ : St), (∀ p ∈ owns G σ, del (del H0 a) b p = none) → Bs .nil F0 (del (del H0 a) b) G σ F H := fun G σ hf => by
    refine ⟨⟨wn, ex.ff, fun z u _ hz => ?_, fun z hz n => ?_⟩, hf, trivial⟩
    · obtain ⟨n1, n2, h1⟩ := hd3 z u hz
      exact ex.hh z u (fun q => by rcases q with q | q; exact n1 q; exact n2 q) h1
    · obtain ⟨u, h1, h2⟩ := hz
      obtain ⟨n1, n2, h3⟩ := hd3 z u h1
      exact ex.fr z ⟨u, h3, h2⟩ n
  refine ⟨_, pss_w, hS F0 (del (del H0 a) b) _ F H _ ⟨wn, ?_, ?_⟩ (bs0 _ _ fun p hp => ?_) ⟨fun G σ F1 H1 ⟨d, g0, g2, g3, hqd⟩ ty b1 => ?_, fun _ _ _ _ z => z.elim, fun _ _ _ _ z => z.elim, fun _ _ _ _ z => z.elim, fun _ _ _ _ z => z.elim⟩⟩
  · unfold stP L2.start
    refine SlsOk.cons ⟨o, rfl, fo, fun z => z.elim, rfl, dx, [], ho, rfl, .nil⟩ (SlsOk.cons ⟨v0, rfl, r0⟩ (SlsOk.cons ⟨a, rfl, fa, fun z => z.elim, rfl, ws, la, lr⟩ (SlsOk.cons ⟨b, rfl, fb, fun z => z.elim, rfl, us, da, dl, dr⟩ ?_)))
    exact sls0 (ds := []) (vs := []) _ .nil
  · unfold stP L2.start
    show (owns (_ :: _ :: _ :: _ :: _) (some (.ref o) :: some v0 :: some (.ref a) :: some (.ref b) :: _)).Nodup
    have e0 := owns_sh [] (N.length - 4)
    simp only [List.map_nil, List.nil_append] at e0
    simp only [owns, e0]
    simp [oa, ob, hab]
  · unfold stP L2.start at hp
    have hp' : p ∈ owns (.ow (.at_ o (.obj C [] [])) :: .sh d0 :: .ow (.at_ a (.lst xs)) :: .ow (.at_ b (.dT ks ys)) :: List.replicate (N.length - 4) .no) (some (.ref o) :: some v0 :: some (.ref a) :: some (.ref b) :: ([].map some ++ List.replicate (N.length - 4) none)) := hp
    have e0 := owns_sh [] (N.length - 4)
    simp only [List.map_nil, List.nil_append] at e0
    simp only [owns, e0, List.mem_cons, List.not_mem_nil, or_false] at hp'
    rcases hp' with rfl | rfl | rfl
    · rw [hd2 p oa ob]; exact h0
    · exact hda
    · exact hdb
  · obtain ⟨o', so, fo1, nM, ow⟩ := ty.own g0
    have eo : o' = o := by rcases ow.kinds with ⟨_, z⟩ | ⟨_, _, z⟩ | ⟨_, _, z⟩ | ⟨_, _, _, z⟩ | ⟨_, _, _, _, z⟩ | ⟨_, _, z⟩ | ⟨_, _, _, z⟩ <;> cases z <;> exact ow.1
    subst eo
    obtain ⟨a', sa, fa1, nMa, ea, ws', ha1, lr1⟩ := ty.own g2
    have ea' : a' = a := ea
    subst ea'
    obtain ⟨b', sb, fb1, nMb, eb, us', hb1, dl1, dr1⟩ := ty.own g3
    have eb' : b' = b := eb
    subst eb'
    obtain ⟨u, hu, hku⟩ := ow.kd
    -- the object becomes known
    have ff2 : Same F1 (upd F1 o' u) := same_upd1 fo1
    have two' : Two K a' b' xs ks ys (upd F1 o' u) H1 := ⟨⟨ws', ha1, lr1.mono ff2⟩, us', hb1, dl1, dr1.mono ff2⟩
    have rp : Rp K (upd F1 o' u) (.at_ o' d) (.ref o') := owo_rp ow ff2 (by rw [upd_same, hu])
    simp only [Rp] at rp
    refine hq (upd F1 o' u) H1 d ⟨⟨fun z w hz => ?_, fun z m => ?_, fun z m => ?_, trivial⟩, b1.ext.ff.trans ff2, fun z w nm hz => ?_, fun z hz n => ?_⟩ two' rp.2 hqd
    · by_cases e : z = o'
      · subst e; rw [upd_same] at hz; rw [hu]; exact hz
      · rw [upd_ne e] at hz; exact ty.wf.fh z w hz
    · rcases m with rfl | rfl
      · rw [upd_ne (Ne.symm oa)]; exact fa1
      · rw [upd_ne (Ne.symm ob)]; exact fb1
    · rcases m with rfl | rfl
      · exact ⟨_, ha1, fun _ z => nomatch z⟩
      · exact ⟨_, hb1, fun _ z => nomatch z⟩
    · have n1 : z ≠ a' := fun e => nm (.inl e)
      have n2 : z ≠ b' := fun e => nm (.inr e)
      exact b1.ext.hh z w (fun z => z) (by rw [hd2 z n1 n2]; exact hz)
    · by_cases e : z = o'
      · obtain ⟨w, h1, _⟩ := hz
        rw [e, h0] at h1
        cases h1
      · rw [upd_ne e]
        by_cases e1 : z = a'
        · rw [e1]; exact fa1
        · by_cases e2 : z = b'
          · rw [e2]; exact fb1
          · exact b1.ext.fr z (by unfold NT at hz ⊢; rw [hd2 z e1 e2]; exact hz) n
/-- from an __init__'s promise to the class's -/
theorem mk_spP {C fI : Addr} {k : Nat} {φ : Ph} (M : Mk K C fI) (F : FnR P w K mg base (L2N.CX P w) k fI (spIniP K C φ)) : FnR P w K mg base (L2N.CX P w) (k + 1) C (spP K φ) := by
  refine (mk_fnR M F cxUpn).imp fun vs H Q E hs x dx hx hdx ne => ?_
  obtain ⟨hl, v0, a, b, d0, xs, ks, ys, F0, q, e, wf, r0, two, hφ, hq⟩ := hs
  subst e
  have ex1 := wf.own (o := .own x) hdx
  have hx' : (upd H dx (.own x)) x = none := by rw [upd_ne (Ne.symm ne)]; exact hx
  have ex2 := ex1.wf.own (o := .ins C dx []) hx'
  have ha : H a ≠ none := by obtain ⟨ws, h, _⟩ := two.l; rw [h]; exact fun z => nomatch z
  have hb : H b ≠ none := by obtain ⟨ws, h, _⟩ := two.d; rw [h]; exact fun z => nomatch z
  have key : ∀ z, H z ≠ none → (upd (upd H dx (.own x)) x (.ins C dx [])) z = H z := fun z hz => by
    rw [upd_ne (fun e => hz (by rw [e]; exact hx)), upd_ne (fun e => hz (by rw [e]; exact hdx))]
  exact ⟨rfl, x, dx, v0, a, b, d0, xs, ks, ys, F0, H, F0, q, rfl, wf, ex1.trans ex2, hx, wf.fh.free hx, upd_same, r0, two.ext (.refl _) (key a ha) (key b hb), hφ, fun F' H' d ex t rd qd => ⟨rfl, hq _ F' H' d ex t rd qd⟩⟩
/-- a class called so -/
structure FnCP (P : Program) (w : World) (K : PySem.W.Frag) (mg : Str → Option Value) (base : Heap) (k : Nat) (x : Str) (φ : Ph) : Prop where
  ex : ∃ f : Addr, mg x = some (.ref f) ∧ PySem.W.keepIn K (.ref f) = true ∧ FnR P w K mg base (L2N.CX P w) k f (spP K φ)
theorem FnCP.mono {x : Str} {φ : Ph} {j k : Nat} (F : FnCP P w K mg base j x φ) (h : j ≤ k) : FnCP P w K mg base k x φ := by
  obtain ⟨f, a, b, c⟩ := F.ex
  exact ⟨f, a, b, c.mono h⟩
end
section
variable {X : Cx} {R : Reg} {G : List Sl} {pos : Pos} {k : Kt}
/-- name = C(e, xs, d), xs and d one's own: they stay so -/
theorem s_newP (i j m : Nat) {x y z n : Str} {φ : Ph} {jj : Nat} {e : Expr} {p p1 p2 pn : Pos} {xs : List Dt} {ks : List (List Key)} {ys : List Dt} (F : FnCP X.prog X.w X.K X.mg X.base jj x φ) (hr : Room jj X.A) (hgl : Gl X x) (hgi : G[i]? = some (.ow (.lst xs))) (hgj : G[j]? = some (.ow (.dT ks ys)))
    (hNi : X.N[i]? = some y) (hNj : X.N[j]? = some z) (hvi : Vis X.env.scope y) (hvj : Vis X.env.scope z) (hND : X.N.Nodup) (hNm : X.N[m]? = some n) (hx : Loc X.env.scope n)
    (h : E X R G e fun d0 => φ [d0, .lst xs, .dT ks ys] (fun d => k.nx (G.set m (.sh d))) (fun _ _ _ => False)) (hmi : m ≠ i) (hmj : m ≠ j)
    (hd1 : (y == ("__debug__" : Str)) = false := by decide) (hcd1 : (y == ("__classdict__" : Str)) = false := by decide) (hd2 : (z == ("__debug__" : Str)) = false := by decide) (hcd2 : (z == ("__classdict__" : Str)) = false := by decide)
    (hdb : (x == ("__debug__" : Str)) = false := by decide) (he : starEach [e, .Name y p1, .Name z p2] X.env = (false, eval e X.env) :: starEach [.Name y p1, .Name z p2] X.env := by rfl)
    (he2 : starEach [.Name y p1, .Name z p2] X.env = (false, eval (.Name y p1) X.env) :: starEach [.Name z p2] X.env := by rfl) (he3 : starEach [.Name z p2] X.env = (false, eval (.Name z p2) X.env) :: starEach [] X.env := by rfl)
    (hpl : (backTo pos (starEach [.Name y p1, .Name z p2] X.env)).any (·.1) = false := by rfl) {pos' : Pos}
    (hs : swapsWith (.Call (.Name x p) [e, .Name y p1, .Name z p2] [] pos) (some (.Name n pn)) pos'.line X.env = pure false := by rfl) (hf : X.fn n = true ∨ X.env.scope.names.lookup n = some .local := by first | exact .inl rfl | exact .inr rfl | assumption) :
    S1 X R (.Assign [.Name n pn] (.Call (.Name x p) [e, .Name y p1, .Name z p2] [] pos) pos') G k := fun F0 H0 σ F' H D ty b c => by
  obtain ⟨f, a1, a2, a3⟩ := F.ex
  refine s1Of.of (ps_set hND hNm hx (pe_callR a3 hr hgl a1 a2 passLn (pa_cons pe_w (pa_cons (pe_var hNi hvi hd1 hcd1) (pa_cons (pe_var hNj hvj hd2 hcd2) pa_nil he3) he2) he) hdb he hpl) hs hf) ?_
  refine h σ F' H _ ty fun v0 F1 H1 d0 ex r0 hφ => ?_
  have ty1 := ty.ext ex
  obtain ⟨o1, so1, fo1, nM1, vs, ho1, rl1⟩ := ty1.own hgi
  obtain ⟨o2, so2, fo2, nM2, us, ho2, dl2, dr2⟩ := ty1.own hgj
  refine ⟨.ref o1, so1, .ref o2, so2, ?_⟩
  have two : Two X.K o1 o2 xs ks ys F1 H1 := ⟨⟨vs, ho1, rl1⟩, us, ho2, dl2, dr2⟩
  have hne := two.ne
  refine ⟨rfl, v0, o1, o2, d0, xs, ks, ys, F1, _, rfl, ⟨ex.wf.fh, fun x m => ?_, fun x m => ?_, trivial⟩, r0, two, hφ, fun v F2 H2 d ex2 t2 rd hk => ?_⟩
  · rcases m with rfl | rfl
    · exact fo1
    · exact fo2
  · rcases m with rfl | rfl
    · exact ⟨_, ho1, fun _ z => nomatch z⟩
    · exact ⟨_, ho2, fun _ z => nomatch z⟩
  obtain ⟨ws', l1, l2⟩ := t2.l
  obtain ⟨us', d1, d2, d3⟩ := t2.d
  have hn1 : NT (H1 o1) := ⟨_, ho1, fun _ z => nomatch z⟩
  have hn2 : NT (H1 o2) := ⟨_, ho2, fun _ z => nomatch z⟩
  have g1 : F2 o1 = none := ex2.fr o1 hn1 fo1
  have g2 : F2 o2 = none := ex2.fr o2 hn2 fo2
  have ne : ∀ x, R.M x → x ≠ o1 ∧ x ≠ o2 := fun x m => ⟨fun z => nM1 (z ▸ m), fun z => nM2 (z ▸ m)⟩
  -- as if both had stayed
  obtain ⟨Hs, hHs⟩ : ∃ Hs, Hs = upd (upd H2 o1 (.lst vs)) o2 (.dT (ks.zip us)) := ⟨_, rfl⟩
  have hs1 : Hs o1 = some (.lst vs) := by rw [hHs, upd_ne hne, upd_same]
  have hs2 : Hs o2 = some (.dT (ks.zip us)) := by rw [hHs, upd_same]
  have hs3 : ∀ x, x ≠ o1 → x ≠ o2 → Hs x = H2 x := fun x q1 q2 => by rw [hHs, upd_ne q2, upd_ne q1]
  have wf2 : Wf R F2 Hs := by
    refine ⟨fun x u z => ?_, fun x m => ex2.fr x (ty1.wf.oc x m) (ty1.wf.off x m), fun x m => ?_, R.st H1 _ (fun x u m z => ?_) ty1.wf.b⟩
    · rw [hs3 x (fun q => by rw [q, g1] at z; cases z) (fun q => by rw [q, g2] at z; cases z)]
      exact ex2.wf.fh x u z
    · obtain ⟨u, h1, h2⟩ := ty1.wf.oc x m
      exact ⟨u, by rw [hs3 x (ne x m).1 (ne x m).2]; exact ex2.hh x u (fun q => by rcases q with q | q; exact (ne x m).1 q; exact (ne x m).2 q) h1, h2⟩
    · rw [hs3 x (ne x m).1 (ne x m).2]
      exact ex2.hh x u (fun q => by rcases q with q | q; exact (ne x m).1 q; exact (ne x m).2 q) z
  have e2 : Ext R F1 H1 F2 Hs := by
    refine ⟨wf2, ex2.ff, fun x u nm z => ?_, ex2.fr⟩
    by_cases q1 : x = o1
    · subst q1; rw [hs1, ← ho1]; exact z
    · by_cases q2 : x = o2
      · subst q2; rw [hs2, ← ho2]; exact z
      · rw [hs3 x q1 q2]; exact ex2.hh x u (fun q => by rcases q with q | q; exact q1 q; exact q2 q) z
  have hij : i ≠ j := fun e => by subst e; rw [hgi] at hgj; cases hgj
  have tyA := ((ty1.ext e2).mut (d' := .lst xs) (u := .lst ws') hgi so1 ⟨_, upd_same, l2⟩)
  have bA := ((b.step ex).step e2).mut tyA hgi so1
  have eG1 : G.set i (.ow (.lst xs)) = G := by
    apply List.ext_getElem?
    intro q
    by_cases z : q = i
    · subst z; rw [List.getElem?_set_self (List.getElem?_eq_some_iff.mp hgi).1, hgi]
    · rw [List.getElem?_set_ne (Ne.symm z)]
  rw [eG1] at tyA bA
  have tyB := tyA.mut (d' := .dT ks ys) (u := .dT (ks.zip us')) hgj so2 ⟨us', upd_same, d2, d3⟩
  have bB := bA.mut tyB hgj so2
  have eG2 : G.set j (.ow (.dT ks ys)) = G := by
    apply List.ext_getElem?
    intro q
    by_cases z : q = j
    · subst z; rw [List.getElem?_set_self (List.getElem?_eq_some_iff.mp hgj).1, hgj]
    · rw [List.getElem?_set_ne (Ne.symm z)]
  rw [eG2] at tyB bB
  have hH : upd (upd Hs o1 (.lst ws')) o2 (.dT (ks.zip us')) = H2 := by
    funext x
    by_cases q2 : x = o2
    · subst q2; rw [upd_same, d1]
    · rw [upd_ne q2]
      by_cases q1 : x = o1
      · subst q1; rw [upd_same, l1]
      · rw [upd_ne q1, hs3 x q1 q2]
  rw [hH] at tyB bB
  exact c.nx _ _ F2 H2 hk (tyB.set m rd) (bB.set m)
end
end VS
set_option Elab.async false
set_option linter.all false
set_option maxRecDepth 100000
/-! a list or a tuple -/
namespace VS
open PySem PySem.Spec L2
def LorT (ld : Dt) (l : List Dt) : Prop := ld = .lst l ∨ ld = .tup l
section
variable {X : Cx} {R : Reg} {ld : Dt} {l : List Dt} {P : Dt → Prop}
theorem wc_len_ld (h : LorT ld l) (p : P (.int (l.length : Int))) : WC X R (.builtin "len") [ld] P := by
  rcases h with rfl | rfl
  · exact wc_len_lst p
  · exact wc_len_tup p
theorem wi_ld {i : Int} {d : Dt} (h : LorT ld l) (hi : atI l i = some d) (p : P d) : WI X R ld (.int i) P := by
  rcases h with rfl | rfl
  · exact wi_lst hi p
  · exact wi_tup hi p
theorem wc_tuple_ld (h : LorT ld l) (p : P (.tup l)) : WC X R (.type "tuple") [ld] P := by
  rcases h with rfl | rfl
  · exact wc_tuple_lst p
  · exact wc_tuple_tup p
end
/-! promises of Table over a list or a tuple of looks -/
def ph_check_tableL : Ph := fun ds q _ => ∃ lim looks rl ld, ds = [.int (lim : Nat), ld, dA .str rl] ∧ (Vr lim looks rl ∧ LorT ld (looks.map .int)) ∧ q .non
theorem u_check_tableL {lim : Nat} {looks : List Int} {rl : Al Str} {ld : Dt} {q : Dt → Prop} {x : XD} (h : Vr lim looks rl ∧ LorT ld (looks.map .int)) (p : q .non) : ph_check_tableL [.int (lim : Nat), ld, dA .str rl] q x := ⟨_, _, _, _, rfl, h, p⟩
def ph_Table___init__L (C : Addr) : Ph := fun ds q _ => ∃ lim looks rl ld, ds = [.int (lim : Nat), ld, dA .str rl] ∧ (Vr lim looks rl ∧ LorT ld (looks.map .int)) ∧ q (tabD C (mkT lim looks rl))
theorem u_Table___init__L {C : Addr} {lim : Nat} {looks : List Int} {rl : Al Str} {q : Dt → Prop} {x : XD} (h : Vr lim looks rl) (p : q (tabD C (mkT lim looks rl))) : ph_Table___init__L C [.int (lim : Nat), .lst (looks.map .int), dA .str rl] q x := ⟨_, _, _, _, rfl, ⟨h, .inl rfl⟩, p⟩
theorem u_Table___init__T {C : Addr} {lim : Nat} {looks : List Int} {rl : Al Str} {q : Dt → Prop} {x : XD} (h : Vr lim looks rl) (p : q (tabD C (mkT lim looks rl))) : ph_Table___init__L C [.int (lim : Nat), .tup (looks.map .int), dA .str rl] q x := ⟨_, _, _, _, rfl, ⟨h, .inr rfl⟩, p⟩
end VS
set_option Elab.async false
set_option linter.all false
set_option maxRecDepth 100000
set_option maxHeartbeats 2000000
/-! list(d.items()), d a dict with tuple keys -/
namespace VI
open PySem PySem.Spec PyProof.Rows L2
/-- the entries as tuples -/
def ItAt (H : Hp) : List (List Key × V) → List V → Prop := Paired fun p x => ∃ a k, x = .ref a ∧ H a = some (.tup [.ref k, p.2]) ∧ H k = some (.tup (p.1.map kV))
/-- new tuples, nothing else -/
structure Tups (H H2 : Hp) : Prop where
  same : ∀ a u, H a = some u → H2 a = some u
  new : ∀ a, H a = none → H2 a = none ∨ ∃ xs, H2 a = some (.tup xs)
def tListItemsT (te : TE) : TE := fun σ H Q => te σ H fun x H1 => ∃ (d : Addr) (kvs : List (List Key × V)), x = .ref d ∧ Rd H1 d (.dT kvs) ∧ ∀ q xs H2, Tups H1 H2 → H1 q = none → H2 q = none → ItAt H2 kvs xs → Q (.ref q) (upd H2 q (.lst xs))
theorem lookup_zip {as : List Addr} {its : List HO} (hp : as.Pairwise (· < ·)) {j : Nat} {a : Addr} {u : HO} (h1 : as[j]? = some a) (h2 : its[j]? = some u) : (as.zip its).lookup a = some u := by
  induction as generalizing its j with
  | nil => simp at h1
  | cons b as ih =>
    cases its with
    | nil => simp at h2
    | cons v its =>
      rw [List.zip_cons_cons, List.lookup_cons]
      cases j with
      | zero =>
        cases h1
        cases h2
        simp
      | succ j =>
        have h1' : as[j]? = some a := by simpa using h1
        have hlt := (List.pairwise_cons.mp hp).1 a (List.mem_of_getElem? h1')
        rw [show (a == b) = false from by rw [beq_eq_false_iff_ne]; exact Ne.symm (Nat.ne_of_lt hlt)]
        exact ih (List.pairwise_cons.mp hp).2 h1' (by simpa using h2)
theorem lookup_out {as : List Addr} {its : List HO} {a : Addr} (h : a ∉ as) : (as.zip its).lookup a = none := by
  induction as generalizing its with
  | nil => rfl
  | cons b as ih =>
    cases its with
    | nil => rfl
    | cons v its =>
      rw [List.zip_cons_cons, List.lookup_cons, show (a == b) = false from by rw [beq_eq_false_iff_ne]; exact fun e => h (e ▸ List.mem_cons_self)]
      exact ih fun z => h (List.mem_cons_of_mem _ z)
theorem paired_at {α β : Type} {F : α → β → Prop} : ∀ {l : List α} {m : List β}, l.length = m.length → (∀ (j : Nat) (a : α) (b : β), l[j]? = some a → m[j]? = some b → F a b) → Paired F l m
  | [], [], _, _ => .nil
  | [], _ :: _, h, _ => by simp at h
  | _ :: _, [], h, _ => by simp at h
  | a :: l, b :: m, h, f => .cons (f 0 a b rfl rfl) (paired_at (by simpa using h) fun j x y h1 h2 => f (j + 1) x y (by simpa using h1) (by simpa using h2))
theorem lays {X : Cx} {pins : List (Addr × Obj)} {σ : L2.St} {H H' : Hp} {s : Shared} {h' : Heap} {t' : Nat} (I : Inv X pins σ H s) (k : ∀ b u, s.heap.get? b = some u → h'.get? b = some u) (same : ∀ b u, H b = some u → H' b = some u) (low : ∀ b, b < s.heap.objs.size → H' b = H b)
    (new : ∀ b u, H b = none → H' b = some u → ObjOk X.prog X.w H' h' b u) : Inv X pins σ H' { s with heap := h', toks := t' } := by
  have lt : ∀ b o, s.heap.get? b = some o → b < s.heap.objs.size := fun b o q => Heap.lt_size q
  refine I.un ⟨fun b o q _ _ _ => k b o q, fun b o q n _ _ => ⟨o.slots, k b o q⟩, fun b o q n _ => by rw [low b (lt b o q)]; exact n, fun b o q _ => ⟨o, k b o q⟩, fun b xs q => same b _ q, fun b o u q => same b _ q, fun b ps q => ⟨#[], by simpa using same b _ q⟩⟩ ?_
  intro b u e
  cases hb : H b with
  | none => exact new b u hb e
  | some u' =>
    have := same b u' hb
    rw [e] at this
    cases this
    exact (I.hok b u hb).stay (fun c v _ q => k c v q) (fun c q => same c _ q) fun c xs q => same c _ q
section
variable {X : Cx} {e : Expr} {te : TE} {p apos cpos pos : Pos}
theorem pe_listItemsT (hc : X.calm = true) (he : PE X e te) (hg : Gl X "list") (hm : X.mg "list" = none) (hv : bootBuiltins "list" = some (.type "list")) (hbase : attributeBase e "items" X.env (eval e X.env) = eval e X.env := by rfl) (hline : (apos.endLine == cpos.line) = true := by rfl)
    (hs : starEach [.Call (.Attribute e "items" apos) [] [] cpos] X.env = (false, eval (.Call (.Attribute e "items" apos) [] [] cpos) X.env) :: starEach [] X.env := by rfl) :
    PE X (.Call (.Name "list" p) [.Call (.Attribute e "items" apos) [] [] cpos] [] pos) (tListItemsT te) := by
  refine ⟨fun pins s σ H Q I hq => ?_⟩
  refine wpAny_Call_Name_kw (ld_blt I hg hm hv ?_)
  refine PyProof.Rows.callWith_type1 ?_ hs rfl
  rw [hs]
  show wpAny _ _ (spliced ((false, eval (.Call (.Attribute e "items" apos) [] [] cpos) X.env) :: backTo pos (starEach [] X.env))) _ _ s
  refine Calls.spliced_cons ?_
  refine wpAny_Call_method (T := "dict") (id := "dict.items") hbase rfl hline F.plainAttrs_dict F.slot_dict_items F.type_dict_items (thn (he.run pins s σ H _ I hq) fun u s1 ⟨x, H1, I1, rx, d, kvs, ex, hd, q⟩ => ?_)
  subst ex
  obtain rfl : u = Value.ref d := rx
  obtain ⟨z, hs0, ks, pr, o, es, ep, ho, hx, hdt, hen, hn⟩ := (show ObjOk X.prog X.w H1 s1.heap d (.dT kvs) from hd.ok I1.hok)
  have l1 : es.size = ks.length := size_of_entries hen
  have l2 : kvs.length = ks.length := Paired.length pr
  have raw : s1.heap.DictRaw d es ep := ⟨o, ho, hx, hdt⟩
  refine ⟨raw.typeIs, fun a e => by cases e; exact ⟨o, ho, hx.2.1⟩, ?_⟩
  have I2 : Inv X pins σ H1 { s1 with heap := s1.heap.push { cls := .type "dict_items", data := .fields #[.ref d] } } := I1.kept (t' := s1.toks) fun b ob q => Heap.get?_push_of_some _ q
  show wpAny _ _ (callWith cpos (.builtin "dict.items") [.ref d] [] []) _ X.xe s1
  refine method_meetsIn F.slot_dict_items F.entry_dict_items rfl (PySem.evalArgs_none ⟨rfl, raw.typeIs, F.args_dict_items_1 _, _, meets_dict_items_raw d hs0, ⟨es, ep, raw⟩, ?_⟩)
  refine Calls.spliced_nil ?_
  refine PySem.W.dil_call (es := es) (ep := ep) (d := d) (I1.ok.hd hc) ⟨_, Heap.get?_push_size _ rfl, rfl, rfl⟩ (raw.push _) (by omega) fun h' tk acc c as kp hS hl hG hacc => ?_
  -- the pairs as they are told
  have lt : ∀ b ob, s1.heap.get? b = some ob → b < s1.heap.objs.size := fun b ob q => Heap.lt_size q
  obtain ⟨its, hits⟩ : ∃ its : List HO, its = List.zipWith (fun (p : List Key × V) (q : List Key × Addr × Value) => HO.tup [.ref q.2.1, p.2]) kvs ks := ⟨_, rfl⟩
  have hil : its.length = as.length := by rw [hits, List.length_zipWith]; omega
  have hat : ∀ (j : Nat) (a : Addr), as[j]? = some a → ∃ p q, kvs[j]? = some p ∧ ks[j]? = some q ∧ its[j]? = some (.tup [.ref q.2.1, p.2]) ∧ H1 q.2.1 = some (.tup (p.1.map kV)) ∧ RelV p.2 q.2.2 ∧ ∃ hj : j < es.size, es[j].key = .ref q.2.1 ∧ es[j].val = q.2.2 := fun j a ha => by
    have hj : j < as.length := (List.getElem?_eq_some_iff.mp ha).1
    have hk : j < kvs.length := by omega
    obtain ⟨b, hb, e1, e2, e3⟩ := paired_get pr (List.getElem?_eq_getElem hk)
    refine ⟨kvs[j], b, List.getElem?_eq_getElem hk, hb, by rw [hits, List.getElem?_zipWith, List.getElem?_eq_getElem hk, hb], e2, e3, by omega, ?_⟩
    have qe := entry_at hen j
    rw [hb, Array.getElem?_eq_getElem (by omega)] at qe
    have e4 := Option.some.inj qe
    rw [e4]
    exact ⟨rfl, rfl⟩
  have low : ∀ a ∈ as, (s1.heap.push { cls := .type "dict_items", data := .fields #[.ref d] }).objs.size < a := fun a ha => hG.above a ha
  have lowS : ∀ a ∈ as, s1.heap.objs.size ≤ a := fun a ha => by
    have := low a ha
    rw [Heap.size_push] at this
    omega
  obtain ⟨S, hSe⟩ : ∃ S, S = (s1.heap.push { cls := .type "dict_items", data := .fields #[.ref d] }).objs.size := ⟨_, rfl⟩
  have hSs : s1.heap.objs.size ≤ S := by rw [hSe, Heap.size_push]; omega
  have hSn : S ∉ as := fun z => Nat.lt_irrefl _ (hSe ▸ low S z)
  have fr : ∀ b, s1.heap.objs.size ≤ b → H1 b = none := fun b hb => I1.hok.fresh hb
  obtain ⟨H2, hH2⟩ : ∃ H2 : Hp, H2 = fun b => ((as.zip its).lookup b).or (H1 b) := ⟨_, rfl⟩
  have in2 : ∀ (j : Nat) (a : Addr) (u : HO), as[j]? = some a → its[j]? = some u → H2 a = some u := fun j a u h1 h2 => by rw [hH2]; show ((as.zip its).lookup a).or _ = _; rw [lookup_zip hG.rise h1 h2]; rfl
  have out2 : ∀ a, a ∉ as → H2 a = H1 a := fun a h => by rw [hH2]; show ((as.zip its).lookup a).or _ = _; rw [lookup_out h]; rfl
  have tp : Tups H1 H2 := by
    refine ⟨fun a u h => ?_, fun a h => ?_⟩
    · rw [out2 a fun z => by rw [fr a (lowS a z)] at h; cases h]; exact h
    · by_cases z : a ∈ as
      · obtain ⟨j, hj⟩ := List.mem_iff_getElem?.mp z
        obtain ⟨p, q, _, _, h3, _⟩ := hat j a hj
        exact .inr ⟨_, in2 j a _ hj h3⟩
      · exact .inl (by rw [out2 a z]; exact h)
  have S2 : H2 S = none := by rw [out2 S hSn]; exact fr S hSs
  have it : ItAt H2 kvs (as.map V.ref) := paired_at (by rw [List.length_map]; omega) fun j p x h1 h2 => by
    rw [List.getElem?_map] at h2
    cases ha : as[j]? with
    | none => rw [ha] at h2; cases h2
    | some a =>
      rw [ha] at h2
      cases h2
      obtain ⟨p', q, k1, k2, k3, k4, _⟩ := hat j a ha
      rw [h1] at k1
      cases k1
      exact ⟨a, _, rfl, in2 j a _ ha k3, tp.same _ _ k4⟩
  have hz : (as.map V.ref).length ≤ sizeLine := by rw [List.length_map]; omega
  have hm2 : ∀ b, b ≠ S → upd H2 S (.lst (as.map V.ref)) b = H2 b := fun b h => upd_ne h
  refine ⟨.ref S, upd H2 S (.lst (as.map V.ref)), ?_, by rw [hSe]; rfl, q S _ H2 tp (fr S hSs) S2 it⟩
  refine lays I2 (fun b u q => kp b u q) (fun b u h => ?_) (fun b h => ?_) fun b u h1 h2 => ?_
  · rw [hm2 b fun e => by rw [e, fr S hSs] at h; cases h]
    exact tp.same b u h
  · have hb : b ∉ as := fun z => Nat.lt_irrefl _ (Nat.lt_trans h (low b z))
    rw [hm2 b fun e => by rw [e, hSe] at h; exact Nat.lt_irrefl _ h, out2 b hb]
  · by_cases e : b = S
    · subst e
      rw [upd_same] at h2
      cases h2
      refine ⟨hz, acc.toList, c, ?_, by rw [Array.toArray_toList, hSe]; exact hS⟩
      rw [hacc]
      exact vals_of_at (by rw [List.length_map, List.length_map]) fun j x w h1 h2 => by
        rw [List.getElem?_map] at h1 h2
        cases ha : as[j]? with
        | none => rw [ha] at h1; cases h1
        | some a => rw [ha] at h1 h2; cases h1; cases h2; rfl
    · rw [hm2 b e] at h2
      have hb : b ∈ as := Classical.byContradiction fun z => by rw [out2 b z, h1] at h2; cases h2
      obtain ⟨j, hj⟩ := List.mem_iff_getElem?.mp hb
      obtain ⟨p, q, _, _, k3, _, k5, hje, k6, k7⟩ := hat j b hj
      rw [in2 j b _ hj k3] at h2
      cases h2
      obtain ⟨_, hg⟩ := hG.pairs j b hj
      rw [k6, k7] at hg
      exact ⟨by show 2 ≤ sizeLine; decide, [.ref q.2.1, q.2.2], .cons rfl (.cons k5 .nil), _, hg, rfl, _, rfl⟩
end
end VI
namespace VS
open PySem PySem.Spec L2
/-- the entries become known -/
theorem reveal_items {K : PySem.W.Frag} {R : Reg} {H : Hp} : ∀ {ks : List (List Key)} {ds : List Dt} {vs : List V} {xs : List V} {F : Hp}, ks.length = vs.length → RpL K F ds vs → Wf R F H → VI.ItAt H (ks.zip vs) xs → ∃ F', Ext R F H F' H ∧ RpL K F' (List.zipWith (fun q d => Dt.tup [.tup (q.map keyD), d]) ks ds) xs
  | [], ds, vs, xs, F, hl, r, w, k => by
    rw [List.zip_nil_left] at k
    cases k
    exact ⟨F, Ext.refl w, .nil⟩
  | q :: ks, ds, [], xs, F, hl, r, w, k => by simp at hl
  | q :: ks, ds, v :: vs, xs, F, hl, r, w, k => by
    rw [List.zip_cons_cons] at k
    cases ds with
    | nil => have := r.of_nil; cases this
    | cons d ds =>
      obtain ⟨v', t', e, r1, r2⟩ := r.of_cons
      cases e
      cases k with
      | @cons _ x _ xs' h t =>
        obtain ⟨a, kk, rfl, ha, hk⟩ := h
        obtain ⟨F1, e1, rr1⟩ := reveal_items (K := K) (by simpa using hl) r2 w t
        have e2 := e1.wf.reveal hk
        have e3 := e2.wf.reveal ha
        have e123 := (e1.trans e2).trans e3
        refine ⟨_, e123, .cons ?_ (rr1.mono (e2.ff.trans e3.ff))⟩
        refine rp_tup.mpr ⟨a, _, rfl, .inl (.inl upd_same), .cons ?_ (.cons (r1.mono e123.ff) .nil)⟩
        exact (rp_tup.mpr ⟨kk, _, rfl, .inl (.inl upd_same), rpL_keys q⟩ : Rp K _ (.tup (q.map keyD)) (.ref kk)).mono e3.ff
theorem Tups.ext {R : Reg} {F H H2 : Hp} (w : Wf R F H) (t : VI.Tups H H2) : Ext R F H F H2 := by
  refine ⟨⟨fun a u h => t.same a u (w.fh a u h), w.off, fun a m => ?_, R.st H _ (fun a u _ h => t.same a u h) w.b⟩, .refl _, fun a u _ h => t.same a u h, fun _ _ h => h⟩
  obtain ⟨u, h1, h2⟩ := w.oc a m
  exact ⟨u, t.same a u h1, h2⟩
section
variable {X : Cx} {R : Reg} {G : List Sl} {pos : Pos} {k : Kt}
/-- list(d.items()), one's own -/
theorem en_listItems {e : Expr} {p apos cpos : Pos} {P : List Dt → Prop} (hc : X.calm = true) (hg : Gl X "list") (hm : X.mg "list" = none) (h : E X R G e fun d => ∃ ks xs, d = .dT ks xs ∧ P (List.zipWith (fun q d => Dt.tup [.tup (q.map keyD), d]) ks xs))
    (hbase : attributeBase e "items" X.env (eval e X.env) = eval e X.env := by rfl) (hline : (apos.endLine == cpos.line) = true := by rfl)
    (hs : starEach [.Call (.Attribute e "items" apos) [] [] cpos] X.env = (false, eval (.Call (.Attribute e "items" apos) [] [] cpos) X.env) :: starEach [] X.env := by rfl) : EN X R G (.Call (.Name "list" p) [.Call (.Attribute e "items" apos) [] [] cpos] [] pos) P := fun σ F H Q ty c => by
  refine tOf.of (VI.pe_listItemsT hc pe_w hg hm b_list hbase hline hs) (h σ F H _ ty fun v F1 H1 d ex r h2 => ?_)
  obtain ⟨ks, xs, rfl, hp⟩ := h2
  obtain ⟨a, vs, rfl, hd, hl, rl⟩ := rp_dT.mp r
  refine ⟨a, ks.zip vs, rfl, rd_mono ex.wf.fh hd, fun q ys H2 tp hq hq2 hk => ?_⟩
  have e1 := Tups.ext ex.wf tp
  obtain ⟨F2, e2, r2⟩ := reveal_items (K := X.K) hl rl e1.wf hk
  have e12 := (ex.trans e1).trans e2
  have hq3 : F2 q = none := e2.wf.fh.free hq2
  exact c q F2 _ _ ys (e12.trans (e2.wf.own hq2)) (ex.free hq) (e2.wf.new hq2) upd_same hq3 r2 hp
/-- the same of counts -/
def itA {α : Type} (f : α → Dt) (m : Al α) : List Dt := m.map fun e => .tup [.tup [.int e.1.1, .int e.1.2], f e.2]
theorem itA_eq {α : Type} (f : α → Dt) : ∀ m : Al α, List.zipWith (fun q d => Dt.tup [.tup (q.map keyD), d]) (keysA m) (m.map fun e => f e.2) = itA f m
  | [] => rfl
  | e :: m => by
    show Dt.tup [.tup ((kk e.1).map keyD), f e.2] :: _ = _
    exact congrArg (List.cons _) (itA_eq f m)
theorem en_listItemsA {e : Expr} {p apos cpos : Pos} {P : List Dt → Prop} (hc : X.calm = true) (hg : Gl X "list") (hm : X.mg "list" = none) (h : E X R G e fun d => ∃ (α : Type) (f : α → Dt) (m : Al α), d = dA f m ∧ P (itA f m))
    (hbase : attributeBase e "items" X.env (eval e X.env) = eval e X.env := by rfl) (hline : (apos.endLine == cpos.line) = true := by rfl)
    (hs : starEach [.Call (.Attribute e "items" apos) [] [] cpos] X.env = (false, eval (.Call (.Attribute e "items" apos) [] [] cpos) X.env) :: starEach [] X.env := by rfl) : EN X R G (.Call (.Name "list" p) [.Call (.Attribute e "items" apos) [] [] cpos] [] pos) P :=
  en_listItems hc hg hm (fun σ F H Q ty c => h σ F H Q ty fun v F' H' d ex r ⟨α, f, m, e, p⟩ => c v F' H' d ex r ⟨_, _, e, by rw [itA_eq]; exact p⟩) hbase hline hs
end
theorem itA_ok {m : Al Str} (h : ∀ e ∈ m, PyData.strOk e.2 = true) : okD (.lst (itA .str m)) = true := by
  show List.all (itA .str m) (okN 11) = true
  rw [List.all_eq_true]
  intro d hd
  obtain ⟨e, he, rfl⟩ := List.mem_map.mp hd
  show List.all _ (okN 10) = true
  simp only [List.all_cons, List.all_nil, okN, h e he, Bool.and_true]
end VS
set_option Elab.async false
set_option linter.all false
set_option maxRecDepth 100000
set_option maxHeartbeats 2000000
/-! d.pop(k), d one's own with tuple keys, k there -/
namespace DT
open PySem PySem.Spec PyProof.Rows
/-- the one-argument pop of a key that is there -/
theorem pop_there {K : Type} [DecidableEq K] {prog : Program} {w : World} {knd : HeapKind prog w K} {a c : Addr} {q : K} (hs : (a == sysModules) = false) :
    MeetsIn prog w (Builtin.«dict.pop» ⟨[.ref a, .ref c], []⟩) (fun A R s => ∃ l e, knd.room A.in1 ∧ knd.is s.heap q c ∧ s.heap.DictOfH knd a l ∧ l.length ≤ sizeLine ∧ atKey l q = some e ∧
      ∀ g t, g.DictOfH knd a (dropH l q) → Heap.SameBut a s.heap g → R (.ok (.ret e.2)) { s with heap := g, toks := t }) := by
  refine .of_wp fun A R s ⟨l, e, room, isk, dd, sz, hit, fin⟩ => ?_
  obtain ⟨ob, ar, n, hob, hcls, hdt, hen, hks, hnd⟩ := id dd
  have empty : ar.isEmpty = false := by
    cases z : ar.isEmpty with
    | false => rfl
    | true =>
      have : l = [] := List.length_eq_zero_iff.mp (by have a1 : ar.size = 0 := by simpa using z
                                                      have a2 := size_of_entries hen
                                                      omega)
      rw [this] at hit
      cases hit
  unfold Builtin.«dict.pop»
  refine wpAny_bind ?_; unfold Builtin.Dict.keyAndDefault; refine wpAny_bind (wpAny_notOrdered_dict dd.typeIs ?_)
  show wpAny _ _ (pure (a, Value.ref c, none)) _ _ s; refine wpAny_pure ?_
  simp only [show (keyPart (Value.ref c)).isSome = false from rfl, Bool.false_eq_true, if_false]
  refine wpAny_bind (wpAny_dictEntries hob hdt (wpAny_bind (wpAny_pure (by
    simp only [empty, Bool.false_eq_true, if_false]
    exact wpAny_bind (takeH room isk dd sz (fun none_ => by rw [none_] at hit; cases hit) fun e' de he hv g dg sb => by
      rw [hit] at he
      cases he
      simp only [Option.isNone_some, if_false, Bool.false_eq_true]
      exact wpAny_bind (wpAny_letGo (wpAny_pure ⟨de.val, rfl, by rw [hv]; exact fin g _ dg sb⟩)))))))
end DT
namespace L2.DX
open PySem PySem.Spec PyProof.Rows L2
def rPop1 : V → List V → Hp → VK → Prop := fun x xs H Q => ∃ (a : Addr) (kvs : List (List L2.Key × V)) (k : List L2.Key) (b : Addr) (v : V), x = .ref a ∧ xs = [.ref b] ∧ H a = some (.dT kvs) ∧ H b = some (.tup (k.map kV)) ∧ valV kvs k = some v ∧ Q v (upd H a (.dT (dropK kvs k)))
theorem mt_pop1 {X : Cx} (room : X.A.units + 1 < cLine) : MtR X "dict.pop" rPop1 := by
  intro pins s σ H x xs v us Q I rx rxs ⟨a, kvs, k, b, y, e1, e2, ha, hb, hy, q⟩
  subst e1 e2
  cases rx
  cases rxs with
  | @cons _ u1 _ us1 r1 rn =>
  cases rn
  cases r1
  obtain ⟨z, hd, l, rel, dd⟩ := dt_of I.hok ha
  have rk := rel.val k
  rw [hy] at rk
  cases hp : atKey l k with
  | none => rw [hp] at rk; exact (show False from rk).elim
  | some e =>
    rw [hp] at rk
    refine call_meetsIn PySem.F.slot_dict_pop dd.typeIs PySem.F.entry_dict_pop (PySem.F.args_dict_pop_2 _ _) (DT.pop_there (knd := tupleKind (mixKind X.prog X.w)) (q := k) hd) ⟨l, e, tupleKind_room_in1 room, key_of I.hok hb, dd, by rw [← Paired.length rel]; exact z, hp, fun g t dg sb => ?_⟩
    obtain ⟨o, es, ep, q1, q2, q3, q4, _, q5⟩ := dg
    exact ⟨y, upd H a (.dT (dropK kvs k)), d_write (ob := .dT (dropK kvs k)) I (by rw [ha]; exact True.intro) sb ⟨o, q1⟩ ⟨Nat.le_trans (dropK_le kvs k) z, hd, _, (KT_drop k rel).keeps (fun c ys ec => (by rw [upd_ne (ne_of ec ha (fun z => nomatch z))]; exact ec)), o, es, ep, q1, q2, q3, q4, q5⟩, rk, q⟩
end L2.DX
namespace VS
open PySem PySem.Spec L2
/-- a dict of counts without one -/
def dropA {α : Type} (m : Al α) (p : Int × Int) : Al α := m.filter fun e => decide (e.1 ≠ p)
theorem drop_zip {α : Type} {K : PySem.W.Frag} {F : Hp} (f : α → Dt) (p : Int × Int) : ∀ (m : Al α) (vs : List V), RpL K F (m.map fun e => f e.2) vs → ∃ ws, dropK ((keysA m).zip vs) (kk p) = (keysA (dropA m p)).zip ws ∧ (keysA (dropA m p)).length = ws.length ∧ RpL K F ((dropA m p).map fun e => f e.2) ws
  | [], vs, r => by
    rw [show vs = [] from r.of_nil]
    exact ⟨[], rfl, rfl, .nil⟩
  | e :: m, vs, r => by
    obtain ⟨v, t, rfl, r1, r2⟩ := r.of_cons
    obtain ⟨ws, h1, h2, h3⟩ := drop_zip f p m t r2
    have ez : (keysA (e :: m)).zip (v :: t) = (kk e.1, v) :: (keysA m).zip t := rfl
    rw [ez]
    unfold dropK dropA
    by_cases q : e.1 = p
    · rw [List.filter_cons_of_neg (by rw [decide_eq_true_eq]; exact fun z => z (by rw [q])), List.filter_cons_of_neg (by rw [decide_eq_true_eq]; exact fun z => z q)]
      exact ⟨ws, h1, h2, h3⟩
    · rw [List.filter_cons_of_pos (by rw [decide_eq_true_eq]; exact fun z => q (kk_inj.mp z)), List.filter_cons_of_pos (by rw [decide_eq_true_eq]; exact q)]
      refine ⟨v :: ws, ?_, congrArg (· + 1) h2, .cons r1 h3⟩
      show (kk e.1, v) :: dropK ((keysA m).zip t) (kk p) = (kk e.1, v) :: (keysA (dropA m p)).zip ws
      rw [h1]
theorem val_zip {α : Type} {K : PySem.W.Frag} {F : Hp} {f : α → Dt} {p : Int × Int} {a : α} : ∀ {m : Al α} {vs : List V}, RpL K F (m.map fun e => f e.2) vs → lk m p = some a → ∃ v, L2.valV ((keysA m).zip vs) (kk p) = some v
  | [], vs, r, h => by cases h
  | e :: m, vs, r, h => by
    obtain ⟨v, t, rfl, r1, r2⟩ := r.of_cons
    have ez : (keysA (e :: m)).zip (v :: t) = (kk e.1, v) :: (keysA m).zip t := rfl
    rw [ez]
    unfold lk at h
    by_cases q : e.1 = p
    · exact ⟨v, L2.valV_pos (by rw [q])⟩
    · rw [if_neg q] at h
      obtain ⟨w, hw⟩ := val_zip r2 h
      exact ⟨w, by rw [L2.valV_neg fun z => q (kk_inj.mp z)]; exact hw⟩
section
variable {X : Cx} {R : Reg} {G : List Sl} {pos : Pos} {k : Kt}
/-- d.pop(e), d one's own -/
theorem s_popK (i : Nat) {x : Str} {e : Expr} {apos cpos p : Pos} {α : Type} {f : α → Dt} {m : Al α} (hu : X.A.units + 1 < cLine) (hg : G[i]? = some (.ow (dA f m))) (hN : X.N[i]? = some x) (hv : Vis X.env.scope x)
    (h : E X R G e fun d => ∃ q a, d = .key (kk q) ∧ lk m q = some a ∧ k.nx (G.set i (.ow (dA f (dropA m q)))))
    (hd : (x == ("__debug__" : Str)) = false := by decide) (hcd : (x == ("__classdict__" : Str)) = false := by decide)
    (hbase : attributeBase (.Name x p) "pop" X.env (eval (.Name x p) X.env) = eval (.Name x p) X.env := by rfl)
    (hfew : ((backTo cpos (starEach [e] X.env)).all (fun x => !x.1) && (backToKw cpos (keywordEach [] X.env)).all (fun x => x.1.isSome) && decide ([e].length + ([] : List Keyword).length + (if ([] : List Keyword).isEmpty then 0 else 1) < 30)) = true := by rfl)
    (hline : (apos.endLine == cpos.line) = true := by rfl) (hs : starEach [e] X.env = (false, eval e X.env) :: starEach [] X.env := by rfl) (hplain : (backTo cpos (starEach [] X.env)).any (·.1) = false := by rfl)
    (hsw : swapsWith (.Call (.Attribute (.Name x p) "pop" apos) [e] [] cpos) none pos.line X.env = pure false := by rfl) :
    S1 X R (.Expr (.Call (.Attribute (.Name x p) "pop" apos) [e] [] cpos) pos) G k := fun F0 H0 σ F H D ty b c => by
  obtain ⟨o, so, fo, nM, vs, ho, hl, rl⟩ := ty.own hg
  refine s1Of.of (ps_expr (pe_bm PySem.F.plainAttrs_dict PySem.F.slot_dict_pop PySem.F.type_dict_pop (DX.mt_pop1 hu) (pe_var hN hv hd hcd) (pa_cons pe_w pa_nil hs) hbase hfew hline hs hplain) hsw) ?_
  refine ⟨.ref o, so, .inr (.inr (.inl ⟨rfl, .inr ⟨_, ho⟩⟩)), h σ F H _ ty fun v F1 H1 d ex r ⟨q, a, e1, hq, p⟩ => ?_⟩
  subst e1
  obtain ⟨kb, rfl, hkb⟩ := rp_key.mp r
  have ho1 := ex.hh o _ nM ho
  have rl1 := rl.mono ex.ff
  obtain ⟨y, hy⟩ := val_zip (f := f) rl1 hq
  obtain ⟨ws, z1, z2, z3⟩ := drop_zip f q m vs rl1
  refine ⟨o, _, kk q, kb, y, rfl, rfl, ho1, ex.wf.fh _ _ hkb, hy, ?_⟩
  have ty1 := (ty.ext ex).mut (d' := dA f (dropA m q)) (u := .dT (dropK ((keysA m).zip vs) (kk q))) hg so ⟨ws, by rw [upd_same, z1], z2, z3⟩
  exact c.nx _ _ _ _ p ty1 ((b.step ex).mut ty1 hg so)
end
end VS
namespace VS
open PySem PySem.Spec L2
section
variable {X : Cx} {R : Reg}
end
theorem key_at {α : Type} {m : Al α} {v : Int} (h0 : 0 ≤ v) (h1 : v < ((keysA m).map Dt.key).length) : ∃ e ∈ m, atI ((keysA m).map Dt.key) v = some (.key (kk e.1)) := by
  obtain ⟨j, rfl⟩ : ∃ j : Nat, v = (j : Int) := ⟨v.toNat, by omega⟩
  rw [List.length_map, keysA_len] at h1
  have hj : j < m.length := by omega
  refine ⟨m[j], List.getElem_mem hj, atI_nat ?_⟩
  unfold keysA
  rw [List.getElem?_map, List.getElem?_map, List.getElem?_eq_getElem hj]
  rfl
end VS
set_option Elab.async false
set_option linter.all false
set_option maxRecDepth 100000
/-! plain: tables as values (k27) -/
namespace VS
open PySem PySem.Spec L2
theorem entF_cgL {rl rl' : Al Str} : ∀ {L : List (Int × Int)}, (∀ c ∈ L, lk rl c = lk rl' c) → entF rl L = entF rl' L
  | [], _ => rfl
  | c :: L, h => by
    have ih := entF_cgL (L := L) fun c' hc' => h c' (List.mem_cons_of_mem _ hc')
    unfold entF at ih ⊢
    rw [List.filterMap_cons, List.filterMap_cons, h c List.mem_cons_self, ih]
theorem entF_sub : ∀ {L : List (Int × Int)} {rl : Al Str}, (rl.map (·.1)).Sublist L → L.Nodup → entF rl L = rl
  | [], rl, h, _ => by
    have : rl = [] := by
      cases rl with
      | nil => rfl
      | cons e r => rw [List.map_cons] at h; cases h
    rw [this]; rfl
  | c :: L, rl, h, hn => by
    obtain ⟨h1, h2⟩ := List.nodup_cons.mp hn
    cases rl with
    | nil =>
      have e0 : ∀ L : List (Int × Int), entF [] L = [] := fun L => by
        induction L with
        | nil => rfl
        | cons a L ih => show List.filterMap _ (a :: L) = []; rw [List.filterMap_cons_none (by rfl)]; exact ih
      exact e0 _
    | cons e r =>
      rw [List.map_cons] at h
      by_cases q : e.1 = c
      · have hs : (r.map (·.1)).Sublist L := by
          subst q
          exact List.cons_sublist_cons.mp h
        have e1 : (lk (e :: r) c).map (fun x => (c, x)) = some e := by unfold lk; rw [if_pos q]; show some (c, e.2) = some e; rw [← q]
        show List.filterMap (fun c => (lk (e :: r) c).map fun x => (c, x)) (c :: L) = _
        rw [List.filterMap_cons, e1]
        show e :: entF (e :: r) L = e :: r
        congr 1
        have := entF_cgL (L := L) (rl := e :: r) (rl' := r) fun c' hc' => by
          show lk (e :: r) c' = _
          conv => lhs; unfold lk
          rw [if_neg fun z => h1 (by rw [← q, z]; exact hc')]
        exact this.trans (entF_sub hs h2)
      · have hs : (e.1 :: r.map (·.1)).Sublist L := by
          cases h with
          | cons _ h => exact h
          | cons_cons => exact absurd rfl q
        have hc : lk (e :: r) c = none := by
          cases z : lk (e :: r) c with
          | none => rfl
          | some x => exact absurd (hs.subset (by have := List.mem_map_of_mem (f := (·.1)) (lk_mem z); exact this)) h1
        show List.filterMap (fun c => (lk (e :: r) c).map fun x => (c, x)) (c :: L) = _
        rw [List.filterMap_cons, hc]
        exact entF_sub (rl := e :: r) (by rw [List.map_cons]; exact hs) h2
/-- a rule in order is its table's own -/
theorem entOf_self {lim : Nat} {looks : List Int} {rl : Al Str} (h : Vt lim looks rl) : entOf rl lim = rl := by
  unfold entOf
  rw [ent_foldF rl (cnt lim) [] (cnt_nodup lim) (fun c _ => rfl), List.nil_append]
  obtain ⟨ks, hks, ek⟩ := h.ord
  refine entF_sub ?_ (cnt_nodup lim)
  rw [ek, cnt_cast]
  exact hks.map castP
abbrev w37 : Str := Str.ofString "at least 3/7"
theorem wd37 : Wd w37 := wd_k (k := Str.ofString "at least") (n := 3) (d := 7) (.inl rfl) (by decide) (by decide) (by decide) (by decide)
theorem rd37 {k : Str} {n d : Nat} (hk : IsKind k) (hn : 0 < n) (hnd : n < d) (hd : d ≤ 5) (hg : Nat.gcd n d = 1) : SX.S (wordL k n d) ≠ w37 := fun e => by
  have h1 := rdS_k hk hn hnd (by omega) hg
  rw [e] at h1
  have h2 : rdS w37 = some (Str.ofString "at least", some (3, 7)) := by decide +kernel
  rw [h2] at h1
  injection h1 with h1
  injection h1 with _ h1
  injection h1 with h1
  injection h1 with _ h1
  omega
def ph__law_word37 : Ph := fun ds q _ => ds = [] ∧ ∀ x, Wd x → x ≠ w37 → q (.str x)
theorem u__law_word37 {q : Dt → Prop} {x : XD} (_ : True) (p : ∀ x, Wd x → x ≠ w37 → q (.str x)) : ph__law_word37 [] q x := ⟨rfl, p⟩
def ph__law_parts37 : Ph := fun ds q _ => ∃ m : Int, ds = [.int m] ∧ (0 < m ∧ m ≤ 20) ∧ ∀ lim looks rl, Vt lim looks rl → (lim : Int) ≤ m → (∀ e ∈ rl, e.2 ≠ w37) → q (ptD lim looks rl)
theorem u__law_parts37 {m : Int} {q : Dt → Prop} {x : XD} (h : 0 < m ∧ m ≤ 20) (p : ∀ lim looks rl, Vt lim looks rl → (lim : Int) ≤ m → (∀ e ∈ rl, e.2 ≠ w37) → q (ptD lim looks rl)) : ph__law_parts37 [.int m] q x := ⟨m, rfl, h, p⟩
section
variable {lim : Nat} {looks : List Int} {rl : Al Str}
theorem Vr.filt (v : Vr lim looks rl) {p : Int → Bool} (hp : p lim = true) : Vr lim (looks.filter p) rl := by
  obtain ⟨l', e⟩ := v.last
  refine ⟨v.l1, v.l30, Nat.le_trans (List.length_filter_le _ _) v.len, v.asc.sublist List.filter_sublist, fun z hz => v.one z (List.mem_filter.mp hz).1, ⟨l'.filter p, by rw [e, List.filter_append, List.filter_cons_of_pos hp]; rfl⟩, v.keys, v.words, v.full⟩
/-- equality of tables made of rules -/
theorem tbE_mk {lim' : Nat} {looks' : List Int} {rl' : Al Str} (h : Vr lim looks rl) (h' : Vr lim' looks' rl') : tbE (mkT lim looks rl) (mkT lim' looks' rl') = true ↔ lim = lim' ∧ looks = looks' ∧ ∀ c, lk rl c = lk rl' c := by
  unfold tbE
  rw [Bool.and_eq_true, Bool.and_eq_true, decide_eq_true_eq, decide_eq_true_eq, alE_iff (strT_mk h).1 (strT_mk h').1]
  refine and_congr Iff.rfl (and_congr Iff.rfl (forall_congr' fun c => ?_))
  show lk (entOf rl lim) c = lk (entOf rl' lim') c ↔ _
  rw [lk_ent h.keys, lk_ent h'.keys]
theorem tbE_false {lim' : Nat} {looks' : List Int} {rl' : Al Str} (h : Vr lim looks rl) (h' : Vr lim' looks' rl') (hn : ¬ (lim = lim' ∧ looks = looks' ∧ ∀ c, lk rl c = lk rl' c)) : tbE (mkT lim looks rl) (mkT lim' looks' rl') = false := by
  cases z : tbE (mkT lim looks rl) (mkT lim' looks' rl') with
  | false => rfl
  | true => exact absurd ((tbE_mk h h').mp z) hn
theorem lk_drop (m : Al Str) (p c : Int × Int) : lk (dropA m p) c = if c = p then none else lk m c := by
  induction m with
  | nil => show none = _; split <;> rfl
  | cons e m ih =>
    unfold dropA at ih ⊢
    by_cases q : e.1 = p
    · rw [List.filter_cons_of_neg (by rw [decide_eq_true_eq]; exact fun z => z q), ih]
      by_cases z : c = p
      · rw [if_pos z, if_pos z]
      · rw [if_neg z, if_neg z]
        conv => rhs; unfold lk
        rw [if_neg fun y => z (by rw [← y]; exact q)]
    · rw [List.filter_cons_of_pos (by rw [decide_eq_true_eq]; exact q)]
      by_cases y : e.1 = c
      · conv => lhs; unfold lk
        conv => rhs; unfold lk
        rw [if_pos y, if_pos y, if_neg fun z => q (y.trans z)]
      · conv => lhs; unfold lk
        conv => rhs; unfold lk
        rw [if_neg y, if_neg y, ih]
theorem Vr.drop (v : Vr lim looks rl) {p : Int × Int} (hp : p.1 + p.2 < lim) : Vr lim looks (dropA rl p) := by
  refine ⟨v.l1, v.l30, v.len, v.asc, v.one, v.last, fun e he => v.keys e (List.mem_filter.mp he).1, fun e he => v.words e (List.mem_filter.mp he).1, fun j hj => ?_⟩
  unfold has
  rw [lk_drop, if_neg fun z => by rw [← z] at hp; dsimp only at hp; omega]
  exact v.full j hj
theorem asc_lenU : ∀ {l : List Int} {m : Nat}, l.Pairwise (· < ·) → (∀ z ∈ l, 1 ≤ z) → (∀ z ∈ l, z ≤ m) → l.length ≤ m
  | l, m, hp, h1, h2 => by
    have go : ∀ (l : List Int) (a : Int), l.Pairwise (· < ·) → (∀ z ∈ l, a ≤ z) → (∀ z ∈ l, z ≤ m) → (l.length : Int) ≤ max 0 (m - a + 1) := fun l => by
      induction l with
      | nil => intro a _ _ _; show (0 : Int) ≤ _; omega
      | cons x l ih =>
        intro a hp h1 h2
        obtain ⟨p1, p2⟩ := List.pairwise_cons.mp hp
        have := ih (x + 1) p2 (fun z hz => by have := p1 z hz; omega) fun z hz => h2 z (List.mem_cons_of_mem _ hz)
        have a1 := h1 x List.mem_cons_self
        have a2 := h2 x List.mem_cons_self
        rw [List.length_cons]
        omega
    have := go l 1 hp h1 h2
    omega
/-- a rule with one more row -/
def rowX (rl : Al Str) (n : Nat) : Nat → Al Str
  | 0 => rl
  | k + 1 => put (rowX rl n k) ((k : Int), (n : Int) - (k : Int)) (Str.ofString "no word")
theorem rowX_len (rl : Al Str) (n : Nat) : ∀ k, (rowX rl n k).length ≤ rl.length + k
  | 0 => Nat.le_refl _
  | k + 1 => Nat.le_trans (put_len _ _ _) (by have := rowX_len rl n k; omega)
theorem put_memK {α : Type} {p : Int × Int} {a : α} {e : (Int × Int) × α} {m : Al α} (h : e ∈ put m p a) : e ∈ m ∨ e = (p, a) := by
  unfold put at h
  split at h
  · obtain ⟨d, hd, rfl⟩ := List.mem_map.mp h
    by_cases q : d.1 = p
    · rw [if_pos q, q]; exact .inr rfl
    · rw [if_neg q]; exact .inl hd
  · rcases List.mem_append.mp h with z | z
    · exact .inl z
    · exact .inr (List.mem_singleton.mp z)
theorem rowX_mem (rl : Al Str) (n : Nat) : ∀ k e, e ∈ rowX rl n k → e ∈ rl ∨ ∃ j : Nat, j < k ∧ e.1 = ((j : Int), (n : Int) - j) ∧ e.2 = Str.ofString "no word"
  | 0, e, h => .inl h
  | k + 1, e, h => by
    rcases put_memK h with z | z
    · rcases rowX_mem rl n k e z with y | ⟨j, hj, y⟩
      · exact .inl y
      · exact .inr ⟨j, by omega, y⟩
    · exact .inr ⟨k, by omega, by rw [z], by rw [z]⟩
theorem rowX_has (rl : Al Str) (n : Nat) : ∀ k j : Nat, j < k → has (rowX rl n k) ((j : Int), (n : Int) - j) = true
  | k + 1, j, h => by
    show has (put _ _ _) _ = true
    refine has_put ?_
    by_cases e : j = k
    · exact .inr (by rw [e])
    · exact .inl (rowX_has rl n k j (by omega))
theorem Vr.more (v : Vr lim looks rl) (hl : lim < 30) : Vr (lim + 1) (looks ++ [((lim + 1 : Nat) : Int)]) (rowX rl (lim + 1) (lim + 2)) := by
  have hle : ∀ z ∈ looks, z ≤ lim := fun z hz => v.le hz
  have hlen := asc_lenU v.asc v.one hle
  refine ⟨by omega, by omega, by rw [List.length_append]; show _ + 1 ≤ 30; omega, ?_, fun z hz => ?_, ⟨looks, rfl⟩, fun e he => ?_, fun e he => ?_, fun j hj => rowX_has rl _ _ j (by omega)⟩
  · rw [List.pairwise_append]
    refine ⟨v.asc, List.pairwise_singleton _ _, fun a ha b hb => ?_⟩
    rw [List.mem_singleton.mp hb]
    have := hle a ha
    omega
  · rcases List.mem_append.mp hz with h | h
    · exact v.one z h
    · rw [List.mem_singleton.mp h]; omega
  · rcases rowX_mem rl _ _ e he with h | ⟨j, hj, h, _⟩
    · have := v.keys e h; omega
    · rw [h]; dsimp only; omega
  · rcases rowX_mem rl _ _ e he with h | ⟨j, hj, _, h⟩
    · exact v.words e h
    · rw [h]; exact wd_no
end
end VS
namespace VS
open PySem PySem.Spec L2
def ph_Table___eq__N (C : Addr) : Ph := fun ds q _ => (∃ T1 T2 : Tb, ds = [tabD C T1, tabD C T2] ∧ (StrT T1 ∧ StrT T2) ∧ q (.bl (tbE T1 T2))) ∨ ∃ (T1 : Tb) (n : Int), ds = [tabD C T1, .int n] ∧ q (.bl false)
theorem u_Table___eq__N {C : Addr} {T1 T2 : Tb} {q : Dt → Prop} {x : XD} (h : StrT T1 ∧ StrT T2) (p : q (.bl (tbE T1 T2))) : ph_Table___eq__N C [tabD C T1, tabD C T2] q x := .inl ⟨T1, T2, rfl, h, p⟩
theorem u_Table___eq__I {C : Addr} {T1 : Tb} {n : Int} {q : Dt → Prop} {x : XD} (p : q (.bl false)) : ph_Table___eq__N C [tabD C T1, .int n] q x := .inr ⟨T1, n, rfl, p⟩
def ph__law_agreesV (C : Addr) : Ph := fun ds q _ => ∃ lim looks rl, ds = [tabD C (mkT lim looks rl), ptD lim looks rl] ∧ (Vt lim looks rl ∧ lim ≤ 20) ∧ q (.bl true)
theorem u__law_agreesV {C : Addr} {lim : Nat} {looks : List Int} {rl : Al Str} {q : Dt → Prop} {x : XD} (h : Vt lim looks rl ∧ lim ≤ 20) (p : q (.bl true)) : ph__law_agreesV C [tabD C (mkT lim looks rl), ptD lim looks rl] q x := ⟨_, _, _, rfl, h, p⟩
def ph__law_unequal (C : Addr) : Ph := fun ds q _ => ∃ lim looks rl, ds = [tabD C (mkT lim looks rl), ptD lim looks rl] ∧ (Vt lim looks rl ∧ lim ≤ 20 ∧ ∀ e ∈ rl, e.2 ≠ w37) ∧ q (.bl true)
theorem u__law_unequal {C : Addr} {lim : Nat} {looks : List Int} {rl : Al Str} {q : Dt → Prop} {x : XD} (h : Vt lim looks rl ∧ lim ≤ 20 ∧ ∀ e ∈ rl, e.2 ≠ w37) (p : q (.bl true)) : ph__law_unequal C [tabD C (mkT lim looks rl), ptD lim looks rl] q x := ⟨_, _, _, rfl, h, p⟩
end VS
set_option Elab.async false
set_option linter.all false
set_option maxRecDepth 100000
set_option maxHeartbeats 4000000
namespace Lk
open PySem PySem.Spec L2 VS
local macro_rules | `(tactic| walk_at "sc") => `(tactic| first | exact True.intro | with_reducible assumption | omega | (constructor <;> omega) | exact at_cf rfl (by omega) | (rw [List.length_map]; exact ix_nat (by omega)) | (simp only [Str.length_append]; omega) | assumption | rfl | trivial | (refine mulOk' (by walk_at "sz") (by walk_at "sz") ?_; rfl))
local macro_rules | `(tactic| walk_at "sz") => `(tactic| first | assumption | exact SzR.one (by assumption) | exact SzR.two (by assumption) | exact sz_lit _ | (refine sz_mul ?_ ?_ <;> walk_at "sz") | (refine sz_add2 ?_ ?_ <;> walk_at "sz") | (refine sz_sub2 ?_ ?_ <;> walk_at "sz") | (refine sz_neg ?_ <;> walk_at "sz"))
local macro_rules | `(tactic| walk_at "szg") => `(tactic| (refine sz_up' (by walk_at "sz") ?_; rfl))
local macro_rules | `(tactic| walk_at "ok") => `(tactic| first | rfl | assumption | exact ok_ints _ | exact ok_intsT _ | simp [okN])
abbrev d_KINDS : Dt := .tup [.str "at least", .str "below"]
abbrev d_SILENT : Dt := .str "no word"
abbrev d_MOST_DIGITS : Dt := .int 30
abbrev d_MOST_TRIES : Dt := .int 30
section
variable {P : Program} {w : World} {K : PySem.W.Frag} {mg : Str → Option Value} {base : Heap}
theorem take63 {ns : List Int} (h : ns.length ≤ 63) : cutD (ns.map Dt.int) none (some 63) = ns.map Dt.int := by
  unfold cutD
  rw [HT.sIx_none, show HT.sIx (ns.map Dt.int).length (ns.map Dt.int).length (some 63) = min 63 (ns.map Dt.int).length from HT.sIx_nat _ _ 63, List.drop_zero, List.length_map, Nat.sub_zero, Nat.min_eq_right h]
  exact List.take_of_length_le (by rw [List.length_map]; exact Nat.le_refl _)
abbrev N__law_box : List Str := ["_law_script", "_law_cell"]
theorem sc__law_box : FnScope N__law_box ["_law_script"] (defScope s__law_box) := ⟨rfl, rfl, rfl, by decide +kernel, rfl, by decide +kernel, by decide +kernel⟩
theorem ok__law_box {f : Addr} {fd : FuncData} {k : Nat} (F : FD K "_law_box" "_law_box" s__law_box [] [] f fd) (m_abs : mg "abs" = none) (m_int : mg "int" = none) : FnOk P w K mg base (L2N.CX P w) (k + 1) f fd ["_law_script"] (spBox K) := by
  refine box_ok F sc__law_box fun X cdv A outer s H E ns Fr σ D hX hn ty q => ?_
  subst hX
  refine sOf.of (pss_one ps_w) (s_retBox ty ?_ q)
  refine en_lc (own := [("_law_cell", 1)]) rfl sc__law_box.nd (blkOk_by (N := N__law_box) (sc := defScope s__law_box) (by decide +kernel)) ?_
  refine i_lst ?_
  refine e_slice ?_
  refine e_v 0 ?_
  refine eo_none ?_
  refine eo_some ?_
  refine e_int ?_
  refine ⟨_, rfl, ?_⟩
  refine wsl_frl ?_
  rw [take63 hn]
  refine ⟨_, rfl, by rw [List.length_map]; omega, _, lc_map (fun _ d => match d with | .int i => .int (i.natAbs : Int) | d => d) (fun d => [(1, d)]) ?_ ?_ ?_, ?_⟩
  · intro i d hd Y hY
    obtain ⟨s', H', C, cl, fp, rfl⟩ := hY
    exact a_n 1 sc__law_box.nd
  · intro d p hp
    simp at hp
    subst hp
    simp
  · intro i d hd Y hY
    obtain ⟨s', H', C, cl, fp, rfl⟩ := hY
    rw [List.getElem?_map] at hd
    cases e : ns[i]? with
    | none => rw [e] at hd; cases hd
    | some z =>
      rw [e] at hd
      cases hd
      refine e_callB (id := "abs") (by rfl) m_abs b_abs ?_
      refine ea_cons ?_
      refine e_callTy (id := "int") (by rfl) m_int b_int ?_
      refine ea_cons ?_
      refine e_v 1 ?_
      refine ea_nil ?_
      first | refine wc_int ?_ | refine wc_intB ?_ | refine wc_intS (by walk_at "sc") (by walk_at "sc") ?_
      refine ea_nil ?_
      refine wc_abs ?_
      rfl
  · intro acc hacc
    refine ⟨ns.map fun i => (i.natAbs : Int), ?_, by rw [List.length_map]; exact hn, fun x hx => ?_⟩
    · rw [hacc, List.take_of_length_le (Nat.le_refl _), List.map_map]
      refine List.ext_getElem? fun i => ?_
      simp only [List.getElem?_mapIdx, List.getElem?_map]
      cases ns[i]? <;> rfl
    · obtain ⟨i, _, rfl⟩ := List.mem_map.mp hx
      omega

abbrev N__law_take : List Str := ["_law_box_here", "_law_size", "_law_cells", "_law_worth", "_law_at", "_law_digit", "_law_stirred"]
theorem sc__law_take : FnScope N__law_take ["_law_box_here", "_law_size"] (defScope s__law_take) := ⟨rfl, rfl, rfl, by decide +kernel, rfl, by decide +kernel, by decide +kernel⟩
theorem ok__law_take {f : Addr} {fd : FuncData} {k : Nat} {dvs : List V} {kws : List (Str × V)} (F : FD K "_law_take" "_law_take" s__law_take dvs kws f fd) (m_int : mg "int" = none) (m_len : mg "len" = none) : FnOk P w K mg base (L2N.CX P w) (k + 1) f fd ["_law_box_here", "_law_size"] (spB K 2 ph_take) := by
  refine fn_okX F sc__law_take rfl fun X cdv A outer s H E b c n ds q xd hX hr hph hl Fr wf xok => ?_
  subst hX
  obtain ⟨z, rfl, ⟨hz, hlog⟩, hq⟩ := hph
  show S _ _ _ [_, _, _, _, _, _, _] _
  refine s_cons (s_a 2 sc__law_take.nd ?_)
  refine e_ix ?_
  refine e_v 0 ?_
  refine e_int ?_
  refine wi_box0 ?_
  show S _ _ _ [_, _, _, _, _, _, _] _
  refine s_cons (s_a 3 sc__law_take.nd ?_)
  refine e_int ?_
  show S _ _ _ [_, _, _, _, _, _, _] _
  -- behind the if: worth is some int below a bound
  have fin : ∀ (g2 : Sl) (g4 g5 : Sl) (wo : Int), S (cxOf (L2N.CX P w) P w K mg base N__law_take "_law_take" (defScope s__law_take) f cdv A outer s H E) (boxR b c n) ((defBody s__law_take).drop 3) [.sh (.adr b), .sh (.int z), g2, .sh (.int wo), g4, g5, .no] { nx := fun _ => q .non, rt := q } := fun g2 g4 g5 wo => by
    refine s_cons (s_set ?_)
    refine e_bin ?_
    refine e_callTy (id := "int") (by rfl) m_int b_int ?_
    refine ea_cons ?_
    refine e_bin ?_
    refine e_bin ?_
    refine e_ix ?_
    refine e_v 0 ?_
    refine e_int ?_
    refine wi_box2 fun sd sd0 sd1 => ?_
    refine e_int ?_
    refine w_mulS (.inr ⟨by decide, by decide⟩) ?_
    refine e_v 3 ?_
    refine w_add ?_
    refine ea_nil ?_
    refine wc_int ?_
    refine e_int ?_
    refine w_mod (by omega) ?_
    refine e_v 0 ?_
    refine e_int ?_
    refine ws_box2 (Int.emod_nonneg _ (by decide)) (Int.emod_lt_of_pos _ (by decide)) ?_
    refine s_cons (s_a 6 sc__law_take.nd ?_)
    refine e_bin ?_
    refine e_callTy (id := "int") (by rfl) m_int b_int ?_
    refine ea_cons ?_
    refine e_bin ?_
    refine e_bin ?_
    refine e_ix ?_
    refine e_v 0 ?_
    refine e_int ?_
    refine wi_box2 fun se se0 se1 => ?_
    refine e_int ?_
    refine w_mulS (.inr ⟨by decide, by decide⟩) ?_
    refine e_bin ?_
    refine e_ix ?_
    refine e_v 0 ?_
    refine e_int ?_
    refine wi_box2 fun sf sf0 sf1 => ?_
    refine e_int ?_
    refine w_div ⟨by decide, by decide +kernel⟩ ?_
    refine w_add ?_
    refine ea_nil ?_
    refine wc_int ?_
    refine e_int ?_
    refine w_mod (by omega) ?_
    show S _ _ _ [_, _, _, _, _, _, _] _
    refine s_cons (s_ret ?_)
    refine e_bin ?_
    refine e_callTy (id := "int") (by rfl) m_int b_int ?_
    refine ea_cons ?_
    refine e_bin ?_
    refine e_v 6 ?_
    refine e_int ?_
    refine w_div ⟨by decide, by decide +kernel⟩ ?_
    refine ea_nil ?_
    refine wc_int ?_
    refine e_v 1 ?_
    refine w_mod hz ?_
    exact hq _ (Int.emod_nonneg _ (by omega)) (Int.emod_lt_of_pos _ hz)
  refine s_cons (s_if ?_)
  refine t_cmp ?_
  refine e_callB (id := "len") (by rfl) m_len b_len ?_
  refine ea_cons ?_
  refine e_v 2 ?_
  refine ea_nil ?_
  refine wc_lenc fun hn63 => ?_
  refine e_int ?_
  refine w_gt ⟨_, rfl, ?_⟩
  refine ite_b (fun h => ?_) (fun h => ?_)
  · have hn : (0 : Int) < (n : Int) := of_decide_eq_true h
    refine s_cons (s_a 4 sc__law_take.nd ?_)
    refine e_bin ?_
    refine e_callTy (id := "int") (by rfl) m_int b_int ?_
    refine ea_cons ?_
    refine e_ix ?_
    refine e_v 0 ?_
    refine e_int ?_
    refine wi_box1 fun pl => ?_
    refine ea_nil ?_
    refine wc_int ?_
    refine e_callB (id := "len") (by rfl) m_len b_len ?_
    refine ea_cons ?_
    refine e_v 2 ?_
    refine ea_nil ?_
    refine wc_lenc fun hn63 => ?_
    refine w_mod hn ?_
    show S _ _ _ [_, _, _, _, _, _, _] _
    have a0 := Int.emod_nonneg pl (show (n : Int) ≠ 0 by omega)
    have a1 := Int.emod_lt_of_pos pl hn
    refine s_cons (s_if ?_)
    refine t_cmp ?_
    refine e_ix ?_
    refine e_v 2 ?_
    refine e_v 4 ?_
    refine wi_cell a0 a1 fun x x0 => ?_
    refine e_bin ?_
    refine e_int ?_
    refine e_int ?_
    refine w_pow ⟨by decide, by decide, by decide⟩ ?_
    refine w_ge ⟨_, rfl, ?_⟩
    refine ite_b (fun h2 => ?_) (fun h2 => ?_)
    · refine s_cons (s_a 5 sc__law_take.nd ?_)
      refine e_bin ?_
      refine e_callTy (id := "int") (by rfl) m_int b_int ?_
      refine ea_cons ?_
      refine e_ix ?_
      refine e_v 2 ?_
      refine e_v 4 ?_
      refine wi_cell a0 a1 fun x2 x20 => ?_
      refine ea_nil ?_
      refine wc_int ?_
      refine e_v 1 ?_
      refine w_mod hz ?_
      show S _ _ _ [_, _, _, _, _, _, _] _
      refine s_cons (s_set ?_)
      refine e_bin ?_
      refine e_ix ?_
      refine e_v 2 ?_
      refine e_v 4 ?_
      refine wi_cell a0 a1 fun x3 x30 => ?_
      refine e_v 1 ?_
      refine w_div ⟨hz, hlog⟩ ?_
      refine e_v 2 ?_
      refine e_v 4 ?_
      refine ws_cell a0 a1 (Int.ediv_nonneg x30 (by omega)) ?_
      refine s_cons (s_ret ?_)
      refine e_v 5 ?_
      exact hq _ (Int.emod_nonneg _ (by omega)) (Int.emod_lt_of_pos _ hz)
    · refine s_nil ?_
      refine s_cons (s_set ?_)
      refine e_bin ?_
      refine e_ix ?_
      refine e_v 0 ?_
      refine e_int ?_
      refine wi_box1 fun pl2 => ?_
      refine e_int ?_
      refine w_add ?_
      refine e_v 0 ?_
      refine e_int ?_
      refine ws_box1 ?_
      refine s_cons (s_a 3 sc__law_take.nd ?_)
      refine e_bin ?_
      refine e_bin ?_
      refine e_ix ?_
      refine e_v 2 ?_
      refine e_v 4 ?_
      refine wi_cell a0 a1 fun x4 x40 => ?_
      refine e_int ?_
      refine w_mulS (.inr ⟨by decide, by decide⟩) ?_
      refine e_int ?_
      refine w_add ?_
      refine s_nil ?_
      exact fin _ _ _ _
  · refine s_nil ?_
    exact fin _ _ _ 11

abbrev N__law_gcd : List Str := ["_law_a", "_law_b"]
theorem sc__law_gcd : FnScope N__law_gcd ["_law_a", "_law_b"] (defScope s__law_gcd) := ⟨rfl, rfl, rfl, by decide +kernel, rfl, by decide +kernel, by decide +kernel⟩
theorem ok__law_gcd {f : Addr} {fd : FuncData} {k : Nat} {dvs : List V} {kws : List (Str × V)} (F : FD K "_law_gcd" "_law_gcd" s__law_gcd dvs kws f fd) (m_abs : mg "abs" = none) (m_int : mg "int" = none) : FnOk P w K mg base (L2N.CX P w) (k + 1) f fd ["_law_a", "_law_b"] (spD K 2 ph_gcd) := by
  refine fn_ok F sc__law_gcd rfl fun X cdv A outer s H E ds q xd hX hr hph hl Fr wf xok => ?_
  subst hX
  obtain ⟨a, b, rfl, hq⟩ := hph
  show S _ _ _ [_, _] _
  refine s_cons (s_a 0 sc__law_gcd.nd ?_)
  refine e_callB (id := "abs") (by rfl) m_abs b_abs ?_
  refine ea_cons ?_
  refine e_v 0 ?_
  refine ea_nil ?_
  refine wc_abs ?_
  show S _ _ _ [_, _] _
  refine s_cons (s_a 1 sc__law_gcd.nd ?_)
  refine e_callB (id := "abs") (by rfl) m_abs b_abs ?_
  refine ea_cons ?_
  refine e_v 1 ?_
  refine ea_nil ?_
  refine wc_abs ?_
  show S _ _ _ [_, _] _
  refine s_cons (s_while (fun m G => ∃ x y : Nat, m = y ∧ G = [.sh (.int (x : Int)), .sh (.int (y : Int))] ∧ Nat.gcd x y = Int.gcd a b) b.natAbs ⟨a.natAbs, b.natAbs, rfl, rfl, rfl⟩ (passes_of rfl) fun m G hI => ?_)
  obtain ⟨x, y, rfl, rfl, hg⟩ := hI
  refine t_cmp ?_
  refine e_v 1 ?_
  refine e_int ?_
  refine w_gt ?_
  refine ⟨_, rfl, ?_⟩
  refine ite_b (fun h => ?_) (fun h => ?_)
  · have h' : (0 : Int) < (m : Int) := of_decide_eq_true h
    refine s_one (s_par 0 1 rfl sc__law_gcd.nd rfl rfl (by decide) rfl rfl ?_ (by rfl))
    refine ea_cons ?_
    refine e_v 1 ?_
    refine ea_cons ?_
    refine e_bin ?_
    refine e_callTy (id := "int") (by rfl) m_int b_int ?_
    refine ea_cons ?_
    refine e_v 0 ?_
    refine ea_nil ?_
    first | refine wc_int ?_ | refine wc_intB ?_ | refine wc_intS (by walk_at "sc") (by walk_at "sc") ?_
    refine e_v 1 ?_
    first | refine w_mod (by decide) ?_ | refine w_mod (by walk_at "sc") ?_ | refine w_modN (by walk_at "sc") ?_
    refine ea_nil ?_
    refine ⟨_, _, rfl, ?_⟩
    refine ⟨x % m, Nat.mod_lt _ (by omega), m, x % m, rfl, rfl, ?_⟩
    rw [← hg, Nat.gcd_comm x m, Nat.gcd_rec m x, Nat.gcd_comm]
  · have h' : ¬ (0 : Int) < (m : Int) := of_decide_eq_false h
    have hm : m = 0 := by omega
    subst hm
    refine s_cons (s_ret ?_)
    refine e_v 0 ?_
    rw [Nat.gcd_zero_right] at hg
    rw [← hg] at hq
    exact hq

abbrev N__law_ratio : List Str := ["_law_num", "_law_den", "_law_divisor"]
theorem sc__law_ratio : FnScope N__law_ratio ["_law_num", "_law_den"] (defScope s__law_ratio) := ⟨rfl, rfl, rfl, by decide +kernel, rfl, by decide +kernel, by decide +kernel⟩
theorem ok__law_ratio {f : Addr} {fd : FuncData} {k : Nat} {dvs : List V} {kws : List (Str × V)} (F : FD K "_law_ratio" "_law_ratio" s__law_ratio dvs kws f fd) (c__law_gcd : Fn P w K mg base k "_law_gcd" ["_law_a", "_law_b"] [] (spD K 2 ph_gcd)) : FnOk P w K mg base (L2N.CX P w) (k + 1) f fd ["_law_num", "_law_den"] (spD K 2 ph_ratio) := by
  refine fn_ok F sc__law_ratio rfl fun X cdv A outer s H E ds q xd hX hr hph hl Fr wf xok => ?_
  subst hX
  obtain ⟨n, d, rfl, ⟨hd, hz⟩, hq⟩ := hph
  obtain ⟨hc1, hc2⟩ := gcd_logG hd hz
  show S _ _ _ [_, _, _] _
  refine s_cons (s_a 2 sc__law_ratio.nd ?_)
  refine e_call (dds := []) c__law_gcd hr (by rfl) (fun _ => .nil) ?_
  refine ea_cons ?_
  refine e_v 0 ?_
  refine ea_cons ?_
  refine e_v 1 ?_
  refine ea_nil ?_
  refine ⟨rfl, ?_⟩
  refine u_gcd (by walk_at "sc") ?_
  show S _ _ _ [_, _, _] _
  refine s_cut (fun G => G = [.sh (.int n), .sh (.int d), .sh (.int (gcdS n d))]) (s_if ?_) ?_
  · refine t_cmp ?_
    refine e_v 1 ?_
    refine e_int ?_
    refine w_lt ⟨_, rfl, ?_⟩
    refine ite_b (fun h => ?_) (fun h => ?_)
    · refine s_one (s_a 2 sc__law_ratio.nd ?_)
      refine e_un ?_
      refine e_v 2 ?_
      refine w_neg ?_
      unfold gcdS
      rw [if_pos (of_decide_eq_true h)]
      rfl
    · refine s_nil ?_
      unfold gcdS
      rw [if_neg (of_decide_eq_false h)]
  · rintro G rfl
    refine s_cons (s_ret ?_)
    refine e_tup ?_
    refine ea_cons ?_
    refine e_bin ?_
    refine e_v 0 ?_
    refine e_v 2 ?_
    refine w_divA hc1 ?_
    refine ea_cons ?_
    refine e_bin ?_
    refine e_v 1 ?_
    refine e_v 2 ?_
    refine w_divA hc2 ?_
    refine ea_nil ?_
    refine ⟨Nat.le_of_ble_eq_true rfl, ?_⟩
    exact hq

abbrev N__law_word : List Str := ["_law_box_here", "_law_pick", "_law_den", "_law_share"]
theorem sc__law_word : FnScope N__law_word ["_law_box_here"] (defScope s__law_word) := ⟨rfl, rfl, rfl, by decide +kernel, rfl, by decide +kernel, by decide +kernel⟩
theorem ok__law_word {f : Addr} {fd : FuncData} {k : Nat} {dvs : List V} {kws : List (Str × V)} (F : FD K "_law_word" "_law_word" s__law_word dvs kws f fd) (m_int : mg "int" = none) (m_str : mg "str" = none) (c__law_take : Fn P w K mg base k "_law_take" ["_law_box_here", "_law_size"] [] (spB K 2 ph_take)) (c__law_ratio : Fn P w K mg base k "_law_ratio" ["_law_num", "_law_den"] [] (spD K 2 ph_ratio)) : FnOk P w K mg base (L2N.CX P w) (k + 1) f fd ["_law_box_here"] (spB K 1 ph__law_word37) := by
  refine fn_okX F sc__law_word rfl fun X cdv A outer s H E b c n ds q xd hX hr hph hl Fr wf xok => ?_
  subst hX
  obtain ⟨rfl, hq⟩ := hph
  have hl5 : (0 : Int) < 5 ∧ (5 : Int).natAbs.log2 < 9000 := ⟨by decide, by decide +kernel⟩
  have hl4 : (0 : Int) < 4 ∧ (4 : Int).natAbs.log2 < 9000 := ⟨by decide, by decide +kernel⟩
  show S _ _ _ [_, _, _, _] _
  refine s_cons (s_a 1 sc__law_word.nd ?_)
  refine e_callX c__law_take hr (by rfl) ?_
  refine ea_cons ?_
  refine e_v 0 ?_
  refine ea_cons ?_
  refine e_int ?_
  refine ea_nil ?_
  refine ⟨_, rfl, rfl, ?_⟩
  refine u_take (by walk_at "sc") ?_
  intro v1 va1 vb1
  show S _ _ _ [_, _, _, _] _
  refine s_cons (s_a 2 sc__law_word.nd ?_)
  refine e_bin ?_
  refine e_int ?_
  refine e_callX c__law_take hr (by rfl) ?_
  refine ea_cons ?_
  refine e_v 0 ?_
  refine ea_cons ?_
  refine e_int ?_
  refine ea_nil ?_
  refine ⟨_, rfl, rfl, ?_⟩
  refine u_take (by walk_at "sc") ?_
  intro v2 va2 vb2
  first | refine w_add ?_ | refine w_catT (by walk_at "sc") ?_ | refine w_addS (by walk_at "sc") ?_ | refine w_catL (by walk_at "sc") ?_
  show S _ _ _ [_, _, _, _] _
  have hlog : 0 < 2 + v2 - 1 ∧ (2 + v2 - 1).natAbs.log2 < 9000 := log9 (k := 120) (by omega) (by omega) (by decide) (by decide)
  refine s_cons (s_a 3 sc__law_word.nd ?_)
  refine e_call (dds := []) c__law_ratio hr (by rfl) (fun _ => .nil) ?_
  refine ea_cons ?_
  refine e_bin ?_
  refine e_int ?_
  refine e_callX c__law_take hr (by rfl) ?_
  refine ea_cons ?_
  refine e_v 0 ?_
  refine ea_cons ?_
  refine e_bin ?_
  refine e_v 2 ?_
  refine e_int ?_
  refine w_sub ?_
  refine ea_nil ?_
  refine ⟨_, rfl, rfl, ?_⟩
  refine u_take (by walk_at "sc") ?_
  intro v3 va3 vb3
  first | refine w_add ?_ | refine w_catT (by walk_at "sc") ?_ | refine w_addS (by walk_at "sc") ?_ | refine w_catL (by walk_at "sc") ?_
  refine ea_cons ?_
  refine e_v 2 ?_
  refine ea_nil ?_
  refine ⟨rfl, ?_⟩
  refine u_ratio ⟨by omega, sz_up (a := 110) (by omega) (by decide)⟩ ?_
  show S _ _ _ [_, _, _, _] _
  refine s_cons (s_if ?_)
  refine t_cmp ?_
  refine e_v 1 ?_
  refine e_int ?_
  first | refine w_eqI ?_ | refine w_eqT ?_ | refine w_eqB ?_ | refine w_eqD hr.units (by walk_at "ok") (by walk_at "ok") ?_
  refine ⟨_, rfl, ?_⟩
  refine ite_b (fun h => ?_) (fun h => ?_)
  · refine s_one (s_ret ?_)
    refine e_str ?_
    exact hq _ wd_no (by decide)
  refine s_nil ?_
  obtain ⟨ir, er⟩ := mkR_spec (n := 1 + v3) (d := 2 + v2) (by omega)
  have le2 := mkR_le2 (n := 1 + v3) (d := 2 + v2) (by omega)
  generalize mkR (1 + v3) (2 + v2) = r at *
  obtain ⟨p, qq, rfl⟩ : ∃ p qq : Nat, r = ((p : Int), (qq : Int)) := by
    have h1 := ir.1
    have h2 : 0 ≤ r.1 := by
      have h3 : 0 ≤ r.1 * (2 + v2) := by rw [er]; exact Int.mul_nonneg (by omega) (by omega)
      exact Int.nonneg_of_mul_nonneg_left h3 (by omega)
    exact ⟨r.1.toNat, r.2.toNat, Prod.ext (by show r.1 = ((r.1.toNat : Nat) : Int); omega) (by show r.2 = ((r.2.toNat : Nat) : Int); omega)⟩
  have er' : (p : Int) * (2 + v2) = (1 + v3) * (qq : Int) := er
  have hq0 : 1 ≤ (qq : Int) := ir.1
  have hg : Nat.gcd p qq = 1 := ir.2
  have hq5 : qq ≤ 5 := by have : qq ≤ (2 + v2).natAbs := le2; omega
  have hp0 : 0 < p := by
    rcases Nat.eq_zero_or_pos p with z | z
    · rw [z] at er'
      have : 0 < (1 + v3) * (qq : Int) := Int.mul_pos (by omega) (by omega)
      rw [← er'] at this
      omega
    · exact z
  have hpq : p < qq := by
    have h1 : (p : Int) * (2 + v2) < (qq : Int) * (2 + v2) := by
      rw [er', Int.mul_comm]
      exact Int.mul_lt_mul_of_pos_left (by omega) (by omega)
    have := Int.lt_of_mul_lt_mul_right h1 (by omega)
    omega
  have hp : p < 10 ^ 32 := by omega
  have hqq : qq < 10 ^ 32 := by omega
  have slE : sizeLine = 16777216 := rfl
  have l2 : (Str.ofString "/").length = 1 := rfl
  have l3 := num_len hp
  have l4 := num_len hqq
  have gn := num_log hp
  have gd := num_log hqq
  have b1 : (0 : Int) ≤ v1 % 2 := by omega
  have b2 : v1 % 2 < 2 := by omega
  refine s_one (s_ret ?_)
  refine e_bin ?_
  refine e_bin ?_
  refine e_bin ?_
  refine e_ix ?_
  refine e_lst ?_
  refine ea_cons ?_
  refine e_str ?_
  refine ea_cons ?_
  refine e_str ?_
  refine ea_nil ?_
  refine ⟨Nat.le_of_ble_eq_true rfl, ?_⟩
  refine e_bin ?_
  refine e_callTy (id := "int") (by rfl) m_int b_int ?_
  refine ea_cons ?_
  refine e_v 1 ?_
  refine ea_nil ?_
  refine wc_int ?_
  refine e_int ?_
  refine w_mod (by decide) ?_
  refine wi_any b1 b2 fun di hdi => ?_
  obtain ⟨kd, hk, rfl⟩ : ∃ kd : Str, IsKind kd ∧ di = .str (kd ++ Str.ofString " ") := by
    simp only [List.mem_cons, List.not_mem_nil, or_false] at hdi
    rcases hdi with z | z
    · exact ⟨_, .inr rfl, by rw [z]; rfl⟩
    · exact ⟨_, .inl rfl, by rw [z]; rfl⟩
  have l5 := hk.len
  have l1 : (Str.ofString " ").length = 1 := rfl
  refine e_callTy (id := "str") (by rfl) m_str b_str ?_
  refine ea_cons ?_
  refine e_ix ?_
  refine e_v 3 ?_
  refine e_int ?_
  refine wi_tup0 ?_
  refine ea_nil ?_
  refine wc_strI gn ?_
  refine w_addS (by simp only [Str.length_append]; omega) ?_
  refine e_str ?_
  refine w_addS (by simp only [Str.length_append]; omega) ?_
  refine e_callTy (id := "str") (by rfl) m_str b_str ?_
  refine ea_cons ?_
  refine e_ix ?_
  refine e_v 3 ?_
  refine e_int ?_
  refine wi_tup1 ?_
  refine ea_nil ?_
  refine wc_strI gd ?_
  refine w_addS (by simp only [Str.length_append]; omega) ?_
  have e := wordL_S kd p qq
  rw [← e]
  exact hq _ (wd_k hk hp0 hpq (by omega) hg) (rd37 hk hp0 hpq hq5 hg)

abbrev N__law_parts : List Str := ["_law_box_here", "_law_most", "_law_limit", "_law_looks", "_law_tries", "_law_menu", "_law_rule", "_law_wins", "_law_pick", "_law_k"]
theorem sc__law_parts : FnScope N__law_parts ["_law_box_here", "_law_most"] (defScope s__law_parts) := ⟨rfl, rfl, rfl, by decide +kernel, rfl, by decide +kernel, by decide +kernel⟩
theorem ok__law_parts {f : Addr} {fd : FuncData} {k : Nat} {dvs : List V} {kws : List (Str × V)} (F : FD K "_law_parts" "_law_parts" s__law_parts dvs kws f fd) (m_int : mg "int" = none) (m_range : mg "range" = none) (c__law_take : Fn P w K mg base k "_law_take" ["_law_box_here", "_law_size"] [] (spB K 2 ph_take)) (c__law_word : Fn P w K mg base k "_law_word" ["_law_box_here"] [] (spB K 1 ph__law_word37)) : FnOk P w K mg base (L2N.CX P w) (k + 1) f fd ["_law_box_here", "_law_most"] (spB K 2 ph__law_parts37) := by
  refine fn_okX F sc__law_parts rfl fun X cdv A outer s H E b c n ds q xd hX hr hph hl Fr wf xok => ?_
  subst hX
  obtain ⟨m, rfl, ⟨hm0, hm1⟩, hq⟩ := hph
  have hlm : 0 < m ∧ m.natAbs.log2 < 9000 := log9 (k := 120) (by omega) (by omega) (by decide) (by decide)
  have hl3 : (0 : Int) < 3 ∧ (3 : Int).natAbs.log2 < 9000 := ⟨by decide, by decide +kernel⟩
  have hl8 : (0 : Int) < 8 ∧ (8 : Int).natAbs.log2 < 9000 := ⟨by decide, by decide +kernel⟩
  show S _ _ _ [_, _, _, _, _, _, _, _, _, _] _
  refine s_cons (s_a 2 sc__law_parts.nd ?_)
  refine e_bin ?_
  refine e_int ?_
  refine e_callX c__law_take hr (by rfl) ?_
  refine ea_cons ?_
  refine e_v 0 ?_
  refine ea_cons ?_
  refine e_v 1 ?_
  refine ea_nil ?_
  refine ⟨_, rfl, rfl, ?_⟩
  refine u_take (by walk_at "sc") ?_
  intro v1 va1 vb1
  first | refine w_add ?_ | refine w_catT (by walk_at "sc") ?_ | refine w_addS (by walk_at "sc") ?_ | refine w_catL (by walk_at "sc") ?_
  show S _ _ _ [_, _, _, _, _, _, _, _, _, _] _
  obtain ⟨lim, hlim⟩ : ∃ lim : Nat, 1 + v1 = (lim : Int) := ⟨(1 + v1).toNat, by omega⟩
  rw [hlim]
  have h1 : 1 ≤ lim := by omega
  have h30 : lim ≤ 30 := by omega
  have hml : (lim : Int) ≤ m := by omega
  refine s_cons (s_aN 3 sc__law_parts.nd (en_lst ?_))
  refine ea_nil ?_
  refine ⟨Nat.le_of_ble_eq_true rfl, ?_⟩
  show S _ _ _ [_, _, _, _, _, _, _, _, _, _] _
  refine s_cut (fun G => ∃ (l : List Int) (g4 : Sl), G = [.sh (.adr b), .sh (.int m), .sh (.int (lim : Nat)), .ow (.lst (l.map .int)), g4, .no, .no, .no, .no, .no] ∧ l.Pairwise (· < ·) ∧ (∀ z ∈ l, 1 ≤ z ∧ z < lim) ∧ l.length < lim) (s_for (passes_of rfl) rfl ?_) ?_
  · refine i_range2 (by rfl) m_range ?_
    refine ea_cons ?_
    refine e_int ?_
    refine ea_cons ?_
    refine e_v 2 ?_
    refine ea_nil ?_
    refine ⟨_, _, rfl, by omega, ?_⟩
    refine ⟨fun i G => ∃ (l : List Int) (g4 : Sl), G = [.sh (.adr b), .sh (.int m), .sh (.int (lim : Nat)), .ow (.lst (l.map .int)), g4, .no, .no, .no, .no, .no] ∧ l.Pairwise (· < ·) ∧ (∀ z ∈ l, 1 ≤ z ∧ z < 1 + (i : Nat)) ∧ l.length ≤ i, ⟨[], _, rfl, .nil, (fun z hz => nomatch hz), Nat.le_refl _⟩, ?_, ?_⟩
    · rintro i d G hd ⟨l, g4, rfl, hp, hb, hll⟩
      obtain ⟨hi, rfl⟩ := rangeD_get hd
      refine ⟨_, (a_n 4 sc__law_parts.nd), ?_⟩
      show S _ _ _ [_, _, _, _, _, _, _, _, _, _] _
      refine s_one (s_if ?_)
      refine t_cmp ?_
      refine e_callX c__law_take hr (by rfl) ?_
      refine ea_cons ?_
      refine e_v 0 ?_
      refine ea_cons ?_
      refine e_int ?_
      refine ea_nil ?_
      refine ⟨_, rfl, rfl, ?_⟩
      refine u_take (by walk_at "sc") ?_
      intro v2 va2 vb2
      refine e_int ?_
      refine w_gt ?_
      refine ⟨_, rfl, ?_⟩
      refine ite_b (fun h => ?_) (fun h => ?_)
      · have hl9 : (l.map Dt.int).length < 100000 := by rw [List.length_map]; omega
        refine s_one (s_app 3 rfl rfl (by first | exact .inl rfl | exact .inr (.inl rfl) | exact .inr (.inr rfl)) (by walk_at "sc") ?_)
        refine e_v 4 ?_
        have e : l.map Dt.int ++ [Dt.int (1 + (i : Nat))] = (l ++ [(1 : Int) + (i : Nat)]).map Dt.int := by rw [List.map_append]; rfl
        rw [e]
        refine ⟨l ++ [(1 : Int) + (i : Nat)], _, rfl, ?_, ?_, by rw [List.length_append]; show l.length + 1 ≤ i + 1; omega⟩
        · rw [List.pairwise_append]
          refine ⟨hp, List.pairwise_singleton _ _, fun x hx y hy => ?_⟩
          rw [List.mem_singleton.mp hy]
          exact (hb x hx).2
        · intro z hz
          rcases List.mem_append.mp hz with hz | hz
          · have := hb z hz; omega
          · rw [List.mem_singleton.mp hz]; omega
      · refine s_nil ?_
        exact ⟨_, _, rfl, hp, fun z hz => by have := hb z hz; omega, by omega⟩
    · rintro G ⟨l, g4, rfl, hp, hb, hll⟩
      rw [rangeD_length] at hll hb
      exact ⟨_, _, rfl, hp, fun z hz => by have := hb z hz; omega, by omega⟩
  rintro G ⟨l, g4, rfl, hp, hb, hll⟩
  have hl9 : (l.map Dt.int).length < 100000 := by rw [List.length_map]; omega
  refine s_cons (s_app 3 rfl rfl (by first | exact .inl rfl | exact .inr (.inl rfl) | exact .inr (.inr rfl)) (by walk_at "sc") ?_)
  refine e_v 2 ?_
  show S _ _ _ [_, _, _, _, _, _, _, _, _, _] _
  have e6 : l.map Dt.int ++ [Dt.int (lim : Nat)] = (l ++ [(lim : Int)]).map Dt.int := by rw [List.map_append]; rfl
  rw [e6]
  refine s_cons (s_lc 5 (own := [("_law_k", 9)]) rfl sc__law_parts.nd rfl rfl (sw_true rfl rfl rfl (by decide +kernel)) (blkOk_by (N := N__law_parts) (sc := defScope s__law_parts) (by decide +kernel)) ?_)
  refine i_range1 (by rfl) m_range ?_
  refine ea_cons ?_
  refine e_int ?_
  refine ea_nil ?_
  refine ⟨_, rfl, by walk_at "sc", by walk_at "sc", ?_⟩
  refine' ⟨?lcl1, _, lc_all (fun y => ∃ x : Str, y = .str x ∧ (Wd x ∧ x ≠ w37)) (fun d => [(9, d)]) ?lct1 ?lcm1 ?lce1, ?lcc1⟩
  case lcl1 =>
    simp [rangeD]
  case lct1 =>
    rintro t ht Y ⟨s', H', C, cl, fp, rfl⟩
    exact (a_n 9 sc__law_parts.nd)
  case lcm1 =>
    intro t p hp
    simp at hp
    simp [hp]
  case lce1 =>
    rintro t ht Y ⟨s', H', C, cl, fp, rfl⟩
    refine e_callX c__law_word hr (by rfl) ?_
    refine ea_cons ?_
    refine e_v 0 ?_
    refine ea_nil ?_
    refine ⟨_, rfl, rfl, ?_⟩
    refine u__law_word37 (by walk_at "sc") ?_
    intro x3 wd3 sw3
    exact ⟨_, rfl, by assumption, by assumption⟩
  rintro acc ⟨hal, hac⟩
  obtain ⟨mn, rfl, l2, hmn⟩ := strs_of hac
  have hmn3 : mn.length = 3 := by rw [l2, hal, rangeD_length]; rfl
  show S _ _ _ [_, _, _, _, _, _, _, _, _, _] _
  refine s_cons (s_aO 6 sc__law_parts.nd (ew_dnew ?_))
  show S _ _ _ [_, _, _, _, _, _, _, _, _, _] _
  show S _ _ _ [.sh (.adr b), .sh (.int m), .sh (.int (lim : Nat)), .ow (.lst ((l ++ [(lim : Int)]).map .int)), g4, .sh (.lst (mn.map .str)), .ow (dA Dt.str []), .no, .no, .no] _
  refine s_cut (fun G => ∃ (rl : Al Str) (g4 g7 g8 : Sl), G = [.sh (.adr b), .sh (.int m), .sh (.int (lim : Nat)), .ow (.lst ((l ++ [(lim : Int)]).map .int)), g4, .sh (.lst (mn.map .str)), .ow (dA Dt.str rl), g7, g8, .no] ∧ RlM mn (cnN lim) rl ∧ ∀ j : Nat, j ≤ lim → has rl ((j : Int), (lim : Int) - j) = true) (s_for (passes_of rfl) rfl ?_) ?_
  · refine i_range2 (by rfl) m_range ?_
    refine ea_cons ?_
    refine e_int ?_
    refine ea_cons ?_
    refine e_bin ?_
    refine e_v 2 ?_
    refine e_int ?_
    refine w_add ?_
    refine ea_nil ?_
    refine ⟨_, _, rfl, by omega, ?_⟩
    refine ⟨fun i G => ∃ (rl : Al Str) (g4 g7 g8 : Sl), G = [.sh (.adr b), .sh (.int m), .sh (.int (lim : Nat)), .ow (.lst ((l ++ [(lim : Int)]).map .int)), g4, .sh (.lst (mn.map .str)), .ow (dA Dt.str rl), g7, g8, .no] ∧ RlM mn (cnN i) rl ∧ (i = lim → ∀ j : Nat, j ≤ lim → has rl ((j : Int), (lim : Int) - j) = true), ⟨[], _, _, _, rfl, RlM.nil, fun z => by omega⟩, ?_, ?_⟩
    · rintro i d G hd ⟨rl, g4, g7, g8, rfl, hrl, hfl⟩
      obtain ⟨hi, rfl⟩ := rangeD_get hd
      refine ⟨_, (a_n 4 sc__law_parts.nd), ?_⟩
      show S _ _ _ [_, _, _, _, _, _, _, _, _, _] _
      refine s_one (s_for (passes_of rfl) rfl ?_)
      refine i_range1 (by rfl) m_range ?_
      refine ea_cons ?_
      refine e_bin ?_
      refine e_v 4 ?_
      refine e_int ?_
      first | refine w_add ?_ | refine w_catT (by walk_at "sc") ?_ | refine w_addS (by walk_at "sc") ?_ | refine w_catL (by walk_at "sc") ?_
      refine ea_nil ?_
      refine ⟨_, rfl, by walk_at "sc", by walk_at "sc", ?_⟩
      refine ⟨fun j G => ∃ (rl : Al Str) (g7 g8 : Sl), G = [.sh (.adr b), .sh (.int m), .sh (.int (lim : Nat)), .ow (.lst ((l ++ [(lim : Int)]).map .int)), .sh (.int (1 + (i : Nat))), .sh (.lst (mn.map .str)), .ow (dA Dt.str rl), g7, g8, .no] ∧ RlM mn (cnN i ++ nRow i j) rl ∧ (i + 1 = lim → ∀ z : Nat, z < j → has rl ((z : Int), (lim : Int) - z) = true), ⟨rl, _, _, rfl, by rw [show nRow i 0 = [] from rfl, List.append_nil]; exact hrl, fun _ z hz => by omega⟩, ?_, ?_⟩
      · rintro j d G hd ⟨rl, g7, g8, rfl, hrl, hfl⟩
        obtain ⟨hj, rfl⟩ := rangeD_get hd
        have hlr := rl_lens hrl.1 (by omega) (by omega)
        refine ⟨_, (a_n 7 sc__law_parts.nd), ?_⟩
        show S _ _ _ [_, _, _, _, _, _, _, _, _, _] _
        refine s_cons (s_a 8 sc__law_parts.nd ?_)
        refine e_callX c__law_take hr (by rfl) ?_
        refine ea_cons ?_
        refine e_v 0 ?_
        refine ea_cons ?_
        refine e_int ?_
        refine ea_nil ?_
        refine ⟨_, rfl, rfl, ?_⟩
        refine u_take (by walk_at "sc") ?_
        intro v4 va4 vb4
        show S _ _ _ [_, _, _, _, _, _, _, _, _, _] _
        refine s_one (s_if ?_)
        refine TW.t ?_
        refine' tw_orD ?ha2 (fun hb => ?hb2) ?hc2
        case ha2 =>
          refine t_cmp ?_
          refine e_v 4 ?_
          refine e_v 2 ?_
          first | refine w_eqI ?_ | refine w_eqT ?_ | refine w_eqB ?_ | refine w_eqD hr.units (by walk_at "ok") (by walk_at "ok") ?_
          refine ⟨_, rfl, ?_⟩
          exact rfl
        case hb2 =>
          refine tw_or1 ?_
          refine t_cmp ?_
          refine e_v 8 ?_
          refine e_int ?_
          refine w_lt ?_
          refine ⟨_, rfl, ?_⟩
          exact rfl
        have b0 : 0 ≤ v4 % 3 := by omega
        have b1 : v4 % 3 < ((mn.map Dt.str).length : Nat) := by rw [List.length_map, hmn3]; omega
        have ec : (0 + (j : Nat) : Int) = j := by omega
        refine ite_b (fun h => ?_) (fun h => ?_)
        · refine s_one (s_dputA 6 hr.u1 rfl rfl (by first | exact .inl rfl | exact .inr (.inl rfl) | exact .inr (.inr rfl)) hlr ?_)
          refine e_ix ?_
          refine e_v 5 ?_
          refine e_bin ?_
          refine e_callTy (id := "int") (by rfl) m_int b_int ?_
          refine ea_cons ?_
          refine e_v 8 ?_
          refine ea_nil ?_
          refine wc_int ?_
          refine e_int ?_
          refine w_mod (by decide) ?_
          refine wi_any b0 b1 fun di hdi => ?_
          obtain ⟨x, hx, rfl⟩ := List.mem_map.mp hdi
          refine ⟨_, rfl, ?_⟩
          refine e_kk ?_
          refine ea_cons ?_
          refine e_v 7 ?_
          refine ea_cons ?_
          refine e_bin ?_
          refine e_v 4 ?_
          refine e_v 7 ?_
          refine w_sub ?_
          refine ea_nil ?_
          refine ⟨(_, _), rfl, ?_⟩
          refine ⟨_, rfl, ?_⟩
          have eP : ((0 + (j : Nat) : Int), (1 + (i : Nat) : Int) - (0 + (j : Nat))) = castP (j, i + 1 - j) := Prod.ext ec (by show (1 + (i : Nat) : Int) - (0 + (j : Nat)) = ((i + 1 - j : Nat) : Int); omega)
          rw [eP]
          have r1 := hrl.add (nRow_new (i := i) (j := j) (by omega)) hx (hmn x hx).1
          refine ⟨put rl (castP (j, i + 1 - j)) x, _, _, rfl, by rw [nRow_succ, ← List.append_assoc]; exact r1, fun hL z hz => ?_⟩
          refine has_put ?_
          by_cases e : z = j
          · right
            rw [e]
            exact Prod.ext rfl (by show ((i + 1 - j : Nat) : Int) = (lim : Int) - j; omega)
          · exact .inl (hfl hL z (by omega))
        · refine s_nil ?_
          refine ⟨rl, _, _, rfl, by rw [nRow_succ, ← List.append_assoc]; exact hrl.skip _, fun hL z hz => ?_⟩
          exfalso
          rw [Bool.or_eq_false_iff] at h
          have := of_decide_eq_false h.1
          omega
      · rintro G ⟨rl, g7, g8, rfl, hrl, hfl⟩
        rw [rangeD_length, show (1 + (i : Nat) + 1 : Int).toNat = i + 2 by omega] at hrl hfl
        refine ⟨rl, _, _, _, rfl, by rw [cnN_succ]; exact hrl, fun hL j hj => hfl hL j (by omega)⟩
    · rintro G ⟨rl, g4, g7, g8, rfl, hrl, hfl⟩
      rw [rangeD_length, show ((lim : Nat) + 1 - 1 : Int).toNat = lim by omega] at hrl hfl
      exact ⟨_, _, _, _, rfl, hrl, hfl rfl⟩
  rintro G ⟨rl, g4, g7, g8, rfl, hrl, hfl⟩
  refine s_one (s_ret ?_)
  refine e_tup ?_
  refine ea_cons ?_
  refine e_v 2 ?_
  refine ea_cons ?_
  refine e_v 3 ?_
  refine ea_cons ?_
  refine e_v 6 ?_
  refine ea_nil ?_
  refine ⟨Nat.le_of_ble_eq_true rfl, ?_⟩
  exact hq lim _ rl (vt_of h1 h30 hp hb hll hrl.1 hfl) hml fun e he => (hmn _ (hrl.2 e he)).2

abbrev N_common_divisor : List Str := ["first", "second"]
theorem sc_common_divisor : FnScope N_common_divisor ["first", "second"] (defScope s_common_divisor) := ⟨rfl, rfl, rfl, by decide +kernel, rfl, by decide +kernel, by decide +kernel⟩
theorem ok_common_divisor {f : Addr} {fd : FuncData} {k : Nat} {dvs : List V} {kws : List (Str × V)} (F : FD K "common_divisor" "common_divisor" s_common_divisor dvs kws f fd) (m_abs : mg "abs" = none) : FnOk P w K mg base (L2N.CX P w) (k + 1) f fd ["first", "second"] (spD K 2 ph_gcd) := by
  refine fn_ok F sc_common_divisor rfl fun X cdv A outer s H E ds q xd hX hr hph hl Fr wf xok => ?_
  subst hX
  obtain ⟨a, b, rfl, hq⟩ := hph
  show S _ _ _ [_, _] _
  refine s_cons (s_a 0 sc_common_divisor.nd ?_)
  refine e_callB (id := "abs") (by rfl) m_abs b_abs ?_
  refine ea_cons ?_
  refine e_v 0 ?_
  refine ea_nil ?_
  refine wc_abs ?_
  show S _ _ _ [_, _] _
  refine s_cons (s_a 1 sc_common_divisor.nd ?_)
  refine e_callB (id := "abs") (by rfl) m_abs b_abs ?_
  refine ea_cons ?_
  refine e_v 1 ?_
  refine ea_nil ?_
  refine wc_abs ?_
  show S _ _ _ [_, _] _
  refine s_cons (s_while (fun m G => ∃ x y : Nat, m = y ∧ G = [.sh (.int (x : Int)), .sh (.int (y : Int))] ∧ Nat.gcd x y = Int.gcd a b) b.natAbs ⟨a.natAbs, b.natAbs, rfl, rfl, rfl⟩ (passes_of rfl) fun m G hI => ?_)
  obtain ⟨x, y, rfl, rfl, hg⟩ := hI
  refine t_cmp ?_
  refine e_v 1 ?_
  refine e_int ?_
  refine w_gt ?_
  refine ⟨_, rfl, ?_⟩
  refine ite_b (fun h => ?_) (fun h => ?_)
  · have h' : (0 : Int) < (m : Int) := of_decide_eq_true h
    refine s_one (s_par 0 1 rfl sc_common_divisor.nd rfl rfl (by decide) rfl rfl ?_ (by rfl))
    refine ea_cons ?_
    refine e_v 1 ?_
    refine ea_cons ?_
    refine e_bin ?_
    refine e_v 0 ?_
    refine e_v 1 ?_
    first | refine w_mod (by decide) ?_ | refine w_mod (by walk_at "sc") ?_ | refine w_modN (by walk_at "sc") ?_
    refine ea_nil ?_
    refine ⟨_, _, rfl, ?_⟩
    refine ⟨x % m, Nat.mod_lt _ (by omega), m, x % m, rfl, rfl, ?_⟩
    rw [← hg, Nat.gcd_comm x m, Nat.gcd_rec m x, Nat.gcd_comm]
  · have h' : ¬ (0 : Int) < (m : Int) := of_decide_eq_false h
    have hm : m = 0 := by omega
    subst hm
    refine s_cons (s_ret ?_)
    refine e_v 0 ?_
    rw [Nat.gcd_zero_right] at hg
    rw [← hg] at hq
    exact hq

abbrev N_is_share : List Str := ["value", "num", "den"]
theorem sc_is_share : FnScope N_is_share ["value"] (defScope s_is_share) := ⟨rfl, rfl, rfl, by decide +kernel, rfl, by decide +kernel, by decide +kernel⟩
theorem ok_is_share {f : Addr} {fd : FuncData} {k : Nat} {dvs : List V} {kws : List (Str × V)} (F : FD K "is_share" "is_share" s_is_share dvs kws f fd) (c_common_divisor : Fn P w K mg base k "common_divisor" ["first", "second"] [] (spD K 2 ph_gcd)) : FnOk P w K mg base (L2N.CX P w) (k + 1) f fd ["value"] (spD K 1 ph_is_share) := by
  refine fn_ok F sc_is_share rfl fun X cdv A outer s H E ds q xd hX hr hph hl Fr wf xok => ?_
  subst hX
  obtain ⟨n, d, rfl, hq⟩ := hph
  show S _ _ _ [_, _, _] _
  refine s_cons (s_unpack ?_)
  refine e_v 0 ?_
  refine ⟨_, (a_tup rfl (as_cons (a_n 1 sc_is_share.nd) (as_cons (a_n 2 sc_is_share.nd) as_nil))), ?_⟩
  show S _ _ _ [_, _, _] _
  refine s_cons (s_ret ?_)
  refine' e_andD ?ha3 (fun hb => ?hb3) ?hc3
  case ha3 =>
    refine e_cmp ?_
    refine e_v 2 ?_
    refine e_int ?_
    refine w_ge ?_
    exact rfl
  case hb3 =>
    refine' e_andD ?ha4 (fun hb => ?hb4) ?hc4
    case ha4 =>
      refine' e_chainD ?ha5 ?hc5
      case ha5 =>
        refine e_int ?_
        refine e_v 1 ?_
        refine w_le ?_
        refine ⟨rfl, fun hb => ?_⟩
        refine e_v 2 ?_
        refine w_le ?_
        exact rfl
      exact rfl
    case hb4 =>
      refine e_one ?_
      refine e_cmp ?_
      refine e_call (dds := []) c_common_divisor hr (by rfl) (fun _ => .nil) ?_
      refine ea_cons ?_
      refine e_v 1 ?_
      refine ea_cons ?_
      refine e_v 2 ?_
      refine ea_nil ?_
      refine ⟨rfl, ?_⟩
      refine u_gcd (by walk_at "sc") ?_
      refine e_int ?_
      first | refine w_eqI ?_ | refine w_eqT ?_ | refine w_eqB ?_ | refine w_eqD hr.units (by walk_at "ok") (by walk_at "ok") ?_
      exact rfl
    exact rfl
  exact hq

abbrev N_read_number : List Str := ["text", "most", "char"]
theorem sc_read_number : FnScope N_read_number ["text", "most"] (defScope s_read_number) := ⟨rfl, rfl, rfl, by decide +kernel, rfl, by decide +kernel, by decide +kernel⟩
theorem ok_read_number {f : Addr} {fd : FuncData} {k : Nat} {dvs : List V} {kws : List (Str × V)} (F : FD K "read_number" "read_number" s_read_number dvs kws f fd) (m_any : mg "any" = none) (m_int : mg "int" = none) (m_len : mg "len" = none) : FnOk P w K mg base (L2N.CX P w) (k + 1) f fd ["text", "most"] (spD K 2 ph_read_number) := by
  refine fn_ok F sc_read_number rfl fun X cdv A outer s H E ds q xd hX hr hph hl Fr wf xok => ?_
  subst hX
  obtain ⟨l, most, rfl, ⟨hl1, hm⟩, hq⟩ := hph
  have hlen : (SX.S l).length ≤ sizeLine := by rw [SX.S_len]; exact Nat.le_trans hl1 (by decide)
  show S _ _ _ [_, _, _] _
  refine s_cons (s_if ?_)
  refine TW.t ?_
  refine' tw_orD ?ha6 (fun hb => ?hb6) ?hc6
  case ha6 =>
    refine t_cmp ?_
    refine e_v 0 ?_
    refine e_str ?_
    first | refine w_eqI ?_ | refine w_eqT ?_ | refine w_eqB ?_ | refine w_eqD hr.units (by walk_at "ok") (by walk_at "ok") ?_
    refine ⟨_, rfl, ?_⟩
    exact rfl
  case hb6 =>
    refine' tw_orD ?ha7 (fun hb => ?hb7) ?hc7
    case ha7 =>
      refine t_cmp ?_
      refine e_callB (id := "len") (by rfl) m_len b_len ?_
      refine ea_cons ?_
      refine e_v 0 ?_
      refine ea_nil ?_
      first | refine wc_len_lst ?_ | refine wc_len_tup ?_ | refine wc_len_str (by walk_at "sc") ?_ | refine wc_lenc (fun hn63 => ?_)
      refine e_v 1 ?_
      refine w_gt ?_
      refine ⟨_, rfl, ?_⟩
      exact rfl
    case hb7 =>
      refine tw_or1 ?_
      refine t_val ?_
      refine e_callB (id := "any") (by rfl) m_any b_any ?_
      refine ea_cons ?_
      refine e_lc (own := [("char", 2)]) rfl sc_read_number.nd (blkOk_by (N := N_read_number) (sc := defScope s_read_number) (by decide +kernel)) ?_
      refine i_str ?_
      refine e_v 0 ?_
      refine ⟨_, rfl, ?_⟩
      (refine ⟨by rw [List.length_map, SX.S]; show l.length ≤ 100000; omega, _, lc_boolS (fun c => !decide (c ∈ dg)) 2 (fun c Y bY => by obtain ⟨s', H', C, cl, fp, rfl⟩ := bY; exact a_n 2 sc_read_number.nd) (by simp) (fun c Y bY => by obtain ⟨s', H', C, cl, fp, rfl⟩ := bY; refine e_cmp ?_; refine e_v 2 ?_; refine e_str ?_; refine w_notInS ?_; rfl), fun acc ha => ?_⟩; subst ha)
      refine ea_nil ?_
      refine wc_any rfl ?_
      refine ⟨_, rfl, ?_⟩
      exact rfl
    exact rfl
  rw [SX.S_len]
  have e0 : (SX.S l = Str.ofString "") ↔ l = [] := ⟨fun h => SX.S_inj (b := []) h, fun h => by rw [h]; rfl⟩
  have e1 : (List.take (List.map (fun c => Dt.str { cps := #[c] }) (SX.S l).cps.toList).length (List.map (fun c => !decide (c ∈ dg)) l)) = List.map (fun c => !decide (c ∈ dg)) l := List.take_of_length_le (by rw [List.length_map, List.length_map]; exact Nat.le_refl _)
  rw [e1]
  by_cases hbad : l = [] ∨ most < l.length ∨ (∃ c ∈ l, c ∉ dg)
  · refine ite_t ?_ ?_
    · simp only [Bool.or_eq_true, decide_eq_true_eq, e0, List.any_eq_true, List.mem_map, id]
      rcases hbad with h | h | ⟨c, hc, hd⟩
      · exact .inl h
      · exact .inr (.inl h)
      · exact .inr (.inr ⟨true, ⟨c, hc, by simp [hd]⟩, rfl⟩)
    · unfold rdNum at hq
      rw [if_pos hbad] at hq
      refine s_one (s_ret ?_)
      refine e_un ?_
      refine e_int ?_
      refine w_neg ?_
      exact hq
  · refine ite_f ?_ ?_
    · rw [← Bool.not_eq_true]
      simp only [Bool.or_eq_true, decide_eq_true_eq, e0, List.any_eq_true, List.mem_map, id]
      rintro (h | h | ⟨x, ⟨c, hc, hx⟩, rfl⟩)
      · exact hbad (.inl h)
      · exact hbad (.inr (.inl h))
      · exact hbad (.inr (.inr ⟨c, hc, by simpa using hx⟩))
    · refine s_nil ?_
      have hne : l ≠ [] := fun h => hbad (.inl h)
      have hdig : NumText.AllDigits l := fun c hc => by
        have : c ∈ dg := Classical.byContradiction fun h => hbad (.inr (.inr ⟨c, hc, h⟩))
        unfold dg at this
        simp only [List.mem_cons, List.not_mem_nil, or_false] at this
        omega
      have hlm : (l.length : Int) ≤ most := by
        have := fun h => hbad (.inr (.inl h))
        omega
      obtain ⟨c0, r, rfl⟩ : ∃ c0 r, l = c0 :: r := by
        cases l with
        | nil => exact absurd rfl hne
        | cons c0 r => exact ⟨c0, r, rfl⟩
      unfold rdNum at hq
      rw [if_neg hbad] at hq
      have hint : intText? (SX.S (c0 :: r)) = some ((NumText.digitsVal (c0 :: r) : Nat) : Int) := intText_digits hdig hne (by rw [SX.S_len]; omega)
      have h640 : (SX.S (c0 :: r)).length ≤ 640 := by rw [SX.S_len]; omega
      refine s_cons (s_if ?_)
      refine TW.t ?_
      refine' tw_andD ?ha8 (fun hb => ?hb8) ?hc8
      case ha8 =>
        refine t_cmp ?_
        refine e_ix ?_
        refine e_v 0 ?_
        refine e_int ?_
        refine wi_str hlen (k := c0) (atI_nat (j := 0) rfl) ?_
        refine e_str ?_
        first | refine w_eqI ?_ | refine w_eqT ?_ | refine w_eqB ?_ | refine w_eqD hr.units (by walk_at "ok") (by walk_at "ok") ?_
        refine ⟨_, rfl, ?_⟩
        exact rfl
      case hb8 =>
        refine tw_and1 ?_
        refine t_cmp ?_
        refine e_callB (id := "len") (by rfl) m_len b_len ?_
        refine ea_cons ?_
        refine e_v 0 ?_
        refine ea_nil ?_
        first | refine wc_len_lst ?_ | refine wc_len_tup ?_ | refine wc_len_str (by walk_at "sc") ?_ | refine wc_lenc (fun hn63 => ?_)
        refine e_int ?_
        refine w_gt ?_
        refine ⟨_, rfl, ?_⟩
        exact rfl
      have e3 : ((⟨#[c0]⟩ : Str) = Str.ofString "0") ↔ c0 = 48 := ⟨fun h => by have := SX.S_inj (a := [c0]) (b := [48]) h; exact (List.cons.inj this).1, fun h => by rw [h]; rfl⟩
      rw [SX.S_len]
      by_cases h : (c0 :: r).head? = some 48 ∧ 1 < (c0 :: r).length
      · refine ite_t ?_ ?_
        · have h1 : c0 = 48 := Option.some.inj h.1
          have h2 : (1 : Int) < ((c0 :: r).length : Nat) := by omega
          rw [decide_eq_true (e3.mpr h1), decide_eq_true h2]
          rfl
        · rw [if_pos h] at hq
          refine s_one (s_ret ?_)
          refine e_un ?_
          refine e_int ?_
          refine w_neg ?_
          exact hq
      · refine ite_f ?_ ?_
        · rw [← Bool.not_eq_true, Bool.and_eq_true, decide_eq_true_eq, decide_eq_true_eq, e3]
          rintro ⟨h1, h2⟩
          exact h ⟨by rw [h1]; rfl, by omega⟩
        · refine s_nil ?_
          rw [if_neg h] at hq
          refine s_cons (s_ret ?_)
          refine e_callTy (id := "int") (by rfl) m_int b_int ?_
          refine ea_cons ?_
          refine e_v 0 ?_
          refine ea_nil ?_
          refine wc_intS hint h640 ?_
          exact hq

abbrev N_read_share : List Str := ["text", "num", "slash", "den", "share"]
theorem sc_read_share : FnScope N_read_share ["text"] (defScope s_read_share) := ⟨rfl, rfl, rfl, by decide +kernel, rfl, by decide +kernel, by decide +kernel⟩
theorem ok_read_share {f : Addr} {fd : FuncData} {k : Nat} {dvs : List V} {kws : List (Str × V)} {v_MOST_DIGITS : V} {u_MOST_DIGITS : Value} (F : FD K "read_share" "read_share" s_read_share dvs kws f fd) (c_is_share : Fn P w K mg base k "is_share" ["value"] [] (spD K 1 ph_is_share)) (c_read_number : Fn P w K mg base k "read_number" ["text", "most"] [] (spD K 2 ph_read_number)) (g_MOST_DIGITS : mg "MOST_DIGITS" = some u_MOST_DIGITS) (r_MOST_DIGITS : RelV v_MOST_DIGITS u_MOST_DIGITS) (k_MOST_DIGITS : ∀ F, Rp K F d_MOST_DIGITS v_MOST_DIGITS) : FnOk P w K mg base (L2N.CX P w) (k + 1) f fd ["text"] (spD K 1 ph_read_share) := by
  refine fn_ok F sc_read_share rfl fun X cdv A outer s H E ds q xd hX hr hph hl Fr wf xok => ?_
  subst hX
  obtain ⟨l, rfl, hl1, hq⟩ := hph
  have hlen : (SX.S l).length ≤ 100000 := by rw [SX.S_len]; omega
  show S _ _ _ [_, _, _, _, _] _
  refine s_cons (s_unpack ?_)
  refine e_partition ?_
  refine e_v 0 ?_
  refine ⟨_, rfl, ?_⟩
  refine e_str ?_
  refine ⟨_, rfl, by walk_at "sc", by walk_at "sc", ?_⟩
  refine ⟨_, (a_tup rfl (as_cons (a_n 1 sc_read_share.nd) (as_cons (a_n 2 sc_read_share.nd) (as_cons (a_n 3 sc_read_share.nd) as_nil)))), ?_⟩
  show S _ _ _ [_, _, _, _, _] _
  cases hp : TL.par [47] [] l with
  | none =>
    have e : Txt.partition (SX.S l) (Str.ofString "/") = (SX.S l, SX.S [], SX.S []) := SX.partition_none (b := [47]) (by simp) hp
    have hq0 : q .non := by
      unfold rdShare at hq
      rw [hp] at hq
      exact hq
    rw [e]
    have pz : ([] : List Nat).length ≤ 90000 ∧ (30 : Int) ≤ 600 := ⟨by decide, by decide⟩
    have pl : l.length ≤ 90000 ∧ (30 : Int) ≤ 600 := ⟨hl1, by decide⟩
    refine s_cons (s_a 4 sc_read_share.nd ?_)
    refine e_tup ?_
    refine ea_cons ?_
    refine e_call (dds := []) c_read_number hr (by rfl) (fun _ => .nil) ?_
    refine ea_cons ?_
    refine e_v 1 ?_
    refine ea_cons ?_
    refine e_glob (by rfl) g_MOST_DIGITS r_MOST_DIGITS k_MOST_DIGITS ?_
    refine ea_nil ?_
    refine ⟨rfl, ?_⟩
    refine u_read_number pl ?_
    refine ea_cons ?_
    refine e_call (dds := []) c_read_number hr (by rfl) (fun _ => .nil) ?_
    refine ea_cons ?_
    refine e_v 3 ?_
    refine ea_cons ?_
    refine e_glob (by rfl) g_MOST_DIGITS r_MOST_DIGITS k_MOST_DIGITS ?_
    refine ea_nil ?_
    refine ⟨rfl, ?_⟩
    refine u_read_number pz ?_
    refine ea_nil ?_
    refine ⟨Nat.le_of_ble_eq_true rfl, ?_⟩
    show S _ _ _ [_, _, _, _, _] _
    refine s_cons (s_if ?_)
    refine TW.t ?_
    refine' tw_orD ?ha9 (fun hb => ?hb9) ?hc9
    case ha9 =>
      refine t_cmp ?_
      refine e_v 2 ?_
      refine e_str ?_
      first | refine w_eqI ?_ | refine w_eqT ?_ | refine w_eqB ?_ | refine w_eqD hr.units (by walk_at "ok") (by walk_at "ok") ?_
      refine ⟨_, rfl, ?_⟩
      exact rfl
    case hb9 =>
      refine' tw_orD ?ha10 (fun hb => ?hb10) ?hc10
      case ha10 =>
        refine t_not ?_
        refine t_val ?_
        refine e_call (dds := []) c_is_share hr (by rfl) (fun _ => .nil) ?_
        refine ea_cons ?_
        refine e_v 4 ?_
        refine ea_nil ?_
        refine ⟨rfl, ?_⟩
        refine u_is_share (by walk_at "sc") ?_
        refine ⟨_, rfl, ?_⟩
        exact rfl
      case hb10 =>
        refine' tw_orD ?ha11 (fun hb => ?hb11) ?hc11
        case ha11 =>
          refine t_cmp ?_
          refine e_ix ?_
          refine e_v 4 ?_
          refine e_int ?_
          first | refine wi_tup0 ?_ | refine wi_tup1 ?_ | refine wi_tup2 ?_ | refine wi_tup (by walk_at "sc") ?_ | refine wi_lst (by walk_at "sc") ?_ | refine wi_str (by walk_at "sc") (by walk_at "sc") ?_
          refine e_int ?_
          first | refine w_eqI ?_ | refine w_eqT ?_ | refine w_eqB ?_ | refine w_eqD hr.units (by walk_at "ok") (by walk_at "ok") ?_
          refine ⟨_, rfl, ?_⟩
          exact rfl
        case hb11 =>
          refine tw_or1 ?_
          refine t_cmp ?_
          refine e_ix ?_
          refine e_v 4 ?_
          refine e_int ?_
          first | refine wi_tup0 ?_ | refine wi_tup1 ?_ | refine wi_tup2 ?_ | refine wi_tup (by walk_at "sc") ?_ | refine wi_lst (by walk_at "sc") ?_ | refine wi_str (by walk_at "sc") (by walk_at "sc") ?_
          refine e_ix ?_
          refine e_v 4 ?_
          refine e_int ?_
          first | refine wi_tup0 ?_ | refine wi_tup1 ?_ | refine wi_tup2 ?_ | refine wi_tup (by walk_at "sc") ?_ | refine wi_lst (by walk_at "sc") ?_ | refine wi_str (by walk_at "sc") (by walk_at "sc") ?_
          first | refine w_eqI ?_ | refine w_eqT ?_ | refine w_eqB ?_ | refine w_eqD hr.units (by walk_at "ok") (by walk_at "ok") ?_
          refine ⟨_, rfl, ?_⟩
          exact rfl
        exact rfl
      exact rfl
    refine ite_t (by rfl) ?_
    refine s_one (s_ret ?_)
    refine e_none ?_
    exact hq0
  | some pq =>
    obtain ⟨p, r⟩ := pq
    have e : Txt.partition (SX.S l) (Str.ofString "/") = (SX.S p, SX.S [47], SX.S r) := SX.partition_some (b := [47]) (by simp) hp
    obtain ⟨lp, lr⟩ := par_len hp
    have pp : p.length ≤ 90000 ∧ (30 : Int) ≤ 600 := ⟨by omega, by decide⟩
    have pr : r.length ≤ 90000 ∧ (30 : Int) ≤ 600 := ⟨by omega, by decide⟩
    unfold rdShare at hq
    rw [hp] at hq
    dsimp only at hq
    rw [e]
    refine s_cons (s_a 4 sc_read_share.nd ?_)
    refine e_tup ?_
    refine ea_cons ?_
    refine e_call (dds := []) c_read_number hr (by rfl) (fun _ => .nil) ?_
    refine ea_cons ?_
    refine e_v 1 ?_
    refine ea_cons ?_
    refine e_glob (by rfl) g_MOST_DIGITS r_MOST_DIGITS k_MOST_DIGITS ?_
    refine ea_nil ?_
    refine ⟨rfl, ?_⟩
    refine u_read_number pp ?_
    refine ea_cons ?_
    refine e_call (dds := []) c_read_number hr (by rfl) (fun _ => .nil) ?_
    refine ea_cons ?_
    refine e_v 3 ?_
    refine ea_cons ?_
    refine e_glob (by rfl) g_MOST_DIGITS r_MOST_DIGITS k_MOST_DIGITS ?_
    refine ea_nil ?_
    refine ⟨rfl, ?_⟩
    refine u_read_number pr ?_
    refine ea_nil ?_
    refine ⟨Nat.le_of_ble_eq_true rfl, ?_⟩
    show S _ _ _ [_, _, _, _, _] _
    generalize rdNum p 30 = n at *
    generalize rdNum r 30 = d at *
    refine s_cons (s_if ?_)
    refine TW.t ?_
    refine' tw_orD ?ha12 (fun hb => ?hb12) ?hc12
    case ha12 =>
      refine t_cmp ?_
      refine e_v 2 ?_
      refine e_str ?_
      first | refine w_eqI ?_ | refine w_eqT ?_ | refine w_eqB ?_ | refine w_eqD hr.units (by walk_at "ok") (by walk_at "ok") ?_
      refine ⟨_, rfl, ?_⟩
      exact rfl
    case hb12 =>
      refine' tw_orD ?ha13 (fun hb => ?hb13) ?hc13
      case ha13 =>
        refine t_not ?_
        refine t_val ?_
        refine e_call (dds := []) c_is_share hr (by rfl) (fun _ => .nil) ?_
        refine ea_cons ?_
        refine e_v 4 ?_
        refine ea_nil ?_
        refine ⟨rfl, ?_⟩
        refine u_is_share (by walk_at "sc") ?_
        refine ⟨_, rfl, ?_⟩
        exact rfl
      case hb13 =>
        refine' tw_orD ?ha14 (fun hb => ?hb14) ?hc14
        case ha14 =>
          refine t_cmp ?_
          refine e_ix ?_
          refine e_v 4 ?_
          refine e_int ?_
          first | refine wi_tup0 ?_ | refine wi_tup1 ?_ | refine wi_tup2 ?_ | refine wi_tup (by walk_at "sc") ?_ | refine wi_lst (by walk_at "sc") ?_ | refine wi_str (by walk_at "sc") (by walk_at "sc") ?_
          refine e_int ?_
          first | refine w_eqI ?_ | refine w_eqT ?_ | refine w_eqB ?_ | refine w_eqD hr.units (by walk_at "ok") (by walk_at "ok") ?_
          refine ⟨_, rfl, ?_⟩
          exact rfl
        case hb14 =>
          refine tw_or1 ?_
          refine t_cmp ?_
          refine e_ix ?_
          refine e_v 4 ?_
          refine e_int ?_
          first | refine wi_tup0 ?_ | refine wi_tup1 ?_ | refine wi_tup2 ?_ | refine wi_tup (by walk_at "sc") ?_ | refine wi_lst (by walk_at "sc") ?_ | refine wi_str (by walk_at "sc") (by walk_at "sc") ?_
          refine e_ix ?_
          refine e_v 4 ?_
          refine e_int ?_
          first | refine wi_tup0 ?_ | refine wi_tup1 ?_ | refine wi_tup2 ?_ | refine wi_tup (by walk_at "sc") ?_ | refine wi_lst (by walk_at "sc") ?_ | refine wi_str (by walk_at "sc") (by walk_at "sc") ?_
          first | refine w_eqI ?_ | refine w_eqT ?_ | refine w_eqB ?_ | refine w_eqD hr.units (by walk_at "ok") (by walk_at "ok") ?_
          refine ⟨_, rfl, ?_⟩
          exact rfl
        exact rfl
      exact rfl
    have e2 : (decide (SX.S [47] = Str.ofString "") || (!isShare n d || (decide (n = 0) || decide (n = d)))) = !okSh n d := by
      rw [decide_eq_false (show ¬ SX.S [47] = Str.ofString "" by decide)]
      unfold okSh
      cases isShare n d <;> cases decide (n = 0) <;> cases decide (n = d) <;> rfl
    rw [e2]
    cases hk : okSh n d
    · refine ite_t rfl ?_
      rw [if_neg (by rw [hk]; decide)] at hq
      refine s_one (s_ret ?_)
      refine e_none ?_
      exact hq
    · refine ite_f rfl ?_
      refine s_nil ?_
      rw [if_pos hk] at hq
      refine s_cons (s_ret ?_)
      refine e_v 4 ?_
      exact hq

abbrev N_read_word : List Str := ["word", "kind", "share"]
theorem sc_read_word : FnScope N_read_word ["word"] (defScope s_read_word) := ⟨rfl, rfl, rfl, by decide +kernel, rfl, by decide +kernel, by decide +kernel⟩
theorem ok_read_word {f : Addr} {fd : FuncData} {k : Nat} {dvs : List V} {kws : List (Str × V)} {C_InvalidWord : Addr} {v_KINDS : V} {u_KINDS : Value} {v_SILENT : V} {u_SILENT : Value} (F : FD K "read_word" "read_word" s_read_word dvs kws f fd) (m_len : mg "len" = none) (c_read_share : Fn P w K mg base k "read_share" ["text"] [] (spD K 1 ph_read_share)) (g_InvalidWord : mg "InvalidWord" = some (.ref C_InvalidWord)) (er_InvalidWord : Er P w K mg base 1 "InvalidWord" "word" "word" C_InvalidWord) (hk2 : 2 ≤ k) (g_KINDS : mg "KINDS" = some u_KINDS) (r_KINDS : RelV v_KINDS u_KINDS) (k_KINDS : ∀ F, Rp K F d_KINDS v_KINDS) (g_SILENT : mg "SILENT" = some u_SILENT) (r_SILENT : RelV v_SILENT u_SILENT) (k_SILENT : ∀ F, Rp K F d_SILENT v_SILENT) : FnOk P w K mg base (L2N.CX P w) (k + 1) f fd ["word"] (spD K 1 (ph_read_word C_InvalidWord)) := by
  refine fn_okE F sc_read_word rfl fun X cdv A outer s H E ds q xd hX hr hph hl tk => ?_
  subst hX
  obtain ⟨l, rfl, hl1, hq, hx⟩ := hph
  have hlen : (SX.S l).length ≤ 100000 := by rw [SX.S_len]; omega
  show S _ _ _ [_, _, _] _
  refine s_cons (s_if ?_)
  refine t_cmp ?_
  refine e_v 0 ?_
  refine e_glob (by rfl) g_SILENT r_SILENT k_SILENT ?_
  first | refine w_eqI ?_ | refine w_eqT ?_ | refine w_eqB ?_ | refine w_eqD hr.units (by walk_at "ok") (by walk_at "ok") ?_
  refine ⟨_, rfl, ?_⟩
  by_cases h0 : SX.S l = Str.ofString "no word"
  · refine ite_t (decide_eq_true h0) ?_
    refine s_one (s_ret ?_)
    refine e_tup ?_
    refine ea_cons ?_
    refine e_glob (by rfl) g_SILENT r_SILENT k_SILENT ?_
    refine ea_cons ?_
    refine e_none ?_
    refine ea_nil ?_
    refine ⟨Nat.le_of_ble_eq_true rfl, ?_⟩
    exact hq (Str.ofString "no word", none) (by unfold rdWord; rw [if_pos h0])
  · refine ite_f (decide_eq_false h0) ?_
    refine s_nil ?_
    have e1 : rdWord l = match tryK "at least" l with
      | some r => some (Str.ofString "at least", some r)
      | none => match tryK "below" l with
        | some r => some (Str.ofString "below", some r)
        | none => none := by unfold rdWord; exact if_neg h0
    refine s_cons (s_for (passes_of rfl) rfl (i_tup ?_))
    refine e_glob (by rfl) g_KINDS r_KINDS k_KINDS ?_
    refine ⟨_, rfl, ?_⟩
    refine ⟨fun i G => ∃ g h, G = [.sh (.str (SX.S l)), g, h] ∧ (1 ≤ i → tryK "at least" l = none) ∧ (2 ≤ i → tryK "below" l = none), ⟨_, _, rfl, fun z => absurd z (by decide), fun z => absurd z (by decide)⟩, ?_, ?_⟩
    · rintro i d G hd ⟨g, h, rfl, h1, h2⟩
      obtain ⟨kd, rfl, hkd⟩ : ∃ kd : Str, d = .str kd ∧ ((i = 0 ∧ kd = "at least") ∨ (i = 1 ∧ kd = "below")) := by
        match i, hd with
        | 0, hd => exact ⟨_, (Option.some.inj hd).symm, .inl ⟨rfl, rfl⟩⟩
        | 1, hd => exact ⟨_, (Option.some.inj hd).symm, .inr ⟨rfl, rfl⟩⟩
        | i + 2, hd => cases hd
      have hk1 : kd.length ≤ 20 := by rcases hkd with ⟨_, rfl⟩ | ⟨_, rfl⟩ <;> decide
      have hk2 : kd.length ≤ sizeLine := Nat.le_trans hk1 (by decide)
      have fin : tryK kd l = none → ∀ g h, ∃ g' h', ([.sh (.str (SX.S l)), g, h] : List Sl) = [.sh (.str (SX.S l)), g', h'] ∧ (1 ≤ i + 1 → tryK "at least" l = none) ∧ (2 ≤ i + 1 → tryK "below" l = none) := fun hn g h => by
        refine ⟨g, h, rfl, fun _ => ?_, fun z => ?_⟩
        · rcases hkd with ⟨_, rfl⟩ | ⟨rfl, _⟩
          · exact hn
          · exact h1 (by omega)
        · rcases hkd with ⟨rfl, _⟩ | ⟨_, rfl⟩
          · omega
          · exact hn
      refine ⟨_, (a_n 1 sc_read_word.nd), ?_⟩
      show S _ _ _ [_, _, _] _
      refine s_one (s_if ?_)
      have ha : kd.length + (Str.ofString " ").length ≤ sizeLine := Nat.le_trans (Nat.add_le_add hk1 (show (Str.ofString " ").length ≤ 1 by decide)) (by decide)
      refine t_val ?_
      refine e_startswith ?_
      refine e_v 0 ?_
      refine ⟨_, rfl, ?_⟩
      refine e_bin ?_
      refine e_v 1 ?_
      refine e_str ?_
      refine w_addS ha ?_
      refine ⟨_, rfl, ?_⟩
      refine ⟨_, rfl, ?_⟩
      cases hs : Txt.startswith (SX.S l) (kd ++ Str.ofString " ")
      · refine ite_f rfl ?_
        exact s_nil (fin (by unfold tryK; rw [if_neg (by rw [hs]; decide)]) _ _)
      · refine ite_t rfl ?_
        have et : tryK kd l = rdShare (restL kd l) := by unfold tryK; rw [if_pos hs]
        have hrl : (restL kd l).length ≤ 90000 := by
          have h5 := cutS_length (SX.S l) (some ((kd.length : Int) + 1)) none
          have h6 : (SX.S l).length = l.length := SX.S_len l
          have e : (restL kd l).length = (cutS (SX.S l) (some ((kd.length : Int) + 1)) none).length := by unfold restL; rw [Array.length_toList]; rfl
          omega
        refine s_cons (s_a 2 sc_read_word.nd ?_)
        refine e_call (dds := []) c_read_share hr (by rfl) (fun _ => .nil) ?_
        refine ea_cons ?_
        refine e_slice ?_
        refine e_v 0 ?_
        refine eo_some ?_
        refine e_bin ?_
        refine e_callB (id := "len") (by rfl) m_len b_len ?_
        refine ea_cons ?_
        refine e_v 1 ?_
        refine ea_nil ?_
        first | refine wc_len_lst ?_ | refine wc_len_tup ?_ | refine wc_len_str (by walk_at "sc") ?_ | refine wc_lenc (fun hn63 => ?_)
        refine e_int ?_
        first | refine w_add ?_ | refine w_catT (by walk_at "sc") ?_ | refine w_addS (by walk_at "sc") ?_ | refine w_catL (by walk_at "sc") ?_
        refine ⟨_, rfl, ?_⟩
        refine eo_none ?_
        first | refine wsl_lst ?_ | refine wsl_tup ?_ | refine wsl_str (by walk_at "sc") ?_
        refine ea_nil ?_
        refine ⟨rfl, ?_⟩
        refine u_read_share (l := restL kd l) hrl ?_
        show S _ _ _ [_, _, _] _
        rw [← et]
        refine s_one (s_if ?_)
        refine t_cmp ?_
        refine e_v 2 ?_
        refine e_none ?_
        first | refine w_isNN ?_ | refine w_isNB ?_
        refine ⟨_, rfl, ?_⟩
        cases ht : tryK kd l with
        | none =>
          refine ite_f rfl ?_
          exact s_nil (fin ht _ _)
        | some r =>
          refine ite_t rfl ?_
          refine s_one (s_ret ?_)
          refine e_tup ?_
          refine ea_cons ?_
          refine e_v 1 ?_
          refine ea_cons ?_
          refine e_v 2 ?_
          refine ea_nil ?_
          refine ⟨Nat.le_of_ble_eq_true rfl, ?_⟩
          refine hq (kd, some r) ?_
          rw [e1]
          rcases hkd with ⟨_, rfl⟩ | ⟨rfl, rfl⟩
          · rw [ht]
          · rw [h1 (by decide), ht]
    · rintro G ⟨g, h, rfl, h1, h2⟩
      have n1 := h1 (by decide)
      have n2 := h2 (by decide)
      refine s_one (s_raise1 tk er_InvalidWord (hr.mono hk2) (by rfl) ?_)
      refine ea_cons ?_
      refine e_v 0 ?_
      refine ea_nil ?_
      refine ⟨rfl, hx ?_⟩
      rw [e1, n1, n2]

abbrev N_check_table : List Str := ["limit", "looks", "rule", "wins", "losses", "tries", "k"]
theorem sc_check_table : FnScope N_check_table ["limit", "looks", "rule"] (defScope s_check_table) := ⟨rfl, rfl, rfl, by decide +kernel, rfl, by decide +kernel, by decide +kernel⟩
theorem ok_check_table {f : Addr} {fd : FuncData} {k : Nat} {dvs : List V} {kws : List (Str × V)} {C_InvalidTable : Addr} {C_InvalidWord : Addr} {v_MOST_TRIES : V} {u_MOST_TRIES : Value} (F : FD K "check_table" "check_table" s_check_table dvs kws f fd) (m_any : mg "any" = none) (m_len : mg "len" = none) (m_range : mg "range" = none) (c_read_word : Fn P w K mg base k "read_word" ["word"] [] (spD K 1 (ph_read_word C_InvalidWord))) (g_InvalidTable : mg "InvalidTable" = some (.ref C_InvalidTable)) (g_MOST_TRIES : mg "MOST_TRIES" = some u_MOST_TRIES) (r_MOST_TRIES : RelV v_MOST_TRIES u_MOST_TRIES) (k_MOST_TRIES : ∀ F, Rp K F d_MOST_TRIES v_MOST_TRIES) : FnOk P w K mg base (L2N.CX P w) (k + 1) f fd ["limit", "looks", "rule"] (spD K 3 ph_check_tableL) := by
  refine fn_ok F sc_check_table rfl fun X cdv A outer s H E ds q xd hX hr hph hl Fr wf xok => ?_
  subst hX
  obtain ⟨lim, looks, rl, ld, rfl, ⟨hv, hld⟩, hq⟩ := hph
  have hl1 := hv.l1
  have hl30 := hv.l30
  have hlen := hv.len
  obtain ⟨l', el⟩ := hv.last
  have hpos : 0 < looks.length := by rw [el]; simp
  show S _ _ _ [_, _, _, _, _, _, _] _
  show S _ _ _ [.sh (.int (lim : Nat)), .sh ld, .sh (dA .str rl), .no, .no, .no, .no] _
  refine s_cons (s_if ?_)
  refine t_not ?_
  refine' t_chainD ?ha15 ?hc15
  case ha15 =>
    refine e_int ?_
    refine e_v 0 ?_
    refine w_le ?_
    refine ⟨rfl, fun hb => ?_⟩
    refine e_glob (by rfl) g_MOST_TRIES r_MOST_TRIES k_MOST_TRIES ?_
    refine w_le ?_
    exact rfl
  refine ite_f ?_ ?_
  · simp only [Bool.not_eq_false', Bool.and_eq_true, decide_eq_true_eq]
    omega
  refine s_nil ?_
  have a0 : atI (looks.map Dt.int) 0 = some (.int (cf looks 0)) := at_cf rfl hpos
  have a1 : atI (looks.map Dt.int) (-1) = some (.int (lim : Nat)) := by rw [el]; exact at_lastC _ _
  have h0 : 1 ≤ cf looks 0 := hv.one _ (List.mem_of_getElem? (cf_lt hpos))
  refine s_cons (s_if ?_)
  refine TW.t ?_
  refine' tw_orD ?ha16 (fun hb => ?hb16) ?hc16
  case ha16 =>
    refine t_cmp ?_
    refine e_callB (id := "len") (by rfl) m_len b_len ?_
    refine ea_cons ?_
    refine e_v 1 ?_
    refine ea_nil ?_
    refine wc_len_ld hld ?_
    refine e_int ?_
    first | refine w_eqI ?_ | refine w_eqT ?_ | refine w_eqB ?_ | refine w_eqD hr.units (by walk_at "ok") (by walk_at "ok") ?_
    refine ⟨_, rfl, ?_⟩
    exact rfl
  case hb16 =>
    refine' tw_orD ?ha17 (fun hb => ?hb17) ?hc17
    case ha17 =>
      refine t_cmp ?_
      refine e_ix ?_
      refine e_v 1 ?_
      refine e_int ?_
      refine wi_ld hld a0 ?_
      refine e_int ?_
      refine w_lt ?_
      refine ⟨_, rfl, ?_⟩
      exact rfl
    case hb17 =>
      refine tw_or1 ?_
      refine t_cmp ?_
      refine e_ix ?_
      refine e_v 1 ?_
      refine e_un ?_
      refine e_int ?_
      refine w_neg ?_
      refine wi_ld hld a1 ?_
      refine e_v 0 ?_
      first | refine w_neI ?_ | refine w_neT ?_ | refine w_neB ?_ | refine w_neD hr.units (by walk_at "ok") (by walk_at "ok") ?_
      refine ⟨_, rfl, ?_⟩
      exact rfl
    exact rfl
  refine ite_f ?_ ?_
  · rw [List.length_map]
    simp only [Bool.or_eq_false_iff, decide_eq_false_iff_not, Bool.not_eq_false', decide_eq_true_eq]
    exact ⟨by omega, by omega, by simp⟩
  refine s_nil ?_
  have rr : ((looks.map Dt.int).length : Int) - 1 = ((looks.length - 1 : Nat) : Int) := by rw [List.length_map]; omega
  have rb : -(2 ^ 62) ≤ ((looks.map Dt.int).length : Int) - 1 := by rw [rr]; omega
  have rb2 : ((looks.map Dt.int).length : Int) - 1 < 2 ^ 62 := by rw [rr]; omega
  refine s_cons (s_if ?_)
  refine t_val ?_
  refine e_callB (id := "any") (by rfl) m_any b_any ?_
  refine ea_cons ?_
  refine e_lc (own := [("k", 6)]) rfl sc_check_table.nd (blkOk_by (N := N_check_table) (sc := defScope s_check_table) (by decide +kernel)) ?_
  refine i_range1 (by rfl) m_range ?_
  refine ea_cons ?_
  refine e_bin ?_
  refine e_callB (id := "len") (by rfl) m_len b_len ?_
  refine ea_cons ?_
  refine e_v 1 ?_
  refine ea_nil ?_
  refine wc_len_ld hld ?_
  refine e_int ?_
  refine w_sub ?_
  refine ea_nil ?_
  refine ⟨_, rfl, by walk_at "sc", by walk_at "sc", ?_⟩
  rw [rr, rangeD_nat]
  refine' ⟨?lcl18, _, lc_of (List.range (looks.length - 1)) (fun i => Dt.int (i : Nat)) (fun i => .bl (decide (cf looks (i + 1) ≤ cf looks i))) (fun i => [(6, Dt.int (i : Nat))]) ?lct18 ?lcm18 ?lce18, ?lcc18⟩
  case lcl18 =>
    rw [List.length_map, List.length_range]; omega
  case lct18 =>
    rintro t ht Y ⟨s', H', C, cl, fp, rfl⟩
    exact (a_n 6 sc_check_table.nd)
  case lcm18 =>
    intro t p hp
    simp at hp
    simp [hp]
  case lce18 =>
    rintro t ht Y ⟨s', H', C, cl, fp, rfl⟩
    have ht2 := List.mem_range.mp ht
    refine e_cmp ?_
    refine e_ix ?_
    refine e_v 1 ?_
    refine e_v 6 ?_
    refine wi_ld hld (at_cf rfl (by omega)) ?_
    refine e_ix ?_
    refine e_v 1 ?_
    refine e_bin ?_
    refine e_v 6 ?_
    refine e_int ?_
    first | refine w_add ?_ | refine w_catT (by walk_at "sc") ?_ | refine w_addS (by walk_at "sc") ?_ | refine w_catL (by walk_at "sc") ?_
    refine wi_ld hld (at_cf (j := t + 1) (by omega) (by omega)) ?_
    refine w_ge ?_
    rfl
  rintro acc rfl
  rw [take_map_all]
  rw [map_bl]
  refine ea_nil ?_
  refine wc_any rfl ?_
  refine ⟨_, rfl, ?_⟩
  refine ite_f (any_false fun i hi => ?_) ?_
  · have := List.mem_range.mp hi
    have := pw_cf hv.asc (i := i) (by omega)
    exact decide_eq_false (by omega)
  refine s_nil ?_
  refine s_cons (s_forK 2 (fun _ _ => trivial) (passes_of rfl) rfl rfl ?_)
  refine ⟨fun i G => ∃ g3 g4, G = [.sh (.int (lim : Nat)), .sh ld, .sh (dA .str rl), g3, g4, .no, .no], ⟨_, _, rfl⟩, ?_, ?_⟩
  · rintro i q2 G hq2 ⟨g3, g4, rfl⟩
    obtain ⟨e, he, rfl⟩ := keys_get hq2
    obtain ⟨b1, b2, b3, b4⟩ := hv.keys e he
    refine ⟨[(3, e.1.1), (4, e.1.2)], (a_tup rfl (as_cons (a_n 3 sc_check_table.nd) (as_cons (a_n 4 sc_check_table.nd) as_nil))), ?_⟩
    show S _ _ _ [_, _, _, _, _, _, _] _
    refine s_one (s_if ?_)
    refine TW.t ?_
    refine' tw_orD ?ha19 (fun hb => ?hb19) ?hc19
    case ha19 =>
      refine t_cmp ?_
      refine e_v 3 ?_
      refine e_int ?_
      refine w_lt ?_
      refine ⟨_, rfl, ?_⟩
      exact rfl
    case hb19 =>
      refine' tw_orD ?ha20 (fun hb => ?hb20) ?hc20
      case ha20 =>
        refine t_cmp ?_
        refine e_v 4 ?_
        refine e_int ?_
        refine w_lt ?_
        refine ⟨_, rfl, ?_⟩
        exact rfl
      case hb20 =>
        refine tw_or1 ?_
        refine t_not ?_
        refine' t_chainD ?ha21 ?hc21
        case ha21 =>
          refine e_int ?_
          refine e_bin ?_
          refine e_v 3 ?_
          refine e_v 4 ?_
          first | refine w_add ?_ | refine w_catT (by walk_at "sc") ?_ | refine w_addS (by walk_at "sc") ?_ | refine w_catL (by walk_at "sc") ?_
          refine w_le ?_
          refine ⟨rfl, fun hb => ?_⟩
          refine e_v 0 ?_
          refine w_le ?_
          exact rfl
        exact rfl
      exact rfl
    refine ite_f ?_ ?_
    · simp only [Bool.or_eq_false_iff, decide_eq_false_iff_not, Bool.not_eq_false', Bool.and_eq_true, decide_eq_true_eq]
      omega
    exact s_nil ⟨_, _, rfl⟩
  rintro G ⟨g3, g4, rfl⟩
  have rr2 : (lim : Int) + 1 = ((lim + 1 : Nat) : Int) := by omega
  refine s_cons (s_if ?_)
  refine t_val ?_
  refine e_callB (id := "any") (by rfl) m_any b_any ?_
  refine ea_cons ?_
  refine e_lc (own := [("wins", 3)]) rfl sc_check_table.nd (blkOk_by (N := N_check_table) (sc := defScope s_check_table) (by decide +kernel)) ?_
  refine i_range1 (by rfl) m_range ?_
  refine ea_cons ?_
  refine e_bin ?_
  refine e_v 0 ?_
  refine e_int ?_
  first | refine w_add ?_ | refine w_catT (by walk_at "sc") ?_ | refine w_addS (by walk_at "sc") ?_ | refine w_catL (by walk_at "sc") ?_
  refine ea_nil ?_
  refine ⟨_, rfl, by walk_at "sc", by walk_at "sc", ?_⟩
  rw [rr2, rangeD_nat]
  refine' ⟨?lcl22, _, lc_of (List.range (lim + 1)) (fun i => Dt.int (i : Nat)) (fun i => .bl (!has rl ((i : Int), (lim : Int) - (i : Int)))) (fun i => [(3, Dt.int (i : Nat))]) ?lct22 ?lcm22 ?lce22, ?lcc22⟩
  case lcl22 =>
    rw [List.length_map, List.length_range]; omega
  case lct22 =>
    rintro t ht Y ⟨s', H', C, cl, fp, rfl⟩
    exact (a_n 3 sc_check_table.nd)
  case lcm22 =>
    intro t p hp
    simp at hp
    simp [hp]
  case lce22 =>
    rintro t ht Y ⟨s', H', C, cl, fp, rfl⟩
    refine e_dnotinA hr.u1 ?_
    refine e_kk ?_
    refine ea_cons ?_
    refine e_v 3 ?_
    refine ea_cons ?_
    refine e_bin ?_
    refine e_v 0 ?_
    refine e_v 3 ?_
    refine w_sub ?_
    refine ea_nil ?_
    refine ⟨(_, _), rfl, ?_⟩
    refine ⟨_, rfl, ?_⟩
    refine e_v 2 ?_
    refine ⟨_, _, _, rfl, ?_⟩
    rfl
  rintro acc rfl
  rw [take_map_all]
  rw [map_bl]
  refine ea_nil ?_
  refine wc_any rfl ?_
  refine ⟨_, rfl, ?_⟩
  refine ite_f (any_false fun i hi => ?_) ?_
  · have := List.mem_range.mp hi
    rw [hv.full i (by omega)]; rfl
  refine s_nil ?_
  refine s_one (s_for (passes_of rfl) rfl ?_)
  refine i_range2 (by rfl) m_range ?_
  refine ea_cons ?_
  refine e_int ?_
  refine ea_cons ?_
  refine e_bin ?_
  refine e_v 0 ?_
  refine e_int ?_
  first | refine w_add ?_ | refine w_catT (by walk_at "sc") ?_ | refine w_addS (by walk_at "sc") ?_ | refine w_catL (by walk_at "sc") ?_
  refine ea_nil ?_
  refine ⟨_, _, rfl, by walk_at "sc", ?_⟩
  refine ⟨fun i G => ∃ g3 g4 g5, G = [.sh (.int (lim : Nat)), .sh ld, .sh (dA .str rl), g3, g4, g5, .no], ⟨_, _, _, rfl⟩, ?_, ?_⟩
  · rintro i d G hd ⟨g3, g4, g5, rfl⟩
    obtain ⟨hi, rfl⟩ := rangeD_get hd
    refine ⟨_, (a_n 5 sc_check_table.nd), ?_⟩
    show S _ _ _ [_, _, _, _, _, _, _] _
    refine s_one (s_for (passes_of rfl) rfl ?_)
    refine i_range1 (by rfl) m_range ?_
    refine ea_cons ?_
    refine e_bin ?_
    refine e_v 5 ?_
    refine e_int ?_
    first | refine w_add ?_ | refine w_catT (by walk_at "sc") ?_ | refine w_addS (by walk_at "sc") ?_ | refine w_catL (by walk_at "sc") ?_
    refine ea_nil ?_
    refine ⟨_, rfl, by walk_at "sc", by walk_at "sc", ?_⟩
    refine ⟨fun j G => ∃ g3, G = [.sh (.int (lim : Nat)), .sh ld, .sh (dA .str rl), g3, g4, .sh (.int (1 + (i : Nat))), .no], ⟨_, rfl⟩, ?_, ?_⟩
    · rintro j d G hd ⟨g3, rfl⟩
      obtain ⟨hj, rfl⟩ := rangeD_get hd
      refine ⟨_, (a_n 3 sc_check_table.nd), ?_⟩
      show S _ _ _ [_, _, _, _, _, _, _] _
      refine s_one (s_if ?_)
      refine t_dinA hr.u1 ?_
      refine e_kk ?_
      refine ea_cons ?_
      refine e_v 3 ?_
      refine ea_cons ?_
      refine e_bin ?_
      refine e_v 5 ?_
      refine e_v 3 ?_
      refine w_sub ?_
      refine ea_nil ?_
      refine ⟨(_, _), rfl, ?_⟩
      refine ⟨_, rfl, ?_⟩
      refine e_v 2 ?_
      refine ⟨_, _, _, rfl, ?_⟩
      cases hk : lk rl (0 + (j : Nat), 1 + (i : Nat) - (0 + (j : Nat))) with
      | none =>
        refine ite_f (by unfold has; rw [hk]; rfl) ?_
        exact s_nil ⟨_, rfl⟩
      | some x =>
        refine ite_t (by unfold has; rw [hk]; rfl) ?_
        obtain ⟨l, wd, rfl, hl9, hw⟩ := (hv.words _ (lk_mem hk)).rd
        have hrw : l.length ≤ 90000 ∧ rdWord l = some wd := ⟨hl9, hw⟩
        refine s_one (s_expr ?_)
        refine e_call (dds := []) c_read_word hr (by rfl) (fun _ => .nil) ?_
        refine ea_cons ?_
        refine e_dgetA hr.u1 ?_
        refine e_v 2 ?_
        refine ⟨_, _, _, rfl, ?_⟩
        refine e_kk ?_
        refine ea_cons ?_
        refine e_v 3 ?_
        refine ea_cons ?_
        refine e_bin ?_
        refine e_v 5 ?_
        refine e_v 3 ?_
        refine w_sub ?_
        refine ea_nil ?_
        refine ⟨(_, _), rfl, ?_⟩
        refine ⟨_, _, rfl, by walk_at "sc", ?_⟩
        refine ea_nil ?_
        refine ⟨rfl, ?_⟩
        refine u_read_word hrw ?_
        exact ⟨_, rfl⟩
    · rintro G ⟨g3, rfl⟩
      exact ⟨_, _, _, rfl⟩
  · rintro G ⟨g3, g4, g5, rfl⟩
    exact hq

abbrev N_Table_is_end : List Str := ["self", "wins", "losses"]
theorem sc_Table_is_end : FnScope N_Table_is_end ["self", "wins", "losses"] (defScope s_Table_is_end) := ⟨rfl, rfl, rfl, by decide +kernel, rfl, by decide +kernel, by decide +kernel⟩
theorem ok_Table_is_end {f : Addr} {fd : FuncData} {k : Nat} {dvs : List V} {kws : List (Str × V)} {C_Table : Addr} (F : FD K "is_end" "Table.is_end" s_Table_is_end dvs kws f fd) (pc_Table : TableC K C_Table) : FnOk P w K mg base (L2N.CX P w) (k + 1) f fd ["self", "wins", "losses"] (spD K 3 (ph_Table_is_end C_Table)) := by
  refine fn_ok F sc_Table_is_end rfl fun X cdv A outer s H E ds q xd hX hr hph hl Fr wf xok => ?_
  subst hX
  obtain ⟨T, ns, xs, wi, lo, rfl, hq⟩ := hph
  show S _ _ _ [_, _, _] _
  refine s_one (s_ret ?_)
  refine' e_andD ?ha23 (fun hb => ?hb23) ?hc23
  case ha23 =>
    refine e_cmp ?_
    refine e_bin ?_
    refine e_v 1 ?_
    refine e_v 2 ?_
    first | refine w_add ?_ | refine w_catT (by walk_at "sc") ?_ | refine w_addS (by walk_at "sc") ?_ | refine w_catL (by walk_at "sc") ?_
    refine e_fld ?_
    refine e_v 0 ?_
    refine ⟨_, _, _, _, rfl, pc_Table.cl, pc_Table.na_looks, rfl, ?_⟩
    first | refine w_inS ?_ | refine w_inT ?_ | refine w_inL ?_ | refine w_inD hr.u65 (by walk_at "ok") (by walk_at "ok") ?_
    exact rfl
  case hb23 =>
    refine e_one ?_
    refine e_dinA hr.u1 ?_
    refine e_kk ?_
    refine ea_cons ?_
    refine e_v 1 ?_
    refine ea_cons ?_
    refine e_v 2 ?_
    refine ea_nil ?_
    refine ⟨(_, _), rfl, ?_⟩
    refine ⟨_, rfl, ?_⟩
    refine e_fld ?_
    refine e_v 0 ?_
    refine ⟨_, _, _, _, rfl, pc_Table.cl, pc_Table.na_entries, rfl, ?_⟩
    refine ⟨_, _, _, rfl, ?_⟩
    exact rfl
  exact hq

abbrev N_Table_spread : List Str := ["self", "wins", "losses", "found", "tries", "won", "here", "after"]
theorem sc_Table_spread : FnScope N_Table_spread ["self", "wins", "losses"] (defScope s_Table_spread) := ⟨rfl, rfl, rfl, by decide +kernel, rfl, by decide +kernel, by decide +kernel⟩
theorem ok_Table_spread {f : Addr} {fd : FuncData} {k : Nat} {dvs : List V} {kws : List (Str × V)} {C_Table : Addr} (F : FD K "spread" "Table.spread" s_Table_spread dvs kws f fd) (m_range : mg "range" = none) (c_Table_is_end : FnM P w K mg base k C_Table "is_end" ["self", "wins", "losses"] [] (spD K 3 (ph_Table_is_end C_Table))) (pc_Table : TableC K C_Table) : FnOk P w K mg base (L2N.CX P w) (k + 1) f fd ["self", "wins", "losses"] (spD K 3 (ph_Table_spread C_Table)) := by
  refine fn_ok F sc_Table_spread rfl fun X cdv A outer s H E ds q xd hX hr hph hl Fr wf xok => ?_
  subst hX
  obtain ⟨T, ns, xs, wi, lo, rfl, ⟨hno, hlim, hw0, hl0, hwl⟩, hq⟩ := hph
  have hno2 : ((("limit" : Str) :: "looks" :: "entries" :: ns).any fun z => z == ("is_end" : Str)) = false := hno
  show S _ _ _ [_, _, _, _, _, _, _, _] _
  refine s_cons (s_aO 3 sc_Table_spread.nd (ew_disp1A .int hr.u0 ?_))
  refine e_kk ?_
  refine ea_cons ?_
  refine e_v 1 ?_
  refine ea_cons ?_
  refine e_v 2 ?_
  refine ea_nil ?_
  refine ⟨(_, _), rfl, ?_⟩
  refine ⟨_, rfl, ?_⟩
  refine e_int ?_
  refine ⟨_, rfl, ?_⟩
  show S _ _ _ [_, _, _, _, _, _, _, _] _
  refine s_cons (s_for (passes_of rfl) rfl ?_)
  refine i_range2 (by rfl) m_range ?_
  refine ea_cons ?_
  refine e_bin ?_
  refine e_v 1 ?_
  refine e_v 2 ?_
  first | refine w_add ?_ | refine w_catT (by walk_at "sc") ?_ | refine w_addS (by walk_at "sc") ?_ | refine w_catL (by walk_at "sc") ?_
  refine ea_cons ?_
  refine e_fld ?_
  refine e_v 0 ?_
  refine ⟨_, _, _, _, rfl, pc_Table.cl, pc_Table.na_limit, rfl, ?_⟩
  refine ea_nil ?_
  refine ⟨_, _, rfl, by walk_at "sc", ?_⟩
  refine ⟨fun i G => ∃ g5 g6 g7 g8, G = [.sh (tb3 C_Table T ns xs), .sh (.int wi), .sh (.int lo), .ow (dA .int (sprI (T.go (wi, lo)) wi lo i)), g5, g6, g7, g8], ⟨_, _, _, _, rfl⟩, ?_, ?_⟩
  · rintro i d G hd ⟨g5, g6, g7, g8, rfl⟩
    obtain ⟨hi, rfl⟩ := rangeD_get hd
    refine ⟨_, (a_n 4 sc_Table_spread.nd), ?_⟩
    show S _ _ _ [_, _, _, _, _, _, _, _] _
    refine s_one (s_for (passes_of rfl) rfl ?_)
    refine i_range2 (by rfl) m_range ?_
    refine ea_cons ?_
    refine e_v 1 ?_
    refine ea_cons ?_
    refine e_bin ?_
    refine e_bin ?_
    refine e_v 4 ?_
    refine e_v 2 ?_
    refine w_sub ?_
    refine e_int ?_
    refine w_add ?_
    refine ea_nil ?_
    refine ⟨_, _, rfl, by omega, ?_⟩
    refine ⟨fun j G => ∃ g6 g7 g8, G = [.sh (tb3 C_Table T ns xs), .sh (.int wi), .sh (.int lo), .ow (dA .int ((sRow wi (wi + lo + (i : Nat)) j).foldl (stepM (T.go (wi, lo))) (sprI (T.go (wi, lo)) wi lo i))), .sh (.int (wi + lo + (i : Nat))), g6, g7, g8], ⟨_, _, _, rfl⟩, ?_, ?_⟩
    · rintro j d G hd ⟨g6, g7, g8, rfl⟩
      obtain ⟨hj, rfl⟩ := rangeD_get hd
      have hlen := spr_len (T.go (wi, lo)) (w := wi) (l := lo) (n := i) (j := j) (t := wi + lo + (i : Nat)) (by omega) (by omega)
      have est2 : (sRow wi (wi + lo + (i : Nat)) (j + 1)).foldl (stepM (T.go (wi, lo))) (sprI (T.go (wi, lo)) wi lo i) = stepM (T.go (wi, lo)) ((sRow wi (wi + lo + (i : Nat)) j).foldl (stepM (T.go (wi, lo))) (sprI (T.go (wi, lo)) wi lo i)) (wi + (j : Nat), wi + lo + (i : Nat) - (wi + (j : Nat))) := by rw [sRow_succ, List.foldl_append]; rfl
      have fin : ∀ (m : Al Int) (g6 g7 g8 : Sl), m = stepM (T.go (wi, lo)) ((sRow wi (wi + lo + (i : Nat)) j).foldl (stepM (T.go (wi, lo))) (sprI (T.go (wi, lo)) wi lo i)) (wi + (j : Nat), wi + lo + (i : Nat) - (wi + (j : Nat))) → ∃ g6' g7' g8', ([.sh (tb3 C_Table T ns xs), .sh (.int wi), .sh (.int lo), .ow (dA .int m), .sh (.int (wi + lo + (i : Nat))), g6, g7, g8] : List Sl) = [.sh (tb3 C_Table T ns xs), .sh (.int wi), .sh (.int lo), .ow (dA .int ((sRow wi (wi + lo + (i : Nat)) (j + 1)).foldl (stepM (T.go (wi, lo))) (sprI (T.go (wi, lo)) wi lo i))), .sh (.int (wi + lo + (i : Nat))), g6', g7', g8'] := fun m g6 g7 g8 e => ⟨g6, g7, g8, by rw [est2, e]⟩
      generalize (sRow wi (wi + lo + (i : Nat)) j).foldl (stepM (T.go (wi, lo))) (sprI (T.go (wi, lo)) wi lo i) = M at fin hlen ⊢
      refine ⟨_, (a_n 5 sc_Table_spread.nd), ?_⟩
      show S _ _ _ [_, _, _, _, _, _, _, _] _
      refine s_cons (s_a 6 sc_Table_spread.nd ?_)
      refine e_kk ?_
      refine ea_cons ?_
      refine e_v 5 ?_
      refine ea_cons ?_
      refine e_bin ?_
      refine e_v 4 ?_
      refine e_v 5 ?_
      refine w_sub ?_
      refine ea_nil ?_
      refine ⟨(_, _), rfl, ?_⟩
      show S _ _ _ [_, _, _, _, _, _, _, _] _
      refine s_one (s_if (t_bor 3 rfl ?_))
      show VS.T _ _ [_, _, _, _, _, _, _, _] _ _
      refine TW.t ?_
      refine' tw_andD ?ha24 (fun hb => ?hb24) ?hc24
      case ha24 =>
        refine t_dinA hr.u1 ?_
        refine e_v 6 ?_
        refine ⟨_, rfl, ?_⟩
        refine e_v 3 ?_
        refine ⟨_, _, _, rfl, ?_⟩
        exact rfl
      case hb24 =>
        refine tw_and1 ?_
        refine TW.t ?_
        refine' tw_orD ?ha25 (fun hb => ?hb25) ?hc25
        case ha25 =>
          refine t_cmp ?_
          refine e_asK ?_
          refine e_v 6 ?_
          refine ⟨_, rfl, ?_⟩
          refine e_tup ?_
          refine ea_cons ?_
          refine e_v 1 ?_
          refine ea_cons ?_
          refine e_v 2 ?_
          refine ea_nil ?_
          refine ⟨Nat.le_of_ble_eq_true rfl, ?_⟩
          first | refine w_eqI ?_ | refine w_eqT ?_ | refine w_eqB ?_ | refine w_eqD hr.units (by walk_at "ok") (by walk_at "ok") ?_
          refine ⟨_, rfl, ?_⟩
          exact rfl
        case hb25 =>
          refine tw_or1 ?_
          refine t_not ?_
          refine t_val ?_
          refine e_meth (dds := []) pc_Table.cl c_Table_is_end hr (fun _ => .nil) ?_
          refine e_v 0 ?_
          first | refine ⟨_, _, rfl, rfl, ?_⟩ | refine ⟨_, _, rfl, by assumption, ?_⟩
          refine ea_cons ?_
          refine e_v 5 ?_
          refine ea_cons ?_
          refine e_bin ?_
          refine e_v 4 ?_
          refine e_v 5 ?_
          refine w_sub ?_
          refine ea_nil ?_
          refine ⟨rfl, ?_⟩
          refine u_Table_is_end (by walk_at "sc") ?_
          refine ⟨_, rfl, ?_⟩
          exact rfl
        exact rfl
      have eE : ∀ a b : Int, eqD (.tup [.int (a, b).1, .int (a, b).2]) (.tup [.int wi, .int lo]) = decide ((a, b) = (wi, lo)) := fun a b => eqD_rat (a, b) (wi, lo)
      rw [eE]
      cases hk : lk M (wi + (j : Nat), wi + lo + (i : Nat) - (wi + (j : Nat))) with
      | none =>
        refine ite_f (by unfold has; rw [hk]; rfl) ?_
        exact s_nil (fin _ _ _ _ (by rw [stepM_none hk]))
      | some v =>
        cases hg : T.go (wi, lo) (wi + (j : Nat), wi + lo + (i : Nat) - (wi + (j : Nat)))
        · refine ite_f (by unfold has; rw [hk]; exact hg) ?_
          exact s_nil (fin _ _ _ _ (by rw [stepM_stop hg]))
        · refine ite_t (by unfold has; rw [hk]; exact hg) ?_
          have eG := stepM_go hk hg
          rw [eG] at fin
          clear eG hg
          obtain ⟨a, ha⟩ : ∃ a : Int, a = wi + (j : Nat) := ⟨_, rfl⟩
          obtain ⟨t, ht⟩ : ∃ t : Int, t = wi + lo + (i : Nat) := ⟨_, rfl⟩
          rw [← ha, ← ht] at fin hk ⊢
          refine s_one (s_for (passes_of rfl) rfl ?_)
          refine i_tup ?_
          refine e_tup ?_
          refine ea_cons ?_
          refine e_kk ?_
          refine ea_cons ?_
          refine e_bin ?_
          refine e_v 5 ?_
          refine e_int ?_
          first | refine w_add ?_ | refine w_catT (by walk_at "sc") ?_ | refine w_addS (by walk_at "sc") ?_ | refine w_catL (by walk_at "sc") ?_
          refine ea_cons ?_
          refine e_bin ?_
          refine e_v 4 ?_
          refine e_v 5 ?_
          refine w_sub ?_
          refine ea_nil ?_
          refine ⟨(_, _), rfl, ?_⟩
          refine ea_cons ?_
          refine e_kk ?_
          refine ea_cons ?_
          refine e_v 5 ?_
          refine ea_cons ?_
          refine e_bin ?_
          refine e_bin ?_
          refine e_v 4 ?_
          refine e_v 5 ?_
          refine w_sub ?_
          refine e_int ?_
          first | refine w_add ?_ | refine w_catT (by walk_at "sc") ?_ | refine w_addS (by walk_at "sc") ?_ | refine w_catL (by walk_at "sc") ?_
          refine ea_nil ?_
          refine ⟨(_, _), rfl, ?_⟩
          refine ea_nil ?_
          refine ⟨Nat.le_of_ble_eq_true rfl, ?_⟩
          refine ⟨_, rfl, ?_⟩
          have hne : ¬ ((a + 1, t - a) : Int × Int) = (a, t - a) := fun z => by have : a + 1 = a := congrArg Prod.fst z; omega
          refine ⟨fun n G => ∃ g8, G = [.sh (tb3 C_Table T ns xs), .sh (.int wi), .sh (.int lo), .ow (dA .int (if n = 0 then M else if n = 1 then put M (a + 1, t - a) ((lk M (a + 1, t - a)).getD 0 + v) else put (put M (a + 1, t - a) ((lk M (a + 1, t - a)).getD 0 + v)) (a, t - a + 1) ((lk (put M (a + 1, t - a) ((lk M (a + 1, t - a)).getD 0 + v)) (a, t - a + 1)).getD 0 + v))), .sh (.int t), .sh (.int a), .sh (.key (kk (a, t - a))), g8], ⟨_, rfl⟩, ?_, ?_⟩
          · rintro n d G hd ⟨g8, rfl⟩
            match n, hd with
            | 0, hd =>
              cases hd
              rw [if_pos rfl]
              refine ⟨_, (a_n 7 sc_Table_spread.nd), ?_⟩
              show S _ _ _ [_, _, _, _, _, _, _, _] _
              have hl9 : M.length < 100000 := by omega
              refine s_one (s_dputA 3 hr.u1 rfl rfl (by first | exact .inl rfl | exact .inr (.inl rfl) | exact .inr (.inr rfl)) (by walk_at "sc") ?_)
              refine e_bor 3 rfl ?_
              refine e_bin ?_
              refine e_dget2A hr.u1 ?_
              refine e_v 3 ?_
              refine ⟨_, rfl, ?_⟩
              refine e_v 7 ?_
              refine ⟨_, rfl, ?_⟩
              refine e_int ?_
              refine ⟨_, rfl, ?_⟩
              refine e_dgetA hr.u1 ?_
              refine e_v 3 ?_
              refine ⟨_, _, _, rfl, ?_⟩
              refine e_v 6 ?_
              refine ⟨_, _, rfl, by walk_at "sc", ?_⟩
              first | refine w_add ?_ | refine w_catT (by walk_at "sc") ?_ | refine w_addS (by walk_at "sc") ?_ | refine w_catL (by walk_at "sc") ?_
              refine ⟨rfl, ?_⟩
              refine ⟨_, rfl, ?_⟩
              refine e_v 7 ?_
              refine ⟨_, rfl, ?_⟩
              exact ⟨_, rfl⟩
            | 1, hd =>
              cases hd
              rw [if_neg (by decide), if_pos rfl]
              have hl9 : (put M (a + 1, t - a) ((lk M (a + 1, t - a)).getD 0 + v)).length < 100000 := by have := put_len M (a + 1, t - a) ((lk M (a + 1, t - a)).getD 0 + v); omega
              have hk2 : lk (put M (a + 1, t - a) ((lk M (a + 1, t - a)).getD 0 + v)) (a, t - a) = some v := by rw [lk_put, if_neg hne]; exact hk
              generalize put M (a + 1, t - a) ((lk M (a + 1, t - a)).getD 0 + v) = M1 at *
              refine ⟨_, (a_n 7 sc_Table_spread.nd), ?_⟩
              show S _ _ _ [_, _, _, _, _, _, _, _] _
              refine s_one (s_dputA 3 hr.u1 rfl rfl (by first | exact .inl rfl | exact .inr (.inl rfl) | exact .inr (.inr rfl)) (by walk_at "sc") ?_)
              refine e_bor 3 rfl ?_
              refine e_bin ?_
              refine e_dget2A hr.u1 ?_
              refine e_v 3 ?_
              refine ⟨_, rfl, ?_⟩
              refine e_v 7 ?_
              refine ⟨_, rfl, ?_⟩
              refine e_int ?_
              refine ⟨_, rfl, ?_⟩
              refine e_dgetA hr.u1 ?_
              refine e_v 3 ?_
              refine ⟨_, _, _, rfl, ?_⟩
              refine e_v 6 ?_
              refine ⟨_, _, rfl, by walk_at "sc", ?_⟩
              first | refine w_add ?_ | refine w_catT (by walk_at "sc") ?_ | refine w_addS (by walk_at "sc") ?_ | refine w_catL (by walk_at "sc") ?_
              refine ⟨rfl, ?_⟩
              refine ⟨_, rfl, ?_⟩
              refine e_v 7 ?_
              refine ⟨_, rfl, ?_⟩
              exact ⟨_, rfl⟩
            | n + 2, hd => cases hd
          · rintro G ⟨g8, rfl⟩
            exact fin _ _ _ _ rfl
    · rintro G ⟨g6, g7, g8, rfl⟩
      rw [rangeD_length]
      exact ⟨_, _, _, _, by rw [sprI_succ]⟩
  · rintro G ⟨g5, g6, g7, g8, rfl⟩
    rw [rangeD_length]
    refine s_one (s_ret ?_)
    refine e_v 3 ?_
    exact hq

abbrev N_Table___contains__ : List Str := ["self", "counts"]
theorem sc_Table___contains__ : FnScope N_Table___contains__ ["self", "counts"] (defScope s_Table___contains__) := ⟨rfl, rfl, rfl, by decide +kernel, rfl, by decide +kernel, by decide +kernel⟩
theorem ok_Table___contains__ {f : Addr} {fd : FuncData} {k : Nat} {dvs : List V} {kws : List (Str × V)} {C_Table : Addr} (F : FD K "__contains__" "Table.__contains__" s_Table___contains__ dvs kws f fd) (c_Table_is_end : FnM P w K mg base k C_Table "is_end" ["self", "wins", "losses"] [] (spD K 3 (ph_Table_is_end C_Table))) (pc_Table : TableC K C_Table) : FnOk P w K mg base (L2N.CX P w) (k + 1) f fd ["self", "counts"] (spD K 2 (ph_Table___contains__ C_Table)) := by
  refine fn_ok F sc_Table___contains__ rfl fun X cdv A outer s H E ds q xd hX hr hph hl Fr wf xok => ?_
  subst hX
  obtain ⟨T, ns, xs, c, rfl, hno, hq⟩ := hph
  have hno2 : ((("limit" : Str) :: "looks" :: "entries" :: "reached" :: ns).any fun z => z == ("is_end" : Str)) = false := hno
  show S _ _ _ [_, _] _
  refine s_one (s_ret ?_)
  refine' e_andD ?ha26 (fun hb => ?hb26) ?hc26
  case ha26 =>
    refine e_dinA hr.u1 ?_
    refine e_v 1 ?_
    refine ⟨_, rfl, ?_⟩
    refine e_fld ?_
    refine e_v 0 ?_
    refine ⟨_, _, _, _, rfl, pc_Table.cl, pc_Table.na_reached, rfl, ?_⟩
    refine ⟨_, _, _, rfl, ?_⟩
    exact rfl
  case hb26 =>
    refine e_one ?_
    refine e_meth (dds := []) pc_Table.cl c_Table_is_end hr (fun _ => .nil) ?_
    refine e_v 0 ?_
    first | refine ⟨_, _, rfl, rfl, ?_⟩ | refine ⟨_, _, rfl, by assumption, ?_⟩
    refine ea_cons ?_
    refine e_ix ?_
    refine e_asK ?_
    refine e_v 1 ?_
    refine ⟨_, rfl, ?_⟩
    refine e_int ?_
    first | refine wi_tup0 ?_ | refine wi_tup1 ?_ | refine wi_tup2 ?_ | refine wi_tup (by walk_at "sc") ?_ | refine wi_lst (by walk_at "sc") ?_ | refine wi_str (by walk_at "sc") (by walk_at "sc") ?_
    refine ea_cons ?_
    refine e_ix ?_
    refine e_asK ?_
    refine e_v 1 ?_
    refine ⟨_, rfl, ?_⟩
    refine e_int ?_
    first | refine wi_tup0 ?_ | refine wi_tup1 ?_ | refine wi_tup2 ?_ | refine wi_tup (by walk_at "sc") ?_ | refine wi_lst (by walk_at "sc") ?_ | refine wi_str (by walk_at "sc") (by walk_at "sc") ?_
    refine ea_nil ?_
    refine ⟨rfl, ?_⟩
    refine u_Table_is_end (by walk_at "sc") ?_
    exact rfl
  exact hq

abbrev N_Table___init__ : List Str := ["self", "limit", "looks", "rule", "counts", "tries", "wins", "one"]
theorem sc_Table___init__ : FnScope N_Table___init__ ["self", "limit", "looks", "rule"] (defScope s_Table___init__) := ⟨rfl, rfl, rfl, by decide +kernel, rfl, by decide +kernel, by decide +kernel⟩
theorem ok_Table___init__ {f : Addr} {fd : FuncData} {k : Nat} {dvs : List V} {kws : List (Str × V)} {C_Table : Addr} (F : FD K "__init__" "Table.__init__" s_Table___init__ dvs kws f fd) (m_range : mg "range" = none) (m_tuple : mg "tuple" = none) (c_check_table : Fn P w K mg base k "check_table" ["limit", "looks", "rule"] [] (spD K 3 ph_check_tableL)) (c_Table_spread : FnM P w K mg base k C_Table "spread" ["self", "wins", "losses"] [] (spD K 3 (ph_Table_spread C_Table))) (c_Table___contains__ : FnM P w K mg base k C_Table "__contains__" ["self", "counts"] [] (spD K 2 (ph_Table___contains__ C_Table))) (pc_Table : TableC K C_Table) : FnOk P w K mg base (L2N.CX P w) (k + 1) f fd ["self", "limit", "looks", "rule"] (spIni K C_Table 3 (ph_Table___init__L C_Table)) := by
  refine iniD_ok F sc_Table___init__ rfl fun X cdv A outer s H E a ds q xd hX hr hph hl => ?_
  subst hX
  obtain ⟨lim, looks, rl, ld, rfl, ⟨hv, hld⟩, hq⟩ := hph
  have hl1 := hv.l1
  have hl30 := hv.l30
  have hcl := cnt_len hl30
  show S _ _ _ [.ow (.at_ a (.obj C_Table [] [])), .sh (.int (lim : Nat)), .sh ld, .sh (dA .str rl), .no, .no, .no, .no] _
  have kc : Vr lim looks rl ∧ LorT ld (looks.map .int) := ⟨hv, hld⟩
  refine s_cons (s_expr ?_)
  refine e_call (dds := []) c_check_table hr (by rfl) (fun _ => .nil) ?_
  refine ea_cons ?_
  refine e_v 1 ?_
  refine ea_cons ?_
  refine e_v 2 ?_
  refine ea_cons ?_
  refine e_v 3 ?_
  refine ea_nil ?_
  refine ⟨rfl, ?_⟩
  refine u_check_tableL (by walk_at "sc") ?_
  show S _ _ _ [.ow (.at_ a (.obj C_Table [] [])), .sh (.int (lim : Nat)), .sh ld, .sh (dA .str rl), .no, .no, .no, .no] _
  refine s_cons (s_fldO 0 rfl rfl (by first | exact .inl rfl | exact .inr (.inl rfl) | exact .inr (.inr rfl)) pc_Table.cl pc_Table.na_limit (by decide) ?_)
  refine e_v 1 ?_
  show S _ _ _ [.ow (.at_ a (.obj C_Table ["limit"] [.int (lim : Nat)])), .sh (.int (lim : Nat)), .sh ld, .sh (dA .str rl), .no, .no, .no, .no] _
  refine s_cons (s_fldO 0 rfl rfl (by first | exact .inl rfl | exact .inr (.inl rfl) | exact .inr (.inr rfl)) pc_Table.cl pc_Table.na_looks (by decide) ?_)
  refine e_callTy (id := "tuple") (by rfl) m_tuple b_tuple ?_
  refine ea_cons ?_
  refine e_v 2 ?_
  refine ea_nil ?_
  refine wc_tuple_ld hld ?_
  show S _ _ _ [.ow (.at_ a (.obj C_Table ["limit", "looks"] [.int (lim : Nat), .tup (looks.map .int)])), .sh (.int (lim : Nat)), .sh ld, .sh (dA .str rl), .no, .no, .no, .no] _
  refine s_cons (s_lc2 4 (own := [("tries", 5), ("wins", 6)]) (vs1 := [6]) rfl sc_Table___init__.nd rfl rfl (sw_true rfl rfl rfl (by decide +kernel)) (blkOk_by (N := N_Table___init__) (sc := defScope s_Table___init__) (by decide +kernel)) (by decide) ?_)
  refine i_range2 (by rfl) m_range ?_
  refine ea_cons ?_
  refine e_int ?_
  refine ea_cons ?_
  refine e_bin ?_
  refine e_v 1 ?_
  refine e_int ?_
  refine w_add ?_
  refine ea_nil ?_
  refine ⟨_, _, rfl, by omega, ?_⟩
  refine ⟨fun i acc => acc = (cnt i).map fun c => Dt.key (kk c), ⟨rfl, ?_⟩, ?_⟩
  · rintro i d acc hd rfl
    obtain ⟨hi, rfl⟩ := rangeD_get hd
    refine ⟨[(5, .int (1 + (i : Nat)))], fun Y bY => (by obtain ⟨s', H', C, cl, fp, rfl⟩ := bY; exact a_n 5 sc_Table___init__.nd), by simp, ?_⟩
    rintro Y ⟨s', H', C, cl, fp, rfl⟩
    refine i_range1 (by rfl) m_range ?_
    refine ea_cons ?_
    refine e_bin ?_
    refine e_v 5 ?_
    refine e_int ?_
    refine w_add ?_
    refine ea_nil ?_
    refine ⟨_, rfl, by omega, by omega, ?_⟩
    refine ⟨fun j acc => acc = ((cnt i) ++ cRow (1 + (i : Nat)) j).map fun c => Dt.key (kk c), by show _ = List.map _ (cnt i ++ []); rw [List.append_nil], ?_, ?_⟩
    · rintro j d acc hd rfl
      obtain ⟨hj, rfl⟩ := rangeD_get hd
      have hci := cnt_len (n := i) (by omega)
      refine ⟨by rw [List.length_map, List.length_append]; unfold cRow; rw [List.length_map, List.length_range]; omega, [(6, .int (0 + (j : Nat)))], fun Y bY => (by obtain ⟨s', H', C, cl, fp, rfl⟩ := bY; exact a_n 6 sc_Table___init__.nd), by simp, ?_⟩
      rintro Y ⟨s', H', C, cl, fp, rfl⟩
      refine e_kk ?_
      refine ea_cons ?_
      refine e_v 6 ?_
      refine ea_cons ?_
      refine e_bin ?_
      refine e_v 5 ?_
      refine e_v 6 ?_
      refine w_sub ?_
      refine ea_nil ?_
      refine ⟨(_, _), rfl, ?_⟩
      show _ = List.map _ (cnt i ++ cRow (1 + (i : Nat)) (j + 1))
      rw [cRow_succ, ← List.append_assoc, List.map_append, List.map_append, List.map_append, Int.zero_add]
      rfl
    · rintro acc rfl
      rw [rangeD_length, cnt_succ, show (1 + (i : Int) + 1).toNat = i + 2 by omega]
  rintro acc rfl
  rw [rangeD_length, show ((lim : Int) + 1 - 1).toNat = lim by omega]
  show S _ _ _ [.ow (.at_ a (.obj C_Table ["limit", "looks"] [.int (lim : Nat), .tup (looks.map .int)])), .sh (.int (lim : Nat)), .sh ld, .sh (dA .str rl), .sh (.lst ((cnt lim).map fun c => Dt.key (kk c))), .no, .no, .no] _
  refine s_cons (s_fldO 0 rfl rfl (by first | exact .inl rfl | exact .inr (.inl rfl) | exact .inr (.inr rfl)) pc_Table.cl pc_Table.na_entries (by decide) (e_ofW (ew_dc (own := [("one", 7)]) hr.u0 rfl sc_Table___init__.nd (blkOk_by (N := N_Table___init__) (sc := defScope s_Table___init__) (by decide +kernel)) ?_)))
  refine i_lst ?_
  refine e_v 4 ?_
  refine ⟨_, rfl, by rw [List.length_map]; omega, ?_⟩
  refine ⟨fun i ks xs => ks = keysA (((cnt lim).take i).foldl (entStep rl) []) ∧ xs = (((cnt lim).take i).foldl (entStep rl) []).map fun e => Dt.str e.2, ⟨⟨rfl, rfl⟩, ?_⟩, ?_⟩
  · rintro i d ks xs hd ⟨rfl, rfl⟩ hks
    rw [List.getElem?_map] at hd
    obtain ⟨c, hc, rfl⟩ : ∃ c, (cnt lim)[i]? = some c ∧ Dt.key (kk c) = d := by
      cases z : (cnt lim)[i]? with
      | none => rw [z] at hd; cases hd
      | some c => rw [z] at hd; cases hd; exact ⟨c, rfl, rfl⟩
    have et : ((cnt lim).take (i + 1)).foldl (entStep rl) [] = entStep rl (((cnt lim).take i).foldl (entStep rl) []) c := by rw [take_get hc, List.foldl_append]; rfl
    rw [et]
    generalize ((cnt lim).take i).foldl (entStep rl) [] = m at *
    refine ⟨[(7, .key (kk c))], fun Y bY => (by obtain ⟨s', H', C, cl, fp, rfl⟩ := bY; exact a_n 7 sc_Table___init__.nd), by simp, ?_⟩
    rintro Y ⟨s', H', C, cl, fp, rfl⟩
    refine ts_one ?_
    refine t_dinA hr.u1 ?_
    refine e_v 7 ?_
    refine ⟨_, rfl, ?_⟩
    refine e_v 3 ?_
    refine ⟨_, _, _, rfl, ?_⟩
    cases hk : lk rl c with
    | none =>
      have hh : has rl c = false := by unfold has; rw [hk]; rfl
      rw [hh, if_neg (by decide)]
      unfold entStep
      rw [hk]
      exact ⟨rfl, rfl⟩
    | some x =>
      have hh : has rl c = true := by unfold has; rw [hk]; rfl
      rw [hh, if_pos rfl]
      rintro Z ⟨s', H', C, cl, fp, rfl⟩
      refine e_v 7 ?_
      refine ⟨_, rfl, ?_⟩
      rintro Z2 ⟨s', H', C, cl, fp, rfl⟩
      refine e_dgetA hr.u1 ?_
      refine e_v 3 ?_
      refine ⟨_, _, _, rfl, ?_⟩
      refine e_v 7 ?_
      refine ⟨_, _, rfl, hk, ?_⟩
      have e := put_dA Dt.str m c x
      unfold dA at e
      injection e with e1 e2
      unfold entStep
      rw [hk]
      exact ⟨e1, e2⟩
  rintro ks xs ⟨rfl, rfl⟩
  rw [List.length_map, List.take_length]
  show S _ _ _ [.ow (.at_ a (tb3 C_Table (mkT lim looks rl) [] [])), .sh (.int (lim : Nat)), .sh ld, .sh (dA .str rl), .sh (.lst ((cnt lim).map fun c => Dt.key (kk c))), .no, .no, .no] _
  have hsp : noE [] ∧ (mkT lim looks rl).lim ≤ 30 ∧ (0 : Int) ≤ 0 ∧ (0 : Int) ≤ 0 ∧ (0 : Int) + 0 ≤ 1000 := ⟨rfl, hl30, by decide, by decide, by decide⟩
  refine s_cons (s_fldO 0 rfl rfl (by first | exact .inl rfl | exact .inr (.inl rfl) | exact .inr (.inr rfl)) pc_Table.cl pc_Table.na_reached (by decide) (e_bor 0 rfl ?_))
  refine e_meth (dds := []) pc_Table.cl c_Table_spread hr (fun _ => .nil) ?_
  refine e_vA 0 ?_
  first | refine ⟨_, _, rfl, rfl, ?_⟩ | refine ⟨_, _, rfl, by assumption, ?_⟩
  refine ea_cons ?_
  refine e_int ?_
  refine ea_cons ?_
  refine e_int ?_
  refine ea_nil ?_
  refine ⟨rfl, ?_⟩
  refine u_Table_spread (T := mkT lim looks rl) hsp ?_
  refine ⟨fre_dA_int, ?_⟩
  rw [show (((mkT lim looks rl).lim : Int) - (0 + 0)).toNat = lim by show ((lim : Int) - (0 + 0)).toNat = lim; omega]
  show S _ _ _ [.ow (.at_ a (tb4 C_Table (mkT lim looks rl) [] [])), .sh (.int (lim : Nat)), .sh ld, .sh (dA .str rl), .sh (.lst ((cnt lim).map fun c => Dt.key (kk c))), .no, .no, .no] _
  refine s_one (s_fldO 0 rfl rfl (by first | exact .inl rfl | exact .inr (.inl rfl) | exact .inr (.inr rfl)) pc_Table.cl pc_Table.na_stops (by decide) (e_bor 0 rfl ?_))
  refine e_lc (own := [("one", 7)]) rfl sc_Table___init__.nd (blkOk_by (N := N_Table___init__) (sc := defScope s_Table___init__) (by decide +kernel)) ?_
  refine i_lst ?_
  refine e_v 4 ?_
  refine ⟨_, rfl, ?_⟩
  refine' ⟨?lcl27, _, lc_if (cnt lim) (fun c => Dt.key (kk c)) (fun c => stD (c, (mkT lim looks rl).word c)) (fun c => (mkT lim looks rl).isIn c) (fun c => [(7, Dt.key (kk c))]) ?lct27 ?lcm27 ?lcf27 ?lce27, ?lcc27⟩
  case lcl27 =>
    rw [List.length_map]; omega
  case lct27 =>
    rintro t ht Y ⟨s', H', C, cl, fp, rfl⟩
    exact (a_n 7 sc_Table___init__.nd)
  case lcm27 =>
    intro t p hp
    simp at hp
    simp [hp]
  case lcf27 =>
    rintro t ht Y ⟨s', H', C, cl, fp, rfl⟩
    refine t_cmp ?_
    refine e_v 7 ?_
    refine e_vA 0 ?_
    refine w_inO c_Table___contains__ hr ?_
    refine u_Table___contains__ rfl ?_
    refine ⟨_, rfl, ?_⟩
    refine ⟨_, rfl, ?_⟩
    rfl
  case lce27 =>
    rintro t ht hf Y ⟨s', H', C, cl, fp, rfl⟩
    have hw := isIn_word hf
    refine e_bin ?_
    refine e_asK ?_
    refine e_v 7 ?_
    refine ⟨_, rfl, ?_⟩
    refine e_tup ?_
    refine ea_cons ?_
    refine e_dgetA hr.u1 ?_
    refine e_fld ?_
    refine e_vA 0 ?_
    refine ⟨_, _, _, _, rfl, pc_Table.cl, pc_Table.na_entries, rfl, ?_⟩
    refine ⟨_, _, _, rfl, ?_⟩
    refine e_v 7 ?_
    refine ⟨_, _, rfl, by walk_at "sc", ?_⟩
    refine ea_nil ?_
    refine ⟨Nat.le_of_ble_eq_true rfl, ?_⟩
    refine w_catT (Nat.le_of_ble_eq_true rfl) ?_
    rfl
  rintro acc rfl
  rw [take_map_all]
  have es : List.map (fun c => stD (c, (mkT lim looks rl).word c)) ((cnt lim).filter fun c => (mkT lim looks rl).isIn c) = (mkT lim looks rl).stops.map stD := by unfold Tb.stops; rw [List.map_map]; rfl
  rw [es]
  refine ⟨fre_stops 2 _, ?_⟩
  exact ⟨_, _, rfl, hq⟩
theorem okP_Table___init__ {f : Addr} {fd : FuncData} {k : Nat} {dvs : List V} {C_Table : Addr} {kws : List (Str × V)} (F : FD K "__init__" "Table.__init__" s_Table___init__ dvs kws f fd) (m_range : mg "range" = none) (m_tuple : mg "tuple" = none) (c_check_table : Fn P w K mg base k "check_table" ["limit", "looks", "rule"] [] (spD K 3 ph_check_tableL)) (c_Table_spread : FnM P w K mg base k C_Table "spread" ["self", "wins", "losses"] [] (spD K 3 (ph_Table_spread C_Table))) (c_Table___contains__ : FnM P w K mg base k C_Table "__contains__" ["self", "counts"] [] (spD K 2 (ph_Table___contains__ C_Table))) (pc_Table : TableC K C_Table) : FnOk P w K mg base (L2N.CX P w) (k + 1) f fd ["self", "limit", "looks", "rule"] (spIniP K C_Table (ph_Table___init__L C_Table)) := by
  refine iniP_ok F sc_Table___init__ rfl fun X cdv A outer s H E o a b d0 xs ks ys q hX hr hph => ?_
  subst hX
  obtain ⟨lim, looks, rl, ld, e, ⟨hv, hld⟩, hq⟩ := hph
  obtain ⟨e1, e2⟩ := List.cons.inj e
  obtain ⟨e2, e3⟩ := List.cons.inj e2
  obtain ⟨e3, -⟩ := List.cons.inj e3
  subst e1
  have ex : xs = looks.map .int := by
    rcases hld with z | z
    · rw [← e2] at z
      cases z
      rfl
    · rw [← e2] at z
      cases z
  subst ex
  unfold stP
  rw [e3]
  clear e2 hld e
  have hl1 := hv.l1
  have hl30 := hv.l30
  have hcl := cnt_len hl30
  show S _ _ _ [.ow (.at_ o (.obj C_Table [] [])), .sh (.int (lim : Nat)), .ow (.at_ a (.lst (looks.map .int))), .ow (.at_ b (dA .str rl)), .no, .no, .no, .no] _
  have kc : Vr lim looks rl ∧ LorT (.lst (looks.map .int)) (looks.map .int) := ⟨hv, .inl rfl⟩
  refine s_cons (s_expr (e_loose 3 rfl (e_loose 2 rfl (e_bor 3 rfl (e_bor 2 rfl ?_)))))
  refine e_call (dds := []) c_check_table hr (by rfl) (fun _ => .nil) ?_
  refine ea_cons ?_
  refine e_v 1 ?_
  refine ea_cons ?_
  refine e_v 2 ?_
  refine ea_cons ?_
  refine e_v 3 ?_
  refine ea_nil ?_
  refine ⟨rfl, ?_⟩
  refine u_check_tableL (by walk_at "sc") ?_
  refine ⟨rfl, rfl, ?_⟩
  show S _ _ _ [.ow (.at_ o (.obj C_Table [] [])), .sh (.int (lim : Nat)), .ow (.at_ a (.lst (looks.map .int))), .ow (.at_ b (dA .str rl)), .no, .no, .no, .no] _
  refine s_cons (s_fldO 0 rfl rfl (by first | exact .inl rfl | exact .inr (.inl rfl) | exact .inr (.inr rfl)) pc_Table.cl pc_Table.na_limit (by decide) ?_)
  refine e_v 1 ?_
  show S _ _ _ [.ow (.at_ o (.obj C_Table ["limit"] [.int (lim : Nat)])), .sh (.int (lim : Nat)), .ow (.at_ a (.lst (looks.map .int))), .ow (.at_ b (dA .str rl)), .no, .no, .no, .no] _
  refine s_cons (s_fldO 0 rfl rfl (by first | exact .inl rfl | exact .inr (.inl rfl) | exact .inr (.inr rfl)) pc_Table.cl pc_Table.na_looks (by decide) (e_loose 2 rfl (e_bor 2 rfl ?_)))
  refine e_callTy (id := "tuple") (by rfl) m_tuple b_tuple ?_
  refine ea_cons ?_
  refine e_v 2 ?_
  refine ea_nil ?_
  first | refine wc_tuple_lst ?_ | refine wc_tuple_tup ?_
  refine ⟨fre_ints 0 (fun z : Int => z) looks, ?_⟩
  show S _ _ _ [.ow (.at_ o (.obj C_Table ["limit", "looks"] [.int (lim : Nat), .tup (looks.map .int)])), .sh (.int (lim : Nat)), .ow (.at_ a (.lst (looks.map .int))), .ow (.at_ b (dA .str rl)), .no, .no, .no, .no] _
  refine s_cons (s_lc2 4 (own := [("tries", 5), ("wins", 6)]) (vs1 := [6]) rfl sc_Table___init__.nd rfl rfl (sw_true rfl rfl rfl (by decide +kernel)) (blkOk_by (N := N_Table___init__) (sc := defScope s_Table___init__) (by decide +kernel)) (by decide) ?_)
  refine i_range2 (by rfl) m_range ?_
  refine ea_cons ?_
  refine e_int ?_
  refine ea_cons ?_
  refine e_bin ?_
  refine e_v 1 ?_
  refine e_int ?_
  refine w_add ?_
  refine ea_nil ?_
  refine ⟨_, _, rfl, by omega, ?_⟩
  refine ⟨fun i acc => acc = (cnt i).map fun c => Dt.key (kk c), ⟨rfl, ?_⟩, ?_⟩
  · rintro i d acc hd rfl
    obtain ⟨hi, rfl⟩ := rangeD_get hd
    refine ⟨[(5, .int (1 + (i : Nat)))], fun Y bY => (by obtain ⟨s', H', C, cl, fp, rfl⟩ := bY; exact a_n 5 sc_Table___init__.nd), by simp, ?_⟩
    rintro Y ⟨s', H', C, cl, fp, rfl⟩
    refine i_range1 (by rfl) m_range ?_
    refine ea_cons ?_
    refine e_bin ?_
    refine e_v 5 ?_
    refine e_int ?_
    refine w_add ?_
    refine ea_nil ?_
    refine ⟨_, rfl, by omega, by omega, ?_⟩
    refine ⟨fun j acc => acc = ((cnt i) ++ cRow (1 + (i : Nat)) j).map fun c => Dt.key (kk c), by show _ = List.map _ (cnt i ++ []); rw [List.append_nil], ?_, ?_⟩
    · rintro j d acc hd rfl
      obtain ⟨hj, rfl⟩ := rangeD_get hd
      have hci := cnt_len (n := i) (by omega)
      refine ⟨by rw [List.length_map, List.length_append]; unfold cRow; rw [List.length_map, List.length_range]; omega, [(6, .int (0 + (j : Nat)))], fun Y bY => (by obtain ⟨s', H', C, cl, fp, rfl⟩ := bY; exact a_n 6 sc_Table___init__.nd), by simp, ?_⟩
      rintro Y ⟨s', H', C, cl, fp, rfl⟩
      refine e_kk ?_
      refine ea_cons ?_
      refine e_v 6 ?_
      refine ea_cons ?_
      refine e_bin ?_
      refine e_v 5 ?_
      refine e_v 6 ?_
      refine w_sub ?_
      refine ea_nil ?_
      refine ⟨(_, _), rfl, ?_⟩
      show _ = List.map _ (cnt i ++ cRow (1 + (i : Nat)) (j + 1))
      rw [cRow_succ, ← List.append_assoc, List.map_append, List.map_append, List.map_append, Int.zero_add]
      rfl
    · rintro acc rfl
      rw [rangeD_length, cnt_succ, show (1 + (i : Int) + 1).toNat = i + 2 by omega]
  rintro acc rfl
  rw [rangeD_length, show ((lim : Int) + 1 - 1).toNat = lim by omega]
  show S _ _ _ [.ow (.at_ o (.obj C_Table ["limit", "looks"] [.int (lim : Nat), .tup (looks.map .int)])), .sh (.int (lim : Nat)), .ow (.at_ a (.lst (looks.map .int))), .ow (.at_ b (dA .str rl)), .sh (.lst ((cnt lim).map fun c => Dt.key (kk c))), .no, .no, .no] _
  refine s_cons (s_fldO 0 rfl rfl (by first | exact .inl rfl | exact .inr (.inl rfl) | exact .inr (.inr rfl)) pc_Table.cl pc_Table.na_entries (by decide) (e_ofW (ew_loose 3 rfl (ew_bor 3 rfl (ew_dc (own := [("one", 7)]) hr.u0 rfl sc_Table___init__.nd (blkOk_by (N := N_Table___init__) (sc := defScope s_Table___init__) (by decide +kernel)) ?_)))))
  refine i_lst ?_
  refine e_v 4 ?_
  refine ⟨_, rfl, by rw [List.length_map]; omega, ?_⟩
  refine ⟨fun i ks xs => ks = keysA (((cnt lim).take i).foldl (entStep rl) []) ∧ xs = (((cnt lim).take i).foldl (entStep rl) []).map fun e => Dt.str e.2, ⟨⟨rfl, rfl⟩, ?_⟩, ?_⟩
  · rintro i d ks xs hd ⟨rfl, rfl⟩ hks
    rw [List.getElem?_map] at hd
    obtain ⟨c, hc, rfl⟩ : ∃ c, (cnt lim)[i]? = some c ∧ Dt.key (kk c) = d := by
      cases z : (cnt lim)[i]? with
      | none => rw [z] at hd; cases hd
      | some c => rw [z] at hd; cases hd; exact ⟨c, rfl, rfl⟩
    have et : ((cnt lim).take (i + 1)).foldl (entStep rl) [] = entStep rl (((cnt lim).take i).foldl (entStep rl) []) c := by rw [take_get hc, List.foldl_append]; rfl
    rw [et]
    generalize ((cnt lim).take i).foldl (entStep rl) [] = m at *
    refine ⟨[(7, .key (kk c))], fun Y bY => (by obtain ⟨s', H', C, cl, fp, rfl⟩ := bY; exact a_n 7 sc_Table___init__.nd), by simp, ?_⟩
    rintro Y ⟨s', H', C, cl, fp, rfl⟩
    refine ts_one ?_
    refine t_dinA hr.u1 ?_
    refine e_v 7 ?_
    refine ⟨_, rfl, ?_⟩
    refine e_v 3 ?_
    refine ⟨_, _, _, rfl, ?_⟩
    cases hk : lk rl c with
    | none =>
      have hh : has rl c = false := by unfold has; rw [hk]; rfl
      rw [hh, if_neg (by decide)]
      unfold entStep
      rw [hk]
      exact ⟨rfl, rfl⟩
    | some x =>
      have hh : has rl c = true := by unfold has; rw [hk]; rfl
      rw [hh, if_pos rfl]
      rintro Z ⟨s', H', C, cl, fp, rfl⟩
      refine e_v 7 ?_
      refine ⟨_, rfl, ?_⟩
      rintro Z2 ⟨s', H', C, cl, fp, rfl⟩
      refine e_dgetA hr.u1 ?_
      refine e_v 3 ?_
      refine ⟨_, _, _, rfl, ?_⟩
      refine e_v 7 ?_
      refine ⟨_, _, rfl, hk, ?_⟩
      have e := put_dA Dt.str m c x
      unfold dA at e
      injection e with e1 e2
      unfold entStep
      rw [hk]
      exact ⟨e1, e2⟩
  rintro ks xs ⟨rfl, rfl⟩
  rw [List.length_map, List.take_length]
  refine ⟨fre_strs 1 (fun e : (Int × Int) × Str => e.2) _, ?_⟩
  show S _ _ _ [.ow (.at_ o (tb3 C_Table (mkT lim looks rl) [] [])), .sh (.int (lim : Nat)), .ow (.at_ a (.lst (looks.map .int))), .ow (.at_ b (dA .str rl)), .sh (.lst ((cnt lim).map fun c => Dt.key (kk c))), .no, .no, .no] _
  have hsp : noE [] ∧ (mkT lim looks rl).lim ≤ 30 ∧ (0 : Int) ≤ 0 ∧ (0 : Int) ≤ 0 ∧ (0 : Int) + 0 ≤ 1000 := ⟨rfl, hl30, by decide, by decide, by decide⟩
  refine s_cons (s_fldO 0 rfl rfl (by first | exact .inl rfl | exact .inr (.inl rfl) | exact .inr (.inr rfl)) pc_Table.cl pc_Table.na_reached (by decide) (e_bor 0 rfl ?_))
  refine e_meth (dds := []) pc_Table.cl c_Table_spread hr (fun _ => .nil) ?_
  refine e_vA 0 ?_
  first | refine ⟨_, _, rfl, rfl, ?_⟩ | refine ⟨_, _, rfl, by assumption, ?_⟩
  refine ea_cons ?_
  refine e_int ?_
  refine ea_cons ?_
  refine e_int ?_
  refine ea_nil ?_
  refine ⟨rfl, ?_⟩
  refine u_Table_spread (T := mkT lim looks rl) hsp ?_
  refine ⟨fre_dA_int, ?_⟩
  rw [show (((mkT lim looks rl).lim : Int) - (0 + 0)).toNat = lim by show ((lim : Int) - (0 + 0)).toNat = lim; omega]
  show S _ _ _ [.ow (.at_ o (tb4 C_Table (mkT lim looks rl) [] [])), .sh (.int (lim : Nat)), .ow (.at_ a (.lst (looks.map .int))), .ow (.at_ b (dA .str rl)), .sh (.lst ((cnt lim).map fun c => Dt.key (kk c))), .no, .no, .no] _
  refine s_one (s_fldO 0 rfl rfl (by first | exact .inl rfl | exact .inr (.inl rfl) | exact .inr (.inr rfl)) pc_Table.cl pc_Table.na_stops (by decide) (e_bor 0 rfl ?_))
  refine e_lc (own := [("one", 7)]) rfl sc_Table___init__.nd (blkOk_by (N := N_Table___init__) (sc := defScope s_Table___init__) (by decide +kernel)) ?_
  refine i_lst ?_
  refine e_v 4 ?_
  refine ⟨_, rfl, ?_⟩
  refine' ⟨?lcl28, _, lc_if (cnt lim) (fun c => Dt.key (kk c)) (fun c => stD (c, (mkT lim looks rl).word c)) (fun c => (mkT lim looks rl).isIn c) (fun c => [(7, Dt.key (kk c))]) ?lct28 ?lcm28 ?lcf28 ?lce28, ?lcc28⟩
  case lcl28 =>
    rw [List.length_map]; omega
  case lct28 =>
    rintro t ht Y ⟨s', H', C, cl, fp, rfl⟩
    exact (a_n 7 sc_Table___init__.nd)
  case lcm28 =>
    intro t p hp
    simp at hp
    simp [hp]
  case lcf28 =>
    rintro t ht Y ⟨s', H', C, cl, fp, rfl⟩
    refine t_cmp ?_
    refine e_v 7 ?_
    refine e_vA 0 ?_
    refine w_inO c_Table___contains__ hr ?_
    refine u_Table___contains__ rfl ?_
    refine ⟨_, rfl, ?_⟩
    refine ⟨_, rfl, ?_⟩
    rfl
  case lce28 =>
    rintro t ht hf Y ⟨s', H', C, cl, fp, rfl⟩
    have hw := isIn_word hf
    refine e_bin ?_
    refine e_asK ?_
    refine e_v 7 ?_
    refine ⟨_, rfl, ?_⟩
    refine e_tup ?_
    refine ea_cons ?_
    refine e_dgetA hr.u1 ?_
    refine e_fld ?_
    refine e_vA 0 ?_
    refine ⟨_, _, _, _, rfl, pc_Table.cl, pc_Table.na_entries, rfl, ?_⟩
    refine ⟨_, _, _, rfl, ?_⟩
    refine e_v 7 ?_
    refine ⟨_, _, rfl, by walk_at "sc", ?_⟩
    refine ea_nil ?_
    refine ⟨Nat.le_of_ble_eq_true rfl, ?_⟩
    refine w_catT (Nat.le_of_ble_eq_true rfl) ?_
    rfl
  rintro acc rfl
  rw [take_map_all]
  have es : List.map (fun c => stD (c, (mkT lim looks rl).word c)) ((cnt lim).filter fun c => (mkT lim looks rl).isIn c) = (mkT lim looks rl).stops.map stD := by unfold Tb.stops; rw [List.map_map]; rfl
  rw [es]
  refine ⟨fre_stops 2 _, ?_⟩
  exact ⟨_, rfl, rfl, rfl, hq⟩

abbrev N__law_table : List Str := ["_law_parts_here"]
theorem sc__law_table : FnScope N__law_table ["_law_parts_here"] (defScope s__law_table) := ⟨rfl, rfl, rfl, by decide +kernel, rfl, by decide +kernel, by decide +kernel⟩
theorem ok__law_table {f : Addr} {fd : FuncData} {k : Nat} {dvs : List V} {kws : List (Str × V)} {C_Table : Addr} (F : FD K "_law_table" "_law_table" s__law_table dvs kws f fd) (m_dict : mg "dict" = none) (m_list : mg "list" = none) (g_Table : mg "Table" = some (.ref C_Table)) (c_Table : FnC P w K mg base k "Table" 3 (ph_Table___init__L C_Table)) (pc_Table : TableC K C_Table) : FnOk P w K mg base (L2N.CX P w) (k + 1) f fd ["_law_parts_here"] (spD K 1 (ph__law_table C_Table)) := by
  refine fn_ok F sc__law_table rfl fun X cdv A outer s H E ds q xd hX hr hph hl Fr wf xok => ?_
  subst hX
  obtain ⟨lim, looks, rl, rfl, hv, hq⟩ := hph
  obtain ⟨ks, hks, ek⟩ := hv.ord
  have hnd : ((keysA rl).map fun q => (tupleKind (mixKind P w)).hash q).Nodup := by
    have e : keysA rl = ks.map fun p => kk (castP p) := by
      unfold keysA
      rw [show (rl.map fun e => kk e.1) = (rl.map (·.1)).map kk by rw [List.map_map]; rfl, ek, List.map_map]
      rfl
    rw [e, List.map_map]
    exact hash_nd P w (hks.trans (cnN_spots hv.l30))
  have hvr := hv.toVr
  show S _ _ _ [_] _
  refine s_one (s_ret ?_)
  refine e_callC c_Table hr (by rfl) ?_
  refine ea_cons ?_
  refine e_ix ?_
  refine e_v 0 ?_
  refine e_int ?_
  refine wi_tup0 ?_
  refine ea_cons ?_
  refine e_callTy (id := "list") (by rfl) m_list b_list ?_
  refine ea_cons ?_
  refine e_ix ?_
  refine e_v 0 ?_
  refine e_int ?_
  refine wi_tup1 ?_
  refine ea_nil ?_
  refine wc_list_lst ?_
  refine ea_cons ?_
  refine e_ofW (ew_dictOf hr.u2 (by rfl) m_dict ?_)
  refine ea_cons ?_
  refine e_ix ?_
  refine e_v 0 ?_
  refine e_int ?_
  refine wi_tup2 ?_
  refine ea_nil ?_
  refine ⟨_, _, rfl, hnd, ?_⟩
  refine ea_nil ?_
  refine ⟨rfl, ?_⟩
  exact u_Table___init__L hvr hq

def ph_Table_rule (C : Addr) : Ph := fun ds q _ => ∃ T : Tb, ds = [tabD C T] ∧ (T.ent.map (·.1)).Nodup ∧ T.ent.length ≤ 5000 ∧ q (dA .str T.ent)
theorem u_Table_rule {C : Addr} {T : Tb} {q : Dt → Prop} {x : XD} (h : (T.ent.map (·.1)).Nodup ∧ T.ent.length ≤ 5000) (p : q (dA .str T.ent)) : ph_Table_rule C [tabD C T] q x := ⟨T, rfl, h.1, h.2, p⟩
theorem take_put {T : Al Str} (nd : (T.map (·.1)).Nodup) {i : Nat} {e : (Int × Int) × Str} (h : T[i]? = some e) : put (T.take i) e.1 e.2 = T.take (i + 1) := by
  unfold put
  rw [if_neg, take_get h]
  intro hh
  obtain ⟨y, hy⟩ := Option.isSome_iff_exists.mp hh
  have hm := lk_memE hy
  obtain ⟨j, hj⟩ := List.mem_iff_getElem?.mp hm
  have hj2 : j < i := by
    have := (List.getElem?_eq_some_iff.mp hj).1
    rw [List.length_take] at this
    omega
  rw [List.getElem?_take_of_lt hj2] at hj
  have e1 : (T.map (·.1))[j]? = some e.1 := by rw [List.getElem?_map, hj]; rfl
  have e2 : (T.map (·.1))[i]? = some e.1 := by rw [List.getElem?_map, h]; rfl
  obtain ⟨l1, g1⟩ := List.getElem?_eq_some_iff.mp e1
  obtain ⟨l2, g2⟩ := List.getElem?_eq_some_iff.mp e2
  exact List.pairwise_iff_getElem.mp nd j i l1 l2 hj2 (by rw [g1, g2])
abbrev N_Table_rule : List Str := ["self", "one"]
theorem sc_Table_rule : FnScope N_Table_rule ["self"] (defScope s_Table_rule) := ⟨rfl, rfl, rfl, by decide +kernel, rfl, by decide +kernel, by decide +kernel⟩
theorem ok_Table_rule {f : Addr} {fd : FuncData} {k : Nat} {dvs : List V} {kws : List (Str × V)} {C_Table : Addr} (F : FD K "rule" "Table.rule" s_Table_rule dvs kws f fd) (pc_Table : TableC K C_Table) : FnOk P w K mg base (L2N.CX P w) (k + 1) f fd ["self"] (spN K 1 (ph_Table_rule C_Table)) := by
  refine fn_okN F sc_Table_rule rfl fun X cdv A outer s H E ds q xd hX hr hph hl Fr wf xok => ?_
  subst hX
  obtain ⟨T, rfl, nd, hl, hq⟩ := hph
  show S _ _ _ [_, _] _
  show S _ _ _ [.sh (tabD C_Table T), .no] _
  have hkl : (keysA T.ent).length = T.ent.length := by unfold keysA; rw [List.length_map]
  refine s_one (s_retO (ew_dcK 0 (own := [("one", 1)]) hr.u0 rfl sc_Table_rule.nd (blkOk_by (N := N_Table_rule) (sc := defScope s_Table_rule) (by decide +kernel)) rfl (fun _ h => h) rfl pc_Table.cl pc_Table.na_entries rfl (by omega) rfl (by first | exact Or.inl rfl | exact Or.inr (Or.inl rfl) | exact Or.inr (Or.inr rfl)) (J := fun i ks xs => ks = keysA (T.ent.take i) ∧ xs = (T.ent.take i).map fun z => Dt.str z.2) ⟨rfl, rfl⟩ ?_ ?_))
  · rintro i q ks' xs' hq2 ⟨rfl, rfl⟩ hks
    obtain ⟨e, he, rfl⟩ : ∃ e, T.ent[i]? = some e ∧ kk e.1 = q := by
      unfold keysA at hq2
      rw [List.getElem?_map] at hq2
      obtain ⟨e, h1, h2⟩ := Option.map_eq_some_iff.mp hq2
      exact ⟨e, h1, h2⟩
    refine ⟨[(1, .key (kk e.1))], fun Y bY => (by obtain ⟨s', H', C, cl, fp, rfl⟩ := bY; exact a_n 1 sc_Table_rule.nd), by simp, ?_⟩
    rintro Y ⟨s', H', C, cl, fp, rfl⟩
    refine e_v 1 ?_
    refine ⟨_, rfl, ?_⟩
    rintro Z ⟨s', H', C, cl, fp, rfl⟩
    refine e_dgetA hr.u1 ?_
    refine e_fld ?_
    refine e_v 0 ?_
    refine ⟨_, _, _, _, rfl, pc_Table.cl, pc_Table.na_entries, rfl, ?_⟩
    refine ⟨_, _, _, rfl, ?_⟩
    refine e_v 1 ?_
    refine ⟨_, _, rfl, lk_nd nd (List.mem_of_getElem? he), ?_⟩
    refine ⟨rfl, ?_⟩
    have e9 := put_dA Dt.str (T.ent.take i) e.1 e.2
    rw [take_put nd he] at e9
    unfold dA at e9
    injection e9 with e1 e2
    exact ⟨e1, e2⟩
  · rintro ks' xs' ⟨rfl, rfl⟩
    rw [hkl, List.take_length]
    exact hq

def ph_Table_word_at (C : Addr) : Ph := fun ds q _ => ∃ T w l, ds = [tabD C T, .int w, .int l] ∧ q (((lk T.ent (w, l)).map Dt.str).getD .non)
theorem u_Table_word_at {C : Addr} {T : Tb} {w l : Int} {q : Dt → Prop} {x : XD} (_ : True) (p : q (((lk T.ent (w, l)).map Dt.str).getD .non)) : ph_Table_word_at C [tabD C T, .int w, .int l] q x := ⟨T, w, l, rfl, p⟩
abbrev N_Table_word_at : List Str := ["self", "wins", "losses"]
theorem sc_Table_word_at : FnScope N_Table_word_at ["self", "wins", "losses"] (defScope s_Table_word_at) := ⟨rfl, rfl, rfl, by decide +kernel, rfl, by decide +kernel, by decide +kernel⟩
theorem ok_Table_word_at {f : Addr} {fd : FuncData} {k : Nat} {dvs : List V} {kws : List (Str × V)} {C_Table : Addr} (F : FD K "word_at" "Table.word_at" s_Table_word_at dvs kws f fd) (pc_Table : TableC K C_Table) : FnOk P w K mg base (L2N.CX P w) (k + 1) f fd ["self", "wins", "losses"] (spD K 3 (ph_Table_word_at C_Table)) := by
  refine fn_ok F sc_Table_word_at rfl fun X cdv A outer s H E ds q xd hX hr hph hl Fr wf xok => ?_
  subst hX
  obtain ⟨T, wi, lo, rfl, hq⟩ := hph
  show S _ _ _ [_, _, _] _
  refine s_one (s_ret ?_)
  refine e_dget1A hr.u1 ?_
  refine e_fld ?_
  refine e_v 0 ?_
  refine ⟨_, _, _, _, rfl, pc_Table.cl, pc_Table.na_entries, rfl, ?_⟩
  refine ⟨_, _, _, rfl, ?_⟩
  refine e_kk ?_
  refine ea_cons ?_
  refine e_v 1 ?_
  refine ea_cons ?_
  refine e_v 2 ?_
  refine ea_nil ?_
  refine ⟨(_, _), rfl, ?_⟩
  refine ⟨_, rfl, ?_⟩
  exact hq

abbrev N__law_agrees : List Str := ["_law_table_here", "_law_parts_here", "_law_limit", "_law_looks", "_law_rule", "_law_tries", "_law_wins", "_law_here"]
theorem sc__law_agrees : FnScope N__law_agrees ["_law_table_here", "_law_parts_here"] (defScope s__law_agrees) := ⟨rfl, rfl, rfl, by decide +kernel, rfl, by decide +kernel, by decide +kernel⟩
theorem ok__law_agrees {f : Addr} {fd : FuncData} {k : Nat} {dvs : List V} {kws : List (Str × V)} {C_Table : Addr} (F : FD K "_law_agrees" "_law_agrees" s__law_agrees dvs kws f fd) (m_list : mg "list" = none) (m_range : mg "range" = none) (m_tuple : mg "tuple" = none) (c_Table_rule : FnM P w K mg base k C_Table "rule" ["self"] [] (spD K 1 (ph_Table_rule C_Table))) (c_Table_word_at : FnM P w K mg base k C_Table "word_at" ["self", "wins", "losses"] [] (spD K 3 (ph_Table_word_at C_Table))) (c_Table_is_end : FnM P w K mg base k C_Table "is_end" ["self", "wins", "losses"] [] (spD K 3 (ph_Table_is_end C_Table))) (pc_Table : TableC K C_Table) : FnOk P w K mg base (L2N.CX P w) (k + 1) f fd ["_law_table_here", "_law_parts_here"] (spD K 2 (ph__law_agreesV C_Table)) := by
  refine fn_ok F sc__law_agrees rfl fun X cdv A outer s H E ds q xd hX hr hph hl Fr wf xok => ?_
  subst hX
  obtain ⟨lim, looks, rl, rfl, ⟨hv, h20⟩, hq⟩ := hph
  have vr := hv.toVr
  have pk := PtK.of hv
  have eE : (mkT lim looks rl).ent = rl := entOf_self hv
  have okE : ∀ z ∈ rl, PyData.strOk z.2 = true := fun z hz => (vr.words z hz).2
  have okI : okD (.lst (itA .str rl)) = true := itA_ok okE
  have krl : ((mkT lim looks rl).ent.map (·.1)).Nodup ∧ (mkT lim looks rl).ent.length ≤ 5000 := by rw [eE]; exact ⟨pk.2.2, by have := pk.2.1; omega⟩
  have okO : ∀ c, okD (((lk rl c).map Dt.str).getD .non) = true := fun c => by
    cases z : lk rl c with
    | none => rfl
    | some x => exact okE _ (lk_mem z)
  show S _ _ _ [_, _, _, _, _, _, _, _] _
  refine s_cons (s_unpack ?_)
  refine e_v 1 ?_
  refine ⟨_, (a_tup rfl (as_cons (a_n 2 sc__law_agrees.nd) (as_cons (a_n 3 sc__law_agrees.nd) (as_cons (a_n 4 sc__law_agrees.nd) as_nil)))), ?_⟩
  show S _ _ _ [_, _, _, _, _, _, _, _] _
  refine s_cons (s_if ?_)
  refine TW.t ?_
  refine' tw_orD ?ha29 (fun hb => ?hb29) ?hc29
  case ha29 =>
    refine t_cmp ?_
    refine e_fld ?_
    refine e_v 0 ?_
    refine ⟨_, _, _, _, rfl, pc_Table.cl, pc_Table.na_limit, rfl, ?_⟩
    refine e_v 2 ?_
    refine w_neI ?_
    refine ⟨_, rfl, ?_⟩
    exact rfl
  case hb29 =>
    refine' tw_orD ?ha30 (fun hb => ?hb30) ?hc30
    case ha30 =>
      refine t_cmp ?_
      refine e_fld ?_
      refine e_v 0 ?_
      refine ⟨_, _, _, _, rfl, pc_Table.cl, pc_Table.na_looks, rfl, ?_⟩
      refine e_callTy (id := "tuple") (by rfl) m_tuple b_tuple ?_
      refine ea_cons ?_
      refine e_v 3 ?_
      refine ea_nil ?_
      first | refine wc_tuple_lst ?_ | refine wc_tuple_tup ?_
      refine w_neD hr.units (ok_intsT _) (ok_intsT _) ?_
      refine ⟨_, rfl, ?_⟩
      exact rfl
    case hb30 =>
      refine tw_or1 ?_
      refine t_cmp ?_
      refine e_ofW (ew_of (en_listItemsA rfl (by rfl) m_list ?_))
      refine e_meth0 (dds := []) pc_Table.cl c_Table_rule hr (fun _ => .nil) ?_
      refine e_v 0 ?_
      refine ⟨_, _, rfl, rfl, rfl, ?_⟩
      refine u_Table_rule krl ?_
      refine ⟨_, _, _, rfl, ?_⟩
      refine e_ofW (ew_of (en_listItemsA rfl (by rfl) m_list ?_))
      refine e_v 4 ?_
      refine ⟨_, _, _, rfl, ?_⟩
      (rw [eE]; refine w_neD hr.units okI okI ?_)
      refine ⟨_, rfl, ?_⟩
      exact rfl
    exact rfl
  have eqL : eqD (Dt.tup ((mkT lim looks rl).looks.map .int)) (.tup (looks.map .int)) = true := eqD_refl (ok_intsT _)
  rw [eqD_refl okI, eqL, show decide ((((mkT lim looks rl).lim : Nat) : Int) = (lim : Nat)) = true from decide_eq_true rfl]
  refine ite_f rfl ?_
  refine s_nil ?_
  refine s_cons (s_for (passes_of rfl) rfl ?_)
  refine i_range1 (by rfl) m_range ?_
  refine ea_cons ?_
  refine e_bin ?_
  refine e_v 2 ?_
  refine e_int ?_
  first | refine w_add ?_ | refine w_catT (by walk_at "sc") ?_ | refine w_addS (by walk_at "sc") ?_ | refine w_catL (by walk_at "sc") ?_
  refine ea_nil ?_
  refine ⟨_, rfl, by walk_at "sc", by walk_at "sc", ?_⟩
  refine ⟨fun i G => ∃ g5 g6 g7 : Sl, G = [.sh (tabD C_Table (mkT lim looks rl)), .sh (ptD lim looks rl), .sh (.int (lim : Nat)), .sh (.lst (looks.map .int)), .sh (dA .str rl), g5, g6, g7], ⟨_, _, _, rfl⟩, ?_, ?_⟩
  · rintro i d G hd ⟨g5, g6, g7, rfl⟩
    obtain ⟨hi, rfl⟩ := rangeD_get hd
    refine ⟨_, (a_n 5 sc__law_agrees.nd), ?_⟩
    show S _ _ _ [_, _, _, _, _, _, _, _] _
    refine s_one (s_for (passes_of rfl) rfl ?_)
    refine i_range2 (by rfl) m_range ?_
    refine ea_cons ?_
    refine e_un ?_
    refine e_int ?_
    refine w_neg ?_
    refine ea_cons ?_
    refine e_bin ?_
    refine e_v 5 ?_
    refine e_int ?_
    first | refine w_add ?_ | refine w_catT (by walk_at "sc") ?_ | refine w_addS (by walk_at "sc") ?_ | refine w_catL (by walk_at "sc") ?_
    refine ea_nil ?_
    refine ⟨_, _, rfl, by walk_at "sc", ?_⟩
    refine ⟨fun j G => ∃ g6 g7 : Sl, G = [.sh (tabD C_Table (mkT lim looks rl)), .sh (ptD lim looks rl), .sh (.int (lim : Nat)), .sh (.lst (looks.map .int)), .sh (dA .str rl), .sh (.int (0 + (i : Nat))), g6, g7], ⟨_, _, rfl⟩, ?_, ?_⟩
    · rintro j d G hd ⟨g6, g7, rfl⟩
      obtain ⟨hj, rfl⟩ := rangeD_get hd
      refine ⟨_, (a_n 6 sc__law_agrees.nd), ?_⟩
      show S _ _ _ [_, _, _, _, _, _, _, _] _
      refine s_cons (s_a 7 sc__law_agrees.nd ?_)
      refine e_kk ?_
      refine ea_cons ?_
      refine e_v 6 ?_
      refine ea_cons ?_
      refine e_bin ?_
      refine e_v 5 ?_
      refine e_v 6 ?_
      refine w_sub ?_
      refine ea_nil ?_
      refine ⟨(_, _), rfl, ?_⟩
      show S _ _ _ [_, _, _, _, _, _, _, _] _
      refine s_cons (s_if ?_)
      refine t_cmp ?_
      refine e_meth (dds := []) pc_Table.cl c_Table_word_at hr (fun _ => .nil) ?_
      refine e_v 0 ?_
      first | refine ⟨_, _, rfl, rfl, ?_⟩ | refine ⟨_, _, rfl, by assumption, ?_⟩
      refine ea_cons ?_
      refine e_v 6 ?_
      refine ea_cons ?_
      refine e_bin ?_
      refine e_v 5 ?_
      refine e_v 6 ?_
      refine w_sub ?_
      refine ea_nil ?_
      refine ⟨rfl, ?_⟩
      refine u_Table_word_at (by walk_at "sc") ?_
      refine e_dget1A hr.u1 ?_
      refine e_v 4 ?_
      refine ⟨_, _, _, rfl, ?_⟩
      refine e_v 7 ?_
      refine ⟨_, rfl, ?_⟩
      (rw [eE]; refine w_neD hr.units (okO _) (okO _) ?_)
      refine ⟨_, rfl, ?_⟩
      rw [eqD_refl (okO _)]
      refine ite_f rfl ?_
      refine s_nil ?_
      have eS : (mkT lim looks rl).isEnd (-1 + (j : Int), 0 + (i : Int) - (-1 + (j : Int))) = (inI looks (0 + (i : Int)) && has rl (-1 + (j : Int), 0 + (i : Int) - (-1 + (j : Int)))) := by
        rw [isEnd_mk vr]
        unfold stopL
        rw [show (-1 + (j : Int)) + (0 + (i : Int) - (-1 + (j : Int))) = 0 + (i : Int) by omega]
      generalize (-1 + (j : Int)) = a at *
      generalize 0 + (i : Int) = tt at *
      refine s_cons (s_if ?_)
      refine TW.t ?_
      refine' tw_andD ?ha31 (fun hb => ?hb31) ?hc31
      case ha31 =>
        refine t_cmp ?_
        refine e_meth (dds := []) pc_Table.cl c_Table_is_end hr (fun _ => .nil) ?_
        refine e_v 0 ?_
        first | refine ⟨_, _, rfl, rfl, ?_⟩ | refine ⟨_, _, rfl, by assumption, ?_⟩
        refine ea_cons ?_
        refine e_v 6 ?_
        refine ea_cons ?_
        refine e_bin ?_
        refine e_v 5 ?_
        refine e_v 6 ?_
        refine w_sub ?_
        refine ea_nil ?_
        refine ⟨rfl, ?_⟩
        refine u_Table_is_end (by walk_at "sc") ?_
        refine e_bool ?_
        first | refine w_isNN ?_ | refine w_isNB ?_
        refine ⟨_, rfl, ?_⟩
        exact rfl
      case hb31 =>
        refine' tw_andD ?ha32 (fun hb => ?hb32) ?hc32
        case ha32 =>
          refine t_cmp ?_
          refine e_v 5 ?_
          refine e_v 3 ?_
          first | refine w_inS ?_ | refine w_inT ?_ | refine w_inL ?_ | refine w_inD hr.u65 (by walk_at "ok") (by walk_at "ok") ?_
          refine ⟨_, rfl, ?_⟩
          exact rfl
        case hb32 =>
          refine tw_and1 ?_
          refine t_dinA hr.u1 ?_
          refine e_v 7 ?_
          refine ⟨_, rfl, ?_⟩
          refine e_v 4 ?_
          refine ⟨_, _, _, rfl, ?_⟩
          exact rfl
        exact rfl
      rw [eS]
      unfold inI
      refine ite_f (by cases (looks.any fun z => decide (z = tt)) <;> cases has rl (a, tt - a) <;> rfl) ?_
      refine s_nil ?_
      refine s_one (s_if ?_)
      refine TW.t ?_
      refine' tw_andD ?ha33 (fun hb => ?hb33) ?hc33
      case ha33 =>
        refine t_cmp ?_
        refine e_meth (dds := []) pc_Table.cl c_Table_is_end hr (fun _ => .nil) ?_
        refine e_v 0 ?_
        first | refine ⟨_, _, rfl, rfl, ?_⟩ | refine ⟨_, _, rfl, by assumption, ?_⟩
        refine ea_cons ?_
        refine e_v 6 ?_
        refine ea_cons ?_
        refine e_bin ?_
        refine e_v 5 ?_
        refine e_v 6 ?_
        refine w_sub ?_
        refine ea_nil ?_
        refine ⟨rfl, ?_⟩
        refine u_Table_is_end (by walk_at "sc") ?_
        refine e_bool ?_
        first | refine w_isNN ?_ | refine w_isNB ?_
        refine ⟨_, rfl, ?_⟩
        exact rfl
      case hb33 =>
        refine tw_and1 ?_
        refine t_not ?_
        refine TW.t ?_
        refine' tw_andD ?ha34 (fun hb => ?hb34) ?hc34
        case ha34 =>
          refine t_cmp ?_
          refine e_v 5 ?_
          refine e_v 3 ?_
          first | refine w_inS ?_ | refine w_inT ?_ | refine w_inL ?_ | refine w_inD hr.u65 (by walk_at "ok") (by walk_at "ok") ?_
          refine ⟨_, rfl, ?_⟩
          exact rfl
        case hb34 =>
          refine tw_and1 ?_
          refine t_dinA hr.u1 ?_
          refine e_v 7 ?_
          refine ⟨_, rfl, ?_⟩
          refine e_v 4 ?_
          refine ⟨_, _, _, rfl, ?_⟩
          exact rfl
        exact rfl
      rw [eS]
      unfold inI
      refine ite_f (by cases (looks.any fun z => decide (z = tt)) <;> cases has rl (a, tt - a) <;> rfl) ?_
      exact s_nil ⟨_, _, rfl⟩
    · rintro G ⟨g6, g7, rfl⟩
      exact ⟨_, _, _, rfl⟩
  rintro G ⟨g5, g6, g7, rfl⟩
  refine s_one (s_ret ?_)
  refine e_bool ?_
  exact hq

abbrev N_Table___eq__ : List Str := ["self", "other"]
theorem sc_Table___eq__ : FnScope N_Table___eq__ ["self", "other"] (defScope s_Table___eq__) := ⟨rfl, rfl, rfl, by decide +kernel, rfl, by decide +kernel, by decide +kernel⟩
theorem ok_Table___eq__ {f : Addr} {fd : FuncData} {k : Nat} {dvs : List V} {kws : List (Str × V)} {C_Table : Addr} (F : FD K "__eq__" "Table.__eq__" s_Table___eq__ dvs kws f fd) (m_isinstance : mg "isinstance" = none) (g_Table : mg "Table" = some (.ref C_Table)) (pc_Table : TableC K C_Table) : FnOk P w K mg base (L2N.CX P w) (k + 1) f fd ["self", "other"] (spD K 2 (ph_Table___eq__N C_Table)) := by
  refine fn_ok F sc_Table___eq__ rfl fun X cdv A outer s H E ds q xd hX hr hph hl Fr wf xok => ?_
  subst hX
  rcases hph with ⟨T1, T2, rfl, ⟨h1, h2⟩, hq⟩ | ⟨T1, n, rfl, hq⟩
  · show S _ _ _ [_, _] _
    refine s_cons (s_if ?_)
    refine t_not ?_
    refine t_val ?_
    refine e_callB (id := "isinstance") (by rfl) m_isinstance b_isinstance ?_
    refine ea_cons ?_
    refine e_v 1 ?_
    refine ea_cons ?_
    refine e_cls (by rfl) g_Table ?_
    refine ea_nil ?_
    first | refine wc_isiC (pc_Table.ty _ _) pc_Table.self ?_ | refine wc_isiC tyd_int (pc_Table.no "int" (by decide)).1 ?_ | refine wc_isiC tyd_bl (pc_Table.no "bool" (by decide)).1 ?_ | refine wc_isiC tyd_tup (pc_Table.no "tuple" (by decide)).1 ?_ | refine wc_isiC tyd_lst (pc_Table.no "list" (by decide)).1 ?_ | refine wc_isiC tyd_str (pc_Table.no "str" (by decide)).1 ?_ | refine wc_isiC tyd_non (pc_Table.no "NoneType" (by decide)).1 ?_
    refine ⟨_, rfl, ?_⟩
    refine ite_f rfl ?_
    refine s_nil ?_
    refine s_one (s_ret ?_)
    refine e_cmp ?_
    refine e_tup ?_
    refine ea_cons ?_
    refine e_fld ?_
    refine e_v 0 ?_
    refine ⟨_, _, _, _, rfl, pc_Table.cl, pc_Table.na_limit, rfl, ?_⟩
    refine ea_cons ?_
    refine e_fld ?_
    refine e_v 0 ?_
    refine ⟨_, _, _, _, rfl, pc_Table.cl, pc_Table.na_looks, rfl, ?_⟩
    refine ea_cons ?_
    refine e_fld ?_
    refine e_v 0 ?_
    refine ⟨_, _, _, _, rfl, pc_Table.cl, pc_Table.na_entries, rfl, ?_⟩
    refine ea_nil ?_
    refine ⟨Nat.le_of_ble_eq_true rfl, ?_⟩
    refine e_tup ?_
    refine ea_cons ?_
    refine e_fld ?_
    refine e_v 1 ?_
    refine ⟨_, _, _, _, rfl, pc_Table.cl, pc_Table.na_limit, rfl, ?_⟩
    refine ea_cons ?_
    refine e_fld ?_
    refine e_v 1 ?_
    refine ⟨_, _, _, _, rfl, pc_Table.cl, pc_Table.na_looks, rfl, ?_⟩
    refine ea_cons ?_
    refine e_fld ?_
    refine e_v 1 ?_
    refine ⟨_, _, _, _, rfl, pc_Table.cl, pc_Table.na_entries, rfl, ?_⟩
    refine ea_nil ?_
    refine ⟨Nat.le_of_ble_eq_true rfl, ?_⟩
    refine w_eqX 1 (by have := hr.un; omega) (.inl ⟨_, _, rfl, rfl⟩) (okP_trip h1.2 h2.2) ?_
    rw [eqX_trip h1.2 h2.2]
    exact hq
  · show S _ _ _ [_, _] _
    refine s_cons (s_if ?_)
    refine t_not ?_
    refine t_val ?_
    refine e_callB (id := "isinstance") (by rfl) m_isinstance b_isinstance ?_
    refine ea_cons ?_
    refine e_v 1 ?_
    refine ea_cons ?_
    refine e_cls (by rfl) g_Table ?_
    refine ea_nil ?_
    first | refine wc_isiC (pc_Table.ty _ _) pc_Table.self ?_ | refine wc_isiC tyd_int (pc_Table.no "int" (by decide)).1 ?_ | refine wc_isiC tyd_bl (pc_Table.no "bool" (by decide)).1 ?_ | refine wc_isiC tyd_tup (pc_Table.no "tuple" (by decide)).1 ?_ | refine wc_isiC tyd_lst (pc_Table.no "list" (by decide)).1 ?_ | refine wc_isiC tyd_str (pc_Table.no "str" (by decide)).1 ?_ | refine wc_isiC tyd_non (pc_Table.no "NoneType" (by decide)).1 ?_
    refine ⟨_, rfl, ?_⟩
    refine ite_t rfl ?_
    refine s_one (s_ret ?_)
    refine e_bool ?_
    exact hq

abbrev N__law_unequal : List Str := ["_law_box_here", "_law_table_here", "_law_parts_here", "_law_limit", "_law_looks", "_law_rule", "_law_counts", "_law_at", "_law_other", "_law_wins"]
theorem sc__law_unequal : FnScope N__law_unequal ["_law_box_here", "_law_table_here", "_law_parts_here"] (defScope s__law_unequal) := ⟨rfl, rfl, rfl, by decide +kernel, rfl, by decide +kernel, by decide +kernel⟩
theorem ok__law_unequal {f : Addr} {fd : FuncData} {k : Nat} {dvs : List V} {kws : List (Str × V)} {C_Table : Addr} (F : FD K "_law_unequal" "_law_unequal" s__law_unequal dvs kws f fd) (m_dict : mg "dict" = none) (m_len : mg "len" = none) (m_list : mg "list" = none) (m_range : mg "range" = none) (c__law_take : Fn P w K mg base k "_law_take" ["_law_box_here", "_law_size"] [] (spB K 2 ph_take)) (g_Table : mg "Table" = some (.ref C_Table)) (c_Table : FnC P w K mg base k "Table" 3 (ph_Table___init__L C_Table)) (c_Table___eq__ : FnM P w K mg base k C_Table "__eq__" ["self", "other"] [] (spD K 2 (ph_Table___eq__N C_Table))) (pc_Table : TableC K C_Table) : FnOk P w K mg base (L2N.CX P w) (k + 1) f fd ["_law_box_here", "_law_table_here", "_law_parts_here"] (spB K 3 (ph__law_unequal C_Table)) := by
  refine fn_okX F sc__law_unequal rfl fun X cdv A outer s H E b c n ds q xd hX hr hph hl Fr wf xok => ?_
  subst hX
  obtain ⟨lim, looks, rl, rfl, ⟨hv, h20, hw⟩, hq⟩ := hph
  have vr := hv.toVr
  have hl1 := vr.l1
  have pk := PtK.of hv
  have hrl := pk.2.1
  have sT := strT_mk vr
  have uu := hr.units0
  have hnd := hv.hash (P := P) (w := w)
  have hlen : 0 < rl.length := by
    have h := vr.full 0 (by omega)
    cases rl with
    | nil => cases h
    | cons e r => simp
  have hkl : ((keysA rl).map Dt.key).length = rl.length := by rw [List.length_map, keysA_len]
  have htk : (0 : Int) < ((((keysA rl).map Dt.key).length : Nat) : Int) ∧ ((((keysA rl).map Dt.key).length : Nat) : Int).natAbs.log2 < 9000 := log9 (k := 600) (by omega) (by omega) (by decide) (by decide)
  show S _ _ _ [_, _, _, _, _, _, _, _, _, _] _
  refine s_cons (s_unpack ?_)
  refine e_v 2 ?_
  refine ⟨_, (a_tup rfl (as_cons (a_n 3 sc__law_unequal.nd) (as_cons (a_n 4 sc__law_unequal.nd) (as_cons (a_n 5 sc__law_unequal.nd) as_nil)))), ?_⟩
  show S _ _ _ [_, _, _, _, _, _, _, _, _, _] _
  refine s_cons (s_a 6 sc__law_unequal.nd ?_)
  refine e_ofW (ew_of (en_listKeys rfl (by rfl) m_list ?_))
  refine e_v 5 ?_
  refine ⟨_, _, rfl, ?_⟩
  show S _ _ _ [_, _, _, _, _, _, _, _, _, _] _
  refine s_cons (s_a 7 sc__law_unequal.nd ?_)
  refine e_ix ?_
  refine e_v 6 ?_
  refine e_callX c__law_take hr (by rfl) ?_
  refine ea_cons ?_
  refine e_v 0 ?_
  refine ea_cons ?_
  refine e_callB (id := "len") (by rfl) m_len b_len ?_
  refine ea_cons ?_
  refine e_v 6 ?_
  refine ea_nil ?_
  first | refine wc_len_lst ?_ | refine wc_len_tup ?_ | refine wc_len_str (by walk_at "sc") ?_ | refine wc_lenc (fun hn63 => ?_)
  refine ea_nil ?_
  refine ⟨_, rfl, rfl, ?_⟩
  refine u_take (by walk_at "sc") ?_
  intro v1 va1 vb1
  (obtain ⟨e, hem, hat⟩ := key_at (m := rl) (by assumption) (by assumption); refine wi_lst hat ?_)
  show S _ _ _ [_, _, _, _, _, _, _, _, _, _] _
  obtain ⟨c, x⟩ := e
  have hlk : lk rl c = some x := (lk_nd_iff pk.2.2).mpr hem
  have hxw : x ≠ w37 := hw _ hem
  have hck := vr.keys _ hem
  dsimp only at hck
  have hhas : has rl c = true := by unfold has; rw [hlk]; rfl
  have vp := hv.put hhas wd37
  have hrl9 : rl.length < 100000 := by omega
  show S _ _ _ [_, _, _, _, _, _, _, .sh (.key (kk c)), _, _] _
  refine s_cons (s_aO 8 sc__law_unequal.nd (ew_dictOf hr.u2 (by rfl) m_dict ?_))
  refine ea_cons ?_
  refine e_v 5 ?_
  refine ea_nil ?_
  refine ⟨_, _, rfl, by walk_at "sc", ?_⟩
  show S _ _ _ [_, _, _, _, _, _, _, _, _, _] _
  show S _ _ _ [_, _, _, _, _, _, _, _, .ow (dA .str rl), _] _
  refine s_cons (s_dputA 8 hr.u1 rfl rfl (by first | exact .inl rfl | exact .inr (.inl rfl) | exact .inr (.inr rfl)) (by walk_at "sc") ?_)
  refine e_str ?_
  refine ⟨_, rfl, ?_⟩
  refine e_v 7 ?_
  refine ⟨_, rfl, ?_⟩
  show S _ _ _ [_, _, _, _, _, _, _, _, _, _] _
  refine s_frz ?_
  show S _ _ _ [_, _, _, _, _, _, _, _, _, _] _
  have vp0 := vp.toVr
  have sP := strT_mk vp0
  have ne1 := tbE_false vr vp0 (fun z => by
    have z := z.2.2 c
    rw [lk_put, if_pos rfl, hlk] at z
    exact hxw (Option.some.inj z))
  refine s_cons (s_if ?_)
  refine t_cmp ?_
  refine e_cmp ?_
  refine e_v 1 ?_
  refine e_callC c_Table hr (by rfl) ?_
  refine ea_cons ?_
  refine e_v 3 ?_
  refine ea_cons ?_
  refine e_callTy (id := "list") (by rfl) m_list b_list ?_
  refine ea_cons ?_
  refine e_v 4 ?_
  refine ea_nil ?_
  first | refine wc_list_lst ?_ | refine wc_list_tup ?_
  refine ea_cons ?_
  refine e_v 8 ?_
  refine ea_nil ?_
  refine ⟨rfl, ?_⟩
  refine u_Table___init__L vp0 ?_
  (refine w_eqO c_Table___eq__ hr uu (pc_Table.ty _ _) nf_self ?_; refine u_Table___eq__N ⟨sT, sP⟩ ?_)
  refine e_bool ?_
  first | refine w_isNN ?_ | refine w_isNB ?_
  refine ⟨_, rfl, ?_⟩
  rw [ne1]
  refine ite_f rfl ?_
  refine s_nil ?_
  refine s_cons (s_aO 8 sc__law_unequal.nd (ew_dictOf hr.u2 (by rfl) m_dict ?_))
  refine ea_cons ?_
  refine e_v 5 ?_
  refine ea_nil ?_
  refine ⟨_, _, rfl, by walk_at "sc", ?_⟩
  show S _ _ _ [_, _, _, _, _, _, _, _, _, _] _
  show S _ _ _ [_, _, _, _, _, _, _, _, .ow (dA .str rl), _] _
  refine s_cut (fun G => (c.1 + c.2 < lim ∧ ∃ g, G = [.sh (.adr b), .sh (tabD C_Table (mkT lim looks rl)), .sh (ptD lim looks rl), .sh (.int (lim : Nat)), .sh (.lst (looks.map .int)), .sh (dA .str rl), .sh (.lst ((keysA rl).map Dt.key)), .sh (.key (kk c)), .ow (dA .str (dropA rl c)), g])) (s_if ?_) ?_
  · refine t_cmp ?_
    refine e_bin ?_
    refine e_ix ?_
    refine e_asK ?_
    refine e_v 7 ?_
    refine ⟨_, rfl, ?_⟩
    refine e_int ?_
    first | refine wi_tup0 ?_ | refine wi_tup1 ?_ | refine wi_tup2 ?_ | refine wi_tup (by walk_at "sc") ?_ | refine wi_lst (by walk_at "sc") ?_ | refine wi_str (by walk_at "sc") (by walk_at "sc") ?_
    refine e_ix ?_
    refine e_asK ?_
    refine e_v 7 ?_
    refine ⟨_, rfl, ?_⟩
    refine e_int ?_
    first | refine wi_tup0 ?_ | refine wi_tup1 ?_ | refine wi_tup2 ?_ | refine wi_tup (by walk_at "sc") ?_ | refine wi_lst (by walk_at "sc") ?_ | refine wi_str (by walk_at "sc") (by walk_at "sc") ?_
    first | refine w_add ?_ | refine w_catT (by walk_at "sc") ?_ | refine w_addS (by walk_at "sc") ?_ | refine w_catL (by walk_at "sc") ?_
    refine e_v 3 ?_
    refine w_lt ?_
    refine ⟨_, rfl, ?_⟩
    by_cases hcl : c.1 + c.2 < lim
    · refine ite_t (decide_eq_true hcl) ?_
      refine s_one (s_popK 8 hr.u1 rfl rfl (by first | exact .inl rfl | exact .inr (.inl rfl) | exact .inr (.inr rfl)) ?_)
      refine e_v 7 ?_
      refine ⟨_, _, rfl, by walk_at "sc", ?_⟩
      exact ⟨hcl, _, rfl⟩
    · refine ite_f (decide_eq_false hcl) ?_
      have hce : c.1 + c.2 = lim := by omega
      have vm := vr.more (by omega)
      have sM := strT_mk vm
      have ne3 := tbE_false vr vm (fun z => by have := z.1; omega)
      refine s_cons (s_for (passes_of rfl) rfl ?_)
      refine i_range1 (by rfl) m_range ?_
      refine ea_cons ?_
      refine e_bin ?_
      refine e_v 3 ?_
      refine e_int ?_
      first | refine w_add ?_ | refine w_catT (by walk_at "sc") ?_ | refine w_addS (by walk_at "sc") ?_ | refine w_catL (by walk_at "sc") ?_
      refine ea_nil ?_
      refine ⟨_, rfl, by walk_at "sc", by walk_at "sc", ?_⟩
      refine ⟨fun i G => ∃ g : Sl, G = [.sh (.adr b), .sh (tabD C_Table (mkT lim looks rl)), .sh (ptD lim looks rl), .sh (.int (lim : Nat)), .sh (.lst (looks.map .int)), .sh (dA .str rl), .sh (.lst ((keysA rl).map Dt.key)), .sh (.key (kk c)), .ow (dA .str (rowX rl (lim + 1) i)), g], ⟨_, rfl⟩, ?_, ?_⟩
      · rintro i d G hd ⟨g, rfl⟩
        obtain ⟨hi, rfl⟩ := rangeD_get hd
        have hrx := rowX_len rl (lim + 1) i
        have hrx9 : (rowX rl (lim + 1) i).length < 100000 := by omega
        refine ⟨_, (a_n 9 sc__law_unequal.nd), ?_⟩
        show S _ _ _ [_, _, _, _, _, _, _, _, _, _] _
        refine s_one (s_dputA 8 hr.u1 rfl rfl (by first | exact .inl rfl | exact .inr (.inl rfl) | exact .inr (.inr rfl)) (by walk_at "sc") ?_)
        refine e_str ?_
        refine ⟨_, rfl, ?_⟩
        refine e_kk ?_
        refine ea_cons ?_
        refine e_v 9 ?_
        refine ea_cons ?_
        refine e_bin ?_
        refine e_bin ?_
        refine e_v 3 ?_
        refine e_int ?_
        first | refine w_add ?_ | refine w_catT (by walk_at "sc") ?_ | refine w_addS (by walk_at "sc") ?_ | refine w_catL (by walk_at "sc") ?_
        refine e_v 9 ?_
        refine w_sub ?_
        refine ea_nil ?_
        refine ⟨(_, _), rfl, ?_⟩
        refine ⟨_, rfl, ?_⟩
        refine ⟨.sh (.int (0 + (i : Nat))), ?_⟩
        rw [show rowX rl (lim + 1) (i + 1) = put (rowX rl (lim + 1) i) ((i : Int), ((lim + 1 : Nat) : Int) - (i : Int)) (Str.ofString "no word") from rfl, Int.zero_add, show (((lim + 1 : Nat)) : Int) = (lim : Int) + 1 by omega]
        rfl
      rintro G ⟨g, rfl⟩
      rw [rangeD_length, show ((lim : Int) + 2).toNat = lim + 2 by omega]
      refine s_frz ?_
      show S _ _ _ [_, _, _, _, _, _, _, _, _, _] _
      have eLk : looks.map Dt.int ++ [Dt.int ((lim : Int) + 1)] = (looks ++ [((lim + 1 : Nat) : Int)]).map Dt.int := by rw [List.map_append]; show _ = _ ++ [Dt.int (((lim + 1 : Nat)) : Int)]; rw [show (((lim + 1 : Nat)) : Int) = (lim : Int) + 1 by omega]
      have eL1 : (lim : Int) + 1 = ((lim + 1 : Nat) : Int) := by omega
      have hlk9 := vr.len
      refine s_one (s_ret ?_)
      refine e_cmp ?_
      refine e_cmp ?_
      refine e_v 1 ?_
      refine e_callC c_Table hr (by rfl) ?_
      refine ea_cons ?_
      refine e_bin ?_
      refine e_v 3 ?_
      refine e_int ?_
      refine w_add ?_
      refine ea_cons ?_
      refine e_bin ?_
      refine e_callTy (id := "list") (by rfl) m_list b_list ?_
      refine ea_cons ?_
      refine e_v 4 ?_
      refine ea_nil ?_
      first | refine wc_list_lst ?_ | refine wc_list_tup ?_
      refine e_lst ?_
      refine ea_cons ?_
      refine e_bin ?_
      refine e_v 3 ?_
      refine e_int ?_
      refine w_add ?_
      refine ea_nil ?_
      refine ⟨Nat.le_of_ble_eq_true rfl, ?_⟩
      refine w_catL (by simp only [List.length_map, List.length_cons, List.length_nil]; omega) ?_
      refine ea_cons ?_
      refine e_v 8 ?_
      refine ea_nil ?_
      refine ⟨rfl, ?_⟩
      (rw [eLk, eL1]; refine u_Table___init__L vm ?_)
      (refine w_eqO c_Table___eq__ hr uu (pc_Table.ty _ _) nf_self ?_; refine u_Table___eq__N ⟨sT, sM⟩ ?_)
      refine e_bool ?_
      first | refine w_isN ?_ | refine w_isB ?_
      rw [ne3]
      exact hq
  rintro G ⟨hcl, g, rfl⟩
  have vd := vr.drop (p := c) hcl
  have sD := strT_mk vd
  have ne2 := tbE_false vr vd (fun z => by
    have z := z.2.2 c
    rw [lk_drop, if_pos rfl, hlk] at z
    cases z)
  refine s_frz ?_
  show S _ _ _ [_, _, _, _, _, _, _, _, _, _] _
  refine s_one (s_ret ?_)
  refine e_cmp ?_
  refine e_cmp ?_
  refine e_v 1 ?_
  refine e_callC c_Table hr (by rfl) ?_
  refine ea_cons ?_
  refine e_v 3 ?_
  refine ea_cons ?_
  refine e_callTy (id := "list") (by rfl) m_list b_list ?_
  refine ea_cons ?_
  refine e_v 4 ?_
  refine ea_nil ?_
  first | refine wc_list_lst ?_ | refine wc_list_tup ?_
  refine ea_cons ?_
  refine e_v 8 ?_
  refine ea_nil ?_
  refine ⟨rfl, ?_⟩
  refine u_Table___init__L vd ?_
  (refine w_eqO c_Table___eq__ hr uu (pc_Table.ty _ _) nf_self ?_; refine u_Table___eq__N ⟨sT, sD⟩ ?_)
  refine e_bool ?_
  first | refine w_isN ?_ | refine w_isB ?_
  rw [ne2]
  exact hq

abbrev N_law : List Str := ["_law_script", "_law_box_here", "_law_parts_here", "_law_limit", "_law_looks", "_law_rule", "_law_given", "_law_counts", "_law_passed", "_law_table_here", "_law_told", "_law_other", "_law_pick", "_law_looks_too", "_law_second", "_law_same", "_law_tries"]
theorem sc_law : FnScope N_law ["_law_script"] (defScope s_law) := ⟨rfl, rfl, rfl, by decide +kernel, rfl, by decide +kernel, by decide +kernel⟩
theorem ok_law {f : Addr} {fd : FuncData} {k : Nat} {C_Table : Addr} (F : FD K "law" "law" s_law [] [] f fd) (m_dict : mg "dict" = none) (m_list : mg "list" = none) (m_tuple : mg "tuple" = none) (c__law_box : Fn P w K mg base k "_law_box" ["_law_script"] [] (spBox K)) (c__law_take : Fn P w K mg base k "_law_take" ["_law_box_here", "_law_size"] [] (spB K 2 ph_take)) (c__law_parts : Fn P w K mg base k "_law_parts" ["_law_box_here", "_law_most"] [] (spB K 2 ph__law_parts37)) (c__law_table : Fn P w K mg base k "_law_table" ["_law_parts_here"] [] (spD K 1 (ph__law_table C_Table))) (c__law_agrees : Fn P w K mg base k "_law_agrees" ["_law_table_here", "_law_parts_here"] [] (spD K 2 (ph__law_agreesV C_Table))) (c__law_unequal : Fn P w K mg base k "_law_unequal" ["_law_box_here", "_law_table_here", "_law_parts_here"] [] (spB K 3 (ph__law_unequal C_Table))) (g_Table : mg "Table" = some (.ref C_Table)) (c_Table_rule_n : FnM P w K mg base k C_Table "rule" ["self"] [] (spN K 1 (ph_Table_rule C_Table))) (c_Table_P : FnCP P w K mg base k "Table" (ph_Table___init__L C_Table)) (cr_Table : ClX.CRead K C_Table (.type "type")) (cv_Table_LONGEST : ∃ u, ClX.CVal K C_Table (.type "type") "LONGEST" (.int 30) u) (ne_Table : NeC K C_Table) (ci_Table___eq__ : FnI P w K mg base k C_Table "__eq__" ["self", "other"] [] (spD K 2 (ph_Table___eq__N C_Table))) (c_Table : FnC P w K mg base k "Table" 3 (ph_Table___init__L C_Table)) (c_Table_rule : FnM P w K mg base k C_Table "rule" ["self"] [] (spD K 1 (ph_Table_rule C_Table))) (c_Table___eq__ : FnM P w K mg base k C_Table "__eq__" ["self", "other"] [] (spD K 2 (ph_Table___eq__N C_Table))) (pc_Table : TableC K C_Table) : FnOk P w K mg base (L2N.CX P w) (k + 1) f fd ["_law_script"] (spLaw K) := by
  refine law_ok F sc_law c__law_box (by rfl) rfl rfl (by decide) (by first | exact .inl rfl | exact .inr rfl) (by first | exact .inl rfl | exact .inr (.inl rfl)) (by rfl) (by decide) (by decide) (fun _ _ => rfl) (fun _ => rfl) fun X cdv A outer s H E b c n ns hX hr => ?_
  subst hX
  show S _ _ _ [_, _, _, _, _, _, _, _, _, _, _, _, _, _, _, _, _] _
  have h6 : (0 : Int) < 6 ∧ (6 : Int) ≤ 20 := by decide
  have h2t : (0 : Int) < 2 ∧ (2 : Int).natAbs.log2 < 9000 := ⟨by decide, by decide +kernel⟩
  have h3t : (0 : Int) < 3 ∧ (3 : Int).natAbs.log2 < 9000 := ⟨by decide, by decide +kernel⟩
  have uu := hr.units0
  obtain ⟨uL, cv_Table_LONGEST⟩ := cv_Table_LONGEST
  refine s_cons (s_a 2 sc_law.nd ?_)
  refine e_callX c__law_parts hr (by rfl) ?_
  refine ea_cons ?_
  refine e_v 1 ?_
  refine ea_cons ?_
  refine e_int ?_
  refine ea_nil ?_
  refine ⟨_, rfl, rfl, ?_⟩
  refine u__law_parts37 (by walk_at "sc") ?_
  intro lim1 lks1 rl1 vt1 ll1 sm1
  show S _ _ _ [_, _, _, _, _, _, _, _, _, _, _, _, _, _, _, _, _] _
  have vr := vt1.toVr
  have pk := PtK.of vt1
  have hnd := vt1.hash (P := P) (w := w)
  refine s_cons (s_unpack ?_)
  refine e_v 2 ?_
  refine ⟨_, (a_tup rfl (as_cons (a_n 3 sc_law.nd) (as_cons (a_n 4 sc_law.nd) (as_cons (a_n 5 sc_law.nd) as_nil)))), ?_⟩
  show S _ _ _ [_, _, _, _, _, _, _, _, _, _, _, _, _, _, _, _, _] _
  refine s_cons (s_aO 6 sc_law.nd (ew_dnew ?_))
  show S _ _ _ [_, _, _, _, _, _, _, _, _, _, _, _, _, _, _, _, _] _
  have hrl := pk.2.1
  refine s_cons (s_for (passes_of rfl) rfl ?_)
  refine i_lst ?_
  refine e_stepL ?_
  refine e_ofW (ew_of (en_listKeys rfl (by rfl) m_list ?_))
  refine e_v 5 ?_
  refine ⟨_, _, rfl, ?_⟩
  refine ⟨_, rfl, ?_⟩
  refine e_bin ?_
  refine e_int ?_
  refine e_bin ?_
  refine e_int ?_
  refine e_callX c__law_take hr (by rfl) ?_
  refine ea_cons ?_
  refine e_v 1 ?_
  refine ea_cons ?_
  refine e_int ?_
  refine ea_nil ?_
  refine ⟨_, rfl, rfl, ?_⟩
  refine u_take (by walk_at "sc") ?_
  intro v2 va2 vb2
  first | refine w_mulS (.inr ⟨by decide, by decide⟩) ?_ | refine w_mulS (.inl ⟨by decide, by decide⟩) ?_ | refine w_mul (by walk_at "sc") ?_ | refine w_repT (by walk_at "sc") ?_ | refine w_repL (by walk_at "sc") ?_
  refine w_sub ?_
  refine ⟨_, rfl, by walk_at "sc", ?_⟩
  refine ⟨_, rfl, ?_⟩
  obtain ⟨gl, egl, hgl⟩ : ∃ gl : Al Str, (if 1 - 2 * v2 = 1 then (keysA rl1).map Dt.key else ((keysA rl1).map Dt.key).reverse) = (keysA gl).map Dt.key ∧ (gl = rl1 ∨ gl = rl1.reverse) := by
    by_cases z : 1 - 2 * v2 = 1
    · exact ⟨rl1, if_pos z, .inl rfl⟩
    · refine ⟨rl1.reverse, ?_, .inr rfl⟩
      rw [if_neg z]
      unfold keysA
      rw [List.map_reverse, List.map_reverse]
  have pg : PtK lim1 lks1 gl := by rcases hgl with z | z <;> rw [z]; exact pk; exact pk.rev
  have lkg : ∀ c, lk gl c = lk rl1 c := fun c => by rcases hgl with z | z <;> rw [z]; exact lk_rev pk.2.2 c
  have vg := pg.1
  have eT : mkT lim1 lks1 gl = mkT lim1 lks1 rl1 := mkT_congr lkg
  have hgl9 := pg.2.1
  rw [egl]
  refine ⟨fun i G => ∃ g7 : Sl, G = [.sh (.frl (ns.map .int)), .sh (.adr b), .sh (ptD lim1 lks1 rl1), .sh (.int (lim1 : Nat)), .sh (.lst (lks1.map .int)), .sh (dA .str rl1), .ow (dA .str (gl.take i)), g7, .no, .no, .no, .no, .no, .no, .no, .no, .no], ⟨_, rfl⟩, ?_, ?_⟩
  · rintro i d G hd ⟨g7, rfl⟩
    obtain ⟨e, he, rfl⟩ : ∃ e, gl[i]? = some e ∧ d = .key (kk e.1) := by
      unfold keysA at hd
      rw [List.getElem?_map, List.getElem?_map] at hd
      cases z : gl[i]? with
      | none => rw [z] at hd; cases hd
      | some e => rw [z] at hd; cases hd; exact ⟨e, rfl, rfl⟩
    have hlk : lk rl1 e.1 = some e.2 := by rw [← lkg]; exact (lk_nd_iff pg.2.2).mpr (List.mem_of_getElem? he)
    have hl9 : (gl.take i).length < 100000 := by have := List.length_take_le' i gl; omega
    refine ⟨_, (a_n 7 sc_law.nd), ?_⟩
    show S _ _ _ [_, _, _, _, _, _, _, _, _, _, _, _, _, _, _, _, _] _
    refine s_one (s_dputA 6 hr.u1 rfl rfl (by first | exact .inl rfl | exact .inr (.inl rfl) | exact .inr (.inr rfl)) (by walk_at "sc") ?_)
    refine e_dgetA hr.u1 ?_
    refine e_v 5 ?_
    refine ⟨_, _, _, rfl, ?_⟩
    refine e_v 7 ?_
    refine ⟨_, _, rfl, by walk_at "sc", ?_⟩
    refine ⟨_, rfl, ?_⟩
    refine e_v 7 ?_
    refine ⟨_, rfl, ?_⟩
    rw [fill_put pg.2.2 he]
    exact ⟨_, rfl⟩
  rintro G ⟨g7, rfl⟩
  have hLk : ((keysA gl).map Dt.key).length = gl.length := by rw [List.length_map, keysA_len]
  rw [hLk, List.take_length]
  refine s_cons (s_aN 8 sc_law.nd (en_list (by rfl) m_list ?_))
  refine ea_cons ?_
  refine e_v 4 ?_
  refine ea_nil ?_
  first | refine ⟨_, _, rfl, .inr rfl, ?_⟩ | refine ⟨_, _, rfl, .inl rfl, ?_⟩
  show S _ _ _ [_, _, _, _, _, _, _, _, _, _, _, _, _, _, _, _, _] _
  refine s_cons (s_newP 8 6 9 c_Table_P hr (by rfl) rfl rfl rfl rfl (by first | exact .inl rfl | exact .inr (.inl rfl) | exact .inr (.inr rfl)) (by first | exact .inl rfl | exact .inr (.inl rfl) | exact .inr (.inr rfl)) sc_law.nd rfl (by first | exact Or.inl rfl | exact Or.inr rfl) ?_ (by decide) (by decide))
  refine e_v 3 ?_
  refine u_Table___init__L vg ?_
  show S _ _ _ [_, _, _, _, _, _, _, _, _, _, _, _, _, _, _, _, _] _
  rw [eT]
  have okE : ∀ z ∈ rl1, PyData.strOk z.2 = true := fun z hz => (vr.words z hz).2
  have okG : ∀ z ∈ gl, PyData.strOk z.2 = true := fun z hz => (vg.words z hz).2
  have alG : alE gl rl1 = true := (alE_iff pg.2.2 pk.2.2).mpr lkg
  refine s_cons (s_if (t_bor 6 rfl (t_bor 8 rfl ?_)))
  show VS.T _ _ [_, _, _, _, _, _, _, _, _, _, _, _, _, _, _, _, _] _ _
  refine TW.t ?_
  refine' tw_orD ?ha35 (fun hb => ?hb35) ?hc35
  case ha35 =>
    refine t_cmp ?_
    refine e_v 8 ?_
    refine e_v 4 ?_
    refine w_neD hr.units (ok_ints _) (ok_ints _) ?_
    refine ⟨_, rfl, ?_⟩
    exact rfl
  case hb35 =>
    refine tw_or1 ?_
    refine t_cmp ?_
    refine e_v 6 ?_
    refine e_v 5 ?_
    (refine w_neDT 0 (by have := hr.un; omega) (okP_dA okG okE) ?_)
    refine ⟨_, rfl, ?_⟩
    exact rfl
  rw [eqD_refl (ok_ints _)]
  refine ite_f (by rw [show ∀ a b : Dt, a = dA .str gl → b = dA .str rl1 → eqX 1 a b = true from fun a b ha hb => by rw [ha, hb, eqX_dA okG okE, alG]]; rfl; rfl; rfl) ?_
  refine s_nil ?_
  have hp9 : (lks1.map Dt.int).length < 100000 := by rw [List.length_map]; have := vr.len; omega
  have hg9 : gl.length < 100000 := by omega
  have hg8 : (put gl ((lim1 : Int), 0) (Str.ofString "below 1/7")).length < 100000 := by have := put_len gl ((lim1 : Int), 0) (Str.ofString "below 1/7"); omega
  refine s_cons (s_app 8 rfl rfl (by first | exact .inl rfl | exact .inr (.inl rfl) | exact .inr (.inr rfl)) (by walk_at "sc") ?_)
  refine e_int ?_
  show S _ _ _ [_, _, _, _, _, _, _, _, _, _, _, _, _, _, _, _, _] _
  refine s_cons (s_dputA 6 hr.u1 rfl rfl (by first | exact .inl rfl | exact .inr (.inl rfl) | exact .inr (.inr rfl)) (by walk_at "sc") ?_)
  refine e_str ?_
  refine ⟨_, rfl, ?_⟩
  refine e_kk ?_
  refine ea_cons ?_
  refine e_v 3 ?_
  refine ea_cons ?_
  refine e_int ?_
  refine ea_nil ?_
  refine ⟨(_, _), rfl, ?_⟩
  refine ⟨_, rfl, ?_⟩
  show S _ _ _ [_, _, _, _, _, _, _, _, _, _, _, _, _, _, _, _, _] _
  refine s_cons (s_dputA 6 hr.u1 rfl rfl (by first | exact .inl rfl | exact .inr (.inl rfl) | exact .inr (.inr rfl)) (by walk_at "sc") ?_)
  refine e_str ?_
  refine ⟨_, rfl, ?_⟩
  refine e_kk ?_
  refine ea_cons ?_
  refine e_int ?_
  refine ea_cons ?_
  refine e_int ?_
  refine ea_nil ?_
  refine ⟨(_, _), rfl, ?_⟩
  refine ⟨_, rfl, ?_⟩
  show S _ _ _ [_, _, _, _, _, _, _, _, _, _, _, _, _, _, _, _, _] _
  have ka : Vt lim1 lks1 rl1 ∧ lim1 ≤ 20 := ⟨vt1, by omega⟩
  refine s_cons (s_if ?_)
  refine t_not ?_
  refine t_val ?_
  refine e_call (dds := []) c__law_agrees hr (by rfl) (fun _ => .nil) ?_
  refine ea_cons ?_
  refine e_v 9 ?_
  refine ea_cons ?_
  refine e_v 2 ?_
  refine ea_nil ?_
  refine ⟨rfl, ?_⟩
  refine u__law_agreesV (by walk_at "sc") ?_
  refine ⟨_, rfl, ?_⟩
  refine ite_f rfl ?_
  refine s_nil ?_
  have eE : (mkT lim1 lks1 rl1).ent = rl1 := entOf_self vt1
  have krl : ((mkT lim1 lks1 rl1).ent.map (·.1)).Nodup ∧ (mkT lim1 lks1 rl1).ent.length ≤ 5000 := by rw [eE]; exact ⟨pk.2.2, by omega⟩
  refine s_cons (s_aO 10 sc_law.nd (ew_meth0 pc_Table.cl c_Table_rule_n hr ?_))
  refine e_v 9 ?_
  refine ⟨_, _, rfl, rfl, rfl, ?_⟩
  refine u_Table_rule krl ?_
  show S _ _ _ [_, _, _, _, _, _, _, _, _, _, _, _, _, _, _, _, _] _
  rw [eE]
  have hr9 : rl1.length < 100000 := by omega
  refine s_cons (s_dputA 10 hr.u1 rfl rfl (by first | exact .inl rfl | exact .inr (.inl rfl) | exact .inr (.inr rfl)) (by walk_at "sc") ?_)
  refine e_str ?_
  refine ⟨_, rfl, ?_⟩
  refine e_kk ?_
  refine ea_cons ?_
  refine e_int ?_
  refine ea_cons ?_
  refine e_int ?_
  refine ea_nil ?_
  refine ⟨(_, _), rfl, ?_⟩
  refine ⟨_, rfl, ?_⟩
  show S _ _ _ [_, _, _, _, _, _, _, _, _, _, _, _, _, _, _, _, _] _
  refine s_cons (s_if ?_)
  refine TW.t ?_
  refine' tw_orD ?ha36 (fun hb => ?hb36) ?hc36
  case ha36 =>
    refine t_not ?_
    refine t_val ?_
    refine e_call (dds := []) c__law_agrees hr (by rfl) (fun _ => .nil) ?_
    refine ea_cons ?_
    refine e_v 9 ?_
    refine ea_cons ?_
    refine e_v 2 ?_
    refine ea_nil ?_
    refine ⟨rfl, ?_⟩
    refine u__law_agreesV (by walk_at "sc") ?_
    refine ⟨_, rfl, ?_⟩
    exact rfl
  case hb36 =>
    refine tw_or1 ?_
    refine t_cmp ?_
    refine e_cval cr_Table cv_Table_LONGEST (fun _ => rp_int.mpr rfl) ?_
    refine e_cls (by rfl) g_Table ?_
    refine ⟨rfl, ?_⟩
    refine e_int ?_
    first | refine w_neI ?_ | refine w_neT ?_ | refine w_neB ?_ | refine w_neD hr.units (by walk_at "ok") (by walk_at "ok") ?_
    refine ⟨_, rfl, ?_⟩
    exact rfl
  refine ite_f rfl ?_
  refine s_nil ?_
  refine s_cons (s_aO 11 sc_law.nd (ew_dictOf hr.u2 (by rfl) m_dict ?_))
  refine ea_cons ?_
  refine e_v 5 ?_
  refine ea_nil ?_
  refine ⟨_, _, rfl, by walk_at "sc", ?_⟩
  show S _ _ _ [_, _, _, _, _, _, _, _, _, _, _, _, _, _, _, _, _] _
  show S _ _ _ [_, _, _, _, _, _, _, _, _, _, _, _, _, _, _, _, _] _
  refine s_cons (s_a 12 sc_law.nd ?_)
  refine e_callX c__law_take hr (by rfl) ?_
  refine ea_cons ?_
  refine e_v 1 ?_
  refine ea_cons ?_
  refine e_int ?_
  refine ea_nil ?_
  refine ⟨_, rfl, rfl, ?_⟩
  refine u_take (by walk_at "sc") ?_
  intro v3 va3 vb3
  show S _ _ _ [_, _, _, _, _, _, _, _, _, _, _, _, _, _, _, _, _] _
  have hr8 : rl1.length < 100000 := by omega
  have vp1 := vt1.put (vr.full 0 (by omega)) wd37
  refine s_cut (fun G => ∃ ot : Al Str, Vt lim1 lks1 ot ∧ G = [.sh (.frl (ns.map .int)), .sh (.adr b), .sh (ptD lim1 lks1 rl1), .sh (.int (lim1 : Nat)), .sh (.lst (lks1.map .int)), .sh (dA .str rl1), .ow (dA .str (put (put gl ((lim1 : Int), 0) (Str.ofString "below 1/7")) (0, 1) (Str.ofString "maybe"))), g7, .ow (.lst (lks1.map Dt.int ++ [.int 99])), .sh (tabD C_Table (mkT lim1 lks1 rl1)), .ow (dA .str (put rl1 (0, 1) (Str.ofString "maybe"))), .ow (dA .str ot), .sh (.int v3), .no, .no, .no, .no]) (s_if ?_) ?_
  · refine t_cmp ?_
    refine e_v 12 ?_
    refine e_int ?_
    first | refine w_eqI ?_ | refine w_eqT ?_ | refine w_eqB ?_ | refine w_eqD hr.units (by walk_at "ok") (by walk_at "ok") ?_
    refine ⟨_, rfl, ?_⟩
    by_cases hp : v3 = 1
    · refine ite_t (decide_eq_true hp) ?_
      refine s_one (s_dputA 11 hr.u1 rfl rfl (by first | exact .inl rfl | exact .inr (.inl rfl) | exact .inr (.inr rfl)) (by walk_at "sc") ?_)
      refine e_str ?_
      refine ⟨_, rfl, ?_⟩
      refine e_kk ?_
      refine ea_cons ?_
      refine e_int ?_
      refine ea_cons ?_
      refine e_v 3 ?_
      refine ea_nil ?_
      refine ⟨(_, _), rfl, ?_⟩
      refine ⟨_, rfl, ?_⟩
      refine ⟨_, vp1, ?_⟩
      rw [show ((lim1 : Int) - ((0 : Nat) : Int)) = (lim1 : Int) by omega]
      rfl
    · refine ite_f (decide_eq_false hp) ?_
      exact s_nil ⟨_, vt1, rfl⟩
  rintro G ⟨ot, vo, rfl⟩
  refine s_frz ?_
  refine s_cons (s_lc 13 (own := [("_law_tries", 16)]) rfl sc_law.nd rfl rfl (sw_true rfl rfl rfl (by decide +kernel)) (blkOk_by (N := N_law) (sc := defScope s_law) (by decide +kernel)) ?_)
  refine i_lst ?_
  refine e_v 4 ?_
  refine ⟨_, rfl, ?_⟩
  refine' ⟨?lcl37, _, lc_if (lks1) (fun z => Dt.int z) (fun z => .int z) (fun z => (!decide (v3 = 2)) || decide (z = (lim1 : Int))) (fun z => [(16, Dt.int z)]) ?lct37 ?lcm37 ?lcf37 ?lce37, ?lcc37⟩
  case lcl37 =>
    rw [List.length_map]; have := vr.len; omega
  case lct37 =>
    rintro t ht Y ⟨s', H', C, cl, fp, rfl⟩
    exact (a_n 16 sc_law.nd)
  case lcm37 =>
    intro t p hp
    simp at hp
    simp [hp]
  case lcf37 =>
    rintro t ht Y ⟨s', H', C, cl, fp, rfl⟩
    refine TW.t ?_
    refine' tw_orD ?ha38 (fun hb => ?hb38) ?hc38
    case ha38 =>
      refine t_cmp ?_
      refine e_v 12 ?_
      refine e_int ?_
      first | refine w_neI ?_ | refine w_neT ?_ | refine w_neB ?_ | refine w_neD hr.units (by walk_at "ok") (by walk_at "ok") ?_
      refine ⟨_, rfl, ?_⟩
      exact rfl
    case hb38 =>
      refine tw_or1 ?_
      refine t_cmp ?_
      refine e_v 16 ?_
      refine e_v 3 ?_
      first | refine w_eqI ?_ | refine w_eqT ?_ | refine w_eqB ?_ | refine w_eqD hr.units (by walk_at "ok") (by walk_at "ok") ?_
      refine ⟨_, rfl, ?_⟩
      exact rfl
    rfl
  case lce37 =>
    rintro t ht hf Y ⟨s', H', C, cl, fp, rfl⟩
    refine e_v 16 ?_
    rfl
  rintro acc rfl
  rw [take_map_all]
  show S _ _ _ [_, _, _, _, _, _, _, _, _, _, _, _, _, _, _, _, _] _
  obtain ⟨lk2, hlk2⟩ : ∃ lk2 : List Int, lk2 = lks1.filter fun z => (!decide (v3 = 2)) || decide (z = (lim1 : Int)) := ⟨_, rfl⟩
  have elk : (List.map (fun z => Dt.int z) (lks1.filter fun z => (!decide (v3 = 2)) || decide (z = (lim1 : Int)))) = lk2.map Dt.int := by rw [hlk2]
  rw [elk]
  have v2' : Vr lim1 lk2 ot := by rw [hlk2]; exact vo.toVr.filt (by rw [Bool.or_eq_true]; exact .inr (decide_eq_true rfl))
  have po := PtK.of vo
  have okO : ∀ z ∈ ot, PyData.strOk z.2 = true := fun z hz => (vo.words z hz).2
  have sT := strT_mk vr
  have s2 := strT_mk v2'
  refine s_cons (s_a 14 sc_law.nd ?_)
  refine e_callC c_Table hr (by rfl) ?_
  refine ea_cons ?_
  refine e_v 3 ?_
  refine ea_cons ?_
  refine e_callTy (id := "tuple") (by rfl) m_tuple b_tuple ?_
  refine ea_cons ?_
  refine e_v 13 ?_
  refine ea_nil ?_
  refine wc_tuple_lst ?_
  refine ea_cons ?_
  refine e_v 11 ?_
  refine ea_nil ?_
  refine ⟨rfl, ?_⟩
  refine u_Table___init__T v2' ?_
  show S _ _ _ [_, _, _, _, _, _, _, _, _, _, _, _, _, _, _, _, _] _
  refine s_cons (s_a 15 sc_law.nd ?_)
  refine' e_andD ?ha39 (fun hb => ?hb39) ?hc39
  case ha39 =>
    refine e_cmp ?_
    refine e_v 11 ?_
    refine e_v 5 ?_
    (refine w_eqX 0 (by have := hr.un; omega) (.inr ⟨_, _, _, _, rfl, rfl⟩) (okP_dA okO okE) ?_)
    exact rfl
  case hb39 =>
    refine e_one ?_
    refine e_cmp ?_
    refine e_v 13 ?_
    refine e_v 4 ?_
    refine w_eqD hr.units (ok_ints _) (ok_ints _) ?_
    exact rfl
  show S _ _ _ [_, _, _, _, _, _, _, _, _, _, _, _, _, _, _, _, _] _
  have eqL : ∀ a b : List Int, eqD (.lst (a.map .int)) (.lst (b.map .int)) = decide (a = b) := fun a b => eqD_ints a b
  have alB : eqX 1 (dA .str ot) (dA .str rl1) = alE ot rl1 := eqX_dA okO okE
  have eT2 : tbE (mkT lim1 lks1 rl1) (mkT lim1 lk2 ot) = (alE ot rl1 && decide (lk2 = lks1)) := by
    refine Bool.eq_iff_iff.mpr ?_
    rw [tbE_mk vr v2', Bool.and_eq_true, alE_iff po.2.2 pk.2.2, decide_eq_true_eq]
    exact ⟨fun z => ⟨fun c => (z.2.2 c).symm, z.2.1.symm⟩, fun z => ⟨rfl, z.2.symm, fun c => (z.1 c).symm⟩⟩
  have eS : tbE (mkT lim1 lks1 rl1) (mkT lim1 lks1 rl1) = true := tbE_self sT.1
  have uu1 := hr.u1
  have ku : Vt lim1 lks1 rl1 ∧ lim1 ≤ 20 ∧ ∀ e ∈ rl1, e.2 ≠ w37 := ⟨vt1, by omega, sm1⟩
  rw [show eqX (0 + 1) (dA .str ot) (dA .str rl1) = alE ot rl1 from alB, eqL]
  generalize (alE ot rl1 && decide (lk2 = lks1)) = sb at *
  show S _ _ _ [_, _, _, _, _, _, _, _, _, _, _, _, _, _, _, _, _] _
  refine s_cons (s_if ?_)
  refine TW.t ?_
  refine' tw_orD ?ha40 (fun hb => ?hb40) ?hc40
  case ha40 =>
    refine TW.t ?_
    refine' tw_andD ?ha41 (fun hb => ?hb41) ?hc41
    case ha41 =>
      refine t_cmp ?_
      refine e_cmp ?_
      refine e_v 9 ?_
      refine e_v 14 ?_
      (refine w_eqO c_Table___eq__ hr uu (pc_Table.ty _ _) nf_self ?_; refine u_Table___eq__N ⟨sT, s2⟩ ?_)
      refine e_bool ?_
      first | refine w_isNN ?_ | refine w_isNB ?_
      refine ⟨_, rfl, ?_⟩
      exact rfl
    case hb41 =>
      refine tw_and1 ?_
      refine t_val ?_
      refine e_v 15 ?_
      refine ⟨_, rfl, ?_⟩
      exact rfl
    exact rfl
  case hb40 =>
    refine tw_or1 ?_
    refine TW.t ?_
    refine' tw_andD ?ha42 (fun hb => ?hb42) ?hc42
    case ha42 =>
      refine t_cmp ?_
      refine e_cmp ?_
      refine e_v 9 ?_
      refine e_v 14 ?_
      (refine w_eqO c_Table___eq__ hr uu (pc_Table.ty _ _) nf_self ?_; refine u_Table___eq__N ⟨sT, s2⟩ ?_)
      refine e_bool ?_
      first | refine w_isNN ?_ | refine w_isNB ?_
      refine ⟨_, rfl, ?_⟩
      exact rfl
    case hb42 =>
      refine tw_and1 ?_
      refine t_not ?_
      refine t_val ?_
      refine e_v 15 ?_
      refine ⟨_, rfl, ?_⟩
      exact rfl
    exact rfl
  rw [eT2]
  refine ite_f (by cases sb <;> rfl) ?_
  refine s_nil ?_
  refine s_cons (s_if ?_)
  refine TW.t ?_
  refine' tw_orD ?ha43 (fun hb => ?hb43) ?hc43
  case ha43 =>
    refine t_cmp ?_
    refine e_cmp ?_
    refine e_v 9 ?_
    refine e_call (dds := []) c__law_table hr (by rfl) (fun _ => .nil) ?_
    refine ea_cons ?_
    refine e_v 2 ?_
    refine ea_nil ?_
    refine ⟨rfl, ?_⟩
    refine u__law_table (by walk_at "sc") ?_
    (refine w_eqO c_Table___eq__ hr uu (pc_Table.ty _ _) nf_self ?_; refine u_Table___eq__N ⟨sT, sT⟩ ?_)
    refine e_bool ?_
    first | refine w_isNN ?_ | refine w_isNB ?_
    refine ⟨_, rfl, ?_⟩
    exact rfl
  case hb43 =>
    refine' tw_orD ?ha44 (fun hb => ?hb44) ?hc44
    case ha44 =>
      refine t_cmp ?_
      refine e_cmp ?_
      refine e_v 9 ?_
      refine e_v 3 ?_
      (refine w_eqO c_Table___eq__ hr uu tyd_int (pc_Table.no "int" (by decide)).2 ?_; refine u_Table___eq__I ?_)
      refine e_bool ?_
      first | refine w_isNN ?_ | refine w_isNB ?_
      refine ⟨_, rfl, ?_⟩
      exact rfl
    case hb44 =>
      refine tw_or1 ?_
      refine t_cmp ?_
      refine e_cmp ?_
      refine e_v 9 ?_
      refine e_v 14 ?_
      (refine w_neO ci_Table___eq__ hr uu1 ne_Table (pc_Table.ty _ _) nf_self ?_; refine u_Table___eq__N ⟨sT, s2⟩ ⟨_, rfl, ?_⟩)
      refine e_v 15 ?_
      refine w_eqB ?_
      refine ⟨_, rfl, ?_⟩
      exact rfl
    exact rfl
  rw [eT2, eS]
  refine ite_f (by cases sb <;> rfl) ?_
  refine s_nil ?_
  refine s_one (s_ret ?_)
  refine e_callX c__law_unequal hr (by rfl) ?_
  refine ea_cons ?_
  refine e_v 1 ?_
  refine ea_cons ?_
  refine e_v 9 ?_
  refine ea_cons ?_
  refine e_v 2 ?_
  refine ea_nil ?_
  refine ⟨_, rfl, rfl, ?_⟩
  refine u__law_unequal (by walk_at "sc") ?_
  rfl

end
theorem facts {w : World} {K : PySem.W.Frag} {h : Heap} {mg : Str → Option Value} {f : Addr} (X : K.In h) (G : h.Ns mainGlobals mg) (hfa : mg ("law" : Str) = some (.ref f)) (c : SaysV Pg.main.file fa fn es (exOf xs) K) :
    ∃ fd : FuncData, (∀ (s : Shared) (v : Value), BindsTo s fd ⟨[v], []⟩ [("_law_script", v)]) ∧ ∀ base : Heap, K.In base → base.Ns mainGlobals mg → FnOk Pg w K mg base (L2N.CX Pg w) 9 f fd ["_law_script"] (spLaw K) := by
  have cV := c
  replace c := cV.d
  obtain ⟨fd__law_box, F__law_box⟩ := c.def_ 0 (d := d__law_box) rfl
  have g__law_box := He.glo_ok X G (c.fact 0 (f := .glo "_law_box") rfl)
  obtain ⟨fd__law_take, F__law_take⟩ := c.def_ 1 (d := d__law_take) rfl
  have g__law_take := He.glo_ok X G (c.fact 1 (f := .glo "_law_take") rfl)
  obtain ⟨fd__law_gcd, F__law_gcd⟩ := c.def_ 2 (d := d__law_gcd) rfl
  have g__law_gcd := He.glo_ok X G (c.fact 2 (f := .glo "_law_gcd") rfl)
  obtain ⟨fd__law_ratio, F__law_ratio⟩ := c.def_ 3 (d := d__law_ratio) rfl
  have g__law_ratio := He.glo_ok X G (c.fact 3 (f := .glo "_law_ratio") rfl)
  obtain ⟨fd__law_word, F__law_word⟩ := c.def_ 4 (d := d__law_word) rfl
  have g__law_word := He.glo_ok X G (c.fact 4 (f := .glo "_law_word") rfl)
  obtain ⟨fd__law_parts, F__law_parts⟩ := c.def_ 5 (d := d__law_parts) rfl
  have g__law_parts := He.glo_ok X G (c.fact 5 (f := .glo "_law_parts") rfl)
  obtain ⟨fd_common_divisor, F_common_divisor⟩ := c.def_ 6 (d := d_common_divisor) rfl
  have g_common_divisor := He.glo_ok X G (c.fact 6 (f := .glo "common_divisor") rfl)
  obtain ⟨fd_is_share, F_is_share⟩ := c.def_ 7 (d := d_is_share) rfl
  have g_is_share := He.glo_ok X G (c.fact 7 (f := .glo "is_share") rfl)
  obtain ⟨fd_read_number, F_read_number⟩ := c.def_ 8 (d := d_read_number) rfl
  have g_read_number := He.glo_ok X G (c.fact 8 (f := .glo "read_number") rfl)
  obtain ⟨fd_read_share, F_read_share⟩ := c.def_ 9 (d := d_read_share) rfl
  have g_read_share := He.glo_ok X G (c.fact 9 (f := .glo "read_share") rfl)
  obtain ⟨fd_read_word, F_read_word⟩ := c.def_ 10 (d := d_read_word) rfl
  have g_read_word := He.glo_ok X G (c.fact 10 (f := .glo "read_word") rfl)
  obtain ⟨fd_check_table, F_check_table⟩ := c.def_ 11 (d := d_check_table) rfl
  have g_check_table := He.glo_ok X G (c.fact 11 (f := .glo "check_table") rfl)
  obtain ⟨fd_Table_is_end, F_Table_is_end⟩ := c.def_ 12 (d := d_Table_is_end) rfl
  obtain ⟨fd_Table_spread, F_Table_spread⟩ := c.def_ 13 (d := d_Table_spread) rfl
  obtain ⟨fd_Table___contains__, F_Table___contains__⟩ := c.def_ 14 (d := d_Table___contains__) rfl
  obtain ⟨fd_Table___init__, F_Table___init__⟩ := c.def_ 15 (d := d_Table___init__) rfl
  obtain ⟨fd__law_table, F__law_table⟩ := c.def_ 16 (d := d__law_table) rfl
  have g__law_table := He.glo_ok X G (c.fact 12 (f := .glo "_law_table") rfl)
  obtain ⟨fd_Table_rule, F_Table_rule⟩ := c.def_ 17 (d := d_Table_rule) rfl
  obtain ⟨fd_Table_word_at, F_Table_word_at⟩ := c.def_ 18 (d := d_Table_word_at) rfl
  obtain ⟨fd__law_agrees, F__law_agrees⟩ := c.def_ 19 (d := d__law_agrees) rfl
  have g__law_agrees := He.glo_ok X G (c.fact 13 (f := .glo "_law_agrees") rfl)
  obtain ⟨fd_Table___eq__, F_Table___eq__⟩ := c.def_ 20 (d := d_Table___eq__) rfl
  obtain ⟨fd__law_unequal, F__law_unequal⟩ := c.def_ 21 (d := d__law_unequal) rfl
  have g__law_unequal := He.glo_ok X G (c.fact 14 (f := .glo "_law_unequal") rfl)
  obtain ⟨fd_law, F_law⟩ := c.def_ 22 (d := d_law) rfl
  have g_law := He.glo_ok X G (c.fact 15 (f := .glo "law") rfl)
  have m_abs := He.free_ok X G (c.fact 16 (f := .free "abs") rfl)
  have m_any := He.free_ok X G (c.fact 17 (f := .free "any") rfl)
  have m_dict := He.free_ok X G (c.fact 18 (f := .free "dict") rfl)
  have m_int := He.free_ok X G (c.fact 19 (f := .free "int") rfl)
  have m_isinstance := He.free_ok X G (c.fact 20 (f := .free "isinstance") rfl)
  have m_len := He.free_ok X G (c.fact 21 (f := .free "len") rfl)
  have m_list := He.free_ok X G (c.fact 22 (f := .free "list") rfl)
  have m_range := He.free_ok X G (c.fact 23 (f := .free "range") rfl)
  have m_str := He.free_ok X G (c.fact 24 (f := .free "str") rfl)
  have m_tuple := He.free_ok X G (c.fact 25 (f := .free "tuple") rfl)
  have g_InvalidTable := He.glo_ok X G (c.fact 26 (f := .glo "InvalidTable") rfl)
  have g_InvalidWord := He.glo_ok X G (c.fact 27 (f := .glo "InvalidWord") rfl)
  have g_Table := He.glo_ok X G (c.fact 28 (f := .glo "Table") rfl)
  have m_super := He.free_ok X G (c.fact 29 (f := .free "super") rfl)
  have pc_Table := tableB_ok (cV.xa 0 (x := fun K => tableB K (He.ga K "Table")) rfl)
  have g_KINDS := He.glo_ok X G (c.fact 30 (f := .glo "KINDS") rfl)
  have k_KINDS : ∀ F, Rp K F d_KINDS (.ref (He.ga K "KINDS")) := fun F => rp_tup.mpr ⟨_, _, rfl, cV.tup 1 (x := "KINDS") (vs := [.str "at least", .str "below"]) rfl F, .cons (rp_str.mpr rfl) (.cons (rp_str.mpr rfl) (.nil))⟩
  have r_KINDS : RelV (.ref (He.ga K "KINDS")) (.ref (He.ga K "KINDS")) := rfl
  obtain ⟨t_MOST_DIGITS, g_MOST_DIGITS⟩ := He.int_ok X G (c.fact 31 (f := .int "MOST_DIGITS" 30) rfl)
  have k_MOST_DIGITS : ∀ F, Rp K F d_MOST_DIGITS (.int 30) := fun F => rp_int.mpr rfl
  have r_MOST_DIGITS : RelV (.int 30) (.int 30 t_MOST_DIGITS) := ⟨_, rfl⟩
  obtain ⟨t_MOST_TRIES, g_MOST_TRIES⟩ := He.int_ok X G (c.fact 32 (f := .int "MOST_TRIES" 30) rfl)
  have k_MOST_TRIES : ∀ F, Rp K F d_MOST_TRIES (.int 30) := fun F => rp_int.mpr rfl
  have r_MOST_TRIES : RelV (.int 30) (.int 30 t_MOST_TRIES) := ⟨_, rfl⟩
  obtain ⟨t_SILENT, g_SILENT⟩ := He.str_ok X G (c.fact 33 (f := .str "SILENT" "no word") rfl)
  have k_SILENT : ∀ F, Rp K F d_SILENT (.str "no word") := fun F => rp_str.mpr rfl
  have r_SILENT : RelV (.str "no word") (.str "no word" t_SILENT) := ⟨_, rfl⟩
  have e := hfa.symm.trans g_law
  cases e
  have b_law := FunD.bindsA (ps := ["_law_script"]) F_law fun _ _ _ _ _ _ us hl => match us, hl with | [_], _ => rfl
  refine ⟨fd_law, fun s v => b_law s [v] rfl, fun base _ _ => ?_⟩
  obtain ⟨fdI_InvalidWord, I_InvalidWord, X_InvalidWord, N_InvalidWord⟩ := cV.err (P := Pg) 0 (d := de_InvalidWord) rfl
  have er_InvalidWord : Er Pg w K mg base 1 "InvalidWord" "word" "word" (He.ga K "InvalidWord") := ⟨g_InvalidWord, I_InvalidWord.oc, _, fdI_InvalidWord, I_InvalidWord.iC, I_InvalidWord.tI, binds_ks I_InvalidWord (fun _ _ _ _ _ _ _ us hl => match us, hl with | [_, _], _ => rfl), init_ok1 (k := 0) rfl I_InvalidWord (N_InvalidWord _ (by simp [de_InvalidWord])) m_super (by kernel_rfl) (NdefX.nscope_by (by decide +kernel)) (by kernel_rfl) rfl rfl (fun _ _ => ⟨_, rfl⟩) (fun _ _ => rfl) (fun _ _ => rfl) (by decide) (by decide)⟩
  have n_InvalidWord_word := N_InvalidWord "word" (by simp [de_InvalidWord])
  have cr_Table := creadB_ok (cV.xa 2 (x := fun K => creadB K (He.ga K "Table")) rfl)
  have cv_Table_LONGEST := cvalB_ok (cV.xa 3 (x := fun K => cvalB K (He.ga K "Table") "LONGEST" 30) rfl)
  have ne_Table := neB_ok (cV.xa 4 (x := fun K => neB K (He.ga K "Table")) rfl)
  have c__law_box : Fn Pg w K mg base 1 "_law_box" ["_law_script"] [] (spBox K) := ⟨_, fd__law_box, [], g__law_box, F__law_box.kp, F__law_box.bindsN fun _ _ _ _ _ _ us hl => match us, hl with | [_], _ => rfl, .nil, ok__law_box (k := 0) F__law_box m_abs m_int⟩
  have c__law_take : Fn Pg w K mg base 1 "_law_take" ["_law_box_here", "_law_size"] [] (spB K 2 ph_take) := ⟨_, fd__law_take, [], g__law_take, F__law_take.kp, F__law_take.bindsN fun _ _ _ _ _ _ us hl => match us, hl with | [_, _], _ => rfl, .nil, ok__law_take (k := 0) F__law_take m_int m_len⟩
  have c__law_gcd : Fn Pg w K mg base 1 "_law_gcd" ["_law_a", "_law_b"] [] (spD K 2 ph_gcd) := ⟨_, fd__law_gcd, [], g__law_gcd, F__law_gcd.kp, F__law_gcd.bindsN fun _ _ _ _ _ _ us hl => match us, hl with | [_, _], _ => rfl, .nil, ok__law_gcd (k := 0) F__law_gcd m_abs m_int⟩
  have c__law_ratio : Fn Pg w K mg base 2 "_law_ratio" ["_law_num", "_law_den"] [] (spD K 2 ph_ratio) := ⟨_, fd__law_ratio, [], g__law_ratio, F__law_ratio.kp, F__law_ratio.bindsN fun _ _ _ _ _ _ us hl => match us, hl with | [_, _], _ => rfl, .nil, ok__law_ratio (k := 1) F__law_ratio (c__law_gcd.mono (by decide))⟩
  have c__law_word : Fn Pg w K mg base 3 "_law_word" ["_law_box_here"] [] (spB K 1 ph__law_word37) := ⟨_, fd__law_word, [], g__law_word, F__law_word.kp, F__law_word.bindsN fun _ _ _ _ _ _ us hl => match us, hl with | [_], _ => rfl, .nil, ok__law_word (k := 2) F__law_word m_int m_str (c__law_take.mono (by decide)) (c__law_ratio.mono (by decide))⟩
  have c__law_parts : Fn Pg w K mg base 4 "_law_parts" ["_law_box_here", "_law_most"] [] (spB K 2 ph__law_parts37) := ⟨_, fd__law_parts, [], g__law_parts, F__law_parts.kp, F__law_parts.bindsN fun _ _ _ _ _ _ us hl => match us, hl with | [_, _], _ => rfl, .nil, ok__law_parts (k := 3) F__law_parts m_int m_range (c__law_take.mono (by decide)) (c__law_word.mono (by decide))⟩
  have c_common_divisor : Fn Pg w K mg base 1 "common_divisor" ["first", "second"] [] (spD K 2 ph_gcd) := ⟨_, fd_common_divisor, [], g_common_divisor, F_common_divisor.kp, F_common_divisor.bindsN fun _ _ _ _ _ _ us hl => match us, hl with | [_, _], _ => rfl, .nil, ok_common_divisor (k := 0) F_common_divisor m_abs⟩
  have c_is_share : Fn Pg w K mg base 2 "is_share" ["value"] [] (spD K 1 ph_is_share) := ⟨_, fd_is_share, [], g_is_share, F_is_share.kp, F_is_share.bindsN fun _ _ _ _ _ _ us hl => match us, hl with | [_], _ => rfl, .nil, ok_is_share (k := 1) F_is_share (c_common_divisor.mono (by decide))⟩
  have c_read_number : Fn Pg w K mg base 1 "read_number" ["text", "most"] [] (spD K 2 ph_read_number) := ⟨_, fd_read_number, [], g_read_number, F_read_number.kp, F_read_number.bindsN fun _ _ _ _ _ _ us hl => match us, hl with | [_, _], _ => rfl, .nil, ok_read_number (k := 0) F_read_number m_any m_int m_len⟩
  have c_read_share : Fn Pg w K mg base 3 "read_share" ["text"] [] (spD K 1 ph_read_share) := ⟨_, fd_read_share, [], g_read_share, F_read_share.kp, F_read_share.bindsN fun _ _ _ _ _ _ us hl => match us, hl with | [_], _ => rfl, .nil, ok_read_share (k := 2) F_read_share (c_is_share.mono (by decide)) (c_read_number.mono (by decide)) g_MOST_DIGITS r_MOST_DIGITS k_MOST_DIGITS⟩
  have c_read_word : Fn Pg w K mg base 4 "read_word" ["word"] [] (spD K 1 (ph_read_word (He.ga K "InvalidWord"))) := ⟨_, fd_read_word, [], g_read_word, F_read_word.kp, F_read_word.bindsN fun _ _ _ _ _ _ us hl => match us, hl with | [_], _ => rfl, .nil, ok_read_word (k := 3) F_read_word m_len (c_read_share.mono (by decide)) g_InvalidWord er_InvalidWord (by decide) g_KINDS r_KINDS k_KINDS g_SILENT r_SILENT k_SILENT⟩
  have c_check_table : Fn Pg w K mg base 5 "check_table" ["limit", "looks", "rule"] [] (spD K 3 ph_check_tableL) := ⟨_, fd_check_table, [], g_check_table, F_check_table.kp, F_check_table.bindsN fun _ _ _ _ _ _ us hl => match us, hl with | [_, _, _], _ => rfl, .nil, ok_check_table (k := 4) F_check_table m_any m_len m_range (c_read_word.mono (by decide)) g_InvalidTable g_MOST_TRIES r_MOST_TRIES k_MOST_TRIES⟩
  have c_Table_is_end : FnM Pg w K mg base 1 (He.ga K "Table") "is_end" ["self", "wins", "losses"] [] (spD K 3 (ph_Table_is_end (He.ga K "Table"))) := ⟨_, fd_Table_is_end, [], methB_ok (cV.xa 5 (x := fun K => methB K (He.ga K "Table") "is_end") rfl), F_Table_is_end.bindsN fun _ _ _ _ _ _ us hl => match us, hl with | [_, _, _], _ => rfl, .nil, ok_Table_is_end (k := 0) F_Table_is_end pc_Table⟩
  have c_Table_spread : FnM Pg w K mg base 2 (He.ga K "Table") "spread" ["self", "wins", "losses"] [] (spD K 3 (ph_Table_spread (He.ga K "Table"))) := ⟨_, fd_Table_spread, [], methB_ok (cV.xa 6 (x := fun K => methB K (He.ga K "Table") "spread") rfl), F_Table_spread.bindsN fun _ _ _ _ _ _ us hl => match us, hl with | [_, _, _], _ => rfl, .nil, ok_Table_spread (k := 1) F_Table_spread m_range (c_Table_is_end.mono (by decide)) pc_Table⟩
  have c_Table___contains__ : FnM Pg w K mg base 2 (He.ga K "Table") "__contains__" ["self", "counts"] [] (spD K 2 (ph_Table___contains__ (He.ga K "Table"))) := ⟨_, fd_Table___contains__, [], methB_ok (cV.xa 7 (x := fun K => methB K (He.ga K "Table") "__contains__") rfl), F_Table___contains__.bindsN fun _ _ _ _ _ _ us hl => match us, hl with | [_, _], _ => rfl, .nil, ok_Table___contains__ (k := 1) F_Table___contains__ (c_Table_is_end.mono (by decide)) pc_Table⟩
  have mk_Table := mkB_ok (cV.xa 8 (x := fun K => mkB K (He.ga K "Table")) rfl)
  have c_Table : FnC Pg w K mg base 7 "Table" 3 (ph_Table___init__L (He.ga K "Table")) := ⟨_, g_Table, mk_Table.kp, mk_spD mk_Table (raw0 (ok_Table___init__ (k := 5) F_Table___init__ m_range m_tuple (c_check_table.mono (by decide)) (c_Table_spread.mono (by decide)) (c_Table___contains__.mono (by decide)) pc_Table) (F_Table___init__.bindsN fun _ _ _ _ _ _ us hl => match us, hl with | [_, _, _, _], _ => rfl)) cxUpn⟩
  have c_Table_P : FnCP Pg w K mg base 7 "Table" (ph_Table___init__L (He.ga K "Table")) := ⟨_, g_Table, mk_Table.kp, mk_spP mk_Table (raw0 (okP_Table___init__ (k := 5) F_Table___init__ m_range m_tuple (c_check_table.mono (by decide)) (c_Table_spread.mono (by decide)) (c_Table___contains__.mono (by decide)) pc_Table) (F_Table___init__.bindsN fun _ _ _ _ _ _ us hl => match us, hl with | [_, _, _, _], _ => rfl))⟩
  have c__law_table : Fn Pg w K mg base 8 "_law_table" ["_law_parts_here"] [] (spD K 1 (ph__law_table (He.ga K "Table"))) := ⟨_, fd__law_table, [], g__law_table, F__law_table.kp, F__law_table.bindsN fun _ _ _ _ _ _ us hl => match us, hl with | [_], _ => rfl, .nil, ok__law_table (k := 7) F__law_table m_dict m_list g_Table (c_Table.mono (by decide)) pc_Table⟩
  have c_Table_rule_n : FnM Pg w K mg base 1 (He.ga K "Table") "rule" ["self"] [] (spN K 1 (ph_Table_rule (He.ga K "Table"))) := ⟨_, fd_Table_rule, [], methB_ok (cV.xa 9 (x := fun K => methB K (He.ga K "Table") "rule") rfl), F_Table_rule.bindsN fun _ _ _ _ _ _ us hl => match us, hl with | [_], _ => rfl, .nil, ok_Table_rule (k := 0) F_Table_rule pc_Table⟩
  have c_Table_rule : FnM Pg w K mg base 1 (He.ga K "Table") "rule" ["self"] [] (spD K 1 (ph_Table_rule (He.ga K "Table"))) := ⟨_, fd_Table_rule, [], methB_ok (cV.xa 9 (x := fun K => methB K (He.ga K "Table") "rule") rfl), F_Table_rule.bindsN fun _ _ _ _ _ _ us hl => match us, hl with | [_], _ => rfl, .nil, fn_ND (ok_Table_rule (k := 0) F_Table_rule pc_Table)⟩
  have c_Table_word_at : FnM Pg w K mg base 1 (He.ga K "Table") "word_at" ["self", "wins", "losses"] [] (spD K 3 (ph_Table_word_at (He.ga K "Table"))) := ⟨_, fd_Table_word_at, [], methB_ok (cV.xa 10 (x := fun K => methB K (He.ga K "Table") "word_at") rfl), F_Table_word_at.bindsN fun _ _ _ _ _ _ us hl => match us, hl with | [_, _, _], _ => rfl, .nil, ok_Table_word_at (k := 0) F_Table_word_at pc_Table⟩
  have c__law_agrees : Fn Pg w K mg base 2 "_law_agrees" ["_law_table_here", "_law_parts_here"] [] (spD K 2 (ph__law_agreesV (He.ga K "Table"))) := ⟨_, fd__law_agrees, [], g__law_agrees, F__law_agrees.kp, F__law_agrees.bindsN fun _ _ _ _ _ _ us hl => match us, hl with | [_, _], _ => rfl, .nil, ok__law_agrees (k := 1) F__law_agrees m_list m_range m_tuple (c_Table_rule.mono (by decide)) (c_Table_word_at.mono (by decide)) (c_Table_is_end.mono (by decide)) pc_Table⟩
  have c_Table___eq__ : FnM Pg w K mg base 1 (He.ga K "Table") "__eq__" ["self", "other"] [] (spD K 2 (ph_Table___eq__N (He.ga K "Table"))) := ⟨_, fd_Table___eq__, [], methB_ok (cV.xa 11 (x := fun K => methB K (He.ga K "Table") "__eq__") rfl), F_Table___eq__.bindsN fun _ _ _ _ _ _ us hl => match us, hl with | [_, _], _ => rfl, .nil, ok_Table___eq__ (k := 0) F_Table___eq__ m_isinstance g_Table pc_Table⟩
  have c__law_unequal : Fn Pg w K mg base 8 "_law_unequal" ["_law_box_here", "_law_table_here", "_law_parts_here"] [] (spB K 3 (ph__law_unequal (He.ga K "Table"))) := ⟨_, fd__law_unequal, [], g__law_unequal, F__law_unequal.kp, F__law_unequal.bindsN fun _ _ _ _ _ _ us hl => match us, hl with | [_, _, _], _ => rfl, .nil, ok__law_unequal (k := 7) F__law_unequal m_dict m_len m_list m_range (c__law_take.mono (by decide)) g_Table (c_Table.mono (by decide)) (c_Table___eq__.mono (by decide)) pc_Table⟩
  exact ok_law (k := 8) F_law m_dict m_list m_tuple (c__law_box.mono (by decide)) (c__law_take.mono (by decide)) (c__law_parts.mono (by decide)) (c__law_table.mono (by decide)) (c__law_agrees.mono (by decide)) (c__law_unequal.mono (by decide)) g_Table (c_Table_rule_n.mono (by decide)) (c_Table_P.mono (by decide)) cr_Table cv_Table_LONGEST ne_Table ⟨_, by decide, c_Table___eq__⟩ (c_Table.mono (by decide)) (c_Table_rule.mono (by decide)) (c_Table___eq__.mono (by decide)) pc_Table
end Lk
open PySem PySem.W PySem.Calls PyProof.Rows
set_option maxRecDepth 100000 in
set_option maxHeartbeats 0 in
theorem PySem.Challenge.cw_lookstop_k27_tables_as_values_holds : PySem.Challenge.rw_lookstop_k27_tables_as_values.Holds := by
  w_on; o_law
  refine HandSHeadRun.head_any (r := OpenLaw.row PySem.Challenge.rw_lookstop_k27_tables_as_values) (q := view (OpenLaw.row PySem.Challenge.rw_lookstop_k27_tables_as_values).prog [30]) (H := Lk.hk) (ob := Lk.ob) (M := 8000) (loose := Lk.loose) (d := HandSHeadRun.topDef (OpenLaw.row PySem.Challenge.rw_lookstop_k27_tables_as_values).prog 30) (kwd := []) Lk.ob_eq
    (by kernel_rfl) (fun s => by kernel_rfl) Lk.run (by kernel_rfl) (by kernel_rfl) (by kernel_rfl) (by rfl) (by first | assumption | decide +kernel) (by decide +kernel) ⟨rfl, rfl, rfl, rfl, rfl, by decide +kernel⟩ ?hw ?hc
  case hw => w_witness2
  case hc =>
    refine VS.walk_ofW (l := PySem.Challenge.rw_lookstop_k27_tables_as_values) (n := 63) (k := 9) (x := "_law_script") rfl (by decide) (by kernel_rfl) ⟨rfl, by decide, by decide⟩ ?F
    intro w mg fa h Y G hmg0
    obtain ⟨K, KX, c⟩ := Y
    have hmg : mg ("law" : PySem.Str) = some (.ref fa) := by
      have e : (HandSHeadRun.topDef (OpenLaw.row PySem.Challenge.rw_lookstop_k27_tables_as_values).prog 30).name = ("law" : PySem.Str) := by kernel_rfl
      rw [← e]
      exact hmg0
    obtain ⟨fd, hb, hF⟩ := Lk.facts (w := w) KX G hmg c
    exact ⟨K, fd, VS.spLaw K, KX, hb, fun H a ns hl _ hS => ⟨a, ns, rfl, hS, hl, fun _ => rfl⟩, hF⟩
