import PyProof.Rows.All
import Wide.All
import OpenK.AllK
import Wide.FinOn
import KE.KStateDown
import HandS.ForMost
import HandS.ForExc
import HandS.ExcInit
import HandS.ExcIs
import HandS.ExcField
import HandS.Flow
import HandS.IsInst
import HandS.Deep
import HandS.DictComp
import HandS.Star
import HandS.Small
import HandS.TupAny
import HandS.CallSlots
import HandS.Defaults
import HandS.Codes
import HandS.Head0
import HandS.Head1
import HandS.Head2
import HandS.HeadEnd
import HandS.HeadHook1
import HandS.HeadHook2
import HandS.HeadHook4
import KE.KDictCopyH
import KE.KeyNested
import KE.KExcIs
import HandS.Walk
import PySem.Challenge.RW_chainedreports_k63_kinds_fit
set_option Elab.async false
set_option linter.all false
set_option maxRecDepth 100000
set_option maxHeartbeats 0
/-! My own rules over the hand layer. -/
namespace Z
open PySem PySem.Spec PyProof.Rows L2
/-! ### calls by names -/
section
variable (P : Program) (w : World) (K : PySem.W.Frag) (mg : Str → Option Value) (base : Heap)
/-- the module's def x keeps the promise sp -/
structure Gf (k : Nat) (x : Str) (sp : Sp) : Prop where
  ex : ∃ a, mg x = some (.ref a) ∧ PySem.W.keepIn K (.ref a) = true ∧ FnR P w K mg base (L2.CX P w) k a sp
/-- the method m of the class at C -/
structure Gm (k : Nat) (C : Addr) (m : Str) (sp : Sp) : Prop where
  ex : ∃ g, Meth K C m g ∧ FnR P w K mg base (L2.CX P w) k g sp
/-- the class at C is made by an __init__ that keeps sp -/
structure Gk (k : Nat) (C : Addr) (sp : Sp) : Prop where
  ex : ∃ g, Mk K C g ∧ FnR P w K mg base (L2.CX P w) k g sp
end
section
variable {X : Cx} {pins : List (Addr × Obj)} {σ : L2.St} {H : Hp} {s : Shared}
theorem run_fnRS {k : Nat} {f : Addr} {sp : Sp} {E : XK} {Q : VK} {us : List Value} {vs : List V} (F : FnR X.prog X.w X.K X.mg X.base (L2.CX X.prog X.w) k f sp) (hr : Room k X.A) (hx : PassesAt (L2.CX X.prog X.w) X σ E) (I : Inv X pins σ H s) (r : Vals vs us) (h : sp vs H Q E) :
    codeAny (model X.prog X.w) X.A (.call (.ref f) ⟨us, []⟩) (fun r s' => match r with | .ok (.ret v) => EP X pins σ Q v s' | .ok _ => False | .error e => X.xe e s') s := by
  refine codeAny_mono (F X.A X.stack s H us vs Q E hr I.env0 r h) fun r s' hq => ?_
  cases r with
  | error e => exact hx pins H s e s' I hq
  | ok fl =>
    cases fl with
    | ret u => exact I.after hq
    | next => exact False.elim hq
    | brk => exact False.elim hq
    | cont => exact False.elim hq
end
section
variable {X : Cx} {k : Nat} {C : Addr} {x m : Str} {sp : Sp} {E : L2.St → XK} {o e : Expr} {es : List Expr} {ta : TE} {t : TA} {p apos pos : Pos}
/-- f(e, ..) -/
theorem pe_f (G : Gf X.prog X.w X.K X.mg X.base k x sp) (hr : Room k X.A) (hx : ∀ σ, PassesAt (L2.CX X.prog X.w) X σ (E σ)) (ha : PA X (e :: es) t) (hg : Gl X x := by rfl)
    (hdb : (x == ("__debug__" : Str)) = false := by decide) (he : starEach (e :: es) X.env = (false, eval e X.env) :: starEach es X.env := by rfl) (hpl : (backTo pos (starEach es X.env)).any (·.1) = false := by rfl) :
    PE X (.Call (.Name x p) (e :: es) [] pos) (tCallS sp E t) := by
  obtain ⟨f, hm, hk, F⟩ := G.ex
  refine ⟨fun pins s σ H Q I h => ?_⟩
  refine wpAny_Call_Name_kw (ld_glob I hg hm ?_ hdb)
  refine PySem.W.callWith_K (h₀ := X.base) I.ok.mod.kin hk (thn (ha.run pos pins s σ H _ I h) fun us s1 ⟨vs, H1, I1, r, q⟩ => ⟨I1.kIn, ?_⟩) he hpl
  exact wpAny_call (run_fnRS F hr (hx σ) I1 r q)
def tMetZ (C : Addr) (m : Str) (sp : Sp) (E : L2.St → XK) (ta : TE) (t : TA) : TE := fun σ H Q => ta σ H fun x H1 => ∃ a dx fs, x = .ref a ∧ H1 a = some (.ins C dx fs) ∧ fs.lookup m = none ∧ t σ H1 fun vs H2 => sp (x :: vs) H2 Q (E σ)
/-- o.m(e, ..) -/
theorem pe_m {pl : Sem Bool} (c : Cls X.K C) (G : Gm X.prog X.w X.K X.mg X.base k C m sp) (hr : Room k X.A) (hx : ∀ σ, PassesAt (L2.CX X.prog X.w) X σ (E σ)) (he : PE X o ta) (ha : PA X (e :: es) t)
    (hst : starEach (e :: es) X.env = (false, eval e X.env) :: starEach es X.env := by rfl) (hpl : (backTo pos (starEach es X.env)).any (·.1) = false := by rfl)
    (ht : eval (.Call (.Attribute o m apos) (e :: es) [] pos) X.env = (do
      let ov ← eval o X.env
      standAt apos.atName
      let (f, first) ← holding [ov] (getMethod ov m pl)
      callWith pos f first (backTo pos (starEach (e :: es) X.env)) (backToKw pos (keywordEach [] X.env))) := by rfl) :
    PE X (.Call (.Attribute o m apos) (e :: es) [] pos) (tMetZ C m sp E ta t) := by
  obtain ⟨f, hm, F⟩ := G.ex
  refine ⟨fun pins s σ H Q I h => ?_⟩
  refine PySem.W.methodCall_KW (pl := pl) (thn (he.run pins s σ H _ I h) fun u s1 ⟨x, H1, I1, rx, a, dx, fs, ex, ea, l, q⟩ => ?_) ht
  subst ex
  obtain rfl : u = Value.ref a := rx
  refine getmeth_ok I1 ea c hm l ?_
  refine PySem.W.callWith_K (first := [.ref a]) (h₀ := X.base) I.ok.mod.kin hm.kp (thn (ha.run pos pins s1 σ H1 _ I1 q) fun us s2 ⟨vs, H2, I2, r, q2⟩ => ⟨I2.kIn, ?_⟩) hst hpl
  exact wpAny_call (run_fnRS (us := Value.ref a :: us) (vs := V.ref a :: vs) F hr (hx σ) I2 (.cons rfl r) q2)
/-- o.m() -/
theorem pe_m0 {pl : Sem Bool} (c : Cls X.K C) (G : Gm X.prog X.w X.K X.mg X.base k C m sp) (hr : Room k X.A) (hx : ∀ σ, PassesAt (L2.CX X.prog X.w) X σ (E σ)) (he : PE X o ta)
    (ht : eval (.Call (.Attribute o m apos) [] [] pos) X.env = (do
      let ov ← eval o X.env
      standAt apos.atName
      let (f, first) ← holding [ov] (getMethod ov m pl)
      callWith pos f first (backTo pos (starEach [] X.env)) (backToKw pos (keywordEach [] X.env))) := by rfl) :
    PE X (.Call (.Attribute o m apos) [] [] pos) (tMetZ C m sp E ta tNil) := by
  obtain ⟨f, hm, F⟩ := G.ex
  refine ⟨fun pins s σ H Q I h => ?_⟩
  refine PySem.W.methodCall_KW (pl := pl) (thn (he.run pins s σ H _ I h) fun u s1 ⟨x, H1, I1, rx, a, dx, fs, ex, ea, l, q⟩ => ?_) ht
  subst ex
  obtain rfl : u = Value.ref a := rx
  refine getmeth_ok I1 ea c hm l ?_
  exact PySem.W.callWith_K0 (first := [.ref a]) I1.kIn hm.kp (wpAny_call (run_fnRS (us := [.ref a]) (vs := [.ref a]) F hr (hx σ) I1 (.cons rfl .nil) q))
/-- f() -/
theorem pe_f0 (G : Gf X.prog X.w X.K X.mg X.base k x sp) (hr : Room k X.A) (hx : ∀ σ, PassesAt (L2.CX X.prog X.w) X σ (E σ)) (hg : Gl X x := by rfl)
    (hdb : (x == ("__debug__" : Str)) = false := by decide) : PE X (.Call (.Name x p) [] [] pos) (tCallS sp E tNil) := by
  obtain ⟨f, hm, hk, F⟩ := G.ex
  refine ⟨fun pins s σ H Q I h => ?_⟩
  refine wpAny_Call_Name_kw (ld_glob I hg hm ?_ hdb)
  exact PySem.W.callWith_K0 I.kIn hk (wpAny_call (run_fnRS (us := []) F hr (hx σ) I .nil h))
theorem run_makeS {pins : List (Addr × Obj)} {σ : L2.St} {H : Hp} {s : Shared} {Q : VK} {us : List Value} {vs : List V} {f : Addr} {E : XK} (M : Mk X.K C f) (F : FnR X.prog X.w X.K X.mg X.base (L2.CX X.prog X.w) k f sp) (hr : Room (k + 1) X.A)
    (hx : PassesAt (L2.CX X.prog X.w) X σ E) (I : Inv X pins σ H s) (r : Vals vs us)
    (h : ∀ x dx, H x = none → H dx = none → dx ≠ x → sp (.ref x :: vs) (upd (upd H dx (.own x)) x (.ins C dx [])) (fun v H2 => v = .non ∧ Q (.ref x) H2) E) :
    wpAny (model X.prog X.w) X.A (call (.ref C) us) (EP X pins σ Q) X.xe s := by
  have hq := h (s.heap.objs.size + 1) s.heap.objs.size (I.hok.fresh (Nat.le_succ _)) (I.hok.fresh (Nat.le_refl _)) (Nat.ne_of_lt (Nat.lt_succ_self _))
  have I2 := Inv.made (C := C) I
  have r2 : Vals (V.ref (s.heap.objs.size + 1) :: vs) (Value.ref (s.heap.objs.size + 1) :: us) := .cons rfl r
  refine wpAny_call (make_map (f := f) I.kIn M.makes M.init (beq_iff_eq.mp M.fn) (codeAny_mono (F _ X.stack _ _ (Value.ref (s.heap.objs.size + 1) :: us) _ _ E (hr.make C us [])
    (I2.env0.make C us []) r2 hq) fun r s' hq' => ?_))
  cases r with
  | error e => exact hx pins _ _ e s' I2 hq'
  | ok fl =>
    cases fl with
    | ret u =>
      obtain ⟨v, H', I3, rv, ev, q3⟩ := I2.after hq'
      subst ev
      exact ⟨rv, ⟨V.ref (s.heap.objs.size + 1), H', I3, rfl, q3⟩⟩
    | next => exact False.elim hq'
    | brk => exact False.elim hq'
    | cont => exact False.elim hq'
def tMakeS (C : Addr) (sp : Sp) (E : L2.St → XK) (t : TA) : TE := fun σ H Q => t σ H fun vs H1 => ∀ x dx, H1 x = none → H1 dx = none → dx ≠ x → sp (.ref x :: vs) (upd (upd H1 dx (.own x)) x (.ins C dx [])) (fun v H2 => v = .non ∧ Q (.ref x) H2) (E σ)
/-- C(e, ..) -/
theorem pe_k (G : Gk X.prog X.w X.K X.mg X.base k C sp) (hr : Room (k + 1) X.A) (hm : X.mg x = some (.ref C)) (hx : ∀ σ, PassesAt (L2.CX X.prog X.w) X σ (E σ)) (ha : PA X (e :: es) t) (hg : Gl X x := by rfl)
    (hdb : (x == ("__debug__" : Str)) = false := by decide) (he : starEach (e :: es) X.env = (false, eval e X.env) :: starEach es X.env := by rfl) (hpl : (backTo pos (starEach es X.env)).any (·.1) = false := by rfl) :
    PE X (.Call (.Name x p) (e :: es) [] pos) (tMakeS C sp E t) := by
  obtain ⟨f, M, F⟩ := G.ex
  refine ⟨fun pins s σ H Q I h => ?_⟩
  refine wpAny_Call_Name_kw (ld_glob I hg hm ?_ hdb)
  refine PySem.W.callWith_K (h₀ := X.base) I.ok.mod.kin M.kp (thn (ha.run pos pins s σ H _ I h) fun us s1 ⟨vs, H1, I1, r, q⟩ => ⟨I1.kIn, ?_⟩) he hpl
  exact run_makeS M F hr (hx σ) I1 r q
/-- C() -/
theorem pe_k0 (G : Gk X.prog X.w X.K X.mg X.base k C sp) (hr : Room (k + 1) X.A) (hm : X.mg x = some (.ref C)) (hx : ∀ σ, PassesAt (L2.CX X.prog X.w) X σ (E σ)) (hg : Gl X x := by rfl)
    (hdb : (x == ("__debug__" : Str)) = false := by decide) : PE X (.Call (.Name x p) [] [] pos) (tMakeS C sp E tNil) := by
  obtain ⟨f, M, F⟩ := G.ex
  refine ⟨fun pins s σ H Q I h => ?_⟩
  refine wpAny_Call_Name_kw (ld_glob I hg hm ?_ hdb)
  exact PySem.W.callWith_K0 I.kIn M.kp (run_makeS (us := []) M F hr (hx σ) I .nil h)
/-- nothing is raised -/
theorem at0 {X : Cx} : ∀ σ : L2.St, PassesAt (L2.CX X.prog X.w) X σ ((fun _ => E0) σ) := fun σ pins H s e s' I h => passL pins σ H s e s' I h
end
end Z
namespace PySem
open Sem (wp)
section
variable {prog : Program} {w : World} {A : Around} {E : Value → Shared → Prop} {s : Shared}
/-- a tuple is looked for among keys that are texts and whole numbers: it is not there -/
theorem zd_find_miss {d a : Addr} {o : Obj} {es ep} {k : NestedKey} {Q : Option Nat → Shared → Prop} (hu : (nestedKind prog w).room A) (hkey : (nestedKind prog w).is s.heap k a)
    (ht : ∃ items, s.heap.IsTuple a items) (hA : A.units < cLine)
    (ho : s.heap.get? d = some o) (hd : o.data = .dict es ep) (hs : ∀ e ∈ es, ∃ x t, e.key = Value.str x t) (h : Q none s) :
    wpAny (model prog w) A (dictFind d (.ref a) ((nestedKind prog w).hash k)) Q E s := by
  obtain ⟨items, ht⟩ := ht
  have hmem : ∀ v ∈ (placesWithHash es.size (fun i => es[i]?.map (·.hash)) ((nestedKind prog w).hash k)).filterMap (fun i => es[i]?.map (·.key)), ∃ x t, v = Value.str x t := by
    intro v hv
    obtain ⟨i, _, hi⟩ := List.mem_filterMap.mp hv
    cases hei : es[i]? with
    | none => rw [hei] at hi; cases hi
    | some e =>
      rw [hei] at hi
      obtain rfl : e.key = v := by simpa using hi
      exact hs e (Array.mem_of_getElem? hei)
  have hany : ¬ (es.any fun e => e.key == Value.ref a && e.hash != (nestedKind prog w).hash k) = true := by
    rw [← Array.any_toList, List.any_eq_true]
    rintro ⟨e, hin, hc⟩
    obtain ⟨x, t, hx⟩ := hs e (Array.mem_toList_iff.mp hin)
    rw [hx] at hc
    simp at hc
  have quiet : ∀ (stored : List Value) (Q : Bool → Shared → Prop), (∀ v ∈ stored, ∃ x t, v = Value.str x t) → Q false s → wpAny (model prog w) A (tableMayTell (.ref a) stored) Q E s := by
    intro stored Q hst hq
    unfold tableMayTell
    split
    · exact wpAny_pure hq
    · refine wpAny_bind ((nestedKind prog w).quiet hkey ?_)
      simp only [Bool.not_true, Bool.false_eq_true, if_false]
      refine wpAny_bind ?_
      refine wpAny_forIn_list _ (fun rest r s' => s' = s ∧ r = (none, ()) ∧ ∀ v ∈ rest, ∃ x t, v = Value.str x t) _ ?_ ?_ _ _ ⟨rfl, rfl, hst⟩
      · rintro x rest r s' ⟨rfl, rfl, hr⟩
        obtain ⟨y, t, rfl⟩ := hr x List.mem_cons_self
        show wpAny _ _ (do if !(← (pure true : Sem Bool)) then _ else _) _ _ _
        refine wpAny_bind (wpAny_pure ?_)
        simp only [Bool.not_true, Bool.false_eq_true, if_false]
        exact wpAny_pure ⟨rfl, rfl, fun v hv => hr v (List.mem_cons_of_mem _ hv)⟩
      · rintro r s' ⟨rfl, rfl, _⟩
        exact wpAny_pure hq
  unfold dictFind
  try with_reducible refine wpAny_holding ?_
  refine wpAny_bind (wpAny_dictEntries ho hd ?_)
  dsimp only
  rw [if_neg (show ¬ ((Value.ref a :: (placesWithHash es.size (fun i => es[i]?.map (·.hash)) ((nestedKind prog w).hash k)).filterMap (fun i => es[i]?.map (·.key))).all carriedByValue) = true by simp [carriedByValue])]
  rw [if_neg hany]
  by_cases hone : (((placesWithHash es.size (fun i => es[i]?.map (·.hash)) ((nestedKind prog w).hash k)).filterMap (fun i => es[i]?.map (·.key))) == [Value.ref a]) = true <;>
  (first | rw [if_pos hone] | rw [if_neg hone]) <;> (first | refine wpAny_bind (wpAny_pure ?_) | refine wpAny_bind (quiet _ _ hmem ?_)) <;> (
    rw [if_neg (by simp)]
    refine wpAny_bind ?_
    refine wpAny_forIn_list _ (fun rest b s' => s' = s ∧ b = (none, none)) _ ?_ ?_ _ _ ⟨rfl, rfl⟩
    · rintro x rest b s' ⟨rfl, rfl⟩
      dsimp only
      cases hx : es[x]? with
      | none => exact wpAny_pure ⟨rfl, rfl⟩
      | some e =>
        dsimp only
        by_cases hh : (e.hash == (nestedKind prog w).hash k) = true
        · rw [if_pos hh]
          obtain ⟨y, t, hy⟩ := hs e (Array.mem_of_getElem? hx)
          rw [hy]
          refine wpAny_bind (wpAny_dictEpoch ho hd (wpAny_bind (SeqAt.EqAt.str_tuple y t ht hA _ _ _ _ (wpAny_bind (wpAny_dictEpoch ho hd ?_)))))
          show wpAny _ _ (if (ep != ep) = true then _ else _) _ E _
          rw [if_neg (by simp)]
          simp only [Bool.false_eq_true, if_false]
          refine wpAny_bind (wpAny_rule ?_)
          first | rw [if_neg (by simp)] | skip
          first
            | exact wpAny_pure ⟨rfl, rfl⟩
            | exact wpAny_bind (wpAny_pure (wpAny_pure ⟨rfl, rfl⟩))
        · rw [if_neg hh]
          exact wpAny_pure ⟨rfl, rfl⟩
    · rintro b s' ⟨rfl, rfl⟩
      exact wpAny_pure h)
end
end PySem

namespace Z
open PySem PySem.Spec PyProof.Rows L2
section
variable {X : Cx} {pins : List (Addr × Obj)} {σ : L2.St} {H : Hp} {s : Shared} {a : Addr} {y : V} {u : Value} {A : Around} {E : Value → Shared → Prop}
/-- a key that is no text and no whole number beside texts: True, a tuple of one text -/
def OddKey (H : Hp) (y : V) : Prop := y = .bl true ∨ ∃ t z, y = .ref t ∧ H t = some (.tup [.str z])
def DOdd (H : Hp) (a : Addr) (y : V) : Prop := ∃ kvs, Rd H a (.dK kvs) ∧ (∀ p ∈ kvs, ∃ z, p.1 = Sum.inr z) ∧ OddKey H y
theorem entries_str {h : Heap} {P : Program} {w : World} {vs : List (Key × Value)} {es : List DictEntry} (hp : Pairs (mixKind P w) es vs) (hk : ∀ p ∈ vs, ∃ z, p.1 = Sum.inr z) : ∀ e ∈ es, ∃ x t, e.key = Value.str x t := by
  induction hp with
  | nil => exact fun e he => absurd he (by simp)
  | cons h1 _ _ ih =>
    intro e he
    rcases List.mem_cons.mp he with rfl | he
    · obtain ⟨z, hz⟩ := hk _ List.mem_cons_self
      have h2 := h1
      rw [hz] at h2
      obtain ⟨t, ht⟩ := Value.isStrOf_shape (show Value.isStrOf z _ = true from h2)
      exact ⟨z, t, ht⟩
    · exact ih (fun p hp => hk p (List.mem_cons_of_mem _ hp)) e he
theorem d_get_odd {Q : Value → Shared → Prop} (hu : A.units + 64 < cLine) (I : Inv X pins σ H s) (g : DOdd H a y) (ry : RelV y u) (h : ∀ s', Inv X pins σ H s' → Q .none s') :
    wpAny (model X.prog X.w) A (call (.builtin "dict.get") [.ref a, u]) Q E s := by
  obtain ⟨kvs, e, hk, odd⟩ := g
  obtain ⟨z, hd, vs, rel, o, es, ep, h1, h2, h3, h4, h5, h6⟩ := dk_rd I.hok e
  have hkv : ∀ p ∈ vs, ∃ z, p.1 = Sum.inr z := by
    intro p hp
    obtain ⟨q, hq, e1⟩ : ∃ q ∈ kvs, q.1 = p.1 := by
      clear h5 h6 e hk
      induction rel with
      | nil => exact absurd hp (by simp)
      | cons r _ ih =>
        rcases List.mem_cons.mp hp with rfl | hp
        · exact ⟨_, List.mem_cons_self, r.1⟩
        · obtain ⟨q, hq, e1⟩ := ih (by simp at z; omega) hp
          exact ⟨q, List.mem_cons_of_mem _ hq, e1⟩
    obtain ⟨z, hz⟩ := hk q hq
    exact ⟨z, by rw [← e1, hz]⟩
  have hes := entries_str (h := s.heap) h5 hkv
  rcases odd with rfl | ⟨t, zz, rfl, et⟩
  · cases (show u = Value.bool true from ry)
    have hm : s.heap.MapOf (leafKind X.prog X.w) a (findBy (leafKind X.prog X.w).is es) := ⟨o, es, ep, h1, h2, h3, fun e he => by
      obtain ⟨k, hk1, hk2⟩ := h4 e he
      obtain ⟨x, t, hx⟩ := hes e (Array.mem_toList_iff.mpr he)
      refine ⟨.text x, by rw [hx]; show Value.isStrOf x (Value.str x t) = true; simp [Value.isStrOf], ?_⟩
      rw [hx] at hk1
      cases k with
      | inl i => exact absurd hk1 Bool.false_ne_true
      | inr x' =>
        obtain ⟨t', ht'⟩ := Value.isStrOf_shape (show Value.isStrOf x' (Value.str x t) = true from hk1)
        injection ht' with e1 _
        subst e1
        exact hk2, fun _ => rfl⟩
    have hdd : s.TypeIs (.ref a) "dict" := ⟨o, h1, h2.1⟩
    refine call_meetsIn PySem.F.slot_dict_get hdd PySem.F.entry_dict_get (PySem.F.args_dict_get_2 _ _) (meets_dict_get (leafKind X.prog X.w) (k := .num 1) a rfl hd) ⟨_, hm, ?_⟩
    have hf : findBy (leafKind X.prog X.w).is es (.num 1) = none := by
      unfold findBy
      rw [Option.map_eq_none_iff, Array.find?_eq_none]
      intro e he
      obtain ⟨x, t, hx⟩ := hes e (Array.mem_toList_iff.mpr he)
      rw [hx]
      exact Bool.false_ne_true
    rw [hf]
    exact h _ (I.tok _)
  · cases (show u = Value.ref t from ry)
    obtain ⟨_, its, rv, ot, t1, t2, n, t3⟩ := (show ObjOk X.prog X.w H s.heap t (.tup [.str zz]) from I.hok t _ et)
    cases rv with
    | cons r1 r2 =>
      cases r2
      obtain ⟨tk, rfl⟩ := r1
      have hkey : (nestedKind X.prog X.w).is s.heap (.tup [.text zz]) t := ⟨NestedIs.tup t1 t2 t3 (NestedAll.cons (NestedIs.text zz tk) NestedAll.nil), by simp [NestedKey.depth, NestedKey.depthAll]⟩
      have hdd : s.TypeIs (.ref a) "dict" := ⟨o, h1, h2.1⟩
      have hu1 : A.in1.units = A.units + 1 := rfl
      have hmeets : MeetsIn X.prog X.w (Builtin.«dict.get» ⟨[.ref a, .ref t], []⟩) (fun A' R s' => A' = A ∧ s' = s ∧ R (.ok (.ret .none)) { s with toks := s.toks + (nestedKind X.prog X.w).draws (.tup [.text zz]) }) :=
        .of_wp fun A' R s' ⟨eA, es', hR⟩ => by
          subst eA es'
          show wpAny _ _ (dictGet a (.ref t) >>= _) _ _ s'
          refine wpAny_bind ?_
          unfold dictGet
          try with_reducible refine wpAny_holding ?_
          refine wpAny_bind ((nestedKind X.prog X.w).pyHash (by show A'.units + 1 + 8 < cLine; omega) hkey (wpAny_bind (zd_find_miss (s := { s' with toks := s'.toks + (nestedKind X.prog X.w).draws (.tup [.text zz]) }) (by show A'.units + 1 + 8 < cLine; omega) hkey ⟨_, ot, t1, t2, n, t3⟩ (by show A'.units + 1 < cLine; omega) h1 h3 (fun e he => hes e (Array.mem_toList_iff.mpr he)) ?_)))
          refine wpAny_pure ?_
          show wpAny _ _ (Builtin.Dict.missed a (.ref t) >>= _) _ _ _
          exact wpAny_bind (wpAny_missed_other hd (wpAny_pure ⟨.none, rfl, hR⟩))
      exact call_meetsIn PySem.F.slot_dict_get hdd PySem.F.entry_dict_get (PySem.F.args_dict_get_2 _ _) hmeets ⟨rfl, rfl, h _ (I.tok _)⟩
end
end Z
namespace Z
open PySem PySem.Spec PyProof.Rows L2
section
variable {X : Cx} {o e : Expr} {apos cpos : Pos} {td ty : TE}
/-- what d.get(y) gives -/
def DGetZ (H : Hp) (a : Addr) (y : V) (r : Option V) : Prop := DGet H a y r ∨ (DOdd H a y ∧ r = none)
def tGet (td ty : TE) : TE := fun σ H Q => td σ H fun x H1 => ∃ a, x = .ref a ∧ IsD H1 a ∧ ty σ H1 fun y H2 => ∃ o, DGetZ H2 a y o ∧ Q (o.getD .non) H2
theorem pe_get (hu : X.A.units + 64 < cLine) (ho : PE X o td) (he : PE X e ty) (m : M1 X o "get" apos e cpos := by exact ⟨rfl, rfl, rfl, rfl⟩) : PE X (.Call (.Attribute o "get" apos) [e] [] cpos) (tGet td ty) := by
  refine ⟨fun pins s σ H Q I h => ?_⟩
  refine wpAny_Call_method m.base m.few m.line PySem.F.plainAttrs_dict PySem.F.slot_dict_get PySem.F.type_dict_get (thn (ho.run pins s σ H _ I h) fun u s1 ⟨x, H1, I1, rx, a, ex, d, q1⟩ => ?_)
  subst ex
  obtain rfl : u = Value.ref a := rx
  obtain ⟨t1, t2, _⟩ := isD_at I1 d
  refine ⟨t1, t2, ?_⟩
  rw [m.trees]
  refine Calls.callWith_builtin rfl (Calls.evalArgs_plain (Calls.spliced_cons (thn (he.run pins s1 σ H1 _ I1 q1) fun iv s2 ⟨y, H2, I2, ry, ov, g, q2⟩ => Calls.spliced_nil ?_)))
  rcases g with g | ⟨g, rfl⟩
  · exact d_get1 (by omega) I2 g ry fun w' s3 I3 rw' => ⟨_, H2, I3, rw', q2⟩
  · exact d_get_odd hu I2 g ry fun s3 I3 => ⟨.non, H2, I3, rfl, q2⟩
/-- a dict is not {} -/
def rNeE : R2 := fun x y H Q => ∃ a b kvs, x = .ref a ∧ y = .ref b ∧ H a = some (.dK kvs) ∧ H b = some (.dK []) ∧ Q (.bl (!kvs.isEmpty)) H
theorem op_neE (hu : X.A.units < cLine) : OpR X (compareOp .NotEq) rNeE := by
  intro pins s σ H x y v u Q I rx ry h
  obtain ⟨a, b, kvs, rfl, rfl, ea, eb, q⟩ := h
  obtain rfl : v = Value.ref a := rx
  obtain rfl : u = Value.ref b := ry
  obtain ⟨_, ya, va, ra, da⟩ := (show ObjOk X.prog X.w H s.heap a (.dK kvs) from I.hok a _ ea)
  obtain ⟨_, yb, vb, rb, db⟩ := (show ObjOk X.prog X.w H s.heap b (.dK []) from I.hok b _ eb)
  cases rb
  cases ra with
  | nil => exact PySem.W.keq_ne (knd := mixKind X.prog X.w) (r := true) ya yb da db hu (fun _ => .nil) (fin_bl I q (by simp))
  | cons r1 r2 => exact PySem.W.keq_ne (knd := mixKind X.prog X.w) (r := true) ya yb da db hu (fun z => by simp at z) (fin_bl I q (by simp))
/-! ### operators whatever they work on -/
def rAddU (K : PySem.W.Frag) : R2 := fun x y H Q => (∃ i j, x = .int i ∧ y = .int j ∧ Q (.int (i + j)) H) ∨ (∃ i j, x = .str i ∧ y = .str j ∧ i.length + j.length ≤ sizeLine ∧ Q (.str (i ++ j)) H) ∨ rCat x y H Q ∨ rCatA K x y H Q
theorem op_addU : OpR X (binaryOp .Add) (rAddU X.K) := OpR.or op_add (OpR.or op_add_str (OpR.or op_cat op_catA))
def rMulU (K : PySem.W.Frag) : R2 := fun x y H Q => rI CMul (fun i j => .int (i * j)) x y H Q ∨ rRep x y H Q
theorem op_mulU : OpR X (binaryOp .Mult) (rMulU X.K) := OpR.or op_mul op_rep
def rSubU : R2 := rI0 fun i j => .int (i - j)
theorem op_subU : OpR X (binaryOp .Sub) rSubU := op_sub
def rFdivU : R2 := rI CDivN fun i j => .int (i.fdiv j)
theorem op_fdivU : OpR X (binaryOp .FloorDiv) rFdivU := op_fdivN
def rModU : R2 := rI (fun _ j => j ≠ 0) fun i j => .int (i.fmod j)
theorem op_modU : OpR X (binaryOp .Mod) rModU := op_modN
def rPowU : R2 := rI CPow fun i j => .int (i ^ j.toNat)
theorem op_powU : OpR X (binaryOp .Pow) rPowU := op_pow
def rEqU (K : PySem.W.Frag) : R2 := rEqD K
theorem op_eqU (hu : X.A.units + 64 < cLine) : OpR X (compareOp .Eq) (rEqU X.K) := op_eqD hu
def rNeU (K : PySem.W.Frag) : R2 := fun x y H Q => rNeD K x y H Q ∨ rNeE x y H Q
theorem op_neU (hu : X.A.units + 64 < cLine) : OpR X (compareOp .NotEq) (rNeU X.K) := OpR.or (op_neD hu) (op_neE (by omega))
def rLtU : R2 := fun x y H Q => rI0 (fun i j => .bl (decide (i < j))) x y H Q ∨ ∃ i j, x = .str i ∧ y = .str j ∧ Q (.bl (decide (i.cps.toList < j.cps.toList))) H
theorem op_ltU : OpR X (compareOp .Lt) rLtU := OpR.or op_lt op_lt_str
def rLeU : R2 := rI0 fun i j => .bl (decide (i ≤ j))
theorem op_leU : OpR X (compareOp .LtE) rLeU := op_le
def rGtU : R2 := rI0 fun i j => .bl (decide (j < i))
theorem op_gtU : OpR X (compareOp .Gt) rGtU := op_gt
def rGeU : R2 := rI0 fun i j => .bl (decide (j ≤ i))
theorem op_geU : OpR X (compareOp .GtE) rGeU := op_ge
/-- x in y: a sign in a text, a thing in a list or tuple of flat things, data in a list of data, a key in a dict -/
def rInU (K : PySem.W.Frag) : R2 := fun x y H Q => (∃ (c : Nat) (z : Str), x = .str ⟨#[c]⟩ ∧ y = .str z ∧ Q (.bl (decide (c ∈ z.cps.toList))) H) ∨ rIn K false x y H Q ∨ rInD K x y H Q
theorem op_inU (hu : X.A.units + 65 < cLine) : OpR X (compareOp .In) (rInU X.K) := OpR.or op_in_sign (OpR.or op_in_seq (op_inD hu))
def rNotInU (K : PySem.W.Frag) : R2 := fun x y H Q => (∃ (c : Nat) (z : Str), x = .str ⟨#[c]⟩ ∧ y = .str z ∧ Q (.bl (!decide (c ∈ z.cps.toList))) H) ∨ rIn K true x y H Q ∨ rNotInD K x y H Q
theorem op_notInU (hu : X.A.units + 65 < cLine) : OpR X (compareOp .NotIn) (rNotInU X.K) := OpR.or op_notIn_sign (OpR.or op_notIn_seq (op_notInD hu))
def rIsU : R2 := fun x y H Q => y = .non ∧ Q (.bl (decide (x = .non))) H
theorem op_isU : OpR X (compareOp .Is) rIsU := op_isN
def rIsNotU : R2 := fun x y H Q => y = .non ∧ Q (.bl (!decide (x = .non))) H
theorem op_isNotU : OpR X (compareOp .IsNot) rIsNotU := op_notN
end
/-! ### calls of built-ins, whatever they are called with -/
section
variable {X : Cx}
theorem CallR.or {f : Value} {r r' : List V → Hp → VK → Prop} (h : CallR X f r) (h' : CallR X f r') : CallR X f (fun xs H Q => r xs H Q ∨ r' xs H Q) := by
  intro pins s σ H xs us Q I rx q
  rcases q with q | q
  · exact h pins s σ H xs us Q I rx q
  · exact h' pins s σ H xs us Q I rx q
theorem MtR.or {id : String} {r r' : V → List V → Hp → VK → Prop} (h : MtR X id r) (h' : MtR X id r') : MtR X id (fun x xs H Q => r x xs H Q ∨ r' x xs H Q) := by
  intro pins s σ H x xs v us Q I rx rr q
  rcases q with q | q
  · exact h pins s σ H x xs v us Q I rx rr q
  · exact h' pins s σ H x xs v us Q I rx rr q
def rLenU (K : PySem.W.Frag) : List V → Hp → VK → Prop := fun xs H Q => (∃ x n, xs = [x] ∧ LenV K x H n ∧ Q (.int n) H) ∨ (∃ (a : Addr) (kvs : List (Key × V)), xs = [.ref a] ∧ H a = some (.dK kvs) ∧ Q (.int (kvs.length : Int)) H)
theorem call_lenU : CallR X (.builtin "len") (rLenU X.K) := CallR.or call_len call_lenD
/-- sorted(d), sorted(list of texts) -/
def rSortedU (K : PySem.W.Frag) : List V → Hp → VK → Prop := fun xs H Q => (∃ (a : Addr) (kvs : List (Key × V)) (ks : List Str), xs = [.ref a] ∧ Rd H a (.dK kvs) ∧ kvs.map (·.1) = ks.map Sum.inr ∧ ks.length < 64 ∧ ∀ ys p, ys.Perm ks → sortedS ys = true → H p = none → Q (.ref p) (upd H p (.lst (ys.map V.str)))) ∨ rSortedS K xs H Q
theorem call_sortedU (hc : X.calm = true) : CallR X (.builtin "sorted") (rSortedU X.K) := CallR.or (call_sortedD hc) cr_sortedS
def rDictU : List V → Hp → VK → Prop := fun xs H Q => ∃ (a : Addr) (kvs : List (Key × V)), xs = [.ref a] ∧ Rd H a (.dK kvs) ∧ ∀ p, H p = none → Q (.ref p) (upd H p (.dK kvs))
theorem call_dictU : CallR X (.type "dict") rDictU := call_dictD
end
/-! ### isinstance of a caught error that has its dict -/
section
variable {X : Cx}
def rIsX (K : PySem.W.Frag) (a : Addr) (cls : Value) (d : Option Addr) : List V → Hp → VK → Prop := fun xs H Q => ∃ (D : Addr) (c : V) (cv : Value) (b : Bool) (dd : Addr) (fs : List (Str × V)), cls = .ref D ∧ ExcC K D ∧ xs = [.ref a, c] ∧ (∀ u, RelV c u → u = cv) ∧ PySem.W.kitOne K (.ref D) cv = some b ∧ d = some dd ∧ H dd = some (.xd fs) ∧ Q (.bl b) H
theorem call_isX {a : Addr} {cls : Value} {d : Option Addr} {oe : Obj} {pn : List (Addr × Obj)} (hz : Zc cls d oe) (hf : ∃ vs, oe.data = .fields vs) : CallR (X.suite a ((a, oe) :: pn)) (.builtin "isinstance") (rIsX X.K a cls d) := by
  intro pins s σ H xs us Q I r h
  obtain ⟨D, c, cv, b, dd, fs, rfl, C, rfl, hcv, e, rfl, ed, q⟩ := h
  obtain ⟨u1, u2, rfl, r1, r2⟩ := vals2 r
  cases (show u1 = Value.ref a from r1)
  obtain rfl := hcv _ r2
  have hget := (I.pin (a, oe) (List.mem_append.mpr (.inl List.mem_cons_self))).1
  obtain ⟨vs, hv⟩ := hf
  obtain ⟨mA, hns, _⟩ := (show ObjOk X.prog X.w H s.heap dd (.xd fs) from I.hok dd _ ed)
  obtain ⟨od, ho, _⟩ := lookIn_ns hns
  have J : PySem.W.InstAt s.heap a oe D (some od) := ⟨hget, hz.1, by unfold PySem.W.notCls; rw [hv] <;> rfl, by rw [hz.2]; exact ho⟩
  have hcl : (PySem.W.clsIn X.K D).isSome = true := by
    have h1 := C.hd
    unfold PySem.W.hasDictIn at h1
    cases q : PySem.W.clsIn X.K D with
    | none => rw [q] at h1; cases h1
    | some z => rfl
  exact PySem.W.kia_one (PySem.W.kitx_exc (od := some od) hcl C.hg C.hk C.hs C.ha C.hn C.ht C.hm) I.kIn J e (fun z => nomatch z) fun tk => ⟨.bl b, H, I.kept (t' := tk) fun _ _ z => z, rfl, q⟩
end
section
variable {X : Cx}
/-- d[k] by values -/
def rIxDk : R2 := fun x y H Q => ∃ a v, x = .ref a ∧ DGet H a y (some v) ∧ Q v H
theorem ix_dk (hu : X.A.units + 1 < cLine) : IxR X rIxDk := by
  intro value slice pins s σ H x y v u Q I rx ry h hs
  obtain ⟨a, z, rfl, g, q⟩ := h
  cases (show v = Value.ref a from rx)
  exact tail_any (dict_typeIs I g) PySem.F.slot_dict_getitem.lookup (d_getItem hu I g ry fun w' s3 I3 rw' => ⟨z, H, I3, rw', q⟩) hs
def rIxU (K : PySem.W.Frag) : R2 := fun x y H Q => rIx K x y H Q ∨ rIxDk x y H Q
theorem ix_U (hu : X.A.units + 1 < cLine) : IxR X (rIxU X.K) := IxR.or ix_seq (ix_dk hu)
theorem PSet.or {r r' : TSet} (h : PSet X r) (h' : PSet X r') : PSet X (fun o i v H Q => r o i v H Q ∨ r' o i v H Q) := by
  intro pins s σ H o i v ov iv u Q I ro ri rv q
  rcases q with q | q
  · exact h pins s σ H o i v ov iv u Q I ro ri rv q
  · exact h' pins s σ H o i v ov iv u Q I ro ri rv q
def rSetU : TSet := fun o i v H Q => rSetL o i v H Q ∨ rSetD o i v H Q
theorem set_U (hu : X.A.units + 1 < cLine) : PSet X rSetU := PSet.or set_list (set_dict hu)
def rSlU (K : PySem.W.Frag) : V → Option Int → Option Int → Hp → VK → Prop := fun x lo hi H Q => rSlL K x lo hi H Q ∨ rSlS x lo hi H Q ∨ rSlA K x lo hi H Q
theorem sl_U : SlR X (rSlU X.K) := SlR.or sl_list (SlR.or sl_str sl_tupA)
/-! ### an own error that is raised -/
structure Gx (P : Program) (w : World) (K : PySem.W.Frag) (mg : Str → Option Value) (base : Heap) (k : Nat) (C : Addr) (sp : Sp) : Prop where
  ex : ∃ fI fd ps, OexC K C ∧ PySem.W.findIn K (.ref C) "__init__" = some (some (.ref fI)) ∧ PySem.W.typeIn K (.ref fI) = some (.type "function") ∧ FnOk P w K mg base (L2.CX P w) k fI fd ps sp ∧ Binds K fd ps []
theorem pmk_x {k : Nat} {C : Addr} {sp : Sp} {x : Str} {e : Expr} {es : List Expr} {ta : TA} {p pos : Pos} (G : Gx X.prog X.w X.K X.mg X.base k C sp) (hr : Room (k + 1) X.A) (hm : X.mg x = some (.ref C)) (ha : PA X (e :: es) ta) (hg : Gl X x := by rfl)
    (hdb : (x == ("__debug__" : Str)) = false := by decide) (he : starEach (e :: es) X.env = (false, eval e X.env) :: starEach es X.env := by rfl) (hpl : (backTo pos (starEach es X.env)).any (·.1) = false := by rfl) :
    PMk X (.Call (.Name x p) (e :: es) [] pos) (tMkO C sp [] ta) := by
  obtain ⟨fI, fd, ps, T, iC, tI, F, b⟩ := G.ex
  exact pmk_oex T iC tI F hr b .nil passL hg hm ha hdb he hpl
def tRaise (C : Addr) (sp : Sp) (W : WX) (ta : TA) : TS := fun _ σ H => tMkO C sp [] ta σ H fun cls d H' => W cls d σ H'
theorem ps_rx {k : Nat} {C : Addr} {sp : Sp} {x : Str} {e : Expr} {es : List Expr} {ta : TA} {p pos pos2 : Pos} {W : WX} (hc : X.calm = true) (tk : Takes X W) (G : Gx X.prog X.w X.K X.mg X.base k C sp) (hr : Room (k + 1) X.A) (hm : X.mg x = some (.ref C)) (ha : PA X (e :: es) ta) (hg : Gl X x := by rfl)
    (hdb : (x == ("__debug__" : Str)) = false := by decide) (he : starEach (e :: es) X.env = (false, eval e X.env) :: starEach es X.env := by rfl) (hpl : (backTo pos (starEach es X.env)).any (·.1) = false := by rfl) :
    PS X (.Raise (some (.Call (.Name x p) (e :: es) [] pos)) none pos2) (tRaise C sp W ta) := ps_raise hc tk (pmk_x G hr hm ha hg hdb he hpl)
end
/-- C.__init__(self, f): ValueError.__init__(self, '..'); self.f = f -/
def spEx1 (C : Addr) (f : Str) : Sp := fun vs H Q _ => ∃ a v, vs = [.ref a, v] ∧ H a = some (exo a C none) ∧ ∀ dx, H dx = none → dx ≠ a → Q .non (upd (upd H dx (exd dx [(f, v)])) a (exo a C (some dx)))
theorem exc_heap {H : Hp} {a d : Addr} {o1 o2 o3 o4 : HO} (h : H a = none) (hd : d ≠ a) : upd (del (upd (upd (upd H a o1) d o2) a o3) a) d o4 = upd H d o4 := by
  funext b
  by_cases hb : b = d
  · rw [hb, upd_same, upd_same]
  · rw [upd_ne hb, upd_ne hb]
    by_cases ha : b = a
    · rw [ha, del_same, h]
    · rw [del_ne ha, upd_ne ha, upd_ne hb, upd_ne ha]
/-- raise C(v): what its argument's reading is to reach -/
theorem k_raise {C : Addr} {f : Str} {W : XK} {H1 : Hp} {v : V} (k : ∀ d, H1 d = none → W (.ref C) (some d) (upd H1 d (.xd [(f, v)]))) : [v].length ≤ 1000 ∧ ∀ a, H1 a = none → spEx1 C f (.ref a :: ([v] ++ [])) (upd H1 a (exo a C none))
    (fun z H2 => z = .non ∧ ∃ (d : Addr) (fs : List (Str × V)), H2 a = some (exo a C (some d)) ∧ H2 d = some (exd d fs) ∧ H1 d = none ∧ W (.ref C) (some d) (upd (del H2 a) d (.xd fs))) (fun _ _ _ => False) := by
  refine ⟨by simp, fun a ha => ⟨a, v, rfl, upd_same, fun dx hdx hne => ⟨rfl, dx, [(f, v)], upd_same, ?_, ?_, ?_⟩⟩⟩
  · rw [upd_ne hne, upd_same]
  · rw [upd_ne hne] at hdx; exact hdx
  · rw [exc_heap ha hne]
    rw [upd_ne hne] at hdx
    exact k dx hdx
section
variable {X : Cx}
def rAbs : List V → Hp → VK → Prop := fun xs H Q => ∃ i, xs = [.int i] ∧ Q (.int (if i < 0 then -i else i)) H
def rMax2 : List V → Hp → VK → Prop := fun xs H Q => ∃ i j, xs = [.int i, .int j] ∧ Q (.int (if j > i then j else i)) H
def rMin2 : List V → Hp → VK → Prop := fun xs H Q => ∃ i j, xs = [.int i, .int j] ∧ Q (.int (if j < i then j else i)) H
def rTupOf (K : PySem.W.Frag) : List V → Hp → VK → Prop := fun xs H Q => ∃ p ys, xs = [.ref p] ∧ ((SqL K H p ys ∧ ∀ l, H l = none → Q (.ref l) (upd H l (.tup ys))) ∨ (SqT K H p ys ∧ Q (.ref p) H))
def rLstOf (K : PySem.W.Frag) : List V → Hp → VK → Prop := fun xs H Q => ∃ p ys, xs = [.ref p] ∧ (SqL K H p ys ∨ SqT K H p ys) ∧ ∀ l, H l = none → Q (.ref l) (upd H l (.lst ys))
def tTru (K : PySem.W.Frag) (ta : TE) : TT := fun σ H Q => ta σ H fun x H' => ∃ k, TruV K x H' k ∧ Q k H'
abbrev wE (E : XK) : WX := fun cls d _ H => E cls d H
def tTryAs (K : PySem.W.Frag) (c : Value) (i : Nat) (tb : WX → TS) (ts : Addr → Value → Option Addr → TS) (Wout : WX) : TS := fun D σ H => tb (wAs K c i ts Wout D) D σ H
def Cst (mg : Str → Option Value) (x : Str) (v : V) : Prop := ∃ u, mg x = some u ∧ RelV v u
theorem pe_cst {x : Str} {v : V} {pos : Pos} (hg : Gl X x) (h : Cst X.mg x v) (hd : (x == ("__debug__" : Str)) = false := by decide) : PE X (.Name x pos) (tC v) := by
  obtain ⟨u, hm, r⟩ := h
  exact pe_glob hg hm r hd
theorem hu64 {k : Nat} {A : Around} (hr : Room k A) : A.units + 64 < cLine := hr.units
theorem hu65 {k : Nat} {A : Around} (hr : Room k A) : A.units + 65 < cLine := by have := hr.un; omega
theorem hu1 {k : Nat} {A : Around} (hr : Room k A) : A.units + 1 < cLine := by have := hr.un; omega
theorem PI.or {tg e : Expr} {wi wi' : TI} (h : PI X tg e wi) (h' : PI X tg e wi') : PI X tg e (fun σ H R => wi σ H R ∨ wi' σ H R) := by
  refine ⟨fun pins s σ H R I q => ?_⟩
  rcases q with q | q
  · exact h.run pins s σ H R I q
  · exact h'.run pins s σ H R I q
def iAny (K : PySem.W.Frag) (te : TE) : TI := fun σ H R => iList K te σ H R ∨ iTup K te σ H R ∨ iStr te σ H R
theorem pi_any {tg e : Expr} {te : TE} (h : PE X e te) : PI X tg e (iAny X.K te) := PI.or (pi_list h) (PI.or (pi_tup h) (pi_str h))
end
/-- an expression that is never come to -/
def tNo : TE := fun _ _ _ => False
theorem pe_no {X : Cx} {e : Expr} : PE X e tNo := ⟨fun _ _ _ _ _ _ h => h.elim⟩
end Z
/-! Readings taken step by step. -/
namespace Z
open PySem PySem.Spec PyProof.Rows L2
section
variable {K : PySem.W.Frag} {σ : L2.St} {H H1 : Hp} {Q : VK} {te ta tb tc : TE} {tt tu : TT} {t u : TS} {n b c : L2.St → Hp → Prop} {r : VK} {v x y : V} {i j : Nat} {g : TG} {gs : TGs} {tl tr : TA} {q : R2} {f : Str}
theorem w_seq (h : t ⟨u ⟨n, r, b, c⟩, r, b, c⟩ σ H) : tSeq t u ⟨n, r, b, c⟩ σ H := h
theorem w_next (h : n σ H) : tNext ⟨n, r, b, c⟩ σ H := h
theorem w_break (h : b σ H) : tBreak ⟨n, r, b, c⟩ σ H := h
theorem w_cont (h : c σ H) : tCont ⟨n, r, b, c⟩ σ H := h
theorem w_ret (h : te σ H r) : tRet te ⟨n, r, b, c⟩ σ H := h
theorem w_retN (h : r .non H) : tRetN ⟨n, r, b, c⟩ σ H := h
theorem w_drop (h : te σ H fun _ H1 => n σ H1) : tDrop te ⟨n, r, b, c⟩ σ H := h
theorem w_asg (h : te σ H fun x H1 => g x σ H1 n) : tAsg te g ⟨n, r, b, c⟩ σ H := h
theorem w_if (h : tt σ H fun k H1 => if k = true then t ⟨n, r, b, c⟩ σ H1 else u ⟨n, r, b, c⟩ σ H1) : tIfS tt t u ⟨n, r, b, c⟩ σ H := h
theorem w_par (h : tl σ H fun vs H1 => ∃ v w, vs = [v, w] ∧ n ((σ.set i (some v)).set j (some w)) H1) : tPar i j tl ⟨n, r, b, c⟩ σ H := h
theorem k_par {v w : V} (h : n ((σ.set i (some v)).set j (some w)) H1) : ∃ v' w', [v, w] = [v', w'] ∧ n ((σ.set i (some v')).set j (some w')) H1 := ⟨v, w, rfl, h⟩
theorem w_name {Q : L2.St → Hp → Prop} (h : Q (σ.set i (some v)) H) : gName i v σ H Q := h
theorem w_var (e : σ[i]? = some (some v)) (h : Q v H) : tVar i σ H Q := ⟨v, e, h⟩
theorem w_c (h : Q v H) : tC v σ H Q := h
theorem w_op (h : ta σ H fun x H1 => tb σ H1 fun y H2 => q x y H2 Q) : tOp q ta tb σ H Q := h
theorem w_un {q : V → Hp → VK → Prop} (h : ta σ H fun x H1 => q x H1 Q) : tUn q ta σ H Q := h
theorem w_cb {q : List V → Hp → VK → Prop} (h : tl σ H fun vs H1 => q vs H1 Q) : tCB q tl σ H Q := h
theorem w_cons {Q : List V → Hp → Prop} (h : ta σ H fun x H1 => tl σ H1 fun xs H2 => Q (x :: xs) H2) : tCons ta tl σ H Q := h
theorem w_nil {Q : List V → Hp → Prop} (h : Q [] H) : tNil σ H Q := h
theorem w_ifx (h : tt σ H fun k H1 => if k = true then ta σ H1 Q else tb σ H1 Q) : tIf tt ta tb σ H Q := h
theorem w_lst (h : tl σ H fun xs H1 => xs.length ≤ sizeLine ∧ ∀ p, H1 p = none → Q (.ref p) (upd H1 p (.lst xs))) : tLst tl σ H Q := h
theorem w_tup (h : tl σ H fun xs H1 => xs.length ≤ sizeLine ∧ ∀ p, H1 p = none → Q (.ref p) (upd H1 p (.tup xs))) : tTup tl σ H Q := h
theorem w_call {sp : Sp} {E : L2.St → XK} (h : tl σ H fun vs H1 => sp vs H1 Q (E σ)) : tCallS sp E tl σ H Q := h
theorem w_meth {C : Addr} {m : Str} {sp : Sp} {E : L2.St → XK} (h : ta σ H fun x H1 => ∃ a dx fs, x = .ref a ∧ H1 a = some (.ins C dx fs) ∧ fs.lookup m = none ∧ tl σ H1 fun vs H2 => sp (x :: vs) H2 Q (E σ)) : tMetZ C m sp E ta tl σ H Q := h
theorem k_meth {C : Addr} {m : Str} {a dx : Addr} {fs : List (Str × V)} {R : Prop} (ha : H a = some (.ins C dx fs)) (hm : fs.lookup m = none) (h : R) : ∃ a' dx' fs', V.ref a = .ref a' ∧ H a' = some (.ins C dx' fs') ∧ fs'.lookup m = none ∧ R := ⟨a, dx, fs, rfl, ha, hm, h⟩
theorem w_make {C : Addr} {sp : Sp} {E : L2.St → XK} (h : tl σ H fun vs H1 => ∀ x dx, H1 x = none → H1 dx = none → dx ≠ x → sp (.ref x :: vs) (upd (upd H1 dx (.own x)) x (.ins C dx [])) (fun v H2 => v = .non ∧ Q (.ref x) H2) (E σ)) : tMakeS C sp E tl σ H Q := h
theorem w_fld (h : te σ H fun x H1 => ∃ a C dx fs v, x = .ref a ∧ H1 a = some (.ins C dx fs) ∧ Cls K C ∧ NoAttr K C f ∧ fs.lookup f = some v ∧ Q v H1) : tFld K te f σ H Q := h
theorem w_sfld (h : tb σ H fun y H1 => ta σ H1 fun x H2 => ∃ a C dx fs, x = .ref a ∧ H2 a = some (.ins C dx fs) ∧ Cls K C ∧ NoAttr K C f ∧ fs.length < 1000 ∧ n σ (upd H2 a (.ins C dx (putF f y fs)))) : sFld K ta tb f ⟨n, r, b, c⟩ σ H := h
theorem w_bm {T : String} {q : V → List V → Hp → VK → Prop} (h : te σ H fun x H1 => tyV K T x H1 ∧ tl σ H1 fun xs H2 => q x xs H2 Q) : tBM K T q te tl σ H Q := h
theorem w_get (h : ta σ H fun x H1 => ∃ a, x = .ref a ∧ IsD H1 a ∧ tb σ H1 fun y H2 => ∃ o, DGetZ H2 a y o ∧ Q (o.getD .non) H2) : tGet ta tb σ H Q := h
theorem w_slc {q : V → Option Int → Option Int → Hp → VK → Prop} {lo hi : TO} (h : te σ H fun x H1 => lo σ H1 fun a H2 => hi σ H2 fun b H3 => q x a b H3 Q) : tSl q te lo hi σ H Q := h
theorem w_nopart {Q : Option Int → Hp → Prop} (h : Q none H) : tNoPart σ H Q := h
theorem w_part {Q : Option Int → Hp → Prop} (h : te σ H fun x H1 => ∃ i, x = .int i ∧ Q (some i) H1) : tPart te σ H Q := h
theorem k_part {R : Int → Prop} {i : Int} (h : R i) : ∃ j, V.int i = .int j ∧ R j := ⟨i, rfl, h⟩
theorem w_test {Q : Bool → Hp → Prop} (h : te σ H fun x H' => ∃ k, x = .bl k ∧ Q k H') : tTest te σ H Q := h
theorem k_test {Q : Bool → Prop} {k : Bool} (h : Q k) : ∃ k', V.bl k = .bl k' ∧ Q k' := ⟨k, rfl, h⟩
theorem w_tru {Q : Bool → Hp → Prop} (h : te σ H fun x H' => ∃ k, TruV K x H' k ∧ Q k H') : tTru K te σ H Q := h
theorem k_tru {Q : Bool → Prop} {k : Bool} (h : Q k) : ∃ k', TruV K (.bl k) H k' ∧ Q k' := ⟨k, rfl, h⟩
theorem w_not {Q : Bool → Hp → Prop} (h : tt σ H fun k H1 => Q (!k) H1) : tNot tt σ H Q := h
theorem w_and {Q : Bool → Hp → Prop} (h : tt σ H fun k H1 => if k = true then tu σ H1 Q else Q false H1) : tAnd tt tu σ H Q := h
theorem w_or {Q : Bool → Hp → Prop} (h : tt σ H fun k H1 => if k = true then Q true H1 else tu σ H1 Q) : tOr tt tu σ H Q := h
theorem w_andT (h : ta σ H fun x H1 => ∃ k, TruV K x H1 k ∧ if k = true then tb σ H1 Q else Q x H1) : tAndT K ta tb σ H Q := h
theorem w_orT (h : ta σ H fun x H1 => ∃ k, TruV K x H1 k ∧ if k = true then Q x H1 else tb σ H1 Q) : tOrT K ta tb σ H Q := h
theorem w_chain {q q' : R2} (h : ta σ H fun x H1 => tb σ H1 fun y H2 => q x y H2 fun z H3 => ∃ k, z = .bl k ∧ (if k = true then tc σ H3 fun w' H4 => q' y w' H4 Q else Q (.bl false) H3)) : tChain q q' ta tb tc σ H Q := h
theorem w_yes {Q : Bool → Hp → Prop} (h : Q true H) : tYes σ H Q := h
theorem w_newK (h : ∀ d, H d = none → Q (.ref d) (upd H d (.dK []))) : tDNewK σ H Q := h
theorem k_addI {i j : Int} (h : Q (.int (i + j)) H) : rAddU K (.int i) (.int j) H Q := .inl ⟨i, j, rfl, rfl, h⟩
theorem k_addS {z z' : Str} (hl : z.length + z'.length ≤ sizeLine) (h : Q (.str (z ++ z')) H) : rAddU K (.str z) (.str z') H Q := .inr (.inl ⟨z, z', rfl, rfl, hl, h⟩)
theorem k_addL {a a' : Addr} {xs ys : List V} (ha : H a = some (.lst xs)) (ha' : H a' = some (.lst ys)) (hl : xs.length + ys.length ≤ sizeLine) (h : ∀ p, H p = none → Q (.ref p) (upd H p (.lst (xs ++ ys)))) : rAddU K (.ref a) (.ref a') H Q := .inr (.inr (.inl ⟨a, a', xs, ys, rfl, rfl, ha, ha', hl, h⟩))
theorem k_mulI {i j : Int} (hc : CMul i j) (h : Q (.int (i * j)) H) : rMulU K (.int i) (.int j) H Q := .inl ⟨i, j, rfl, rfl, hc, h⟩
theorem k_mulL {a : Addr} {k : Int} {xs : List V} (ha : H a = some (.lst xs)) (h1 : -(2 ^ 63) ≤ k) (h2 : k < 2 ^ 63) (hl : xs.length * k.toNat ≤ sizeLine) (h : ∀ p, H p = none → Q (.ref p) (upd H p (.lst (List.replicate k.toNat xs).flatten))) : rMulU K (.ref a) (.int k) H Q := .inr ⟨a, k, xs, rfl, rfl, ha, h1, h2, hl, h⟩
theorem k_sub {i j : Int} (h : Q (.int (i - j)) H) : rSubU (.int i) (.int j) H Q := ⟨i, j, rfl, rfl, h⟩
theorem k_fdiv {i j : Int} (hc : CDivN i j) (h : Q (.int (i.fdiv j)) H) : rFdivU (.int i) (.int j) H Q := ⟨i, j, rfl, rfl, hc, h⟩
theorem k_mod {i j : Int} (hc : j ≠ 0) (h : Q (.int (i.fmod j)) H) : rModU (.int i) (.int j) H Q := ⟨i, j, rfl, rfl, hc, h⟩
theorem k_pow {i j : Int} (hc : CPow i j) (h : Q (.int (i ^ j.toNat)) H) : rPowU (.int i) (.int j) H Q := ⟨i, j, rfl, rfl, hc, h⟩
theorem k_eq {x y : V} {d e : PyData} (h1 : Dp K H x d) (h2 : Dp K H y e) (s1 : SeqAt.shaped d = true) (s2 : SeqAt.shaped e = true) (h : Q (.bl (PyData.eqv d e)) H) : rEqU K x y H Q := ⟨d, e, h1, h2, s1, s2, h⟩
theorem k_ne {x y : V} {d e : PyData} (h1 : Dp K H x d) (h2 : Dp K H y e) (s1 : SeqAt.shaped d = true) (s2 : SeqAt.shaped e = true) (h : Q (.bl (!PyData.eqv d e)) H) : rNeU K x y H Q := .inl ⟨d, e, h1, h2, s1, s2, h⟩
theorem k_neE {a a' : Addr} {kvs : List (Key × V)} (ha : H a = some (.dK kvs)) (hb : H a' = some (.dK [])) (h : Q (.bl (!kvs.isEmpty)) H) : rNeU K (.ref a) (.ref a') H Q := .inr ⟨a, a', kvs, rfl, rfl, ha, hb, h⟩
theorem k_isN {x : V} (h : Q (.bl (decide (x = .non))) H) : rIsU x .non H Q := ⟨rfl, h⟩
theorem k_notN {x : V} (h : Q (.bl (!decide (x = .non))) H) : rIsNotU x .non H Q := ⟨rfl, h⟩
theorem k_lt {i j : Int} (h : Q (.bl (decide (i < j))) H) : rLtU (.int i) (.int j) H Q := .inl ⟨i, j, rfl, rfl, h⟩
theorem k_le {i j : Int} (h : Q (.bl (decide (i ≤ j))) H) : rLeU (.int i) (.int j) H Q := ⟨i, j, rfl, rfl, h⟩
theorem k_gt {i j : Int} (h : Q (.bl (decide (j < i))) H) : rGtU (.int i) (.int j) H Q := ⟨i, j, rfl, rfl, h⟩
theorem k_ge {i j : Int} (h : Q (.bl (decide (j ≤ i))) H) : rGeU (.int i) (.int j) H Q := ⟨i, j, rfl, rfl, h⟩
theorem k_inS {c : Nat} {z : Str} (h : Q (.bl (decide (c ∈ z.cps.toList))) H) : rInU K (.str ⟨#[c]⟩) (.str z) H Q := .inl ⟨c, z, rfl, rfl, h⟩
theorem k_inD {x y : V} {d : PyData} {ds : List PyData} (h1 : Dp K H x d) (h2 : Dp K H y (.list ds)) (s1 : SeqAt.shaped d = true) (s2 : SeqAt.shaped (.list ds) = true) (h : Q (.bl (ds.any fun z => PyData.eqv z d)) H) : rInU K x y H Q := .inr (.inr ⟨d, ds, h1, h2, s1, s2, h⟩)
theorem k_notInD {x y : V} {d : PyData} {ds : List PyData} (h1 : Dp K H x d) (h2 : Dp K H y (.list ds)) (s1 : SeqAt.shaped d = true) (s2 : SeqAt.shaped (.list ds) = true) (h : Q (.bl (!ds.any fun z => PyData.eqv z d)) H) : rNotInU K x y H Q := .inr (.inr ⟨d, ds, h1, h2, s1, s2, h⟩)
theorem k_inF {x : V} {p : Addr} {xs : List V} (h1 : SqL K H p xs ∨ SqT K H p xs) (hx : flatV x = true) (ha : xs.all flatV = true) (h : Q (.bl (inV x xs)) H) : rInU K x (.ref p) H Q := .inr (.inl ⟨p, xs, rfl, h1, hx, ha, h⟩)
theorem k_ixL {p : Addr} {xs : List V} {i : Int} (hs : SqL K H p xs) (ha : atI xs i = some v) (h : Q v H) : rIxU K (.ref p) (.int i) H Q := .inl (.inl ⟨p, xs, i, v, rfl, rfl, hs, ha, h⟩)
theorem k_ixT {p : Addr} {xs : List V} {i : Int} (hs : SqT K H p xs) (ha : atI xs i = some v) (h : Q v H) : rIxU K (.ref p) (.int i) H Q := .inl (.inr (.inl ⟨p, xs, i, v, rfl, rfl, hs, ha, h⟩))
theorem k_ixS {z : Str} {i : Int} {c : Nat} (hl : z.length ≤ sizeLine) (ha : atI z.cps.toList i = some c) (h : Q (.str ⟨#[c]⟩) H) : rIxU K (.str z) (.int i) H Q := .inl (.inr (.inr ⟨z, i, c, rfl, rfl, hl, ha, h⟩))
theorem k_ixD {a : Addr} {y : V} (hg : DGet H a y (some v)) (h : Q v H) : rIxU K (.ref a) y H Q := .inr ⟨a, v, rfl, hg, h⟩
theorem k_setL {a : Addr} {i : Int} {xs : List V} {j : Nat} {Q : Hp → Prop} (ha : H a = some (.lst xs)) (hi : ixN xs.length i = some j) (h : Q (upd H a (.lst (xs.set j v)))) : rSetU (.ref a) (.int i) v H Q := .inl ⟨a, xs, i, j, rfl, rfl, ha, hi, h⟩
theorem k_setD {a : Addr} {kvs : List (Key × V)} {k : Key} {Q : Hp → Prop} (ha : H a = some (.dK kvs)) (hl : kvs.length < sizeLine) (h : Q (upd H a (.dK (putK kvs k v)))) : rSetU (.ref a) (kV k) v H Q := .inr ⟨a, _, rfl, DPut.k ha hl, h⟩
theorem k_append {a : Addr} {xs : List V} (ha : H a = some (.lst xs)) (hl : xs.length < sizeLine) (h : Q .non (upd H a (.lst (xs ++ [v])))) : rAppend (.ref a) [v] H Q := ⟨a, xs, v, rfl, rfl, ha, hl, h⟩
theorem w_set {to ti : TE} {q : TSet} {Q : L2.St → Hp → Prop} (h : to σ H fun o H1 => ti σ H1 fun i H2 => q o i v H2 fun H3 => Q σ H3) : gSub to ti q v σ H Q := h
theorem w_for {wi : TI} (h : wi σ H fun J H1 => ∃ W : Nat → Nat → L2.St → Hp → Prop, (∃ m, W 0 m σ H1) ∧ ∀ i m σ H, W i m σ H →
    (J.stop i H ∧ n σ H) ∨ (J.go i H ∧ ∃ N : L2.St → Hp → Prop, (∀ σ' H', N σ' H' → ∃ m', m' < m ∧ W (i + 1) m' σ' H') ∧ ∀ x H', J.yld i H x H' → g x σ H' fun σ2 H2 => t ⟨N, r, n, N⟩ σ2 H2)) : tFor wi g t ⟨n, r, b, c⟩ σ H := h
theorem w_iL {R : It → Hp → Prop} (h : te σ H fun x H1 => ∃ a, x = .ref a ∧ (∃ xs, SqL K H1 a xs) ∧ R (Itl K a) H1) : iList K te σ H R := h
theorem w_iR1 {R : It → Hp → Prop} (h : tl σ H fun vs H1 => ∃ j : Int, vs = [.int j] ∧ -(2 ^ 62) ≤ j ∧ j < 2 ^ 62 ∧ R (Itr 0 j.toNat) H1) : iRng1 tl σ H R := h
theorem w_iS {R : It → Hp → Prop} (h : te σ H fun v H1 => ∃ x, v = .str x ∧ R (Its x) H1) : iStr te σ H R := h
theorem w_while (Pv : Nat → L2.St → Hp → Prop) (m : Nat) (h0 : Pv m σ H) (hs : ∀ m σ H, Pv m σ H → tt σ H fun k H1 => if k = true then ∃ N : L2.St → Hp → Prop, (∀ σ' H', N σ' H' → ∃ m', m' < m ∧ Pv m' σ' H') ∧ t ⟨N, r, n, N⟩ σ H1 else n σ H1) : tWhile tt t ⟨n, r, b, c⟩ σ H := ⟨Pv, ⟨m, h0⟩, hs⟩
theorem k_body {m : Nat} {Pv : Nat → L2.St → Hp → Prop} (h : t ⟨fun σ' H' => ∃ m', m' < m ∧ Pv m' σ' H', r, n, fun σ' H' => ∃ m', m' < m ∧ Pv m' σ' H'⟩ σ H) : ∃ N : L2.St → Hp → Prop, (∀ σ' H', N σ' H' → ∃ m', m' < m ∧ Pv m' σ' H') ∧ t ⟨N, r, n, N⟩ σ H := ⟨_, fun _ _ z => z, h⟩
/-- over a list that the body leaves as it is -/
theorem k_forL {a : Addr} {xs : List V} (hS : SqL K H a xs) (Pv : Nat → L2.St → Hp → Prop) (h0 : Pv 0 σ H) (hl : ∀ i σ H, i ≤ xs.length → Pv i σ H → SqL K H a xs)
    (hs : ∀ i x σ H, xs[i]? = some x → Pv i σ H → g x σ H fun σ2 H2 => t ⟨Pv (i + 1), r, n, Pv (i + 1)⟩ σ2 H2) (hd : ∀ σ H, Pv xs.length σ H → n σ H) :
    ∃ a', V.ref a = .ref a' ∧ (∃ ys, SqL K H a' ys) ∧ ∃ W : Nat → Nat → L2.St → Hp → Prop, (∃ m, W 0 m σ H) ∧ ∀ i m σ H, W i m σ H →
    ((Itl K a').stop i H ∧ n σ H) ∨ ((Itl K a').go i H ∧ ∃ N : L2.St → Hp → Prop, (∀ σ' H', N σ' H' → ∃ m', m' < m ∧ W (i + 1) m' σ' H') ∧ ∀ x H', (Itl K a').yld i H x H' → g x σ H' fun σ2 H2 => t ⟨N, r, n, N⟩ σ2 H2) :=
  ⟨a, rfl, ⟨xs, hS⟩, for_list (D := ⟨n, r, n, n⟩) Pv h0 hl hs hd⟩
/-- over range(j) -/
theorem k_forR {j : Int} (h1 : -(2 ^ 62) ≤ j) (h2 : j < 2 ^ 62) (Pv : Nat → L2.St → Hp → Prop) (h0 : Pv 0 σ H)
    (hs : ∀ i σ H, i < j.toNat → Pv i σ H → g (.int (0 + (i : Int))) σ H fun σ2 H2 => t ⟨Pv (i + 1), r, n, Pv (i + 1)⟩ σ2 H2) (hd : ∀ σ H, Pv j.toNat σ H → n σ H) :
    ∃ j' : Int, [V.int j] = [.int j'] ∧ -(2 ^ 62) ≤ j' ∧ j' < 2 ^ 62 ∧ ∃ W : Nat → Nat → L2.St → Hp → Prop, (∃ m, W 0 m σ H) ∧ ∀ i m σ H, W i m σ H →
    ((Itr 0 j'.toNat).stop i H ∧ n σ H) ∨ ((Itr 0 j'.toNat).go i H ∧ ∃ N : L2.St → Hp → Prop, (∀ σ' H', N σ' H' → ∃ m', m' < m ∧ W (i + 1) m' σ' H') ∧ ∀ x H', (Itr 0 j'.toNat).yld i H x H' → g x σ H' fun σ2 H2 => t ⟨N, r, n, N⟩ σ2 H2) :=
  ⟨j, rfl, h1, h2, for_range (D := ⟨n, r, n, n⟩) Pv h0 hs hd⟩
theorem w_lc {wi : TI} {vs : List Nat} (h : wi σ H fun J H1 => ∀ D, H1 D = none → ∃ W : Nat → Nat → Hp → Prop, (∃ m, W 0 m (upd H1 D (.lst []))) ∧ ∀ i m H, W i m H →
    (J.stop i H ∧ Q (.ref D) H) ∨ (J.go i H ∧ ∃ Nx : Hp → Prop, (∀ H', Nx H' → ∃ m', m' < m ∧ W (i + 1) m' H') ∧ ∀ x H', J.yld i H x H' → g x (wipe σ vs) H' fun σ2 H2 => wipe σ2 vs = wipe σ vs ∧ tt σ2 H2 fun k H3 =>
      if k = true then te σ2 H3 fun y H4 => ∃ acc, H4 D = some (.lst acc) ∧ acc.length < sizeLine ∧ Nx (upd H4 D (.lst (acc ++ [y]))) else Nx H3)) : tLc wi g tt te vs σ H Q := h
end
/-! heaps -/
section
variable {H G : Hp} {a b q : Addr} {o u : HO}
theorem up_new (h : G a = some o) (hq : G q = none) : upd G q u a = some o := (upd_ne (ne_of_none h hq)).trans h
theorem up_oth (hn : a ≠ q) (h : G a = some o) : upd G q u a = some o := (upd_ne hn).trans h
theorem up_none (hn : upd G q u a = none) : G a = none := by
  by_cases e : a = q
  · rw [e, upd_same] at hn; cases hn
  · rw [upd_ne e] at hn; exact hn
theorem up_nne (hn : upd G q u a = none) : a ≠ q := fun e => by rw [e, upd_same] at hn; cases hn
theorem same_new (hq : H q = none) : Same H (upd H q u) := fun b o h => up_new h hq
theorem same_up {H' : Hp} (s : Same H H') (hq : H' q = none) : Same H (upd H' q u) := fun b o h => up_new (s b o h) hq
/-- a new object may change -/
theorem same_mut {H' : Hp} (s : Same H H') (hq : H q = none) : Same H (upd H' q u) := fun b o h => up_oth (ne_of_none h hq) (s b o h)
/-- all but a stays -/
def SameX (a : Addr) (H H' : Hp) : Prop := ∀ b o, H b = some o → b ≠ a → H' b = some o
theorem Same.x {H' : Hp} (s : Same H H') : SameX a H H' := fun b o h _ => s b o h
theorem SameX.trans {H1 H2 : Hp} (s : SameX a H H1) (t : SameX a H1 H2) : SameX a H H2 := fun b o h e => t b o (s b o h e) e
theorem SameX.free {H' : Hp} {l : Addr} (s : SameX a H H') (h : H' l = none) (hl : l ≠ a) : H l = none := by
  cases e : H l with
  | none => rfl
  | some z => rw [s l z e hl] at h; cases h
end
/-! comprehensions whose element and test make nothing that is kept -/
section
variable {K : PySem.W.Frag} {σ : L2.St} {H : Hp} {Q : VK} {Qr : Addr → Hp → Prop} {te : TE} {tt : TT} {g : TG} {vs : List Nat} {items : List V} {p : V → Bool} {f : V → V}
/-- one turn -/
def LcStep (g : TG) (tt : TT) (te : TE) (vs : List Nat) (σ : L2.St) (H : Hp) (p : V → Bool) (f : V → V) (x : V) : Prop :=
  ∀ H2, Same H H2 → ∀ (R : V → Hp → Prop) (N : Hp → Prop), (p x = true → ∀ H4, Same H2 H4 → R (f x) H4) → (p x = false → ∀ H4, Same H2 H4 → N H4) →
    g x (wipe σ vs) H2 fun σ2 H3 => wipe σ2 vs = wipe σ vs ∧ tt σ2 H3 fun b H4 => if b = true then te σ2 H4 R else N H4
theorem lc_pure {J : It} {n : Nat} {G : Hp → Prop} {Y : Nat → Hp → V → Hp → Prop} (w : Walk J n G Y) (hG : ∀ H', Same H H' → G H') (hY : ∀ i H1 x H2, Y i H1 x H2 → H2 = H1 ∧ items[i]? = some x) (hn : items.length = n) (hz : n < sizeLine)
    (hs : ∀ x ∈ items, LcStep g tt te vs σ H p f x) (hd : ∀ D H', H D = none → Same H H' → H' D = some (.lst ((items.filter p).map f)) → Qr D H') :
    ∀ D, H D = none → ∃ W : Nat → Nat → Hp → Prop, (∃ m, W 0 m (upd H D (.lst []))) ∧ ∀ i m H, W i m H →
    (J.stop i H ∧ Qr D H) ∨ (J.go i H ∧ ∃ Nx : Hp → Prop, (∀ H', Nx H' → ∃ m', m' < m ∧ W (i + 1) m' H') ∧ ∀ x H', J.yld i H x H' → g x (wipe σ vs) H' fun σ2 H2 => wipe σ2 vs = wipe σ vs ∧ tt σ2 H2 fun k H3 =>
      if k = true then te σ2 H3 fun y H4 => ∃ acc, H4 D = some (.lst acc) ∧ acc.length < sizeLine ∧ Nx (upd H4 D (.lst (acc ++ [y]))) else Nx H3) := by
  intro D hD
  refine lc_it w (fun i H1 => Same H H1 ∧ H1 D = some (.lst (((items.take i).filter p).map f))) ⟨same_new hD, by rw [upd_same]; simp⟩ (fun i H1 _ h => hG H1 h.1) (fun i x H1 H2 hi h hy => ?_) (fun H1 h => ?_)
  · obtain ⟨rfl, hx⟩ := hY i H1 x _ hy
    have hm : x ∈ items := List.mem_of_getElem? hx
    have et : items.take (i + 1) = items.take i ++ [x] := by
      rw [List.take_add_one, hx]; rfl
    refine hs x hm H2 h.1 (fun y H4 => ∃ acc, H4 D = some (.lst acc) ∧ acc.length < sizeLine ∧ Same H (upd H4 D (.lst (acc ++ [y]))) ∧ (upd H4 D (.lst (acc ++ [y]))) D = some (.lst (((items.take (i + 1)).filter p).map f))) (fun H4 => Same H H4 ∧ H4 D = some (.lst (((items.take (i + 1)).filter p).map f))) (fun hp H4 s4 => ?_) (fun hp H4 s4 => ?_)
    · refine ⟨_, s4 _ _ h.2, ?_, same_mut (h.1.trans s4) hD, ?_⟩
      · have h1 := List.length_filter_le p (items.take i)
        rw [List.length_take] at h1
        rw [List.length_map]
        omega
      · rw [upd_same, et, List.filter_append, List.map_append]
        simp [hp]
    · refine ⟨h.1.trans s4, ?_⟩
      rw [s4 _ _ h.2, et, List.filter_append, List.map_append]
      simp [hp]
  · rw [List.take_of_length_le (by omega)] at h
    exact hd D H1 hD h.1 h.2
/-- over a list -/
theorem k_lcL {a : Addr} (hS : SqL K H a items) (hz : items.length < sizeLine) (p : V → Bool) (f : V → V) (hs : ∀ x ∈ items, LcStep g tt te vs σ H p f x) (hd : ∀ D H', H D = none → Same H H' → H' D = some (.lst ((items.filter p).map f)) → Qr D H') :
    ∃ a', V.ref a = .ref a' ∧ (∃ xs, SqL K H a' xs) ∧ ∀ D, H D = none → ∃ W : Nat → Nat → Hp → Prop, (∃ m, W 0 m (upd H D (.lst []))) ∧ ∀ i m H, W i m H →
    ((Itl K a').stop i H ∧ Qr D H) ∨ ((Itl K a').go i H ∧ ∃ Nx : Hp → Prop, (∀ H', Nx H' → ∃ m', m' < m ∧ W (i + 1) m' H') ∧ ∀ x H', (Itl K a').yld i H x H' → g x (wipe σ vs) H' fun σ2 H2 => wipe σ2 vs = wipe σ vs ∧ tt σ2 H2 fun k H3 =>
      if k = true then te σ2 H3 fun y H4 => ∃ acc, H4 D = some (.lst acc) ∧ acc.length < sizeLine ∧ Nx (upd H4 D (.lst (acc ++ [y]))) else Nx H3) :=
  ⟨a, rfl, ⟨items, hS⟩, lc_pure walk_list (fun _ s => s.seq hS) (fun _ _ _ _ y => y) rfl hz hs hd⟩
theorem filterT {α : Type} (l : List α) : (l.filter fun _ => true) = l := List.filter_eq_self.mpr fun _ _ => rfl
def sgns (z : Str) : List V := z.cps.toList.map fun c => .str ⟨#[c]⟩
theorem k_lcS {z : Str} (hz : z.length < sizeLine) (p : V → Bool) (f : V → V) (hs : ∀ x ∈ sgns z, LcStep g tt te vs σ H p f x) (hd : ∀ D H', H D = none → Same H H' → H' D = some (.lst (((sgns z).filter p).map f)) → Qr D H') :
    ∃ z', V.str z = .str z' ∧ ∀ D, H D = none → ∃ W : Nat → Nat → Hp → Prop, (∃ m, W 0 m (upd H D (.lst []))) ∧ ∀ i m H, W i m H →
    ((Its z').stop i H ∧ Qr D H) ∨ ((Its z').go i H ∧ ∃ Nx : Hp → Prop, (∀ H', Nx H' → ∃ m', m' < m ∧ W (i + 1) m' H') ∧ ∀ x H', (Its z').yld i H x H' → g x (wipe σ vs) H' fun σ2 H2 => wipe σ2 vs = wipe σ vs ∧ tt σ2 H2 fun k H3 =>
      if k = true then te σ2 H3 fun y H4 => ∃ acc, H4 D = some (.lst acc) ∧ acc.length < sizeLine ∧ Nx (upd H4 D (.lst (acc ++ [y]))) else Nx H3) :=
  ⟨z, rfl, lc_pure walk_str (fun _ _ => trivial) (fun i _ x _ ⟨e, c, h1, h2⟩ => ⟨e, by subst h2; unfold sgns; rw [List.getElem?_map, Array.getElem?_toList, h1]; rfl⟩) (by unfold sgns; simp) (show z.cps.size < sizeLine from hz) hs hd⟩
def nums (n : Nat) : List V := (List.range n).map fun (i : Nat) => V.int (0 + (i : Int))
theorem k_lcR {j : Int} (h1 : -(2 ^ 62) ≤ j) (h2 : j < 2 ^ 62) (hz : j.toNat < sizeLine) (p : V → Bool) (f : V → V) (hs : ∀ x ∈ nums j.toNat, LcStep g tt te vs σ H p f x) (hd : ∀ D H', H D = none → Same H H' → H' D = some (.lst (((nums j.toNat).filter p).map f)) → Qr D H') :
    ∃ j' : Int, [V.int j] = [.int j'] ∧ -(2 ^ 62) ≤ j' ∧ j' < 2 ^ 62 ∧ ∀ D, H D = none → ∃ W : Nat → Nat → Hp → Prop, (∃ m, W 0 m (upd H D (.lst []))) ∧ ∀ i m H, W i m H →
    ((Itr 0 j'.toNat).stop i H ∧ Qr D H) ∨ ((Itr 0 j'.toNat).go i H ∧ ∃ Nx : Hp → Prop, (∀ H', Nx H' → ∃ m', m' < m ∧ W (i + 1) m' H') ∧ ∀ x H', (Itr 0 j'.toNat).yld i H x H' → g x (wipe σ vs) H' fun σ2 H2 => wipe σ2 vs = wipe σ vs ∧ tt σ2 H2 fun k H3 =>
      if k = true then te σ2 H3 fun y H4 => ∃ acc, H4 D = some (.lst acc) ∧ acc.length < sizeLine ∧ Nx (upd H4 D (.lst (acc ++ [y]))) else Nx H3) :=
  ⟨j, rfl, h1, h2, lc_pure (Walk.mono walk_range (fun _ h => h) (fun i H x H' hi _ y => (⟨hi, y⟩ : i < j.toNat ∧ _))) (fun _ _ => trivial) (fun i _ x _ ⟨hi, e, h⟩ => ⟨e, by subst h; unfold nums; rw [List.getElem?_map, List.getElem?_range hi]; rfl⟩) (by unfold nums; simp) hz hs hd⟩
theorem k_isi {v : V} {T t : String} {b : Bool} (ty : TyX K H v (.type t)) (h1 : kitB t T = some b) (h : Q (.bl b) H) : rIsi K [v, .ty T] H Q := ⟨v, .ty T, _, _, b, rfl, .ty T, ty, kit_ty h1, h⟩
theorem k_isiY {v : V} {T t : String} (ty : TyX K H v (.type t)) (h1 : kitB t T = some true) (h : Q (.bl true) H) : rIsi K [v, .ty T] H Q := k_isi ty h1 h
theorem k_isiN {v : V} {T t : String} (ty : TyX K H v (.type t)) (h1 : kitB t T = some false) (h : Q (.bl false) H) : rIsi K [v, .ty T] H Q := k_isi ty h1 h
theorem k_lenS {z : Str} (hl : z.length ≤ sizeLine) (h : Q (.int ((z.length : Nat) : Int)) H) : rLenU K [.str z] H Q := .inl ⟨.str z, z.length, rfl, ⟨hl, rfl⟩, h⟩
theorem k_lenL {a : Addr} {xs : List V} (hs : SqL K H a xs) (h : Q (.int (xs.length : Int)) H) : rLenU K [.ref a] H Q := .inl ⟨.ref a, xs.length, rfl, .inl ⟨xs, hs, rfl⟩, h⟩
theorem k_lenT {a : Addr} {xs : List V} (hs : SqT K H a xs) (h : Q (.int (xs.length : Int)) H) : rLenU K [.ref a] H Q := .inl ⟨.ref a, xs.length, rfl, .inr ⟨xs, hs, rfl⟩, h⟩
theorem k_lenD {a : Addr} {kvs : List (Key × V)} (hs : H a = some (.dK kvs)) (h : Q (.int (kvs.length : Int)) H) : rLenU K [.ref a] H Q := .inr ⟨a, kvs, rfl, hs, h⟩
theorem k_all {a : Addr} {bs : List Bool} (hs : SqL K H a (bs.map V.bl)) (h : Q (.bl (bs.all id)) H) : rAll K [.ref a] H Q := ⟨a, bs, rfl, hs, h⟩
theorem k_any {a : Addr} {bs : List Bool} (hs : SqL K H a (bs.map V.bl)) (h : Q (.bl (bs.any id)) H) : rAny K [.ref a] H Q := ⟨a, bs, rfl, hs, h⟩
theorem iteNT {A B : Prop} (h : B) : if (!true) = true then A else B := h
theorem iteNF {A B : Prop} (h : A) : if (!false) = true then A else B := h
end
end Z
namespace Z
open PySem PySem.Spec PyProof.Rows L2 He
theorem le_trans_cps {a b c : List Nat} (h1 : ltCps b a = false) (h2 : ltCps c b = false) : ltCps c a = false := by
  rw [ltCps_eq] at *
  exact decide_eq_false fun h => List.not_lt.mpr (List.le_trans (List.not_lt.mp (of_decide_eq_false h1)) (List.not_lt.mp (of_decide_eq_false h2))) h
theorem rising_pw : ∀ (p : Str) (l : List Str), risingS p l = true → (p :: l).Pairwise fun a b => ltCps b.cps.toList a.cps.toList = false
  | _, [], _ => by simp
  | p, x :: r, h => by
    unfold risingS at h
    rw [Bool.and_eq_true] at h
    have ih := rising_pw x r h.2
    have h1 : ltCps x.cps.toList p.cps.toList = false := by simpa using h.1
    refine List.Pairwise.cons (fun y hy => ?_) ih
    rcases List.mem_cons.mp hy with rfl | hy
    · exact h1
    · exact le_trans_cps h1 ((List.pairwise_cons.mp ih).1 y hy)
theorem sorted_pw (l : List Str) (h : sortedS l = true) : l.Pairwise fun a b => ltCps b.cps.toList a.cps.toList = false := by
  cases l with
  | nil => exact .nil
  | cons x r => exact rising_pw x r h
theorem sorted_eq {ys zs : List Str} (p : ys.Perm zs) (h1 : sortedS ys = true) (h2 : sortedS zs = true) : ys = zs :=
  List.Perm.eq_of_pairwise (le := fun (a b : Str) => ltCps b.cps.toList a.cps.toList = false) (fun a b _ _ h h' => by
    rw [ltCps_eq] at h h'
    have e : a.cps.toList = b.cps.toList := List.le_antisymm (List.not_lt.mp (of_decide_eq_false h)) (List.not_lt.mp (of_decide_eq_false h'))
    cases a; cases b
    simp only [Str.mk.injEq]
    exact Array.toList_inj.mp e) (sorted_pw ys h1) (sorted_pw zs h2) p
section
variable {K : PySem.W.Frag} {H : Hp} {Q : VK}
theorem k_sortD {a : Addr} {kvs : List (Key × V)} {ks : List Str} (ha : H a = some (.dK kvs)) (hk : kvs.map (·.1) = ks.map Sum.inr) (hl : ks.length < 64) (h : ∀ ys p, ys.Perm ks → sortedS ys = true → H p = none → Q (.ref p) (upd H p (.lst (ys.map V.str)))) : rSortedU K [.ref a] H Q := .inl ⟨a, kvs, ks, rfl, .of ha, hk, hl, h⟩
theorem k_get {a : Addr} {kvs : List (Key × V)} {R : Addr → Prop} (ha : H a = some (.dK kvs)) (h : R a) : ∃ a', V.ref a = .ref a' ∧ IsD H a' ∧ R a' := ⟨a, rfl, .inl ⟨kvs, .of ha⟩, h⟩
theorem k_fld {Q : V → Prop} {a C dx : Addr} {fs : List (Str × V)} {f : Str} {v : V} (ha : H a = some (.ins C dx fs)) (hC : Cls K C) (hn : NoAttr K C f) (e : fs.lookup f = some v) (h : Q v) : ∃ a' C dx fs v, V.ref a = .ref a' ∧ H a' = some (.ins C dx fs) ∧ Cls K C ∧ NoAttr K C f ∧ fs.lookup f = some v ∧ Q v := ⟨a, C, dx, fs, v, rfl, ha, hC, hn, e, h⟩
theorem k_sfld {a C dx : Addr} {fs : List (Str × V)} {f : Str} {y : V} {n : Hp → Prop} (ha : H a = some (.ins C dx fs)) (hC : Cls K C) (hn : NoAttr K C f) (hl : fs.length < 1000) (h : n (upd H a (.ins C dx (putF f y fs)))) : ∃ a' C dx fs, V.ref a = .ref a' ∧ H a' = some (.ins C dx fs) ∧ Cls K C ∧ NoAttr K C f ∧ fs.length < 1000 ∧ n (upd H a' (.ins C dx (putF f y fs))) := ⟨a, C, dx, fs, rfl, ha, hC, hn, hl, h⟩
theorem k_bmL {a : Addr} {xs : List V} {R : Prop} (hs : SqL K H a xs) (h : R) : tyV K "list" (.ref a) H ∧ R := ⟨.inl ⟨rfl, xs, hs⟩, h⟩
/-- a list that the new object of a call is -/
theorem sqNew {p : Addr} {xs : List V} : SqL K (upd H p (.lst xs)) p xs := .of upd_same
theorem mut_dK {kvs : List (Key × V)} : Mut (some (HO.dK kvs)) := trivial
/-- {.. for k in d} over an empty dict -/
theorem k_dcE {a : Addr} {td : TE} {g : TG} {tt : TT} {tk tv : TE} {vs : List Nat} {σ : L2.St} (h : H a = some (.dK [])) (ht : ∀ od (R : VK), R (.ref a) (upd H a (.frz od (.dK []))) → td σ (upd H a (.frz od (.dK []))) R) (q : ∀ D H', H D = none → Same H H' → H' D = some (.dK []) → Q (.ref D) H') : tLockE (tDc (iKeys td) g tt tk tv vs) σ H Q := by
  refine ⟨a, _, h, mut_dK, fun od => ht od _ ?_⟩
  refine ⟨a, od, rfl, .inl ⟨[], upd_same, fun D hD => ?_⟩⟩
  have ne : D ≠ a := up_nne hD
  have hD2 : H D = none := by rw [upd_ne ne] at hD; exact hD
  refine ⟨fun i _ H1 => i = 0 ∧ H1 = upd (upd H a (.frz od (.dK []))) D (.dK []), ⟨0, rfl, rfl⟩, fun i m H1 hi => ?_⟩
  obtain ⟨rfl, rfl⟩ := hi
  refine .inl ⟨walk_keys.stops _ (by rw [upd_ne (Ne.symm ne), upd_same]), by rw [upd_ne (Ne.symm ne), upd_same], q D _ hD2 (fun b o hb => ?_) (by rw [upd_ne ne, upd_same])⟩
  by_cases e : b = a
  · subst e; rw [upd_same]; rw [h] at hb; exact hb
  · rw [upd_ne e, upd_ne (ne_of_none hb hD2), upd_ne e]; exact hb
/-- [.. for k in d] over an empty dict -/
theorem k_lcE {a : Addr} {td : TE} {g : TG} {tt : TT} {te : TE} {vs : List Nat} {σ : L2.St} (h : H a = some (.dK [])) (ht : ∀ od (R : VK), R (.ref a) (upd H a (.frz od (.dK []))) → td σ (upd H a (.frz od (.dK []))) R) (q : ∀ D H', H D = none → Same H H' → H' D = some (.lst []) → Q (.ref D) H') : tLockE (tLc (iKeys td) g tt te vs) σ H Q := by
  refine ⟨a, _, h, mut_dK, fun od => ht od _ ?_⟩
  refine ⟨a, od, rfl, .inl ⟨[], upd_same, fun D hD => ?_⟩⟩
  have ne : D ≠ a := up_nne hD
  have hD2 : H D = none := by rw [upd_ne ne] at hD; exact hD
  refine ⟨fun i _ H1 => i = 0 ∧ H1 = upd (upd H a (.frz od (.dK []))) D (.lst []), ⟨0, rfl, rfl⟩, fun i m H1 hi => ?_⟩
  obtain ⟨rfl, rfl⟩ := hi
  refine .inl ⟨walk_keys.stops _ (by rw [upd_ne (Ne.symm ne), upd_same]), by rw [upd_ne (Ne.symm ne), upd_same], q D _ hD2 (fun b o hb => ?_) (by rw [upd_ne ne, upd_same])⟩
  by_cases e : b = a
  · subst e; rw [upd_same]; rw [h] at hb; exact hb
  · rw [upd_ne e, upd_ne (ne_of_none hb hD2), upd_ne e]; exact hb
theorem w_raise {C : Addr} {sp : Sp} {W : WX} {ta : TA} {σ : L2.St} {D : Ends} (h : ta σ H fun vs H1 => vs.length ≤ 1000 ∧ ∀ a, H1 a = none → sp (.ref a :: (vs ++ [])) (upd H1 a (exo a C none))
  (fun v H2 => v = .non ∧ ∃ (d : Addr) (fs : List (Str × V)), H2 a = some (exo a C (some d)) ∧ H2 d = some (exd d fs) ∧ H1 d = none ∧ W (.ref C) (some d) σ (upd (del H2 a) d (.xd fs))) (fun _ _ _ => False)) : tRaise C sp W ta D σ H := h
theorem k_gtup {a : Addr} {xs : List V} {n : Nat} {t : TGs} {σ : L2.St} {Q : L2.St → Hp → Prop} (hs : SqT K H a xs) (hl : xs.length = n) (h : t xs σ H Q) : gTup K n t (.ref a) σ H Q := ⟨a, xs, rfl, hs, hl, h⟩
theorem w_gc {v : V} {r : List V} {t : TG} {u : TGs} {σ : L2.St} {Q : L2.St → Hp → Prop} (h : t v σ H fun σ' H' => u r σ' H' Q) : gCons t u (v :: r) σ H Q := ⟨v, r, rfl, h⟩
theorem w_gn {σ : L2.St} {Q : L2.St → Hp → Prop} (h : Q σ H) : gNil [] σ H Q := ⟨rfl, h⟩
theorem w_vei {ta : TA} {σ : L2.St} (h : ta σ H fun vs H1 => ∃ (a C : Addr) (ws : List V), vs = .ref a :: ws ∧ ws.length ≤ 1000 ∧ OexC K C ∧ H1 a = some (exo a C none) ∧ Q .non H1) : tVeI K ta σ H Q := h
theorem w_ost {f : Str} {to te : TE} {σ : L2.St} {D : Ends} (h : te σ H fun y H1 => to σ H1 fun x H2 => ∃ a C : Addr, x = .ref a ∧ OexC K C ∧ PySem.W.findIn K (.ref C) f = some none ∧
  ((H2 a = some (exo a C none) ∧ ∀ dx, H2 dx = none → dx ≠ a → D.nx σ (upd (upd H2 dx (exd dx [(f, y)])) a (exo a C (some dx)))) ∨
    ∃ (dx : Addr) (fs : List (Str × V)), H2 a = some (exo a C (some dx)) ∧ H2 dx = some (exd dx fs) ∧ fs.length ≤ 900 ∧ D.nx σ (upd H2 dx (exd dx ((f, y) :: fs))))) : tOst K f to te D σ H := h
theorem w_star {te : TE} {t : TA} {σ : L2.St} {Q : List V → Hp → Prop} (h : te σ H fun x H1 => ∃ p xs, x = V.ref p ∧ (SqT K H1 p xs ∨ SqL K H1 p xs) ∧ t σ H1 fun ys H2 => Q (xs ++ ys) H2) : StX.tStar K te t σ H Q := h
end
end Z
/-! heads: my own hook, promises by name, the end -/
namespace Z
open PySem PySem.Spec PyProof.Rows L2 He
/-! ### an own exception class -/
def oexB (K : PySem.W.Frag) (C : Addr) : Bool := (match K.lookup C with
  | some ⟨.type "type", _, .cls cd, sl⟩ => (match cd.mro, sl.toList with
    | .ref C' :: bm, [_, _, _, _, some (.builtin n), _] => C' == C && n == "ValueError.__new__" && !cd.hasDel && cd.hasDict && PySem.HandSPX.refsVE bm
    | _, _ => false)
  | _ => false) && (decide (PySem.W.findIn K (.ref C) "__setattr__" = some (some (.builtin "object.__setattr__"))) && (decide (PySem.W.subIn K (.ref C) (.type "BaseException") = some true) && (decide (PySem.W.typeIn K (.ref C) = some (.type "type")) && PySem.W.keepIn K (.ref C))))
theorem oexB_ok {K : PySem.W.Frag} {C : Addr} (q : oexB K C = true) : OexC K C := by
  obtain ⟨q, q2⟩ := Bool.and_eq_true_iff.mp q
  obtain ⟨h1, q3⟩ := Bool.and_eq_true_iff.mp q2
  obtain ⟨h2, q4⟩ := Bool.and_eq_true_iff.mp q3
  obtain ⟨h3, h4⟩ := Bool.and_eq_true_iff.mp q4
  refine ⟨?_, of_decide_eq_true h1, of_decide_eq_true h2, of_decide_eq_true h3, h4⟩
  split at q
  · rename_i dd cd sl ho
    split at q
    · rename_i C' bm k0 k1 k2 k3 n k5 hm hs
      simp only [Bool.and_eq_true, beq_iff_eq, Bool.not_eq_true'] at q
      obtain ⟨⟨⟨⟨rfl, rfl⟩, hdel⟩, hdc⟩, ht⟩ := q
      obtain ⟨nm, bs, mro, ns, qn, hd, sn, sub, ab, col, del⟩ := cd
      dsimp only at hm hdel hdc
      subst hm hdel hdc
      have hsl : sl = #[k0, k1, k2, k3, some (.builtin "ValueError.__new__"), k5] := by
        obtain ⟨l⟩ := sl
        simp only at hs
        rw [hs]
      subst hsl
      exact ⟨nm, qn, ns, bs, bm, sn, sub, ab, col, dd, k0, k1, k2, k3, k5, ho, ht⟩
    · cases q
  · cases q
def excCB (K : PySem.W.Frag) (D : Addr) : Bool := decide (PySem.W.findIn K (.ref D) "__getattribute__" = some (some (.builtin "BaseException.__getattribute__"))) && (decide (PySem.W.findIn K (.ref D) "__getattr__" = some none) && (decide (PySem.W.subIn K (.ref D) (.type "BaseException") = some true) && (PySem.W.hasDictIn K D &&
  (decide (PySem.W.findIn K (.ref D) "__class__" = some (some (.builtin "object.__class__"))) && (decide (PySem.W.specialIn K (.builtin "object.__class__") "__get__" = some (some (.builtin "getset_descriptor.__get__"))) && (decide (PySem.W.takesIn K (.builtin "object.__class__") = some true) && decide (PySem.W.mroIn K D (.type "object") = some true)))))))
theorem excCB_ok {K : PySem.W.Frag} {D : Addr} (q : excCB K D = true) : ExcC K D := by
  obtain ⟨h1, q⟩ := Bool.and_eq_true_iff.mp q
  obtain ⟨h2, q⟩ := Bool.and_eq_true_iff.mp q
  obtain ⟨h3, q⟩ := Bool.and_eq_true_iff.mp q
  obtain ⟨h4, q⟩ := Bool.and_eq_true_iff.mp q
  obtain ⟨h5, q⟩ := Bool.and_eq_true_iff.mp q
  obtain ⟨h6, q⟩ := Bool.and_eq_true_iff.mp q
  obtain ⟨h7, h8⟩ := Bool.and_eq_true_iff.mp q
  exact ⟨of_decide_eq_true h1, of_decide_eq_true h2, of_decide_eq_true h3, h4, of_decide_eq_true h5, of_decide_eq_true h6, of_decide_eq_true h7, of_decide_eq_true h8⟩
/-! ### the hook: facts, defs, one Bool more -/
def obsZ (n : Nat) (fa : List Fa) (fn : List DefD) (ex : PySem.W.Frag → Bool) (g : Addr → Option Obj) : AlD × Bool := (obsD fa fn (frG g (asD g n)), ex (frG g (asD g n)))
def hookZ (n : Nat) (fa : List Fa) (fn : List DefD) (ex : PySem.W.Frag → Bool) : PySem.W.Hook where
  α := AlD × Bool
  obs := fun s => obsZ n fa fn ex s.heap.get?
  val := fun _ => (valD fn, true)
  says := fun _ h => ∃ K : PySem.W.Frag, K.In h ∧ SaysD fa fn K ∧ ex K = true
  of := fun _ _ e => ⟨_, frG_in, congrArg (fun z : AlD × Bool => z.1) e, congrArg (fun z : AlD × Bool => z.2) e⟩
  keeps := fun _ _ _ ⟨K, hK, c⟩ k => ⟨K, PySem.W.Frag.In.keeps hK k, c⟩
theorem obsZ_eq {n : Nat} {fa : List Fa} {fn : List DefD} {ex : PySem.W.Frag → Bool} {g : Addr → Option Obj} {s : Shared} (h : ∀ a, g a = s.heap.get? a) : obsZ n fa fn ex g = (hookZ n fa fn ex).obs s := by
  have e : g = s.heap.get? := funext h
  rw [e] <;> rfl
/-! ### promises by name -/
section
variable {P : Program} {w : World} {K : PySem.W.Frag} {mg : Str → Option Value} {base : Heap} {CX : CXT} {k : Nat} {f : Addr} {fd : FuncData} {ps : List Str} {sp : Sp}
theorem fnr (F : FnOk P w K mg base CX k f fd ps sp) (hb : L2.Binds K fd ps []) : FnR P w K mg base CX k f sp := (F.raw hb .nil).imp fun vs H Q E h => by rw [List.append_nil]; exact h
theorem gf {x : Str} (F : FnOk P w K mg base (L2.CX P w) k (ga K x) fd ps sp) (hb : L2.Binds K fd ps []) (hm : mg x = some (.ref (ga K x))) (kp : PySem.W.keepIn K (.ref (ga K x)) = true) : Gf P w K mg base k x sp := ⟨_, hm, kp, fnr F hb⟩
theorem gm {C m : Str} (F : FnOk P w K mg base (L2.CX P w) k (ma K (ga K C) m) fd ps sp) (hb : L2.Binds K fd ps []) (M : Meth K (ga K C) m (ma K (ga K C) m)) : Gm P w K mg base k (ga K C) m sp := ⟨_, M, fnr F hb⟩
theorem gk {C : Str} (F : FnR P w K mg base (L2.CX P w) k (ma K (ga K C) "__init__") sp) (M : Mk K (ga K C) (ma K (ga K C) "__init__")) : Gk P w K mg base k (ga K C) sp := ⟨_, M, F⟩
/-- an own error: its class, its __init__ -/
def oexI (K : PySem.W.Frag) (C : Str) : Bool := oexB K (ga K C) && (decide (PySem.W.findIn K (.ref (ga K C)) "__init__" = some (some (.ref (ma K (ga K C) "__init__")))) && decide (PySem.W.typeIn K (.ref (ma K (ga K C) "__init__")) = some (.type "function")))
theorem gx {C : Str} (F : FnOk P w K mg base (L2.CX P w) k (ma K (ga K C) "__init__") fd ps sp) (hb : L2.Binds K fd ps []) (h : oexI K C = true) : Gx P w K mg base k (ga K C) sp := by
  obtain ⟨h1, h⟩ := Bool.and_eq_true_iff.mp h
  obtain ⟨h2, h3⟩ := Bool.and_eq_true_iff.mp h
  exact ⟨_, _, _, oexB_ok h1, of_decide_eq_true h2, of_decide_eq_true h3, F, hb⟩
theorem oexI_ok {C : Str} (h : oexI K C = true) : OexC K (ga K C) := oexB_ok (Bool.and_eq_true_iff.mp h).1
theorem cst_int {h : Heap} {x : Str} {i : Int} (X : K.In h) (G : h.Ns mainGlobals mg) (c : (Fa.int x i).ok K = true) : Cst mg x (.int i) := by
  obtain ⟨t, e⟩ := int_ok X G c
  exact ⟨_, e, t, rfl⟩
theorem cst_str {h : Heap} {x z : Str} (X : K.In h) (G : h.Ns mainGlobals mg) (c : (Fa.str x z).ok K = true) : Cst mg x (.str z) := by
  obtain ⟨t, e⟩ := str_ok X G c
  exact ⟨_, e, t, rfl⟩
end
/-! ### the end -/
theorem walk_ofX {l : PySem.W.OpenLaw} {n k : Nat} {q : Program} {loose : List Str} {XP : (Str → Option Value) → Heap → Prop} {YP : World → Heap → Prop} {d : PySem.DefRec} {x : Str}
    (hn : l.most = some n) (hn2 : n ≤ sizeLine) (hdf : d.params.defaults = []) (hr : Room k callerA)
    (F : ∀ (w : World) (mg : Str → Option Value) (fa : Addr) (h : Heap), YP w h → h.Ns mainGlobals mg → mg d.name = some (.ref fa) →
      ∃ (K : PySem.W.Frag) (fd : FuncData) (sp : Sp), K.In h ∧ (∀ (s : Shared) (u : Value), BindsTo s fd ⟨[u], []⟩ [(x, u)]) ∧
        (∀ (H : Hp) (a : Addr) (ns : List Int), ns.length ≤ n → Only H → SqL K H a (ns.map V.int) → sp [.ref a] H (fun v _ => v = .bl true) fun _ _ _ => False) ∧
        ∀ base : Heap, K.In base → base.Ns mainGlobals mg → FnOk l.prog w K mg base (L2.CX l.prog w) k fa fd [x] sp) :
    PySem.W.WalkO q loose XP YP l.row.toRowW d [] (fun f vs => PySem.call f vs) := by
  refine Att.attach_call hn hdf fun w s₀ s₁ mg mb fa o pm cd doc a vs ns G Y ho hd hcd hmg hobj hints hlen hg => ?_
  obtain ⟨K, fd, sp, KX, hb, hsp, hF⟩ := F w mg fa _ Y G.T.g hmg
  exact law_call KX G.T.g G.T.b G.T.builtins G.T.nolimit hg hobj hints (Nat.le_trans hlen hn2) hr hF hb (fun H hO hS => hsp H a ns hlen hO hS) fun H e s' h => by
    obtain ⟨_, _, _, _, _, _, _, _, _, _, _, _, h⟩ := h
    exact h
end Z
namespace K63
open PySem PySem.Spec PyProof.Rows L2 Z He
/-! ### the mathematics -/
def letters : Str := "abcdefghijklmnopqrstuvwxyz"
def isLet : V → Bool
  | .str z => (match z.cps.toList with | [c] => decide (c ∈ letters.cps.toList) | _ => false)
  | _ => false
def okName (z : Str) : Bool := decide (1 ≤ (z.length : Int)) && (decide ((z.length : Int) ≤ 8) && (sgns z).all isLet)
def vName : V → Bool
  | .str z => okName z
  | _ => false
def vRight (v : V) : Bool := decide (v = .non) || vName v
abbrev Kvs := List (Key × V)
def nxt (kvs : Kvs) : V → V
  | .str z => (valV kvs (.inr z : Key)).getD .non
  | _ => .non
/-- a value as data: an object is ("a",) -/
def dat : V → PyData
  | .bl b => .bool b
  | .int i => .int i
  | .str z => .str z
  | .ref _ => .tuple [.str "a"]
  | _ => .none
def mem (v : V) (l : List V) : Bool := (l.map dat).any fun z => PyData.eqv z (dat v)
def upF (kvs : Kvs) : Nat → List V → V → List V × Bool
  | 0, seen, _ => (seen, true)
  | n + 1, seen, one => if one = .non then (seen, false) else if mem one seen = true then (seen, true) else upF kvs n (seen ++ [one]) (nxt kvs one)
def upK (kvs : Kvs) (v : V) : List V × Bool := upF kvs (kvs.length + 2) [] v
def badV (kvs : Kvs) (z : Str) : Bool := !okName z || !vRight ((valV kvs (.inr z : Key)).getD .non)
/-- the kind of the error among the keys ys -/
def dueL (kvs : Kvs) (ys : List Str) : V := match ys.filter (badV kvs) with
  | z :: _ => .str z
  | [] => match ys.filter fun z => (upK kvs (.str z)).2 with
    | z :: _ => .str z
    | [] => .non
/-- a short text of Python's signs -/
structure OkS (z : Str) : Prop where
  len : z.length ≤ 100
  ok : PyData.strOk z = true
/-- a value of such a dict: None, a text, 7, True, ("a",) -/
inductive Val1 (H : Hp) : V → Prop where
  | non : Val1 H .non
  | str {z : Str} : OkS z → Val1 H (.str z)
  | seven : Val1 H (.int 7)
  | tru : Val1 H (.bl true)
  | tup {t : Addr} : H t = some (.tup [.str "a"]) → Val1 H (.ref t)
theorem Val1.mono {H H' : Hp} {v : V} (h : Val1 H v) (s : Same H H') : Val1 H' v := by
  cases h with
  | non => exact .non
  | str h => exact .str h
  | seven => exact .seven
  | tru => exact .tru
  | tup h => exact .tup (s _ _ h)
/-- such a dict: its keys are ks -/
structure Ab (H : Hp) (kvs : Kvs) (ks : List Str) : Prop where
  keys : kvs.map (·.1) = ks.map Sum.inr
  len : ks.length ≤ 20
  kl : ∀ z ∈ ks, OkS z
  val : ∀ p ∈ kvs, Val1 H p.2
theorem Ab.mono {H H' : Hp} {kvs : Kvs} {ks : List Str} (h : Ab H kvs ks) (s : Same H H') : Ab H' kvs ks := ⟨h.keys, h.len, h.kl, fun p hp => (h.val p hp).mono s⟩
/-- the keys, sorted -/
def Srt1 (ks ys : List Str) : Prop := ys.Perm ks ∧ sortedS ys = true
/-- a source of numbers at a: n bounds how many were drawn without its digits -/
def Src (H : Hp) (a : Addr) (n : Nat) : Prop := ∃ x y z : Int, H a = some (.lst [.int x, .int y, .int z]) ∧ 0 ≤ x ∧ 0 ≤ y ∧ y < 2147483587 ∧ 0 ≤ z ∧ z ≤ n
/-! ### the promises -/
section
variable (K : PySem.W.Frag)
def sp_is_name : Sp := fun vs H Q _ => ∃ v, vs = [v] ∧ Val1 H v ∧ ∀ H', Same H H' → Q (.bl (vName v)) H'
def sp_comes_back : Sp := fun vs H Q _ => ∃ (v : V) (a : Addr) (kvs : Kvs) (ks : List Str), vs = [v, .ref a] ∧ Val1 H v ∧ H a = some (.dK kvs) ∧ Ab H kvs ks ∧ ∀ H', Same H H' → Q (.bl (upK kvs v).2) H'
def sp_look_kinds : Sp := fun vs H Q E => ∃ (a : Addr) (kvs : Kvs) (ks : List Str), vs = [.ref a] ∧ H a = some (.dK kvs) ∧ Ab H kvs ks ∧ ∀ ys, Srt1 ks ys →
  (dueL kvs ys = .non → ∀ H', Same H H' → Q .non H') ∧ (∀ z, dueL kvs ys = .str z → ∀ d H', Same H H' → H' d = some (.xd [("kind", .str z)]) → E (.ref (ga K "BadKinds")) (some d) H')
def sp_look_files : Sp := fun vs H Q _ => ∃ (a : Addr), vs = [.ref a] ∧ H a = some (.dK []) ∧ ∀ H', Same H H' → Q .non H'
/-- a Program without files -/
def fPr (f1 f2 f3 : Addr) : List (Str × V) := [("above", .ref f1), ("kept", .ref f2), ("defined", .ref f3)]
def sp_look_calls : Sp := fun vs H Q _ => ∃ (x dx f1 f2 f3 : Addr), vs = [.ref x] ∧ H x = some (.ins (ga K "Program") dx (fPr f1 f2 f3)) ∧ H f3 = some (.dK []) ∧ ∀ H', Same H H' → Q .non H'
def sp_look_size : Sp := fun vs H Q _ => ∃ (x dx f1 f2 f3 : Addr), vs = [.ref x] ∧ H x = some (.ins (ga K "Program") dx (fPr f1 f2 f3)) ∧ H f2 = some (.dK []) ∧ H f3 = some (.dK []) ∧ ∀ H', Same H H' → Q .non H'
/-- a Program of these kinds stands at x -/
def PrAt (H : Hp) (x : Addr) (kvs : Kvs) : Prop := ∃ dx f1 f2 f3, H x = some (.ins (ga K "Program") dx (fPr f1 f2 f3)) ∧ H f1 = some (.dK kvs)
def sp_ProgramR (vs : List V) (H : Hp) (Q : VK) (E : XK) (av : V) (x fd dx : Addr) : Prop := H x = some (.ins (ga K "Program") dx []) ∧ H fd = some (.dK []) ∧ ∃ (kvs : Kvs) (ks : List Str), ((av = .non ∧ kvs = []) ∨ ∃ a, av = .ref a ∧ H a = some (.dK kvs)) ∧ Ab H kvs ks ∧ ∀ ys, Srt1 ks ys →
  (dueL kvs ys = .non → ∀ H', SameX x H H' → PrAt K H' x kvs → Q .non H') ∧ (∀ z, dueL kvs ys = .str z → ∀ d H', SameX x H H' → H' d = some (.xd [("kind", .str z)]) → E (.ref (ga K "BadKinds")) (some d) H')
def sp_Program : Sp := fun vs H Q E => ∃ (x fd dx : Addr) (av : V), vs = [.ref x, .ref fd, av] ∧ sp_ProgramR K vs H Q E av x fd dx
def sp_Program1 : Sp := fun vs H Q E => sp_Program K (vs ++ [.non]) H Q E
def sp_is_kind : Sp := fun vs H Q _ => ∃ (x : Addr) (kvs : Kvs) (ks : List Str) (v o : Str), vs = [.ref x, .str v, .str o] ∧ PrAt K H x kvs ∧ Ab H kvs ks ∧ (∀ z, vRight (nxt kvs (.str z)) = true) ∧ OkS v ∧ OkS o ∧ (upK kvs (.str v)).2 = false ∧ ∀ H', Same H H' → Q (.bl (mem (.str o) (upK kvs (.str v)).1)) H'
def sp_source : Sp := fun vs H Q _ => ∃ (a : Addr) (ns : List Int) (i : Int), vs = [.ref a, .int i] ∧ SqL K H a (ns.map V.int) ∧ ns.length ≤ 63 ∧ 0 ≤ i ∧ i ≤ 100 ∧ ∀ p H', H p = none → Same H H' → Src H' p 0 → Q (.ref p) H'
def sp_draw : Sp := fun vs H Q _ => ∃ (a : Addr) (n : Nat) (m : Int), vs = [.ref a, .int m] ∧ Src H a n ∧ n ≤ 100000 ∧ 0 < m ∧ m ≤ 1000000 ∧ ∀ (r : Int) H', 0 ≤ r → r < m → SameX a H H' → Src H' a (n + 1) → Q (.int r) H'
def sp_names : Sp := fun vs H Q _ => ∃ (a : Addr) (n : Nat), vs = [.ref a, .int 6] ∧ Src H a n ∧ n ≤ 1000 ∧ ∀ (p : Addr) (ss : List Str) H', H p = none → p ≠ a → ss.length = 6 → (∀ z ∈ ss, OkS z) → SameX a H H' → Src H' a (n + 20) → H' p = some (.lst (ss.map V.str)) → Q (.ref p) H'
def sp_up : Sp := fun vs H Q _ => ∃ (v : V) (a : Addr) (kvs : Kvs) (ks : List Str), vs = [.ref a, v] ∧ Val1 H v ∧ H a = some (.dK kvs) ∧ Ab H kvs ks ∧
  ∀ p l H', Same H H' → H' p = some (.tup [.ref l, .bl (upK kvs v).2]) → H' l = some (.lst (upK kvs v).1) → (∀ u ∈ (upK kvs v).1, Val1 H' u) → Q (.ref p) H'
def sp_right : Sp := fun vs H Q _ => ∃ v, vs = [v] ∧ Val1 H v ∧ ∀ H', Same H H' → Q (.bl (vRight v)) H'
def sp_due : Sp := fun vs H Q _ => ∃ (a : Addr) (kvs : Kvs) (ks : List Str), vs = [.ref a] ∧ H a = some (.dK kvs) ∧ Ab H kvs ks ∧ ∀ ys, Srt1 ks ys → ∀ H', Same H H' → Q (dueL kvs ys) H'
def sp_refused : Sp := fun vs H Q _ => ∃ (a : Addr) (kvs : Kvs) (ks : List Str), vs = [.ref a] ∧ H a = some (.dK kvs) ∧ Ab H kvs ks ∧ ∀ ys, Srt1 ks ys → ∀ H', Same H H' → Q (dueL kvs ys) H'
def sp_law : Sp := fun vs H Q _ => ∃ (a : Addr) (ns : List Int), vs = [.ref a] ∧ SqL K H a (ns.map V.int) ∧ ns.length ≤ 63 ∧ ∀ H', Q (.bl true) H'
end
end K63
namespace K63
open PySem PySem.Spec PyProof.Rows L2 Z He
def topS (i : Nat) : Stmt := PySem.Challenge.pw_chainedreports_k63_kinds_fit.main.body.getD i (.Pass ⟨0, 0, 0, 0⟩)
section
variable {P : Program} {w : World} {K : PySem.W.Frag} {mg : Str → Option Value} {base : Heap} {f : Addr}

/-! ### is_name -/
abbrev s_is_name : Stmt := topS 10
abbrev N_is_name : List Str := ["thing", "sign"]
abbrev P_is_name : List Str := ["thing"]
theorem sc_is_name : FnScope N_is_name P_is_name (defScope s_is_name) := ⟨rfl, rfl, rfl, by decide +kernel, rfl, by decide +kernel, by decide +kernel⟩
def t_is_name (K : PySem.W.Frag) (E : XK) : TS :=
  (tSeq (tIfS (tOr (tNot (tTru K (tCB (rIsi K) (tCons (tVar 0) (tCons (tC (.ty "str")) tNil))))) (tNot (tTest (tChain rLeU rLeU (tC (.int 1)) (tCB (rLenU K) (tCons (tVar 0) tNil)) (tC (.int 8)))))) (tRet (tC (.bl false))) tNext)
  (tRet (tCB (rAll K) (tCons (tLc (iStr (tVar 0)) (gName 1) tYes (tOp (rInU K) (tVar 1) (tC (.str "abcdefghijklmnopqrstuvwxyz"))) [1]) tNil))))
theorem d_is_name (z_str : mg "str" = none) (z_isinstance : mg "isinstance" = none) (z_len : mg "len" = none) (c_MOST_LETTERS : Cst mg "MOST_LETTERS" (.int 8)) (c_LETTERS : Cst mg "LETTERS" (.str "abcdefghijklmnopqrstuvwxyz")) (z_all : mg "all" = none) {cdv : Value} {A : Around} {outer : List Env} {s : Shared} {H : Hp} {E : XK} (hr : Room 0 (A.deeper (envOfC "is_name" (defScope s_is_name) s.heap.objs.size f cdv))) :
    PSs (cxOf (L2.CX P w) P w K mg base N_is_name "is_name" (defScope s_is_name) f cdv A outer s H E) (defBody s_is_name) (t_is_name K E) := by
  exact ((pss_cons (ps_if (PW.pt (pw_or (pt_not (pt_truth (pe_callB call_isi rfl z_isinstance (by decide +kernel) (pa_cons (pv 0) (pa_cons (pe_bltn (v := .ty "str") (u := .type "str") rfl z_str (by decide +kernel) rfl) pa_nil))) (by intro _; rfl))) (pw_or1 (pt_not (pt_chain op_leU op_leU pe_int (pe_callB call_lenU rfl z_len PySem.boot_len (pa_cons (pv 0) pa_nil)) (pe_cst rfl c_MOST_LETTERS)))))) (pss_one (ps_ret pe_bl)) pss_nil)
  (pss_one (ps_ret (pe_callB (cr_all rfl) rfl z_all (by decide +kernel) (pa_cons (pe_lc (own := [("sign", 1)]) (wi := (iStr (tVar 0))) (g := (gName 1)) (tt := tYes) (te := (tOp (rInU K) (tVar 1) (tC (.str "abcdefghijklmnopqrstuvwxyz")))) rfl sc_is_name.nd (pi_str (pv 0)) (blkOk_by (own := [("sign", 1)]) (N := N_is_name) (sc := defScope s_is_name) (by decide +kernel)) (fun _ _ _ _ _ => (pg_name (i := 1) sc_is_name.nd rfl (by first | exact Or.inl rfl | exact Or.inr rfl))) (fun _ _ _ _ _ => pts_nil) (fun _ _ _ _ _ => (pe_cmpR (op_inU (hu65 hr)) (pv 1) (pe_cst rfl c_LETTERS) rfl))) pa_nil))))))
/-! ### comes_back -/
abbrev s_comes_back : Stmt := topS 55
abbrev N_comes_back : List Str := ["kind", "above", "seen", "one"]
abbrev P_comes_back : List Str := ["kind", "above"]
theorem sc_comes_back : FnScope N_comes_back P_comes_back (defScope s_comes_back) := ⟨rfl, rfl, rfl, by decide +kernel, rfl, by decide +kernel, by decide +kernel⟩
def t_comes_back (K : PySem.W.Frag) (E : XK) : TS :=
  (tSeq (tPar 2 3 (tCons (tLst tNil) (tCons (tVar 0) tNil)))
  (tSeq (tWhile (tTest (tOp rIsNotU (tVar 3) (tC .non))) (tSeq (tIfS (tTest (tOp (rInU K) (tVar 3) (tVar 2))) (tRet (tC (.bl true))) tNext)
  (tSeq (tDrop (tBM K "list" rAppend (tVar 2) (tCons (tVar 3) tNil)))
  (tAsg (tGet (tVar 1) (tVar 3)) (gName 3)))))
  (tRet (tC (.bl false)))))
theorem d_comes_back {cdv : Value} {A : Around} {outer : List Env} {s : Shared} {H : Hp} {E : XK} (hr : Room 0 (A.deeper (envOfC "comes_back" (defScope s_comes_back) s.heap.objs.size f cdv))) :
    PSs (cxOf (L2.CX P w) P w K mg base N_comes_back "comes_back" (defScope s_comes_back) f cdv A outer s H E) (defBody s_comes_back) (t_comes_back K E) := by
  exact ((pss_cons (ps_par rfl sc_comes_back.nd (i := 2) (j := 3) rfl rfl (by decide) rfl rfl (pa_cons (pe_lst pa_nil) (pa_cons (pv 0) pa_nil)) (by rfl))
  (pss_cons (ps_while (passes_of rfl) (pt_cmpR op_isNotU (pv 3) pe_non (nomark _)) (pss_cons (ps_if (pt_cmpR (op_inU (hu65 hr)) (pv 3) (pv 2) rfl) (pss_one (ps_ret pe_bl)) pss_nil)
  (pss_cons (ps_expr (pe_bm PySem.F.plainAttrs_list PySem.F.slot_list_append PySem.F.type_list_append mt_append (pv 2) (pa_cons (pv 3) pa_nil)))
  (pss_one (ps_set (i := 3) sc_comes_back.nd rfl (by first | exact Or.inl rfl | exact Or.inr rfl) (pe_get (hu64 hr) (pv 1) (pv 3)))))))
  (pss_one (ps_ret pe_bl)))))
/-! ### look_kinds -/
abbrev s_look_kinds : Stmt := topS 56
abbrev N_look_kinds : List Str := ["above", "kind"]
abbrev P_look_kinds : List Str := ["above"]
theorem sc_look_kinds : FnScope N_look_kinds P_look_kinds (defScope s_look_kinds) := ⟨rfl, rfl, rfl, by decide +kernel, rfl, by decide +kernel, by decide +kernel⟩
def t_look_kinds (K : PySem.W.Frag) (E : XK) : TS :=
  (tSeq (tFor (iList K (tCB (rSortedU K) (tCons (tVar 0) tNil))) (gName 1)
    (tIfS (tOr (tNot (tTru K (tCallS (sp_is_name) (WE (wE E)) (tCons (tVar 1) tNil)))) (tAnd (tTest (tOp rIsNotU (tOp (rIxU K) (tVar 0) (tVar 1)) (tC .non))) (tNot (tTru K (tCallS (sp_is_name) (WE (wE E)) (tCons (tOp (rIxU K) (tVar 0) (tVar 1)) tNil)))))) (tRaise (ga K "BadKinds") (spEx1 (ga K "BadKinds") "kind") (wE E) (tCons (tVar 1) tNil)) tNext))
  (tFor (iList K (tCB (rSortedU K) (tCons (tVar 0) tNil))) (gName 1)
    (tIfS (tTru K (tCallS (sp_comes_back) (WE (wE E)) (tCons (tVar 1) (tCons (tVar 0) tNil)))) (tRaise (ga K "BadKinds") (spEx1 (ga K "BadKinds") "kind") (wE E) (tCons (tVar 1) tNil)) tNext)))
theorem d_look_kinds (z_sorted : mg "sorted" = none) (f_is_name : Gf P w K mg base 1 "is_name" (sp_is_name)) (X_BadKinds : Gx P w K mg base 1 (ga K "BadKinds") (spEx1 (ga K "BadKinds") "kind")) (m_BadKinds : mg "BadKinds" = some (.ref (ga K "BadKinds"))) (f_comes_back : Gf P w K mg base 1 "comes_back" (sp_comes_back)) {cdv : Value} {A : Around} {outer : List Env} {s : Shared} {H : Hp} {E : XK} (hr : Room 3 (A.deeper (envOfC "look_kinds" (defScope s_look_kinds) s.heap.objs.size f cdv))) :
    PSs (cxOf (L2.CX P w) P w K mg base N_look_kinds "look_kinds" (defScope s_look_kinds) f cdv A outer s H E) (defBody s_look_kinds) (t_look_kinds K E) := by
  exact ((pss_cons (ps_for (passes_of rfl) rfl (pi_list (pe_callB (call_sortedU rfl) rfl z_sorted (by decide +kernel) (pa_cons (pv 0) pa_nil))) (pg_name (i := 1) sc_look_kinds.nd rfl (by first | exact Or.inl rfl | exact Or.inr rfl))
    (pss_one (ps_if (PW.pt (pw_or (pt_not (pt_truth (pe_f f_is_name (hr.mono (by decide)) (fun σ => passAt (takes_of rfl rfl rfl rfl) σ) (pa_cons (pv 1) pa_nil)) (by intro _; rfl))) (pw_or1 (PW.pt (pw_and (pt_cmpR op_isNotU (pe_ix (ix_U (hu1 hr)) (pv 0) (pv 1) (fun _ _ => rfl)) pe_non (nomark _)) (pw_and1 (pt_not (pt_truth (pe_f f_is_name (hr.mono (by decide)) (fun σ => passAt (takes_of rfl rfl rfl rfl) σ) (pa_cons (pe_ix (ix_U (hu1 hr)) (pv 0) (pv 1) (fun _ _ => rfl)) pa_nil)) (by intro _; rfl))))))))) (pss_one (ps_rx rfl (takes_of rfl rfl rfl rfl) X_BadKinds (hr.mono (by decide)) m_BadKinds (pa_cons (pv 1) pa_nil))) pss_nil)))
  (pss_one (ps_for (passes_of rfl) rfl (pi_list (pe_callB (call_sortedU rfl) rfl z_sorted (by decide +kernel) (pa_cons (pv 0) pa_nil))) (pg_name (i := 1) sc_look_kinds.nd rfl (by first | exact Or.inl rfl | exact Or.inr rfl))
    (pss_one (ps_if (pt_truth (pe_f f_comes_back (hr.mono (by decide)) (fun σ => passAt (takes_of rfl rfl rfl rfl) σ) (pa_cons (pv 1) (pa_cons (pv 0) pa_nil))) (by intro _; rfl)) (pss_one (ps_rx rfl (takes_of rfl rfl rfl rfl) X_BadKinds (hr.mono (by decide)) m_BadKinds (pa_cons (pv 1) pa_nil))) pss_nil))))))
/-! ### look_files -/
abbrev s_look_files : Stmt := topS 57
abbrev N_look_files : List Str := ["files", "file"]
abbrev P_look_files : List Str := ["files"]
theorem sc_look_files : FnScope N_look_files P_look_files (defScope s_look_files) := ⟨rfl, rfl, rfl, by decide +kernel, rfl, by decide +kernel, by decide +kernel⟩
def t_look_files (K : PySem.W.Frag) (E : XK) : TS :=
  (tFor (iList K (tCB (rSortedU K) (tCons (tVar 0) tNil))) (gName 1)
    tNever)
theorem d_look_files (z_sorted : mg "sorted" = none) {cdv : Value} {A : Around} {outer : List Env} {s : Shared} {H : Hp} {E : XK} (hr : Room 3 (A.deeper (envOfC "look_files" (defScope s_look_files) s.heap.objs.size f cdv))) :
    PSs (cxOf (L2.CX P w) P w K mg base N_look_files "look_files" (defScope s_look_files) f cdv A outer s H E) (defBody s_look_files) (t_look_files K E) := by
  exact ((pss_one (ps_for (passes_of rfl) rfl (pi_list (pe_callB (call_sortedU rfl) rfl z_sorted (by decide +kernel) (pa_cons (pv 0) pa_nil))) (pg_name (i := 1) sc_look_files.nd rfl (by first | exact Or.inl rfl | exact Or.inr rfl))
    pss_never)))
/-! ### BadKinds.__init__ -/
abbrev s_BadKinds_init : Stmt := inClass (topS 5) 0
abbrev N_BadKinds_init : List Str := ["self", "kind"]
abbrev P_BadKinds_init : List Str := ["self", "kind"]
theorem sc_BadKinds_init : FnScope N_BadKinds_init P_BadKinds_init (defScope s_BadKinds_init) := ⟨rfl, rfl, rfl, by decide +kernel, rfl, by decide +kernel, by decide +kernel⟩
def t_BadKinds_init (K : PySem.W.Frag) (E : XK) : TS :=
  (tSeq (tDrop (tVeI K (tCons (tVar 0) (tCons (tC (.str "not kinds")) tNil))))
  (tOst K "kind" (tVar 0) (tVar 1)))
theorem d_BadKinds_init (z_ValueError : mg "ValueError" = none) (vV : PySem.W.findCls K (.type "ValueError") (.type "type") "__init__" = some (.val (.builtin "ValueError.__init__"))) {cdv : Value} {A : Around} {outer : List Env} {s : Shared} {H : Hp} {E : XK} (hr : Room 0 (A.deeper (envOfC "BadKinds.__init__" (defScope s_BadKinds_init) s.heap.objs.size f cdv))) :
    PSs (cxOf (L2.CX P w) P w K mg base N_BadKinds_init "BadKinds.__init__" (defScope s_BadKinds_init) f cdv A outer s H E) (defBody s_BadKinds_init) (t_BadKinds_init K E) := by
  exact ((pss_cons (ps_expr (pe_veinit rfl z_ValueError vV (pa_cons (pv 0) (pa_cons pe_str pa_nil))))
  (pss_one (ps_ost (pv 0) (pv 1)))))
/-! ### Program.__init__ -/
abbrev s_Program_init : Stmt := inClass (topS 58) 0
abbrev N_Program_init : List Str := ["self", "files", "above", "file", "name", "line", "block"]
abbrev P_Program_init : List Str := ["self", "files", "above"]
theorem sc_Program_init : FnScope N_Program_init P_Program_init (defScope s_Program_init) := ⟨rfl, rfl, rfl, by decide +kernel, rfl, by decide +kernel, by decide +kernel⟩
def t_Program_init (K : PySem.W.Frag) (E : XK) : TS :=
  (tSeq (tDrop (tCallS (sp_look_files) (WE (wE E)) (tCons (tVar 1) tNil)))
  (tSeq (sFld K (tVar 0) (tCB rDictU (tCons (tOrT K (tVar 2) tDNewK) tNil)) "above")
  (tSeq (tDrop (tCallS (sp_look_kinds K) (WE (wE E)) (tCons (tFld K (tVar 0) "above") tNil)))
  (tSeq (sFld K (tVar 0) (tLockE (tDc (iKeys (tVar 1)) (gName 3) tYes (tVar 3) tNo [3])) "kept")
  (tSeq (sFld K (tVar 0) tDNewK "defined")
  (tSeq (tFor (iList K (tCB (rSortedU K) (tCons (tFld K (tVar 0) "kept") tNil))) (gName 3)
    tNever)
  (tSeq (tDrop (tMetZ (ga K "Program") "look_calls" (sp_look_calls K) (WE (wE E)) (tVar 0) tNil))
  (tDrop (tMetZ (ga K "Program") "look_size" (sp_look_size K) (WE (wE E)) (tVar 0) tNil)))))))))
theorem d_Program_init (f_look_files : Gf P w K mg base 4 "look_files" (sp_look_files)) (z_dict : mg "dict" = none) (f_look_kinds : Gf P w K mg base 4 "look_kinds" (sp_look_kinds K)) (z_sorted : mg "sorted" = none) (m_Program_look_calls : Gm P w K mg base 4 (ga K "Program") "look_calls" (sp_look_calls K)) (cl_Program : Cls K (ga K "Program")) (m_Program_look_size : Gm P w K mg base 4 (ga K "Program") "look_size" (sp_look_size K)) {cdv : Value} {A : Around} {outer : List Env} {s : Shared} {H : Hp} {E : XK} (hr : Room 5 (A.deeper (envOfC "Program.__init__" (defScope s_Program_init) s.heap.objs.size f cdv))) :
    PSs (cxOf (L2.CX P w) P w K mg base N_Program_init "Program.__init__" (defScope s_Program_init) f cdv A outer s H E) (defBody s_Program_init) (t_Program_init K E) := by
  exact ((pss_cons (ps_expr (pe_f f_look_files (hr.mono (by decide)) (fun σ => passAt (takes_of rfl rfl rfl rfl) σ) (pa_cons (pv 1) pa_nil)))
  (pss_cons (ps_fld (pv 0) (pe_callTy call_dictU rfl z_dict (by decide +kernel) (pa_cons (pe_orT (pv 2) (pe_one pe_dnewK)) pa_nil)) (by rfl))
  (pss_cons (ps_expr (pe_f f_look_kinds (hr.mono (by decide)) (fun σ => passAt (takes_of rfl rfl rfl rfl) σ) (pa_cons (pe_fld (pv 0) (by rfl)) pa_nil)))
  (pss_cons (ps_fld (pv 0) (pe_lock (pe_dc (own := [("file", 3)]) (wi := (iKeys (tVar 1))) (g := (gName 3)) (tt := tYes) (tk := (tVar 3)) (tv := tNo) rfl sc_Program_init.nd (pi_keys (pv 1)) (blkOk_by (own := [("file", 3)]) (N := N_Program_init) (sc := defScope s_Program_init) (by decide +kernel)) (fun _ _ _ _ _ => (pg_name (i := 3) sc_Program_init.nd rfl (by first | exact Or.inl rfl | exact Or.inr rfl))) (fun _ _ _ _ _ => pts_nil) (fun _ _ _ _ _ => (pv 3)) (fun _ _ _ _ _ => pe_no))) (by rfl))
  (pss_cons (ps_fld (pv 0) pe_dnewK (by rfl))
  (pss_cons (ps_for (passes_of rfl) rfl (pi_list (pe_callB (call_sortedU rfl) rfl z_sorted (by decide +kernel) (pa_cons (pe_fld (pv 0) (by rfl)) pa_nil))) (pg_name (i := 3) sc_Program_init.nd rfl (by first | exact Or.inl rfl | exact Or.inr rfl))
    pss_never)
  (pss_cons (ps_expr (pe_m0 cl_Program m_Program_look_calls (hr.mono (by decide)) (fun σ => passAt (takes_of rfl rfl rfl rfl) σ) (pv 0)))
  (pss_one (ps_expr (pe_m0 cl_Program m_Program_look_size (hr.mono (by decide)) (fun σ => passAt (takes_of rfl rfl rfl rfl) σ) (pv 0))))))))))))
/-! ### Program.look_calls -/
abbrev s_Program_look_calls : Stmt := inClass (topS 58) 2
abbrev N_Program_look_calls : List Str := ["self", "wrong", "name", "file", "line", "block", "one"]
abbrev P_Program_look_calls : List Str := ["self"]
theorem sc_Program_look_calls : FnScope N_Program_look_calls P_Program_look_calls (defScope s_Program_look_calls) := ⟨rfl, rfl, rfl, by decide +kernel, rfl, by decide +kernel, by decide +kernel⟩
def t_Program_look_calls (K : PySem.W.Frag) (E : XK) : TS :=
  (tSeq (tAsg (tLst tNil) (gName 1))
  (tSeq (tFor (iList K (tCB (rSortedU K) (tCons (tFld K (tVar 0) "defined") tNil))) (gName 2)
    tNever)
  (tIfS (tTest (tOp (rNeU K) (tVar 1) (tLst tNil))) tNever tNext)))
theorem d_Program_look_calls (z_sorted : mg "sorted" = none) {cdv : Value} {A : Around} {outer : List Env} {s : Shared} {H : Hp} {E : XK} (hr : Room 3 (A.deeper (envOfC "Program.look_calls" (defScope s_Program_look_calls) s.heap.objs.size f cdv))) :
    PSs (cxOf (L2.CX P w) P w K mg base N_Program_look_calls "Program.look_calls" (defScope s_Program_look_calls) f cdv A outer s H E) (defBody s_Program_look_calls) (t_Program_look_calls K E) := by
  exact ((pss_cons (ps_set (i := 1) sc_Program_look_calls.nd rfl (by first | exact Or.inl rfl | exact Or.inr rfl) (pe_lst pa_nil))
  (pss_cons (ps_for (passes_of rfl) rfl (pi_list (pe_callB (call_sortedU rfl) rfl z_sorted (by decide +kernel) (pa_cons (pe_fld (pv 0) (by rfl)) pa_nil))) (pg_name (i := 2) sc_Program_look_calls.nd rfl (by first | exact Or.inl rfl | exact Or.inr rfl))
    pss_never)
  (pss_one (ps_if (pt_cmpR (op_neU (hu64 hr)) (pv 1) (pe_lst pa_nil) (nomark _)) pss_never pss_nil)))))
/-! ### Program.look_size -/
abbrev s_Program_look_size : Stmt := inClass (topS 58) 3
abbrev N_Program_look_size : List Str := ["self", "many", "file", "sizes", "size", "most", "what"]
abbrev P_Program_look_size : List Str := ["self"]
theorem sc_Program_look_size : FnScope N_Program_look_size P_Program_look_size (defScope s_Program_look_size) := ⟨rfl, rfl, rfl, by decide +kernel, rfl, by decide +kernel, by decide +kernel⟩
def t_Program_look_size (K : PySem.W.Frag) (E : XK) : TS :=
  (tSeq (tAsg (tCB (rSum K) (tCons (tLockE (tLc (iKeys (tFld K (tVar 0) "kept")) (gName 2) tYes tNo [2])) tNil)) (gName 1))
  (tSeq (tAsg (tLst (tCons (tTup (tCons (tCB (rLenU K) (tCons (tFld K (tVar 0) "kept") tNil)) (tCons (tC (.int 4)) (tCons (tC (.str "files")) tNil)))) (tCons (tTup (tCons (tCB (rLenU K) (tCons (tFld K (tVar 0) "defined") tNil)) (tCons (tC (.int 8)) (tCons (tC (.str "functions")) tNil)))) tNil))) (gName 3))
  (tFor (iList K (tLst (StX.tStar K (tVar 3) (tCons (tTup (tCons (tVar 1) (tCons (tC (.int 120)) (tCons (tC (.str "lines")) tNil)))) tNil)))) (gTup K 3 (gCons (gName 4) (gCons (gName 5) (gCons (gName 6) gNil))))
    (tIfS (tTest (tOp rGtU (tVar 4) (tVar 5))) tNever tNext))))
theorem d_Program_look_size (z_sum : mg "sum" = none) (c_MOST_FUNCTIONS : Cst mg "MOST_FUNCTIONS" (.int 8)) (z_len : mg "len" = none) (c_MOST_FILES : Cst mg "MOST_FILES" (.int 4)) (c_MOST_LINES : Cst mg "MOST_LINES" (.int 120)) {cdv : Value} {A : Around} {outer : List Env} {s : Shared} {H : Hp} {E : XK} (hr : Room 3 (A.deeper (envOfC "Program.look_size" (defScope s_Program_look_size) s.heap.objs.size f cdv))) :
    PSs (cxOf (L2.CX P w) P w K mg base N_Program_look_size "Program.look_size" (defScope s_Program_look_size) f cdv A outer s H E) (defBody s_Program_look_size) (t_Program_look_size K E) := by
  exact ((pss_cons (ps_set (i := 1) sc_Program_look_size.nd rfl (by first | exact Or.inl rfl | exact Or.inr rfl) (pe_callB (cr_sum rfl) rfl z_sum (by decide +kernel) (pa_cons (pe_lock (pe_lc (own := [("file", 2)]) (wi := (iKeys (tFld K (tVar 0) "kept"))) (g := (gName 2)) (tt := tYes) (te := tNo) rfl sc_Program_look_size.nd (pi_keys (pe_fld (pv 0) (by rfl))) (blkOk_by (own := [("file", 2)]) (N := N_Program_look_size) (sc := defScope s_Program_look_size) (by decide +kernel)) (fun _ _ _ _ _ => (pg_name (i := 2) sc_Program_look_size.nd rfl (by first | exact Or.inl rfl | exact Or.inr rfl))) (fun _ _ _ _ _ => pts_nil) (fun _ _ _ _ _ => pe_no))) pa_nil)))
  (pss_cons (ps_set (i := 3) sc_Program_look_size.nd rfl (by first | exact Or.inl rfl | exact Or.inr rfl) (pe_lst (pa_cons (pe_tup (pa_cons (pe_callB call_lenU rfl z_len PySem.boot_len (pa_cons (pe_fld (pv 0) (by rfl)) pa_nil)) (pa_cons (pe_cst rfl c_MOST_FILES) (pa_cons pe_str pa_nil)))) (pa_cons (pe_tup (pa_cons (pe_callB call_lenU rfl z_len PySem.boot_len (pa_cons (pe_fld (pv 0) (by rfl)) pa_nil)) (pa_cons (pe_cst rfl c_MOST_FUNCTIONS) (pa_cons pe_str pa_nil)))) pa_nil))))
  (pss_one (ps_for (passes_of rfl) rfl (pi_list (pe_lst (StX.pa_star (pv 3) (pa_cons (pe_tup (pa_cons (pv 1) (pa_cons (pe_cst rfl c_MOST_LINES) (pa_cons pe_str pa_nil)))) pa_nil)))) (pg_tup rfl (pgs_cons (pg_name (i := 4) sc_Program_look_size.nd rfl (by first | exact Or.inl rfl | exact Or.inr rfl)) (pgs_cons (pg_name (i := 5) sc_Program_look_size.nd rfl (by first | exact Or.inl rfl | exact Or.inr rfl)) (pgs_cons (pg_name (i := 6) sc_Program_look_size.nd rfl (by first | exact Or.inl rfl | exact Or.inr rfl)) pgs_nil))))
    (pss_one (ps_if (pt_cmpR op_gtU (pv 4) (pv 5) (nomark _)) pss_never pss_nil)))))))
/-! ### Program.is_kind -/
abbrev s_Program_is_kind : Stmt := inClass (topS 58) 11
abbrev N_Program_is_kind : List Str := ["self", "kind", "other"]
abbrev P_Program_is_kind : List Str := ["self", "kind", "other"]
theorem sc_Program_is_kind : FnScope N_Program_is_kind P_Program_is_kind (defScope s_Program_is_kind) := ⟨rfl, rfl, rfl, by decide +kernel, rfl, by decide +kernel, by decide +kernel⟩
def t_Program_is_kind (K : PySem.W.Frag) (E : XK) : TS :=
  (tSeq (tWhile (tAnd (tTest (tOp rIsNotU (tVar 1) (tC .non))) (tTest (tOp (rNeU K) (tVar 1) (tVar 2)))) (tAsg (tGet (tFld K (tVar 0) "above") (tVar 1)) (gName 1)))
  (tRet (tOp rIsNotU (tVar 1) (tC .non))))
theorem d_Program_is_kind {cdv : Value} {A : Around} {outer : List Env} {s : Shared} {H : Hp} {E : XK} (hr : Room 0 (A.deeper (envOfC "Program.is_kind" (defScope s_Program_is_kind) s.heap.objs.size f cdv))) :
    PSs (cxOf (L2.CX P w) P w K mg base N_Program_is_kind "Program.is_kind" (defScope s_Program_is_kind) f cdv A outer s H E) (defBody s_Program_is_kind) (t_Program_is_kind K E) := by
  exact ((pss_cons (ps_while (passes_of rfl) (PW.pt (pw_and (pt_cmpR op_isNotU (pv 1) pe_non (nomark _)) (pw_and1 (pt_cmpR (op_neU (hu64 hr)) (pv 1) (pv 2) (nomark _))))) (pss_one (ps_set (i := 1) sc_Program_is_kind.nd rfl (by first | exact Or.inl rfl | exact Or.inr rfl) (pe_get (hu64 hr) (pe_fld (pv 0) (by rfl)) (pv 1)))))
  (pss_one (ps_ret (pe_cmpR op_isNotU (pv 1) pe_non (nomark _))))))
/-! ### _law_source -/
abbrev s__law_source : Stmt := topS 60
abbrev N__law_source : List Str := ["_law_script", "_law_place", "_law_cell", "_law_large", "_law_mixed"]
abbrev P__law_source : List Str := ["_law_script", "_law_place"]
theorem sc__law_source : FnScope N__law_source P__law_source (defScope s__law_source) := ⟨rfl, rfl, rfl, by decide +kernel, rfl, by decide +kernel, by decide +kernel⟩
def t__law_source (K : PySem.W.Frag) (E : XK) : TS :=
  (tSeq (tAsg (tIf (tTest (tOp rLtU (tVar 1) (tCB (rLenU K) (tCons (tVar 0) tNil)))) (tOp (rIxU K) (tVar 0) (tVar 1)) (tC (.int 0))) (gName 2))
  (tSeq (tAsg (tIf (tTest (tOp rGeU (tCB rAbs (tCons (tVar 2) tNil)) (tOp rPowU (tC (.int 10)) (tC (.int 18))))) (tCB rAbs (tCons (tVar 2) tNil)) (tC (.int 0))) (gName 3))
  (tSeq (tAsg (tOp (rAddU K) (tOp (rAddU K) (tOp (rAddU K) (tOp rModU (tVar 2) (tC (.int 2147483587))) (tOp (rMulU K) (tOp (rMulU K) (tC (.int 7331)) (tVar 1)) (tVar 1))) (tOp (rMulU K) (tC (.int 211)) (tVar 1))) (tC (.int 5))) (gName 4))
  (tRet (tLst (tCons (tVar 3) (tCons (tOp rModU (tOp rPowU (tVar 4) (tC (.int 3))) (tC (.int 2147483549))) (tCons (tC (.int 0)) tNil))))))))
theorem d__law_source (z_len : mg "len" = none) (z_abs : mg "abs" = none) {cdv : Value} {A : Around} {outer : List Env} {s : Shared} {H : Hp} {E : XK} (hr : Room 0 (A.deeper (envOfC "_law_source" (defScope s__law_source) s.heap.objs.size f cdv))) :
    PSs (cxOf (L2.CX P w) P w K mg base N__law_source "_law_source" (defScope s__law_source) f cdv A outer s H E) (defBody s__law_source) (t__law_source K E) := by
  exact ((pss_cons (ps_set (i := 2) sc__law_source.nd rfl (by first | exact Or.inl rfl | exact Or.inr rfl) (pe_ifExp (pt_cmpR op_ltU (pv 1) (pe_callB call_lenU rfl z_len PySem.boot_len (pa_cons (pv 0) pa_nil)) (nomark _)) (pe_ix (ix_U (hu1 hr)) (pv 0) (pv 1) (fun _ _ => rfl)) pe_int))
  (pss_cons (ps_set (i := 3) sc__law_source.nd rfl (by first | exact Or.inl rfl | exact Or.inr rfl) (pe_ifExp (pt_cmpR op_geU (pe_callB call_abs rfl z_abs (by decide +kernel) (pa_cons (pv 2) pa_nil)) (pe_op op_powU pe_int pe_int) (nomark _)) (pe_callB call_abs rfl z_abs (by decide +kernel) (pa_cons (pv 2) pa_nil)) pe_int))
  (pss_cons (ps_set (i := 4) sc__law_source.nd rfl (by first | exact Or.inl rfl | exact Or.inr rfl) (pe_op op_addU (pe_op op_addU (pe_op op_addU (pe_op op_modU (pv 2) pe_int) (pe_op op_mulU (pe_op op_mulU pe_int (pv 1)) (pv 1))) (pe_op op_mulU pe_int (pv 1))) pe_int))
  (pss_one (ps_ret (pe_lst (pa_cons (pv 3) (pa_cons (pe_op op_modU (pe_op op_powU (pv 4) pe_int) pe_int) (pa_cons pe_int pa_nil))))))))))
/-! ### _law_draw -/
abbrev s__law_draw : Stmt := topS 61
abbrev N__law_draw : List Str := ["_law_source_here", "_law_many", "_law_digit", "_law_turn"]
abbrev P__law_draw : List Str := ["_law_source_here", "_law_many"]
theorem sc__law_draw : FnScope N__law_draw P__law_draw (defScope s__law_draw) := ⟨rfl, rfl, rfl, by decide +kernel, rfl, by decide +kernel, by decide +kernel⟩
def t__law_draw (K : PySem.W.Frag) (E : XK) : TS :=
  (tSeq (tIfS (tTest (tOp rGtU (tOp (rIxU K) (tVar 0) (tC (.int 0))) (tC (.int 0)))) (tSeq (tAsg (tOp rModU (tOp (rIxU K) (tVar 0) (tC (.int 0))) (tVar 1)) (gName 2))
  (tSeq (tAsg (tOp rFdivU (tOp (rIxU K) (tVar 0) (tC (.int 0))) (tVar 1)) (gSub (tVar 0) (tC (.int 0)) rSetU))
  (tRet (tVar 2)))) tNext)
  (tSeq (tAsg (tOp (rAddU K) (tOp (rIxU K) (tVar 0) (tC (.int 2))) (tC (.int 1))) (gSub (tVar 0) (tC (.int 2)) rSetU))
  (tSeq (tAsg (tOp (rIxU K) (tVar 0) (tC (.int 2))) (gName 3))
  (tSeq (tAsg (tOp rModU (tOp (rAddU K) (tOp (rAddU K) (tOp (rMulU K) (tOp (rIxU K) (tVar 0) (tC (.int 1))) (tC (.int 62089))) (tOp (rMulU K) (tOp (rMulU K) (tC (.int 30011)) (tVar 3)) (tVar 3))) (tC (.int 13))) (tC (.int 2147483587))) (gSub (tVar 0) (tC (.int 1)) rSetU))
  (tRet (tOp rModU (tOp rModU (tOp rPowU (tOp rFdivU (tOp (rIxU K) (tVar 0) (tC (.int 1))) (tC (.int 64))) (tC (.int 3))) (tC (.int 2147483563))) (tVar 1)))))))
theorem d__law_draw {cdv : Value} {A : Around} {outer : List Env} {s : Shared} {H : Hp} {E : XK} (hr : Room 0 (A.deeper (envOfC "_law_draw" (defScope s__law_draw) s.heap.objs.size f cdv))) :
    PSs (cxOf (L2.CX P w) P w K mg base N__law_draw "_law_draw" (defScope s__law_draw) f cdv A outer s H E) (defBody s__law_draw) (t__law_draw K E) := by
  exact ((pss_cons (ps_if (pt_cmpR op_gtU (pe_ix (ix_U (hu1 hr)) (pv 0) pe_int (fun _ _ => rfl)) pe_int (nomark _)) (pss_cons (ps_set (i := 2) sc__law_draw.nd rfl (by first | exact Or.inl rfl | exact Or.inr rfl) (pe_op op_modU (pe_ix (ix_U (hu1 hr)) (pv 0) pe_int (fun _ _ => rfl)) (pv 1)))
  (pss_cons (ps_asg (pe_op op_fdivU (pe_ix (ix_U (hu1 hr)) (pv 0) pe_int (fun _ _ => rfl)) (pv 1)) (pg_sub (pv 0) pe_int (set_U (hu1 hr))))
  (pss_one (ps_ret (pv 2))))) pss_nil)
  (pss_cons (ps_asg (pe_op op_addU (pe_ix (ix_U (hu1 hr)) (pv 0) pe_int (fun _ _ => rfl)) pe_int) (pg_sub (pv 0) pe_int (set_U (hu1 hr))))
  (pss_cons (ps_set (i := 3) sc__law_draw.nd rfl (by first | exact Or.inl rfl | exact Or.inr rfl) (pe_ix (ix_U (hu1 hr)) (pv 0) pe_int (fun _ _ => rfl)))
  (pss_cons (ps_asg (pe_op op_modU (pe_op op_addU (pe_op op_addU (pe_op op_mulU (pe_ix (ix_U (hu1 hr)) (pv 0) pe_int (fun _ _ => rfl)) pe_int) (pe_op op_mulU (pe_op op_mulU pe_int (pv 3)) (pv 3))) pe_int) pe_int) (pg_sub (pv 0) pe_int (set_U (hu1 hr))))
  (pss_one (ps_ret (pe_op op_modU (pe_op op_modU (pe_op op_powU (pe_op op_fdivU (pe_ix (ix_U (hu1 hr)) (pv 0) pe_int (fun _ _ => rfl)) pe_int) pe_int) pe_int) (pv 1)))))))))
/-! ### _law_names -/
abbrev s__law_names : Stmt := topS 62
abbrev N__law_names : List Str := ["_law_source_here", "_law_many", "_law_letters", "_law_size", "_law_first", "_law_stem", "_law_turn", "_law_spot", "_law_found", "_law_k", "_law_name"]
abbrev P__law_names : List Str := ["_law_source_here", "_law_many"]
theorem sc__law_names : FnScope N__law_names P__law_names (defScope s__law_names) := ⟨rfl, rfl, rfl, by decide +kernel, rfl, by decide +kernel, by decide +kernel⟩
def t__law_names (K : PySem.W.Frag) (E : XK) : TS :=
  (tSeq (tAsg (tC (.str "abcdefghijklmnopqrstuvwxyz")) (gName 2))
  (tSeq (tAsg (tTup (tCons (tOp (rIxU K) (tLst (tCons (tC (.int 0)) (tCons (tC (.int 0)) (tCons (tC (.int 1)) (tCons (tC (.int 2)) (tCons (tC (.int 7)) tNil)))))) (tCallS (sp_draw) (WE (wE E)) (tCons (tVar 0) (tCons (tC (.int 5)) tNil)))) (tCons (tCallS (sp_draw) (WE (wE E)) (tCons (tVar 0) (tCons (tC (.int 26)) tNil))) tNil))) (gTup K 2 (gCons (gName 3) (gCons (gName 4) gNil))))
  (tSeq (tAsg (tC (.str "")) (gName 5))
  (tSeq (tFor (iRng1 (tCons (tVar 3) tNil)) (gName 6)
    (tAsg (tOp (rAddU K) (tVar 5) (tOp (rIxU K) (tVar 2) (tCallS (sp_draw) (WE (wE E)) (tCons (tVar 0) (tCons (tC (.int 26)) tNil))))) (gName 5)))
  (tSeq (tAsg (tCallS (sp_draw) (WE (wE E)) (tCons (tVar 0) (tCons (tOp (rAddU K) (tVar 3) (tC (.int 1))) tNil))) (gName 7))
  (tSeq (tAsg (tLc (iRng1 (tCons (tVar 1) tNil)) (gName 9) tYes (tOp (rAddU K) (tOp (rAddU K) (tSl (rSlU K) (tVar 5) tNoPart (tPart (tVar 7))) (tOp (rIxU K) (tVar 2) (tOp rModU (tOp (rAddU K) (tVar 4) (tOp (rMulU K) (tC (.int 3)) (tVar 9))) (tC (.int 26))))) (tSl (rSlU K) (tVar 5) (tPart (tVar 7)) tNoPart)) [9]) (gName 8))
  (tSeq (tIfS (tTru K (tCB (rAny K) (tCons (tLc (iList K (tVar 8)) (gName 10) tYes (tOp (rInU K) (tVar 10) (tTup (tCons (tC (.str "or")) (tCons (tC (.str "of")) (tCons (tC (.str "to")) (tCons (tC (.str "by")) (tCons (tC (.str "as")) (tCons (tC (.str "try")) (tCons (tC (.str "def")) (tCons (tC (.str "any")) tNil)))))))))) [10]) tNil))) (tAsg (tLc (iList K (tVar 8)) (gName 10) tYes (tOp (rAddU K) (tVar 10) (tC (.str "q"))) [10]) (gName 8)) tNext)
  (tRet (tVar 8)))))))))
theorem d__law_names (f__law_draw : Gf P w K mg base 1 "_law_draw" (sp_draw)) (z_range : mg "range" = none) (z_any : mg "any" = none) {cdv : Value} {A : Around} {outer : List Env} {s : Shared} {H : Hp} {E : XK} (hr : Room 1 (A.deeper (envOfC "_law_names" (defScope s__law_names) s.heap.objs.size f cdv))) :
    PSs (cxOf (L2.CX P w) P w K mg base N__law_names "_law_names" (defScope s__law_names) f cdv A outer s H E) (defBody s__law_names) (t__law_names K E) := by
  exact ((pss_cons (ps_set (i := 2) sc__law_names.nd rfl (by first | exact Or.inl rfl | exact Or.inr rfl) pe_str)
  (pss_cons (ps_asg (pe_tup (pa_cons (pe_ix (ix_U (hu1 hr)) (pe_lst (pa_cons pe_int (pa_cons pe_int (pa_cons pe_int (pa_cons pe_int (pa_cons pe_int pa_nil)))))) (pe_f f__law_draw (hr.mono (by decide)) (fun σ => passAt (takes_of rfl rfl rfl rfl) σ) (pa_cons (pv 0) (pa_cons pe_int pa_nil))) (fun _ _ => rfl)) (pa_cons (pe_f f__law_draw (hr.mono (by decide)) (fun σ => passAt (takes_of rfl rfl rfl rfl) σ) (pa_cons (pv 0) (pa_cons pe_int pa_nil))) pa_nil))) (pg_tup rfl (pgs_cons (pg_name (i := 3) sc__law_names.nd rfl (by first | exact Or.inl rfl | exact Or.inr rfl)) (pgs_cons (pg_name (i := 4) sc__law_names.nd rfl (by first | exact Or.inl rfl | exact Or.inr rfl)) pgs_nil))))
  (pss_cons (ps_set (i := 5) sc__law_names.nd rfl (by first | exact Or.inl rfl | exact Or.inr rfl) pe_str)
  (pss_cons (ps_for (passes_of rfl) rfl (pi_range1 rfl z_range (pa_cons (pv 3) pa_nil)) (pg_name (i := 6) sc__law_names.nd rfl (by first | exact Or.inl rfl | exact Or.inr rfl))
    (pss_one (ps_set (i := 5) sc__law_names.nd rfl (by first | exact Or.inl rfl | exact Or.inr rfl) (pe_op op_addU (pv 5) (pe_ix (ix_U (hu1 hr)) (pv 2) (pe_f f__law_draw (hr.mono (by decide)) (fun σ => passAt (takes_of rfl rfl rfl rfl) σ) (pa_cons (pv 0) (pa_cons pe_int pa_nil))) (fun _ _ => rfl))))))
  (pss_cons (ps_set (i := 7) sc__law_names.nd rfl (by first | exact Or.inl rfl | exact Or.inr rfl) (pe_f f__law_draw (hr.mono (by decide)) (fun σ => passAt (takes_of rfl rfl rfl rfl) σ) (pa_cons (pv 0) (pa_cons (pe_op op_addU (pv 3) pe_int) pa_nil))))
  (pss_cons (ps_setLc (i := 8) (own := [("_law_k", 9)]) (wi := (iRng1 (tCons (tVar 1) tNil))) (g := (gName 9)) (tt := tYes) (te := (tOp (rAddU K) (tOp (rAddU K) (tSl (rSlU K) (tVar 5) tNoPart (tPart (tVar 7))) (tOp (rIxU K) (tVar 2) (tOp rModU (tOp (rAddU K) (tVar 4) (tOp (rMulU K) (tC (.int 3)) (tVar 9))) (tC (.int 26))))) (tSl (rSlU K) (tVar 5) (tPart (tVar 7)) tNoPart))) rfl sc__law_names.nd rfl rfl (sw_true rfl rfl rfl (by decide +kernel)) (pi_range1 rfl z_range (pa_cons (pv 1) pa_nil)) (blkOk_by (own := [("_law_k", 9)]) (N := N__law_names) (sc := defScope s__law_names) (by decide +kernel)) (fun _ _ _ _ _ => (pg_name (i := 9) sc__law_names.nd rfl (by first | exact Or.inl rfl | exact Or.inr rfl))) (fun _ _ _ _ _ => pts_nil) (fun _ _ _ _ _ => (pe_op op_addU (pe_op op_addU (pe_slice sl_U (pv 5) po_none (po_some (pv 7))) (pe_ix (ix_U (hu1 hr)) (pv 2) (pe_op op_modU (pe_op op_addU (pv 4) (pe_op op_mulU pe_int (pv 9))) pe_int) (fun _ _ => rfl))) (pe_slice sl_U (pv 5) (po_some (pv 7)) po_none))))
  (pss_cons (ps_if (pt_truth (pe_callB (cr_any rfl) rfl z_any (by decide +kernel) (pa_cons (pe_lc (own := [("_law_name", 10)]) (wi := (iList K (tVar 8))) (g := (gName 10)) (tt := tYes) (te := (tOp (rInU K) (tVar 10) (tTup (tCons (tC (.str "or")) (tCons (tC (.str "of")) (tCons (tC (.str "to")) (tCons (tC (.str "by")) (tCons (tC (.str "as")) (tCons (tC (.str "try")) (tCons (tC (.str "def")) (tCons (tC (.str "any")) tNil))))))))))) rfl sc__law_names.nd (pi_list (pv 8)) (blkOk_by (own := [("_law_name", 10)]) (N := N__law_names) (sc := defScope s__law_names) (by decide +kernel)) (fun _ _ _ _ _ => (pg_name (i := 10) sc__law_names.nd rfl (by first | exact Or.inl rfl | exact Or.inr rfl))) (fun _ _ _ _ _ => pts_nil) (fun _ _ _ _ _ => (pe_cmpR (op_inU (hu65 hr)) (pv 10) (pe_tup (pa_cons pe_str (pa_cons pe_str (pa_cons pe_str (pa_cons pe_str (pa_cons pe_str (pa_cons pe_str (pa_cons pe_str (pa_cons pe_str pa_nil))))))))) rfl))) pa_nil)) (by intro _; rfl)) (pss_one (ps_setLc (i := 8) (own := [("_law_name", 10)]) (wi := (iList K (tVar 8))) (g := (gName 10)) (tt := tYes) (te := (tOp (rAddU K) (tVar 10) (tC (.str "q")))) rfl sc__law_names.nd rfl rfl (sw_true rfl rfl rfl (by decide +kernel)) (pi_list (pv 8)) (blkOk_by (own := [("_law_name", 10)]) (N := N__law_names) (sc := defScope s__law_names) (by decide +kernel)) (fun _ _ _ _ _ => (pg_name (i := 10) sc__law_names.nd rfl (by first | exact Or.inl rfl | exact Or.inr rfl))) (fun _ _ _ _ _ => pts_nil) (fun _ _ _ _ _ => (pe_op op_addU (pv 10) pe_str)))) pss_nil)
  (pss_one (ps_ret (pv 8)))))))))))
/-! ### _law_is_name -/
abbrev s__law_is_name : Stmt := topS 63
abbrev N__law_is_name : List Str := ["_law_thing", "_law_sign"]
abbrev P__law_is_name : List Str := ["_law_thing"]
theorem sc__law_is_name : FnScope N__law_is_name P__law_is_name (defScope s__law_is_name) := ⟨rfl, rfl, rfl, by decide +kernel, rfl, by decide +kernel, by decide +kernel⟩
def t__law_is_name (K : PySem.W.Frag) (E : XK) : TS :=
  (tSeq (tIfS (tOr (tNot (tTru K (tCB (rIsi K) (tCons (tVar 0) (tCons (tC (.ty "str")) tNil))))) (tNot (tTest (tChain rLeU rLeU (tC (.int 1)) (tCB (rLenU K) (tCons (tVar 0) tNil)) (tC (.int 8)))))) (tRet (tC (.bl false))) tNext)
  (tRet (tCB (rAll K) (tCons (tLc (iStr (tVar 0)) (gName 1) tYes (tOp (rInU K) (tVar 1) (tC (.str "abcdefghijklmnopqrstuvwxyz"))) [1]) tNil))))
theorem d__law_is_name (z_str : mg "str" = none) (z_isinstance : mg "isinstance" = none) (z_len : mg "len" = none) (z_all : mg "all" = none) {cdv : Value} {A : Around} {outer : List Env} {s : Shared} {H : Hp} {E : XK} (hr : Room 0 (A.deeper (envOfC "_law_is_name" (defScope s__law_is_name) s.heap.objs.size f cdv))) :
    PSs (cxOf (L2.CX P w) P w K mg base N__law_is_name "_law_is_name" (defScope s__law_is_name) f cdv A outer s H E) (defBody s__law_is_name) (t__law_is_name K E) := by
  exact ((pss_cons (ps_if (PW.pt (pw_or (pt_not (pt_truth (pe_callB call_isi rfl z_isinstance (by decide +kernel) (pa_cons (pv 0) (pa_cons (pe_bltn (v := .ty "str") (u := .type "str") rfl z_str (by decide +kernel) rfl) pa_nil))) (by intro _; rfl))) (pw_or1 (pt_not (pt_chain op_leU op_leU pe_int (pe_callB call_lenU rfl z_len PySem.boot_len (pa_cons (pv 0) pa_nil)) pe_int))))) (pss_one (ps_ret pe_bl)) pss_nil)
  (pss_one (ps_ret (pe_callB (cr_all rfl) rfl z_all (by decide +kernel) (pa_cons (pe_lc (own := [("_law_sign", 1)]) (wi := (iStr (tVar 0))) (g := (gName 1)) (tt := tYes) (te := (tOp (rInU K) (tVar 1) (tC (.str "abcdefghijklmnopqrstuvwxyz")))) rfl sc__law_is_name.nd (pi_str (pv 0)) (blkOk_by (own := [("_law_sign", 1)]) (N := N__law_is_name) (sc := defScope s__law_is_name) (by decide +kernel)) (fun _ _ _ _ _ => (pg_name (i := 1) sc__law_is_name.nd rfl (by first | exact Or.inl rfl | exact Or.inr rfl))) (fun _ _ _ _ _ => pts_nil) (fun _ _ _ _ _ => (pe_cmpR (op_inU (hu65 hr)) (pv 1) pe_str rfl))) pa_nil))))))
/-! ### _law_up -/
abbrev s__law_up : Stmt := topS 64
abbrev N__law_up : List Str := ["_law_above", "_law_kind", "_law_found", "_law_one"]
abbrev P__law_up : List Str := ["_law_above", "_law_kind"]
theorem sc__law_up : FnScope N__law_up P__law_up (defScope s__law_up) := ⟨rfl, rfl, rfl, by decide +kernel, rfl, by decide +kernel, by decide +kernel⟩
def t__law_up (K : PySem.W.Frag) (E : XK) : TS :=
  (tSeq (tPar 2 3 (tCons (tLst tNil) (tCons (tVar 1) tNil)))
  (tSeq (tWhile (tAnd (tTest (tOp rIsNotU (tVar 3) (tC .non))) (tTest (tOp (rNotInU K) (tVar 3) (tVar 2)))) (tSeq (tDrop (tBM K "list" rAppend (tVar 2) (tCons (tVar 3) tNil)))
  (tAsg (tGet (tVar 0) (tVar 3)) (gName 3))))
  (tRet (tTup (tCons (tVar 2) (tCons (tOp rIsNotU (tVar 3) (tC .non)) tNil))))))
theorem d__law_up {cdv : Value} {A : Around} {outer : List Env} {s : Shared} {H : Hp} {E : XK} (hr : Room 0 (A.deeper (envOfC "_law_up" (defScope s__law_up) s.heap.objs.size f cdv))) :
    PSs (cxOf (L2.CX P w) P w K mg base N__law_up "_law_up" (defScope s__law_up) f cdv A outer s H E) (defBody s__law_up) (t__law_up K E) := by
  exact ((pss_cons (ps_par rfl sc__law_up.nd (i := 2) (j := 3) rfl rfl (by decide) rfl rfl (pa_cons (pe_lst pa_nil) (pa_cons (pv 1) pa_nil)) (by rfl))
  (pss_cons (ps_while (passes_of rfl) (PW.pt (pw_and (pt_cmpR op_isNotU (pv 3) pe_non (nomark _)) (pw_and1 (pt_cmpR (op_notInU (hu65 hr)) (pv 3) (pv 2) rfl)))) (pss_cons (ps_expr (pe_bm PySem.F.plainAttrs_list PySem.F.slot_list_append PySem.F.type_list_append mt_append (pv 2) (pa_cons (pv 3) pa_nil)))
  (pss_one (ps_set (i := 3) sc__law_up.nd rfl (by first | exact Or.inl rfl | exact Or.inr rfl) (pe_get (hu64 hr) (pv 0) (pv 3))))))
  (pss_one (ps_ret (pe_tup (pa_cons (pv 2) (pa_cons (pe_cmpR op_isNotU (pv 3) pe_non (nomark _)) pa_nil))))))))
/-! ### _law_due -/
abbrev s__law_due : Stmt := topS 65
abbrev N__law_due : List Str := ["_law_above", "_law_wrong", "_law_kind", "_law_back"]
abbrev P__law_due : List Str := ["_law_above"]
theorem sc__law_due : FnScope N__law_due P__law_due (defScope s__law_due) := ⟨rfl, rfl, rfl, by decide +kernel, rfl, by decide +kernel, by decide +kernel⟩
def t__law_due (K : PySem.W.Frag) (E : XK) : TS :=
  (tSeq (tAsg (tLc (iList K (tCB (rSortedU K) (tCons (tVar 0) tNil))) (gName 2) (tOr (tNot (tTru K (tCallS (sp_is_name) (fun _ => E0) (tCons (tVar 2) tNil)))) (tNot (tTru K (tCallS (sp_right) (fun _ => E0) (tCons (tOp (rIxU K) (tVar 0) (tVar 2)) tNil))))) (tVar 2) [2]) (gName 1))
  (tSeq (tAsg (tLc (iList K (tCB (rSortedU K) (tCons (tVar 0) tNil))) (gName 2) (tTru K (tOp (rIxU K) (tCallS (sp_up) (fun _ => E0) (tCons (tVar 0) (tCons (tVar 2) tNil))) (tC (.int 1)))) (tVar 2) [2]) (gName 3))
  (tRet (tIf (tTest (tOp (rNeU K) (tVar 1) (tLst tNil))) (tOp (rIxU K) (tOp (rAddU K) (tVar 1) (tLst (tCons (tC .non) tNil))) (tC (.int 0))) (tOp (rIxU K) (tOp (rAddU K) (tVar 3) (tLst (tCons (tC .non) tNil))) (tC (.int 0)))))))
theorem d__law_due (z_sorted : mg "sorted" = none) (f__law_is_name : Gf P w K mg base 1 "_law_is_name" (sp_is_name)) (f__law_value_right : Gf P w K mg base 2 "_law_value_right" (sp_right)) (f__law_up : Gf P w K mg base 1 "_law_up" (sp_up)) {cdv : Value} {A : Around} {outer : List Env} {s : Shared} {H : Hp} {E : XK} (hr : Room 2 (A.deeper (envOfC "_law_due" (defScope s__law_due) s.heap.objs.size f cdv))) :
    PSs (cxOf (L2.CX P w) P w K mg base N__law_due "_law_due" (defScope s__law_due) f cdv A outer s H E) (defBody s__law_due) (t__law_due K E) := by
  exact ((pss_cons (ps_setLc (i := 1) (own := [("_law_kind", 2)]) (wi := (iList K (tCB (rSortedU K) (tCons (tVar 0) tNil)))) (g := (gName 2)) (tt := (tOr (tNot (tTru K (tCallS (sp_is_name) (fun _ => E0) (tCons (tVar 2) tNil)))) (tNot (tTru K (tCallS (sp_right) (fun _ => E0) (tCons (tOp (rIxU K) (tVar 0) (tVar 2)) tNil)))))) (te := (tVar 2)) rfl sc__law_due.nd rfl rfl (sw_true rfl rfl rfl (by decide +kernel)) (pi_list (pe_callB (call_sortedU rfl) rfl z_sorted (by decide +kernel) (pa_cons (pv 0) pa_nil))) (blkOk_by (own := [("_law_kind", 2)]) (N := N__law_due) (sc := defScope s__law_due) (by decide +kernel)) (fun _ _ _ _ _ => (pg_name (i := 2) sc__law_due.nd rfl (by first | exact Or.inl rfl | exact Or.inr rfl))) (fun _ _ _ _ _ => (pts_one (PW.pt (pw_or (pt_not (pt_truth (pe_f f__law_is_name (hr.mono (by decide)) at0 (pa_cons (pv 2) pa_nil)) (by intro _; rfl))) (pw_or1 (pt_not (pt_truth (pe_f f__law_value_right (hr.mono (by decide)) at0 (pa_cons (pe_ix (ix_U (hu1 hr)) (pv 0) (pv 2) (fun _ _ => rfl)) pa_nil)) (by intro _; rfl)))))))) (fun _ _ _ _ _ => (pv 2)))
  (pss_cons (ps_setLc (i := 3) (own := [("_law_kind", 2)]) (wi := (iList K (tCB (rSortedU K) (tCons (tVar 0) tNil)))) (g := (gName 2)) (tt := (tTru K (tOp (rIxU K) (tCallS (sp_up) (fun _ => E0) (tCons (tVar 0) (tCons (tVar 2) tNil))) (tC (.int 1))))) (te := (tVar 2)) rfl sc__law_due.nd rfl rfl (sw_true rfl rfl rfl (by decide +kernel)) (pi_list (pe_callB (call_sortedU rfl) rfl z_sorted (by decide +kernel) (pa_cons (pv 0) pa_nil))) (blkOk_by (own := [("_law_kind", 2)]) (N := N__law_due) (sc := defScope s__law_due) (by decide +kernel)) (fun _ _ _ _ _ => (pg_name (i := 2) sc__law_due.nd rfl (by first | exact Or.inl rfl | exact Or.inr rfl))) (fun _ _ _ _ _ => (pts_one (pt_truth (pe_ix (ix_U (hu1 hr)) (pe_f f__law_up (hr.mono (by decide)) at0 (pa_cons (pv 0) (pa_cons (pv 2) pa_nil))) pe_int (fun _ _ => rfl)) (by intro _; rfl)))) (fun _ _ _ _ _ => (pv 2)))
  (pss_one (ps_ret (pe_ifExp (pt_cmpR (op_neU (hu64 hr)) (pv 1) (pe_lst pa_nil) (nomark _)) (pe_ix (ix_U (hu1 hr)) (pe_op op_addU (pv 1) (pe_lst (pa_cons pe_non pa_nil))) pe_int (fun _ _ => rfl)) (pe_ix (ix_U (hu1 hr)) (pe_op op_addU (pv 3) (pe_lst (pa_cons pe_non pa_nil))) pe_int (fun _ _ => rfl))))))))
/-! ### _law_value_right -/
abbrev s__law_value_right : Stmt := topS 66
abbrev N__law_value_right : List Str := ["_law_thing"]
abbrev P__law_value_right : List Str := ["_law_thing"]
theorem sc__law_value_right : FnScope N__law_value_right P__law_value_right (defScope s__law_value_right) := ⟨rfl, rfl, rfl, by decide +kernel, rfl, by decide +kernel, by decide +kernel⟩
def t__law_value_right (K : PySem.W.Frag) (E : XK) : TS :=
  (tRet (tOrT K (tOp rIsU (tVar 0) (tC .non)) (tCallS (sp_is_name) (WE (wE E)) (tCons (tVar 0) tNil))))
theorem d__law_value_right (f__law_is_name : Gf P w K mg base 1 "_law_is_name" (sp_is_name)) {cdv : Value} {A : Around} {outer : List Env} {s : Shared} {H : Hp} {E : XK} (hr : Room 1 (A.deeper (envOfC "_law_value_right" (defScope s__law_value_right) s.heap.objs.size f cdv))) :
    PSs (cxOf (L2.CX P w) P w K mg base N__law_value_right "_law_value_right" (defScope s__law_value_right) f cdv A outer s H E) (defBody s__law_value_right) (t__law_value_right K E) := by
  exact ((pss_one (ps_ret (pe_orT (pe_cmpR op_isU (pv 0) pe_non (nomark _)) (pe_one (pe_f f__law_is_name (hr.mono (by decide)) (fun σ => passAt (takes_of rfl rfl rfl rfl) σ) (pa_cons (pv 0) pa_nil)))))))
/-! ### _law_refused -/
abbrev s__law_refused : Stmt := topS 67
abbrev N__law_refused : List Str := ["_law_above", "e"]
abbrev P__law_refused : List Str := ["_law_above"]
theorem sc__law_refused : FnScope N__law_refused P__law_refused (defScope s__law_refused) := ⟨rfl, rfl, rfl, by decide +kernel, rfl, by decide +kernel, by decide +kernel⟩
def t__law_refused (K : PySem.W.Frag) (E : XK) : TS :=
  (tSeq (tTryAs K (.ref (ga K "BadKinds")) 1 (fun W => (tDrop (tMakeS (ga K "Program") (sp_Program K) (WE W) (tCons tDNewK (tCons (tVar 0) tNil))))) (fun a cls d => (tRet (tIf (tTru K (tCB (rIsX K a cls d) (tCons (tVar 1) (tCons (tC (.ty "ValueError")) tNil)))) (tXf a cls d (ga K "BadKinds") "kind" (tVar 1)) (tC (.str "other"))))) (wE E))
  (tRet (tC .non)))
theorem d__law_refused (m_BadKinds : mg "BadKinds" = some (.ref (ga K "BadKinds"))) (k_Program2 : Gk P w K mg base 6 (ga K "Program") (sp_Program K)) (m_Program : mg "Program" = some (.ref (ga K "Program"))) (z_ValueError : mg "ValueError" = none) (z_isinstance : mg "isinstance" = none) (xf_BadKinds : XfC K (ga K "BadKinds")) (no_BadKinds_kind : PySem.W.findIn K (.ref (ga K "BadKinds")) "kind" = some none) {cdv : Value} {A : Around} {outer : List Env} {s : Shared} {H : Hp} {E : XK} (hr : Room 7 (A.deeper (envOfC "_law_refused" (defScope s__law_refused) s.heap.objs.size f cdv))) :
    PSs (cxOf (L2.CX P w) P w K mg base N__law_refused "_law_refused" (defScope s__law_refused) f cdv A outer s H E) (defBody s__law_refused) (t__law_refused K E) := by
  exact ((pss_cons (ps_try_as (i := 1) (tb := fun W => (tDrop (tMakeS (ga K "Program") (sp_Program K) (WE W) (tCons tDNewK (tCons (tVar 0) tNil))))) (ts := fun a cls d => (tRet (tIf (tTru K (tCB (rIsX K a cls d) (tCons (tVar 1) (tCons (tC (.ty "ValueError")) tNil)))) (tXf a cls d (ga K "BadKinds") "kind" (tVar 1)) (tC (.str "other"))))) (Wout := (wE E)) rfl rfl sc__law_refused.nd rfl rfl ⟨rfl, by decide, Or.inl m_BadKinds⟩ (takes_of rfl rfl rfl rfl) (fun W pn xe tk po => (pss_one (ps_expr (pe_k k_Program2 (hr.mono (by decide)) m_Program (fun σ => passAt tk σ) (pa_cons pe_dnewK (pa_cons (pv 0) pa_nil)))))) (fun a oe cls d pn hz hf => (pss_one (ps_ret (pe_ifExp (pt_truth (pe_callB (call_isX hz hf) rfl z_isinstance (by decide +kernel) (pa_cons (pv 1) (pa_cons (pe_bltn (v := .ty "ValueError") (u := .type "ValueError") rfl z_ValueError (by decide +kernel) rfl) pa_nil))) (by intro _; rfl)) (pe_xf xf_BadKinds no_BadKinds_kind hz hf (pv 1)) pe_str)))))
  (pss_one (ps_ret pe_non))))
/-! ### law -/
abbrev s_law : Stmt := topS 68
abbrev N_law : List Str := ["_law_script", "_law_place", "_law_source_here", "_law_names_here", "_law_turn", "_law_above", "_law_at", "_law_others", "_law_key", "_law_due_here", "_law_program", "_law_kind", "_law_other", "_law_some"]
abbrev P_law : List Str := ["_law_script"]
theorem sc_law : FnScope N_law P_law (defScope s_law) := ⟨rfl, rfl, rfl, by decide +kernel, rfl, by decide +kernel, by decide +kernel⟩
def t_law (K : PySem.W.Frag) (E : XK) : TS :=
  (tSeq (tFor (iRng1 (tCons (tCB rMax2 (tCons (tC (.int 1)) (tCons (tCB rMin2 (tCons (tC (.int 6)) (tCons (tCB (rLenU K) (tCons (tVar 0) tNil)) tNil))) tNil))) tNil)) (gName 1)
    (tSeq (tAsg (tCallS (sp_source K) (WE (wE E)) (tCons (tVar 0) (tCons (tVar 1) tNil))) (gName 2))
  (tSeq (tAsg (tCallS (sp_names) (WE (wE E)) (tCons (tVar 2) (tCons (tC (.int 6)) tNil))) (gName 3))
  (tFor (iRng1 (tCons (tC (.int 8)) tNil)) (gName 4)
    (tSeq (tAsg tDNewK (gName 5))
  (tSeq (tFor (iRng1 (tCons (tCallS (sp_draw) (WE (wE E)) (tCons (tVar 2) (tCons (tC (.int 6)) tNil))) tNil)) (gName 6)
    (tSeq (tAsg (tOp (rAddU K) (tOp (rAddU K) (tLst (tCons (tC .non) (tCons (tC .non) (tCons (tOp (rIxU K) (tVar 3) (tC (.int 5))) tNil)))) (tOp (rMulU K) (tSl (rSlU K) (tVar 3) tNoPart (tPart (tVar 6))) (tC (.int 3)))) (tSl (rSlU K) (tVar 3) tNoPart (tPart (tC (.int 5))))) (gName 7))
  (tAsg (tOp (rIxU K) (tVar 7) (tCallS (sp_draw) (WE (wE E)) (tCons (tVar 2) (tCons (tCB (rLenU K) (tCons (tVar 7) tNil)) tNil)))) (gSub (tVar 5) (tOp (rIxU K) (tVar 3) (tVar 6)) rSetU))))
  (tSeq (tIfS (tTest (tOp (rEqU K) (tCallS (sp_draw) (WE (wE E)) (tCons (tVar 2) (tCons (tC (.int 4)) tNil))) (tC (.int 0)))) (tAsg (tC .non) (gSub (tVar 5) (tOp (rIxU K) (tLst (tCons (tC (.str "A")) (tCons (tC (.str "")) (tCons (tC (.str "abcdefghi")) (tCons (tC (.str "a b")) tNil))))) (tCallS (sp_draw) (WE (wE E)) (tCons (tVar 2) (tCons (tC (.int 4)) tNil)))) rSetU)) tNext)
  (tSeq (tIfS (tAnd (tTest (tOp (rNeU K) (tVar 5) tDNewK)) (tTest (tOp (rEqU K) (tCallS (sp_draw) (WE (wE E)) (tCons (tVar 2) (tCons (tC (.int 4)) tNil))) (tC (.int 0))))) (tSeq (tAsg (tOp (rIxU K) (tCB (rSortedU K) (tCons (tVar 5) tNil)) (tCallS (sp_draw) (WE (wE E)) (tCons (tVar 2) (tCons (tCB (rLenU K) (tCons (tVar 5) tNil)) tNil)))) (gName 8))
  (tAsg (tOp (rIxU K) (tLst (tCons (tC (.str "A")) (tCons (tC (.str "")) (tCons (tC (.int 7)) (tCons (tTup (tCons (tC (.str "a")) tNil)) (tCons (tC (.bl true)) tNil)))))) (tCallS (sp_draw) (WE (wE E)) (tCons (tVar 2) (tCons (tC (.int 5)) tNil)))) (gSub (tVar 5) (tVar 8) rSetU))) tNext)
  (tSeq (tAsg (tCallS (sp_due) (WE (wE E)) (tCons (tVar 5) tNil)) (gName 9))
  (tSeq (tIfS (tTest (tOp (rNeU K) (tCallS (sp_refused) (WE (wE E)) (tCons (tVar 5) tNil)) (tVar 9))) (tRet (tC (.bl false))) tNext)
  (tSeq (tAsg (tIf (tTest (tOp rIsU (tVar 9) (tC .non))) (tMakeS (ga K "Program") (sp_Program K) (WE (wE E)) (tCons tDNewK (tCons (tVar 5) tNil))) (tMakeS (ga K "Program") (sp_Program1 K) (WE (wE E)) (tCons tDNewK tNil))) (gName 10))
  (tFor (iList K (tVar 3)) (gName 11)
    (tFor (iList K (tVar 3)) (gName 12)
    (tSeq (tAsg (tIf (tTest (tOp rIsU (tVar 9) (tC .non))) (tOp (rIxU K) (tCallS (sp_up) (WE (wE E)) (tCons (tVar 5) (tCons (tVar 11) tNil))) (tC (.int 0))) (tLst (tCons (tVar 11) tNil))) (gName 13))
  (tIfS (tTest (tOp (rNeU K) (tMetZ (ga K "Program") "is_kind" (sp_is_kind K) (WE (wE E)) (tVar 10) (tCons (tVar 11) (tCons (tVar 12) tNil))) (tOp (rInU K) (tVar 12) (tVar 13)))) (tRet (tC (.bl false))) tNext)))))))))))))))
  (tRet (tC (.bl true))))
theorem d_law (z_len : mg "len" = none) (z_min : mg "min" = none) (z_max : mg "max" = none) (z_range : mg "range" = none) (f__law_source : Gf P w K mg base 1 "_law_source" (sp_source K)) (f__law_names : Gf P w K mg base 2 "_law_names" (sp_names)) (f__law_draw : Gf P w K mg base 1 "_law_draw" (sp_draw)) (z_sorted : mg "sorted" = none) (f__law_due : Gf P w K mg base 3 "_law_due" (sp_due)) (f__law_refused : Gf P w K mg base 8 "_law_refused" (sp_refused)) (k_Program2 : Gk P w K mg base 6 (ga K "Program") (sp_Program K)) (m_Program : mg "Program" = some (.ref (ga K "Program"))) (k_Program1 : Gk P w K mg base 6 (ga K "Program") (sp_Program1 K)) (f__law_up : Gf P w K mg base 1 "_law_up" (sp_up)) (m_Program_is_kind : Gm P w K mg base 1 (ga K "Program") "is_kind" (sp_is_kind K)) (cl_Program : Cls K (ga K "Program")) {cdv : Value} {A : Around} {outer : List Env} {s : Shared} {H : Hp} {E : XK} (hr : Room 8 (A.deeper (envOfC "law" (defScope s_law) s.heap.objs.size f cdv))) :
    PSs (cxOf (L2.CX P w) P w K mg base N_law "law" (defScope s_law) f cdv A outer s H E) (defBody s_law) (t_law K E) := by
  exact ((pss_cons (ps_for (passes_of rfl) rfl (pi_range1 rfl z_range (pa_cons (pe_callB (call_max2 rfl) rfl z_max (by decide +kernel) (pa_cons pe_int (pa_cons (pe_callB (call_min2 rfl) rfl z_min (by decide +kernel) (pa_cons pe_int (pa_cons (pe_callB call_lenU rfl z_len PySem.boot_len (pa_cons (pv 0) pa_nil)) pa_nil))) pa_nil))) pa_nil)) (pg_name (i := 1) sc_law.nd rfl (by first | exact Or.inl rfl | exact Or.inr rfl))
    (pss_cons (ps_set (i := 2) sc_law.nd rfl (by first | exact Or.inl rfl | exact Or.inr rfl) (pe_f f__law_source (hr.mono (by decide)) (fun σ => passAt (takes_of rfl rfl rfl rfl) σ) (pa_cons (pv 0) (pa_cons (pv 1) pa_nil))))
  (pss_cons (ps_set (i := 3) sc_law.nd rfl (by first | exact Or.inl rfl | exact Or.inr rfl) (pe_f f__law_names (hr.mono (by decide)) (fun σ => passAt (takes_of rfl rfl rfl rfl) σ) (pa_cons (pv 2) (pa_cons pe_int pa_nil))))
  (pss_one (ps_for (passes_of rfl) rfl (pi_range1 rfl z_range (pa_cons pe_int pa_nil)) (pg_name (i := 4) sc_law.nd rfl (by first | exact Or.inl rfl | exact Or.inr rfl))
    (pss_cons (ps_set (i := 5) sc_law.nd rfl (by first | exact Or.inl rfl | exact Or.inr rfl) pe_dnewK)
  (pss_cons (ps_for (passes_of rfl) rfl (pi_range1 rfl z_range (pa_cons (pe_f f__law_draw (hr.mono (by decide)) (fun σ => passAt (takes_of rfl rfl rfl rfl) σ) (pa_cons (pv 2) (pa_cons pe_int pa_nil))) pa_nil)) (pg_name (i := 6) sc_law.nd rfl (by first | exact Or.inl rfl | exact Or.inr rfl))
    (pss_cons (ps_set (i := 7) sc_law.nd rfl (by first | exact Or.inl rfl | exact Or.inr rfl) (pe_op op_addU (pe_op op_addU (pe_lst (pa_cons pe_non (pa_cons pe_non (pa_cons (pe_ix (ix_U (hu1 hr)) (pv 3) pe_int (fun _ _ => rfl)) pa_nil)))) (pe_op op_mulU (pe_slice sl_U (pv 3) po_none (po_some (pv 6))) pe_int)) (pe_slice sl_U (pv 3) po_none (po_some pe_int))))
  (pss_one (ps_asg (pe_ix (ix_U (hu1 hr)) (pv 7) (pe_f f__law_draw (hr.mono (by decide)) (fun σ => passAt (takes_of rfl rfl rfl rfl) σ) (pa_cons (pv 2) (pa_cons (pe_callB call_lenU rfl z_len PySem.boot_len (pa_cons (pv 7) pa_nil)) pa_nil))) (fun _ _ => rfl)) (pg_sub (pv 5) (pe_ix (ix_U (hu1 hr)) (pv 3) (pv 6) (fun _ _ => rfl)) (set_U (hu1 hr)))))))
  (pss_cons (ps_if (pt_cmpR (op_eqU (hu64 hr)) (pe_f f__law_draw (hr.mono (by decide)) (fun σ => passAt (takes_of rfl rfl rfl rfl) σ) (pa_cons (pv 2) (pa_cons pe_int pa_nil))) pe_int (nomark _)) (pss_one (ps_asg pe_non (pg_sub (pv 5) (pe_ix (ix_U (hu1 hr)) (pe_lst (pa_cons pe_str (pa_cons pe_str (pa_cons pe_str (pa_cons pe_str pa_nil))))) (pe_f f__law_draw (hr.mono (by decide)) (fun σ => passAt (takes_of rfl rfl rfl rfl) σ) (pa_cons (pv 2) (pa_cons pe_int pa_nil))) (fun _ _ => rfl)) (set_U (hu1 hr))))) pss_nil)
  (pss_cons (ps_if (PW.pt (pw_and (pt_cmpR (op_neU (hu64 hr)) (pv 5) pe_dnewK (nomark _)) (pw_and1 (pt_cmpR (op_eqU (hu64 hr)) (pe_f f__law_draw (hr.mono (by decide)) (fun σ => passAt (takes_of rfl rfl rfl rfl) σ) (pa_cons (pv 2) (pa_cons pe_int pa_nil))) pe_int (nomark _))))) (pss_cons (ps_set (i := 8) sc_law.nd rfl (by first | exact Or.inl rfl | exact Or.inr rfl) (pe_ix (ix_U (hu1 hr)) (pe_callB (call_sortedU rfl) rfl z_sorted (by decide +kernel) (pa_cons (pv 5) pa_nil)) (pe_f f__law_draw (hr.mono (by decide)) (fun σ => passAt (takes_of rfl rfl rfl rfl) σ) (pa_cons (pv 2) (pa_cons (pe_callB call_lenU rfl z_len PySem.boot_len (pa_cons (pv 5) pa_nil)) pa_nil))) (fun _ _ => rfl)))
  (pss_one (ps_asg (pe_ix (ix_U (hu1 hr)) (pe_lst (pa_cons pe_str (pa_cons pe_str (pa_cons pe_int (pa_cons (pe_tup (pa_cons pe_str pa_nil)) (pa_cons pe_bl pa_nil)))))) (pe_f f__law_draw (hr.mono (by decide)) (fun σ => passAt (takes_of rfl rfl rfl rfl) σ) (pa_cons (pv 2) (pa_cons pe_int pa_nil))) (fun _ _ => rfl)) (pg_sub (pv 5) (pv 8) (set_U (hu1 hr)))))) pss_nil)
  (pss_cons (ps_set (i := 9) sc_law.nd rfl (by first | exact Or.inl rfl | exact Or.inr rfl) (pe_f f__law_due (hr.mono (by decide)) (fun σ => passAt (takes_of rfl rfl rfl rfl) σ) (pa_cons (pv 5) pa_nil)))
  (pss_cons (ps_if (pt_cmpR (op_neU (hu64 hr)) (pe_f f__law_refused (hr.mono (by decide)) (fun σ => passAt (takes_of rfl rfl rfl rfl) σ) (pa_cons (pv 5) pa_nil)) (pv 9) (nomark _)) (pss_one (ps_ret pe_bl)) pss_nil)
  (pss_cons (ps_set (i := 10) sc_law.nd rfl (by first | exact Or.inl rfl | exact Or.inr rfl) (pe_ifExp (pt_cmpR op_isU (pv 9) pe_non (nomark _)) (pe_k k_Program2 (hr.mono (by decide)) m_Program (fun σ => passAt (takes_of rfl rfl rfl rfl) σ) (pa_cons pe_dnewK (pa_cons (pv 5) pa_nil))) (pe_k k_Program1 (hr.mono (by decide)) m_Program (fun σ => passAt (takes_of rfl rfl rfl rfl) σ) (pa_cons pe_dnewK pa_nil))))
  (pss_one (ps_for (passes_of rfl) rfl (pi_list (pv 3)) (pg_name (i := 11) sc_law.nd rfl (by first | exact Or.inl rfl | exact Or.inr rfl))
    (pss_one (ps_for (passes_of rfl) rfl (pi_list (pv 3)) (pg_name (i := 12) sc_law.nd rfl (by first | exact Or.inl rfl | exact Or.inr rfl))
    (pss_cons (ps_set (i := 13) sc_law.nd rfl (by first | exact Or.inl rfl | exact Or.inr rfl) (pe_ifExp (pt_cmpR op_isU (pv 9) pe_non (nomark _)) (pe_ix (ix_U (hu1 hr)) (pe_f f__law_up (hr.mono (by decide)) (fun σ => passAt (takes_of rfl rfl rfl rfl) σ) (pa_cons (pv 5) (pa_cons (pv 11) pa_nil))) pe_int (fun _ _ => rfl)) (pe_lst (pa_cons (pv 11) pa_nil))))
  (pss_one (ps_if (pt_cmpR (op_neU (hu64 hr)) (pe_m cl_Program m_Program_is_kind (hr.mono (by decide)) (fun σ => passAt (takes_of rfl rfl rfl rfl) σ) (pv 10) (pa_cons (pv 11) (pa_cons (pv 12) pa_nil))) (pe_cmpR (op_inU (hu65 hr)) (pv 12) (pv 13) rfl) (nomark _)) (pss_one (ps_ret pe_bl)) pss_nil)))))))))))))))))))
  (pss_one (ps_ret pe_bl))))
end
end K63
namespace K63
open PySem PySem.Spec PyProof.Rows L2 Z He
local macro_rules | `(tactic| walk_at "s") => `(tactic| first
  | with_reducible refine w_seq ?_ | with_reducible refine w_asg ?_ | with_reducible refine w_op ?_ | ((with_reducible refine' w_var ?hv ?_); (case hv => exact rfl)) | with_reducible refine w_c ?_ | with_reducible refine w_name ?_
  | with_reducible refine w_cons ?_ | with_reducible refine w_nil ?_ | with_reducible refine w_cb ?_ | with_reducible refine w_call ?_ | with_reducible refine w_if ?_ | with_reducible refine w_test ?_ | with_reducible refine w_tru ?_
  | with_reducible refine w_not ?_ | with_reducible refine w_and ?_ | with_reducible refine w_or ?_ | with_reducible refine w_ret ?_ | with_reducible refine w_next ?_ | with_reducible refine w_drop ?_ | with_reducible refine w_par ?_
  | with_reducible refine w_ifx ?_ | with_reducible refine w_lst ?_ | with_reducible refine w_tup ?_ | with_reducible refine w_meth ?_ | with_reducible refine w_make ?_ | with_reducible refine w_fld ?_ | with_reducible refine w_sfld ?_
  | with_reducible refine w_bm ?_ | with_reducible refine w_get ?_ | with_reducible refine w_slc ?_ | with_reducible refine w_nopart ?_ | with_reducible refine w_part ?_ | with_reducible refine w_chain ?_ | with_reducible refine w_yes ?_
  | with_reducible refine w_newK ?_ | with_reducible refine w_andT ?_ | with_reducible refine w_orT ?_ | with_reducible refine w_set ?_ | with_reducible refine w_un ?_ | with_reducible refine w_for ?_ | with_reducible refine w_lc ?_
  | with_reducible refine w_iL ?_ | with_reducible refine w_iS ?_ | with_reducible refine w_iR1 ?_ | with_reducible refine w_retN ?_ | with_reducible refine w_cont ?_ | with_reducible refine w_break ?_
  | with_reducible refine k_test ?_ | with_reducible refine k_tru ?_ | with_reducible refine k_par ?_ | with_reducible refine k_part ?_
  | with_reducible refine iteT ?_ | with_reducible refine iteF ?_ | with_reducible refine iteNT ?_ | with_reducible refine iteNF ?_
  | with_reducible refine k_addI ?_ | with_reducible refine k_isN ?_ | with_reducible refine k_notN ?_ | with_reducible refine k_lt ?_ | with_reducible refine k_le ?_ | with_reducible refine k_gt ?_ | with_reducible refine k_ge ?_ | with_reducible refine k_sub ?_)
local macro_rules | `(tactic| walk_at "g") => `(tactic| repeat walk_at "s")
theorem isLet_one (c : Nat) : isLet (.str ⟨#[c]⟩) = decide (c ∈ letters.cps.toList) := rfl
theorem pure_is_name {K : PySem.W.Frag} {E : XK} {Q : VK} {H : Hp} {v : V} (hv : Val1 H v) (q : ∀ H', Same H H' → Q (.bl (vName v)) H') : t_is_name K E { nx := fun _ H' => Q .non H', rt := Q } [some v, none] H := by
  unfold t_is_name
  walk_at "g"
  cases hv with
  | str hz =>
    rename_i z
    replace hz := hz.len
    have hz1 : z.length ≤ sizeLine := by rw [sizeLine_eq]; omega
    have ev : vName (.str z) = (decide (1 ≤ (z.length : Int)) && (decide ((z.length : Int) ≤ 8) && (sgns z).all isLet)) := rfl
    rw [ev] at q
    refine k_isiY (.base (.str z)) (by decide +kernel) ?_
    walk_at "g"
    refine k_lenS hz1 ?_
    walk_at "g"
    cases h1 : decide (1 ≤ (z.length : Int)) with
    | false =>
      rw [h1] at q
      walk_at "g"
      exact q H (Same.refl H)
    | true =>
      rw [h1] at q
      walk_at "g"
      cases h2 : decide ((z.length : Int) ≤ 8) with
      | false =>
        rw [h2] at q
        walk_at "g"
        exact q H (Same.refl H)
      | true =>
        rw [h2] at q
        walk_at "g"
        refine k_lcS (z := z) (by rw [sizeLine_eq]; omega) (fun _ => true) (fun x => .bl (isLet x)) (fun x hx => ?_) (fun D H' hD s hl => ?_)
        · obtain ⟨c, _, rfl⟩ := List.mem_map.mp (show x ∈ z.cps.toList.map _ from hx)
          intro H2 s2 R N hR hN
          walk_at "g"
          refine ⟨rfl, ?_⟩
          walk_at "g"
          refine k_inS ?_
          rw [← show letters = Str.ofString "abcdefghijklmnopqrstuvwxyz" from rfl]
          exact hR rfl H2 (Same.refl _)
        · walk_at "g"
          refine k_all (bs := (sgns z).map isLet) (.of (by rw [hl, filterT, List.map_map]; rfl)) ?_
          rw [List.all_map]
          exact q H' s
  | non => exact k_isiN (.base .non) (by decide +kernel) (by walk_at "g"; exact q H (Same.refl H))
  | seven => exact k_isiN (.base (.int 7)) (by decide +kernel) (by walk_at "g"; exact q H (Same.refl H))
  | tru => exact k_isiN (.base (.bl true)) (by decide +kernel) (by walk_at "g"; exact q H (Same.refl H))
  | tup h => exact k_isiN (.base (.tup h)) (by decide +kernel) (by walk_at "g"; exact q H (Same.refl H))
theorem pure__law_is_name {K : PySem.W.Frag} {E : XK} {Q : VK} {H : Hp} {v : V} (hv : Val1 H v) (q : ∀ H', Same H H' → Q (.bl (vName v)) H') : t__law_is_name K E { nx := fun _ H' => Q .non H', rt := Q } [some v, none] H := pure_is_name (E := E) hv q
theorem pure__law_value_right {K : PySem.W.Frag} {E : XK} {Q : VK} {H : Hp} {v : V} (hv : Val1 H v) (q : ∀ H', Same H H' → Q (.bl (vRight v)) H') : t__law_value_right K E { nx := fun _ H' => Q .non H', rt := Q } [some v] H := by
  unfold t__law_value_right
  walk_at "g"
  cases h : decide (v = .non) with
  | true =>
    walk_at "g"
    have e : vRight v = true := by unfold vRight; rw [h]; rfl
    rw [e] at q
    exact q H (Same.refl H)
  | false =>
    walk_at "g"
    refine ⟨v, rfl, hv, fun H' s => ?_⟩
    have e : vRight v = vName v := by unfold vRight; rw [h]; rfl
    rw [e] at q
    exact q H' s
/-! ### data -/
theorem dp_of {K : PySem.W.Frag} {H : Hp} {v : V} (h : Val1 H v) : Dp K H v (dat v) := by
  cases h with
  | non => exact .non
  | str h => exact .str _
  | seven => exact .int _
  | tru => exact .bl _
  | tup h => exact .tup (.of h) (.cons (.str _) .nil)
theorem dpAll_of {K : PySem.W.Frag} {H : Hp} : ∀ {l : List V}, (∀ u ∈ l, Val1 H u) → DpAll K H l (l.map dat)
  | [], _ => .nil
  | _ :: _, h => .cons (dp_of (h _ List.mem_cons_self)) (dpAll_of fun u hu => h u (List.mem_cons_of_mem _ hu))
theorem dat_lay {H : Hp} {v : V} (h : Val1 H v) : (dat v).canLay0 = true ∧ (dat v).depth ≤ 1 := by
  cases h with
  | str h => exact ⟨h.ok, by simp [dat, PyData.depth]⟩
  | tup h => exact ⟨show (PyData.tuple [.str "a"]).canLay0 = true by decide +kernel, show (PyData.tuple [.str "a"]).depth ≤ 1 by decide +kernel⟩
  | _ => simp [dat, PyData.canLay0, PyData.depth]
theorem lay_all {H : Hp} : ∀ l : List V, (∀ u ∈ l, Val1 H u) → PyData.canLayAll0 (l.map dat) = true ∧ PyData.depthAll (l.map dat) ≤ 1
  | [], _ => by simp [PyData.canLayAll0, PyData.depthAll]
  | v :: l, h => by
    obtain ⟨h1, h2⟩ := lay_all l fun u hu => h u (List.mem_cons_of_mem _ hu)
    obtain ⟨h3, h4⟩ := dat_lay (h v List.mem_cons_self)
    refine ⟨?_, ?_⟩
    · rw [List.map_cons, PyData.canLayAll0, h1, h3]; rfl
    · rw [List.map_cons, PyData.depthAll]
      omega
theorem shaped_v {H : Hp} {v : V} (h : Val1 H v) : SeqAt.shaped (dat v) = true := by
  obtain ⟨h1, h2⟩ := dat_lay h
  unfold SeqAt.shaped
  rw [h1, Bool.true_and]
  exact decide_eq_true (by omega)
theorem shaped_l {H : Hp} {l : List V} (h : ∀ u ∈ l, Val1 H u) : SeqAt.shaped (.list (l.map dat)) = true := by
  obtain ⟨h1, h2⟩ := lay_all l h
  unfold SeqAt.shaped
  rw [PyData.canLay0, PyData.depth, h1, Bool.true_and]
  exact decide_eq_true (by omega)
theorem eqv_self {H : Hp} {v : V} (h : Val1 H v) : PyData.eqv (dat v) (dat v) = true := by
  cases h with
  | str h => show (_ == _) = true; simp
  | _ => rfl
theorem mem_snoc (v c : V) (l : List V) : mem v (l ++ [c]) = (mem v l || PyData.eqv (dat c) (dat v)) := by
  unfold mem
  rw [List.map_append, List.any_append]
  simp
/-! ### going up -/
def mu (cs : List V) (seen : List V) : Nat := (cs.filter fun c => !mem c seen).length
theorem mu_le (cs seen : List V) : mu cs seen ≤ cs.length := List.length_filter_le _ _
theorem filter_lt {α : Type} {p p' : α → Bool} : ∀ {l : List α} {c : α}, (∀ x, p' x = true → p x = true) → c ∈ l → p c = true → p' c = false → (l.filter p').length < (l.filter p).length
  | [], _, _, hc, _, _ => absurd hc (by simp)
  | x :: l, c, h, hc, h1, h2 => by
    have le : (l.filter p').length ≤ (l.filter p).length := by
      clear hc h1 h2
      induction l with
      | nil => exact Nat.le_refl _
      | cons y l ih =>
        rw [List.filter_cons, List.filter_cons]
        cases e1 : p' y with
        | true =>
          rw [if_pos rfl, if_pos (h y e1), List.length_cons, List.length_cons]; omega
        | false =>
          rw [if_neg Bool.false_ne_true]
          split
          · rw [List.length_cons]; omega
          · exact ih
    rcases List.mem_cons.mp hc with rfl | hc
    · rw [List.filter_cons, List.filter_cons, h1, h2, if_pos rfl, if_neg Bool.false_ne_true, List.length_cons]; omega
    · have ih := filter_lt (l := l) h hc h1 h2
      rw [List.filter_cons, List.filter_cons]
      cases e1 : p' x with
      | true => rw [if_pos rfl, if_pos (h x e1), List.length_cons, List.length_cons]; omega
      | false =>
        rw [if_neg Bool.false_ne_true]
        split
        · rw [List.length_cons]; omega
        · exact ih
theorem mu_lt {H : Hp} {cs seen : List V} {c : V} (hc : c ∈ cs) (hv : Val1 H c) (hm : mem c seen = false) : mu cs (seen ++ [c]) < mu cs seen := by
  refine filter_lt (c := c) (fun x hx => ?_) hc (by rw [hm]; rfl) (by rw [mem_snoc, eqv_self hv]; simp)
  rw [mem_snoc] at hx
  cases e : mem x seen with
  | false => rfl
  | true => rw [e] at hx; simp at hx
theorem valV_mem {kvs : Kvs} {k : Key} {v : V} (h : valV kvs k = some v) : ∃ p ∈ kvs, p.2 = v := by
  unfold valV at h
  obtain ⟨p, hp, e⟩ := Option.map_eq_some_iff.mp h
  exact ⟨p, List.mem_of_find?_eq_some hp, e⟩
theorem nxt_cases (kvs : Kvs) (v : V) : nxt kvs v = .non ∨ ∃ p ∈ kvs, p.2 = nxt kvs v := by
  cases v with
  | str z =>
    show (valV kvs (.inr z : Key)).getD .non = .non ∨ ∃ p ∈ kvs, p.2 = (valV kvs (.inr z : Key)).getD .non
    cases e : valV kvs (.inr z : Key) with
    | none => exact .inl rfl
    | some u =>
      obtain ⟨p, hp, e2⟩ := valV_mem e
      exact .inr ⟨p, hp, e2⟩
  | _ => exact .inl rfl
theorem key_str {H : Hp} {kvs : Kvs} {ks : List Str} (A : Ab H kvs ks) : ∀ p ∈ kvs, ∃ z ∈ ks, p.1 = Sum.inr z := fun p hp => by
  have h : p.1 ∈ ks.map Sum.inr := A.keys ▸ List.mem_map.mpr ⟨p, hp, rfl⟩
  obtain ⟨z, hz, e⟩ := List.mem_map.mp h
  exact ⟨z, hz, e.symm⟩
theorem kvs_len {H : Hp} {kvs : Kvs} {ks : List Str} (A : Ab H kvs ks) : kvs.length ≤ 20 := by
  have h := congrArg List.length A.keys
  rw [List.length_map, List.length_map] at h
  have := A.len
  omega
theorem no_int {H : Hp} {kvs : Kvs} {ks : List Str} (A : Ab H kvs ks) (i : Int) : valV kvs (.inl i : Key) = none := by
  unfold valV
  rw [Option.map_eq_none_iff, List.find?_eq_none]
  intro p hp
  obtain ⟨z, _, e⟩ := key_str A p hp
  rw [e]
  simp
/-- d.get(v) of such a dict -/
theorem get_ab {H : Hp} {a : Addr} {kvs : Kvs} {ks : List Str} {v : V} {Q : Option V → Prop} (A : Ab H kvs ks) (ha : H a = some (.dK kvs)) (hv : Val1 H v) (hn : v ≠ .non) (q : ∀ o : Option V, o.getD .non = nxt kvs v → Q o) : ∃ o, DGetZ H a v o ∧ Q o := by
  have odd : OddKey H v → ∃ o, DGetZ H a v o ∧ Q o := fun hk => ⟨none, .inr ⟨⟨kvs, .of ha, fun p hp => by
    obtain ⟨z, _, e⟩ := key_str A p hp
    exact ⟨z, e⟩, hk⟩, rfl⟩, q none (by
      have e : nxt kvs v = .non := by
        rcases hk with rfl | ⟨t, z, rfl, _⟩ <;> rfl
      rw [e]; rfl)⟩
  cases hv with
  | non => exact absurd rfl hn
  | str hz => exact ⟨_, .inl (DGet.k (k := Sum.inr _) ha), q _ rfl⟩
  | seven => exact ⟨_, .inl (DGet.k (k := Sum.inl 7) ha), q _ (by rw [no_int A 7]; rfl)⟩
  | tru => exact odd (.inl rfl)
  | tup h => exact odd (.inr ⟨_, _, rfl, h⟩)
theorem nxt_val {H : Hp} {kvs : Kvs} {ks : List Str} (A : Ab H kvs ks) (v : V) : Val1 H (nxt kvs v) := by
  rcases nxt_cases kvs v with e | ⟨p, hp, e⟩
  · rw [e]; exact .non
  · rw [← e]; exact A.val p hp
/-- where a walk upwards stands: m steps are left at most -/
structure Up (H : Hp) (kvs : Kvs) (start : V) (m : Nat) (seen : List V) (one : V) : Prop where
  vals : ∀ u ∈ seen, Val1 H u
  val : Val1 H one
  at_ : one = .non ∨ one ∈ start :: kvs.map (·.2)
  fuel : mu (start :: kvs.map (·.2)) seen < m
  eq : upF kvs m seen one = upK kvs start
  size : seen.length + m ≤ kvs.length + 2
theorem Up.mono {H H' : Hp} {kvs : Kvs} {start one : V} {m : Nat} {seen : List V} (u : Up H kvs start m seen one) (s : Same H H') : Up H' kvs start m seen one :=
  ⟨fun v hv => (u.vals v hv).mono s, u.val.mono s, u.at_, u.fuel, u.eq, u.size⟩
theorem Up.start {H : Hp} {kvs : Kvs} {v : V} (hv : Val1 H v) : Up H kvs v (kvs.length + 2) [] v :=
  ⟨fun u hu => absurd hu (by simp), hv, .inr List.mem_cons_self, by
    have := mu_le (v :: kvs.map (·.2)) []
    rw [List.length_cons, List.length_map] at this
    omega, rfl, by simp⟩
theorem Up.pos {H : Hp} {kvs : Kvs} {start one : V} {m : Nat} {seen : List V} (u : Up H kvs start m seen one) : ∃ n, m = n + 1 := ⟨m - 1, by have := u.fuel; omega⟩
theorem Up.stop {H : Hp} {kvs : Kvs} {start : V} {m : Nat} {seen : List V} (u : Up H kvs start m seen .non) : upK kvs start = (seen, false) := by
  obtain ⟨n, rfl⟩ := u.pos
  rw [← u.eq]
  rfl
theorem Up.back {H : Hp} {kvs : Kvs} {start one : V} {m : Nat} {seen : List V} (u : Up H kvs start m seen one) (h : one ≠ .non) (hm : mem one seen = true) : upK kvs start = (seen, true) := by
  obtain ⟨n, rfl⟩ := u.pos
  rw [← u.eq]
  show (if one = .non then _ else _) = _
  rw [if_neg h, if_pos hm]
theorem Up.next {H : Hp} {kvs : Kvs} {ks : List Str} {start one : V} {m : Nat} {seen : List V} (A : Ab H kvs ks) (u : Up H kvs start (m + 1) seen one) (h : one ≠ .non) (hm : mem one seen = false) : Up H kvs start m (seen ++ [one]) (nxt kvs one) := by
  have hc : one ∈ start :: kvs.map (·.2) := u.at_.resolve_left h
  refine ⟨fun v hv => ?_, nxt_val A one, ?_, ?_, ?_, ?_⟩
  · rcases List.mem_append.mp hv with hv | hv
    · exact u.vals v hv
    · rw [List.mem_singleton.mp hv]; exact u.val
  · rcases nxt_cases kvs one with e | ⟨p, hp, e⟩
    · exact .inl e
    · exact .inr (List.mem_cons_of_mem _ (List.mem_map.mpr ⟨p, hp, e⟩))
  · have := mu_lt hc u.val hm
    have := u.fuel
    omega
  · rw [← u.eq]
    show _ = if one = .non then _ else _
    rw [if_neg h, if_neg (by rw [hm]; exact Bool.false_ne_true)]
  · have := u.size
    rw [List.length_append]
    simp only [List.length_cons, List.length_nil]
    omega
theorem Val1.mut {H : Hp} {v : V} {p : Addr} {xs : List V} {o : HO} (h : Val1 H v) (hl : H p = some (.lst xs)) : Val1 (upd H p o) v := by
  cases h with
  | non => exact .non
  | str h => exact .str h
  | seven => exact .seven
  | tru => exact .tru
  | tup h => exact .tup (up_oth (fun e => by rw [e, hl] at h; cases h) h)
theorem Up.mut {H : Hp} {kvs : Kvs} {start one : V} {m : Nat} {seen : List V} {p : Addr} {xs : List V} {o : HO} (u : Up H kvs start m seen one) (hl : H p = some (.lst xs)) : Up (upd H p o) kvs start m seen one :=
  ⟨fun v hv => (u.vals v hv).mut hl, u.val.mut hl, u.at_, u.fuel, u.eq, u.size⟩
theorem pure_comes_back {K : PySem.W.Frag} {E : XK} {Q : VK} {H : Hp} {v : V} {a : Addr} {kvs : Kvs} {ks : List Str} (hv : Val1 H v) (ha : H a = some (.dK kvs)) (A : Ab H kvs ks) (q : ∀ H', Same H H' → Q (.bl (upK kvs v).2) H') :
    t_comes_back K E { nx := fun _ H' => Q .non H', rt := Q } [some v, some (.ref a), none, none] H := by
  unfold t_comes_back
  walk_at "g"
  refine ⟨by show 0 ≤ sizeLine; decide, fun p hp => ?_⟩
  walk_at "g"
  refine w_while (fun m σ H1 => ∃ seen one, σ = [some v, some (.ref a), some (.ref p), some one] ∧ Same H H1 ∧ H1 p = some (.lst seen) ∧ Up H1 kvs v m seen one) (kvs.length + 2) ⟨[], v, rfl, same_new hp, upd_same, Up.start (hv.mono (same_new hp))⟩ ?_
  rintro m σ H1 ⟨seen, one, rfl, s, hl, u⟩
  walk_at "g"
  cases hn : decide (one = .non) with
  | true =>
    have e := of_decide_eq_true hn
    subst e
    walk_at "g"
    have e2 := u.stop
    rw [e2] at q
    exact q H1 s
  | false =>
    have ne := of_decide_eq_false hn
    walk_at "g"
    refine k_body ?_
    walk_at "g"
    refine k_inD (dp_of u.val) (.lst (.of hl) (dpAll_of u.vals)) (shaped_v u.val) (shaped_l u.vals) ?_
    walk_at "g"
    show if mem one seen = true then _ else _
    cases hm : mem one seen with
    | true =>
      refine iteT ?_
      walk_at "g"
      have e2 := u.back ne hm
      rw [e2] at q
      exact q H1 s
    | false =>
      refine iteF ?_
      obtain ⟨n, rfl⟩ := u.pos
      walk_at "g"
      refine ⟨.inl ⟨rfl, _, .of hl⟩, ?_⟩
      walk_at "g"
      refine k_append hl (by have := u.size; have := kvs_len A; rw [sizeLine_eq]; omega) ?_
      have s2 : Same H (upd H1 p (.lst (seen ++ [one]))) := same_mut s hp
      have A2 := A.mono s2
      have ha2 := s2 _ _ ha
      have u2 := (Up.next (A.mono s) u ne hm).mut (o := .lst (seen ++ [one])) hl
      walk_at "g"
      refine k_get ha2 ?_
      walk_at "g"
      refine get_ab A2 ha2 (u.val.mut hl) ne (fun o eo => ?_)
      rw [eo]
      walk_at "g"
      refine ⟨n, by omega, seen ++ [one], nxt kvs one, rfl, s2, upd_same, u2⟩
end K63
namespace K63
open PySem PySem.Spec PyProof.Rows L2 Z He
local macro_rules | `(tactic| walk_at "s") => `(tactic| first
  | with_reducible refine w_seq ?_ | with_reducible refine w_asg ?_ | with_reducible refine w_op ?_ | ((with_reducible refine' w_var ?hv ?_); (case hv => exact rfl)) | with_reducible refine w_c ?_ | with_reducible refine w_name ?_
  | with_reducible refine w_cons ?_ | with_reducible refine w_nil ?_ | with_reducible refine w_cb ?_ | with_reducible refine w_call ?_ | with_reducible refine w_if ?_ | with_reducible refine w_test ?_ | with_reducible refine w_tru ?_
  | with_reducible refine w_not ?_ | with_reducible refine w_and ?_ | with_reducible refine w_or ?_ | with_reducible refine w_ret ?_ | with_reducible refine w_next ?_ | with_reducible refine w_drop ?_ | with_reducible refine w_par ?_
  | with_reducible refine w_ifx ?_ | with_reducible refine w_lst ?_ | with_reducible refine w_tup ?_ | with_reducible refine w_meth ?_ | with_reducible refine w_make ?_ | with_reducible refine w_fld ?_ | with_reducible refine w_sfld ?_
  | with_reducible refine w_bm ?_ | with_reducible refine w_get ?_ | with_reducible refine w_slc ?_ | with_reducible refine w_nopart ?_ | with_reducible refine w_part ?_ | with_reducible refine w_chain ?_ | with_reducible refine w_yes ?_
  | with_reducible refine w_newK ?_ | with_reducible refine w_andT ?_ | with_reducible refine w_orT ?_ | with_reducible refine w_set ?_ | with_reducible refine w_un ?_ | with_reducible refine w_for ?_ | with_reducible refine w_lc ?_
  | with_reducible refine w_iL ?_ | with_reducible refine w_iS ?_ | with_reducible refine w_iR1 ?_ | with_reducible refine w_retN ?_ | with_reducible refine w_cont ?_ | with_reducible refine w_break ?_
  | with_reducible refine k_test ?_ | with_reducible refine k_tru ?_ | with_reducible refine k_par ?_ | with_reducible refine k_part ?_
  | with_reducible refine iteT ?_ | with_reducible refine iteF ?_ | with_reducible refine iteNT ?_ | with_reducible refine iteNF ?_
  | with_reducible refine k_addI ?_ | with_reducible refine k_isN ?_ | with_reducible refine k_notN ?_ | with_reducible refine k_lt ?_ | with_reducible refine k_le ?_ | with_reducible refine k_gt ?_ | with_reducible refine k_ge ?_ | with_reducible refine k_sub ?_)
local macro_rules | `(tactic| walk_at "g") => `(tactic| repeat walk_at "s")
theorem pure__law_up {K : PySem.W.Frag} {E : XK} {Q : VK} {H : Hp} {v : V} {a : Addr} {kvs : Kvs} {ks : List Str} (hv : Val1 H v) (ha : H a = some (.dK kvs)) (A : Ab H kvs ks)
    (q : ∀ p l H', Same H H' → H' p = some (.tup [.ref l, .bl (upK kvs v).2]) → H' l = some (.lst (upK kvs v).1) → (∀ u ∈ (upK kvs v).1, Val1 H' u) → Q (.ref p) H') :
    t__law_up K E { nx := fun _ H' => Q .non H', rt := Q } [some (.ref a), some v, none, none] H := by
  unfold t__law_up
  walk_at "g"
  refine ⟨by show 0 ≤ sizeLine; decide, fun p hp => ?_⟩
  walk_at "g"
  refine w_while (fun m σ H1 => ∃ seen one, σ = [some (.ref a), some v, some (.ref p), some one] ∧ Same H H1 ∧ H1 p = some (.lst seen) ∧ Up H1 kvs v m seen one) (kvs.length + 2) ⟨[], v, rfl, same_new hp, upd_same, Up.start (hv.mono (same_new hp))⟩ ?_
  rintro m σ H1 ⟨seen, one, rfl, s, hl, u⟩
  walk_at "g"
  cases hn : decide (one = .non) with
  | true =>
    have e := of_decide_eq_true hn
    subst e
    walk_at "g"
    refine ⟨by show 2 ≤ sizeLine; decide, fun p2 hp2 => ?_⟩
    have e2 := u.stop
    rw [e2] at q
    exact q p2 p _ (same_up s hp2) upd_same (up_new hl hp2) fun u' hu' => (u.vals u' hu').mono (same_new hp2)
  | false =>
    have ne := of_decide_eq_false hn
    walk_at "g"
    refine k_notInD (dp_of u.val) (.lst (.of hl) (dpAll_of u.vals)) (shaped_v u.val) (shaped_l u.vals) ?_
    walk_at "g"
    show if (!mem one seen) = true then _ else _
    cases hm : mem one seen with
    | true =>
      refine iteNT ?_
      walk_at "g"
      rw [hn]
      refine ⟨by show 2 ≤ sizeLine; decide, fun p2 hp2 => ?_⟩
      have e2 := u.back ne hm
      rw [e2] at q
      exact q p2 p _ (same_up s hp2) upd_same (up_new hl hp2) fun u' hu' => (u.vals u' hu').mono (same_new hp2)
    | false =>
      refine iteNF ?_
      obtain ⟨n, rfl⟩ := u.pos
      refine k_body ?_
      walk_at "g"
      refine k_bmL (.of hl) ?_
      walk_at "g"
      refine k_append hl (by have := u.size; have := kvs_len A; rw [sizeLine_eq]; omega) ?_
      have s2 : Same H (upd H1 p (.lst (seen ++ [one]))) := same_mut s hp
      have A2 := A.mono s2
      have ha2 := s2 _ _ ha
      have u2 := (Up.next (A.mono s) u ne hm).mut (o := .lst (seen ++ [one])) hl
      walk_at "g"
      refine k_get ha2 ?_
      walk_at "g"
      refine get_ab A2 ha2 (u.val.mut hl) ne (fun o eo => ?_)
      rw [eo]
      walk_at "g"
      refine ⟨n, by omega, seen ++ [one], nxt kvs one, rfl, s2, upd_same, u2⟩
/-! ### the kind of the error -/
theorem due_bad {kvs : Kvs} {ys : List Str} {i : Nat} {z : Str} (h0 : (ys.take i).filter (badV kvs) = []) (hz : ys[i]? = some z) (hb : badV kvs z = true) : ys.filter (badV kvs) = z :: (ys.drop (i + 1)).filter (badV kvs) := by
  have e : ys = ys.take i ++ z :: ys.drop (i + 1) := by
    have h1 := (List.take_append_drop i ys).symm
    obtain ⟨hi, h2⟩ := List.getElem?_eq_some_iff.mp hz
    rw [List.drop_eq_getElem_cons hi, h2] at h1
    exact h1
  conv => lhs; rw [e]
  rw [List.filter_append, h0, List.filter_cons, hb]
  rfl
theorem take_filter {p : Str → Bool} {ys : List Str} {i : Nat} {z : Str} (h0 : (ys.take i).filter p = []) (hz : ys[i]? = some z) (hb : p z = false) : (ys.take (i + 1)).filter p = [] := by
  rw [List.take_add_one, hz, List.filter_append, h0]
  simp [hb]
theorem filter_hit {p : Str → Bool} {ys : List Str} {i : Nat} {z : Str} (h0 : (ys.take i).filter p = []) (hz : ys[i]? = some z) (hb : p z = true) : ys.filter p = z :: (ys.drop (i + 1)).filter p := by
  have e : ys = ys.take i ++ z :: ys.drop (i + 1) := by
    have h1 := (List.take_append_drop i ys).symm
    obtain ⟨hi, h2⟩ := List.getElem?_eq_some_iff.mp hz
    rw [List.drop_eq_getElem_cons hi, h2] at h1
    exact h1
  conv => lhs; rw [e]
  rw [List.filter_append, h0, List.filter_cons, hb]
  rfl
theorem get_key {H : Hp} {kvs : Kvs} {ks : List Str} (A : Ab H kvs ks) {z : Str} (hz : z ∈ ks) : ∃ v, valV kvs (.inr z : Key) = some v ∧ Val1 H v := by
  have h1 : (Sum.inr z : Key) ∈ kvs.map (·.1) := A.keys ▸ List.mem_map.mpr ⟨z, hz, rfl⟩
  obtain ⟨p, hp, e⟩ := List.mem_map.mp h1
  cases e2 : valV kvs (.inr z : Key) with
  | none =>
    unfold valV at e2
    rw [Option.map_eq_none_iff, List.find?_eq_none] at e2
    exact absurd (by rw [e]; simp) (e2 p hp)
  | some v =>
    obtain ⟨p2, hp2, e3⟩ := valV_mem e2
    exact ⟨v, rfl, e3 ▸ A.val p2 hp2⟩
theorem pure_look_kinds {K : PySem.W.Frag} {E : XK} {Q : VK} {H : Hp} {a : Addr} {kvs : Kvs} {ks : List Str} (ha : H a = some (.dK kvs)) (A : Ab H kvs ks) (q : ∀ ys, Srt1 ks ys →
  (dueL kvs ys = .non → ∀ H', Same H H' → Q .non H') ∧ (∀ z, dueL kvs ys = .str z → ∀ d H', Same H H' → H' d = some (.xd [("kind", .str z)]) → E (.ref (ga K "BadKinds")) (some d) H')) :
    t_look_kinds K E { nx := fun _ H' => Q .non H', rt := Q } [some (.ref a), none] H := by
  unfold t_look_kinds
  walk_at "g"
  refine k_sortD ha A.keys (by have := A.len; omega) (fun ys p hp hs hn => ?_)
  have q1 := q ys ⟨hp, hs⟩
  have s0 : Same H (upd H p (.lst (ys.map V.str))) := same_new hn
  have hyk : ∀ i z, ys[i]? = some z → z ∈ ks := fun i z h => hp.mem_iff.mp (List.mem_of_getElem? h)
  refine k_forL (.of upd_same) (fun i σ H1 => (∃ k, σ = [some (.ref a), k]) ∧ Same H H1 ∧ H1 p = some (.lst (ys.map V.str)) ∧ (ys.take i).filter (badV kvs) = []) ⟨⟨none, rfl⟩, s0, upd_same, rfl⟩ (fun i σ H1 _ h => .of h.2.2.1) (fun i x σ H1 hx h => ?_) (fun σ H1 h => ?_)
  · obtain ⟨⟨k, rfl⟩, s, hl, ht⟩ := h
    rw [List.getElem?_map] at hx
    obtain ⟨z, hz, rfl⟩ := Option.map_eq_some_iff.mp hx
    have hzk := hyk i z hz
    obtain ⟨v, hv, hv1⟩ := get_key A hzk
    have bad : badV kvs z = true → ∀ H2, Same H H2 → ∀ d, H2 d = none → E (.ref (ga K "BadKinds")) (some d) (upd H2 d (.xd [("kind", .str z)])) := fun hb H2 s2 d hd => by
      refine q1.2 z ?_ d _ (same_up s2 hd) upd_same
      unfold dueL
      rw [filter_hit ht hz hb]
    have good : badV kvs z = false → ∀ H2, Same H H2 → Same H1 H2 → (∃ k, [some (V.ref a), some (V.str z)] = [some (.ref a), k]) ∧ Same H H2 ∧ H2 p = some (.lst (ys.map V.str)) ∧ (ys.take (i + 1)).filter (badV kvs) = [] :=
      fun hb H2 s2 s3 => ⟨⟨_, rfl⟩, s2, s3 _ _ hl, take_filter ht hz hb⟩
    walk_at "g"
    refine ⟨.str z, rfl, .str (A.kl z hzk), fun H2 s2 => ?_⟩
    walk_at "g"
    show if (!okName z) = true then _ else _
    cases h1 : okName z with
    | false =>
      refine iteNF ?_
      walk_at "g"
      refine w_raise ?_
      walk_at "g"
      exact k_raise fun d hd => bad (by unfold badV; rw [h1]; rfl) H2 (s.trans s2) d hd
    | true =>
      refine iteNT ?_
      have ha2 := (s.trans s2) _ _ ha
      walk_at "g"
      refine k_ixD (hv ▸ DGet.k (k := Sum.inr z) ha2) ?_
      walk_at "g"
      have eb : badV kvs z = !vRight v := by unfold badV; rw [h1, hv]; rfl
      cases h2 : decide (v = .non) with
      | true =>
        walk_at "g"
        refine good (by rw [eb]; unfold vRight; rw [h2]; rfl) H2 (s.trans s2) s2
      | false =>
        walk_at "g"
        refine k_ixD (hv ▸ DGet.k (k := Sum.inr z) ha2) ?_
        refine ⟨v, rfl, hv1.mono (s.trans s2), fun H3 s3 => ?_⟩
        walk_at "g"
        have eb2 : badV kvs z = !vName v := by rw [eb]; unfold vRight; rw [h2]; rfl
        cases h3 : vName v with
        | false =>
          walk_at "g"
          refine w_raise ?_
          walk_at "g"
          exact k_raise fun d hd => bad (by rw [eb2, h3]; rfl) H3 ((s.trans s2).trans s3) d hd
        | true =>
          walk_at "g"
          exact good (by rw [eb2, h3]; rfl) H3 ((s.trans s2).trans s3) (s2.trans s3)
  · obtain ⟨⟨k, rfl⟩, s, hl, ht⟩ := h
    rw [List.length_map, List.take_of_length_le (Nat.le_refl _)] at ht
    have ha2 := s _ _ ha
    walk_at "g"
    refine k_sortD ha2 A.keys (by have := A.len; omega) (fun ys2 p2 hp2 hs2 hn2 => ?_)
    obtain rfl : ys2 = ys := sorted_eq (hp2.trans hp.symm) hs2 hs
    have s4 : Same H (upd H1 p2 (.lst (ys2.map V.str))) := same_up s hn2
    refine k_forL (.of upd_same) (fun i σ H1 => (∃ k, σ = [some (.ref a), k]) ∧ Same H H1 ∧ H1 p2 = some (.lst (ys2.map V.str)) ∧ (ys2.take i).filter (fun z => (upK kvs (.str z)).2) = []) ⟨⟨_, rfl⟩, s4, upd_same, rfl⟩ (fun i σ H1 _ h => .of h.2.2.1) (fun i x σ H1 hx h => ?_) (fun σ H1 h => ?_)
    · obtain ⟨⟨k, rfl⟩, s, hl, ht2⟩ := h
      rw [List.getElem?_map] at hx
      obtain ⟨z, hz, rfl⟩ := Option.map_eq_some_iff.mp hx
      have hzk := hyk i z hz
      walk_at "g"
      refine ⟨.str z, a, kvs, ks, rfl, .str (A.kl z hzk), s _ _ ha, A.mono s, fun H2 s2 => ?_⟩
      walk_at "g"
      cases h1 : (upK kvs (.str z)).2 with
      | true =>
        walk_at "g"
        refine w_raise ?_
        walk_at "g"
        refine k_raise fun d hd => q1.2 z ?_ d _ (same_up (s.trans s2) hd) upd_same
        unfold dueL
        rw [ht, filter_hit ht2 hz h1]
      | false =>
        walk_at "g"
        exact ⟨⟨_, rfl⟩, s.trans s2, s2 _ _ hl, take_filter ht2 hz h1⟩
    · obtain ⟨⟨k, rfl⟩, s, hl, ht2⟩ := h
      rw [List.length_map, List.take_of_length_le (Nat.le_refl _)] at ht2
      refine q1.1 ?_ H1 s
      unfold dueL
      rw [ht, ht2]
end K63
namespace K63
open PySem PySem.Spec PyProof.Rows L2 Z He
local macro_rules | `(tactic| walk_at "s") => `(tactic| first
  | with_reducible refine w_seq ?_ | with_reducible refine w_asg ?_ | with_reducible refine w_op ?_ | ((with_reducible refine' w_var ?hv ?_); (case hv => exact rfl)) | with_reducible refine w_c ?_ | with_reducible refine w_name ?_
  | with_reducible refine w_cons ?_ | with_reducible refine w_nil ?_ | with_reducible refine w_cb ?_ | with_reducible refine w_call ?_ | with_reducible refine w_if ?_ | with_reducible refine w_test ?_ | with_reducible refine w_tru ?_
  | with_reducible refine w_not ?_ | with_reducible refine w_and ?_ | with_reducible refine w_or ?_ | with_reducible refine w_ret ?_ | with_reducible refine w_next ?_ | with_reducible refine w_drop ?_ | with_reducible refine w_par ?_
  | with_reducible refine w_ifx ?_ | with_reducible refine w_lst ?_ | with_reducible refine w_tup ?_ | with_reducible refine w_meth ?_ | with_reducible refine w_make ?_ | with_reducible refine w_fld ?_ | with_reducible refine w_sfld ?_
  | with_reducible refine w_bm ?_ | with_reducible refine w_get ?_ | with_reducible refine w_slc ?_ | with_reducible refine w_nopart ?_ | with_reducible refine w_part ?_ | with_reducible refine w_chain ?_ | with_reducible refine w_yes ?_
  | with_reducible refine w_newK ?_ | with_reducible refine w_andT ?_ | with_reducible refine w_orT ?_ | with_reducible refine w_set ?_ | with_reducible refine w_un ?_ | with_reducible refine w_for ?_ | with_reducible refine w_lc ?_
  | with_reducible refine w_iL ?_ | with_reducible refine w_iS ?_ | with_reducible refine w_iR1 ?_ | with_reducible refine w_retN ?_ | with_reducible refine w_cont ?_ | with_reducible refine w_break ?_
  | with_reducible refine w_gc ?_ | with_reducible refine w_gn ?_
  | with_reducible refine k_test ?_ | with_reducible refine k_tru ?_ | with_reducible refine k_par ?_ | with_reducible refine k_part ?_
  | with_reducible refine iteT ?_ | with_reducible refine iteF ?_ | with_reducible refine iteNT ?_ | with_reducible refine iteNF ?_
  | with_reducible refine k_addI ?_ | with_reducible refine k_isN ?_ | with_reducible refine k_notN ?_ | with_reducible refine k_lt ?_ | with_reducible refine k_le ?_ | with_reducible refine k_gt ?_ | with_reducible refine k_ge ?_ | with_reducible refine k_sub ?_)
local macro_rules | `(tactic| walk_at "g") => `(tactic| repeat walk_at "s")
theorem pure_look_files {K : PySem.W.Frag} {E : XK} {Q : VK} {H : Hp} {a : Addr} (ha : H a = some (.dK [])) (q : ∀ H', Same H H' → Q .non H') : t_look_files K E { nx := fun _ H' => Q .non H', rt := Q } [some (.ref a), none] H := by
  unfold t_look_files
  walk_at "g"
  refine k_sortD (ks := []) ha rfl (by simp) (fun ys p hp hs hn => ?_)
  obtain rfl := List.Perm.eq_nil hp
  refine k_forL (.of upd_same) (fun i σ H1 => Same H H1 ∧ H1 p = some (.lst [])) ⟨same_new hn, upd_same⟩ (fun i σ H1 _ h => .of h.2) (fun i x σ H1 hx h => by simp at hx) (fun σ H1 h => ?_)
  exact q H1 h.1
theorem pure_BadKinds_init {K : PySem.W.Frag} {E : XK} {Q : VK} {H : Hp} {a : Addr} {v : V} (hO : OexC K (ga K "BadKinds")) (hno : PySem.W.findIn K (.ref (ga K "BadKinds")) "kind" = some none) (ha : H a = some (exo a (ga K "BadKinds") none))
    (q : ∀ dx, H dx = none → dx ≠ a → Q .non (upd (upd H dx (exd dx [("kind", v)])) a (exo a (ga K "BadKinds") (some dx)))) : t_BadKinds_init K E { nx := fun _ H' => Q .non H', rt := Q } [some (.ref a), some v] H := by
  unfold t_BadKinds_init
  walk_at "g"
  refine w_vei ?_
  walk_at "g"
  refine ⟨a, _, _, rfl, by simp, hO, ha, ?_⟩
  refine w_ost ?_
  walk_at "g"
  exact ⟨a, _, rfl, hO, hno, .inl ⟨ha, fun dx h1 h2 => q dx h1 h2⟩⟩
theorem pure_look_calls {K : PySem.W.Frag} {E : XK} {Q : VK} {H : Hp} {x dx f1 f2 f3 : Addr} (cP : Cls K (ga K "Program")) (nd : NoAttr K (ga K "Program") "defined") (hx : H x = some (.ins (ga K "Program") dx (fPr f1 f2 f3))) (h3 : H f3 = some (.dK [])) (q : ∀ H', Same H H' → Q .non H') :
    t_Program_look_calls K E { nx := fun _ H' => Q .non H', rt := Q } [some (.ref x), none, none, none, none, none, none] H := by
  unfold t_Program_look_calls
  walk_at "g"
  refine ⟨by show 0 ≤ sizeLine; decide, fun p hp => ?_⟩
  walk_at "g"
  refine k_fld (up_new hx hp) cP nd rfl ?_
  walk_at "g"
  refine k_sortD (ks := []) (up_new h3 hp) rfl (by simp) (fun ys p2 hp2 hs hn => ?_)
  obtain rfl := List.Perm.eq_nil hp2
  refine k_forL (.of upd_same) (fun i σ H1 => σ = [some (.ref x), some (.ref p), none, none, none, none, none] ∧ Same H H1 ∧ H1 p2 = some (.lst []) ∧ H1 p = some (.lst [])) ⟨rfl, same_up (same_new hp) hn, upd_same, up_new upd_same hn⟩ (fun i σ H1 _ h => .of h.2.2.1) (fun i x σ H1 hx h => by simp at hx) (fun σ H1 h => ?_)
  obtain ⟨rfl, s, hl2, hl⟩ := h
  walk_at "g"
  refine ⟨by show 0 ≤ sizeLine; decide, fun p3 hp3 => ?_⟩
  refine k_ne (.lst (.of (up_new hl hp3)) .nil) (.lst (.of upd_same) .nil) (by decide) (by decide) ?_
  walk_at "g"
  exact q _ (same_up s hp3)
theorem pure_look_size {K : PySem.W.Frag} {E : XK} {Q : VK} {H : Hp} {x dx f1 f2 f3 : Addr} (cP : Cls K (ga K "Program")) (nk : NoAttr K (ga K "Program") "kept") (nd : NoAttr K (ga K "Program") "defined") (hx : H x = some (.ins (ga K "Program") dx (fPr f1 f2 f3))) (h2 : H f2 = some (.dK [])) (h3 : H f3 = some (.dK [])) (q : ∀ H', Same H H' → Q .non H') :
    t_Program_look_size K E { nx := fun _ H' => Q .non H', rt := Q } [some (.ref x), none, none, none, none, none, none] H := by
  unfold t_Program_look_size
  walk_at "g"
  refine k_lcE h2 (fun od R h => ?_) (fun D H1 hD s hl => ?_)
  · walk_at "g"
    have ne : x ≠ f2 := fun e => by rw [e, h2] at hx; cases hx
    exact k_fld (up_oth ne hx) cP nk rfl h
  walk_at "g"
  refine ⟨D, [], rfl, .of hl, ?_⟩
  walk_at "g"
  refine k_fld (s _ _ hx) cP nk rfl ?_
  walk_at "g"
  refine k_lenD (s _ _ h2) ?_
  walk_at "g"
  refine ⟨by show 3 ≤ sizeLine; decide, fun p1 hp1 => ?_⟩
  have s1 := same_up (u := .tup [.int 0, .int 4, .str "files"]) s hp1
  walk_at "g"
  refine k_fld (s1 _ _ hx) cP nd rfl ?_
  walk_at "g"
  refine k_lenD (s1 _ _ h3) ?_
  walk_at "g"
  refine ⟨by show 3 ≤ sizeLine; decide, fun p2 hp2 => ?_⟩
  have s2 := same_up (u := .tup [.int 0, .int 8, .str "functions"]) s1 hp2
  have t1 := up_new (u := .tup [.int 0, .int 8, .str "functions"]) (upd_same (H := H1) (a := p1) (o := .tup [.int 0, .int 4, .str "files"])) hp2
  walk_at "g"
  refine ⟨by show 2 ≤ sizeLine; decide, fun p3 hp3 => ?_⟩
  have s3 := same_up (u := .lst [.ref p1, .ref p2]) s2 hp3
  walk_at "g"
  refine w_star ?_
  walk_at "g"
  refine ⟨p3, _, rfl, .inr (.of upd_same), ?_⟩
  walk_at "g"
  refine ⟨by show 3 ≤ sizeLine; decide, fun p4 hp4 => ?_⟩
  walk_at "g"
  refine ⟨by show 3 ≤ sizeLine; decide, fun p5 hp5 => ?_⟩
  have s5 := same_up (u := .lst [.ref p1, .ref p2, .ref p4]) (same_up (u := .tup [.int 0, .int 120, .str "lines"]) s3 hp4) hp5
  have k1 := up_new (u := .lst [.ref p1, .ref p2, .ref p4]) (up_new (u := .tup [.int 0, .int 120, .str "lines"]) (up_new (u := .lst [.ref p1, .ref p2]) t1 hp3) hp4) hp5
  have k2 := up_new (u := .lst [.ref p1, .ref p2, .ref p4]) (up_new (u := .tup [.int 0, .int 120, .str "lines"]) (up_new (u := .lst [.ref p1, .ref p2]) (upd_same (H := upd H1 p1 (.tup [.int 0, .int 4, .str "files"])) (a := p2) (o := .tup [.int 0, .int 8, .str "functions"])) hp3) hp4) hp5
  have k3 := up_new (u := .lst [.ref p1, .ref p2, .ref p4]) (upd_same (H := upd (upd (upd H1 p1 (.tup [.int 0, .int 4, .str "files"])) p2 (.tup [.int 0, .int 8, .str "functions"])) p3 (.lst [.ref p1, .ref p2])) (a := p4) (o := .tup [.int 0, .int 120, .str "lines"])) hp5
  refine k_forL (.of upd_same) (fun i σ H2 => (∃ a b c, σ = [some (.ref x), some (.int 0), none, some (.ref p3), a, b, c]) ∧ H2 = upd (upd (upd (upd (upd H1 p1 (.tup [.int 0, .int 4, .str "files"])) p2 (.tup [.int 0, .int 8, .str "functions"])) p3 (.lst [.ref p1, .ref p2])) p4 (.tup [.int 0, .int 120, .str "lines"])) p5 (.lst [.ref p1, .ref p2, .ref p4])) ⟨⟨_, _, _, rfl⟩, rfl⟩ (fun i σ H1 _ h => by rw [h.2]; exact .of upd_same) (fun i y σ H2 hy h => ?_) (fun σ H1 h => ?_)
  · obtain ⟨⟨a, b, c, rfl⟩, rfl⟩ := h
    have hk : ∃ (m : Int) (w' : Str) (p : Addr), y = .ref p ∧ 0 < m ∧ (upd (upd (upd (upd (upd H1 p1 (.tup [.int 0, .int 4, .str "files"])) p2 (.tup [.int 0, .int 8, .str "functions"])) p3 (.lst [.ref p1, .ref p2])) p4 (.tup [.int 0, .int 120, .str "lines"])) p5 (.lst [.ref p1, .ref p2, .ref p4])) p = some (.tup [.int 0, .int m, .str w']) := by
      match i, hy with
      | 0, hy => exact ⟨_, _, p1, (Option.some.inj hy).symm, by decide, k1⟩
      | 1, hy => exact ⟨_, _, p2, (Option.some.inj hy).symm, by decide, k2⟩
      | 2, hy => exact ⟨_, _, p4, (Option.some.inj hy).symm, by decide, k3⟩
      | i + 3, hy => simp at hy
    obtain ⟨m, w', p, rfl, hm, hp⟩ := hk
    refine k_gtup (.inl (.inl hp)) rfl ?_
    walk_at "g"
    have e : decide (m < 0) = false := decide_eq_false (by omega)
    rw [e]
    walk_at "g"
    exact ⟨⟨_, _, _, rfl⟩, rfl⟩
  · obtain ⟨_, rfl⟩ := h
    exact q _ s5
end K63
namespace K63
open PySem PySem.Spec PyProof.Rows L2 Z He
local macro_rules | `(tactic| walk_at "s") => `(tactic| first
  | with_reducible refine w_seq ?_ | with_reducible refine w_asg ?_ | with_reducible refine w_op ?_ | ((with_reducible refine' w_var ?hv ?_); (case hv => exact rfl)) | with_reducible refine w_c ?_ | with_reducible refine w_name ?_
  | with_reducible refine w_cons ?_ | with_reducible refine w_nil ?_ | with_reducible refine w_cb ?_ | with_reducible refine w_call ?_ | with_reducible refine w_if ?_ | with_reducible refine w_test ?_ | with_reducible refine w_tru ?_
  | with_reducible refine w_not ?_ | with_reducible refine w_and ?_ | with_reducible refine w_or ?_ | with_reducible refine w_ret ?_ | with_reducible refine w_next ?_ | with_reducible refine w_drop ?_ | with_reducible refine w_par ?_
  | with_reducible refine w_ifx ?_ | with_reducible refine w_lst ?_ | with_reducible refine w_tup ?_ | with_reducible refine w_meth ?_ | with_reducible refine w_make ?_ | with_reducible refine w_fld ?_ | with_reducible refine w_sfld ?_
  | with_reducible refine w_bm ?_ | with_reducible refine w_get ?_ | with_reducible refine w_slc ?_ | with_reducible refine w_nopart ?_ | with_reducible refine w_part ?_ | with_reducible refine w_chain ?_ | with_reducible refine w_yes ?_
  | with_reducible refine w_newK ?_ | with_reducible refine w_andT ?_ | with_reducible refine w_orT ?_ | with_reducible refine w_set ?_ | with_reducible refine w_un ?_ | with_reducible refine w_for ?_ | with_reducible refine w_lc ?_
  | with_reducible refine w_iL ?_ | with_reducible refine w_iS ?_ | with_reducible refine w_iR1 ?_ | with_reducible refine w_retN ?_ | with_reducible refine w_cont ?_ | with_reducible refine w_break ?_
  | with_reducible refine w_gc ?_ | with_reducible refine w_gn ?_
  | with_reducible refine k_test ?_ | with_reducible refine k_tru ?_ | with_reducible refine k_par ?_ | with_reducible refine k_part ?_
  | with_reducible refine iteT ?_ | with_reducible refine iteF ?_ | with_reducible refine iteNT ?_ | with_reducible refine iteNF ?_
  | with_reducible refine k_addI ?_ | with_reducible refine k_isN ?_ | with_reducible refine k_notN ?_ | with_reducible refine k_lt ?_ | with_reducible refine k_le ?_ | with_reducible refine k_gt ?_ | with_reducible refine k_ge ?_ | with_reducible refine k_sub ?_)
local macro_rules | `(tactic| walk_at "g") => `(tactic| repeat walk_at "s")
theorem dict_or {K : PySem.W.Frag} {Q : VK} {σ : L2.St} {H : Hp} {av : V} {kvs : Kvs} (h : (av = .non ∧ kvs = []) ∨ ∃ a, av = .ref a ∧ H a = some (.dK kvs))
    (q : ∀ p H', H p = none → Same H H' → H' p = some (.dK kvs) → Q (.ref p) H') : ∃ k, TruV K av H k ∧ if k = true then tNil σ H (fun xs H2 => rDictU (av :: xs) H2 Q) else tDNewK σ H fun x H1 => tNil σ H1 fun xs H2 => rDictU (x :: xs) H2 Q := by
  have fresh : kvs = [] → ∀ d, H d = none → rDictU [.ref d] (upd H d (.dK [])) Q := fun e d hd => by
    subst e
    exact ⟨d, [], rfl, .of upd_same, fun p hp => q p _ (up_none hp) (same_up (same_new hd) hp) upd_same⟩
  rcases h with ⟨rfl, e2⟩ | ⟨a, rfl, ha⟩
  · refine ⟨false, rfl, ?_⟩
    rw [if_neg Bool.false_ne_true]
    exact fresh e2
  · refine ⟨!kvs.isEmpty, .inr (.inr ⟨kvs, ha, rfl⟩), ?_⟩
    cases hk : kvs.isEmpty with
    | true => exact fresh (List.isEmpty_iff.mp hk)
    | false => exact ⟨a, kvs, rfl, .of ha, fun p hp => q p _ hp (same_new hp) upd_same⟩
theorem Val1.monoX {H H' : Hp} {v : V} {x C dx : Addr} {fs : List (Str × V)} (h : Val1 H v) (s : SameX x H H') (hx : H x = some (.ins C dx fs)) : Val1 H' v := by
  cases h with
  | non => exact .non
  | str h => exact .str h
  | seven => exact .seven
  | tru => exact .tru
  | tup h => exact .tup (s _ _ h (fun e => by rw [e, hx] at h; cases h))
theorem Ab.monoX {H H' : Hp} {kvs : Kvs} {ks : List Str} {x C dx : Addr} {fs : List (Str × V)} (h : Ab H kvs ks) (s : SameX x H H') (hx : H x = some (.ins C dx fs)) : Ab H' kvs ks := ⟨h.keys, h.len, h.kl, fun p hp => (h.val p hp).monoX s hx⟩
theorem upX {H G : Hp} {x : Addr} {o : HO} (s : SameX x H G) : SameX x H (upd G x o) := fun b o h e => up_oth e (s b o h e)
theorem sxt {x : Addr} {H G G' : Hp} (s : SameX x H G) (t : Same G G') : SameX x H G' := s.trans (Same.x t)
theorem pure_Program_init {K : PySem.W.Frag} {E : XK} {Q : VK} {H : Hp} {vs : List V} {av : V} {x fd dx : Addr} (cP : Cls K (ga K "Program")) (na : NoAttr K (ga K "Program") "above") (nk : NoAttr K (ga K "Program") "kept") (nd : NoAttr K (ga K "Program") "defined") (p : sp_ProgramR K vs H Q E av x fd dx) :
    t_Program_init K E { nx := fun _ H' => Q .non H', rt := Q } [some (.ref x), some (.ref fd), some av, none, none, none, none] H := by
  obtain ⟨hx, hf, kvs, ks, hav, A, q⟩ := p
  have nx : ∀ {b : Addr} {l : Kvs}, H b = some (.dK l) → b ≠ x := fun h e => by rw [e, hx] at h; cases h
  unfold t_Program_init
  walk_at "g"
  refine ⟨fd, rfl, hf, fun H1 s1 => ?_⟩
  walk_at "g"
  refine dict_or (kvs := kvs) ?_ (fun f1 H2 h1 s2 hf1 => ?_)
  · rcases hav with h | ⟨a, e, h⟩
    · exact .inl h
    · exact .inr ⟨a, e, s1 _ _ h⟩
  have s12 : SameX x H H2 := Same.x (Same.trans s1 s2)
  have hx2 := (Same.trans s1 s2) _ _ hx
  have n1 : f1 ≠ x := fun e => by rw [e, s1 _ _ hx] at h1; cases h1
  walk_at "g"
  refine k_sfld hx2 cP na (by simp) ?_
  have g1 := upX (o := .ins (ga K "Program") dx (putF "above" (.ref f1) [])) s12
  have hx3 : upd H2 x (.ins (ga K "Program") dx (putF "above" (.ref f1) [])) x = some (.ins (ga K "Program") dx [("above", .ref f1)]) := upd_same
  have hf1 : upd H2 x (.ins (ga K "Program") dx (putF "above" (.ref f1) [])) f1 = some (.dK kvs) := up_oth n1 hf1
  generalize upd H2 x (.ins (ga K "Program") dx (putF "above" (.ref f1) [])) = H3 at *
  walk_at "g"
  refine k_fld hx3 cP na rfl ?_
  walk_at "g"
  refine ⟨f1, kvs, ks, rfl, hf1, A.monoX g1 hx, fun ys hys => ⟨fun hn H4 s4 => ?_, fun z hz d H4 s4 hd => (q ys hys).2 z hz d H4 (sxt g1 s4) hd⟩⟩
  have g4 := sxt g1 s4
  have hx4 := s4 _ _ hx3
  have hf4 := s4 _ _ hf1
  walk_at "g"
  refine k_dcE (g4 _ _ hf (nx hf)) (fun od R h => w_var rfl h) (fun f2 H5 h2 s5 hf2 => ?_)
  have n2 : f2 ≠ x := fun e => by rw [e, hx4] at h2; cases h2
  walk_at "g"
  refine k_sfld (s5 _ _ hx4) cP nk (by simp) ?_
  have g6 := upX (o := .ins (ga K "Program") dx (putF "kept" (.ref f2) [("above", .ref f1)])) (sxt g4 s5)
  have hx6 : upd H5 x (.ins (ga K "Program") dx (putF "kept" (.ref f2) [("above", .ref f1)])) x = some (.ins (ga K "Program") dx [("above", .ref f1), ("kept", .ref f2)]) := upd_same
  have hf16 : upd H5 x (.ins (ga K "Program") dx (putF "kept" (.ref f2) [("above", .ref f1)])) f1 = some (.dK kvs) := up_oth n1 (s5 _ _ hf4)
  have hf26 : upd H5 x (.ins (ga K "Program") dx (putF "kept" (.ref f2) [("above", .ref f1)])) f2 = some (.dK []) := up_oth n2 hf2
  generalize upd H5 x (.ins (ga K "Program") dx (putF "kept" (.ref f2) [("above", .ref f1)])) = H6 at *
  walk_at "g"
  intro f3 h3
  have n3 : f3 ≠ x := fun e => by rw [e, hx6] at h3; cases h3
  have s7 : Same H6 (upd H6 f3 (.dK [])) := same_new h3
  walk_at "g"
  refine k_sfld (s7 _ _ hx6) cP nd (by simp) ?_
  have g8 := upX (o := .ins (ga K "Program") dx (putF "defined" (.ref f3) [("above", .ref f1), ("kept", .ref f2)])) (sxt g6 s7)
  have hx8 : upd (upd H6 f3 (.dK [])) x (.ins (ga K "Program") dx (putF "defined" (.ref f3) [("above", .ref f1), ("kept", .ref f2)])) x = some (.ins (ga K "Program") dx (fPr f1 f2 f3)) := upd_same
  have hf18 : upd (upd H6 f3 (.dK [])) x (.ins (ga K "Program") dx (putF "defined" (.ref f3) [("above", .ref f1), ("kept", .ref f2)])) f1 = some (.dK kvs) := up_oth n1 (s7 _ _ hf16)
  have hf28 : upd (upd H6 f3 (.dK [])) x (.ins (ga K "Program") dx (putF "defined" (.ref f3) [("above", .ref f1), ("kept", .ref f2)])) f2 = some (.dK []) := up_oth n2 (s7 _ _ hf26)
  have hf38 : upd (upd H6 f3 (.dK [])) x (.ins (ga K "Program") dx (putF "defined" (.ref f3) [("above", .ref f1), ("kept", .ref f2)])) f3 = some (.dK []) := up_oth n3 upd_same
  generalize upd (upd H6 f3 (.dK [])) x (.ins (ga K "Program") dx (putF "defined" (.ref f3) [("above", .ref f1), ("kept", .ref f2)])) = H8 at *
  walk_at "g"
  refine k_fld hx8 cP nk rfl ?_
  walk_at "g"
  refine k_sortD (ks := []) hf28 rfl (by simp) (fun zs p2 hp2 hs hn2 => ?_)
  obtain rfl := List.Perm.eq_nil hp2
  refine k_forL (.of upd_same) (fun i σ H9 => σ = [some (.ref x), some (.ref fd), some av, none, none, none, none] ∧ Same H8 H9 ∧ H9 p2 = some (.lst [])) ⟨rfl, same_new hn2, upd_same⟩ (fun i σ H1 _ h => .of h.2.2) (fun i x σ H1 hx h => by simp at hx) (fun σ H9 h => ?_)
  obtain ⟨rfl, s9, _⟩ := h
  walk_at "g"
  refine k_meth (s9 _ _ hx8) rfl ?_
  walk_at "g"
  refine ⟨x, dx, f1, f2, f3, rfl, s9 _ _ hx8, s9 _ _ hf38, fun H10 s10 => ?_⟩
  walk_at "g"
  have s910 := Same.trans s9 s10
  refine k_meth (s910 _ _ hx8) rfl ?_
  walk_at "g"
  refine ⟨x, dx, f1, f2, f3, rfl, s910 _ _ hx8, s910 _ _ hf28, s910 _ _ hf38, fun H11 s11 => ?_⟩
  have s911 := Same.trans s910 s11
  walk_at "g"
  exact (q ys hys).1 hn H11 (sxt g8 s911) ⟨dx, f1, f2, f3, s911 _ _ hx8, s911 _ _ hf18⟩
/-! ### is_kind -/
theorem mem_pre {x : V} {seen : List V} (h : mem x seen = true) (c : V) : mem x (seen ++ [c]) = true := by rw [mem_snoc, h]; rfl
theorem upF_pre {kvs : Kvs} {x : V} : ∀ (n : Nat) (seen : List V) (one : V), mem x seen = true → mem x (upF kvs n seen one).1 = true
  | 0, seen, _, h => h
  | n + 1, seen, one, h => by
    unfold upF
    split
    · exact h
    · split
      · exact h
      · exact upF_pre n _ _ (mem_pre h one)
theorem eqv_str (c o : Str) : PyData.eqv (.str c) (.str o) = (c == o) := rfl
theorem right_cases {H : Hp} {v : V} (h : Val1 H v) (r : vRight v = true) : v = .non ∨ ∃ z, v = .str z ∧ OkS z := by
  cases h with
  | non => exact .inl rfl
  | str h => exact .inr ⟨_, rfl, h⟩
  | seven => exact absurd r (by decide)
  | tru => exact absurd r (by decide)
  | tup h => exact absurd (show false = true from r) (by decide)
theorem pure_is_kind {K : PySem.W.Frag} {E : XK} {Q : VK} {H : Hp} {x : Addr} {kvs : Kvs} {ks : List Str} {v o : Str} (cP : Cls K (ga K "Program")) (na : NoAttr K (ga K "Program") "above") (P : PrAt K H x kvs) (A : Ab H kvs ks) (R : ∀ z, vRight (nxt kvs (.str z)) = true) (hv : OkS v) (ho : OkS o) (hu : (upK kvs (.str v)).2 = false)
    (q : ∀ H', Same H H' → Q (.bl (mem (.str o) (upK kvs (.str v)).1)) H') : t_Program_is_kind K E { nx := fun _ H' => Q .non H', rt := Q } [some (.ref x), some (.str v), some (.str o)] H := by
  obtain ⟨dx, f1, f2, f3, hx, hf⟩ := P
  unfold t_Program_is_kind
  walk_at "g"
  refine w_while (fun m σ H1 => H1 = H ∧ ∃ seen one, σ = [some (.ref x), some one, some (.str o)] ∧ Up H kvs (.str v) m seen one ∧ mem (.str o) seen = false ∧ (one = .non ∨ ∃ z, one = .str z ∧ OkS z)) (kvs.length + 2) ⟨rfl, [], .str v, rfl, Up.start (.str hv), rfl, .inr ⟨v, rfl, hv⟩⟩ ?_
  rintro m σ H1 ⟨rfl, seen, one, rfl, u, hm, hone⟩
  walk_at "g"
  rcases hone with rfl | ⟨z, rfl, hz⟩
  · walk_at "g"
    refine iteF ?_
    walk_at "g"
    have e2 := u.stop
    rw [e2] at q
    rw [hm] at q
    exact q H1 (Same.refl H1)
  · refine iteT ?_
    walk_at "g"
    refine k_ne (.str z) (.str o) (shaped_v (H := H1) (.str hz)) (shaped_v (H := H1) (.str ho)) ?_
    rw [eqv_str]
    walk_at "g"
    have nm : mem (.str z) seen = false := by
      cases e : mem (.str z) seen with
      | false => rfl
      | true =>
        have e2 := u.back (by simp) e
        rw [e2] at hu
        cases hu
    obtain ⟨n, rfl⟩ := u.pos
    have u2 := Up.next A u (by simp) nm
    have ms := mem_snoc (.str o) (.str z) seen
    rw [hm, show PyData.eqv (dat (.str z)) (dat (.str o)) = (z == o) from rfl, Bool.false_or] at ms
    cases e : z == o with
    | true =>
      refine iteNT ?_
      walk_at "g"
      refine show Q (.bl true) H1 from ?_
      rw [← u2.eq, upF_pre n _ _ (ms.trans e)] at q
      exact q H1 (Same.refl H1)
    | false =>
      refine iteNF ?_
      refine k_body ?_
      walk_at "g"
      refine k_fld hx cP na rfl ?_
      refine k_get hf ?_
      walk_at "g"
      refine get_ab A hf (.str hz) (by simp) (fun o' eo => ?_)
      rw [eo]
      walk_at "g"
      refine ⟨n, by omega, rfl, _, _, rfl, u2, ms.trans e, ?_⟩
      exact right_cases (nxt_val A _) (R z)
end K63
namespace K63
open PySem PySem.Spec PyProof.Rows L2 Z He
local macro_rules | `(tactic| walk_at "s") => `(tactic| first
  | with_reducible refine w_seq ?_ | with_reducible refine w_asg ?_ | with_reducible refine w_op ?_ | ((with_reducible refine' w_var ?hv ?_); (case hv => exact rfl)) | with_reducible refine w_c ?_ | with_reducible refine w_name ?_
  | with_reducible refine w_cons ?_ | with_reducible refine w_nil ?_ | with_reducible refine w_cb ?_ | with_reducible refine w_call ?_ | with_reducible refine w_if ?_ | with_reducible refine w_test ?_ | with_reducible refine w_tru ?_
  | with_reducible refine w_not ?_ | with_reducible refine w_and ?_ | with_reducible refine w_or ?_ | with_reducible refine w_ret ?_ | with_reducible refine w_next ?_ | with_reducible refine w_drop ?_ | with_reducible refine w_par ?_
  | with_reducible refine w_ifx ?_ | with_reducible refine w_lst ?_ | with_reducible refine w_tup ?_ | with_reducible refine w_meth ?_ | with_reducible refine w_make ?_ | with_reducible refine w_fld ?_ | with_reducible refine w_sfld ?_
  | with_reducible refine w_bm ?_ | with_reducible refine w_get ?_ | with_reducible refine w_slc ?_ | with_reducible refine w_nopart ?_ | with_reducible refine w_part ?_ | with_reducible refine w_chain ?_ | with_reducible refine w_yes ?_
  | with_reducible refine w_newK ?_ | with_reducible refine w_andT ?_ | with_reducible refine w_orT ?_ | with_reducible refine w_set ?_ | with_reducible refine w_un ?_ | with_reducible refine w_for ?_ | with_reducible refine w_lc ?_
  | with_reducible refine w_iL ?_ | with_reducible refine w_iS ?_ | with_reducible refine w_iR1 ?_ | with_reducible refine w_retN ?_ | with_reducible refine w_cont ?_ | with_reducible refine w_break ?_
  | with_reducible refine w_gc ?_ | with_reducible refine w_gn ?_
  | with_reducible refine k_test ?_ | with_reducible refine k_tru ?_ | with_reducible refine k_par ?_ | with_reducible refine k_part ?_
  | with_reducible refine iteT ?_ | with_reducible refine iteF ?_ | with_reducible refine iteNT ?_ | with_reducible refine iteNF ?_
  | with_reducible refine k_addI ?_ | with_reducible refine k_isN ?_ | with_reducible refine k_notN ?_ | with_reducible refine k_lt ?_ | with_reducible refine k_le ?_ | with_reducible refine k_gt ?_ | with_reducible refine k_ge ?_ | with_reducible refine k_sub ?_)
local macro_rules | `(tactic| walk_at "g") => `(tactic| repeat walk_at "s")
theorem pow3 {y b : Int} (h0 : 0 ≤ y) (h1 : y < b) (hb : b ≤ 2147483648) : CPow y 3 := ⟨by decide, by decide, by omega⟩
theorem pure__law_source {K : PySem.W.Frag} {E : XK} {Q : VK} {H : Hp} {a : Addr} {ns : List Int} {i : Int} (hs : SqL K H a (ns.map V.int)) (hl : ns.length ≤ 63) (h0 : 0 ≤ i) (h1 : i ≤ 100) (q : ∀ p H', H p = none → Same H H' → Src H' p 0 → Q (.ref p) H') :
    t__law_source K E { nx := fun _ H' => Q .non H', rt := Q } [some (.ref a), some (.int i), none, none, none] H := by
  unfold t__law_source
  have fin : ∀ c : Int, (tSeq (tAsg (tIf (tTest (tOp rGeU (tCB rAbs (tCons (tVar 2) tNil)) (tOp rPowU (tC (.int 10)) (tC (.int 18))))) (tCB rAbs (tCons (tVar 2) tNil)) (tC (.int 0))) (gName 3))
  (tSeq (tAsg (tOp (rAddU K) (tOp (rAddU K) (tOp (rAddU K) (tOp rModU (tVar 2) (tC (.int 2147483587))) (tOp (rMulU K) (tOp (rMulU K) (tC (.int 7331)) (tVar 1)) (tVar 1))) (tOp (rMulU K) (tC (.int 211)) (tVar 1))) (tC (.int 5))) (gName 4))
  (tRet (tLst (tCons (tVar 3) (tCons (tOp rModU (tOp rPowU (tVar 4) (tC (.int 3))) (tC (.int 2147483549))) (tCons (tC (.int 0)) tNil))))))) { nx := fun _ H' => Q .non H', rt := Q } [some (.ref a), some (.int i), some (.int c), none, none] H := by
    intro c
    have last : ∀ l : Int, 0 ≤ l → (tSeq (tAsg (tOp (rAddU K) (tOp (rAddU K) (tOp (rAddU K) (tOp rModU (tVar 2) (tC (.int 2147483587))) (tOp (rMulU K) (tOp (rMulU K) (tC (.int 7331)) (tVar 1)) (tVar 1))) (tOp (rMulU K) (tC (.int 211)) (tVar 1))) (tC (.int 5))) (gName 4))
      (tRet (tLst (tCons (tVar 3) (tCons (tOp rModU (tOp rPowU (tVar 4) (tC (.int 3))) (tC (.int 2147483549))) (tCons (tC (.int 0)) tNil)))))) { nx := fun _ H' => Q .non H', rt := Q } [some (.ref a), some (.int i), some (.int c), some (.int l), none] H := by
      intro l hl0
      walk_at "g"
      refine k_mod (by decide) ?_
      walk_at "g"
      refine k_mulI (.inl ⟨by decide, by decide⟩) ?_
      walk_at "g"
      refine k_mulI (.inr ⟨by omega, by omega⟩) ?_
      walk_at "g"
      refine k_mulI (.inl ⟨by decide, by decide⟩) ?_
      walk_at "g"
      have f0 := Int.fmod_nonneg_of_pos c (b := 2147483587) (by decide)
      have f1 := Int.fmod_lt_of_pos c (b := 2147483587) (by decide)
      have g1 : 7331 * i * i ≤ 7331 * 100 * 100 := by
        have : i * i ≤ 100 * 100 := Int.mul_le_mul h1 h1 h0 (by decide)
        rw [Int.mul_assoc, Int.mul_assoc]
        exact Int.mul_le_mul_of_nonneg_left this (by decide)
      have g0 : 0 ≤ 7331 * i * i := Int.mul_nonneg (by omega) h0
      refine k_pow ⟨by decide, by decide, by omega⟩ ?_
      walk_at "g"
      refine k_mod (by decide) ?_
      walk_at "g"
      refine ⟨by show 3 ≤ sizeLine; decide, fun p hp => ?_⟩
      have e0 := Int.fmod_nonneg_of_pos ((c.fmod 2147483587 + 7331 * i * i + 211 * i + 5) ^ (3 : Int).toNat) (b := 2147483549) (by decide)
      have e1 := Int.fmod_lt_of_pos ((c.fmod 2147483587 + 7331 * i * i + 211 * i + 5) ^ (3 : Int).toNat) (b := 2147483549) (by decide)
      exact q p _ hp (same_new hp) ⟨_, _, _, upd_same, hl0, e0, by omega, by decide, by decide⟩
    walk_at "g"
    refine ⟨c, rfl, ?_⟩
    walk_at "g"
    refine k_pow ⟨by decide, by decide, by decide⟩ ?_
    walk_at "g"
    refine ite2 (fun h => ?_) (fun h => ?_)
    · walk_at "g"
      refine ⟨c, rfl, ?_⟩
      exact last _ (by split <;> omega)
    · refine w_c ?_
      exact last 0 (by decide)
  walk_at "g"
  refine k_lenL hs ?_
  walk_at "g"
  rw [List.length_map]
  refine ite2 (fun h => ?_) (fun h => ?_)
  · have hi := of_decide_eq_true h
    walk_at "g"
    have hj : i.toNat < ns.length := by omega
    have e : i = ((i.toNat : Nat) : Int) := by omega
    refine k_ixL hs (by rw [e]; exact atI_nat (v := .int ns[i.toNat]) (by rw [List.getElem?_map, List.getElem?_eq_getElem hj]; rfl)) ?_
    exact fin _
  · refine w_c ?_
    exact fin 0
theorem pure__law_draw {K : PySem.W.Frag} {E : XK} {Q : VK} {H : Hp} {a : Addr} {n : Nat} {m : Int} (hs : Src H a n) (hn : n ≤ 100000) (h0 : 0 < m) (h1 : m ≤ 1000000) (q : ∀ (r : Int) H', 0 ≤ r → r < m → SameX a H H' → Src H' a (n + 1) → Q (.int r) H') :
    t__law_draw K E { nx := fun _ H' => Q .non H', rt := Q } [some (.ref a), some (.int m), none, none] H := by
  obtain ⟨x, y, z, ha, hx, hy, hy1, hz, hz1⟩ := hs
  have sx : ∀ {G : Hp} {o : HO}, SameX a H G → SameX a H (upd G a o) := fun s b o h e => up_oth e (s b o h e)
  unfold t__law_draw
  walk_at "g"
  refine k_ixL (.of ha) (v := .int x) rfl ?_
  walk_at "g"
  refine ite2 (fun h => ?_) (fun h => ?_)
  · walk_at "g"
    refine k_ixL (.of ha) (v := .int x) rfl ?_
    walk_at "g"
    refine k_mod (by omega) ?_
    walk_at "g"
    refine k_ixL (.of ha) (v := .int x) rfl ?_
    walk_at "g"
    refine k_fdiv ⟨by omega, by omega⟩ ?_
    walk_at "g"
    refine k_setL ha rfl ?_
    walk_at "g"
    exact q _ _ (Int.fmod_nonneg_of_pos _ h0) (Int.fmod_lt_of_pos _ h0) (sx (Same.x (Same.refl H))) ⟨_, _, _, upd_same, Int.fdiv_nonneg hx (by omega), hy, hy1, hz, by omega⟩
  · walk_at "g"
    refine k_ixL (.of ha) (v := .int z) rfl ?_
    walk_at "g"
    refine k_setL ha rfl ?_
    walk_at "g"
    refine k_ixL (.of upd_same) (v := .int (z + 1)) rfl ?_
    walk_at "g"
    refine k_ixL (.of upd_same) (v := .int y) rfl ?_
    walk_at "g"
    refine k_mulI (.inr ⟨by decide, by decide⟩) ?_
    walk_at "g"
    refine k_mulI (.inl ⟨by decide, by decide⟩) ?_
    walk_at "g"
    refine k_mulI (.inr ⟨by omega, by omega⟩) ?_
    walk_at "g"
    refine k_mod (by decide) ?_
    have f0 := Int.fmod_nonneg_of_pos (y * 62089 + 30011 * (z + 1) * (z + 1) + 13) (b := 2147483587) (by decide)
    have f1 := Int.fmod_lt_of_pos (y * 62089 + 30011 * (z + 1) * (z + 1) + 13) (b := 2147483587) (by decide)
    walk_at "g"
    generalize (y * 62089 + 30011 * (z + 1) * (z + 1) + 13).fmod 2147483587 = y2 at *
    refine k_setL upd_same rfl ?_
    walk_at "g"
    refine k_ixL (.of upd_same) (v := .int y2) rfl ?_
    walk_at "g"
    refine k_fdiv ⟨by decide, by decide⟩ ?_
    walk_at "g"
    have e0 := Int.fdiv_nonneg f0 (b := 64) (by decide)
    have e1 : y2.fdiv 64 ≤ y2 := by rw [Int.fdiv_eq_ediv_of_nonneg _ (by decide)]; omega
    refine k_pow (pow3 e0 (Int.lt_of_le_of_lt e1 f1) (by decide)) ?_
    walk_at "g"
    refine k_mod (by decide) ?_
    walk_at "g"
    refine k_mod (by omega) ?_
    exact q _ _ (Int.fmod_nonneg_of_pos _ h0) (Int.fmod_lt_of_pos _ h0) (sx (sx (Same.x (Same.refl H)))) ⟨_, _, _, upd_same, hx, f0, f1, by omega, by omega⟩
end K63
namespace K63
open PySem PySem.Spec PyProof.Rows L2 Z He
local macro_rules | `(tactic| walk_at "s") => `(tactic| first
  | with_reducible refine w_seq ?_ | with_reducible refine w_asg ?_ | with_reducible refine w_op ?_ | ((with_reducible refine' w_var ?hv ?_); (case hv => exact rfl)) | with_reducible refine w_c ?_ | with_reducible refine w_name ?_
  | with_reducible refine w_cons ?_ | with_reducible refine w_nil ?_ | with_reducible refine w_cb ?_ | with_reducible refine w_call ?_ | with_reducible refine w_if ?_ | with_reducible refine w_test ?_ | with_reducible refine w_tru ?_
  | with_reducible refine w_not ?_ | with_reducible refine w_and ?_ | with_reducible refine w_or ?_ | with_reducible refine w_ret ?_ | with_reducible refine w_next ?_ | with_reducible refine w_drop ?_ | with_reducible refine w_par ?_
  | with_reducible refine w_ifx ?_ | with_reducible refine w_lst ?_ | with_reducible refine w_tup ?_ | with_reducible refine w_meth ?_ | with_reducible refine w_make ?_ | with_reducible refine w_fld ?_ | with_reducible refine w_sfld ?_
  | with_reducible refine w_bm ?_ | with_reducible refine w_get ?_ | with_reducible refine w_slc ?_ | with_reducible refine w_nopart ?_ | with_reducible refine w_part ?_ | with_reducible refine w_chain ?_ | with_reducible refine w_yes ?_
  | with_reducible refine w_newK ?_ | with_reducible refine w_andT ?_ | with_reducible refine w_orT ?_ | with_reducible refine w_set ?_ | with_reducible refine w_un ?_ | with_reducible refine w_for ?_ | with_reducible refine w_lc ?_
  | with_reducible refine w_iL ?_ | with_reducible refine w_iS ?_ | with_reducible refine w_iR1 ?_ | with_reducible refine w_retN ?_ | with_reducible refine w_cont ?_ | with_reducible refine w_break ?_
  | with_reducible refine w_gc ?_ | with_reducible refine w_gn ?_
  | with_reducible refine k_test ?_ | with_reducible refine k_tru ?_ | with_reducible refine k_par ?_ | with_reducible refine k_part ?_
  | with_reducible refine iteT ?_ | with_reducible refine iteF ?_ | with_reducible refine iteNT ?_ | with_reducible refine iteNF ?_
  | with_reducible refine k_addI ?_ | with_reducible refine k_isN ?_ | with_reducible refine k_notN ?_ | with_reducible refine k_lt ?_ | with_reducible refine k_le ?_ | with_reducible refine k_gt ?_ | with_reducible refine k_ge ?_ | with_reducible refine k_sub ?_)
local macro_rules | `(tactic| walk_at "g") => `(tactic| repeat walk_at "s")
/-- all its codes are small -/
def Lo (z : Str) : Prop := ∀ c ∈ z.cps.toList, c < 128
theorem app_cps (x y : Str) : (x ++ y).cps.toList = x.cps.toList ++ y.cps.toList := Array.toList_append
theorem app_len (x y : Str) : (x ++ y).length = x.length + y.length := by show (x.cps ++ y.cps).size = _; rw [Array.size_append]; rfl
theorem Lo.app {x y : Str} (h : Lo x) (k : Lo y) : Lo (x ++ y) := fun c hc => by
  rw [app_cps] at hc
  exact (List.mem_append.mp hc).elim (h c) (k c)
theorem Lo.cut {x : Str} (h : Lo x) (lo hi : Option Int) : Lo (cutS x lo hi) := fun c hc => h c (List.mem_of_mem_drop (List.mem_of_mem_take hc))
theorem Lo.ok {x : Str} (h : Lo x) (hl : x.length ≤ 100) : OkS x := ⟨hl, by
  unfold PyData.strOk
  rw [← Array.all_toList, List.all_eq_true]
  intro c hc
  have := h c hc
  exact decide_eq_true (by omega)⟩
/-- the letter of that number -/
def ltr (i : Int) : Nat := letters.cps.toList.getD i.toNat 0
theorem ltr_all : ∀ j : Nat, j < 26 → atI letters.cps.toList (j : Int) = some (ltr j) ∧ ltr j < 128 := by decide +kernel
theorem ltr_at {i : Int} (h0 : 0 ≤ i) (h1 : i < 26) : atI letters.cps.toList i = some (ltr i) ∧ ltr i < 128 := by
  have h := ltr_all i.toNat (by omega)
  rw [show ((i.toNat : Nat) : Int) = i from by omega] at h
  exact h
theorem Lo.ltr {i : Int} (h0 : 0 ≤ i) (h1 : i < 26) : Lo ⟨#[ltr i]⟩ := fun c hc => by
  have e : c = K63.ltr i := by simpa using hc
  rw [e]; exact (ltr_at h0 h1).2
def nmF (stem : Str) (spot first : Int) : V → V
  | .int k => .str (cutS stem none (some spot) ++ ⟨#[ltr ((first + 3 * k).fmod 26)]⟩ ++ cutS stem (some spot) none)
  | _ => .non
def qF : V → V
  | .str z => .str (z ++ ("q" : Str))
  | _ => .non
theorem six_size {i : Int} (h0 : 0 ≤ i) (h1 : i < 5) : ∃ s : Int, atI [V.int 0, V.int 0, V.int 1, V.int 2, V.int 7] i = some (.int s) ∧ 0 ≤ s ∧ s ≤ 7 := by
  have : i = 0 ∨ i = 1 ∨ i = 2 ∨ i = 3 ∨ i = 4 := by omega
  rcases this with rfl | rfl | rfl | rfl | rfl
  · exact ⟨0, rfl, by decide, by decide⟩
  · exact ⟨0, rfl, by decide, by decide⟩
  · exact ⟨1, rfl, by decide, by decide⟩
  · exact ⟨2, rfl, by decide, by decide⟩
  · exact ⟨7, rfl, by decide, by decide⟩
theorem Src.up {H : Hp} {a : Addr} {n m : Nat} (h : Src H a n) (l : n ≤ m) : Src H a m := by
  obtain ⟨x, y, z, e, h1, h2, h3, h4, h5⟩ := h
  exact ⟨x, y, z, e, h1, h2, h3, h4, by omega⟩
theorem Src.mono {H H' : Hp} {a : Addr} {n : Nat} (h : Src H a n) (s : Same H H') : Src H' a n := by
  obtain ⟨x, y, z, e, h1⟩ := h
  exact ⟨x, y, z, s _ _ e, h1⟩
theorem Src.ne {H : Hp} {a p : Addr} {n : Nat} (h : Src H a n) (hp : H p = none) : p ≠ a := fun e => by
  obtain ⟨x, y, z, e2, _⟩ := h
  rw [e, e2] at hp; cases hp
abbrev lt26 : Str := "abcdefghijklmnopqrstuvwxyz"
theorem names_fin {Q : VK} {H H2 : Hp} {a D : Addr} {n : Nat} {l : List V} (hD : H D = none) (h2 : H2 D = some (.lst l)) (hl : l.length = 6) (hz : ∀ v ∈ l, ∃ z, v = .str z ∧ OkS z) (sx : SameX a H H2) (sr : Src H2 a n) (hne : D ≠ a)
    (q : ∀ (p : Addr) (ss : List Str) H', H p = none → p ≠ a → ss.length = 6 → (∀ z ∈ ss, OkS z) → SameX a H H' → Src H' a n → H' p = some (.lst (ss.map V.str)) → Q (.ref p) H') : Q (.ref D) H2 := by
  obtain ⟨ss, e, hs⟩ : ∃ ss : List Str, l = ss.map V.str ∧ ∀ z ∈ ss, OkS z := by
    clear h2 hl
    induction l with
    | nil => exact ⟨[], rfl, fun z hz => absurd hz (by simp)⟩
    | cons v l ih =>
      obtain ⟨ss, e, hs⟩ := ih fun v hv => hz v (List.mem_cons_of_mem _ hv)
      obtain ⟨z, rfl, hok⟩ := hz v List.mem_cons_self
      exact ⟨z :: ss, by rw [e]; rfl, fun y hy => (List.mem_cons.mp hy).elim (fun e => e ▸ hok) (hs y)⟩
  subst e
  exact q D ss H2 hD hne (by simpa using hl) hs sx sr h2
theorem pure__law_names {K : PySem.W.Frag} {E : XK} {Q : VK} {H : Hp} {a : Addr} {n : Nat} (hs : Src H a n) (hn : n ≤ 1000)
    (q : ∀ (p : Addr) (ss : List Str) H', H p = none → p ≠ a → ss.length = 6 → (∀ z ∈ ss, OkS z) → SameX a H H' → Src H' a (n + 20) → H' p = some (.lst (ss.map V.str)) → Q (.ref p) H') :
    t__law_names K E { nx := fun _ H' => Q .non H', rt := Q } [some (.ref a), some (.int 6), none, none, none, none, none, none, none, none, none] H := by
  unfold t__law_names
  walk_at "g"
  refine ⟨by show 5 ≤ sizeLine; decide, fun p1 hp1 => ?_⟩
  have ne1 := hs.ne hp1
  walk_at "g"
  refine ⟨a, n, 5, rfl, hs.mono (same_new hp1), by omega, by decide, by decide, fun r1 H2 r10 r11 s2 sr2 => ?_⟩
  obtain ⟨sz, esz, sz0, sz7⟩ := six_size r10 r11
  refine k_ixL (.of (s2 _ _ upd_same ne1)) esz ?_
  walk_at "g"
  refine ⟨a, n + 1, 26, rfl, sr2, by omega, by decide, by decide, fun first H3 f0 f1 s3 sr3 => ?_⟩
  walk_at "g"
  refine ⟨by show 2 ≤ sizeLine; decide, fun p2 hp2 => ?_⟩
  refine k_gtup (.inl (.inl upd_same)) rfl ?_
  have g4 : SameX a H (upd H3 p2 (.tup [.int sz, .int first])) := ((Same.x (same_new hp1)).trans s2).trans (s3.trans (Same.x (same_new hp2)))
  have sr4 := sr3.mono (same_new (u := .tup [.int sz, .int first]) hp2)
  generalize upd H3 p2 (.tup [.int sz, .int first]) = H4 at *
  walk_at "g"
  refine k_forR (by omega) (by omega) (fun i σ H5 => i ≤ 7 ∧ ∃ z t, σ = [some (.ref a), some (.int 6), some (.str lt26), some (.int sz), some (.int first), some (.str z), t, none, none, none, none] ∧ z.length = i ∧ Lo z ∧ SameX a H H5 ∧ Src H5 a (n + 2 + i)) ⟨by decide, "", none, rfl, rfl, (fun c hc => absurd hc (by simp [show ("" : Str).cps.toList = [] from rfl])), g4, sr4⟩ ?_ ?_
  · rintro i σ H5 hi ⟨_, z, t, rfl, hz, lz, s5, sr5⟩
    walk_at "g"
    refine ⟨a, n + 2 + i, 26, rfl, sr5, by omega, by decide, by decide, fun r H6 r0 r1 s6 sr6 => ?_⟩
    refine k_ixS (by decide) (ltr_at r0 r1).1 ?_
    refine k_addS (by rw [hz, sizeLine_eq]; show i + 1 ≤ _; omega) ?_
    walk_at "g"
    exact ⟨by omega, _, _, rfl, by rw [app_len, hz]; rfl, lz.app (.ltr r0 r1), s5.trans s6, sr6⟩
  · rintro σ H5 ⟨_, z, t, rfl, hz, lz, s5, sr5⟩
    have hz7 : z.length ≤ 7 := by omega
    walk_at "g"
    refine ⟨a, _, sz + 1, rfl, sr5.up (m := n + 9) (by omega), by omega, by omega, by omega, fun spot H6 spot0 spot1 s6 sr6 => ?_⟩
    have g6 := s5.trans s6
    walk_at "g"
    have ltrR : ∀ k : Int, 0 ≤ (first + 3 * k).fmod 26 ∧ (first + 3 * k).fmod 26 < 26 := fun k => ⟨Int.fmod_nonneg_of_pos _ (by decide), Int.fmod_lt_of_pos _ (by decide)⟩
    have loN : ∀ k : Int, Lo (cutS z none (some spot) ++ ⟨#[ltr ((first + 3 * k).fmod 26)]⟩ ++ cutS z (some spot) none) := fun k => ((lz.cut _ _).app (.ltr (ltrR k).1 (ltrR k).2)).app (lz.cut _ _)
    have lenN : ∀ k : Int, (cutS z none (some spot) ++ ⟨#[ltr ((first + 3 * k).fmod 26)]⟩ ++ cutS z (some spot) none).length ≤ 15 := fun k => by
      have h1 := cutS_length z none (some spot)
      have h2 := cutS_length z (some spot) none
      rw [app_len, app_len]
      have : (⟨#[ltr ((first + 3 * k).fmod 26)]⟩ : Str).length = 1 := rfl
      omega
    refine k_lcR (by decide) (by decide) (by decide) (fun _ => true) (nmF z spot first) (fun x hx => ?_) (fun D H7 hD s7 hl => ?_)
    · obtain ⟨k, hk, rfl⟩ := List.mem_map.mp (show x ∈ (List.range 6).map _ from hx)
      have hk6 : k < 6 := List.mem_range.mp hk
      intro H8 s8 R N hR hN
      walk_at "g"
      refine ⟨rfl, ?_⟩
      walk_at "g"
      refine .inr (.inl ⟨z, rfl, by rw [sizeLine_eq]; omega, ?_⟩)
      walk_at "g"
      refine k_mulI (.inl ⟨by decide, by decide⟩) ?_
      walk_at "g"
      refine k_mod (by decide) ?_
      refine k_ixS (by decide) (ltr_at (ltrR _).1 (ltrR _).2).1 ?_
      have h1 := cutS_length z none (some spot)
      have h2 := cutS_length z (some spot) none
      refine k_addS (by rw [sizeLine_eq]; show _ + 1 ≤ _; omega) ?_
      walk_at "g"
      refine .inr (.inl ⟨z, rfl, by rw [sizeLine_eq]; omega, ?_⟩)
      refine k_addS (by rw [sizeLine_eq, app_len]; show _ + 1 + _ ≤ _; omega) ?_
      exact hR rfl H8 (Same.refl _)
    · rw [filterT] at hl
      have hitems : ∀ v ∈ (nums (6 : Int).toNat).map (nmF z spot first), ∃ y, v = .str y ∧ Lo y ∧ y.length ≤ 15 := fun v hv => by
        obtain ⟨u, hu, rfl⟩ := List.mem_map.mp hv
        obtain ⟨k, hk, rfl⟩ := List.mem_map.mp (show u ∈ (List.range 6).map _ from hu)
        exact ⟨_, rfl, loN _, lenN _⟩
      have hlen : ((nums (6 : Int).toNat).map (nmF z spot first)).length = 6 := by rw [List.length_map]; rfl
      generalize (nums (6 : Int).toNat).map (nmF z spot first) = items at *
      have g7 := g6.trans (Same.x s7)
      have sr7 := sr6.mono s7
      have ne7 := sr6.ne hD
      walk_at "g"
      refine k_lcL (.of hl) (by rw [hlen]; decide) (fun _ => true) (fun x => .bl (inV x [.str "or", .str "of", .str "to", .str "by", .str "as", .str "try", .str "def", .str "any"])) (fun x hx => ?_) (fun D2 H8 hD2 s8 hl8 => ?_)
      · obtain ⟨y, rfl, ly, hy⟩ := hitems x hx
        intro H8 s8 R N hR hN
        walk_at "g"
        refine ⟨rfl, ?_⟩
        walk_at "g"
        refine ⟨by show 8 ≤ sizeLine; decide, fun p hp => ?_⟩
        refine k_inF (.inr (.inl (.inl upd_same))) rfl rfl ?_
        exact hR rfl _ (same_new hp)
      · rw [filterT] at hl8
        walk_at "g"
        refine k_any (bs := items.map fun x => inV x [.str "or", .str "of", .str "to", .str "by", .str "as", .str "try", .str "def", .str "any"]) (.of (by rw [hl8, List.map_map]; rfl)) ?_
        walk_at "g"
        refine ite2 (fun _ => ?_) (fun _ => ?_)
        · walk_at "g"
          refine k_lcL (.of (s8 _ _ hl)) (by rw [hlen]; decide) (fun _ => true) qF (fun x hx => ?_) (fun D3 H9 hD3 s9 hl9 => ?_)
          · obtain ⟨y, rfl, ly, hy⟩ := hitems x hx
            intro H8 s8 R N hR hN
            walk_at "g"
            refine ⟨rfl, ?_⟩
            walk_at "g"
            refine k_addS (by rw [sizeLine_eq]; show _ + 1 ≤ _; omega) ?_
            exact hR rfl _ (Same.refl _)
          · rw [filterT] at hl9
            walk_at "g"
            have ne9 := (sr7.mono s8).ne hD3
            refine names_fin (SameX.free (g7.trans (Same.x s8)) hD3 ne9) hl9 (by rw [List.length_map, hlen]) (fun v hv => ?_) (g7.trans (Same.x (s8.trans s9))) (((sr7.mono s8).mono s9).up (m := n + 20) (by omega)) ne9 q
            obtain ⟨u, hu, rfl⟩ := List.mem_map.mp hv
            obtain ⟨y, rfl, ly, hy⟩ := hitems u hu
            refine ⟨_, rfl, Lo.ok (ly.app fun c hc => ?_) ?_⟩
            · have e : c = 113 := by simpa [show ("q" : Str).cps.toList = [113] from rfl] using hc
              omega
            · rw [app_len]; show _ + 1 ≤ 100; omega
        · walk_at "g"
          refine names_fin (SameX.free g6 hD ne7) (s8 _ _ hl) hlen (fun v hv => ?_) (g7.trans (Same.x s8)) ((sr7.mono s8).up (m := n + 20) (by omega)) ne7 q
          obtain ⟨y, rfl, ly, hy⟩ := hitems v hv
          exact ⟨y, rfl, ly.ok (by omega)⟩
end K63
namespace K63
open PySem PySem.Spec PyProof.Rows L2 Z He
local macro_rules | `(tactic| walk_at "s") => `(tactic| first
  | with_reducible refine w_seq ?_ | with_reducible refine w_asg ?_ | with_reducible refine w_op ?_ | ((with_reducible refine' w_var ?hv ?_); (case hv => exact rfl)) | with_reducible refine w_c ?_ | with_reducible refine w_name ?_
  | with_reducible refine w_cons ?_ | with_reducible refine w_nil ?_ | with_reducible refine w_cb ?_ | with_reducible refine w_call ?_ | with_reducible refine w_if ?_ | with_reducible refine w_test ?_ | with_reducible refine w_tru ?_
  | with_reducible refine w_not ?_ | with_reducible refine w_and ?_ | with_reducible refine w_or ?_ | with_reducible refine w_ret ?_ | with_reducible refine w_next ?_ | with_reducible refine w_drop ?_ | with_reducible refine w_par ?_
  | with_reducible refine w_ifx ?_ | with_reducible refine w_lst ?_ | with_reducible refine w_tup ?_ | with_reducible refine w_meth ?_ | with_reducible refine w_make ?_ | with_reducible refine w_fld ?_ | with_reducible refine w_sfld ?_
  | with_reducible refine w_bm ?_ | with_reducible refine w_get ?_ | with_reducible refine w_slc ?_ | with_reducible refine w_nopart ?_ | with_reducible refine w_part ?_ | with_reducible refine w_chain ?_ | with_reducible refine w_yes ?_
  | with_reducible refine w_newK ?_ | with_reducible refine w_andT ?_ | with_reducible refine w_orT ?_ | with_reducible refine w_set ?_ | with_reducible refine w_un ?_ | with_reducible refine w_for ?_ | with_reducible refine w_lc ?_
  | with_reducible refine w_iL ?_ | with_reducible refine w_iS ?_ | with_reducible refine w_iR1 ?_ | with_reducible refine w_retN ?_ | with_reducible refine w_cont ?_ | with_reducible refine w_break ?_
  | with_reducible refine w_gc ?_ | with_reducible refine w_gn ?_
  | with_reducible refine k_test ?_ | with_reducible refine k_tru ?_ | with_reducible refine k_par ?_ | with_reducible refine k_part ?_
  | with_reducible refine iteT ?_ | with_reducible refine iteF ?_ | with_reducible refine iteNT ?_ | with_reducible refine iteNF ?_
  | with_reducible refine k_addI ?_ | with_reducible refine k_isN ?_ | with_reducible refine k_notN ?_ | with_reducible refine k_lt ?_ | with_reducible refine k_le ?_ | with_reducible refine k_gt ?_ | with_reducible refine k_ge ?_ | with_reducible refine k_sub ?_)
local macro_rules | `(tactic| walk_at "g") => `(tactic| repeat walk_at "s")
def badP (kvs : Kvs) : V → Bool
  | .str z => badV kvs z
  | _ => false
def backP (kvs : Kvs) : V → Bool
  | .str z => (upK kvs (.str z)).2
  | _ => false
theorem filter_strs (f : Str → Bool) (p : V → Bool) (h : ∀ z, p (.str z) = f z) : ∀ ys : List Str, (((ys.map V.str).filter p).map id) = (ys.filter f).map V.str
  | [] => rfl
  | z :: ys => by
    have ih := filter_strs f p h ys
    rw [List.map_id] at ih ⊢
    rw [List.map_cons, List.filter_cons, List.filter_cons, h, ih]
    cases f z <;> rfl
theorem strs_val {H : Hp} {l : List Str} (h : ∀ z ∈ l, OkS z) : ∀ u ∈ l.map V.str, Val1 H u := fun u hu => by
  obtain ⟨z, hz, rfl⟩ := List.mem_map.mp hu
  exact .str (h z hz)
theorem first_of (W : List Str) (x : V) (h : x = match W with | z :: _ => V.str z | [] => .non) : atI (W.map V.str ++ [.non]) 0 = some x := by
  subst h
  cases W with
  | nil => rfl
  | cons z W =>
    have h1 : (List.map V.str (z :: W) ++ [V.non])[0]? = some (.str z) := rfl
    exact atI_nat (j := 0) h1
theorem pure__law_due {K : PySem.W.Frag} {E : XK} {Q : VK} {H : Hp} {a : Addr} {kvs : Kvs} {ks : List Str} (ha : H a = some (.dK kvs)) (A : Ab H kvs ks) (q : ∀ ys, Srt1 ks ys → ∀ H', Same H H' → Q (dueL kvs ys) H') :
    t__law_due K E { nx := fun _ H' => Q .non H', rt := Q } [some (.ref a), none, none, none] H := by
  unfold t__law_due
  walk_at "g"
  refine k_sortD ha A.keys (by have := A.len; omega) (fun ys p hp hs hn => ?_)
  have hlen : ys.length ≤ 20 := by have := hp.length_eq; have := A.len; omega
  have hk : ∀ z ∈ ys, z ∈ ks := fun z hz => hp.mem_iff.mp hz
  have q1 := q ys ⟨hp, hs⟩
  have s1 : Same H (upd H p (.lst (ys.map V.str))) := same_new hn
  refine k_lcL (.of upd_same) (by rw [List.length_map, sizeLine_eq]; omega) (badP kvs) id (fun x hx => ?_) (fun D H2 hD s2 hl => ?_)
  · obtain ⟨z, hz, rfl⟩ := List.mem_map.mp hx
    obtain ⟨v, hv, hv1⟩ := get_key A (hk z hz)
    intro H2 s2 R N hR hN
    have s12 := s1.trans s2
    walk_at "g"
    refine ⟨rfl, ?_⟩
    walk_at "g"
    refine ⟨.str z, rfl, .str (A.kl z (hk z hz)), fun H3 s3 => ?_⟩
    walk_at "g"
    show if (!okName z) = true then _ else _
    cases h1 : okName z with
    | false =>
      refine iteNF ?_
      walk_at "g"
      exact hR (by show badV kvs z = true; unfold badV; rw [h1]; rfl) _ s3
    | true =>
      refine iteNT ?_
      walk_at "g"
      refine k_ixD (hv ▸ DGet.k (k := Sum.inr z) ((s12.trans s3) _ _ ha)) ?_
      refine ⟨v, rfl, hv1.mono (s12.trans s3), fun H4 s4 => ?_⟩
      walk_at "g"
      have eb : badV kvs z = !vRight v := by unfold badV; rw [h1, hv]; rfl
      cases h2 : vRight v with
      | false =>
        walk_at "g"
        exact hR (by show badV kvs z = true; rw [eb, h2]; rfl) _ (s3.trans s4)
      | true =>
        walk_at "g"
        exact hN (by show badV kvs z = false; rw [eb, h2]; rfl) _ (s3.trans s4)
  have s12 := s1.trans s2
  rw [filter_strs (badV kvs) (badP kvs) (fun _ => rfl)] at hl
  walk_at "g"
  refine k_sortD (s12 _ _ ha) A.keys (by have := A.len; omega) (fun ys2 p2 hp2 hs2 hn2 => ?_)
  obtain rfl : ys2 = ys := sorted_eq (hp2.trans hp.symm) hs2 hs
  have s3 : Same H (upd H2 p2 (.lst (ys2.map V.str))) := same_up s12 hn2
  refine k_lcL (.of upd_same) (by rw [List.length_map, sizeLine_eq]; omega) (backP kvs) id (fun x hx => ?_) (fun D2 H4 hD2 s4 hl2 => ?_)
  · obtain ⟨z, hz, rfl⟩ := List.mem_map.mp hx
    intro H5 s5 R N hR hN
    have s35 := s3.trans s5
    walk_at "g"
    refine ⟨rfl, ?_⟩
    walk_at "g"
    refine ⟨.str z, a, kvs, ks, rfl, .str (A.kl z (hk z hz)), s35 _ _ ha, A.mono s35, fun pp l H6 s6 hpp hl6 _ => ?_⟩
    walk_at "g"
    refine k_ixT (.inl (.inl hpp)) rfl ?_
    walk_at "g"
    cases h1 : (upK kvs (.str z)).2 with
    | true =>
      walk_at "g"
      exact hR h1 _ s6
    | false =>
      walk_at "g"
      exact hN h1 _ s6
  rw [filter_strs (fun z => (upK kvs (.str z)).2) (backP kvs) (fun _ => rfl)] at hl2
  have s34 := s3.trans s4
  have hl4 := s4 _ _ (up_new (u := .lst (ys2.map V.str)) hl hn2)
  walk_at "g"
  refine ⟨by show 0 ≤ sizeLine; decide, fun p5 hp5 => ?_⟩
  have okW : ∀ (f : Str → Bool), ∀ z ∈ ys2.filter f, OkS z := fun f z hz => A.kl z (hk z ((List.mem_filter.mp hz).1))
  have wl : ∀ (f : Str → Bool), (ys2.filter f).length ≤ 20 := fun f => Nat.le_trans (List.length_filter_le _ _) hlen
  refine k_ne (.lst (.of (up_new hl4 hp5)) (dpAll_of (strs_val (okW _)))) (.lst (.of upd_same) .nil) (shaped_l (H := H) (strs_val (okW _))) (by decide) ?_
  walk_at "g"
  have fin : ∀ (b : Addr) (f : Str → Bool) (H6 : Hp), Same H H6 → H6 b = some (.lst ((ys2.filter f).map V.str)) → (dueL kvs ys2 = match ys2.filter f with | z :: _ => V.str z | [] => .non) → ∀ p6, H6 p6 = none → 
      rAddU K (.ref b) (.ref p6) (upd H6 p6 (.lst [.non])) fun x H7 => rIxU K x (.int 0) H7 Q := by
    intro b f H6 s6 hb e p6 hp6
    refine k_addL (up_new hb hp6) upd_same (by rw [List.length_map, sizeLine_eq]; have := wl f; show _ + 1 ≤ _; omega) (fun p7 hp7 => ?_)
    refine k_ixL (.of upd_same) (first_of _ _ e) ?_
    exact q1 _ (same_up (same_up s6 hp6) hp7)
  have s5 := same_up (u := .lst []) s34 hp5
  cases hW : ys2.filter (badV kvs) with
  | nil =>
    refine iteF ?_
    walk_at "g"
    refine ⟨by show 1 ≤ sizeLine; decide, fun p6 hp6 => ?_⟩
    refine fin D2 _ _ s5 (up_new hl2 hp5) ?_ p6 hp6
    unfold dueL
    first
      | (rw [hW]; done)
      | (rw [hW]; cases ys2.filter (fun z => (upK kvs (.str z)).2) <;> rfl)
  | cons z W =>
    refine iteT ?_
    walk_at "g"
    refine ⟨by show 1 ≤ sizeLine; decide, fun p6 hp6 => ?_⟩
    refine fin D _ _ s5 (up_new hl4 hp5) ?_ p6 hp6
    unfold dueL
    rw [hW]
theorem same_ofX {G H' : Hp} {x : Addr} {o : HO} (hx : G x = none) (s : SameX x (upd G x o) H') : Same G H' := fun b o' h => s b o' (up_new h hx) (ne_of_none h hx)
theorem dueL_cases (kvs : Kvs) (ys : List Str) : dueL kvs ys = .non ∨ ∃ z, dueL kvs ys = .str z ∧ z ∈ ys := by
  unfold dueL
  split
  · rename_i z _ h
    exact .inr ⟨z, rfl, (List.mem_filter.mp (h ▸ List.mem_cons_self : z ∈ ys.filter (badV kvs))).1⟩
  · split
    · rename_i z _ h
      exact .inr ⟨z, rfl, (List.mem_filter.mp (h ▸ List.mem_cons_self : z ∈ ys.filter fun z => (upK kvs (.str z)).2)).1⟩
    · exact .inl rfl
theorem pure__law_refused {K : PySem.W.Frag} {E : XK} {Q : VK} {H : Hp} {a : Addr} {kvs : Kvs} {ks : List Str} (hm : PySem.W.exmOne K (.ref (ga K "BadKinds")) (.ref (ga K "BadKinds")) = some true) (hx : ExcC K (ga K "BadKinds")) (hk : PySem.W.kitOne K (.ref (ga K "BadKinds")) (.type "ValueError") = some true)
    (ha : H a = some (.dK kvs)) (A : Ab H kvs ks) (q : ∀ ys, Srt1 ks ys → ∀ H', Same H H' → Q (dueL kvs ys) H') :
    t__law_refused K E { nx := fun _ H' => Q .non H', rt := Q } [some (.ref a), none] H := by
  unfold t__law_refused
  refine w_seq ?_
  unfold tTryAs
  walk_at "g"
  intro fd hfd
  walk_at "g"
  intro x dx hx1 hdx hne
  have s1 : Same H (upd H fd (.dK [])) := same_new hfd
  have s2 : Same H (upd (upd H fd (.dK [])) dx (.own x)) := same_up s1 hdx
  have hxn : upd (upd H fd (.dK [])) dx (.own x) x = none := by rw [upd_ne (Ne.symm hne)]; exact hx1
  have s3 : Same H (upd (upd (upd H fd (.dK [])) dx (.own x)) x (.ins (ga K "Program") dx [])) := same_up s2 hxn
  refine ⟨x, fd, dx, .ref a, rfl, upd_same, up_new (up_new upd_same hdx) hxn, kvs, ks, .inr ⟨a, rfl, s3 _ _ ha⟩, A.mono s3, fun ys hys => ⟨fun hn H' s' _ => ⟨rfl, ?_⟩, fun z hz d H' s' hd => ?_⟩⟩
  · have s4 := s2.trans (same_ofX hxn s')
    walk_at "g"
    have := q ys hys H' s4
    rw [hn] at this
    exact this
  · have s4 := s2.trans (same_ofX hxn s')
    refine ⟨true, hm, fun _ e he => ?_, fun h => by cases h⟩
    walk_at "g"
    refine ⟨ga K "BadKinds", _, .type "ValueError", true, d, _, rfl, hx, rfl, fun u hu => hu, hk, rfl, hd, ?_⟩
    walk_at "g"
    refine w_var rfl ?_
    refine ⟨rfl, rfl, d, _, _, rfl, hd, rfl, ?_⟩
    have := q ys hys H' s4
    rw [hz] at this
    exact this
end K63
namespace K63
open PySem PySem.Spec PyProof.Rows L2 Z He
local macro_rules | `(tactic| walk_at "s") => `(tactic| first
  | with_reducible refine w_seq ?_ | with_reducible refine w_asg ?_ | with_reducible refine w_op ?_ | ((with_reducible refine' w_var ?hv ?_); (case hv => exact rfl)) | with_reducible refine w_c ?_ | with_reducible refine w_name ?_
  | with_reducible refine w_cons ?_ | with_reducible refine w_nil ?_ | with_reducible refine w_cb ?_ | with_reducible refine w_call ?_ | with_reducible refine w_if ?_ | with_reducible refine w_test ?_ | with_reducible refine w_tru ?_
  | with_reducible refine w_not ?_ | with_reducible refine w_and ?_ | with_reducible refine w_or ?_ | with_reducible refine w_ret ?_ | with_reducible refine w_next ?_ | with_reducible refine w_drop ?_ | with_reducible refine w_par ?_
  | with_reducible refine w_ifx ?_ | with_reducible refine w_lst ?_ | with_reducible refine w_tup ?_ | with_reducible refine w_meth ?_ | with_reducible refine w_make ?_ | with_reducible refine w_fld ?_ | with_reducible refine w_sfld ?_
  | with_reducible refine w_bm ?_ | with_reducible refine w_get ?_ | with_reducible refine w_slc ?_ | with_reducible refine w_nopart ?_ | with_reducible refine w_part ?_ | with_reducible refine w_chain ?_ | with_reducible refine w_yes ?_
  | with_reducible refine w_newK ?_ | with_reducible refine w_andT ?_ | with_reducible refine w_orT ?_ | with_reducible refine w_set ?_ | with_reducible refine w_un ?_ | with_reducible refine w_for ?_ | with_reducible refine w_lc ?_
  | with_reducible refine w_iL ?_ | with_reducible refine w_iS ?_ | with_reducible refine w_iR1 ?_ | with_reducible refine w_retN ?_ | with_reducible refine w_cont ?_ | with_reducible refine w_break ?_
  | with_reducible refine w_gc ?_ | with_reducible refine w_gn ?_
  | with_reducible refine k_test ?_ | with_reducible refine k_tru ?_ | with_reducible refine k_par ?_ | with_reducible refine k_part ?_
  | with_reducible refine iteT ?_ | with_reducible refine iteF ?_ | with_reducible refine iteNT ?_ | with_reducible refine iteNF ?_
  | with_reducible refine k_addI ?_ | with_reducible refine k_isN ?_ | with_reducible refine k_notN ?_ | with_reducible refine k_lt ?_ | with_reducible refine k_le ?_ | with_reducible refine k_gt ?_ | with_reducible refine k_ge ?_ | with_reducible refine k_sub ?_)
local macro_rules | `(tactic| walk_at "g") => `(tactic| repeat walk_at "s")
theorem Ab.put {H : Hp} {kvs : Kvs} {ks : List Str} {z : Str} {v : V} (A : Ab H kvs ks) (hz : OkS z) (hv : Val1 H v) (hl : ks.length < 20) : ∃ ks', Ab H (putK kvs (.inr z : Key) v) ks' ∧ ks'.length ≤ ks.length + 1 := by
  unfold putK
  cases e : kvs.any fun kv => decide (kv.1 = (.inr z : Key)) with
  | true =>
    rw [if_pos rfl]
    refine ⟨ks, ⟨?_, A.len, A.kl, fun p hp => ?_⟩, by omega⟩
    · rw [← A.keys, List.map_map]
      refine List.map_congr_left fun p _ => ?_
      show (if p.1 = _ then (p.1, v) else p).1 = p.1
      split <;> rfl
    · obtain ⟨p0, h0, rfl⟩ := List.mem_map.mp hp
      split
      · exact hv
      · exact A.val p0 h0
  | false =>
    rw [if_neg Bool.false_ne_true]
    refine ⟨ks ++ [z], ⟨by rw [List.map_append, List.map_append, A.keys]; rfl, by rw [List.length_append]; show _ + 1 ≤ 20; omega, fun y hy => ?_, fun p hp => ?_⟩, by rw [List.length_append]; show _ + 1 ≤ _; omega⟩
    · rcases List.mem_append.mp hy with h | h
      · exact A.kl y h
      · rw [List.mem_singleton.mp h]; exact hz
    · rcases List.mem_append.mp hp with h | h
      · exact A.val p h
      · rw [List.mem_singleton.mp h]; exact hv
theorem Ab.nil {H : Hp} : Ab H [] [] := ⟨rfl, by decide, fun z h => absurd h (by simp), fun p h => absurd h (by simp)⟩
theorem Ab.klen {H : Hp} {kvs : Kvs} {ks : List Str} (A : Ab H kvs ks) : kvs.length = ks.length := by
  have := congrArg List.length A.keys
  rwa [List.length_map, List.length_map] at this
theorem Val1.same {H H' : Hp} {v : V} {b : Addr} {l : Kvs} (h : Val1 H v) (hb : H b = some (.dK l)) (s : SameX b H H') : Val1 H' v := by
  cases h with
  | non => exact .non
  | str h => exact .str h
  | seven => exact .seven
  | tru => exact .tru
  | tup h => exact .tup (s _ _ h (fun e => by rw [e, hb] at h; cases h))
theorem Ab.same {H H' : Hp} {kvs : Kvs} {ks : List Str} {b : Addr} {l : Kvs} (A : Ab H kvs ks) (hb : H b = some (.dK l)) (s : SameX b H H') : Ab H' kvs ks := ⟨A.keys, A.len, A.kl, fun p hp => (A.val p hp).same hb s⟩
theorem Val1.sameL {H H' : Hp} {v : V} {b : Addr} {l : List V} (h : Val1 H v) (hb : H b = some (.lst l)) (s : SameX b H H') : Val1 H' v := by
  cases h with
  | non => exact .non
  | str h => exact .str h
  | seven => exact .seven
  | tru => exact .tru
  | tup h => exact .tup (s _ _ h (fun e => by rw [e, hb] at h; cases h))
theorem Ab.sameL {H H' : Hp} {kvs : Kvs} {ks : List Str} {b : Addr} {l : List V} (A : Ab H kvs ks) (hb : H b = some (.lst l)) (s : SameX b H H') : Ab H' kvs ks := ⟨A.keys, A.len, A.kl, fun p hp => (A.val p hp).sameL hb s⟩
section
variable {K : PySem.W.Frag}
/-- the script, wherever the source of numbers is -/
def Scr (K : PySem.W.Frag) (H : Hp) (sc : Addr) (xs : List V) (so : Addr) : Prop := (Rd H sc (.lst xs) ∧ sc ≠ so) ∨ ∀ H', SqL K H' sc xs
theorem Scr.sq {H : Hp} {sc so : Addr} {xs : List V} (h : Scr K H sc xs so) : SqL K H sc xs := h.elim (fun h => .inl h.1) fun h => h H
theorem rd_x {H H' : Hp} {a b : Addr} {u : HO} (h : Rd H a u) (s : SameX b H H') (hn : a ≠ b) : Rd H' a u := h.elim (fun h => .inl (s _ _ h hn)) fun ⟨o, h⟩ => .inr ⟨o, s _ _ h hn⟩
structure Sta (K : PySem.W.Frag) (H : Hp) (sc so nm : Addr) (ns : List Int) (ss : List Str) (n : Nat) : Prop where
  scr : Scr K H sc (ns.map V.int) so
  src : Src H so n
  nms : H nm = some (.lst (ss.map V.str))
  six : ss.length = 6
  ok : ∀ z ∈ ss, OkS z
theorem Sta.ne {H : Hp} {sc so nm : Addr} {ns : List Int} {ss : List Str} {n : Nat} (s : Sta K H sc so nm ns ss n) : nm ≠ so := fun e => by
  obtain ⟨x, y, z, h, _⟩ := s.src
  have h2 := s.nms
  rw [e, h] at h2
  have h3 := congrArg (fun o => match o with | some (HO.lst l) => l.length | _ => 0) h2
  have h4 : 3 = (ss.map V.str).length := h3
  rw [List.length_map, s.six] at h4
  omega
theorem Sta.x {H H' : Hp} {sc so nm b : Addr} {ns : List Int} {ss : List Str} {n : Nat} (s : Sta K H sc so nm ns ss n) (t : SameX b H H') (h1 : sc ≠ b ∨ ∀ H', SqL K H' sc (ns.map V.int)) (h2 : so ≠ b) (h3 : nm ≠ b) : Sta K H' sc so nm ns ss n := by
  refine ⟨?_, ?_, t _ _ s.nms h3, s.six, s.ok⟩
  · rcases s.scr with ⟨h, h'⟩ | h
    · rcases h1 with h1 | h1
      · exact .inl ⟨rd_x h t h1, h'⟩
      · exact .inr h1
    · exact .inr h
  · obtain ⟨x, y, z, e, h⟩ := s.src
    exact ⟨x, y, z, t _ _ e h2, h⟩
theorem Sta.mono {H H' : Hp} {sc so nm : Addr} {ns : List Int} {ss : List Str} {n : Nat} (s : Sta K H sc so nm ns ss n) (t : Same H H') : Sta K H' sc so nm ns ss n := by
  refine ⟨?_, s.src.mono t, t _ _ s.nms, s.six, s.ok⟩
  rcases s.scr with ⟨h, h'⟩ | h
  · exact .inl ⟨h.elim (fun h => .inl (t _ _ h)) fun ⟨o, h⟩ => .inr ⟨o, t _ _ h⟩, h'⟩
  · exact .inr h
theorem Sta.drawn {H H' : Hp} {sc so nm : Addr} {ns : List Int} {ss : List Str} {n m : Nat} (s : Sta K H sc so nm ns ss n) (t : SameX so H H') (h : Src H' so m) : Sta K H' sc so nm ns ss m := by
  refine ⟨?_, h, t _ _ s.nms s.ne, s.six, s.ok⟩
  rcases s.scr with ⟨h, h'⟩ | h
  · exact .inl ⟨rd_x h t h', h'⟩
  · exact .inr h
theorem Sta.mutD {H H' : Hp} {sc so nm b : Addr} {l : Kvs} {ns : List Int} {ss : List Str} {n : Nat} (s : Sta K H sc so nm ns ss n) (hb : H b = some (.dK l)) (t : SameX b H H') : Sta K H' sc so nm ns ss n := by
  refine s.x t ?_ (fun e => ?_) (fun e => ?_)
  · rcases s.scr with ⟨h, _⟩ | h
    · refine .inl fun e => ?_
      rcases h with h | ⟨o, h⟩
      · rw [e, hb] at h; cases h
      · rw [e, hb] at h; cases h
    · exact .inr h
  · obtain ⟨x, y, z, h, _⟩ := s.src
    rw [e, hb] at h; cases h
  · have h := s.nms
    rw [e, hb] at h; cases h
theorem Sta.up {H : Hp} {sc so nm : Addr} {ns : List Int} {ss : List Str} {n m : Nat} (s : Sta K H sc so nm ns ss n) (l : n ≤ m) : Sta K H sc so nm ns ss m := ⟨s.scr, s.src.up l, s.nms, s.six, s.ok⟩
theorem Sta.at_ {H : Hp} {sc so nm : Addr} {ns : List Int} {ss : List Str} {n : Nat} (s : Sta K H sc so nm ns ss n) {i : Int} (h0 : 0 ≤ i) (h1 : i < 6) : ∃ z, atI (ss.map V.str) i = some (.str z) ∧ OkS z := by
  have hi : i.toNat < ss.length := by rw [s.six]; omega
  refine ⟨ss[i.toNat], ?_, s.ok _ (List.getElem_mem hi)⟩
  have h := atI_nat (xs := ss.map V.str) (j := i.toNat) (v := .str ss[i.toNat]) (by rw [List.getElem?_map, List.getElem?_eq_getElem hi]; rfl)
  rwa [show ((i.toNat : Nat) : Int) = i from by omega] at h
end
/-- None or a text -/
def Val0 (v : V) : Prop := v = .non ∨ ∃ z, v = .str z ∧ OkS z
theorem Val0.val {H : Hp} {v : V} (h : Val0 v) : Val1 H v := by
  rcases h with rfl | ⟨z, rfl, h⟩
  · exact .non
  · exact .str h
theorem at_mem {xs : List V} {i : Int} (h0 : 0 ≤ i) (h1 : i < (xs.length : Int)) : ∃ v, atI xs i = some v ∧ v ∈ xs := by
  have hi : i.toNat < xs.length := by omega
  refine ⟨xs[i.toNat], ?_, List.getElem_mem hi⟩
  have h := atI_nat (xs := xs) (j := i.toNat) (v := xs[i.toNat]) (List.getElem?_eq_getElem hi)
  rwa [show ((i.toNat : Nat) : Int) = i from by omega] at h
theorem val0_strs {ss : List Str} (h : ∀ z ∈ ss, OkS z) : ∀ v ∈ ss.map V.str, Val0 v := fun v hv => by
  obtain ⟨z, hz, rfl⟩ := List.mem_map.mp hv
  exact .inr ⟨z, rfl, h z hz⟩
theorem cut_mem {xs : List V} {lo hi : Option Int} {v : V} (h : v ∈ cutV xs lo hi) : v ∈ xs := List.mem_of_mem_drop (List.mem_of_mem_take h)
theorem rep_mem {xs : List V} {n : Nat} {v : V} (h : v ∈ (List.replicate n xs).flatten) : v ∈ xs := by
  obtain ⟨l, hl, hv⟩ := List.mem_flatten.mp h
  rw [(List.mem_replicate.mp hl).2] at hv
  exact hv
theorem okS_A : OkS "A" := ⟨by decide, by decide +kernel⟩
theorem okS_e : OkS "" := ⟨by decide, by decide +kernel⟩
theorem okS_i : OkS "abcdefghi" := ⟨by decide, by decide +kernel⟩
theorem okS_b : OkS "a b" := ⟨by decide, by decide +kernel⟩
theorem four_at {i : Int} (h0 : 0 ≤ i) (h1 : i < 4) : ∃ z, atI [V.str "A", V.str "", V.str "abcdefghi", V.str "a b"] i = some (.str z) ∧ OkS z := by
  have : i = 0 ∨ i = 1 ∨ i = 2 ∨ i = 3 := by omega
  rcases this with rfl | rfl | rfl | rfl
  · exact ⟨_, rfl, okS_A⟩
  · exact ⟨_, rfl, okS_e⟩
  · exact ⟨_, rfl, okS_i⟩
  · exact ⟨_, rfl, okS_b⟩
theorem five_at {H : Hp} {t : Addr} (ht : H t = some (.tup [.str "a"])) {i : Int} (h0 : 0 ≤ i) (h1 : i < 5) : ∃ v, atI [V.str "A", V.str "", V.int 7, V.ref t, V.bl true] i = some v ∧ Val1 H v := by
  have : i = 0 ∨ i = 1 ∨ i = 2 ∨ i = 3 ∨ i = 4 := by omega
  rcases this with rfl | rfl | rfl | rfl | rfl
  · exact ⟨_, rfl, .str okS_A⟩
  · exact ⟨_, rfl, .str okS_e⟩
  · exact ⟨_, rfl, .seven⟩
  · exact ⟨_, rfl, .tup ht⟩
  · exact ⟨_, rfl, .tru⟩
theorem srt_one {ks ys zs : List Str} (h : Srt1 ks ys) (k : Srt1 ks zs) : ys = zs := sorted_eq (h.1.trans k.1.symm) h.2 k.2
/-! ### when no kind is wrong -/
theorem due_bad0 {kvs : Kvs} {ys : List Str} (h : dueL kvs ys = .non) : (∀ z ∈ ys, badV kvs z = false) ∧ ∀ z ∈ ys, (upK kvs (.str z)).2 = false := by
  unfold dueL at h
  split at h
  · cases h
  · rename_i e
    split at h
    · cases h
    · rename_i e2
      refine ⟨fun z hz => ?_, fun z hz => ?_⟩
      · cases e3 : badV kvs z with
        | false => rfl
        | true => exact absurd (List.mem_filter.mpr ⟨hz, e3⟩) (by rw [e]; simp)
      · cases e3 : (upK kvs (.str z)).2 with
        | false => rfl
        | true => exact absurd (List.mem_filter.mpr ⟨hz, e3⟩) (by rw [e2]; simp)
theorem up_free {kvs : Kvs} {z : Str} (h : valV kvs (.inr z : Key) = none) : (upK kvs (.str z)).2 = false := by
  have e : nxt kvs (.str z) = .non := by show (valV kvs (.inr z : Key)).getD .non = .non; rw [h]; rfl
  show (upF kvs (kvs.length + 1 + 1) [] (.str z)).2 = false
  unfold upF
  rw [if_neg (by simp), if_neg (by simp [mem]), e]
  unfold upF
  rw [if_pos rfl]
theorem good_right {H : Hp} {kvs : Kvs} {ks ys : List Str} (A : Ab H kvs ks) (hy : Srt1 ks ys) (h : dueL kvs ys = .non) (z : Str) : vRight (nxt kvs (.str z)) = true := by
  show vRight ((valV kvs (.inr z : Key)).getD .non) = true
  cases e : valV kvs (.inr z : Key) with
  | none => rfl
  | some v =>
    have e0 := e
    unfold valV at e
    obtain ⟨p, hp, _⟩ := Option.map_eq_some_iff.mp e
    have h1 := List.mem_of_find?_eq_some hp
    have h2 := List.find?_some hp
    obtain ⟨z2, hz2, e2⟩ := key_str A p h1
    have e3 : p.1 = (.inr z : Key) := of_decide_eq_true h2
    rw [e2] at e3
    cases e3
    have hb := (due_bad0 h).1 z (hy.1.mem_iff.mpr hz2)
    unfold badV at hb
    rw [Bool.or_eq_false_iff, e0] at hb
    simpa using hb.2
theorem good_up {H : Hp} {kvs : Kvs} {ks ys : List Str} (A : Ab H kvs ks) (hy : Srt1 ks ys) (h : dueL kvs ys = .non) (z : Str) : (upK kvs (.str z)).2 = false := by
  cases e : valV kvs (.inr z : Key) with
  | none => exact up_free e
  | some v =>
    unfold valV at e
    obtain ⟨p, hp, _⟩ := Option.map_eq_some_iff.mp e
    have h1 := List.mem_of_find?_eq_some hp
    have h2 := List.find?_some hp
    obtain ⟨z2, hz2, e2⟩ := key_str A p h1
    have e3 : p.1 = (.inr z : Key) := of_decide_eq_true h2
    rw [e2] at e3
    cases e3
    exact (due_bad0 h).2 z (hy.1.mem_iff.mpr hz2)
end K63
namespace K63
open PySem PySem.Spec PyProof.Rows L2 Z He
local macro_rules | `(tactic| walk_at "s") => `(tactic| first
  | with_reducible refine w_seq ?_ | with_reducible refine w_asg ?_ | with_reducible refine w_op ?_ | ((with_reducible refine' w_var ?hv ?_); (case hv => exact rfl)) | with_reducible refine w_c ?_ | with_reducible refine w_name ?_
  | with_reducible refine w_cons ?_ | with_reducible refine w_nil ?_ | with_reducible refine w_cb ?_ | with_reducible refine w_call ?_ | with_reducible refine w_if ?_ | with_reducible refine w_test ?_ | with_reducible refine w_tru ?_
  | with_reducible refine w_not ?_ | with_reducible refine w_and ?_ | with_reducible refine w_or ?_ | with_reducible refine w_ret ?_ | with_reducible refine w_next ?_ | with_reducible refine w_drop ?_ | with_reducible refine w_par ?_
  | with_reducible refine w_ifx ?_ | with_reducible refine w_lst ?_ | with_reducible refine w_tup ?_ | with_reducible refine w_meth ?_ | with_reducible refine w_make ?_ | with_reducible refine w_fld ?_ | with_reducible refine w_sfld ?_
  | with_reducible refine w_bm ?_ | with_reducible refine w_get ?_ | with_reducible refine w_slc ?_ | with_reducible refine w_nopart ?_ | with_reducible refine w_part ?_ | with_reducible refine w_chain ?_ | with_reducible refine w_yes ?_
  | with_reducible refine w_newK ?_ | with_reducible refine w_andT ?_ | with_reducible refine w_orT ?_ | with_reducible refine w_set ?_ | with_reducible refine w_un ?_ | with_reducible refine w_for ?_ | with_reducible refine w_lc ?_
  | with_reducible refine w_iL ?_ | with_reducible refine w_iS ?_ | with_reducible refine w_iR1 ?_ | with_reducible refine w_retN ?_ | with_reducible refine w_cont ?_ | with_reducible refine w_break ?_
  | with_reducible refine w_gc ?_ | with_reducible refine w_gn ?_
  | with_reducible refine k_test ?_ | with_reducible refine k_tru ?_ | with_reducible refine k_par ?_ | with_reducible refine k_part ?_
  | with_reducible refine iteT ?_ | with_reducible refine iteF ?_ | with_reducible refine iteNT ?_ | with_reducible refine iteNF ?_
  | with_reducible refine k_addI ?_ | with_reducible refine k_isN ?_ | with_reducible refine k_notN ?_ | with_reducible refine k_lt ?_ | with_reducible refine k_le ?_ | with_reducible refine k_gt ?_ | with_reducible refine k_ge ?_ | with_reducible refine k_sub ?_)
local macro_rules | `(tactic| walk_at "g") => `(tactic| repeat walk_at "s")
theorem upd_x {H : Hp} {b : Addr} {o : HO} : SameX b H (upd H b o) := fun c o' h e => up_oth e h
theorem w_seqJ {t u : TS} {n : L2.St → Hp → Prop} {r : VK} {b c : L2.St → Hp → Prop} {σ : L2.St} {H : Hp} (J : L2.St → Hp → Prop) (h1 : ∀ N : L2.St → Hp → Prop, (∀ σ' H', J σ' H' → N σ' H') → t ⟨N, r, b, c⟩ σ H) (h2 : ∀ σ' H', J σ' H' → u ⟨n, r, b, c⟩ σ' H') : tSeq t u ⟨n, r, b, c⟩ σ H := h1 _ h2
theorem PrAt.mono {K : PySem.W.Frag} {H H' : Hp} {x : Addr} {kvs : Kvs} (h : PrAt K H x kvs) (s : Same H H') : PrAt K H' x kvs := by
  obtain ⟨dx, f1, f2, f3, h1, h2⟩ := h
  exact ⟨dx, f1, f2, f3, s _ _ h1, s _ _ h2⟩
/-- what stands in the two loops over names -/
structure Pair (K : PySem.W.Frag) (H : Hp) (ab x : Addr) (kvs : Kvs) (ks : List Str) (due : V) : Prop where
  pr : PrAt K H x kvs
  ab_ : Ab H kvs ks
  right : ∀ z, vRight (nxt kvs (.str z)) = true
  back : ∀ z, (upK kvs (.str z)).2 = false
  link : (due = .non ∧ H ab = some (.dK kvs)) ∨ (due ≠ .non ∧ kvs = [])
theorem Pair.mono {K : PySem.W.Frag} {H H' : Hp} {ab x : Addr} {kvs : Kvs} {ks : List Str} {due : V} (h : Pair K H ab x kvs ks due) (s : Same H H') : Pair K H' ab x kvs ks due :=
  ⟨h.pr.mono s, h.ab_.mono s, h.right, h.back, h.link.imp (fun h => ⟨h.1, s _ _ h.2⟩) id⟩
theorem up_nil (z : Str) : upK [] (.str z) = ([.str z], false) := by
  show upF [] 2 [] (.str z) = _
  unfold upF
  rw [if_neg (by simp), if_neg (by simp [mem])]
  rfl
theorem pure_law {K : PySem.W.Frag} {E : XK} {Q : VK} {H : Hp} {sc : Addr} {ns : List Int} (hs : SqL K H sc (ns.map V.int)) (hl : ns.length ≤ 63) (q : ∀ H', Q (.bl true) H') :
    t_law K E { nx := fun _ H' => Q .non H', rt := Q } [some (.ref sc), none, none, none, none, none, none, none, none, none, none, none, none, none] H := by
  unfold t_law
  walk_at "g"
  refine k_lenL hs ?_
  walk_at "g"
  rw [List.length_map]
  refine ⟨6, (ns.length : Int), rfl, ?_⟩
  walk_at "g"
  refine ⟨1, _, rfl, ?_⟩
  walk_at "g"
  have hj : (if (if (ns.length : Int) < 6 then (ns.length : Int) else 6) > 1 then (if (ns.length : Int) < 6 then (ns.length : Int) else 6) else 1) ≤ 6 ∧ 1 ≤ (if (if (ns.length : Int) < 6 then (ns.length : Int) else 6) > 1 then (if (ns.length : Int) < 6 then (ns.length : Int) else 6) else 1) := by
    split <;> split <;> omega
  generalize (if (if (ns.length : Int) < 6 then (ns.length : Int) else 6) > 1 then (if (ns.length : Int) < 6 then (ns.length : Int) else 6) else 1) = j at *
  refine k_forR (by omega) (by omega) (fun i σ H1 => SqL K H1 sc (ns.map V.int) ∧ ∃ v1 v2 v3 v4 v5 v6 v7 v8 v9 v10 v11 v12 v13, σ = [some (.ref sc), v1, v2, v3, v4, v5, v6, v7, v8, v9, v10, v11, v12, v13]) ⟨hs, _, _, _, _, _, _, _, _, _, _, _, _, _, rfl⟩ ?_ (fun σ H1 h => by walk_at "g"; exact q H1)
  rintro i σ H1 hi ⟨hs1, v1, v2, v3, v4, v5, v6, v7, v8, v9, v10, v11, v12, v13, rfl⟩
  walk_at "g"
  refine ⟨sc, ns, 0 + (i : Int), rfl, hs1, hl, by omega, by omega, fun so H2 hso s2 sr2 => ?_⟩
  have scr2 : Scr K H2 sc (ns.map V.int) so := by
    rcases hs1 with h | h
    · refine .inl ⟨h.elim (fun h => .inl (s2 _ _ h)) fun ⟨o, h⟩ => .inr ⟨o, s2 _ _ h⟩, fun e => ?_⟩
      rcases h with h | ⟨o, h⟩
      · rw [e, hso] at h; cases h
      · rw [e, hso] at h; cases h
    · exact .inr fun _ => .inr h
  walk_at "g"
  refine ⟨so, 0, rfl, sr2, by decide, fun nm ss H3 hnm hne six hok s3 sr3 hn3 => ?_⟩
  have S3 : Sta K H3 sc so nm ns ss 20 := ⟨by
    rcases scr2 with ⟨h, h'⟩ | h
    · exact .inl ⟨rd_x h s3 h', h'⟩
    · exact .inr h, sr3, hn3, six, hok⟩
  clear scr2 sr2 sr3 hn3 s2 s3 hs1 hs hnm hne
  walk_at "g"
  refine k_forR (by decide) (by decide) (fun i σ H1 => i ≤ 8 ∧ Sta K H1 sc so nm ns ss (20 + 20 * i) ∧ ∃ v1 v4 v5 v6 v7 v8 v9 v10 v11 v12 v13, σ = [some (.ref sc), v1, some (.ref so), some (.ref nm), v4, v5, v6, v7, v8, v9, v10, v11, v12, v13]) ⟨by decide, S3, _, _, _, _, _, _, _, _, _, _, _, rfl⟩ ?_
    (fun σ H1 h => by obtain ⟨_, h, _, _, _, _, _, _, _, _, _, _, _, rfl⟩ := h; exact ⟨h.scr.sq, _, _, _, _, _, _, _, _, _, _, _, _, _, rfl⟩)
  clear S3 H3 v1 v2 v3 v4 v5 v6 v7 v8 v9 v10 v11 v12 v13 H2 hso H1
  rintro tn σ H1 htn ⟨_, S1, v1, v4, v5, v6, v7, v8, v9, v10, v11, v12, v13, rfl⟩
  have htn8 : tn < 8 := htn
  walk_at "g"
  intro ab hab
  have S2 := S1.mono (same_new (u := .dK []) hab)
  have hab2 : upd H1 ab (.dK []) ab = some (.dK []) := upd_same
  generalize upd H1 ab (.dK []) = H2 at *
  clear S1 hab H1
  walk_at "g"
  refine ⟨so, _, 6, rfl, S2.src, by omega, by decide, by decide, fun r H3 r0 r1 s3 sr3 => ?_⟩
  have S3 := S2.drawn s3 sr3
  have abne : ab ≠ so := fun e => by
    obtain ⟨x, y, z, h, _⟩ := S2.src
    rw [← e, hab2] at h; cases h
  have hab3 := s3 _ _ hab2 abne
  clear S2 s3 sr3 hab2 H2
  walk_at "g"
  refine k_forR (by omega) (by omega) (fun i σ H1 => i ≤ 5 ∧ Sta K H1 sc so nm ns ss (20 + 20 * tn + 1 + i) ∧ (∃ kvs ks, H1 ab = some (.dK kvs) ∧ Ab H1 kvs ks ∧ ks.length ≤ i) ∧ ∃ v1 v4 v6 v7 v8 v9 v10 v11 v12 v13, σ = [some (.ref sc), v1, some (.ref so), some (.ref nm), v4, some (.ref ab), v6, v7, v8, v9, v10, v11, v12, v13]) ⟨by decide, S3, ⟨[], [], hab3, .nil, by decide⟩, _, _, _, _, _, _, _, _, _, _, rfl⟩ ?_ ?_
  · clear S3 hab3 H3 v1 v4 v5 v6 v7 v8 v9 v10 v11 v12 v13
    rintro at_ σ H1 hat ⟨_, S1, ⟨kvs, ks, hab1, A, hks⟩, v1, v4, v6, v7, v8, v9, v10, v11, v12, v13, rfl⟩
    have hat5 : at_ ≤ 4 := by omega
    walk_at "g"
    obtain ⟨z5, e5, ok5⟩ := S1.at_ (i := 5) (by decide) (by decide)
    refine k_ixL (.of S1.nms) e5 ?_
    walk_at "g"
    refine ⟨by show 3 ≤ sizeLine; decide, fun p1 hp1 => ?_⟩
    have t1 := same_new (u := .lst [.non, .non, .str z5]) hp1
    have c1 : upd H1 p1 (.lst [.non, .non, .str z5]) p1 = some (.lst [.non, .non, .str z5]) := upd_same
    generalize upd H1 p1 (.lst [.non, .non, .str z5]) = H2 at *
    walk_at "g"
    refine .inl ⟨nm, _, rfl, .of (t1 _ _ S1.nms), fun p2 hp2 => ?_⟩
    have l2 := cutV_length (ss.map V.str) none (some (0 + (at_ : Int)))
    have m2 : ∀ v ∈ cutV (ss.map V.str) none (some (0 + (at_ : Int))), Val0 v := fun v hv => val0_strs hok v (cut_mem hv)
    rw [List.length_map, six] at l2
    generalize cutV (ss.map V.str) none (some (0 + (at_ : Int))) = x2 at *
    have t2 := same_up (u := .lst x2) t1 hp2
    have c2 : upd H2 p2 (.lst x2) p1 = some (.lst [.non, .non, .str z5]) := up_new c1 hp2
    walk_at "g"
    refine k_mulL upd_same (by decide) (by decide) (by rw [sizeLine_eq]; show x2.length * 3 ≤ _; omega) (fun p3 hp3 => ?_)
    have l3 : ((List.replicate (3 : Int).toNat x2).flatten).length ≤ 18 := by show (x2 ++ (x2 ++ (x2 ++ []))).length ≤ 18; simp only [List.length_append, List.length_nil]; omega
    have m3 : ∀ v ∈ (List.replicate (3 : Int).toNat x2).flatten, Val0 v := fun v hv => m2 v (rep_mem hv)
    generalize (List.replicate (3 : Int).toNat x2).flatten = x3 at *
    have t3 := same_up (u := .lst x3) t2 hp3
    have c3 := up_new (u := .lst x3) c2 hp3
    have d3 : upd (upd H2 p2 (.lst x2)) p3 (.lst x3) p3 = some (.lst x3) := upd_same
    generalize upd (upd H2 p2 (.lst x2)) p3 (.lst x3) = H3 at *
    refine k_addL c3 d3 (by rw [sizeLine_eq]; show 3 + _ ≤ _; omega) (fun p4 hp4 => ?_)
    have t4 := same_up (u := .lst ([.non, .non, .str z5] ++ x3)) t3 hp4
    have c4 : upd H3 p4 (.lst ([.non, .non, .str z5] ++ x3)) p4 = some (.lst ([.non, .non, .str z5] ++ x3)) := upd_same
    generalize upd H3 p4 (.lst ([.non, .non, .str z5] ++ x3)) = H4 at *
    walk_at "g"
    refine .inl ⟨nm, _, rfl, .of (t4 _ _ S1.nms), fun p5 hp5 => ?_⟩
    have l5 := cutV_length (ss.map V.str) none (some 5)
    have m5 : ∀ v ∈ cutV (ss.map V.str) none (some 5), Val0 v := fun v hv => val0_strs hok v (cut_mem hv)
    rw [List.length_map, six] at l5
    generalize cutV (ss.map V.str) none (some 5) = x5 at *
    have t5 := same_up (u := .lst x5) t4 hp5
    refine k_addL (up_new c4 hp5) upd_same (by rw [sizeLine_eq, List.length_append]; show 3 + _ + _ ≤ _; omega) (fun p6 hp6 => ?_)
    have l6 : ([V.non, .non, .str z5] ++ x3 ++ x5).length = 3 + x3.length + x5.length := by rw [List.length_append, List.length_append]; rfl
    have m6 : ∀ v ∈ [V.non, .non, .str z5] ++ x3 ++ x5, Val0 v := fun v hv => by
      rcases List.mem_append.mp hv with hv | hv
      · rcases List.mem_append.mp hv with hv | hv
        · simp only [List.mem_cons, List.not_mem_nil, or_false] at hv
          rcases hv with rfl | rfl | rfl
          · exact .inl rfl
          · exact .inl rfl
          · exact .inr ⟨_, rfl, ok5⟩
        · exact m3 v hv
      · exact m5 v hv
    generalize [V.non, .non, .str z5] ++ x3 ++ x5 = x6 at *
    have t6 := same_up (u := .lst x6) t5 hp6
    have c6 : upd (upd H4 p5 (.lst x5)) p6 (.lst x6) p6 = some (.lst x6) := upd_same
    have n6 : p6 ≠ so := (S1.mono t5).src.ne hp6
    generalize upd (upd H4 p5 (.lst x5)) p6 (.lst x6) = H6 at *
    have S6 := S1.mono t6
    have hab6 := t6 _ _ hab1
    have A6 := A.mono t6
    clear t1 t2 t3 t4 t5 t6 c1 c2 c3 c4 hp1 hp2 hp3 hp4 hp5 hp6
    walk_at "g"
    refine k_lenL (.of c6) ?_
    walk_at "g"
    refine ⟨so, _, _, rfl, S6.src, by omega, by omega, by omega, fun r2 H7 r20 r21 s7 sr7 => ?_⟩
    have S7 := S6.drawn s7 sr7
    obtain ⟨v, ev, hv⟩ := at_mem r20 r21
    refine k_ixL (.of (s7 _ _ c6 n6)) ev ?_
    walk_at "g"
    obtain ⟨z, ez, okz⟩ := S7.at_ (i := 0 + (at_ : Int)) (by omega) (by omega)
    refine k_ixL (.of S7.nms) ez ?_
    have hab7 := s7 _ _ hab6 abne
    have A7 : Ab H7 kvs ks := by
      obtain ⟨x, y, z, h, _⟩ := S6.src
      exact A6.sameL h s7
    obtain ⟨ks', A8, hk8⟩ := A7.put (z := z) okz (m6 v hv).val (by omega)
    refine k_setD (k := .inr z) hab7 (by rw [A7.klen, sizeLine_eq]; omega) ?_
    exact ⟨by omega, S7.mutD hab7 upd_x, ⟨_, ks', upd_same, A8.same hab7 upd_x, by omega⟩, _, _, _, _, _, _, _, _, _, _, rfl⟩
  · clear S3 hab3 H3 v1 v4 v5 v6 v7 v8 v9 v10 v11 v12 v13
    rintro σ H1 ⟨hr5, S1, ⟨kvs, ks, hab1, A, hks⟩, v1, v4, v6, v7, v8, v9, v10, v11, v12, v13, rfl⟩
    replace S1 := S1.up (m := 20 + 20 * tn + 6) (by omega)
    refine w_seqJ (fun σ H => Sta K H sc so nm ns ss (20 + 20 * tn + 8) ∧ (∃ kvs ks, H ab = some (.dK kvs) ∧ Ab H kvs ks ∧ ks.length ≤ 6) ∧ ∃ v1 v4 v6 v7 v8 v9 v10 v11 v12 v13, σ = [some (.ref sc), v1, some (.ref so), some (.ref nm), v4, some (.ref ab), v6, v7, v8, v9, v10, v11, v12, v13]) (fun N hN => ?_) ?_
    · walk_at "g"
      refine ⟨so, _, 4, rfl, S1.src, by omega, by decide, by decide, fun r2 H2 r20 r21 s2 sr2 => ?_⟩
      have S2 := S1.drawn s2 sr2
      have A2 : Ab H2 kvs ks := by
        obtain ⟨x, y, z, h, _⟩ := S1.src
        exact A.sameL h s2
      have hab2 := s2 _ _ hab1 abne
      walk_at "g"
      refine k_eq (.int _) (.int _) rfl rfl ?_
      walk_at "g"
      refine ite2 (fun _ => ?_) (fun _ => ?_)
      · walk_at "g"
        refine ⟨by show 4 ≤ sizeLine; decide, fun p1 hp1 => ?_⟩
        have t1 := same_new (u := .lst [.str "A", .str "", .str "abcdefghi", .str "a b"]) hp1
        have S3 := S2.mono t1
        walk_at "g"
        refine ⟨so, _, 4, rfl, S3.src, by omega, by decide, by decide, fun r3 H4 r30 r31 s4 sr4 => ?_⟩
        have S4 := S3.drawn s4 sr4
        obtain ⟨z, ez, okz⟩ := four_at r30 r31
        refine k_ixL (.of (s4 _ _ upd_same (S2.src.ne hp1))) ez ?_
        have hab4 := s4 _ _ (t1 _ _ hab2) abne
        have A4 : Ab H4 kvs ks := by
          obtain ⟨x, y, z, h, _⟩ := S3.src
          exact (A2.mono t1).sameL h s4
        obtain ⟨ks', A5, hk5⟩ := A4.put (z := z) (v := .non) okz .non (by omega)
        refine k_setD (k := .inr z) hab4 (by rw [A4.klen, sizeLine_eq]; omega) ?_
        exact hN _ _ ⟨S4.mutD hab4 upd_x, ⟨_, ks', upd_same, A5.same hab4 upd_x, by omega⟩, _, _, _, _, _, _, _, _, _, _, rfl⟩
      · walk_at "g"
        exact hN _ _ ⟨S2.up (by omega), ⟨kvs, ks, hab2, A2, by omega⟩, _, _, _, _, _, _, _, _, _, _, rfl⟩
    clear S1 hab1 A hks hr5 kvs ks v1 v4 v6 v7 v8 v9 v10 v11 v12 v13 H1
    rintro σ H1 ⟨S1, ⟨kvs, ks, hab1, A, hks⟩, v1, v4, v6, v7, v8, v9, v10, v11, v12, v13, rfl⟩
    refine w_seqJ (fun σ H => Sta K H sc so nm ns ss (20 + 20 * tn + 20) ∧ (∃ kvs ks, H ab = some (.dK kvs) ∧ Ab H kvs ks ∧ ks.length ≤ 7) ∧ ∃ v1 v4 v6 v7 v8 v9 v10 v11 v12 v13, σ = [some (.ref sc), v1, some (.ref so), some (.ref nm), v4, some (.ref ab), v6, v7, v8, v9, v10, v11, v12, v13]) (fun N hN => ?_) ?_
    · walk_at "g"
      intro d1 hd1
      have t1 := same_new (u := .dK []) hd1
      refine k_neE (t1 _ _ hab1) upd_same ?_
      walk_at "g"
      have S2 := S1.mono t1
      have A2 := A.mono t1
      have hab2 := t1 _ _ hab1
      clear hd1
      generalize upd H1 d1 (.dK []) = H2 at *
      clear t1
      cases hke : kvs.isEmpty with
      | true =>
        refine iteNT ?_
        walk_at "g"
        exact hN _ _ ⟨S2.up (by omega), ⟨kvs, ks, hab2, A2, by omega⟩, _, _, _, _, _, _, _, _, _, _, rfl⟩
      | false =>
        refine iteNF ?_
        have hk0 : 0 < kvs.length := by
          cases kvs with
          | nil => cases hke
          | cons a l => simp
        walk_at "g"
        refine ⟨so, _, 4, rfl, S2.src, by omega, by decide, by decide, fun r3 H3 r30 r31 s3 sr3 => ?_⟩
        have S3 := S2.drawn s3 sr3
        have A3 : Ab H3 kvs ks := by
          obtain ⟨x, y, z, h, _⟩ := S2.src
          exact A2.sameL h s3
        have hab3 := s3 _ _ hab2 abne
        walk_at "g"
        refine k_eq (.int _) (.int _) rfl rfl ?_
        walk_at "g"
        refine ite2 (fun _ => ?_) (fun _ => ?_)
        · walk_at "g"
          refine k_sortD hab3 A3.keys (by omega) (fun ys p hp hss hn => ?_)
          have t4 := same_new (u := .lst (ys.map V.str)) hn
          have S4 := S3.mono t4
          walk_at "g"
          refine k_lenD (t4 _ _ hab3) ?_
          walk_at "g"
          refine ⟨so, _, _, rfl, S4.src, by omega, by omega, by have := A3.klen; omega, fun r5 H5 r50 r51 s5 sr5 => ?_⟩
          have S5 := S4.drawn s5 sr5
          obtain ⟨u, eu, hu⟩ := at_mem (xs := ys.map V.str) r50 (by rw [List.length_map, hp.length_eq, ← A3.klen]; exact r51)
          refine k_ixL (.of (s5 _ _ upd_same (S3.src.ne hn))) eu ?_
          obtain ⟨z, hz, rfl⟩ := List.mem_map.mp hu
          have okz : OkS z := A3.kl z (hp.mem_iff.mp hz)
          have A5 : Ab H5 kvs ks := by
            obtain ⟨x, y, z, h, _⟩ := S4.src
            exact (A3.mono t4).sameL h s5
          have hab5 := s5 _ _ (t4 _ _ hab3) abne
          walk_at "g"
          refine ⟨by show 1 ≤ sizeLine; decide, fun t ht => ?_⟩
          have t6 := same_new (u := .tup [.str "a"]) ht
          walk_at "g"
          refine ⟨by show 5 ≤ sizeLine; decide, fun p7 hp7 => ?_⟩
          have t7 := same_up (u := .lst [.str "A", .str "", .int 7, .ref t, .bl true]) t6 hp7
          have ht7 := up_new (u := .lst [.str "A", .str "", .int 7, .ref t, .bl true]) (upd_same (H := H5) (a := t) (o := .tup [.str "a"])) hp7
          have S7 := S5.mono t7
          walk_at "g"
          refine ⟨so, _, 5, rfl, S7.src, by omega, by decide, by decide, fun r8 H8 r80 r81 s8 sr8 => ?_⟩
          have S8 := S7.drawn s8 sr8
          obtain ⟨v, ev, hv⟩ := five_at (s8 _ _ ht7 (S5.src.ne ht)) r80 r81
          refine k_ixL (.of (s8 _ _ upd_same ((S5.mono t6).src.ne hp7))) ev ?_
          walk_at "g"
          have hab8 := s8 _ _ (t7 _ _ hab5) abne
          have A8 : Ab H8 kvs ks := by
            obtain ⟨x, y, z, h, _⟩ := S7.src
            exact (A5.mono t7).sameL h s8
          obtain ⟨ks', A9, hk9⟩ := A8.put (z := z) okz hv (by omega)
          refine k_setD (k := .inr z) hab8 (by rw [A8.klen, sizeLine_eq]; omega) ?_
          exact hN _ _ ⟨(S8.mutD hab8 upd_x).up (by omega), ⟨_, ks', upd_same, A9.same hab8 upd_x, by omega⟩, _, _, _, _, _, _, _, _, _, _, rfl⟩
        · walk_at "g"
          exact hN _ _ ⟨S3.up (by omega), ⟨kvs, ks, hab3, A3, by omega⟩, _, _, _, _, _, _, _, _, _, _, rfl⟩
    clear S1 hab1 A hks kvs ks v1 v4 v6 v7 v8 v9 v10 v11 v12 v13 H1
    rintro σ H1 ⟨S1, ⟨kvs, ks, hab1, A, hks⟩, v1, v4, v6, v7, v8, v9, v10, v11, v12, v13, rfl⟩
    walk_at "g"
    refine ⟨ab, kvs, ks, rfl, hab1, A, fun ys hys H2 s2 => ?_⟩
    have S2 := S1.mono s2
    have A2 := A.mono s2
    have hab2 := s2 _ _ hab1
    clear S1 A hab1 s2 H1
    walk_at "g"
    refine ⟨ab, kvs, ks, rfl, hab2, A2, fun ys2 hys2 H3 s3 => ?_⟩
    obtain rfl := srt_one hys hys2
    have S3 := S2.mono s3
    have A3 := A2.mono s3
    have hab3 := s3 _ _ hab2
    clear S2 A2 hab2 s3 H2
    have hdv : Val1 H3 (dueL kvs ys) := by
      rcases dueL_cases kvs ys with e | ⟨z, e, hz⟩
      · rw [e]; exact .non
      · rw [e]; exact .str (A3.kl z (hys.1.mem_iff.mp hz))
    walk_at "g"
    refine k_ne (dp_of hdv) (dp_of hdv) (shaped_v hdv) (shaped_v hdv) ?_
    rw [eqv_self hdv]
    refine k_test ?_
    refine iteNT ?_
    refine w_next ?_
    refine w_seqJ (fun σ H => Sta K H sc so nm ns ss (20 + 20 * tn + 20) ∧ ∃ x kvs' ks', Pair K H ab x kvs' ks' (dueL kvs ys) ∧ ∃ v1 v4 v6 v7 v8 v11 v12 v13, σ = [some (.ref sc), v1, some (.ref so), some (.ref nm), v4, some (.ref ab), v6, v7, v8, some (dueL kvs ys), some (.ref x), v11, v12, v13]) (fun N hN => ?_) ?_
    · walk_at "g"
      have mk : ∀ (P : Prop) [Decidable P] (A B : Prop), (P → A) → (¬ P → B) → if decide P = true then A else B := fun P _ A B h1 h2 => ite2 (fun h => h1 (of_decide_eq_true h)) (fun h => h2 (fun p => h (decide_eq_true p)))
      refine mk _ _ _ (fun hd => ?_) (fun hd => ?_)
      · walk_at "g"
        intro fd hfd
        walk_at "g"
        intro x dx hx1 hdx hne
        have t1 := same_new (u := .dK []) hfd
        have t2 := same_up (u := .own x) t1 hdx
        have hxn : upd (upd H3 fd (.dK [])) dx (.own x) x = none := by rw [upd_ne (Ne.symm hne)]; exact hx1
        have t3 := same_up (u := .ins (ga K "Program") dx []) t2 hxn
        refine ⟨x, fd, dx, .ref ab, rfl, upd_same, up_new (up_new upd_same hdx) hxn, kvs, ks, .inr ⟨ab, rfl, t3 _ _ hab3⟩, A3.mono t3, fun ys2 hys2 => ⟨fun hn H' s' pr => ⟨rfl, ?_⟩, fun z hz => ?_⟩⟩
        · have t4 := t2.trans (same_ofX hxn s')
          walk_at "g"
          exact hN _ _ ⟨S3.mono t4, x, kvs, ks, ⟨pr, A3.mono t4, good_right A3 hys hd, good_up A3 hys hd, .inl ⟨hd, t4 _ _ hab3⟩⟩, _, _, _, _, _, _, _, _, rfl⟩
        · obtain rfl := srt_one hys hys2
          rw [hd] at hz; cases hz
      · walk_at "g"
        intro fd hfd
        walk_at "g"
        intro x dx hx1 hdx hne
        have t1 := same_new (u := .dK []) hfd
        have t2 := same_up (u := .own x) t1 hdx
        have hxn : upd (upd H3 fd (.dK [])) dx (.own x) x = none := by rw [upd_ne (Ne.symm hne)]; exact hx1
        refine ⟨x, fd, dx, .non, rfl, upd_same, up_new (up_new upd_same hdx) hxn, [], [], .inl ⟨rfl, rfl⟩, .nil, fun ys2 hys2 => ⟨fun hn H' s' pr => ⟨rfl, ?_⟩, fun z hz => ?_⟩⟩
        · have t4 := t2.trans (same_ofX hxn s')
          walk_at "g"
          exact hN _ _ ⟨S3.mono t4, x, [], [], ⟨pr, .nil, fun z => rfl, fun z => by rw [up_nil], .inr ⟨hd, rfl⟩⟩, _, _, _, _, _, _, _, _, rfl⟩
        · obtain rfl := List.Perm.eq_nil hys2.1
          cases hz
    generalize dueL kvs ys = due at *
    clear S3 A3 hab3 hdv hys hys2 hks ys kvs ks v1 v4 v6 v7 v8 v9 v10 v11 v12 v13 H3
    rintro σ H1 ⟨S1, x, kvs, ks, P1, v1, v4, v6, v7, v8, v11, v12, v13, rfl⟩
    walk_at "g"
    refine k_forL (.of S1.nms) (fun i σ H => Sta K H sc so nm ns ss (20 + 20 * tn + 20) ∧ Pair K H ab x kvs ks due ∧ ∃ v1 v4 v6 v7 v8 v11 v12 v13, σ = [some (.ref sc), v1, some (.ref so), some (.ref nm), v4, some (.ref ab), v6, v7, v8, some due, some (.ref x), v11, v12, v13]) ⟨S1, P1, _, _, _, _, _, _, _, _, rfl⟩ (fun i σ H1 _ h => .of h.1.nms) ?_
      (fun σ H1 h => by obtain ⟨h, _, _, _, _, _, _, _, _, _, rfl⟩ := h; exact ⟨by omega, h.up (by omega), _, _, _, _, _, _, _, _, _, _, _, rfl⟩)
    clear S1 P1 v1 v4 v6 v7 v8 v11 v12 v13 H1
    rintro i1 y1 σ H1 hy1 ⟨S1, P1, v1, v4, v6, v7, v8, v11, v12, v13, rfl⟩
    rw [List.getElem?_map] at hy1
    obtain ⟨kd, hkd, rfl⟩ := Option.map_eq_some_iff.mp hy1
    have okk := hok kd (List.mem_of_getElem? hkd)
    walk_at "g"
    refine k_forL (.of S1.nms) (fun i σ H => Sta K H sc so nm ns ss (20 + 20 * tn + 20) ∧ Pair K H ab x kvs ks due ∧ ∃ v1 v4 v6 v7 v8 v12 v13, σ = [some (.ref sc), v1, some (.ref so), some (.ref nm), v4, some (.ref ab), v6, v7, v8, some due, some (.ref x), some (.str kd), v12, v13]) ⟨S1, P1, _, _, _, _, _, _, _, rfl⟩ (fun i σ H1 _ h => .of h.1.nms) ?_
      (fun σ H1 h => by obtain ⟨h, h2, _, _, _, _, _, _, _, rfl⟩ := h; exact ⟨h, h2, _, _, _, _, _, _, _, _, rfl⟩)
    clear S1 P1 v1 v4 v6 v7 v8 v11 v12 v13 H1
    rintro i2 y2 σ H1 hy2 ⟨S1, P1, v1, v4, v6, v7, v8, v12, v13, rfl⟩
    rw [List.getElem?_map] at hy2
    obtain ⟨ot, hot, rfl⟩ := Option.map_eq_some_iff.mp hy2
    have oko := hok ot (List.mem_of_getElem? hot)
    refine w_name ?_
    refine w_seqJ (fun σ H => Sta K H sc so nm ns ss (20 + 20 * tn + 20) ∧ Pair K H ab x kvs ks due ∧ ∃ l, H l = some (.lst (upK kvs (.str kd)).1) ∧ (∀ u ∈ (upK kvs (.str kd)).1, Val1 H u) ∧ ∃ v1 v4 v6 v7 v8, σ = [some (.ref sc), v1, some (.ref so), some (.ref nm), v4, some (.ref ab), v6, v7, v8, some due, some (.ref x), some (.str kd), some (.str ot), some (.ref l)]) (fun N hN => ?_) ?_
    · walk_at "g"
      rcases P1.link with ⟨e, hab⟩ | ⟨e, rfl⟩
      · subst e
        refine iteT ?_
        walk_at "g"
        refine ⟨.str kd, ab, kvs, ks, rfl, .str okk, hab, P1.ab_, fun p l H2 s2 hp hl2 hv => ?_⟩
        walk_at "g"
        refine k_ixT (.inl (.inl hp)) rfl ?_
        walk_at "g"
        exact hN _ _ ⟨S1.mono s2, P1.mono s2, l, hl2, hv, _, _, _, _, _, rfl⟩
      · rw [show decide (due = .non) = false from decide_eq_false e]
        refine iteF ?_
        walk_at "g"
        refine ⟨by show 1 ≤ sizeLine; decide, fun l hl2 => ?_⟩
        walk_at "g"
        have t2 := same_new (u := .lst [.str kd]) hl2
        refine hN _ _ ⟨S1.mono t2, P1.mono t2, l, ?_, ?_, _, _, _, _, _, rfl⟩
        · rw [up_nil]; exact upd_same
        · rw [up_nil]
          intro u hu
          rw [List.mem_singleton.mp hu]
          exact .str okk
    clear S1 P1 v1 v4 v6 v7 v8 v12 v13 H1
    rintro σ H1 ⟨S1, P1, l, hl1, hv, v1, v4, v6, v7, v8, rfl⟩
    walk_at "g"
    obtain ⟨dx, f1, f2, f3, hx, hf⟩ := P1.pr
    refine k_meth hx rfl ?_
    walk_at "g"
    refine ⟨x, kvs, ks, kd, ot, rfl, ⟨dx, f1, f2, f3, hx, hf⟩, P1.ab_, P1.right, okk, oko, P1.back kd, fun H2 s2 => ?_⟩
    walk_at "g"
    have hv2 : ∀ u ∈ (upK kvs (.str kd)).1, Val1 H2 u := fun u hu => (hv u hu).mono s2
    refine k_inD (.str ot) (.lst (.of (s2 _ _ hl1)) (dpAll_of hv2)) (shaped_v (H := H2) (.str oko)) (shaped_l hv2) ?_
    refine k_ne (.bl _) (.bl _) rfl rfl ?_
    refine k_test ?_
    show if (!PyData.eqv (.bool (mem (.str ot) (upK kvs (.str kd)).1)) (.bool (mem (.str ot) (upK kvs (.str kd)).1))) = true then _ else _
    rw [show ∀ b : Bool, PyData.eqv (.bool b) (.bool b) = true from fun b => by cases b <;> rfl]
    refine iteNT ?_
    refine w_next ?_
    exact ⟨S1.mono s2, P1.mono s2, _, _, _, _, _, _, _, rfl⟩
end K63
namespace K63
open PySem PySem.Spec PyProof.Rows L2 Z He
section
variable {P : Program} {w : World} {K : PySem.W.Frag} {mg : Str → Option Value} {base : Heap} {f : Addr} {fd : FuncData}
theorem ok_is_name (z_str : mg "str" = none) (z_isinstance : mg "isinstance" = none) (z_len : mg "len" = none) (c_MOST_LETTERS : Cst mg "MOST_LETTERS" (.int 8)) (c_LETTERS : Cst mg "LETTERS" (.str "abcdefghijklmnopqrstuvwxyz")) (z_all : mg "all" = none) (F : FunD K "is_name" "is_name" (defArgs s_is_name) (defBody s_is_name) (defScope s_is_name) [] [] f fd) : FnOk P w K mg base (L2.CX P w) 1 f fd P_is_name (sp_is_name) := by
  refine F.ok sc_is_name (fun vs H Q E h => ?_) (fun cdv A outer s H vs Q E hr h => ⟨t_is_name K E, d_is_name z_str z_isinstance z_len c_MOST_LETTERS c_LETTERS z_all hr, ?_⟩)
  · obtain ⟨v, rfl, hv, q⟩ := h; rfl
  · obtain ⟨v, rfl, hv, q⟩ := h; exact pure_is_name hv q
theorem ok_comes_back (F : FunD K "comes_back" "comes_back" (defArgs s_comes_back) (defBody s_comes_back) (defScope s_comes_back) [] [] f fd) : FnOk P w K mg base (L2.CX P w) 1 f fd P_comes_back (sp_comes_back) := by
  refine F.ok sc_comes_back (fun vs H Q E h => ?_) (fun cdv A outer s H vs Q E hr h => ⟨t_comes_back K E, d_comes_back  hr, ?_⟩)
  · obtain ⟨v, a, kvs, ks, rfl, hv, ha, A, q⟩ := h; rfl
  · obtain ⟨v, a, kvs, ks, rfl, hv, ha, A, q⟩ := h; exact pure_comes_back hv ha A q
theorem ok_BadKinds_init (z_ValueError : mg "ValueError" = none) (vV : PySem.W.findCls K (.type "ValueError") (.type "type") "__init__" = some (.val (.builtin "ValueError.__init__"))) (oex_BadKinds : OexC K (ga K "BadKinds")) (no_BadKinds_kind : PySem.W.findIn K (.ref (ga K "BadKinds")) "kind" = some none) (F : FunD K "__init__" "BadKinds.__init__" (defArgs s_BadKinds_init) (defBody s_BadKinds_init) (defScope s_BadKinds_init) [] [] f fd) : FnOk P w K mg base (L2.CX P w) 1 f fd P_BadKinds_init (spEx1 (ga K "BadKinds") "kind") := by
  refine F.ok sc_BadKinds_init (fun vs H Q E h => ?_) (fun cdv A outer s H vs Q E hr h => ⟨t_BadKinds_init K E, d_BadKinds_init z_ValueError vV hr, ?_⟩)
  · obtain ⟨a, v, rfl, ha, q⟩ := h; rfl
  · obtain ⟨a, v, rfl, ha, q⟩ := h; exact pure_BadKinds_init oex_BadKinds no_BadKinds_kind ha q
theorem ok_Program_is_kind (cl_Program : Cls K (ga K "Program")) (na_Program_above : NoAttr K (ga K "Program") "above") (F : FunD K "is_kind" "Program.is_kind" (defArgs s_Program_is_kind) (defBody s_Program_is_kind) (defScope s_Program_is_kind) [] [] f fd) : FnOk P w K mg base (L2.CX P w) 1 f fd P_Program_is_kind (sp_is_kind K) := by
  refine F.ok sc_Program_is_kind (fun vs H Q E h => ?_) (fun cdv A outer s H vs Q E hr h => ⟨t_Program_is_kind K E, d_Program_is_kind  hr, ?_⟩)
  · obtain ⟨x, kvs, ks, v, o, rfl, P1, A, R, hv, ho, hu, q⟩ := h; rfl
  · obtain ⟨x, kvs, ks, v, o, rfl, P1, A, R, hv, ho, hu, q⟩ := h; exact pure_is_kind cl_Program na_Program_above P1 A R hv ho hu q
theorem ok__law_source (z_len : mg "len" = none) (z_abs : mg "abs" = none) (F : FunD K "_law_source" "_law_source" (defArgs s__law_source) (defBody s__law_source) (defScope s__law_source) [] [] f fd) : FnOk P w K mg base (L2.CX P w) 1 f fd P__law_source (sp_source K) := by
  refine F.ok sc__law_source (fun vs H Q E h => ?_) (fun cdv A outer s H vs Q E hr h => ⟨t__law_source K E, d__law_source z_len z_abs hr, ?_⟩)
  · obtain ⟨a, ns, i, rfl, hs, hl, h0, h1, q⟩ := h; rfl
  · obtain ⟨a, ns, i, rfl, hs, hl, h0, h1, q⟩ := h; exact pure__law_source hs hl h0 h1 q
theorem ok__law_draw (F : FunD K "_law_draw" "_law_draw" (defArgs s__law_draw) (defBody s__law_draw) (defScope s__law_draw) [] [] f fd) : FnOk P w K mg base (L2.CX P w) 1 f fd P__law_draw (sp_draw) := by
  refine F.ok sc__law_draw (fun vs H Q E h => ?_) (fun cdv A outer s H vs Q E hr h => ⟨t__law_draw K E, d__law_draw  hr, ?_⟩)
  · obtain ⟨a, n, m, rfl, hs, hn, h0, h1, q⟩ := h; rfl
  · obtain ⟨a, n, m, rfl, hs, hn, h0, h1, q⟩ := h; exact pure__law_draw hs hn h0 h1 q
theorem ok__law_is_name (z_str : mg "str" = none) (z_isinstance : mg "isinstance" = none) (z_len : mg "len" = none) (z_all : mg "all" = none) (F : FunD K "_law_is_name" "_law_is_name" (defArgs s__law_is_name) (defBody s__law_is_name) (defScope s__law_is_name) [] [] f fd) : FnOk P w K mg base (L2.CX P w) 1 f fd P__law_is_name (sp_is_name) := by
  refine F.ok sc__law_is_name (fun vs H Q E h => ?_) (fun cdv A outer s H vs Q E hr h => ⟨t__law_is_name K E, d__law_is_name z_str z_isinstance z_len z_all hr, ?_⟩)
  · obtain ⟨v, rfl, hv, q⟩ := h; rfl
  · obtain ⟨v, rfl, hv, q⟩ := h; exact pure__law_is_name hv q
theorem ok__law_up (F : FunD K "_law_up" "_law_up" (defArgs s__law_up) (defBody s__law_up) (defScope s__law_up) [] [] f fd) : FnOk P w K mg base (L2.CX P w) 1 f fd P__law_up (sp_up) := by
  refine F.ok sc__law_up (fun vs H Q E h => ?_) (fun cdv A outer s H vs Q E hr h => ⟨t__law_up K E, d__law_up  hr, ?_⟩)
  · obtain ⟨v, a, kvs, ks, rfl, hv, ha, A, q⟩ := h; rfl
  · obtain ⟨v, a, kvs, ks, rfl, hv, ha, A, q⟩ := h; exact pure__law_up hv ha A q
theorem ok__law_names (f__law_draw : Gf P w K mg base 1 "_law_draw" (sp_draw)) (z_range : mg "range" = none) (z_any : mg "any" = none) (F : FunD K "_law_names" "_law_names" (defArgs s__law_names) (defBody s__law_names) (defScope s__law_names) [] [] f fd) : FnOk P w K mg base (L2.CX P w) 2 f fd P__law_names (sp_names) := by
  refine F.ok sc__law_names (fun vs H Q E h => ?_) (fun cdv A outer s H vs Q E hr h => ⟨t__law_names K E, d__law_names f__law_draw z_range z_any hr, ?_⟩)
  · obtain ⟨a, n, rfl, hs, hn, q⟩ := h; rfl
  · obtain ⟨a, n, rfl, hs, hn, q⟩ := h; exact pure__law_names hs hn q
theorem ok__law_value_right (f__law_is_name : Gf P w K mg base 1 "_law_is_name" (sp_is_name)) (F : FunD K "_law_value_right" "_law_value_right" (defArgs s__law_value_right) (defBody s__law_value_right) (defScope s__law_value_right) [] [] f fd) : FnOk P w K mg base (L2.CX P w) 2 f fd P__law_value_right (sp_right) := by
  refine F.ok sc__law_value_right (fun vs H Q E h => ?_) (fun cdv A outer s H vs Q E hr h => ⟨t__law_value_right K E, d__law_value_right f__law_is_name hr, ?_⟩)
  · obtain ⟨v, rfl, hv, q⟩ := h; rfl
  · obtain ⟨v, rfl, hv, q⟩ := h; exact pure__law_value_right hv q
theorem ok__law_due (z_sorted : mg "sorted" = none) (f__law_is_name : Gf P w K mg base 1 "_law_is_name" (sp_is_name)) (f__law_value_right : Gf P w K mg base 2 "_law_value_right" (sp_right)) (f__law_up : Gf P w K mg base 1 "_law_up" (sp_up)) (F : FunD K "_law_due" "_law_due" (defArgs s__law_due) (defBody s__law_due) (defScope s__law_due) [] [] f fd) : FnOk P w K mg base (L2.CX P w) 3 f fd P__law_due (sp_due) := by
  refine F.ok sc__law_due (fun vs H Q E h => ?_) (fun cdv A outer s H vs Q E hr h => ⟨t__law_due K E, d__law_due z_sorted f__law_is_name f__law_value_right f__law_up hr, ?_⟩)
  · obtain ⟨a, kvs, ks, rfl, ha, A, q⟩ := h; rfl
  · obtain ⟨a, kvs, ks, rfl, ha, A, q⟩ := h; exact pure__law_due ha A q
theorem ok_look_kinds (z_sorted : mg "sorted" = none) (f_is_name : Gf P w K mg base 1 "is_name" (sp_is_name)) (X_BadKinds : Gx P w K mg base 1 (ga K "BadKinds") (spEx1 (ga K "BadKinds") "kind")) (m_BadKinds : mg "BadKinds" = some (.ref (ga K "BadKinds"))) (f_comes_back : Gf P w K mg base 1 "comes_back" (sp_comes_back)) (F : FunD K "look_kinds" "look_kinds" (defArgs s_look_kinds) (defBody s_look_kinds) (defScope s_look_kinds) [] [] f fd) : FnOk P w K mg base (L2.CX P w) 4 f fd P_look_kinds (sp_look_kinds K) := by
  refine F.ok sc_look_kinds (fun vs H Q E h => ?_) (fun cdv A outer s H vs Q E hr h => ⟨t_look_kinds K E, d_look_kinds z_sorted f_is_name X_BadKinds m_BadKinds f_comes_back hr, ?_⟩)
  · obtain ⟨a, kvs, ks, rfl, ha, A, q⟩ := h; rfl
  · obtain ⟨a, kvs, ks, rfl, ha, A, q⟩ := h; exact pure_look_kinds ha A q
theorem ok_look_files (z_sorted : mg "sorted" = none) (F : FunD K "look_files" "look_files" (defArgs s_look_files) (defBody s_look_files) (defScope s_look_files) [] [] f fd) : FnOk P w K mg base (L2.CX P w) 4 f fd P_look_files (sp_look_files) := by
  refine F.ok sc_look_files (fun vs H Q E h => ?_) (fun cdv A outer s H vs Q E hr h => ⟨t_look_files K E, d_look_files z_sorted hr, ?_⟩)
  · obtain ⟨a, rfl, ha, q⟩ := h; rfl
  · obtain ⟨a, rfl, ha, q⟩ := h; exact pure_look_files ha q
theorem ok_Program_look_calls (z_sorted : mg "sorted" = none) (cl_Program : Cls K (ga K "Program")) (na_Program_defined : NoAttr K (ga K "Program") "defined") (F : FunD K "look_calls" "Program.look_calls" (defArgs s_Program_look_calls) (defBody s_Program_look_calls) (defScope s_Program_look_calls) [] [] f fd) : FnOk P w K mg base (L2.CX P w) 4 f fd P_Program_look_calls (sp_look_calls K) := by
  refine F.ok sc_Program_look_calls (fun vs H Q E h => ?_) (fun cdv A outer s H vs Q E hr h => ⟨t_Program_look_calls K E, d_Program_look_calls z_sorted hr, ?_⟩)
  · obtain ⟨x, dx, f1, f2, f3, rfl, hx, h3, q⟩ := h; rfl
  · obtain ⟨x, dx, f1, f2, f3, rfl, hx, h3, q⟩ := h; exact pure_look_calls cl_Program na_Program_defined hx h3 q
theorem ok_Program_look_size (z_sum : mg "sum" = none) (c_MOST_FUNCTIONS : Cst mg "MOST_FUNCTIONS" (.int 8)) (z_len : mg "len" = none) (c_MOST_FILES : Cst mg "MOST_FILES" (.int 4)) (c_MOST_LINES : Cst mg "MOST_LINES" (.int 120)) (cl_Program : Cls K (ga K "Program")) (na_Program_kept : NoAttr K (ga K "Program") "kept") (na_Program_defined : NoAttr K (ga K "Program") "defined") (F : FunD K "look_size" "Program.look_size" (defArgs s_Program_look_size) (defBody s_Program_look_size) (defScope s_Program_look_size) [] [] f fd) : FnOk P w K mg base (L2.CX P w) 4 f fd P_Program_look_size (sp_look_size K) := by
  refine F.ok sc_Program_look_size (fun vs H Q E h => ?_) (fun cdv A outer s H vs Q E hr h => ⟨t_Program_look_size K E, d_Program_look_size z_sum c_MOST_FUNCTIONS z_len c_MOST_FILES c_MOST_LINES hr, ?_⟩)
  · obtain ⟨x, dx, f1, f2, f3, rfl, hx, h2, h3, q⟩ := h; rfl
  · obtain ⟨x, dx, f1, f2, f3, rfl, hx, h2, h3, q⟩ := h; exact pure_look_size cl_Program na_Program_kept na_Program_defined hx h2 h3 q
theorem ok_Program_init (f_look_files : Gf P w K mg base 4 "look_files" (sp_look_files)) (z_dict : mg "dict" = none) (f_look_kinds : Gf P w K mg base 4 "look_kinds" (sp_look_kinds K)) (z_sorted : mg "sorted" = none) (m_Program_look_calls : Gm P w K mg base 4 (ga K "Program") "look_calls" (sp_look_calls K)) (cl_Program : Cls K (ga K "Program")) (m_Program_look_size : Gm P w K mg base 4 (ga K "Program") "look_size" (sp_look_size K)) (na_Program_above : NoAttr K (ga K "Program") "above") (na_Program_kept : NoAttr K (ga K "Program") "kept") (na_Program_defined : NoAttr K (ga K "Program") "defined") (F : FunD K "__init__" "Program.__init__" (defArgs s_Program_init) (defBody s_Program_init) (defScope s_Program_init) [.non] [] f fd) : FnOk P w K mg base (L2.CX P w) 6 f fd P_Program_init (sp_Program K) := by
  refine F.ok sc_Program_init (fun vs H Q E h => ?_) (fun cdv A outer s H vs Q E hr h => ⟨t_Program_init K E, d_Program_init f_look_files z_dict f_look_kinds z_sorted m_Program_look_calls cl_Program m_Program_look_size hr, ?_⟩)
  · obtain ⟨x, fd, dx, av, rfl, p⟩ := h; rfl
  · obtain ⟨x, fd, dx, av, rfl, p⟩ := h; exact pure_Program_init cl_Program na_Program_above na_Program_kept na_Program_defined p
theorem ok__law_refused (m_BadKinds : mg "BadKinds" = some (.ref (ga K "BadKinds"))) (k_Program2 : Gk P w K mg base 6 (ga K "Program") (sp_Program K)) (m_Program : mg "Program" = some (.ref (ga K "Program"))) (z_ValueError : mg "ValueError" = none) (z_isinstance : mg "isinstance" = none) (xf_BadKinds : XfC K (ga K "BadKinds")) (no_BadKinds_kind : PySem.W.findIn K (.ref (ga K "BadKinds")) "kind" = some none) (exm_BadKinds : PySem.W.exmOne K (.ref (ga K "BadKinds")) (.ref (ga K "BadKinds")) = some true) (exc_BadKinds : ExcC K (ga K "BadKinds")) (kit_BadKinds : PySem.W.kitOne K (.ref (ga K "BadKinds")) (.type "ValueError") = some true) (F : FunD K "_law_refused" "_law_refused" (defArgs s__law_refused) (defBody s__law_refused) (defScope s__law_refused) [] [] f fd) : FnOk P w K mg base (L2.CX P w) 8 f fd P__law_refused (sp_refused) := by
  refine F.ok sc__law_refused (fun vs H Q E h => ?_) (fun cdv A outer s H vs Q E hr h => ⟨t__law_refused K E, d__law_refused m_BadKinds k_Program2 m_Program z_ValueError z_isinstance xf_BadKinds no_BadKinds_kind hr, ?_⟩)
  · obtain ⟨a, kvs, ks, rfl, ha, A, q⟩ := h; rfl
  · obtain ⟨a, kvs, ks, rfl, ha, A, q⟩ := h; exact pure__law_refused exm_BadKinds exc_BadKinds kit_BadKinds ha A q
theorem ok_law (z_len : mg "len" = none) (z_min : mg "min" = none) (z_max : mg "max" = none) (z_range : mg "range" = none) (f__law_source : Gf P w K mg base 1 "_law_source" (sp_source K)) (f__law_names : Gf P w K mg base 2 "_law_names" (sp_names)) (f__law_draw : Gf P w K mg base 1 "_law_draw" (sp_draw)) (z_sorted : mg "sorted" = none) (f__law_due : Gf P w K mg base 3 "_law_due" (sp_due)) (f__law_refused : Gf P w K mg base 8 "_law_refused" (sp_refused)) (k_Program2 : Gk P w K mg base 6 (ga K "Program") (sp_Program K)) (m_Program : mg "Program" = some (.ref (ga K "Program"))) (k_Program1 : Gk P w K mg base 6 (ga K "Program") (sp_Program1 K)) (f__law_up : Gf P w K mg base 1 "_law_up" (sp_up)) (m_Program_is_kind : Gm P w K mg base 1 (ga K "Program") "is_kind" (sp_is_kind K)) (cl_Program : Cls K (ga K "Program")) (F : FunD K "law" "law" (defArgs s_law) (defBody s_law) (defScope s_law) [] [] f fd) : FnOk P w K mg base (L2.CX P w) 9 f fd P_law (sp_law K) := by
  refine F.ok sc_law (fun vs H Q E h => ?_) (fun cdv A outer s H vs Q E hr h => ⟨t_law K E, d_law z_len z_min z_max z_range f__law_source f__law_names f__law_draw z_sorted f__law_due f__law_refused k_Program2 m_Program k_Program1 f__law_up m_Program_is_kind cl_Program hr, ?_⟩)
  · obtain ⟨a, ns, rfl, hs, hl, q⟩ := h; rfl
  · obtain ⟨a, ns, rfl, hs, hl, q⟩ := h; exact pure_law hs hl q
end
def D_is_name : DefD := ⟨("is_name", none), "is_name", "is_name", defArgs s_is_name, defBody s_is_name, defScope s_is_name, [], []⟩
def D_comes_back : DefD := ⟨("comes_back", none), "comes_back", "comes_back", defArgs s_comes_back, defBody s_comes_back, defScope s_comes_back, [], []⟩
def D_BadKinds_init : DefD := ⟨("BadKinds", some "__init__"), "__init__", "BadKinds.__init__", defArgs s_BadKinds_init, defBody s_BadKinds_init, defScope s_BadKinds_init, [], []⟩
def D_Program_is_kind : DefD := ⟨("Program", some "is_kind"), "is_kind", "Program.is_kind", defArgs s_Program_is_kind, defBody s_Program_is_kind, defScope s_Program_is_kind, [], []⟩
def D__law_source : DefD := ⟨("_law_source", none), "_law_source", "_law_source", defArgs s__law_source, defBody s__law_source, defScope s__law_source, [], []⟩
def D__law_draw : DefD := ⟨("_law_draw", none), "_law_draw", "_law_draw", defArgs s__law_draw, defBody s__law_draw, defScope s__law_draw, [], []⟩
def D__law_is_name : DefD := ⟨("_law_is_name", none), "_law_is_name", "_law_is_name", defArgs s__law_is_name, defBody s__law_is_name, defScope s__law_is_name, [], []⟩
def D__law_up : DefD := ⟨("_law_up", none), "_law_up", "_law_up", defArgs s__law_up, defBody s__law_up, defScope s__law_up, [], []⟩
def D__law_names : DefD := ⟨("_law_names", none), "_law_names", "_law_names", defArgs s__law_names, defBody s__law_names, defScope s__law_names, [], []⟩
def D__law_value_right : DefD := ⟨("_law_value_right", none), "_law_value_right", "_law_value_right", defArgs s__law_value_right, defBody s__law_value_right, defScope s__law_value_right, [], []⟩
def D__law_due : DefD := ⟨("_law_due", none), "_law_due", "_law_due", defArgs s__law_due, defBody s__law_due, defScope s__law_due, [], []⟩
def D_look_kinds : DefD := ⟨("look_kinds", none), "look_kinds", "look_kinds", defArgs s_look_kinds, defBody s_look_kinds, defScope s_look_kinds, [], []⟩
def D_look_files : DefD := ⟨("look_files", none), "look_files", "look_files", defArgs s_look_files, defBody s_look_files, defScope s_look_files, [], []⟩
def D_Program_look_calls : DefD := ⟨("Program", some "look_calls"), "look_calls", "Program.look_calls", defArgs s_Program_look_calls, defBody s_Program_look_calls, defScope s_Program_look_calls, [], []⟩
def D_Program_look_size : DefD := ⟨("Program", some "look_size"), "look_size", "Program.look_size", defArgs s_Program_look_size, defBody s_Program_look_size, defScope s_Program_look_size, [], []⟩
def D_Program_init : DefD := ⟨("Program", some "__init__"), "__init__", "Program.__init__", defArgs s_Program_init, defBody s_Program_init, defScope s_Program_init, [.non], []⟩
def D__law_refused : DefD := ⟨("_law_refused", none), "_law_refused", "_law_refused", defArgs s__law_refused, defBody s__law_refused, defScope s__law_refused, [], []⟩
def D_law : DefD := ⟨("law", none), "law", "law", defArgs s_law, defBody s_law, defScope s_law, [], []⟩
def fn : List DefD := [D_is_name, D_comes_back, D_BadKinds_init, D_Program_is_kind, D__law_source, D__law_draw, D__law_is_name, D__law_up, D__law_names, D__law_value_right, D__law_due, D_look_kinds, D_look_files, D_Program_look_calls, D_Program_look_size, D_Program_init, D__law_refused, D_law]
def fa : List Fa := [.str "LETTERS" "abcdefghijklmnopqrstuvwxyz", .int "MOST_FILES" 4, .int "MOST_FUNCTIONS" 8, .int "MOST_LETTERS" 8, .int "MOST_LINES" 120, .cls "Program", .glo "BadKinds", .glo "Program", .noat "Program" "above", .noat "Program" "defined", .noat "Program" "kept", .noat "BadKinds" "kind", .free "ValueError", .free "abs", .free "all", .free "any", .free "dict", .free "isinstance", .free "len", .free "max", .free "min", .free "range", .free "sorted", .free "str", .free "sum", .glo "is_name", .glo "comes_back", .meth "Program" "is_kind", .glo "_law_source", .glo "_law_draw", .glo "_law_is_name", .glo "_law_up", .glo "_law_names", .glo "_law_value_right", .glo "_law_due", .glo "look_kinds", .glo "look_files", .meth "Program" "look_calls", .meth "Program" "look_size", .mkr "Program", .glo "_law_refused", .glo "law"]
def exl (K : PySem.W.Frag) : List Bool := [xfB K (ga K "BadKinds"), excCB K (ga K "BadKinds"), oexB K (ga K "BadKinds"), decide (PySem.W.exmOne K (.ref (ga K "BadKinds")) (.ref (ga K "BadKinds")) = some true), decide (PySem.W.kitOne K (.ref (ga K "BadKinds")) (.type "ValueError") = some true), oexI K "BadKinds"]
def ex (K : PySem.W.Frag) : Bool := (exl K).all id
theorem facts {P : Program} {w : World} {K : PySem.W.Frag} {h : Heap} {mg : Str → Option Value} {f : Addr} (X : K.In h) (G : h.Ns mainGlobals mg) (hfa : mg ("law" : Str) = some (.ref f)) (c : SaysD fa fn K) (ce : ex K = true) :
    ∃ fd : FuncData, (∀ (s : Shared) (v : Value), BindsTo s fd ⟨[v], []⟩ [("_law_script", v)]) ∧ ∀ base : Heap, K.In base → base.Ns mainGlobals mg → FnOk P w K mg base (L2.CX P w) 9 f fd ["_law_script"] (sp_law K) := by
  have eb : ∀ b ∈ exl K, b = true := fun b hb => List.all_eq_true.mp ce b hb
  have xf_BadKinds : XfC K (ga K "BadKinds") := xfB_ok (eb _ (List.mem_of_getElem? (i := 0) rfl))
  have exc_BadKinds : ExcC K (ga K "BadKinds") := excCB_ok (eb _ (List.mem_of_getElem? (i := 1) rfl))
  have oex_BadKinds : OexC K (ga K "BadKinds") := oexB_ok (eb _ (List.mem_of_getElem? (i := 2) rfl))
  have exm_BadKinds : PySem.W.exmOne K (.ref (ga K "BadKinds")) (.ref (ga K "BadKinds")) = some true := of_decide_eq_true (eb _ (List.mem_of_getElem? (i := 3) rfl))
  have kit_BadKinds : PySem.W.kitOne K (.ref (ga K "BadKinds")) (.type "ValueError") = some true := of_decide_eq_true (eb _ (List.mem_of_getElem? (i := 4) rfl))
  have ox_BadKinds : oexI K "BadKinds" = true := (eb _ (List.mem_of_getElem? (i := 5) rfl))
  have c_LETTERS : Cst mg "LETTERS" (.str "abcdefghijklmnopqrstuvwxyz") := cst_str X G (c.fact 0 rfl)
  have c_MOST_FILES : Cst mg "MOST_FILES" (.int 4) := cst_int X G (c.fact 1 rfl)
  have c_MOST_FUNCTIONS : Cst mg "MOST_FUNCTIONS" (.int 8) := cst_int X G (c.fact 2 rfl)
  have c_MOST_LETTERS : Cst mg "MOST_LETTERS" (.int 8) := cst_int X G (c.fact 3 rfl)
  have c_MOST_LINES : Cst mg "MOST_LINES" (.int 120) := cst_int X G (c.fact 4 rfl)
  have cl_Program : Cls K (ga K "Program") := cls_ok (c.fact 5 rfl)
  have m_BadKinds : mg "BadKinds" = some (.ref (ga K "BadKinds")) := glo_ok X G (c.fact 6 rfl)
  have m_Program : mg "Program" = some (.ref (ga K "Program")) := glo_ok X G (c.fact 7 rfl)
  have na_Program_above : NoAttr K (ga K "Program") "above" := noat_ok (c.fact 8 rfl)
  have na_Program_defined : NoAttr K (ga K "Program") "defined" := noat_ok (c.fact 9 rfl)
  have na_Program_kept : NoAttr K (ga K "Program") "kept" := noat_ok (c.fact 10 rfl)
  have no_BadKinds_kind : PySem.W.findIn K (.ref (ga K "BadKinds")) "kind" = some none := noat_ok (c.fact 11 rfl)
  have vV : PySem.W.findCls K (.type "ValueError") (.type "type") "__init__" = some (.val (.builtin "ValueError.__init__")) := rfl
  have z_ValueError : mg "ValueError" = none := free_ok X G (c.fact 12 rfl)
  have z_abs : mg "abs" = none := free_ok X G (c.fact 13 rfl)
  have z_all : mg "all" = none := free_ok X G (c.fact 14 rfl)
  have z_any : mg "any" = none := free_ok X G (c.fact 15 rfl)
  have z_dict : mg "dict" = none := free_ok X G (c.fact 16 rfl)
  have z_isinstance : mg "isinstance" = none := free_ok X G (c.fact 17 rfl)
  have z_len : mg "len" = none := free_ok X G (c.fact 18 rfl)
  have z_max : mg "max" = none := free_ok X G (c.fact 19 rfl)
  have z_min : mg "min" = none := free_ok X G (c.fact 20 rfl)
  have z_range : mg "range" = none := free_ok X G (c.fact 21 rfl)
  have z_sorted : mg "sorted" = none := free_ok X G (c.fact 22 rfl)
  have z_str : mg "str" = none := free_ok X G (c.fact 23 rfl)
  have z_sum : mg "sum" = none := free_ok X G (c.fact 24 rfl)
  have hm_is_name : mg "is_name" = some (.ref (ga K "is_name")) := glo_ok X G (c.fact 25 rfl)
  have hm_comes_back : mg "comes_back" = some (.ref (ga K "comes_back")) := glo_ok X G (c.fact 26 rfl)
  have me_Program_is_kind : Meth K (ga K "Program") "is_kind" (ma K (ga K "Program") "is_kind") := meth_ok (c.fact 27 rfl)
  have hm__law_source : mg "_law_source" = some (.ref (ga K "_law_source")) := glo_ok X G (c.fact 28 rfl)
  have hm__law_draw : mg "_law_draw" = some (.ref (ga K "_law_draw")) := glo_ok X G (c.fact 29 rfl)
  have hm__law_is_name : mg "_law_is_name" = some (.ref (ga K "_law_is_name")) := glo_ok X G (c.fact 30 rfl)
  have hm__law_up : mg "_law_up" = some (.ref (ga K "_law_up")) := glo_ok X G (c.fact 31 rfl)
  have hm__law_names : mg "_law_names" = some (.ref (ga K "_law_names")) := glo_ok X G (c.fact 32 rfl)
  have hm__law_value_right : mg "_law_value_right" = some (.ref (ga K "_law_value_right")) := glo_ok X G (c.fact 33 rfl)
  have hm__law_due : mg "_law_due" = some (.ref (ga K "_law_due")) := glo_ok X G (c.fact 34 rfl)
  have hm_look_kinds : mg "look_kinds" = some (.ref (ga K "look_kinds")) := glo_ok X G (c.fact 35 rfl)
  have hm_look_files : mg "look_files" = some (.ref (ga K "look_files")) := glo_ok X G (c.fact 36 rfl)
  have me_Program_look_calls : Meth K (ga K "Program") "look_calls" (ma K (ga K "Program") "look_calls") := meth_ok (c.fact 37 rfl)
  have me_Program_look_size : Meth K (ga K "Program") "look_size" (ma K (ga K "Program") "look_size") := meth_ok (c.fact 38 rfl)
  have mk_Program : Mk K (ga K "Program") (ma K (ga K "Program") "__init__") := mkr_ok (c.fact 39 rfl)
  have mk_Program : Mk K (ga K "Program") (ma K (ga K "Program") "__init__") := mkr_ok (c.fact 39 rfl)
  have hm__law_refused : mg "_law_refused" = some (.ref (ga K "_law_refused")) := glo_ok X G (c.fact 40 rfl)
  obtain ⟨fd_is_name, F_is_name⟩ := c.def_ 0 (d := D_is_name) rfl
  obtain ⟨fd_comes_back, F_comes_back⟩ := c.def_ 1 (d := D_comes_back) rfl
  obtain ⟨fd_BadKinds_init, F_BadKinds_init⟩ := c.def_ 2 (d := D_BadKinds_init) rfl
  obtain ⟨fd_Program_is_kind, F_Program_is_kind⟩ := c.def_ 3 (d := D_Program_is_kind) rfl
  obtain ⟨fd__law_source, F__law_source⟩ := c.def_ 4 (d := D__law_source) rfl
  obtain ⟨fd__law_draw, F__law_draw⟩ := c.def_ 5 (d := D__law_draw) rfl
  obtain ⟨fd__law_is_name, F__law_is_name⟩ := c.def_ 6 (d := D__law_is_name) rfl
  obtain ⟨fd__law_up, F__law_up⟩ := c.def_ 7 (d := D__law_up) rfl
  obtain ⟨fd__law_names, F__law_names⟩ := c.def_ 8 (d := D__law_names) rfl
  obtain ⟨fd__law_value_right, F__law_value_right⟩ := c.def_ 9 (d := D__law_value_right) rfl
  obtain ⟨fd__law_due, F__law_due⟩ := c.def_ 10 (d := D__law_due) rfl
  obtain ⟨fd_look_kinds, F_look_kinds⟩ := c.def_ 11 (d := D_look_kinds) rfl
  obtain ⟨fd_look_files, F_look_files⟩ := c.def_ 12 (d := D_look_files) rfl
  obtain ⟨fd_Program_look_calls, F_Program_look_calls⟩ := c.def_ 13 (d := D_Program_look_calls) rfl
  obtain ⟨fd_Program_look_size, F_Program_look_size⟩ := c.def_ 14 (d := D_Program_look_size) rfl
  obtain ⟨fd_Program_init, F_Program_init⟩ := c.def_ 15 (d := D_Program_init) rfl
  obtain ⟨fd__law_refused, F__law_refused⟩ := c.def_ 16 (d := D__law_refused) rfl
  obtain ⟨fd_law, F_law⟩ := c.def_ 17 (d := D_law) rfl
  cases hfa.symm.trans (glo_ok X G (c.fact 41 (f := .glo "law") rfl))
  have bl := FunD.bindsA (ps := ["_law_script"]) F_law fun _ _ _ _ _ _ us hl => match us, hl with | [_], _ => rfl
  refine ⟨fd_law, fun s v => bl s [v] rfl, fun base _ _ => ?_⟩
  have O_is_name := ok_is_name (P := P) (w := w) (K := K) (mg := mg) (base := base) z_str z_isinstance z_len c_MOST_LETTERS c_LETTERS z_all F_is_name
  have f_is_name : Gf P w K mg base 1 "is_name" (sp_is_name) := gf O_is_name (F_is_name.bindsN fun _ _ _ _ _ _ us hl => match us, hl with | [_], _ => rfl) hm_is_name F_is_name.kp
  have O_comes_back := ok_comes_back (P := P) (w := w) (K := K) (mg := mg) (base := base)  F_comes_back
  have f_comes_back : Gf P w K mg base 1 "comes_back" (sp_comes_back) := gf O_comes_back (F_comes_back.bindsN fun _ _ _ _ _ _ us hl => match us, hl with | [_, _], _ => rfl) hm_comes_back F_comes_back.kp
  have O_BadKinds_init := ok_BadKinds_init (P := P) (w := w) (K := K) (mg := mg) (base := base) z_ValueError vV oex_BadKinds no_BadKinds_kind F_BadKinds_init
  have X_BadKinds : Gx P w K mg base 1 (ga K "BadKinds") (spEx1 (ga K "BadKinds") "kind") := gx O_BadKinds_init (F_BadKinds_init.bindsN fun _ _ _ _ _ _ us hl => match us, hl with | [_, _], _ => rfl) ox_BadKinds
  have O_Program_is_kind := ok_Program_is_kind (P := P) (w := w) (K := K) (mg := mg) (base := base) cl_Program na_Program_above F_Program_is_kind
  have m_Program_is_kind : Gm P w K mg base 1 (ga K "Program") "is_kind" (sp_is_kind K) := gm O_Program_is_kind (F_Program_is_kind.bindsN fun _ _ _ _ _ _ us hl => match us, hl with | [_, _, _], _ => rfl) me_Program_is_kind
  have O__law_source := ok__law_source (P := P) (w := w) (K := K) (mg := mg) (base := base) z_len z_abs F__law_source
  have f__law_source : Gf P w K mg base 1 "_law_source" (sp_source K) := gf O__law_source (F__law_source.bindsN fun _ _ _ _ _ _ us hl => match us, hl with | [_, _], _ => rfl) hm__law_source F__law_source.kp
  have O__law_draw := ok__law_draw (P := P) (w := w) (K := K) (mg := mg) (base := base)  F__law_draw
  have f__law_draw : Gf P w K mg base 1 "_law_draw" (sp_draw) := gf O__law_draw (F__law_draw.bindsN fun _ _ _ _ _ _ us hl => match us, hl with | [_, _], _ => rfl) hm__law_draw F__law_draw.kp
  have O__law_is_name := ok__law_is_name (P := P) (w := w) (K := K) (mg := mg) (base := base) z_str z_isinstance z_len z_all F__law_is_name
  have f__law_is_name : Gf P w K mg base 1 "_law_is_name" (sp_is_name) := gf O__law_is_name (F__law_is_name.bindsN fun _ _ _ _ _ _ us hl => match us, hl with | [_], _ => rfl) hm__law_is_name F__law_is_name.kp
  have O__law_up := ok__law_up (P := P) (w := w) (K := K) (mg := mg) (base := base)  F__law_up
  have f__law_up : Gf P w K mg base 1 "_law_up" (sp_up) := gf O__law_up (F__law_up.bindsN fun _ _ _ _ _ _ us hl => match us, hl with | [_, _], _ => rfl) hm__law_up F__law_up.kp
  have O__law_names := ok__law_names (P := P) (w := w) (K := K) (mg := mg) (base := base) f__law_draw z_range z_any F__law_names
  have f__law_names : Gf P w K mg base 2 "_law_names" (sp_names) := gf O__law_names (F__law_names.bindsN fun _ _ _ _ _ _ us hl => match us, hl with | [_, _], _ => rfl) hm__law_names F__law_names.kp
  have O__law_value_right := ok__law_value_right (P := P) (w := w) (K := K) (mg := mg) (base := base) f__law_is_name F__law_value_right
  have f__law_value_right : Gf P w K mg base 2 "_law_value_right" (sp_right) := gf O__law_value_right (F__law_value_right.bindsN fun _ _ _ _ _ _ us hl => match us, hl with | [_], _ => rfl) hm__law_value_right F__law_value_right.kp
  have O__law_due := ok__law_due (P := P) (w := w) (K := K) (mg := mg) (base := base) z_sorted f__law_is_name f__law_value_right f__law_up F__law_due
  have f__law_due : Gf P w K mg base 3 "_law_due" (sp_due) := gf O__law_due (F__law_due.bindsN fun _ _ _ _ _ _ us hl => match us, hl with | [_], _ => rfl) hm__law_due F__law_due.kp
  have O_look_kinds := ok_look_kinds (P := P) (w := w) (K := K) (mg := mg) (base := base) z_sorted f_is_name X_BadKinds m_BadKinds f_comes_back F_look_kinds
  have f_look_kinds : Gf P w K mg base 4 "look_kinds" (sp_look_kinds K) := gf O_look_kinds (F_look_kinds.bindsN fun _ _ _ _ _ _ us hl => match us, hl with | [_], _ => rfl) hm_look_kinds F_look_kinds.kp
  have O_look_files := ok_look_files (P := P) (w := w) (K := K) (mg := mg) (base := base) z_sorted F_look_files
  have f_look_files : Gf P w K mg base 4 "look_files" (sp_look_files) := gf O_look_files (F_look_files.bindsN fun _ _ _ _ _ _ us hl => match us, hl with | [_], _ => rfl) hm_look_files F_look_files.kp
  have O_Program_look_calls := ok_Program_look_calls (P := P) (w := w) (K := K) (mg := mg) (base := base) z_sorted cl_Program na_Program_defined F_Program_look_calls
  have m_Program_look_calls : Gm P w K mg base 4 (ga K "Program") "look_calls" (sp_look_calls K) := gm O_Program_look_calls (F_Program_look_calls.bindsN fun _ _ _ _ _ _ us hl => match us, hl with | [_], _ => rfl) me_Program_look_calls
  have O_Program_look_size := ok_Program_look_size (P := P) (w := w) (K := K) (mg := mg) (base := base) z_sum c_MOST_FUNCTIONS z_len c_MOST_FILES c_MOST_LINES cl_Program na_Program_kept na_Program_defined F_Program_look_size
  have m_Program_look_size : Gm P w K mg base 4 (ga K "Program") "look_size" (sp_look_size K) := gm O_Program_look_size (F_Program_look_size.bindsN fun _ _ _ _ _ _ us hl => match us, hl with | [_], _ => rfl) me_Program_look_size
  have O_Program_init := ok_Program_init (P := P) (w := w) (K := K) (mg := mg) (base := base) f_look_files z_dict f_look_kinds z_sorted m_Program_look_calls cl_Program m_Program_look_size na_Program_above na_Program_kept na_Program_defined F_Program_init
  have k_Program2 : Gk P w K mg base 6 (ga K "Program") (sp_Program K) := by
    obtain ⟨ds, rd, hb⟩ := F_Program_init.binds1 (ps := P_Program_init) 3 1 (by simp [DefD.dvs, D_Program_init]) (by rfl) fun _ _ _ _ _ _ _ us its hu hi => match us, hu, its, hi with | [_, _, _], _, [_], _ => ⟨_, rfl, rfl⟩
    cases rd
    exact gk (fnr O_Program_init hb) mk_Program
  have k_Program1 : Gk P w K mg base 6 (ga K "Program") (sp_Program1 K) := by
    obtain ⟨ds, rd, hb⟩ := F_Program_init.binds1 (ps := P_Program_init) 2 0 (by simp [DefD.dvs, D_Program_init]) (by rfl) fun _ _ _ _ _ _ _ us its hu hi => match us, hu, its, hi with | [_, _], _, [_], _ => ⟨_, rfl, rfl⟩
    exact gk (O_Program_init.raw hb rd) mk_Program
  have O__law_refused := ok__law_refused (P := P) (w := w) (K := K) (mg := mg) (base := base) m_BadKinds k_Program2 m_Program z_ValueError z_isinstance xf_BadKinds no_BadKinds_kind exm_BadKinds exc_BadKinds kit_BadKinds F__law_refused
  have f__law_refused : Gf P w K mg base 8 "_law_refused" (sp_refused) := gf O__law_refused (F__law_refused.bindsN fun _ _ _ _ _ _ us hl => match us, hl with | [_], _ => rfl) hm__law_refused F__law_refused.kp
  exact ok_law (P := P) (w := w) (K := K) (mg := mg) (base := base) z_len z_min z_max z_range f__law_source f__law_names f__law_draw z_sorted f__law_due f__law_refused k_Program2 m_Program k_Program1 f__law_up m_Program_is_kind cl_Program F_law
end K63
namespace K63
open PySem PySem.W PySem.Calls PyProof.Rows
abbrev R : OpenRow := OpenLaw.row PySem.Challenge.rw_chainedreports_k63_kinds_fit
abbrev qv : Program := view R.prog [68]
def names0 : List PySem.Str := ["_wall", "NoName", "TooMany", "NoFile", "BadKinds", "BadProgram", "LETTERS", "MOST_LETTERS", "is_name", "MOST_FILES", "MOST_FUNCTIONS", "MOST_LINES", "MOST_INDENT", "STEP", "MOST_KINDS", "MOST_MEMBERS", "PASS", "CALL", "RETURN", "THROW", "AGAIN", "GROUP", "RETHROW", "NOTE", "COPY", "DROP", "SPLIT", "PRESENT", "CHOOSE", "TRY"]
def names1 : List PySem.Str := ["EXCEPT", "STAR", "WORDS", "is_own_name", "are_names", "how_of", "told_of", "throw_of", "again_of", "group_of", "note_of", "copy_of", "split_of", "named_of", "lone_of", "FORMS", "plain_of", "named_head", "handler_of", "Reader", "blocks_of", "all_statements", "comes_back", "look_kinds", "look_files", "Program", "_law_source", "_law_draw", "_law_names", "_law_is_name"]
def names2 : List PySem.Str := ["_law_up", "_law_due", "_law_value_right", "_law_refused"]
def names : List PySem.Str := names0 ++ names1 ++ names2
abbrev hk : Hook := Z.hookZ 6 fa fn ex
def ob (s : SharedT) : He.AlD × Bool := Z.obsZ 6 fa fn ex (HandSHeadRun.getT s)
theorem ob_eq (s : SharedT) : ob s = hk.obs s.abs := Z.obsZ_eq (HandSHeadRun.getT_eq s)
theorem runF (w : World) : HandSHeadRun.RunEq R qv hk ob 6000 names (w.withFollow "special-get-raises" false) := by
  intro os
  kernel_rfl
theorem runT (w : World) : HandSHeadRun.RunEq R qv hk ob 6000 names (w.withFollow "special-get-raises" true) := by
  intro os
  kernel_rfl
theorem run (w : World) : HandSHeadRun.RunEq R qv hk ob 6000 names w := byRow2 "special-get-raises" runF runT w
end K63
open PySem PySem.W PySem.Calls PyProof.Rows
theorem PySem.Challenge.cw_chainedreports_k63_kinds_fit_holds : PySem.Challenge.rw_chainedreports_k63_kinds_fit.Holds := by
  w_on; o_law
  refine HandSHeadRun.head_any (r := OpenLaw.row PySem.Challenge.rw_chainedreports_k63_kinds_fit) (q := view (OpenLaw.row PySem.Challenge.rw_chainedreports_k63_kinds_fit).prog [68]) (H := K63.hk) (ob := K63.ob) (M := 6000) (loose := K63.names) (d := HandSHeadRun.topDef (OpenLaw.row PySem.Challenge.rw_chainedreports_k63_kinds_fit).prog 68) (kwd := []) K63.ob_eq
    (by kernel_rfl) (fun s => by kernel_rfl) K63.run (by kernel_rfl) (by kernel_rfl) (by kernel_rfl) (by rfl) (by first | assumption | decide +kernel) (by decide +kernel) ⟨rfl, rfl, rfl, rfl, rfl, by decide +kernel⟩ ?hw ?hc
  case hw => w_witness2
  case hc =>
    refine Z.walk_ofX (l := PySem.Challenge.rw_chainedreports_k63_kinds_fit) (n := 63) (k := 9) (x := "_law_script") rfl (by decide) (by kernel_rfl) ⟨rfl, by decide, by decide⟩ ?F
    intro w mg fa h Y G hmg0
    obtain ⟨K, KX, c, ce⟩ := Y
    have hmg : mg ("law" : PySem.Str) = some (.ref fa) := by
      have e : (HandSHeadRun.topDef (OpenLaw.row PySem.Challenge.rw_chainedreports_k63_kinds_fit).prog 68).name = ("law" : PySem.Str) := by kernel_rfl
      rw [← e]; exact hmg0
    obtain ⟨fd, hb, hF⟩ := K63.facts (P := (PySem.Challenge.rw_chainedreports_k63_kinds_fit).prog) (w := w) KX G hmg c ce
    exact ⟨K, fd, K63.sp_law K, KX, hb, fun H a ns hl _ hS => ⟨a, ns, rfl, hS, hl, fun _ => rfl⟩, hF⟩
