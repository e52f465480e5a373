import PyProof.Rows.All
import Wide.All
import OpenK.AllK
import Wide.FinOn
import KE.KStateDown
import Lean
import KE.IntTextLaws
import HandS.ForMost
import HandS.ForExc
import HandS.Defaults
import HandS.More
import HandS.Small
import HandS.ExcInit
import HandS.ExcField
import HandS.IsInst
import HandS.Flow
import HandS.Style
import HandS.Steps
import HandS.Evl
import HandS.Wide
import HandS.TupAny
import HandS.TupMul
import HandS.TupLe
import HandS.Walk
import HandS.Zip
import HandS.StrMore
import HandS.StrSplit
import HandS.Deep
import HandS.DictComp
import HandS.SortInts
import HandS.TryMany
import HandS.Codes
import HandS.Head0
import HandS.Head1
import HandS.Head2
import HandS.HeadEnd
import HandS.HeadHook1
import HandS.HeadHook2
import HandS.HeadHook3
import HandS.HeadHook4
import KE.KeyNested
import KE.KIsAll
import KE.GoesEnum
import KE.DatumOrd
import KE.GoesZip
import KE.GoesMore
import HandS.ExcInitHot
import HandS.SuiteRaise
import HandS.RaiseFrom
import PySem.Challenge.RW_firmground_k57_judge_by_pasts
set_option Elab.async false
set_option linter.all false
set_option maxRecDepth 100000
set_option maxHeartbeats 4000000
/-! Words shared by the proofs about the given program. -/
namespace L2
open PySem PySem.Spec PyProof.Rows

/-! ### raise C() of an own class without arguments -/
section
variable {X : Cx} {C : Addr} {bmB : List Value} {B newId initId : String}
theorem pmk_own0 {x : Str} {p pos : Pos} (F : ExcBaseFacts B newId initId bmB) (q : PySem.W.excIn X.K C bmB newId = true) (gC : X.mg x = some (.ref C)) (kC : PySem.W.keepIn X.K (.ref C) = true) (r : Raises X (.ref C)) (hg : Gl X x)
    (hdb : (x == ("__debug__" : Str)) = false := by decide) : PMk X (.Call (.Name x p) [] [] pos) (fun _ H Q => Q (.ref C) none H) := by
  intro pins s σ H Q I h
  refine wpAny_Call_Name_kw (ld_glob I hg gC ?_ hdb)
  refine PySem.W.callWith_K0 I.kIn kC ?_
  obtain ⟨hp, g, dd0, tk, os⟩ := s
  obtain ⟨bm, N, nm, qn, bs, hdct, sn, sub, ab, col, dd, k0, k1, k2, k3, k5, mN, hC, hN, hni, T⟩ := exc_obj I.kIn q
  refine wpAny_call_exc_subT F T hC hN hni (fun h' e hm => ?_) (Nat.zero_le _)
  exact mk_of I hm r h (I.hok.gone hm.new)
end

/-! ### an own class over ValueError with an __init__ of its own: a check -/
def oexB (K : PySem.W.Frag) (C : Addr) : Bool := (match K.lookup C with
  | some ⟨.type "type", _, .cls cd, sl⟩ => (match cd.mro, sl.toList with
    | .ref C' :: bm, [_, _, _, _, some (.builtin n), _] => C' == C && n == "ValueError.__new__" && !cd.hasDel && cd.hasDict && PySem.HandSPX.refsVE bm
    | _, _ => false)
  | _ => false) && decide (PySem.W.findIn K (.ref C) "__setattr__" = some (some (.builtin "object.__setattr__"))) && decide (PySem.W.subIn K (.ref C) (.type "BaseException") = some true) &&
    decide (PySem.W.typeIn K (.ref C) = some (.type "type")) && PySem.W.keepIn K (.ref C)
theorem oexB_ok {K : PySem.W.Frag} {C : Addr} (h : oexB K C = true) : OexC K C := by
  unfold oexB at h
  simp only [Bool.and_eq_true] at h
  obtain ⟨⟨⟨⟨h, h1⟩, h2⟩, h3⟩, h4⟩ := h
  refine ⟨?_, of_decide_eq_true h1, of_decide_eq_true h2, of_decide_eq_true h3, h4⟩
  split at h
  · rename_i dd cd sl ho
    split at h
    · rename_i C' bm k0 k1 k2 k3 n k5 hm hs
      simp only [Bool.and_eq_true, beq_iff_eq, Bool.not_eq_true'] at h
      obtain ⟨⟨⟨⟨rfl, rfl⟩, hdel⟩, hdi⟩, hr⟩ := h
      obtain ⟨nm, bs, mro, ns, qn, hd, sn, sub, ab, col, del⟩ := cd
      dsimp only at hm hdel hdi
      subst hm hdel hdi
      have hsl : sl = #[k0, k1, k2, k3, some (.builtin "ValueError.__new__"), k5] := by
        obtain ⟨l⟩ := sl
        simp only at hs
        rw [hs]
      subst hsl
      exact ⟨nm, qn, ns, bs, bm, sn, sub, ab, col, dd, k0, k1, k2, k3, k5, ho, hr⟩
    · cases h
  · cases h
/-! ### methods and makers that may raise, within a try: the wish at the caller's slots -/
def tMethE (C : Addr) (m : Str) (sp : Sp) (E : St → XK) (ta : TE) (t : TA) : TE := fun σ H Q => ta σ H fun x H1 => ∃ a dx fs, x = .ref a ∧ H1 a = some (.ins C dx fs) ∧ fs.lookup m = none ∧ t σ H1 fun vs H2 => sp (x :: vs) H2 Q (E σ)
def tMakeE (C : Addr) (sp : Sp) (E : St → XK) (t : TA) : TE := fun σ H Q => t σ H fun vs H1 => ∀ x dx, H1 x = none → H1 dx = none → dx ≠ x →
  sp (.ref x :: vs) (upd (upd H1 dx (.own x)) x (.ins C dx [])) (fun v H2 => v = .non ∧ Q (.ref x) H2) (E σ)
section
variable {X : Cx} {CX : CXT} {k : Nat} {f C : Addr} {fd : FuncData} {ps : List Str} {sp : Sp} {E : St → XK} {x m : Str} {p pos apos : Pos} {e o : Expr} {es : List Expr} {ta : TE} {t : TA}
theorem pe_methE {pl : Sem Bool} (F : FnOk X.prog X.w X.K X.mg X.base CX k f fd ps sp) (cC : Cls X.K C) (mM : Meth X.K C m f) (rm : Room k X.A) (bs : Binds X.K fd ps []) (pass : ∀ σ, PassesAt CX X σ (E σ)) (ho : PE X o ta) (ha : PA X (e :: es) t)
    (h1 : starEach (e :: es) X.env = (false, eval e X.env) :: starEach es X.env := by rfl) (h2 : (backTo pos (starEach es X.env)).any (·.1) = false := by rfl)
    (h3 : eval (.Call (.Attribute o m apos) (e :: es) [] pos) X.env = (do let ov ← eval o X.env; standAt apos.atName; let (f, first) ← holding [ov] (getMethod ov m pl); callWith pos f first (backTo pos (starEach (e :: es) X.env)) (backToKw pos (keywordEach [] X.env))) := by rfl) :
    PE X (.Call (.Attribute o m apos) (e :: es) [] pos) (tMethE C m sp E ta t) := by
  constructor
  intro pins s σ H Q I hq
  apply PySem.W.methodCall_KW (pl := pl) _ h3
  apply thn (ho.run pins s σ H _ I hq)
  intro u s1 z
  obtain ⟨y, H1, J, ry, a, dx, fs, ey, ia, nl, q⟩ := z
  subst ey
  cases (show u = Value.ref a from ry)
  apply getmeth_ok J ia cC mM nl
  apply PySem.W.callWith_K (first := [.ref a]) (h₀ := X.base) I.ok.mod.kin mM.kp _ h1 h2
  apply thn (ha.run pos pins s1 σ H1 _ J q)
  intro us s2 z
  obtain ⟨vs, H2, J2, rv, q2⟩ := z
  exact ⟨J2.kIn, run_fnS (us := .ref a :: us) (vs := .ref a :: vs) F rm bs (pass σ) J2 (.cons rfl rv) q2⟩
theorem pe_meth0E {pl : Sem Bool} (F : FnOk X.prog X.w X.K X.mg X.base CX k f fd ps sp) (cC : Cls X.K C) (mM : Meth X.K C m f) (rm : Room k X.A) (bs : Binds X.K fd ps []) (pass : ∀ σ, PassesAt CX X σ (E σ)) (ho : PE X o ta)
    (h3 : eval (.Call (.Attribute o m apos) [] [] pos) X.env = (do let ov ← eval o X.env; standAt apos.atName; let (f, first) ← holding [ov] (getMethod ov m pl); callWith pos f first (backTo pos (starEach [] X.env)) (backToKw pos (keywordEach [] X.env))) := by rfl) :
    PE X (.Call (.Attribute o m apos) [] [] pos) (tMethE C m sp E ta tNil) := by
  constructor
  intro pins s σ H Q I hq
  apply PySem.W.methodCall_KW (pl := pl) _ h3
  apply thn (ho.run pins s σ H _ I hq)
  intro u s1 z
  obtain ⟨y, H1, J, ry, a, dx, fs, ey, ia, nl, q⟩ := z
  subst ey
  cases (show u = Value.ref a from ry)
  apply getmeth_ok J ia cC mM nl
  exact PySem.W.callWith_K0 (first := [.ref a]) J.kIn mM.kp (run_fnS (us := [.ref a]) (vs := [.ref a]) F rm bs (pass σ) J (.cons rfl .nil) q)
theorem run_makeE {pins : List (Addr × Obj)} {σ : St} {H : Hp} {s : Shared} {Q : VK} {us : List Value} {vs : List V} (M : Mk X.K C f) (F : FnOk X.prog X.w X.K X.mg X.base CX k f fd ps sp) (rm : Room (k + 1) X.A) (bs : Binds X.K fd ps [])
    (pass : ∀ H0 s0 e s', Inv X pins σ H0 s0 → CX X.stack H0 s0 (E σ) e s' → X.xe e s') (I : Inv X pins σ H s) (r : Vals vs us)
    (h : ∀ x dx, H x = none → H dx = none → dx ≠ x → sp (.ref x :: vs) (upd (upd H dx (.own x)) x (.ins C dx [])) (fun v H2 => v = .non ∧ Q (.ref x) H2) (E σ)) :
    wpAny (model X.prog X.w) X.A (call (.ref C) us) (EP X pins σ Q) X.xe s := by
  have hq := h (s.heap.objs.size + 1) s.heap.objs.size (I.hok.fresh (Nat.le_succ _)) (I.hok.fresh (Nat.le_refl _)) (Nat.ne_of_lt (Nat.lt_succ_self _))
  have J := Inv.made (C := C) I
  have rr : Vals (V.ref (s.heap.objs.size + 1) :: vs) (Value.ref (s.heap.objs.size + 1) :: us) := .cons rfl r
  have hl : (Value.ref (s.heap.objs.size + 1) :: us).length = ps.length := by rw [← rr.length]; exact F.len _ _ _ _ hq
  have hb := bs _ (Value.ref (s.heap.objs.size + 1) :: us) J.kIn (by rw [List.append_nil]; exact hl)
  rw [List.append_nil] at hb
  apply wpAny_call
  apply make_map (f := f) I.kIn M.makes M.init (beq_iff_eq.mp M.fn)
  apply codeAny_mono (F.run _ X.stack _ _ ⟨Value.ref (s.heap.objs.size + 1) :: us, []⟩ (Value.ref (s.heap.objs.size + 1) :: us) _ _ (E σ) (rm.make C us []) (J.env0.make C us []) hb rr hq)
  intro res s' z
  match res, z with
  | .error e, z => exact pass _ _ e s' J z
  | .ok (.ret u), z =>
    obtain ⟨v, H', I3, rv, ev, q3⟩ := J.after z
    subst ev
    exact ⟨rv, ⟨V.ref (s.heap.objs.size + 1), H', I3, rfl, q3⟩⟩
  | .ok .next, z => exact z.elim
  | .ok .brk, z => exact z.elim
  | .ok .cont, z => exact z.elim
theorem pe_makeE (M : Mk X.K C f) (F : FnOk X.prog X.w X.K X.mg X.base CX k f fd ps sp) (rm : Room (k + 1) X.A) (hg : Gl X x) (hm : X.mg x = some (.ref C)) (bs : Binds X.K fd ps []) (pass : ∀ σ, PassesAt CX X σ (E σ)) (ha : PA X (e :: es) t)
    (h0 : (x == ("__debug__" : Str)) = false := by decide) (h1 : starEach (e :: es) X.env = (false, eval e X.env) :: starEach es X.env := by rfl) (h2 : (backTo pos (starEach es X.env)).any (·.1) = false := by rfl) :
    PE X (.Call (.Name x p) (e :: es) [] pos) (tMakeE C sp E t) := by
  constructor
  intro pins s σ H Q I hq
  apply wpAny_Call_Name_kw
  apply ld_glob I hg hm _ h0
  apply PySem.W.callWith_K (h₀ := X.base) I.ok.mod.kin M.kp _ h1 h2
  apply thn (ha.run pos pins s σ H _ I hq)
  intro us s1 z
  obtain ⟨vs, H1, J, rv, q⟩ := z
  exact ⟨J.kIn, run_makeE M F rm bs (fun H0 s0 e s' => pass σ pins H0 s0 e s') J rv q⟩
end
/-- nothing leaves a callee -/
theorem pass0f {X : Cx} : Passes CX0 X (fun _ _ _ => False) := pass0

/-- len and list() of a list, a tuple, by the written part -/
def rLenQ (K : PySem.W.Frag) : List V → Hp → VK → Prop := fun xs H Q => ∃ p ys, xs = [.ref p] ∧ (SqL K H p ys ∨ SqT K H p ys) ∧ Q (.int ys.length) H
def rListQ (K : PySem.W.Frag) : List V → Hp → VK → Prop := fun xs H Q => ∃ p ys, xs = [.ref p] ∧ (SqL K H p ys ∨ SqT K H p ys) ∧ ∀ l, H l = none → Q (.ref l) (upd H l (.lst ys))
/-! ### raise of an own class with two fields -/
theorem del_back {H H2 : Hp} {a d : Addr} {o : HO} (n : H a = none) (k : ∀ b, b ≠ a → b ≠ d → H2 b = H b) : upd (del H2 a) d o = upd H d o := by
  funext b
  by_cases hb : b = d
  · rw [hb, upd_same, upd_same]
  · rw [upd_ne hb, upd_ne hb]
    by_cases ha : b = a
    · rw [ha, del_same, n]
    · rw [del_ne ha, k b ha hb]

/-! ### attributes by place -/
theorem lk0 (f : Str) (v : V) (r : List (Str × V)) : List.lookup f ((f, v) :: r) = some v := by simp [List.lookup]
theorem lk1 {f g : Str} {v : V} {r : List (Str × V)} {o : Option V} (h : (f == g) = false) (k : List.lookup f r = o) : List.lookup f ((g, v) :: r) = o := by simp [List.lookup, h, k]
theorem lkn (f : Str) : List.lookup f ([] : List (Str × V)) = none := rfl
theorem pf0 (f : Str) (v x : V) (r : List (Str × V)) : putF f v ((f, x) :: r) = (f, v) :: r := if_pos rfl
theorem pf1 {f g : Str} {v x : V} {r s : List (Str × V)} (h : (g == f) = false) (k : putF f v r = s) : putF f v ((g, x) :: r) = (g, x) :: s := by
  have e : ¬ g = f := by simpa using h
  show (if g = f then (g, v) :: r else (g, x) :: putF f v r) = (g, x) :: s
  rw [if_neg e, k]
theorem pfn (f : Str) (v : V) : putF f v [] = [(f, v)] := rfl

/-! ### heaps -/
/-- all tracked objects stay, but for those at W -/
def Kp (W : List Addr) (H H' : Hp) : Prop := ∀ b o, H b = some o → b ∉ W → H' b = some o
theorem Kp.refl (W : List Addr) (H : Hp) : Kp W H H := fun _ _ e _ => e
theorem Kp.trans {W : List Addr} {H H1 H2 : Hp} (a : Kp W H H1) (b : Kp W H1 H2) : Kp W H H2 := fun c o e h => b c o (a c o e h) h
theorem Kp.mono {W V : List Addr} {H H1 : Hp} (a : Kp W H H1) (s : ∀ x ∈ W, x ∈ V) : Kp V H H1 := fun c o e h => a c o e fun m => h (s c m)
theorem Kp.new {W : List Addr} {H H1 : Hp} (a : Kp W H H1) {p : Addr} {o : HO} (n : H1 p = none) : Kp W H (upd H1 p o) := fun c u e h => by
  have z := a c u e h
  rw [upd_ne (ne_of_none z n)]
  exact z
/-- a store to what was free ahead -/
theorem Kp.own {W : List Addr} {H H1 : Hp} (a : Kp W H H1) {p : Addr} {o : HO} (n : H p = none) : Kp W H (upd H1 p o) := fun c u e h => by
  rw [upd_ne (ne_of_none e n)]
  exact a c u e h
theorem Kp.at {H H1 : Hp} (a : Kp [] H H1) {p : Addr} {o : HO} (e : H p = some o) : H1 p = some o := a p o e (by simp)
theorem Kp.put {W : List Addr} {H H1 : Hp} (a : Kp W H H1) {p : Addr} {o : HO} (n : p ∈ W) : Kp W H (upd H1 p o) := fun c u e h => by
  rw [upd_ne (show c ≠ p from fun z => h (by rw [z]; exact n))]
  exact a c u e h
theorem Kp.free {H H1 : Hp} (a : Kp [] H H1) {p : Addr} (n : H1 p = none) : H p = none := by
  cases e : H p with
  | none => rfl
  | some o =>
    rw [a p o e (by simp)] at n
    cases n
/-- what was free and is not at W stays free where it is free behind -/
theorem Kp.freeW {W : List Addr} {H H1 : Hp} (a : Kp W H H1) {p : Addr} (n : H1 p = none) (h : ∀ q ∈ W, ∃ o, H1 q = some o) : H p = none := by
  cases e : H p with
  | none => rfl
  | some o =>
    by_cases m : p ∈ W
    · obtain ⟨u, hu⟩ := h p m
      rw [n] at hu
      cases hu
    · rw [a p o e m] at n
      cases n

/-! ### tuples stay -/
/-- every tuple stays -/
def KTu (K : PySem.W.Frag) (H H' : Hp) : Prop := ∀ a xs, SqT K H a xs → SqT K H' a xs
theorem KTu.refl (K : PySem.W.Frag) (H : Hp) : KTu K H H := fun _ _ h => h
theorem KTu.trans {K : PySem.W.Frag} {H H1 H2 : Hp} (a : KTu K H H1) (b : KTu K H1 H2) : KTu K H H2 := fun c xs h => b c xs (a c xs h)
theorem KTu.of_rd {K : PySem.W.Frag} {H H' : Hp} (h : ∀ a xs, Rd H a (.tup xs) → Rd H' a (.tup xs)) : KTu K H H' := fun a xs z => z.elim (fun r => .inl (h a xs r)) .inr
theorem KTu.upd {K : PySem.W.Frag} {H : Hp} {p : Addr} {o : HO} (h : ∀ xs, ¬ Rd H p (.tup xs)) : KTu K H (upd H p o) := KTu.of_rd fun a xs r => by
  have ne : a ≠ p := fun z => h xs (z ▸ r)
  rcases r with r | ⟨u, r⟩
  · exact .inl (by rw [upd_ne ne]; exact r)
  · exact .inr ⟨u, by rw [upd_ne ne]; exact r⟩
theorem KTu.new {K : PySem.W.Frag} {H : Hp} {p : Addr} {o : HO} (n : H p = none) : KTu K H (L2.upd H p o) := KTu.upd fun xs r => by
  rcases r with r | ⟨u, r⟩ <;> (rw [n] at r; cases r)
theorem KTu.lst {K : PySem.W.Frag} {H : Hp} {p : Addr} {o : HO} {xs : List V} (n : H p = some (.lst xs)) : KTu K H (L2.upd H p o) := KTu.upd fun ys r => by
  rcases r with r | ⟨u, r⟩ <;> (rw [n] at r; cases r)
theorem KTu.dic {K : PySem.W.Frag} {H : Hp} {p : Addr} {o : HO} {xs : List (Key × V)} (n : H p = some (.dK xs)) : KTu K H (L2.upd H p o) := KTu.upd fun ys r => by
  rcases r with r | ⟨u, r⟩ <;> (rw [n] at r; cases r)
theorem KTu.ins {K : PySem.W.Frag} {H : Hp} {p C dx : Addr} {o : HO} {xs : List (Str × V)} (n : H p = some (.ins C dx xs)) : KTu K H (L2.upd H p o) := KTu.upd fun ys r => by
  rcases r with r | ⟨u, r⟩ <;> (rw [n] at r; cases r)
theorem KTu.kp {K : PySem.W.Frag} {W : List Addr} {H H' : Hp} (k : Kp W H H') (h : ∀ p ∈ W, ∀ xs, ¬ Rd H p (.tup xs)) : KTu K H H' := KTu.of_rd fun a xs r => by
  have ne : a ∉ W := fun z => h a z xs r
  rcases r with r | ⟨u, r⟩
  · exact .inl (k a _ r ne)
  · exact .inr ⟨u, k a _ r ne⟩

theorem Kp.kt {K : PySem.W.Frag} {H H1 : Hp} (a : Kp [] H H1) : KTu K H H1 := KTu.kp a fun p hp => by cases hp
theorem Kp.seq {K : PySem.W.Frag} {H H1 : Hp} (e : Kp [] H H1) {a : Addr} {xs : List V} (h : SqL K H a xs) : SqL K H1 a xs := by
  rcases h with (h | ⟨o, h⟩) | h
  · exact .inl (.inl (e.at h))
  · exact .inl (.inr ⟨o, e.at h⟩)
  · exact .inr h
theorem Kp.seqW {K : PySem.W.Frag} {W : List Addr} {H H1 : Hp} (e : Kp W H H1) {a : Addr} {xs : List V} (h : SqL K H a xs) (n : a ∉ W) : SqL K H1 a xs := by
  rcases h with (h | ⟨o, h⟩) | h
  · exact .inl (.inl (e a _ h n))
  · exact .inl (.inr ⟨o, e a _ h n⟩)
  · exact .inr h
theorem Kp.thru {W : List Addr} {H H1 H2 : Hp} (a : Kp [] H H1) (b : Kp W H1 H2) (n : ∀ p ∈ W, H p = none) : Kp [] H H2 := fun c o e _ =>
  b c o (a.at e) fun m => by rw [n c m] at e; cases e

/-! ### data of scalars and tuples -/
mutual
def noL : PyData → Bool
  | .none => true
  | .bool _ => true
  | .int _ => true
  | .str _ => true
  | .tuple xs => noLs xs
  | .list _ => false
  | .dict _ => false
def noLs : List PyData → Bool
  | [] => true
  | x :: xs => noL x && noLs xs
end
section
variable {K : PySem.W.Frag} {H H' : Hp}
mutual
theorem Dp.kt (k : KTu K H H') : ∀ (d : PyData) (v : V), noL d = true → Dp K H v d → Dp K H' v d
  | .none, _, _, h => by cases h; exact .non
  | .bool b, _, _, h => by cases h; exact .bl b
  | .int i, _, _, h => by cases h; exact .int i
  | .str x, _, _, h => by cases h; exact .str x
  | .list ds, _, n, _ => by simp [noL] at n
  | .tuple ds, _, n, h => by
    cases h with
    | tup hs ha => exact .tup (k _ _ hs) (DpAll.kt k ds _ (by simpa [noL] using n) ha)
  | .dict _, _, _, h => by cases h
theorem DpAll.kt (k : KTu K H H') : ∀ (ds : List PyData) (vs : List V), noLs ds = true → DpAll K H vs ds → DpAll K H' vs ds
  | [], _, _, h => by cases h; exact .nil
  | d :: ds, _, n, h => by
    have n' : noL d = true ∧ noLs ds = true := by simpa [noLs] using n
    cases h with
    | cons h1 h2 => exact .cons (Dp.kt k d _ n'.1 h1) (DpAll.kt k ds _ n'.2 h2)
end
mutual
/-- data of any kind, where all that is tracked stays -/
theorem Dp.ex (k : Kp [] H H') : ∀ (d : PyData) (v : V), Dp K H v d → Dp K H' v d
  | .none, _, h => by cases h; exact .non
  | .bool b, _, h => by cases h; exact .bl b
  | .int i, _, h => by cases h; exact .int i
  | .str x, _, h => by cases h; exact .str x
  | .list ds, _, h => by
    cases h with
    | lst hs ha =>
      refine .lst ?_ (DpAll.ex k ds _ ha)
      rcases hs with (r | ⟨u, r⟩) | r
      · exact .inl (.inl (k _ _ r (by simp)))
      · exact .inl (.inr ⟨u, k _ _ r (by simp)⟩)
      · exact .inr r
  | .tuple ds, _, h => by
    cases h with
    | tup hs ha =>
      refine .tup ?_ (DpAll.ex k ds _ ha)
      rcases hs with (r | ⟨u, r⟩) | r
      · exact .inl (.inl (k _ _ r (by simp)))
      · exact .inl (.inr ⟨u, k _ _ r (by simp)⟩)
      · exact .inr r
  | .dict _, _, h => by cases h
theorem DpAll.ex (k : Kp [] H H') : ∀ (ds : List PyData) (vs : List V), DpAll K H vs ds → DpAll K H' vs ds
  | [], _, h => by cases h; exact .nil
  | d :: ds, _, h => by
    cases h with
    | cons h1 h2 => exact .cons (Dp.ex k d _ h1) (DpAll.ex k ds _ h2)
end
theorem DpAll.len : ∀ {vs : List V} {ds : List PyData}, DpAll K H vs ds → vs.length = ds.length
  | _, _, .nil => rfl
  | _, _, .cons _ t => congrArg Nat.succ (DpAll.len t)
theorem DpAll.get : ∀ {vs : List V} {ds : List PyData} {i : Nat} {v : V}, DpAll K H vs ds → vs[i]? = some v → ∃ d, ds[i]? = some d ∧ Dp K H v d
  | _, _, _, _, .nil, e => by simp at e
  | _, _, 0, _, .cons h _, e => by simp at e; subst e; exact ⟨_, rfl, h⟩
  | _, _, i + 1, v, .cons _ t, e => by
    obtain ⟨d, h1, h2⟩ := DpAll.get (i := i) (v := v) t (by simpa using e)
    exact ⟨d, by simpa using h1, h2⟩
theorem DpAll.getD : ∀ {vs : List V} {ds : List PyData} {i : Nat} {d : PyData}, DpAll K H vs ds → ds[i]? = some d → ∃ v, vs[i]? = some v ∧ Dp K H v d
  | _, _, _, _, .nil, e => by simp at e
  | _, _, 0, _, .cons h _, e => by simp at e; subst e; exact ⟨_, rfl, h⟩
  | _, _, i + 1, d, .cons _ t, e => by
    obtain ⟨v, h1, h2⟩ := DpAll.getD (i := i) (d := d) t (by simpa using e)
    exact ⟨v, by simpa using h1, h2⟩
theorem DpAll.app : ∀ {vs ws : List V} {ds es : List PyData}, DpAll K H vs ds → DpAll K H ws es → DpAll K H (vs ++ ws) (ds ++ es)
  | _, _, _, _, .nil, s => s
  | _, _, _, _, .cons h t, s => .cons h (DpAll.app t s)
theorem DpAll.erase : ∀ {vs : List V} {ds : List PyData} (i : Nat), DpAll K H vs ds → DpAll K H (vs.eraseIdx i) (ds.eraseIdx i)
  | _, _, _, .nil => .nil
  | _, _, 0, .cons _ t => t
  | _, _, i + 1, .cons h t => .cons h (DpAll.erase i t)
theorem DpAll.take : ∀ {vs : List V} {ds : List PyData} (i : Nat), DpAll K H vs ds → DpAll K H (vs.take i) (ds.take i)
  | _, _, 0, _ => .nil
  | _, _, _ + 1, .nil => .nil
  | _, _, i + 1, .cons h t => .cons h (DpAll.take i t)
theorem DpAll.drop : ∀ {vs : List V} {ds : List PyData} (i : Nat), DpAll K H vs ds → DpAll K H (vs.drop i) (ds.drop i)
  | _, _, 0, h => h
  | _, _, _ + 1, .nil => .nil
  | _, _, i + 1, .cons _ t => DpAll.drop i t
theorem noLs_iff : ∀ {ds : List PyData}, noLs ds = true ↔ ∀ d ∈ ds, noL d = true
  | [] => by simp [noLs]
  | d :: ds => by simp [noLs, noLs_iff (ds := ds)]
end

/-! ### what == may look at -/
structure Sh (n : Nat) (d : PyData) : Prop where
  can : d.canLay0 = true
  dep : d.depth ≤ n
theorem Sh.shaped {n : Nat} {d : PyData} (h : Sh n d) (hn : n ≤ 64 := by decide) : SeqAt.shaped d = true := by
  show (d.canLay0 && decide (d.depth ≤ 64)) = true
  rw [h.can, decide_eq_true (Nat.le_trans h.dep hn)]
  rfl
theorem Sh.mono {n m : Nat} {d : PyData} (h : Sh n d) (hn : n ≤ m) : Sh m d := ⟨h.can, Nat.le_trans h.dep hn⟩
theorem Sh.refl {n : Nat} {d : PyData} (h : Sh n d) : PyData.eqv d d = true := SeqAt.eqv_refl d h.can
theorem sh_non {n : Nat} : Sh n .none := ⟨by simp [PyData.canLay0], by simp [PyData.depth]⟩
theorem sh_bl {n : Nat} (b : Bool) : Sh n (.bool b) := ⟨by simp [PyData.canLay0], by simp [PyData.depth]⟩
theorem sh_int {n : Nat} (i : Int) : Sh n (.int i) := ⟨by simp [PyData.canLay0], by simp [PyData.depth]⟩
theorem sh_str {n : Nat} {x : Str} (h : PyData.strOk x = true) : Sh n (.str x) := ⟨by simp [PyData.canLay0, h], by simp [PyData.depth]⟩
theorem can_all : ∀ {ds : List PyData}, (∀ d ∈ ds, d.canLay0 = true) → PyData.canLayAll0 ds = true
  | [], _ => by simp [PyData.canLayAll0]
  | d :: ds, h => by
    rw [PyData.canLayAll0, h d (by simp), can_all fun e m => h e (by simp [m])]
    rfl
theorem dep_all : ∀ {ds : List PyData} {n : Nat}, (∀ d ∈ ds, d.depth ≤ n) → PyData.depthAll ds ≤ n
  | [], _, _ => by simp [PyData.depthAll]
  | d :: ds, n, h => by
    rw [PyData.depthAll]
    exact Nat.max_le.mpr ⟨h d (by simp), dep_all fun e m => h e (by simp [m])⟩
theorem sh_list {n : Nat} {ds : List PyData} (h : ∀ d ∈ ds, Sh n d) : Sh (n + 1) (.list ds) :=
  ⟨by rw [PyData.canLay0]; exact can_all fun d m => (h d m).can, by rw [PyData.depth]; exact Nat.succ_le_succ (dep_all fun d m => (h d m).dep)⟩
theorem sh_tup {n : Nat} {ds : List PyData} (h : ∀ d ∈ ds, Sh n d) : Sh (n + 1) (.tuple ds) :=
  ⟨by rw [PyData.canLay0]; exact can_all fun d m => (h d m).can, by rw [PyData.depth]; exact Nat.succ_le_succ (dep_all fun d m => (h d m).dep)⟩
theorem all_nil {n : Nat} : ∀ d ∈ ([] : List PyData), Sh n d := fun _ h => by cases h
theorem all_cons {n : Nat} {d : PyData} {ds : List PyData} (h : Sh n d) (t : ∀ e ∈ ds, Sh n e) : ∀ e ∈ d :: ds, Sh n e := fun e m => by
  rcases List.mem_cons.mp m with rfl | m
  · exact h
  · exact t e m
/-! ### a store in a dict by a key that is there -/
theorem put_is {κ : Type} [DecidableEq κ] {kvs kvs' : List (κ × V)} {k : κ} {v : V} (h1 : (kvs.any fun p => decide (p.1 = k)) = true) (h2 : (kvs.map fun p => if p.1 = k then (p.1, v) else p) = kvs') : putK kvs k v = kvs' := by
  unfold putK
  rw [if_pos h1]
  exact h2
/-! ### tests -/
theorem iteD {p A B : Prop} [Decidable p] (h1 : p → A) (h2 : ¬ p → B) : if decide p = true then A else B := by
  by_cases h : p
  · rw [if_pos (decide_eq_true h)]; exact h1 h
  · rw [if_neg (by simp [h])]; exact h2 h
theorem iteN {p A B : Prop} [Decidable p] (h1 : ¬ p → A) (h2 : p → B) : if (!decide p) = true then A else B := by
  by_cases h : p
  · rw [if_neg (by simp [h])]; exact h2 h
  · rw [if_pos (by simp [h])]; exact h1 h
theorem iteB {b : Bool} {A B : Prop} (h1 : b = true → A) (h2 : b = false → B) : if b = true then A else B := by
  cases b
  · rw [if_neg Bool.false_ne_true]; exact h2 rfl
  · rw [if_pos rfl]; exact h1 rfl
theorem iteNB {b : Bool} {A B : Prop} (h1 : b = false → A) (h2 : b = true → B) : if (!b) = true then A else B := by
  cases b
  · exact (if_pos (by simp : (!false) = true)).mpr (h1 rfl)
  · exact (if_neg (by simp : ¬ (!true) = true)).mpr (h2 rfl)
theorem vstr {a b : Str} (h : V.str a = V.str b) : a = b := by injection h
theorem vint {a b : Int} (h : V.int a = V.int b) : a = b := by injection h
theorem vstr_ne {a b : Str} (h : ¬ V.str a = V.str b) : ¬ a = b := fun e => h (by rw [e])
theorem vint_ne {a b : Int} (h : ¬ V.int a = V.int b) : ¬ a = b := fun e => h (by rw [e])
theorem small {n : Nat} (h : n ≤ 100000) : n ≤ sizeLine := Nat.le_trans h (by decide)
theorem smallL {n : Nat} (h : n ≤ 100000) : n < sizeLine := Nat.lt_of_le_of_lt h (by decide)
/-! ### values by their kind -/
theorem ty_tup {K : PySem.W.Frag} {H : Hp} {a : Addr} {xs : List V} (h : SqT K H a xs) : TyX K H (.ref a) (.type "tuple") := by
  rcases h with (r | ⟨o, r⟩) | ⟨o, its, n, e, c, _⟩
  · exact .base (.tup r)
  · exact .fTuple r
  · exact .kTuple e c
theorem ty_lst {K : PySem.W.Frag} {H : Hp} {a : Addr} {xs : List V} (h : SqL K H a xs) : TyX K H (.ref a) (.type "list") := by
  rcases h with (r | ⟨o, r⟩) | ⟨o, its, n, e, c, _⟩
  · exact .base (.lst r)
  · exact .base (.frz r)
  · exact .kList e c
/-- the built-in type of data -/
def tyD : PyData → String
  | .none => "NoneType"
  | .bool _ => "bool"
  | .int _ => "int"
  | .str _ => "str"
  | .list _ => "list"
  | .tuple _ => "tuple"
  | .dict _ => "dict"
theorem ty_of {K : PySem.W.Frag} {H : Hp} {v : V} {d : PyData} (h : Dp K H v d) : TyX K H v (.type (tyD d)) := by
  cases h with
  | non => exact .base .non
  | bl b => exact .base (.bl b)
  | int i => exact .base (.int i)
  | str x => exact .base (.str x)
  | lst hs _ => exact ty_lst hs
  | tup hs _ => exact ty_tup hs
/-! ### data that does not reach the objects at W -/
def out (W : List Addr) (H : Hp) : Hp := fun a => if a ∈ W then none else H a
theorem out_in {W : List Addr} {H : Hp} {a : Addr} (h : a ∈ W) : out W H a = none := if_pos h
theorem out_ne {W : List Addr} {H : Hp} {a : Addr} (h : a ∉ W) : out W H a = H a := if_neg h
theorem out_nil {H : Hp} : out [] H = H := by funext a; exact if_neg (by simp)
theorem Kp.out {W : List Addr} {H H' : Hp} (k : Kp W H H') : Kp [] (out W H) (L2.out W H') := fun a o e _ => by
  by_cases h : a ∈ W
  · rw [out_in h] at e; cases e
  · rw [out_ne h] at e ⊢
    exact k _ _ e h
theorem out_back (W : List Addr) (H : Hp) : Kp [] (out W H) H := fun a o e _ => by
  by_cases h : a ∈ W
  · rw [out_in h] at e; cases e
  · rw [out_ne h] at e; exact e
/-- all that W names is there -/
def Al (W : List Addr) (H : Hp) : Prop := ∀ a ∈ W, ∃ o, H a = some o
theorem Al.not {W : List Addr} {H : Hp} {p : Addr} (h : Al W H) (n : H p = none) : p ∉ W := fun m => by
  obtain ⟨o, e⟩ := h p m
  rw [n] at e
  cases e
theorem Al.nil {H : Hp} : Al [] H := fun _ m => by cases m
theorem Al.ex {W : List Addr} {H H' : Hp} (h : Al W H) (k : Kp [] H H') : Al W H' := fun a m => let ⟨o, e⟩ := h a m; ⟨o, k.at e⟩
theorem Al.one {H : Hp} {p : Addr} {o : HO} (e : H p = some o) : Al [p] H := fun a m => by rw [List.mem_singleton.mp m]; exact ⟨o, e⟩
section
variable {K : PySem.W.Frag} {W : List Addr} {H H' : Hp} {v : V} {d : PyData} {vs : List V} {ds : List PyData}
abbrev DW (K : PySem.W.Frag) (W : List Addr) (H : Hp) (v : V) (d : PyData) : Prop := Dp K (out W H) v d
abbrev DWs (K : PySem.W.Frag) (W : List Addr) (H : Hp) (vs : List V) (ds : List PyData) : Prop := DpAll K (out W H) vs ds
theorem DW.kp (h : DW K W H v d) (k : Kp W H H') : DW K W H' v d := Dp.ex k.out _ _ h
theorem DWs.kp (h : DWs K W H vs ds) (k : Kp W H H') : DWs K W H' vs ds := DpAll.ex k.out _ _ h
theorem DW.dp (h : DW K W H v d) : Dp K H v d := Dp.ex (out_back W H) _ _ h
theorem DWs.dp (h : DWs K W H vs ds) : DpAll K H vs ds := DpAll.ex (out_back W H) _ _ h
theorem DW.of (h : Dp K H v d) : DW K [] H v d := by rw [DW, out_nil]; exact h
theorem DWs.of (h : DpAll K H vs ds) : DWs K [] H vs ds := by rw [DWs, out_nil]; exact h
theorem out_fresh {p : Addr} (n : H p = none) : Kp [] H (out [p] H) := fun a o e _ => by
  rw [out_ne fun m => by rw [List.mem_singleton.mp m, n] at e; cases e]
  exact e
theorem out_wide {W V : List Addr} {H : Hp} (h : ∀ a ∈ V, a ∈ W ∨ H a = none) : Kp [] (out W H) (out V H) := fun a o e _ => by
  by_cases m : a ∈ W
  · rw [out_in m] at e; cases e
  · rw [out_ne m] at e
    rw [out_ne fun z => by
      rcases h a z with c | c
      · exact m c
      · rw [c] at e; cases e]
    exact e
theorem DW.wide {V : List Addr} (h : DW K W H v d) (k : ∀ a ∈ V, a ∈ W ∨ H a = none) : DW K V H v d := Dp.ex (out_wide k) _ _ h
theorem DWs.wide {V : List Addr} (h : DWs K W H vs ds) (k : ∀ a ∈ V, a ∈ W ∨ H a = none) : DWs K V H vs ds := DpAll.ex (out_wide k) _ _ h
theorem DW.less {V : List Addr} (h : DW K V H v d) (k : ∀ a ∈ W, a ∈ V) : DW K W H v d := h.wide fun a m => .inl (k a m)
/-- a new object -/
theorem out_new (al : Al W H) {p : Addr} {o : HO} (n : H p = none) : out W (upd H p o) = upd (out W H) p o := by
  funext a
  by_cases e : a = p
  · rw [e, out_ne (al.not n), upd_same, upd_same]
  · rw [upd_ne e]
    by_cases m : a ∈ W
    · rw [out_in m, out_in m]
    · rw [out_ne m, out_ne m, upd_ne e]
theorem out_none (al : Al W H) {p : Addr} (n : H p = none) : out W H p = none := by rw [out_ne (al.not n)]; exact n
theorem DWs.tup (h : DWs K W H vs ds) (al : Al W H) {p : Addr} (n : H p = none) : DW K W (upd H p (.tup vs)) (.ref p) (.tuple ds) := by
  show Dp K _ _ _
  rw [out_new al n]
  exact .tup (SqT.of upd_same) (DpAll.ex ((Kp.refl [] _).new (out_none al n)) _ _ h)
theorem DWs.lst (h : DWs K W H vs ds) (al : Al W H) {p : Addr} (n : H p = none) : DW K W (upd H p (.lst vs)) (.ref p) (.list ds) := by
  show Dp K _ _ _
  rw [out_new al n]
  exact .lst (SqL.of upd_same) (DpAll.ex ((Kp.refl [] _).new (out_none al n)) _ _ h)
theorem SqT.out (h : SqT K (out W H) p xs) : SqT K H p xs := (out_back W H).kt (K := K) _ _ h
theorem SqL.out (h : SqL K (out W H) p xs) : SqL K H p xs := (out_back W H).seq h
end
/-! ### operators on such data -/
theorem atI_data {K : PySem.W.Frag} {H : Hp} {vs : List V} {ds : List PyData} {i : Nat} {d : PyData} (h : DpAll K H vs ds) (e : ds[i]? = some d) : ∃ v, atI vs (i : Int) = some v ∧ Dp K H v d := by
  obtain ⟨v, h1, h2⟩ := DpAll.getD h e
  exact ⟨v, atI_nat h1, h2⟩
/-- x[i], x a tuple or a list -/
def rIxP (K : PySem.W.Frag) : R2 := fun x y H Q => ∃ (W : List Addr) (ds : List PyData) (i : Nat) (d : PyData), (DW K W H x (.tuple ds) ∨ DW K W H x (.list ds)) ∧ y = .int i ∧ ds[i]? = some d ∧ ∀ v, DW K W H v d → Q v H
theorem ix_data {X : Cx} : IxR X (rIxP X.K) := by
  intro value slice pins s σ H x y v u Q I rx ry h hs
  obtain ⟨W, ds, i, d, hx, rfl, e, q⟩ := h
  rcases hx with hx | hx
  · cases hx with
    | tup hq ha =>
      obtain ⟨w, e1, e2⟩ := atI_data ha e
      exact ix_tup value slice pins s σ H _ _ v u Q I rx ry ⟨_, _, _, w, rfl, rfl, SqT.out hq, e1, q w e2⟩ hs
  · cases hx with
    | lst hq ha =>
      obtain ⟨w, e1, e2⟩ := atI_data ha e
      exact ix_list value slice pins s σ H _ _ v u Q I rx ry ⟨_, _, _, w, rfl, rfl, SqL.out hq, e1, q w e2⟩ hs
/-- x + y, tuples -/
def rCatD (K : PySem.W.Frag) : R2 := fun x y H Q => ∃ (W : List Addr) (ds es : List PyData), Al W H ∧ DW K W H x (.tuple ds) ∧ DW K W H y (.tuple es) ∧ ds.length + es.length ≤ sizeLine ∧ ∀ v H', Kp [] H H' → DW K W H' v (.tuple (ds ++ es)) → Q v H'
theorem op_catD {X : Cx} : OpR X (binaryOp .Add) (rCatD X.K) := by
  intro pins s σ H x y v u Q I rx ry h
  obtain ⟨W, ds, es, al, hx, hy, hz, q⟩ := h
  have hx0 := hx
  have hy0 := hy
  cases hx with
  | tup hq ha =>
    cases hy with
    | tup hq2 hb =>
      refine op_catA pins s σ H _ _ v u Q I rx ry ⟨_, _, _, _, rfl, rfl, SqT.out hq, SqT.out hq2, by rw [ha.len, hb.len]; exact hz, fun e => ?_, fun _ e => ?_, fun _ _ p np => ?_⟩
      · subst e
        cases ha
        exact q _ _ (Kp.refl _ _) hy0
      · subst e
        cases hb
        rw [List.append_nil] at q
        exact q _ _ (Kp.refl _ _) hx0
      · exact q _ _ ((Kp.refl _ _).new np) (DWs.tup (DpAll.app ha hb) al np)
/-- x[lo:hi], x a tuple -/
def rSlD (K : PySem.W.Frag) : V → Option Int → Option Int → Hp → VK → Prop := fun x lo hi H Q => ∃ (W : List Addr) (ds : List PyData), Al W H ∧ DW K W H x (.tuple ds) ∧ ∀ v H', Kp [] H H' → DW K W H' v (.tuple ((ds.drop (HT.sIx ds.length 0 lo)).take (HT.sIx ds.length ds.length hi - HT.sIx ds.length 0 lo))) → Q v H'
theorem sl_tupD {X : Cx} : SlR X (rSlD X.K) := by
  intro pins s σ H x v vl vu lo hi sl Q I rx hs pl pu h
  obtain ⟨W, ds, al, hx, q⟩ := h
  have hx0 := hx
  cases hx with
  | tup hq ha =>
    have hl := ha.len
    refine sl_tupA pins s σ H _ v vl vu lo hi sl Q I rx hs pl pu ⟨_, _, rfl, SqT.out hq, fun ⟨e1, e2⟩ => ?_, fun _ p np => ?_⟩
    · rw [hl] at e1 e2
      rw [e1, e2] at q
      rw [List.drop_zero, Nat.sub_zero, List.take_length] at q
      exact q _ _ (Kp.refl _ _) hx0
    · refine q _ _ ((Kp.refl _ _).new np) (DWs.tup ?_ al np)
      unfold cutV
      rw [hl]
      exact DpAll.take _ (DpAll.drop _ ha)
/-! ### isinstance of data -/
def intB : PyData → Bool
  | .int _ => true
  | .bool _ => true
  | _ => false
def bolB : PyData → Bool
  | .bool _ => true
  | _ => false
def strB : PyData → Bool
  | .str _ => true
  | _ => false
def tupB : PyData → Bool
  | .tuple _ => true
  | _ => false
def lstB : PyData → Bool
  | .list _ => true
  | _ => false
theorem kit_int : ∀ d : PyData, kitB (tyD d) "int" = some (intB d)
  | .none => (by decide +kernel : kitB "NoneType" "int" = some false)
  | .bool _ => (by decide +kernel : kitB "bool" "int" = some true)
  | .int _ => (by decide +kernel : kitB "int" "int" = some true)
  | .str _ => (by decide +kernel : kitB "str" "int" = some false)
  | .list _ => (by decide +kernel : kitB "list" "int" = some false)
  | .tuple _ => (by decide +kernel : kitB "tuple" "int" = some false)
  | .dict _ => (by decide +kernel : kitB "dict" "int" = some false)
theorem kit_bol : ∀ d : PyData, kitB (tyD d) "bool" = some (bolB d)
  | .none => (by decide +kernel : kitB "NoneType" "bool" = some false)
  | .bool _ => (by decide +kernel : kitB "bool" "bool" = some true)
  | .int _ => (by decide +kernel : kitB "int" "bool" = some false)
  | .str _ => (by decide +kernel : kitB "str" "bool" = some false)
  | .list _ => (by decide +kernel : kitB "list" "bool" = some false)
  | .tuple _ => (by decide +kernel : kitB "tuple" "bool" = some false)
  | .dict _ => (by decide +kernel : kitB "dict" "bool" = some false)
theorem kit_str : ∀ d : PyData, kitB (tyD d) "str" = some (strB d)
  | .none => (by decide +kernel : kitB "NoneType" "str" = some false)
  | .bool _ => (by decide +kernel : kitB "bool" "str" = some false)
  | .int _ => (by decide +kernel : kitB "int" "str" = some false)
  | .str _ => (by decide +kernel : kitB "str" "str" = some true)
  | .list _ => (by decide +kernel : kitB "list" "str" = some false)
  | .tuple _ => (by decide +kernel : kitB "tuple" "str" = some false)
  | .dict _ => (by decide +kernel : kitB "dict" "str" = some false)
theorem kit_tup : ∀ d : PyData, kitB (tyD d) "tuple" = some (tupB d)
  | .none => (by decide +kernel : kitB "NoneType" "tuple" = some false)
  | .bool _ => (by decide +kernel : kitB "bool" "tuple" = some false)
  | .int _ => (by decide +kernel : kitB "int" "tuple" = some false)
  | .str _ => (by decide +kernel : kitB "str" "tuple" = some false)
  | .list _ => (by decide +kernel : kitB "list" "tuple" = some false)
  | .tuple _ => (by decide +kernel : kitB "tuple" "tuple" = some true)
  | .dict _ => (by decide +kernel : kitB "dict" "tuple" = some false)
theorem kit_lst : ∀ d : PyData, kitB (tyD d) "list" = some (lstB d)
  | .none => (by decide +kernel : kitB "NoneType" "list" = some false)
  | .bool _ => (by decide +kernel : kitB "bool" "list" = some false)
  | .int _ => (by decide +kernel : kitB "int" "list" = some false)
  | .str _ => (by decide +kernel : kitB "str" "list" = some false)
  | .list _ => (by decide +kernel : kitB "list" "list" = some true)
  | .tuple _ => (by decide +kernel : kitB "tuple" "list" = some false)
  | .dict _ => (by decide +kernel : kitB "dict" "list" = some false)
/-- an integer from lo to hi -/
def intIn (d : PyData) (lo hi : Int) : Bool := match d with
  | .int i => decide (lo ≤ i) && decide (i ≤ hi)
  | _ => false
/-! ### a bag of draws -/
def Bag (H : Hp) (p : Addr) : Prop := ∃ x y k : Int, H p = some (.lst [.int x, .int y, .int k])
/-- all stays but the bag -/
def Stp (p : Addr) (H H' : Hp) : Prop := Kp [p] H H' ∧ Bag H' p
section
variable {p q : Addr} {H H1 H2 : Hp} {o : HO}
theorem Stp.refl (b : Bag H p) : Stp p H H := ⟨Kp.refl _ _, b⟩
theorem Stp.trans (a : Stp p H H1) (b : Stp p H1 H2) : Stp p H H2 := ⟨a.1.trans b.1, b.2⟩
theorem Bag.ex (b : Bag H p) (k : Kp [] H H1) : Bag H1 p := let ⟨x, y, z, e⟩ := b; ⟨x, y, z, k.at e⟩
theorem Stp.ex (a : Stp p H H1) (k : Kp [] H1 H2) : Stp p H H2 := ⟨a.1.trans (k.mono (by simp)), a.2.ex k⟩
theorem Stp.new (a : Stp p H H1) (n : H1 q = none) : Stp p H (upd H1 q o) := a.ex ((Kp.refl _ _).new n)
theorem Bag.al (b : Bag H p) : Al [p] H := let ⟨_, _, _, e⟩ := b; Al.one e
theorem Bag.kt {K : PySem.W.Frag} (b : Bag H p) (a : Stp p H H1) : KTu K H H1 := KTu.kp a.1 fun x hx xs z => by
  obtain ⟨_, _, _, e⟩ := b
  rw [List.mem_singleton.mp hx] at z
  rcases z with z | ⟨u, z⟩ <;> (rw [e] at z; cases z)
theorem Bag.free (b : Bag H p) (a : Stp p H H1) (n : H1 q = none) : H q = none := a.1.freeW n fun x hx => by
  obtain ⟨_, _, _, e⟩ := a.2
  rw [List.mem_singleton.mp hx]
  exact ⟨_, e⟩
end
theorem log_small {n : Int} (h0 : 0 ≤ n) (h1 : n ≤ 100000) : n.natAbs.log2 < 9000 := by
  have h : n.natAbs ≤ 100000 := by omega
  have h2 : n.natAbs.log2 ≤ n.natAbs := Nat.log2_le_self _
  by_cases z : n.natAbs = 0
  · rw [z]; decide
  · exact Nat.lt_of_lt_of_le ((Nat.log2_lt z).mpr (Nat.lt_of_le_of_lt h (by decide : 100000 < 2 ^ 17))) (by decide)
/-- len of a tuple or a list, by its data -/
def rLenP (K : PySem.W.Frag) : List V → Hp → VK → Prop := fun xs H Q => ∃ (v : V) (W : List Addr) (ds : List PyData), xs = [v] ∧ (DW K W H v (.tuple ds) ∨ DW K W H v (.list ds)) ∧ Q (.int ds.length) H
theorem call_lenP {X : Cx} : CallR X (.builtin "len") (rLenP X.K) := by
  intro pins s σ H xs us Q I r h
  obtain ⟨v, W, ds, rfl, hv, q⟩ := h
  rcases hv with hv | hv
  · cases hv with
    | tup hq ha => exact call_len_seq pins s σ H _ us Q I r ⟨_, _, rfl, .inr (SqT.out hq), by rw [ha.len]; exact q⟩
  · cases hv with
    | lst hq ha => exact call_len_seq pins s σ H _ us Q I r ⟨_, _, rfl, .inl (SqL.out hq), by rw [ha.len]; exact q⟩
theorem DW.tupOf {K : PySem.W.Frag} {W : List Addr} {H : Hp} {v : V} {ds : List PyData} (h : DW K W H v (.tuple ds)) : ∃ a vs, v = .ref a ∧ SqT K H a vs ∧ DWs K W H vs ds := by
  cases h with
  | tup hq ha => exact ⟨_, _, rfl, SqT.out hq, ha⟩
theorem Stp.alW {W : List Addr} {p : Addr} {H H1 : Hp} (a : Stp p H H1) (al : Al W H) : Al W H1 := fun x m => by
  by_cases e : x = p
  · obtain ⟨_, _, _, h⟩ := a.2
    exact ⟨_, by rw [e]; exact h⟩
  · obtain ⟨o, h⟩ := al x m
    exact ⟨o, a.1 _ _ h (by simpa using e)⟩
theorem Stp.w {W : List Addr} {p : Addr} {H H1 : Hp} (a : Stp p H H1) (m : p ∈ W) : Kp W H H1 := a.1.mono fun x hx => by rw [List.mem_singleton.mp hx]; exact m
/-! ### a written value: new, apart from all that was there -/
def tLit (K : PySem.W.Frag) (d : PyData) : TE := fun _ H Q => ∀ v H', Kp [] H H' → (∀ W, Al W H → DW K W H' v d) → Q v H'
def tLits (K : PySem.W.Frag) (ds : List PyData) : TA := fun _ H Q => ∀ vs H', Kp [] H H' → (∀ W, Al W H → DWs K W H' vs ds) → Q vs H'
def tLitL (K : PySem.W.Frag) (ds : List PyData) : TE := fun _ H Q => ∀ a xs H', Kp [] H H' → H a = none → H' a = some (.lst xs) → (∀ W, Al W H → DWs K (a :: W) H' xs ds) → Q (.ref a) H'
def LitE (K : PySem.W.Frag) (t : TE) (d : PyData) : Prop := ∀ σ H Q, tLit K d σ H Q → t σ H Q
def LitA (K : PySem.W.Frag) (t : TA) (ds : List PyData) : Prop := ∀ σ H Q, tLits K ds σ H Q → t σ H Q
def LitL (K : PySem.W.Frag) (t : TE) (ds : List PyData) : Prop := ∀ σ H Q, tLitL K ds σ H Q → t σ H Q
section
variable {K : PySem.W.Frag}
theorem PE.lit {X : Cx} {e : Expr} {t : TE} {d : PyData} (h : PE X e t) (l : LitE K t d) : PE X e (tLit K d) := ⟨fun pins s σ H Q I q => h.run pins s σ H Q I (l σ H Q q)⟩
theorem PE.litL {X : Cx} {e : Expr} {t : TE} {ds : List PyData} (h : PE X e t) (l : LitL K t ds) : PE X e (tLitL K ds) := ⟨fun pins s σ H Q I q => h.run pins s σ H Q I (l σ H Q q)⟩
theorem lit_int (i : Int) : LitE K (tC (.int i)) (.int i) := fun _ H _ q => q _ H (Kp.refl _ _) fun _ _ => .int i
theorem lit_bl (b : Bool) : LitE K (tC (.bl b)) (.bool b) := fun _ H _ q => q _ H (Kp.refl _ _) fun _ _ => .bl b
theorem lit_str (x : Str) : LitE K (tC (.str x)) (.str x) := fun _ H _ q => q _ H (Kp.refl _ _) fun _ _ => .str x
theorem lit_non : LitE K (tC .non) .none := fun _ H _ q => q _ H (Kp.refl _ _) fun _ _ => .non
theorem lit_neg {t : TE} {i : Int} (h : LitE K t (.int i)) : LitE K (tUn (rU fun i => .int (-i)) t) (.int (-i)) := fun σ H Q q => h σ H _ fun v H1 k hv => by
  have e := hv [] Al.nil
  cases e
  exact ⟨i, rfl, q _ H1 k fun _ _ => .int _⟩
theorem lit_add {ta tb : TE} {i j : Int} (ha : LitE K ta (.int i)) (hb : LitE K tb (.int j)) : LitE K (tOp (rI0 fun i j => .int (i + j)) ta tb) (.int (i + j)) := fun σ H Q q => ha σ H _ fun v H1 k hv => hb σ H1 _ fun v2 H2 k2 hv2 => by
  have e := hv [] Al.nil
  have e2 := hv2 [] Al.nil
  cases e
  cases e2
  exact ⟨i, j, rfl, rfl, q _ H2 (k.trans k2) fun _ _ => .int _⟩
theorem lit_sub {ta tb : TE} {i j : Int} (ha : LitE K ta (.int i)) (hb : LitE K tb (.int j)) : LitE K (tOp (rI0 fun i j => .int (i - j)) ta tb) (.int (i - j)) := fun σ H Q q => ha σ H _ fun v H1 k hv => hb σ H1 _ fun v2 H2 k2 hv2 => by
  have e := hv [] Al.nil
  have e2 := hv2 [] Al.nil
  cases e
  cases e2
  exact ⟨i, j, rfl, rfl, q _ H2 (k.trans k2) fun _ _ => .int _⟩
theorem lit_pow {ta tb : TE} {i j : Int} (ha : LitE K ta (.int i)) (hb : LitE K tb (.int j)) (c : CPow i j) : LitE K (tOp (rI CPow fun i j => .int (i ^ j.toNat)) ta tb) (.int (i ^ j.toNat)) := fun σ H Q q => ha σ H _ fun v H1 k hv => hb σ H1 _ fun v2 H2 k2 hv2 => by
  have e := hv [] Al.nil
  have e2 := hv2 [] Al.nil
  cases e
  cases e2
  exact ⟨i, j, rfl, rfl, c, q _ H2 (k.trans k2) fun _ _ => .int _⟩
theorem lit_nil : LitA K tNil [] := fun _ H _ q => q [] H (Kp.refl _ _) fun _ _ => .nil
theorem lit_cons {te : TE} {ta : TA} {d : PyData} {ds : List PyData} (he : LitE K te d) (ha : LitA K ta ds) : LitA K (tCons te ta) (d :: ds) := fun σ H Q q => he σ H _ fun v H1 k hv => ha σ H1 _ fun vs H2 k2 hvs =>
  q _ H2 (k.trans k2) fun W al => .cons (DW.kp (hv W al) (k2.mono (by simp))) (hvs W (al.ex k))
theorem lit_tup {t : TA} {ds : List PyData} (h : LitA K t ds) (z : ds.length ≤ sizeLine) : LitE K (tTup t) (.tuple ds) := fun σ H Q q => h σ H _ fun vs H1 k hvs =>
  ⟨by rw [(hvs [] Al.nil).len]; exact z, fun p n => q _ _ (k.new n) fun W al => DWs.tup (hvs W al) (al.ex k) n⟩
theorem lit_lst {t : TA} {ds : List PyData} (h : LitA K t ds) (z : ds.length ≤ sizeLine) : LitE K (tLst t) (.list ds) := fun σ H Q q => h σ H _ fun vs H1 k hvs =>
  ⟨by rw [(hvs [] Al.nil).len]; exact z, fun p n => q _ _ (k.new n) fun W al => DWs.lst (hvs W al) (al.ex k) n⟩
theorem lit_lstL {t : TA} {ds : List PyData} (h : LitA K t ds) (z : ds.length ≤ sizeLine) : LitL K (tLst t) ds := fun σ H Q q => h σ H _ fun vs H1 k hvs =>
  ⟨by rw [(hvs [] Al.nil).len]; exact z, fun p n => q p vs _ (k.new n) (k.free n) upd_same fun W al => by
    have b := (hvs W al).wide (V := p :: W) fun a m => by
      rcases List.mem_cons.mp m with e | e
      · rw [e]; exact .inr n
      · exact .inl e
    exact DpAll.ex (fun x o e _ => by
      by_cases m : x ∈ p :: W
      · rw [out_in m] at e; cases e
      · rw [out_ne m] at e ⊢
        rw [upd_ne (fun z => m (by rw [z]; exact List.mem_cons_self))]
        exact e) _ _ b⟩
/-- the list that holds such data -/
theorem DWs.ref {W : List Addr} {H : Hp} {a : Addr} {xs : List V} {ds : List PyData} (h : DWs K W H xs ds) (e : H a = some (.lst xs)) (n : a ∉ W) : DW K W H (.ref a) (.list ds) := .lst (SqL.of (by rw [out_ne n]; exact e)) h
end
/-! ### a comprehension that draws from a bag -/
section
variable {K : PySem.W.Frag} {lo : Int} {n : Nat} {g : TG} {te : TE} {vs : List Nat} {σ : St} {H1 : Hp} {D p : Addr} {Qd : Hp → Prop} {W : List Addr}
theorem lc_bag (G : PyData → Prop) (hz : n < sizeLine) (nD : H1 D = none) (b : Bag H1 p) (al : Al W H1) (pW : p ∈ W)
    (hs : ∀ (i : Nat) H (Post : V → Hp → Prop), i < n → Stp p H1 H → Al (D :: W) H → (∀ y d H4, G d → Stp p H H4 → DW K (D :: W) H4 y d → Post y H4) → g (.int (lo + i)) (wipe σ vs) H fun σ2 H2 => wipe σ2 vs = wipe σ vs ∧ te σ2 H2 Post)
    (hd : ∀ H acc ds, Stp p H1 H → Al (D :: W) H → H D = some (.lst acc) → DWs K (D :: W) H acc ds → ds.length = n → (∀ d ∈ ds, G d) → Qd H) :
    ∃ W : Nat → Nat → Hp → Prop, (∃ m, W 0 m (upd H1 D (.lst []))) ∧ ∀ i m H, W i m H →
      ((Itr lo n).stop i H ∧ Qd H) ∨ ((Itr lo n).go i H ∧ ∃ Nx : Hp → Prop, (∀ H', Nx H' → ∃ m', m' < m ∧ W (i + 1) m' H') ∧ ∀ x H', (Itr lo n).yld i H x H' → g x (wipe σ vs) H' fun σ2 H2 => wipe σ2 vs = wipe σ vs ∧ tYes σ2 H2 fun b H3 =>
        if b = true then te σ2 H3 fun y H4 => ∃ acc, H4 D = some (.lst acc) ∧ acc.length < sizeLine ∧ Nx (upd H4 D (.lst (acc ++ [y]))) else Nx H3) := by
  have D_p : D ≠ p := fun e => by obtain ⟨_, _, _, h⟩ := b; rw [← e, nD] at h; cases h
  refine lc_range (fun i H => ∃ acc ds, Stp p H1 H ∧ Al (D :: W) H ∧ H D = some (.lst acc) ∧ DWs K (D :: W) H acc ds ∧ ds.length = i ∧ ∀ d ∈ ds, G d) ?_ ?_ ?_
  · refine ⟨[], [], (Stp.refl b).new nD, fun x m => ?_, upd_same, .nil, rfl, fun _ m => by cases m⟩
    rcases List.mem_cons.mp m with e | e
    · exact ⟨_, by rw [e]; exact upd_same⟩
    · exact (al.ex ((Kp.refl [] H1).new nD)) x e
  · rintro i H hi ⟨acc, ds, s, a, e, h, l, gd⟩
    refine hs i H _ hi s a fun y d H4 gy s4 hy => ?_
    have e4 : H4 D = some (.lst acc) := s4.1 _ _ e (by simpa using D_p)
    have kD : Kp (D :: W) H4 (upd H4 D (.lst (acc ++ [y]))) := (Kp.refl _ _).put (by simp)
    refine ⟨acc, e4, by rw [h.len, l]; omega, acc ++ [y], ds ++ [d], ⟨fun x o z m => ?_, ?_⟩, fun x m => ?_, upd_same, DpAll.app ?_ (.cons (hy.kp kD) .nil), by simp [l], fun z m => ?_⟩
    · rw [upd_ne (fun z2 => by rw [z2, nD] at z; cases z)]
      exact s4.1 _ _ (s.1 _ _ z m) m
    · obtain ⟨_, _, _, h4⟩ := s4.2
      exact ⟨_, _, _, by rw [upd_ne D_p.symm]; exact h4⟩
    · by_cases z : x = D
      · exact ⟨_, by rw [z]; exact upd_same⟩
      · rw [upd_ne z]
        exact (s4.alW a) x m
    · exact (h.kp (s4.w (List.mem_cons_of_mem _ pW))).kp kD
    · rcases List.mem_append.mp m with m | m
      · exact gd z m
      · rw [List.mem_singleton.mp m]; exact gy
  · rintro H ⟨acc, ds, s, a, e, h, l, gd⟩
    exact hd H acc ds s a e h l gd
end
/-! ### data of a bounded depth and width -/
def Tame (L : Nat) : Nat → PyData → Prop
  | 0, d => tupB d = false
  | n + 1, d => match d with
    | .tuple ds => ds.length ≤ L ∧ ∀ e ∈ ds, Tame L n e
    | _ => True
theorem Tame.of {L n : Nat} {d : PyData} (h : tupB d = false) : Tame L n d := by
  cases n with
  | zero => exact h
  | succ n => cases d <;> first | trivial | cases h
theorem Tame.mono {L M : Nat} (hL : L ≤ M) : ∀ {n m : Nat} {d : PyData}, n ≤ m → Tame L n d → Tame M m d
  | 0, m, d, _, h => Tame.of h
  | n + 1, 0, _, e, _ => absurd e (by omega)
  | n + 1, m + 1, d, e, h => by
    cases d with
    | tuple ds => exact ⟨Nat.le_trans h.1 hL, fun x m => Tame.mono hL (Nat.le_of_succ_le_succ e) (h.2 x m)⟩
    | _ => trivial
/-- no more than what ds holds -/
def Part (ds es : List PyData) : Prop := (∀ e ∈ es, e ∈ ds) ∧ es.length ≤ ds.length
theorem part_cut (ds : List PyData) (a b : Nat) : Part ds ((ds.drop a).take b) :=
  ⟨fun _ m => List.mem_of_mem_drop (List.mem_of_mem_take m), by rw [List.length_take, List.length_drop]; omega⟩
theorem DW.ex {K : PySem.W.Frag} {W : List Addr} {H H' : Hp} {v : V} {d : PyData} (h : DW K W H v d) (k : Kp [] H H') : DW K W H' v d := h.kp (k.mono (by simp))
theorem DWs.ex {K : PySem.W.Frag} {W : List Addr} {H H' : Hp} {v : List V} {d : List PyData} (h : DWs K W H v d) (k : Kp [] H H') : DWs K W H' v d := h.kp (k.mono (by simp))
def tameB (L : Nat) : Nat → PyData → Bool
  | 0, d => !tupB d
  | n + 1, d => match d with
    | .tuple ds => decide (ds.length ≤ L) && ds.all (tameB L n)
    | _ => true
theorem Tame.ofB {L : Nat} : ∀ {n : Nat} {d : PyData}, tameB L n d = true → Tame L n d
  | 0, d, h => by
    show tupB d = false
    simpa [tameB] using h
  | n + 1, d, h => by
    cases d with
    | tuple ds =>
      have h' : (decide (ds.length ≤ L) && ds.all (tameB L n)) = true := h
      simp only [Bool.and_eq_true, decide_eq_true_eq, List.all_eq_true] at h'
      exact ⟨h'.1, fun e m => Tame.ofB (h'.2 e m)⟩
    | _ => trivial
theorem DpAll.rep {K : PySem.W.Frag} {H : Hp} {v : V} {d : PyData} (h : Dp K H v d) : ∀ n : Nat, DpAll K H (List.replicate n v) (List.replicate n d)
  | 0 => .nil
  | n + 1 => .cons h (DpAll.rep h n)
theorem flat_rep {α : Type} (z : α) : ∀ n : Nat, (List.replicate n [z]).flatten = List.replicate n z
  | 0 => rfl
  | n + 1 => by rw [List.replicate_succ, List.flatten_cons, flat_rep z n]; rfl
/-! ### written data of the top: tuples within tuples, dicts by texts -/
mutual
def dataB (K : PySem.W.Frag) : PyData → Value → Bool
  | .none, u => He.relB .non u
  | .bool b, u => He.relB (.bl b) u
  | .int i, u => He.relB (.int i) u
  | .str x, u => He.relB (.str x) u
  | .tuple ds, u => (match u with
    | .ref a => (match K.lookup a with
      | some ⟨.type c, _, .seq its _, _⟩ => decide (c = "tuple") && (decide (its.size ≤ sizeLine) && datasB K ds its.toList)
      | _ => false)
    | _ => false)
  | .list _, _ => false
  | .dict _, _ => false
def datasB (K : PySem.W.Frag) : List PyData → List Value → Bool
  | [], us => us.isEmpty
  | d :: ds, us => (match us with
    | u :: us => dataB K d u && datasB K ds us
    | [] => false)
end
mutual
theorem dataB_ok {K : PySem.W.Frag} : ∀ (d : PyData) (u : Value), dataB K d u = true → ∃ v, RelV v u ∧ ∀ H, Dp K H v d
  | .none, u, h => ⟨.non, He.relB_ok (by simpa [dataB] using h), fun _ => .non⟩
  | .bool b, u, h => ⟨.bl b, He.relB_ok (by simpa [dataB] using h), fun _ => .bl b⟩
  | .int i, u, h => ⟨.int i, He.relB_ok (by simpa [dataB] using h), fun _ => .int i⟩
  | .str x, u, h => ⟨.str x, He.relB_ok (by simpa [dataB] using h), fun _ => .str x⟩
  | .tuple ds, u, h => by
    simp only [dataB] at h
    cases u with
    | ref a =>
      replace h : (match K.lookup a with
        | some ⟨.type c, _, .seq its _, _⟩ => decide (c = "tuple") && (decide (its.size ≤ sizeLine) && datasB K ds its.toList)
        | _ => false) = true := h
      cases q : K.lookup a with
      | none =>
        rw [q] at h
        cases h
      | some o =>
        obtain ⟨oc, od, dt, osl⟩ := o
        rw [q] at h
        cases oc with
        | type c =>
          cases dt with
          | seq its n =>
            have h' : (decide (c = "tuple") && (decide (its.size ≤ sizeLine) && datasB K ds its.toList)) = true := h
            simp only [Bool.and_eq_true, decide_eq_true_eq] at h'
            obtain ⟨rfl, h2, h3⟩ := h'
            obtain ⟨vs, r, k⟩ := datasB_ok ds its.toList h3
            exact ⟨.ref a, rfl, fun H => .tup (.inr ⟨_, its, n, q, rfl, rfl, h2, r⟩) (k H)⟩
          | _ => cases h
        | _ => cases dt <;> cases h
    | _ => cases h
  | .list _, u, h => by simp [dataB] at h
  | .dict _, u, h => by simp [dataB] at h
theorem datasB_ok {K : PySem.W.Frag} : ∀ (ds : List PyData) (us : List Value), datasB K ds us = true → ∃ vs, Vals vs us ∧ ∀ H, DpAll K H vs ds
  | [], us, h => by
    have e : us = [] := by simpa [datasB] using h
    subst e
    exact ⟨[], .nil, fun _ => .nil⟩
  | d :: ds, [], h => by simp [datasB] at h
  | d :: ds, u :: us, h => by
    have h' : dataB K d u = true ∧ datasB K ds us = true := by simpa [datasB] using h
    obtain ⟨v, r, k⟩ := dataB_ok d u h'.1
    obtain ⟨vs, rs, ks⟩ := datasB_ok ds us h'.2
    exact ⟨v :: vs, .cons r rs, fun H => .cons (k H) (ks H)⟩
end
def entB (K : PySem.W.Frag) : List (Str × PyData) → List DictEntry → Bool
  | [], es => es.isEmpty
  | p :: r, es => (match es with
    | e :: es => (match e.key with
      | .str x _ => decide (x = p.1)
      | _ => false) && (dataB K p.2 e.val && entB K r es)
    | [] => false)
theorem entB_ok {K : PySem.W.Frag} {z : Str} : ∀ (kvs : List (Str × PyData)) (es : List DictEntry), entB K kvs es = true → es.any (·.refKey) = false ∧
    (match kvs.lookup z with
    | some d => ∃ e, es.find? (·.key.isStr z) = some e ∧ dataB K d e.val = true
    | none => es.find? (·.key.isStr z) = none)
  | [], es, h => by
    have e : es = [] := by simpa [entB] using h
    subst e
    exact ⟨rfl, rfl⟩
  | p :: r, [], h => by simp [entB] at h
  | (k, d) :: r, e :: es, h => by
    obtain ⟨ha, ky, vl⟩ := e
    simp only [entB, Bool.and_eq_true] at h
    obtain ⟨h1, h2, h3⟩ := h
    cases ky with
    | str x t =>
      have hx : x = k := of_decide_eq_true h1
      subst hx
      obtain ⟨i1, i2⟩ := entB_ok (z := z) r es h3
      refine ⟨by simp only [List.any_cons, i1]; rfl, ?_⟩
      by_cases c : z = x
      · subst c
        have e1 : List.lookup z ((z, d) :: r) = some d := by simp [List.lookup]
        rw [e1]
        refine ⟨_, List.find?_cons_of_pos ?_, h2⟩
        show (z == z) = true
        simp
      · have e1 : (z == x) = false := by simpa using c
        have e3 : (x == z) = false := by simpa using (fun e => c e.symm : ¬ x = z)
        have e2 : List.lookup z ((x, d) :: r) = List.lookup z r := by simp [List.lookup, e1]
        rw [e2, List.find?_cons_of_neg (by show ¬ (x == z) = true; rw [e3]; simp)]
        exact i2
    | _ => cases h1
def dictB (K : PySem.W.Frag) (a : Addr) (kvs : List (Str × PyData)) : Bool := match K.lookup a with
  | some ⟨_, _, .dict es _, _⟩ => entB K kvs es.toList
  | _ => false
/-- a dict of the top, its data by text -/
def CDict (K : PySem.W.Frag) (w : World) (a : Addr) (kvs : List (Str × PyData)) : Prop := (∃ es n, KDict K w a es n) ∧ dictB K a kvs = true
theorem CDict.ns {K : PySem.W.Frag} {w : World} {a : Addr} {kvs : List (Str × PyData)} (D : CDict K w a kvs) (z : Str) : match kvs.lookup z with
    | some d => ∃ u, PySem.W.nsIn K a z = some (some u) ∧ dataB K d u = true
    | none => PySem.W.nsIn K a z = some none := by
  obtain ⟨⟨es, n, k⟩, h⟩ := D
  have hl := k.at_
  unfold dictB at h
  rw [hl] at h
  obtain ⟨h1, h2⟩ := entB_ok (z := z) kvs es.toList h
  unfold PySem.W.nsIn
  rw [hl]
  cases e : kvs.lookup z with
  | none =>
    rw [e] at h2
    show (match es.toList.find? (·.key.isStr z) with
      | some e => some (some e.val)
      | none => if es.toList.any (·.refKey) then none else some none) = some none
    rw [h2]
    show (if es.toList.any (·.refKey) then none else some none) = some none
    rw [h1]
    rfl
  | some d =>
    rw [e] at h2
    obtain ⟨e, h3, h4⟩ := h2
    refine ⟨e.val, ?_, h4⟩
    show (match es.toList.find? (·.key.isStr z) with
      | some e => some (some e.val)
      | none => if es.toList.any (·.refKey) then none else some none) = some (some e.val)
    rw [h3]
def rInCD (d : Addr) (kvs : List (Str × PyData)) (b : Bool) : R2 := fun x y H Q => ∃ z : Str, x = .str z ∧ y = .ref d ∧ Q (.bl ((kvs.lookup z).isSome != b)) H
def rIxCD (K : PySem.W.Frag) (d : Addr) (kvs : List (Str × PyData)) : R2 := fun x y H Q => ∃ (z : Str) (c : PyData), x = .ref d ∧ y = .str z ∧ kvs.lookup z = some c ∧ ∀ v, (∀ H', Dp K H' v c) → Q v H
section
variable {X : Cx} {d : Addr} {kvs : List (Str × PyData)}
theorem op_inCD (D : CDict X.K X.w d kvs) : OpR X (compareOp .In) (rInCD d kvs false) := by
  intro pins s σ H x y v u Q I rx ry h
  obtain ⟨z, hx, hy, q⟩ := h
  have hn := D.ns z
  obtain ⟨⟨es, n, k⟩, _⟩ := D
  cases e : kvs.lookup z with
  | none =>
    rw [e] at hn q
    exact op_in_kd k pins s σ H x y v u Q I rx ry ⟨z, _, hx, hy, hn, q⟩
  | some c =>
    rw [e] at hn q
    obtain ⟨w1, h1, _⟩ := hn
    exact op_in_kd k pins s σ H x y v u Q I rx ry ⟨z, _, hx, hy, h1, q⟩
theorem op_notInCD (D : CDict X.K X.w d kvs) : OpR X (compareOp .NotIn) (rInCD d kvs true) := by
  intro pins s σ H x y v u Q I rx ry h
  obtain ⟨z, hx, hy, q⟩ := h
  have hn := D.ns z
  obtain ⟨⟨es, n, k⟩, _⟩ := D
  cases e : kvs.lookup z with
  | none =>
    rw [e] at hn q
    exact op_notIn_kd k pins s σ H x y v u Q I rx ry ⟨z, _, hx, hy, hn, q⟩
  | some c =>
    rw [e] at hn q
    obtain ⟨w1, h1, _⟩ := hn
    exact op_notIn_kd k pins s σ H x y v u Q I rx ry ⟨z, _, hx, hy, h1, q⟩
theorem ix_cdict (D : CDict X.K X.w d kvs) : IxR X (rIxCD X.K d kvs) := by
  intro value slice pins s σ H x y v u Q I rx ry h hs
  obtain ⟨z, c, rfl, rfl, e, q⟩ := h
  have hn := D.ns z
  rw [e] at hn
  obtain ⟨u0, h1, h2⟩ := hn
  obtain ⟨v0, h3, h4⟩ := dataB_ok c u0 h2
  obtain ⟨⟨es, n, k⟩, _⟩ := D
  exact ix_kdict value slice pins s σ H _ _ v u Q I rx ry ⟨_, z, v0, rfl, rfl, ⟨es, n, u0, k.at_, k.lit, h1, h3⟩, q v0 h4⟩ hs
end
/-! ### data with one part spoilt -/
def Mix (od : PyData) : Nat → PyData → PyData → Prop
  | 0, d, e => e = od ∨ e = d
  | n + 1, d, e => e = od ∨ e = d ∨ ∃ ds es, d = .tuple ds ∧ e = .tuple es ∧ es.length ≤ 4 * ds.length + 1 ∧ ∀ x ∈ es, x ∈ ds ∨ x = od ∨ ∃ y ∈ ds, Mix od n y x
theorem Mix.odd {od : PyData} : ∀ {n : Nat} {d : PyData}, Mix od n d od
  | 0, _ => .inl rfl
  | _ + 1, _ => .inl rfl
theorem Mix.same {od : PyData} : ∀ {n : Nat} {d : PyData}, Mix od n d d
  | 0, _ => .inr rfl
  | _ + 1, _ => .inr (.inl rfl)
theorem sh_part {n : Nat} {ds : List PyData} (h : Sh (n + 1) (.tuple ds)) : ∀ d ∈ ds, Sh n d := by
  have hc : PyData.canLayAll0 ds = true := by have := h.can; rwa [PyData.canLay0] at this
  have hd : PyData.depthAll ds ≤ n := by have := h.dep; rw [PyData.depth] at this; omega
  clear h
  induction ds with
  | nil => intro d m; cases m
  | cons e ds ih =>
    rw [PyData.canLayAll0, Bool.and_eq_true] at hc
    rw [PyData.depthAll, Nat.max_le] at hd
    intro d m
    rcases List.mem_cons.mp m with rfl | m
    · exact ⟨hc.1, hd.1⟩
    · exact ih hc.2 hd.2 d m
theorem sh_part0 {n : Nat} {ds : List PyData} (h : Sh n (.tuple ds)) : ∀ d ∈ ds, Sh n d := fun d m => (sh_part (h.mono (Nat.le_succ n)) d m)
theorem Mix.sh {od : PyData} {a b : Nat} (ho : Sh b od) : ∀ {n : Nat} {d e : PyData}, Sh a d → Mix od n d e → Sh (a + b + n) e
  | 0, d, e, h, m => by
    rcases m with rfl | rfl
    · exact ho.mono (by omega)
    · exact h.mono (by omega)
  | n + 1, d, e, h, m => by
    rcases m with rfl | rfl | ⟨ds, es, rfl, rfl, _, hm⟩
    · exact ho.mono (by omega)
    · exact h.mono (by omega)
    · refine sh_tup (n := a + b + n) fun x mx => ?_
      rcases hm x mx with h1 | rfl | ⟨y, my, hy⟩
      · exact (sh_part0 h x h1).mono (by omega)
      · exact ho.mono (by omega)
      · exact Mix.sh ho (sh_part0 h y my) hy
theorem cut_tail {α : Type} (x : α) (es : List α) : (((x :: es).drop (HT.sIx (x :: es).length 0 (some 1))).take (HT.sIx (x :: es).length (x :: es).length none - HT.sIx (x :: es).length 0 (some 1))) = es := by
  have e : HT.sIx (x :: es).length 0 (some 1) = 1 := (HT.sIx_nat (x :: es).length 0 1).trans (Nat.min_eq_left (by rw [List.length_cons]; omega))
  rw [e, HT.sIx_none]
  show (es.take ((es.length + 1) - 1)) = es
  rw [Nat.add_sub_cancel, List.take_length]
theorem strs_eq {K : PySem.W.Frag} {H : Hp} : ∀ {ss : List Str} {xs : List V}, DpAll K H xs (ss.map PyData.str) → xs = ss.map V.str
  | [], _, h => by cases h; rfl
  | s :: ss, _, h => by
    cases h with
    | cons h1 h2 =>
      cases h1
      rw [strs_eq h2]
      rfl
/-! ### a written display with one int variable -/
def LitES (K : PySem.W.Frag) (σ : St) (t : TE) (d : PyData) : Prop := ∀ H Q, tLit K d σ H Q → t σ H Q
def LitAS (K : PySem.W.Frag) (σ : St) (t : TA) (ds : List PyData) : Prop := ∀ H Q, tLits K ds σ H Q → t σ H Q
def LitLS (K : PySem.W.Frag) (σ : St) (t : TE) (ds : List PyData) : Prop := ∀ H Q, tLitL K ds σ H Q → t σ H Q
def tLitV (K : PySem.W.Frag) (i : Nat) (f : Int → List PyData) : TE := fun σ H Q => ∃ n : Int, σ[i]? = some (some (.int n)) ∧ tLitL K (f n) σ H Q
section
variable {K : PySem.W.Frag} {σ : St}
theorem PE.litV {X : Cx} {e : Expr} {t : TE} {i : Nat} {f : Int → List PyData} (h : PE X e t) (l : ∀ σ n, σ[i]? = some (some (.int n)) → LitLS K σ t (f n)) : PE X e (tLitV K i f) :=
  ⟨fun pins s σ H Q I q => let ⟨n, e, q⟩ := q; h.run pins s σ H Q I (l σ n e H Q q)⟩
theorem les_of {t : TE} {d : PyData} (h : LitE K t d) : LitES K σ t d := h σ
theorem les_var {i : Nat} {n : Int} (h : σ[i]? = some (some (.int n))) : LitES K σ (tVar i) (.int n) := fun H Q q => ⟨_, h, q _ H (Kp.refl _ _) fun _ _ => .int n⟩
theorem les_add {ta tb : TE} {i j : Int} (ha : LitES K σ ta (.int i)) (hb : LitES K σ tb (.int j)) : LitES K σ (tOp (rI0 fun i j => .int (i + j)) ta tb) (.int (i + j)) := fun H Q q => ha H _ fun v H1 k hv => hb H1 _ fun v2 H2 k2 hv2 => by
  have e := hv [] Al.nil
  have e2 := hv2 [] Al.nil
  cases e
  cases e2
  exact ⟨i, j, rfl, rfl, q _ H2 (k.trans k2) fun _ _ => .int _⟩
theorem les_sub {ta tb : TE} {i j : Int} (ha : LitES K σ ta (.int i)) (hb : LitES K σ tb (.int j)) : LitES K σ (tOp (rI0 fun i j => .int (i - j)) ta tb) (.int (i - j)) := fun H Q q => ha H _ fun v H1 k hv => hb H1 _ fun v2 H2 k2 hv2 => by
  have e := hv [] Al.nil
  have e2 := hv2 [] Al.nil
  cases e
  cases e2
  exact ⟨i, j, rfl, rfl, q _ H2 (k.trans k2) fun _ _ => .int _⟩
theorem les_nil : LitAS K σ tNil [] := fun H _ q => q [] H (Kp.refl _ _) fun _ _ => .nil
theorem les_cons {te : TE} {ta : TA} {d : PyData} {ds : List PyData} (he : LitES K σ te d) (ha : LitAS K σ ta ds) : LitAS K σ (tCons te ta) (d :: ds) := fun H Q q => he H _ fun v H1 k hv => ha H1 _ fun vs H2 k2 hvs =>
  q _ H2 (k.trans k2) fun W al => .cons (DW.kp (hv W al) (k2.mono (by simp))) (hvs W (al.ex k))
theorem les_tup {t : TA} {ds : List PyData} (h : LitAS K σ t ds) (z : ds.length ≤ sizeLine) : LitES K σ (tTup t) (.tuple ds) := fun H Q q => h H _ fun vs H1 k hvs =>
  ⟨by rw [(hvs [] Al.nil).len]; exact z, fun p n => q _ _ (k.new n) fun W al => DWs.tup (hvs W al) (al.ex k) n⟩
theorem les_lst {t : TA} {ds : List PyData} (h : LitAS K σ t ds) (z : ds.length ≤ sizeLine) : LitES K σ (tLst t) (.list ds) := fun H Q q => h H _ fun vs H1 k hvs =>
  ⟨by rw [(hvs [] Al.nil).len]; exact z, fun p n => q _ _ (k.new n) fun W al => DWs.lst (hvs W al) (al.ex k) n⟩
theorem les_lstL {t : TA} {ds : List PyData} (h : LitAS K σ t ds) (z : ds.length ≤ sizeLine) : LitLS K σ (tLst t) ds := fun H Q q => h H _ fun vs H1 k hvs =>
  ⟨by rw [(hvs [] Al.nil).len]; exact z, fun p n => q p vs _ (k.new n) (k.free n) upd_same fun W al => by
    have b := (hvs W al).wide (V := p :: W) fun a m => by
      rcases List.mem_cons.mp m with e | e
      · rw [e]; exact .inr n
      · exact .inl e
    exact DpAll.ex (fun x o e _ => by
      by_cases m : x ∈ p :: W
      · rw [out_in m] at e; cases e
      · rw [out_ne m] at e ⊢
        rw [upd_ne (fun z => m (by rw [z]; exact List.mem_cons_self))]
        exact e) _ _ b⟩
end
theorem Al.cons {W : List Addr} {H : Hp} {a : Addr} {o : HO} (e : H a = some o) (al : Al W H) : Al (a :: W) H := fun x m => by
  rcases List.mem_cons.mp m with z | z
  · exact ⟨o, by rw [z]; exact e⟩
  · exact al x z
def shB : Nat → PyData → Bool
  | 0, d => match d with
    | .str x => PyData.strOk x
    | .tuple _ => false
    | .list _ => false
    | .dict _ => false
    | _ => true
  | n + 1, d => match d with
    | .str x => PyData.strOk x
    | .tuple ds => ds.all (shB n)
    | .list ds => ds.all (shB n)
    | .dict _ => false
    | _ => true
theorem Sh.ofB : ∀ {n : Nat} {d : PyData}, shB n d = true → Sh n d
  | 0, d, h => by
    cases d with
    | none => exact sh_non
    | bool b => exact sh_bl b
    | int i => exact sh_int i
    | str x => exact sh_str h
    | _ => cases h
  | n + 1, d, h => by
    cases d with
    | none => exact sh_non
    | bool b => exact sh_bl b
    | int i => exact sh_int i
    | str x => exact sh_str h
    | tuple ds => exact sh_tup fun e m => Sh.ofB (List.all_eq_true.mp (show ds.all (shB n) = true from h) e m)
    | list ds => exact sh_list fun e m => Sh.ofB (List.all_eq_true.mp (show ds.all (shB n) = true from h) e m)
    | dict _ => cases h
theorem tuple_mul1 (l : Addr) (items : Array Value) (n : Nat) (dd : Option Addr) (sl : Array (Option Value)) (u : Tok) (hi : items.isEmpty = false) :
    Meets (Builtin.«tuple.__mul__» ⟨[.ref l, .int 1 u], []⟩) (fun _ R s => s.heap.get? l = some { cls := .type "tuple", dict := dd, data := .seq items n, slots := sl } ∧ R (.ok (.ret (Value.ref l))) s) :=
  .of_wp fun prog w A R s h => by
    obtain ⟨hp, g, d, tk, os⟩ := s
    obtain ⟨hl, h⟩ := h
    have f1 := AutoSeq1.idx_int
    have c1 : (items.isEmpty || (1 : Int) == 1) = true := by rw [hi]; rfl
    wp_walk using wpAny_loadPart' hl
    repeat (first
      | (refine wpAny_ite_false (decide_eq_false (by decide)) ?_; wp_walk using wpAny_loadPart' hl)
      | (refine wpAny_ite_true (decide_eq_true (by rw [c1])) ?_; wp_walk using wpAny_loadPart' hl)
      | (refine wpAny_ite_false (by decide) ?_; wp_walk using wpAny_loadPart' hl)
      | (refine wpAny_ite_true (by rw [c1]) ?_; wp_walk using wpAny_loadPart' hl))
    exact ⟨_, rfl, h⟩
def rRepT1 (K : PySem.W.Frag) : R2 := fun x y H Q => ∃ l xs, x = .ref l ∧ y = .int 1 ∧ SqT K H l xs ∧ xs ≠ [] ∧ Q (.ref l) H
section
variable {X : Cx}
theorem op_repT1 : OpR X (binaryOp .Mult) (rRepT1 X.K) := by
  intro pins s σ H x y v u Q I rx ry h
  obtain ⟨l, xs, rfl, rfl, hT, hne, q⟩ := h
  cases rx
  obtain ⟨t, rfl⟩ := ry
  obtain ⟨its, r, ⟨⟨cls, dd, data, sl⟩, ho, hc, n, hd⟩, hs⟩ := I.tuple hT
  simp only at hc hd
  subst hc hd
  have hn : its ≠ [] := fun e => hne (by
    subst e
    cases r
    rfl)
  have hi : its.toArray.isEmpty = false := by
    cases its with
    | nil => exact absurd rfl hn
    | cons a b => rfl
  refine wpAny_binaryOp_repeat_ref (T := "tuple") (U := "int") (by decide) ⟨_, ho, rfl⟩ (fun s' => typeIs_int s' 1 t) noFill_tuple_mul F.fills_int_mul F.slot_int_rmul repeat_tuple F.slot_int_index.lookup
    (call_meets F.slot_int_rmul (typeIs_int s 1 t) F.entry_int_rmul (F.args_int_rmul_2 _ _) (int_rmul_tuple 1 t l its.toArray n dd sl)
      ⟨ho, rfl, ⟨_, ho, rfl⟩, call_meets F.slot_tuple_mul ⟨_, ho, rfl⟩ F.entry_tuple_mul (F.args_tuple_mul_2 _ _) (tuple_mul1 l its.toArray n dd sl t hi) ⟨ho, ?_⟩⟩)
  exact ⟨.ref l, H, I, rfl, q⟩
end
def repStr (x : Str) (k : Int) : Str := ⟨(List.replicate k.toNat x.cps.toList).flatten.toArray⟩
theorem foldl_repS (a : Array Nat) : ∀ (n : Nat) (acc : Array Nat), (List.replicate n a).foldl (· ++ ·) acc = (acc.toList ++ (List.replicate n a.toList).flatten).toArray
  | 0, acc => by simp
  | n + 1, acc => by
    rw [List.replicate_succ, List.foldl_cons, foldl_repS a n, List.replicate_succ, List.flatten_cons]
    simp
theorem op_mul_str {X : Cx} : OpR X (binaryOp .Mult) (fun x y H Q => ∃ i k, x = .str i ∧ y = .int k ∧ -(2 ^ 63) ≤ k ∧ k < 2 ^ 63 ∧ i.length * k.toNat ≤ 16777216 ∧ Q (.str (repStr i k)) H) := by
  intro pins s σ H x y v u Q I rx ry h
  obtain ⟨i, k, rfl, rfl, k1, k2, hz, q⟩ := h
  obtain ⟨t, rfl⟩ := rx
  obtain ⟨t', rfl⟩ := ry
  refine P.mul_str ?_ (fun c _ => ?_) (fun c _ => ?_) ?_
  · rw [decide_eq_false (by omega), decide_eq_false (by omega)]; rfl
  · have h1 : (i.length : Int) ≤ (2 ^ 63 - 1) / k := by
      rw [Int.le_ediv_iff_mul_le (by omega)]
      have : ((i.length * k.toNat : Nat) : Int) = (i.length : Int) * k := by
        rw [Int.natCast_mul, Int.toNat_of_nonneg (by omega)]
      omega
    omega
  · unfold Builtin.Str.tooLong
    rw [PySem.sizeLine_eq]
    exact decide_eq_false (by omega)
  · by_cases c1 : k < 1
    · rw [if_pos c1]
      have e : repStr i k = Str.empty := by
        unfold repStr
        rw [show k.toNat = 0 by omega]
        rfl
      rw [e] at q
      exact ⟨by decide, .str Str.empty, H, I.tok _, ⟨_, rfl⟩, q⟩
    · rw [if_neg c1]
      by_cases c2 : (k == 1 || i.length == 0) = true
      · rw [if_pos c2]
        have e : repStr i k = i := by
          unfold repStr
          rcases Bool.or_eq_true _ _ ▸ c2 with c | c
          · have : k = 1 := by simpa using c
            subst this
            simp
          · have z : i.cps.toList = [] := List.eq_nil_of_length_eq_zero (by simpa [Str.length] using c)
            rw [z]
            obtain ⟨⟨l⟩⟩ := i
            simp at z
            subst z
            simp
        rw [e] at q
        exact ⟨.str i, H, I, ⟨_, rfl⟩, q⟩
      · rw [if_neg c2]
        have e : (⟨(List.replicate k.toNat i.cps).foldl (· ++ ·) #[]⟩ : Str) = repStr i k := by
          unfold repStr
          rw [foldl_repS]
          rfl
        rw [e]
        refine ⟨?_, .str (repStr i k), H, I.tok _, ⟨_, rfl⟩, q⟩
        rw [PySem.sizeLine_eq]
        have : (repStr i k).length = k.toNat * i.length := by
          unfold repStr Str.length
          simp [List.length_flatten]
        rw [this, Nat.mul_comm]
        exact hz
end L2
set_option Elab.async false
set_option linter.all false
set_option maxRecDepth 100000
set_option maxHeartbeats 4000000
/-! L3: a plain store machine. A program is walked once into functions on plain stores; what they do is told in plain Lean. -/
namespace L3
open PySem PySem.Spec PyProof.Rows L2
/-- a value: no heap. lis: a list that never changes (the script) -/
inductive D where
  | non | bl (b : Bool) | int (i : Int) | str (x : Str) | tup (xs : List D) | lis (xs : List D) | ref (n : Nat)
/-- what stands in the store -/
inductive O where
  | lst (xs : List D) | dic (kvs : List (Key × D)) | ins (C : Str) (fs : List (Str × D))
  /-- a dict whose keys are nested tuples -/
  | tab (kvs : List (D × D))
abbrev Store := List O
abbrev DE := List (Option D)
inductive R (α : Type) where
  | ok (a : α) (S : Store) | exc (c : Str) (fs : List (Str × D)) (S : Store) | no
def R.bind {α β : Type} (r : R α) (f : α → Store → R β) : R β := match r with
  | .ok a S => f a S
  | .exc c fs S => .exc c fs S
  | .no => .no
/-- where the own classes stand, and the world (its secret is in the hashes of dicts with tuple keys) -/
structure Cl where
  ad : Str → Addr
  w : World
instance : CoeFun Cl (fun _ => Str → Addr) := ⟨Cl.ad⟩
/-- the dict at a with these keys (each with its object) and values -/
def ndO (w : World) (a : Addr) (es : List (NestedKey × Addr × V)) : HO := .ext fun h => (a == sysModules) = false ∧ ∃ vs : List (NestedKey × Addr × Value), Paired (fun (x : NestedKey × Addr × V) (y : NestedKey × Addr × Value) => x.1 = y.1 ∧ x.2.1 = y.2.1 ∧ RelV x.2.2 y.2.2) es vs ∧
  ∃ o es' ep, h.get? a = some o ∧ o.ExactDict ∧ o.data = .dict es' ep ∧ es'.toList = vs.map (fun x => (⟨x.1.hash w, .ref x.2.1, x.2.2⟩ : DictEntry)) ∧ (vs.map (·.1)).Nodup
mutual
def NK : D → Option NestedKey
  | .non => some .none
  | .bl b => some (.num (if b = true then 1 else 0))
  | .int i => some (.num i)
  | .str x => some (.text x)
  | .tup ds => (NKs ds).map .tup
  | _ => none
def NKs : List D → Option (List NestedKey)
  | [] => some []
  | d :: ds => (NK d).bind fun k => (NKs ds).map fun ks => k :: ks
end
/-! ### values and stores, by the heap -/
section
variable (K : PySem.W.Frag) (φ : List Addr) (H : Hp)
mutual
inductive RD : D → V → Prop
  | non : RD .non .non
  | bl (b : Bool) : RD (.bl b) (.bl b)
  | int (i : Int) : RD (.int i) (.int i)
  | str (x : Str) : RD (.str x) (.str x)
  | tup {a : Addr} {vs : List V} {ds : List D} : SqT K H a vs → RDs ds vs → RD (.tup ds) (.ref a)
  | lisR {a : Addr} {vs : List V} {ds : List D} : Rd H a (.lst vs) → a ∉ φ → RDs ds vs → RD (.lis ds) (.ref a)
  | lisK {a : Addr} {vs : List V} {ds : List D} : (∀ H, SqL K H a vs) → RDs ds vs → RD (.lis ds) (.ref a)
  | ref {n : Nat} {a : Addr} : φ[n]? = some a → RD (.ref n) (.ref a)
inductive RDs : List D → List V → Prop
  | nil : RDs [] []
  | cons {d : D} {v : V} {ds : List D} {vs : List V} : RD d v → RDs ds vs → RDs (d :: ds) (v :: vs)
end
end
/-- pairs with a name or a key -/
abbrev RA {α : Type} (K : PySem.W.Frag) (φ : List Addr) (H : Hp) : List (α × D) → List (α × V) → Prop := Paired fun (p : α × D) (q : α × V) => p.1 = q.1 ∧ RD K φ H p.2 q.2
inductive RO (K : PySem.W.Frag) (cl : Cl) (φ : List Addr) (H : Hp) (a : Addr) : O → Prop
  | lst {xs : List D} {vs : List V} : H a = some (.lst vs) → RDs K φ H xs vs → RO K cl φ H a (.lst xs)
  | dic {kvs : List (Key × D)} {ws : List (Key × V)} : H a = some (.dK ws) → RA K φ H kvs ws → RO K cl φ H a (.dic kvs)
  | ins {C : Str} {fs : List (Str × D)} {dx : Addr} {ws : List (Str × V)} : H a = some (.ins (cl C) dx ws) → RA K φ H fs ws → RO K cl φ H a (.ins C fs)
  | tab {kvs : List (D × D)} {es : List (NestedKey × Addr × V)} : H a = some (ndO cl.w a es) → Paired (fun (p : D × D) (x : NestedKey × Addr × V) => (NK p.1 = some x.1 ∧ x.1.depth ≤ 8) ∧ RD K φ H p.1 (.ref x.2.1) ∧ RD K φ H p.2 x.2.2) kvs es → RO K cl φ H a (.tab kvs)
structure RS (K : PySem.W.Frag) (cl : Cl) (φ : List Addr) (S : Store) (H : Hp) : Prop where
  len : φ.length = S.length
  nd : φ.Nodup
  obj : ∀ (n : Nat) (a : Addr) (o : O), φ[n]? = some a → S[n]? = some o → RO K cl φ H a o
structure RE (K : PySem.W.Frag) (φ : List Addr) (H : Hp) (ρ : DE) (σ : L2.St) : Prop where
  len : ρ.length = σ.length
  at_ : ∀ (i : Nat) (d : D), ρ[i]? = some (some d) → ∃ v, σ[i]? = some (some v) ∧ RD K φ H d v
/-- later -/
structure Fu (K : PySem.W.Frag) (φ φ' : List Addr) (H H' : Hp) : Prop where
  pre : φ <+: φ'
  kt : KTu K H H'
  out : ∀ (a : Addr) (o : HO), a ∉ φ → H a = some o → a ∉ φ' ∧ H' a = some o
section
variable {K : PySem.W.Frag} {cl : Cl} {φ φ' φ1 φ2 : List Addr} {H H' H1 H2 : Hp} {S S' : Store} {ρ : DE} {σ : L2.St}
theorem Fu.refl : Fu K φ φ H H := ⟨List.prefix_refl _, KTu.refl _ _, fun _ _ h e => ⟨h, e⟩⟩
theorem Fu.trans (a : Fu K φ φ1 H H1) (b : Fu K φ1 φ2 H1 H2) : Fu K φ φ2 H H2 :=
  ⟨a.pre.trans b.pre, a.kt.trans b.kt, fun x o h e => let ⟨h1, e1⟩ := a.out x o h e; b.out x o h1 e1⟩
theorem Fu.get (f : Fu K φ φ' H H') {n : Nat} {a : Addr} (e : φ[n]? = some a) : φ'[n]? = some a := by
  obtain ⟨t, rfl⟩ := f.pre
  rw [List.getElem?_append_left (List.getElem?_eq_some_iff.mp e).1]
  exact e
mutual
theorem RD.fu (f : Fu K φ φ' H H') : ∀ {d : D} {v : V}, RD K φ H d v → RD K φ' H' d v
  | _, _, .non => .non
  | _, _, .bl b => .bl b
  | _, _, .int b => .int b
  | _, _, .str b => .str b
  | _, _, .tup h hs => .tup (f.kt _ _ h) (RDs.fu f hs)
  | _, _, .lisR (.inl h) ho hs => .lisR (.inl (f.out _ _ ho h).2) (f.out _ _ ho h).1 (RDs.fu f hs)
  | _, _, .lisR (.inr ⟨u, h⟩) ho hs => .lisR (.inr ⟨u, (f.out _ _ ho h).2⟩) (f.out _ _ ho h).1 (RDs.fu f hs)
  | _, _, .lisK h hs => .lisK h (RDs.fu f hs)
  | _, _, .ref h => .ref (f.get h)
theorem RDs.fu (f : Fu K φ φ' H H') : ∀ {d : List D} {v : List V}, RDs K φ H d v → RDs K φ' H' d v
  | _, _, .nil => .nil
  | _, _, .cons h hs => .cons (RD.fu f h) (RDs.fu f hs)
end
theorem RA.fu {α : Type} (f : Fu K φ φ' H H') : ∀ {d : List (α × D)} {v : List (α × V)}, RA K φ H d v → RA K φ' H' d v
  | _, _, .nil => .nil
  | _, _, .cons h hs => .cons ⟨h.1, h.2.fu f⟩ (RA.fu f hs)
theorem RDs.len : ∀ {d : List D} {v : List V}, RDs K φ H d v → d.length = v.length
  | _, _, .nil => rfl
  | _, _, .cons _ t => congrArg Nat.succ (RDs.len t)
theorem RDs.get : ∀ {ds : List D} {vs : List V} {i : Nat} {d : D}, RDs K φ H ds vs → ds[i]? = some d → ∃ v, vs[i]? = some v ∧ RD K φ H d v
  | _, _, _, _, .nil, e => by simp at e
  | _, _, 0, _, .cons h _, e => by simp at e; subst e; exact ⟨_, rfl, h⟩
  | _, _, i + 1, d, .cons _ t, e => by
    obtain ⟨v, h1, h2⟩ := RDs.get (i := i) (d := d) t (by simpa using e)
    exact ⟨v, by simpa using h1, h2⟩
theorem RDs.getV : ∀ {ds : List D} {vs : List V} {i : Nat} {v : V}, RDs K φ H ds vs → vs[i]? = some v → ∃ d, ds[i]? = some d ∧ RD K φ H d v
  | _, _, _, _, .nil, e => by simp at e
  | _, _, 0, _, .cons h _, e => by simp at e; subst e; exact ⟨_, rfl, h⟩
  | _, _, i + 1, d, .cons _ t, e => by
    obtain ⟨v, h1, h2⟩ := RDs.getV (i := i) (v := d) t (by simpa using e)
    exact ⟨v, by simpa using h1, h2⟩
theorem RDs.app : ∀ {ds es : List D} {vs ws : List V}, RDs K φ H ds vs → RDs K φ H es ws → RDs K φ H (ds ++ es) (vs ++ ws)
  | _, _, _, _, .nil, s => s
  | _, _, _, _, .cons h t, s => .cons h (RDs.app t s)
theorem RDs.take : ∀ {ds : List D} {vs : List V} (i : Nat), RDs K φ H ds vs → RDs K φ H (ds.take i) (vs.take i)
  | _, _, 0, _ => .nil
  | _, _, _ + 1, .nil => .nil
  | _, _, i + 1, .cons h t => .cons h (RDs.take i t)
theorem RDs.drop : ∀ {ds : List D} {vs : List V} (i : Nat), RDs K φ H ds vs → RDs K φ H (ds.drop i) (vs.drop i)
  | _, _, 0, h => h
  | _, _, _ + 1, .nil => .nil
  | _, _, i + 1, .cons _ t => RDs.drop i t
theorem RDs.erase : ∀ {ds : List D} {vs : List V} (i : Nat), RDs K φ H ds vs → RDs K φ H (ds.eraseIdx i) (vs.eraseIdx i)
  | _, _, _, .nil => .nil
  | _, _, 0, .cons _ t => t
  | _, _, i + 1, .cons h t => .cons h (RDs.erase i t)
theorem RDs.set {d : D} {v : V} (r : RD K φ H d v) : ∀ {ds : List D} {vs : List V} (i : Nat), RDs K φ H ds vs → RDs K φ H (ds.set i d) (vs.set i v)
  | _, _, _, .nil => .nil
  | _, _, 0, .cons _ t => .cons r t
  | _, _, i + 1, .cons h t => .cons h (RDs.set r i t)
theorem RDs.rep {d : D} {v : V} (r : RD K φ H d v) : ∀ n : Nat, RDs K φ H (List.replicate n d) (List.replicate n v)
  | 0 => .nil
  | n + 1 => .cons r (RDs.rep r n)
theorem RDs.reps {d : List D} {v : List V} (r : RDs K φ H d v) : ∀ n : Nat, RDs K φ H (List.replicate n d).flatten (List.replicate n v).flatten
  | 0 => .nil
  | n + 1 => by rw [List.replicate_succ, List.replicate_succ, List.flatten_cons, List.flatten_cons]; exact r.app (RDs.reps r n)
theorem RDs.rev : ∀ {ds : List D} {vs : List V}, RDs K φ H ds vs → RDs K φ H ds.reverse vs.reverse
  | _, _, .nil => .nil
  | _, _, .cons h t => by rw [List.reverse_cons, List.reverse_cons]; exact (RDs.rev t).app (.cons h .nil)
theorem RDs.ints (ns : List Int) : RDs K φ H (ns.map .int) (ns.map .int) := by
  induction ns with
  | nil => exact .nil
  | cons n ns ih => exact .cons (.int n) ih
theorem RDs.strs (ns : List Str) : RDs K φ H (ns.map .str) (ns.map .str) := by
  induction ns with
  | nil => exact .nil
  | cons n ns ih => exact .cons (.str n) ih
theorem RO.fu (f : Fu K φ φ' H H') {a : Addr} {o : O} (e : H' a = H a) (h : RO K cl φ H a o) : RO K cl φ' H' a o := by
  cases h with
  | lst h1 h2 => exact .lst (e.trans h1) (h2.fu f)
  | dic h1 h2 => exact .dic (e.trans h1) (h2.fu f)
  | ins h1 h2 => exact .ins (e.trans h1) (h2.fu f)
  | tab h1 h2 => exact .tab (e.trans h1) (Paired.mapP h2 fun p x q => ⟨q.1, q.2.1.fu f, q.2.2.fu f⟩)
theorem RO.mut {a : Addr} {o : O} (h : RO K cl φ H a o) : Mut (H a) := by
  cases h with
  | lst h1 h2 => rw [h1]; trivial
  | dic h1 h2 => rw [h1]; trivial
  | ins h1 h2 => rw [h1]; trivial
  | tab h1 h2 => rw [h1]; trivial
theorem Mut.nt {K : PySem.W.Frag} {H : Hp} {a : Addr} (h : Mut (H a)) : ∀ xs, ¬ Rd H a (.tup xs) := fun xs r => by
  rcases r with r | ⟨o, r⟩ <;> (rw [r] at h; exact h)
theorem RS.at (s : RS K cl φ S H) {n : Nat} {o : O} (e : S[n]? = some o) : ∃ a, φ[n]? = some a ∧ RO K cl φ H a o := by
  have h := (List.getElem?_eq_some_iff.mp e).1
  have h' : n < φ.length := by rw [s.len]; exact h
  exact ⟨φ[n], List.getElem?_eq_getElem h', s.obj n _ o (List.getElem?_eq_getElem h') e⟩
theorem RS.all (s : RS K cl φ S H) {n : Nat} {a : Addr} (e : φ[n]? = some a) : ∃ o, S[n]? = some o ∧ RO K cl φ H a o := by
  have h := (List.getElem?_eq_some_iff.mp e).1
  have h' : n < S.length := by rw [← s.len]; exact h
  exact ⟨S[n], List.getElem?_eq_getElem h', s.obj n _ _ e (List.getElem?_eq_getElem h')⟩
theorem RS.mut (s : RS K cl φ S H) {a : Addr} (m : a ∈ φ) : Mut (H a) := by
  obtain ⟨n, h⟩ := List.mem_iff_getElem?.mp m
  obtain ⟨o, _, r⟩ := s.all h
  exact r.mut
theorem RS.fresh (s : RS K cl φ S H) {p : Addr} (n : H p = none) : p ∉ φ := fun m => by
  have := s.mut m
  rw [n] at this
  exact this
/-- a new object -/
theorem Fu.new {p : Addr} {h : HO} (n : H p = none) : Fu K φ (φ ++ [p]) H (upd H p h) :=
  ⟨List.prefix_append _ _, KTu.new n, fun a o ha e => by
    have ne : a ≠ p := fun z => by rw [z, n] at e; cases e
    exact ⟨fun m => (List.mem_append.mp m).elim ha fun m => ne (List.mem_singleton.mp m), by rw [upd_ne ne]; exact e⟩⟩
theorem RS.new (s : RS K cl φ S H) {p : Addr} {h : HO} {o : O} (n : H p = none) (r : RO K cl (φ ++ [p]) (upd H p h) p o) : RS K cl (φ ++ [p]) (S ++ [o]) (upd H p h) := by
  have np := s.fresh n
  refine ⟨by rw [List.length_append, List.length_append, s.len]; rfl, ?_, fun m a u e1 e2 => ?_⟩
  · rw [List.nodup_append]
    exact ⟨s.nd, by simp, fun a ha b hb z => np (by rw [← List.mem_singleton.mp hb, ← z]; exact ha)⟩
  · by_cases hm : m < φ.length
    · rw [List.getElem?_append_left hm] at e1
      rw [List.getElem?_append_left (by rw [← s.len]; exact hm)] at e2
      have ne : a ≠ p := fun z => np (by rw [← z]; exact List.mem_of_getElem? e1)
      exact (s.obj m a u e1 e2).fu (Fu.new n) (upd_ne ne)
    · have l2 := (List.getElem?_eq_some_iff.mp e1).1
      rw [List.length_append, List.length_singleton] at l2
      have em : m = φ.length := by omega
      subst em
      rw [List.getElem?_append_right (Nat.le_refl _), Nat.sub_self] at e1
      rw [s.len, List.getElem?_append_right (Nat.le_refl _), Nat.sub_self] at e2
      have e1' : p = a := by simpa using e1
      have e2' : o = u := by simpa using e2
      subst e1' e2'
      exact r
theorem new_at (φ : List Addr) (p : Addr) : (φ ++ [p])[φ.length]? = some p := by
  rw [List.getElem?_append_right (Nat.le_refl _), Nat.sub_self]; rfl
theorem RS.new_ref (s : RS K cl φ S H) {p : Addr} : RD K (φ ++ [p]) H1 (.ref S.length) (.ref p) := .ref (by rw [← s.len]; exact new_at φ p)
/-- an object written -/
theorem Fu.put (s : RS K cl φ S H) {n : Nat} {a : Addr} (e : φ[n]? = some a) {h : HO} : Fu K φ φ H (upd H a h) :=
  ⟨List.prefix_refl _, KTu.upd (Mut.nt (K := K) (s.mut (List.mem_of_getElem? e))), fun b o hb eb => ⟨hb, by
    rw [upd_ne fun z => hb (by rw [z]; exact List.mem_of_getElem? e)]; exact eb⟩⟩
theorem RS.put (s : RS K cl φ S H) {n : Nat} {a : Addr} (e : φ[n]? = some a) {h : HO} {o : O} (r : RO K cl φ (upd H a h) a o) : RS K cl φ (S.set n o) (upd H a h) := by
  refine ⟨by rw [List.length_set]; exact s.len, s.nd, fun m b u e1 e2 => ?_⟩
  have l2 := (List.getElem?_eq_some_iff.mp e1).1
  by_cases hm : m = n
  · subst hm
    rw [e] at e1
    cases e1
    rw [List.getElem?_set_self (by rw [← s.len]; exact l2)] at e2
    cases e2
    exact r
  · rw [List.getElem?_set_ne (Ne.symm hm)] at e2
    have ne : b ≠ a := fun z => hm (by
      subst z
      obtain ⟨h1, e1'⟩ := List.getElem?_eq_some_iff.mp e1
      obtain ⟨h2, e2'⟩ := List.getElem?_eq_some_iff.mp e
      exact (List.getElem_inj s.nd).mp (e1'.trans e2'.symm))
    exact (s.obj m b u e1 e2).fu (Fu.put s e) (upd_ne ne)
theorem RE.fu (f : Fu K φ φ' H H') (e : RE K φ H ρ σ) : RE K φ' H' ρ σ := ⟨e.len, fun i d h => let ⟨v, h1, h2⟩ := e.at_ i d h; ⟨v, h1, h2.fu f⟩⟩
theorem RE.set (e : RE K φ H ρ σ) (i : Nat) {d : D} {v : V} (r : RD K φ H d v) : RE K φ H (ρ.set i (some d)) (σ.set i (some v)) := by
  refine ⟨by rw [List.length_set, List.length_set]; exact e.len, fun j u h => ?_⟩
  by_cases hj : j = i
  · subst hj
    have hl := (List.getElem?_eq_some_iff.mp h).1
    rw [List.length_set] at hl
    rw [List.getElem?_set_self hl] at h
    cases h
    exact ⟨v, List.getElem?_set_self (by rw [← e.len]; exact hl), r⟩
  · rw [List.getElem?_set_ne (Ne.symm hj)] at h
    rw [List.getElem?_set_ne (Ne.symm hj)]
    exact e.at_ j u h
theorem RE.forget (e : RE K φ H ρ σ) (i : Nat) {v : Option V} : RE K φ H (ρ.set i none) (σ.set i v) := by
  refine ⟨by rw [List.length_set, List.length_set]; exact e.len, fun j u h => ?_⟩
  by_cases hj : j = i
  · subst hj
    have hl := (List.getElem?_eq_some_iff.mp h).1
    rw [List.length_set] at hl
    rw [List.getElem?_set_self hl] at h
    cases h
  · rw [List.getElem?_set_ne (Ne.symm hj)] at h
    rw [List.getElem?_set_ne (Ne.symm hj)]
    exact e.at_ j u h
theorem RE.app {ρ2 : DE} {σ2 : L2.St} (e : RE K φ H ρ σ) (e2 : RE K φ H ρ2 σ2) : RE K φ H (ρ ++ ρ2) (σ ++ σ2) := by
  refine ⟨by rw [List.length_append, List.length_append, e.len, e2.len], fun i d h => ?_⟩
  by_cases hi : i < ρ.length
  · rw [List.getElem?_append_left hi] at h
    rw [List.getElem?_append_left (by rw [← e.len]; exact hi)]
    exact e.at_ i d h
  · rw [List.getElem?_append_right (by omega)] at h
    rw [List.getElem?_append_right (by have := e.len; omega), ← e.len]
    exact e2.at_ _ d h
theorem RE.args {ds : List D} {vs : List V} (r : RDs K φ H ds vs) : RE K φ H (ds.map some) (vs.map some) := by
  refine ⟨by rw [List.length_map, List.length_map, r.len], fun i d h => ?_⟩
  rw [List.getElem?_map] at h
  cases e : ds[i]? with
  | none => rw [e] at h; cases h
  | some u =>
    rw [e] at h
    cases h
    obtain ⟨v, h1, h2⟩ := r.get e
    exact ⟨v, by rw [List.getElem?_map, h1]; rfl, h2⟩
theorem RE.nones (n : Nat) : RE K φ H (List.replicate n none) (List.replicate n none) :=
  ⟨by simp, fun i d h => by rw [List.getElem?_replicate] at h; split at h <;> cases h⟩
end
end L3
set_option Elab.async false
set_option linter.all false
set_option maxRecDepth 100000
set_option maxHeartbeats 4000000
namespace L3
open PySem PySem.Spec PyProof.Rows L2
/-! ### what follows a result -/
/-- an exception's fields, by its dict -/
inductive RX (K : PySem.W.Frag) (φ : List Addr) (H : Hp) : List (Str × D) → Option Addr → Prop
  | non : RX K φ H [] none
  | fld {fs : List (Str × D)} {d : Addr} {ws : List (Str × V)} : H d = some (.xd ws) → RA K φ H fs ws → RX K φ H fs (some d)
abbrev Rl (α β : Type) := List Addr → Hp → α → β → Prop
abbrev RB : Rl Bool Bool := fun _ _ a b => a = b
section
variable {α β γ δ : Type}
def wp (K : PySem.W.Frag) (cl : Cl) (rl : Rl α β) (X : XK) (φ : List Addr) (H : Hp) (r : R α) (Q : β → Hp → Prop) : Prop := match r with
  | .ok a S => ∀ φ' v H', Fu K φ φ' H H' → RS K cl φ' S H' → rl φ' H' a v → Q v H'
  | .exc c fs S => ∀ φ' oe H', Fu K φ φ' H H' → RS K cl φ' S H' → RX K φ' H' fs oe → X (.ref (cl c)) oe H'
  | .no => False
/-- what the code at σ, H asks: it runs as m does -/
def F (K : PySem.W.Frag) (cl : Cl) (rl : Rl α β) (E : L2.St → XK) (m : DE → Store → R α) (σ : L2.St) (H : Hp) (Q : β → Hp → Prop) : Prop :=
  ∃ φ ρ S, RS K cl φ S H ∧ RE K φ H ρ σ ∧ wp K cl rl (E σ) φ H (m ρ S) Q
variable {K : PySem.W.Frag} {cl : Cl} {rl : Rl α β} {rl2 : Rl γ δ} {X : XK} {E : L2.St → XK} {φ φ1 : List Addr} {H H1 : Hp} {S S1 : Store} {ρ : DE} {σ : L2.St} {Q Q1 : β → Hp → Prop} {Q2 : δ → Hp → Prop}
theorem wp.fu {r : R α} (f : Fu K φ φ1 H H1) (h : wp K cl rl X φ H r Q) : wp K cl rl X φ1 H1 r Q := by
  cases r with
  | ok a S => exact fun φ' v H' g => h φ' v H' (f.trans g)
  | exc c fs S => exact fun φ' oe H' g => h φ' oe H' (f.trans g)
  | no => exact h
theorem wp.mono {r : R α} (h : wp K cl rl X φ H r Q) (hQ : ∀ v H, Q v H → Q1 v H) : wp K cl rl X φ H r Q1 := by
  cases r with
  | ok a S => exact fun φ' v H' g s r => hQ _ _ (h φ' v H' g s r)
  | exc c fs S => exact h
  | no => exact h
theorem F.mk {m : DE → Store → R α} (s : RS K cl φ S H) (e : RE K φ H ρ σ) (h : wp K cl rl (E σ) φ H (m ρ S) Q) : F K cl rl E m σ H Q := ⟨φ, ρ, S, s, e, h⟩
/-- one step of several -/
theorem F.step {m : DE → Store → R α} {k : α → Store → R γ} (s : RS K cl φ S H) (e : RE K φ H ρ σ) (h : wp K cl rl2 (E σ) φ H ((m ρ S).bind k) Q2)
    (hk : ∀ a S1 φ1 v H1, Fu K φ φ1 H H1 → RS K cl φ1 S1 H1 → RE K φ1 H1 ρ σ → rl φ1 H1 a v → wp K cl rl2 (E σ) φ1 H1 (k a S1) Q2 → Q v H1) : F K cl rl E m σ H Q := by
  refine ⟨φ, ρ, S, s, e, ?_⟩
  cases q : m ρ S with
  | ok a S1 =>
    rw [q] at h
    exact fun φ' v H' f s' r => hk a S1 φ' v H' f s' (e.fu f) r (wp.fu f h)
  | exc c fs S1 =>
    rw [q] at h
    exact h
  | no =>
    rw [q] at h
    exact h
/-- .. the last -/
theorem wp.here {a : α} {v : β} (s : RS K cl φ S H) (r : rl φ H a v) (h : wp K cl rl X φ H (.ok a S) Q) : Q v H := h φ v H Fu.refl s r
end
abbrev FE (K : PySem.W.Frag) (cl : Cl) (E : L2.St → XK) (m : DE → Store → R D) : TE := F K cl (RD K) E m
abbrev FA (K : PySem.W.Frag) (cl : Cl) (E : L2.St → XK) (m : DE → Store → R (List D)) : TA := F K cl (RDs K) E m
abbrev FT (K : PySem.W.Frag) (cl : Cl) (E : L2.St → XK) (m : DE → Store → R Bool) : TT := F K cl RB E m
abbrev ME := DE → Store → R D
abbrev MA := DE → Store → R (List D)
abbrev MT := DE → Store → R Bool
theorem PE.imp {X : Cx} {e : Expr} {t t' : TE} (h : PE X e t) (i : ∀ σ H Q, t' σ H Q → t σ H Q) : PE X e t' := ⟨fun pins s σ H Q I q => h.run pins s σ H Q I (i σ H Q q)⟩
theorem PT.imp {X : Cx} {e : Expr} {t t' : TT} (h : PT X e t) (i : ∀ σ H Q, t' σ H Q → t σ H Q) : PT X e t' := ⟨fun pins s σ H Q I q => h.run pins s σ H Q I (i σ H Q q)⟩
theorem PW.imp {X : Cx} {e : Expr} {t t' : TT} (h : PW X e t) (i : ∀ σ H Q, t' σ H Q → t σ H Q) : PW X e t' := ⟨fun w pins s σ H Q I q => h.run w pins s σ H Q I (i σ H Q q)⟩
theorem PA.imp {X : Cx} {e : List Expr} {t t' : TA} (h : PA X e t) (i : ∀ σ H Q, t' σ H Q → t σ H Q) : PA X e t' := ⟨fun p pins s σ H Q I q => h.run p pins s σ H Q I (i σ H Q q)⟩
/-! ### names, constants, and, or, not, if -/
def vE (i : Nat) : ME := fun ρ S => match ρ[i]? with
  | some (some d) => .ok d S
  | _ => .no
def cE (d : D) : ME := fun _ S => .ok d S
section
variable {X : Cx} {K : PySem.W.Frag} {cl : Cl} {E : L2.St → XK} {e a b c : Expr} {m ma mb : ME} {ta tb : MT} {pos : Pos}
theorem fe_var {i : Nat} (h : PE X e (tVar i)) : PE X e (FE K cl E (vE i)) := PE.imp h fun σ H Q ⟨φ, ρ, S, s, r, h⟩ => by
  have h' : wp K cl (RD K) (E σ) φ H (vE i ρ S) Q := h
  unfold vE at h'
  cases q : ρ[i]? with
  | none => rw [q] at h'; exact h'.elim
  | some o =>
    rw [q] at h'
    cases o with
    | none => exact h'.elim
    | some d =>
      obtain ⟨v, h1, h2⟩ := r.at_ i d q
      exact ⟨v, h1, wp.here s h2 h'⟩
theorem fe_c {d : D} {v : V} (h : PE X e (tC v)) (r : ∀ φ H, RD K φ H d v) : PE X e (FE K cl E (cE d)) := PE.imp h fun σ H Q ⟨φ, ρ, S, s, _, h⟩ => wp.here s (r φ H) h
theorem fe_int {i j pos} : PE X (.Constant (.int i) j pos) (FE K cl E (cE (.int i))) := fe_c pe_int fun _ _ => .int i
theorem fe_bl {b j pos} : PE X (.Constant (.bool b) j pos) (FE K cl E (cE (.bl b))) := fe_c pe_bl fun _ _ => .bl b
theorem fe_non {j pos} : PE X (.Constant .none j pos) (FE K cl E (cE .non)) := fe_c pe_non fun _ _ => .non
theorem fe_str {x j pos} : PE X (.Constant (.str x) j pos) (FE K cl E (cE (.str x))) := fe_c pe_str fun _ _ => .str x
/-- a value's bool -/
def blO : D → Option Bool
  | .bl k => some k
  | _ => none
theorem RD.blO {φ : List Addr} {H : Hp} {d : D} {v : V} {k : Bool} (r : RD K φ H d v) (h : blO d = some k) : v = .bl k := by
  cases r <;> first | (cases h; done) | (injection h with h; subst h; rfl)
def R.ofO {α : Type} : Option (α × Store) → R α
  | some p => .ok p.1 p.2
  | none => .no
/-- an expression as a test -/
def bT (m : ME) : MT := fun ρ S => (m ρ S).bind fun d S1 => match blO d with
  | some k => .ok k S1
  | none => .no
theorem tb_im {m : ME} : ∀ σ H Q, FT K cl E (bT m) σ H Q → tB (FE K cl E m) σ H Q := fun σ H Q ⟨φ, ρ, S, s, e, h⟩ =>
  F.step s e h fun d S1 φ1 v H1 f s1 e1 r h1 => by
    cases q : blO d with
    | none => rw [q] at h1; exact h1.elim
    | some k => rw [q] at h1; exact ⟨k, r.blO q, wp.here s1 rfl h1⟩
theorem ft_val (h : PE X e (FE K cl E m)) (he : ∀ whole, isTrue e X.env whole = (do let v ← whole; standAt e.pos; holding [v] (truthy v)) := by intro _; rfl) : PT X e (FT K cl E (bT m)) := PT.imp (pt_val h he) tb_im
/-- a test as such -/
def andT (t u : MT) : MT := fun ρ S => (t ρ S).bind fun k S1 => if k = true then u ρ S1 else .ok false S1
def orT (t u : MT) : MT := fun ρ S => (t ρ S).bind fun k S1 => if k = true then .ok true S1 else u ρ S1
def notT (t : MT) : MT := fun ρ S => (t ρ S).bind fun k S1 => .ok (!k) S1
variable {rest : List Expr}
theorem fw_and1 (ha : PT X a (FT K cl E ta)) : PW X (.BoolOp .And [a] pos) (FT K cl E ta) := pw_and1 ha
theorem fw_or1 (ha : PT X a (FT K cl E ta)) : PW X (.BoolOp .Or [a] pos) (FT K cl E ta) := pw_or1 ha
theorem fw_and (ha : PT X a (FT K cl E ta)) (hb : PW X (.BoolOp .And (b :: rest) pos) (FT K cl E tb)) : PW X (.BoolOp .And (a :: b :: rest) pos) (FT K cl E (andT ta tb)) :=
  PW.imp (pw_and ha hb) fun σ H Q ⟨φ, ρ, S, s, e, h⟩ => F.step s e h fun k S1 φ1 v H1 f s1 e1 r h1 => by
    cases r
    cases k
    · exact wp.here (rl := RB) s1 rfl h1
    · exact F.mk s1 e1 h1
theorem fw_or (ha : PT X a (FT K cl E ta)) (hb : PW X (.BoolOp .Or (b :: rest) pos) (FT K cl E tb)) : PW X (.BoolOp .Or (a :: b :: rest) pos) (FT K cl E (orT ta tb)) :=
  PW.imp (pw_or ha hb) fun σ H Q ⟨φ, ρ, S, s, e, h⟩ => F.step s e h fun k S1 φ1 v H1 f s1 e1 r h1 => by
    cases r
    cases k
    · exact F.mk s1 e1 h1
    · exact wp.here (rl := RB) s1 rfl h1
theorem ft_not (ha : PT X a (FT K cl E ta)) : PT X (.UnaryOp .Not a pos) (FT K cl E (notT ta)) :=
  PT.imp (pt_not ha) fun σ H Q ⟨φ, ρ, S, s, e, h⟩ => F.step s e h fun k S1 φ1 v H1 f s1 e1 r h1 => by
    cases r
    exact wp.here (rl := RB) s1 rfl h1
/-- .. as values -/
def andE (ma mb : ME) : ME := fun ρ S => (bT ma ρ S).bind fun k S1 => if k = true then mb ρ S1 else .ok (.bl false) S1
def orE (ma mb : ME) : ME := fun ρ S => (bT ma ρ S).bind fun k S1 => if k = true then .ok (.bl true) S1 else mb ρ S1
def notE (ma : ME) : ME := fun ρ S => (bT ma ρ S).bind fun k S1 => .ok (.bl (!k)) S1
theorem R.bind_assoc {α β γ : Type} (r : R α) (f : α → Store → R β) (g : β → Store → R γ) : (r.bind f).bind g = r.bind fun a S => (f a S).bind g := by cases r <;> rfl
theorem fe_one {op} (h : PE X a (FE K cl E m)) : PE X (.BoolOp op [a] pos) (FE K cl E m) := pe_one h
theorem fe_and (ha : PE X a (FE K cl E ma)) (hb : PE X (.BoolOp .And (b :: rest) pos) (FE K cl E mb)) : PE X (.BoolOp .And (a :: b :: rest) pos) (FE K cl E (andE ma mb)) :=
  PE.imp (pe_and ha hb) fun σ H Q ⟨φ, ρ, S, s, e, h⟩ => by
    unfold andE bT at h
    rw [R.bind_assoc] at h
    refine F.step s e h fun d S1 φ1 v H1 f s1 e1 r h1 => ?_
    cases q : blO d with
    | none => rw [q] at h1; exact h1.elim
    | some k =>
      rw [q] at h1
      refine ⟨k, r.blO q, ?_⟩
      cases k
      · exact wp.here (rl := RD K) s1 (.bl false) h1
      · exact F.mk s1 e1 h1
theorem fe_or (ha : PE X a (FE K cl E ma)) (hb : PE X (.BoolOp .Or (b :: rest) pos) (FE K cl E mb)) : PE X (.BoolOp .Or (a :: b :: rest) pos) (FE K cl E (orE ma mb)) :=
  PE.imp (pe_or ha hb) fun σ H Q ⟨φ, ρ, S, s, e, h⟩ => by
    unfold orE bT at h
    rw [R.bind_assoc] at h
    refine F.step s e h fun d S1 φ1 v H1 f s1 e1 r h1 => ?_
    cases q : blO d with
    | none => rw [q] at h1; exact h1.elim
    | some k =>
      rw [q] at h1
      refine ⟨k, r.blO q, ?_⟩
      cases k
      · exact F.mk s1 e1 h1
      · exact wp.here (rl := RD K) s1 (.bl true) h1
theorem fe_not (ha : PE X a (FE K cl E ma)) : PE X (.UnaryOp .Not a pos) (FE K cl E (notE ma)) :=
  PE.imp (pe_not ha) fun σ H Q ⟨φ, ρ, S, s, e, h⟩ => by
    unfold notE bT at h
    rw [R.bind_assoc] at h
    refine F.step s e h fun d S1 φ1 v H1 f s1 e1 r h1 => ?_
    cases q : blO d with
    | none => rw [q] at h1; exact h1.elim
    | some k =>
      rw [q] at h1
      exact ⟨k, r.blO q, wp.here (rl := RD K) s1 (.bl _) h1⟩
def ifE (t : MT) (ma mb : ME) : ME := fun ρ S => (t ρ S).bind fun k S1 => if k = true then ma ρ S1 else mb ρ S1
theorem fe_if (hc : PT X c (FT K cl E ta)) (ha : PE X a (FE K cl E ma)) (hb : PE X b (FE K cl E mb)) : PE X (.IfExp c a b pos) (FE K cl E (ifE ta ma mb)) :=
  PE.imp (pe_ifExp hc ha hb) fun σ H Q ⟨φ, ρ, S, s, e, h⟩ => F.step s e h fun k S1 φ1 v H1 f s1 e1 r h1 => by
    cases r
    cases k
    · exact F.mk s1 e1 h1
    · exact F.mk s1 e1 h1
/-! ### arguments -/
def nilA : MA := fun _ S => .ok [] S
def consA (m : ME) (ms : MA) : MA := fun ρ S => (m ρ S).bind fun d S1 => (ms ρ S1).bind fun ds S2 => .ok (d :: ds) S2
variable {es : List Expr} {ms : MA}
theorem fa_nil : PA X [] (FA K cl E nilA) := PA.imp pa_nil fun σ H Q ⟨φ, ρ, S, s, _, h⟩ => wp.here (rl := RDs K) s .nil h
theorem fa_cons (h : PE X e (FE K cl E m)) (hs : PA X es (FA K cl E ms)) (hst : starEach (e :: es) X.env = (false, eval e X.env) :: starEach es X.env := by rfl) : PA X (e :: es) (FA K cl E (consA m ms)) :=
  PA.imp (pa_cons h hs hst) fun σ H Q ⟨φ, ρ, S, s, e, h⟩ => F.step s e h fun d S1 φ1 v H1 f1 s1 e1 r1 h1 => F.step s1 e1 h1 fun ds S2 φ2 vs H2 f2 s2 e2 r2 h2 => wp.here (rl := RDs K) s2 (.cons (r1.fu f2) r2) h2
end
end L3
set_option Elab.async false
set_option linter.all false
set_option maxRecDepth 100000
set_option maxHeartbeats 4000000
namespace L3
open PySem PySem.Spec PyProof.Rows L2
/-! ### operators -/
abbrev OD := Option (D × Store)
def wpO (K : PySem.W.Frag) (cl : Cl) (φ : List Addr) (H : Hp) (r : OD) (Q : VK) : Prop := ∃ d S, r = some (d, S) ∧ ∀ φ' v H', Fu K φ φ' H H' → RS K cl φ' S H' → RD K φ' H' d v → Q v H'
def rO1 (K : PySem.W.Frag) (cl : Cl) (f : D → Store → OD) : V → Hp → VK → Prop := fun x H Q => ∃ φ S d, RS K cl φ S H ∧ RD K φ H d x ∧ wpO K cl φ H (f d S) Q
def rO2 (K : PySem.W.Frag) (cl : Cl) (f : D → D → Store → OD) : R2 := fun x y H Q => ∃ φ S d e, RS K cl φ S H ∧ RD K φ H d x ∧ RD K φ H e y ∧ wpO K cl φ H (f d e S) Q
def rOs (K : PySem.W.Frag) (cl : Cl) (f : List D → Store → OD) : List V → Hp → VK → Prop := fun xs H Q => ∃ φ S ds, RS K cl φ S H ∧ RDs K φ H ds xs ∧ wpO K cl φ H (f ds S) Q
def rOm (K : PySem.W.Frag) (cl : Cl) (f : D → List D → Store → OD) : V → List V → Hp → VK → Prop := fun x xs H Q => ∃ φ S d ds, RS K cl φ S H ∧ RD K φ H d x ∧ RDs K φ H ds xs ∧ wpO K cl φ H (f d ds S) Q
def opE (f : D → D → Store → OD) (ma mb : ME) : ME := fun ρ S => (ma ρ S).bind fun d S1 => (mb ρ S1).bind fun e S2 => R.ofO (f d e S2)
def unE (f : D → Store → OD) (ma : ME) : ME := fun ρ S => (ma ρ S).bind fun d S1 => R.ofO (f d S1)
def bfE (f : List D → Store → OD) (ms : MA) : ME := fun ρ S => (ms ρ S).bind fun ds S1 => R.ofO (f ds S1)
def bmE (f : D → List D → Store → OD) (m : ME) (ms : MA) : ME := fun ρ S => (m ρ S).bind fun d S1 => (ms ρ S1).bind fun ds S2 => R.ofO (f d ds S2)
section
variable {X : Cx} {K : PySem.W.Frag} {cl : Cl} {E : L2.St → XK} {e a b c : Expr} {m ma mb : ME} {ms : MA} {pos : Pos} {φ : List Addr} {H : Hp} {S : Store} {XX : XK} {Q : VK}
theorem wp.ofO {r : OD} (h : wp K cl (RD K) XX φ H (R.ofO r) Q) : wpO K cl φ H r Q := by
  cases r with
  | none => exact h.elim
  | some p => exact ⟨p.1, p.2, rfl, h⟩
theorem op_im {f : D → D → Store → OD} : ∀ σ H Q, FE K cl E (opE f ma mb) σ H Q → tOp (rO2 K cl f) (FE K cl E ma) (FE K cl E mb) σ H Q := fun σ H Q ⟨φ, ρ, S, s, e, h⟩ =>
  F.step s e h fun d S1 φ1 v H1 f1 s1 e1 r1 h1 => F.step s1 e1 h1 fun d2 S2 φ2 v2 H2 f2 s2 e2 r2 h2 => ⟨φ2, S2, d, d2, s2, r1.fu f2, r2, wp.ofO h2⟩
theorem fe_op {op : Operator} {f : D → D → Store → OD} (ho : OpR X (binaryOp op) (rO2 K cl f)) (ha : PE X a (FE K cl E ma)) (hb : PE X b (FE K cl E mb)) : PE X (.BinOp a op b pos) (FE K cl E (opE f ma mb)) := PE.imp (pe_op ho ha hb) op_im
theorem fe_cmp {op : CmpOp} {f : D → D → Store → OD} (ho : OpR X (compareOp op) (rO2 K cl f)) (ha : PE X a (FE K cl E ma)) (hb : PE X b (FE K cl E mb)) (hm : behindInMarks op b = false) : PE X (.Compare a [op] [b] pos) (FE K cl E (opE f ma mb)) := PE.imp (pe_cmpR ho ha hb hm) op_im
theorem ft_cmp {op : CmpOp} {f : D → D → Store → OD} (ho : OpR X (compareOp op) (rO2 K cl f)) (ha : PE X a (FE K cl E ma)) (hb : PE X b (FE K cl E mb)) (hm : behindInMarks op b = false) : PT X (.Compare a [op] [b] pos) (FT K cl E (bT (opE f ma mb))) :=
  PT.imp (pt_cmpR ho ha hb hm) fun σ H Q h => op_im σ H _ (tb_im σ H Q h)
theorem fe_un {op : UnaryOp} {f : D → Store → OD} (ho : UnR X (unaryOp op) (rO1 K cl f)) (ha : PE X a (FE K cl E ma)) : PE X (.UnaryOp op a pos) (FE K cl E (unE f ma)) :=
  PE.imp (pe_un ho ha) fun σ H Q ⟨φ, ρ, S, s, e, h⟩ => F.step s e h fun d S1 φ1 v H1 f1 s1 e1 r1 h1 => ⟨φ1, S1, d, s1, r1, wp.ofO h1⟩
theorem fe_ix {f : D → D → Store → OD} (ho : IxR X (rO2 K cl f)) (ha : PE X a (FE K cl E ma)) (hb : PE X b (FE K cl E mb)) (hs : PlainIx b := by exact fun _ _ => rfl) : PE X (.Subscript a b pos) (FE K cl E (opE f ma mb)) := PE.imp (pe_ix ho ha hb hs) op_im
theorem bf_im {f : List D → Store → OD} : ∀ σ H Q, FE K cl E (bfE f ms) σ H Q → tCB (rOs K cl f) (FA K cl E ms) σ H Q := fun σ H Q ⟨φ, ρ, S, s, e, h⟩ =>
  F.step s e h fun d S1 φ1 v H1 f1 s1 e1 r1 h1 => ⟨φ1, S1, d, s1, r1, wp.ofO h1⟩
/-! ### stores -/
def lstO (S : Store) (n : Nat) : Option (List D) := match S[n]? with
  | some (.lst xs) => some xs
  | _ => none
def dicO (S : Store) (n : Nat) : Option (List (Key × D)) := match S[n]? with
  | some (.dic kvs) => some kvs
  | _ => none
theorem lstO_at {n : Nat} {xs : List D} (h : lstO S n = some xs) : S[n]? = some (.lst xs) := by
  unfold lstO at h
  split at h
  · cases h; assumption
  · cases h
theorem dicO_at {n : Nat} {xs : List (Key × D)} (h : dicO S n = some xs) : S[n]? = some (.dic xs) := by
  unfold dicO at h
  split at h
  · cases h; assumption
  · cases h
theorem RS.lst (s : RS K cl φ S H) {n : Nat} {xs : List D} (h : lstO S n = some xs) {a : Addr} (e : φ[n]? = some a) : ∃ vs, H a = some (.lst vs) ∧ RDs K φ H xs vs := by
  have r := s.obj n a _ e (lstO_at h)
  cases r with
  | lst h1 h2 => exact ⟨_, h1, h2⟩
theorem RS.dic (s : RS K cl φ S H) {n : Nat} {xs : List (Key × D)} (h : dicO S n = some xs) {a : Addr} (e : φ[n]? = some a) : ∃ vs, H a = some (.dK vs) ∧ RA K φ H xs vs := by
  have r := s.obj n a _ e (dicO_at h)
  cases r with
  | dic h1 h2 => exact ⟨_, h1, h2⟩
/-- the items of a list or a tuple -/
def seqO (S : Store) : D → Option (List D)
  | .tup xs => some xs
  | .lis xs => some xs
  | .ref n => lstO S n
  | _ => none
theorem RS.seq (s : RS K cl φ S H) {d : D} {v : V} (r : RD K φ H d v) {xs : List D} (h : seqO S d = some xs) : ∃ a vs, v = .ref a ∧ RDs K φ H xs vs ∧ (SqL K H a vs ∨ SqT K H a vs) := by
  cases r with
  | tup h1 h2 => cases h; exact ⟨_, _, rfl, h2, .inr h1⟩
  | lisR h1 h0 h2 => cases h; exact ⟨_, _, rfl, h2, .inl (.inl h1)⟩
  | lisK h1 h2 => cases h; exact ⟨_, _, rfl, h2, .inl (h1 H)⟩
  | ref e =>
    obtain ⟨vs, h1, h2⟩ := s.lst h e
    exact ⟨_, _, rfl, h2, .inl (SqL.of h1)⟩
  | _ => cases h
/-- a value, nothing changed -/
theorem wpO.val {d : D} {v : V} {r : OD} (h : wpO K cl φ H r Q) (e : r = some (d, S)) (s : RS K cl φ S H) (rd : RD K φ H d v) : Q v H := by
  obtain ⟨d', S', e', q⟩ := h
  rw [e] at e'
  cases e'
  exact q φ v H Fu.refl s rd
/-- a new tuple -/
theorem wpO.newT {ds : List D} {vs : List V} {r : OD} (h : wpO K cl φ H r Q) (e : r = some (.tup ds, S)) (s : RS K cl φ S H) (rd : RDs K φ H ds vs) {p : Addr} (n : H p = none) : Q (.ref p) (upd H p (.tup vs)) := by
  obtain ⟨d', S', e', q⟩ := h
  rw [e] at e'
  cases e'
  have np := s.fresh n
  have f : Fu K φ φ H (upd H p (.tup vs)) := ⟨List.prefix_refl _, KTu.new n, fun a o ha e => ⟨ha, by rw [upd_ne fun z => by rw [z, n] at e; cases e]; exact e⟩⟩
  refine q φ _ _ f ⟨s.len, s.nd, fun m a o e1 e2 => (s.obj m a o e1 e2).fu f (upd_ne fun z => np (by rw [← z]; exact List.mem_of_getElem? e1))⟩ (.tup (SqT.of upd_same) (rd.fu f))
/-- a new list -/
theorem wpO.newL {ds : List D} {vs : List V} {r : OD} (h : wpO K cl φ H r Q) (e : r = some (.ref S.length, S ++ [.lst ds])) (s : RS K cl φ S H) (rd : RDs K φ H ds vs) {p : Addr} (n : H p = none) : Q (.ref p) (upd H p (.lst vs)) := by
  obtain ⟨d', S', e', q⟩ := h
  rw [e] at e'
  cases e'
  exact q _ _ _ (Fu.new n) (s.new n (.lst upd_same (rd.fu (Fu.new n)))) s.new_ref
/-- a list written -/
theorem wpO.putL {d : D} {v : V} {n : Nat} {a : Addr} {ds : List D} {vs : List V} {r : OD} (h : wpO K cl φ H r Q) (e : r = some (d, S.set n (.lst ds))) (s : RS K cl φ S H) (hn : φ[n]? = some a) (rd : RDs K φ H ds vs) (rv : RD K φ H d v) : Q v (upd H a (.lst vs)) := by
  obtain ⟨d', S', e', q⟩ := h
  rw [e] at e'
  cases e'
  exact q _ _ _ (Fu.put s hn) (s.put hn (.lst upd_same (rd.fu (Fu.put s hn)))) (rv.fu (Fu.put s hn))
def ok1 (S : Store) (d : D) : OD := some (d, S)
/-! ### + - * // % ** -/
def addD : D → D → Store → OD
  | .int i, .int j, S => some (.int (i + j), S)
  | .str x, .str y, S => if x.length + y.length ≤ sizeLine then some (.str (x ++ y), S) else none
  | .tup xs, .tup ys, S => if xs.length + ys.length ≤ sizeLine then some (.tup (xs ++ ys), S) else none
  | .ref n, .ref m, S => match lstO S n, lstO S m with
    | some xs, some ys => if xs.length + ys.length ≤ sizeLine then some (.ref S.length, S ++ [.lst (xs ++ ys)]) else none
    | _, _ => none
  | _, _, _ => none
theorem op_addD : OpR X (binaryOp .Add) (rO2 X.K cl addD) := by
  intro pins s σ H x y v u Q I rx ry h
  obtain ⟨φ, S, d, e, hs, rd, re, w⟩ := h
  have no : ∀ {r : OD}, r = none → wpO X.K cl φ H r Q → False := fun e ⟨_, _, e', _⟩ => by rw [e] at e'; cases e'
  cases rd with
  | int i =>
    cases re with
    | int j => exact op_add pins s σ H _ _ v u Q I rx ry ⟨i, j, rfl, rfl, w.val rfl hs (.int _)⟩
    | _ => exact (no rfl w).elim
  | str i =>
    cases re with
    | str j =>
      by_cases z : i.length + j.length ≤ sizeLine
      · exact op_add_str pins s σ H _ _ v u Q I rx ry ⟨i, j, rfl, rfl, z, w.val (if_pos z) hs (.str _)⟩
      · exact (no (if_neg z) w).elim
    | _ => exact (no rfl w).elim
  | tup h1 h2 =>
    cases re with
    | tup g1 g2 =>
      rename_i a1 xs ds a2 ys es
      by_cases z : ds.length + es.length ≤ sizeLine
      · refine op_catA pins s σ H _ _ v u Q I rx ry ⟨_, _, _, _, rfl, rfl, h1, g1, by rw [← h2.len, ← g2.len]; exact z, fun e => ?_, fun _ e => ?_, fun _ _ p np => w.newT (if_pos z) hs (h2.app g2) np⟩
        · subst e
          cases h2
          exact w.val (if_pos z) hs (.tup g1 g2)
        · subst e
          cases g2
          exact w.val (if_pos z) hs (.tup h1 (by rw [List.append_nil]; exact h2))
      · exact (no (if_neg z) w).elim
    | _ => exact (no rfl w).elim
  | ref e1 =>
    cases re with
    | ref e2 =>
      rename_i n a1 m a2
      cases q1 : lstO S n with
      | none => exact (no (by simp only [addD, q1]) w).elim
      | some xs =>
        cases q2 : lstO S m with
        | none => exact (no (by simp only [addD, q1, q2]) w).elim
        | some ys =>
          by_cases z : xs.length + ys.length ≤ sizeLine
          · obtain ⟨vs, h1, h2⟩ := hs.lst q1 e1
            obtain ⟨ws, g1, g2⟩ := hs.lst q2 e2
            exact op_cat pins s σ H _ _ v u Q I rx ry ⟨_, _, _, _, rfl, rfl, h1, g1, by rw [← h2.len, ← g2.len]; exact z, fun p np => w.newL (by simp only [addD, q1, q2, if_pos z]) hs (h2.app g2) np⟩
          · exact (no (by simp only [addD, q1, q2, if_neg z]) w).elim
    | _ => exact (no rfl w).elim
  | _ => exact (no rfl w).elim
instance (i j : Int) : Decidable (CMulW i j) := inferInstanceAs (Decidable (i.natAbs.log2 + j.natAbs.log2 < 1000000))
/-- the factors: one short, or both not too wide -/
def CMulA (i j : Int) : Prop := (-(2 ^ 64) < i ∧ i < 2 ^ 64) ∨ (-(2 ^ 64) < j ∧ j < 2 ^ 64) ∨ i.natAbs.log2 + j.natAbs.log2 < 1000000
instance (i j : Int) : Decidable (CMulA i j) := inferInstanceAs (Decidable (_ ∨ _ ∨ _))
instance (i j : Int) : Decidable (CDivW i j) := inferInstanceAs (Decidable (0 < j ∧ j.natAbs.log2 < 9000))
instance (i j : Int) : Decidable (CPow i j) := inferInstanceAs (Decidable (0 ≤ j ∧ j ≤ 1000000 ∧ i.natAbs < 2 ^ 64))
/-- two ints -/
def i2 (C : Int → Int → Prop) [∀ i j, Decidable (C i j)] (g : Int → Int → D) : D → D → Store → OD
  | .int i, .int j, S => if C i j then some (g i j, S) else none
  | _, _, _ => none
theorem wpO.no {r : OD} (h : wpO K cl φ H r Q) (e : r = none) {P : Prop} : P := by
  obtain ⟨_, _, e', _⟩ := h
  rw [e] at e'
  cases e'
theorem i2_ok {C : Int → Int → Prop} [∀ i j, Decidable (C i j)] {g : Int → Int → D} {gv : Int → Int → V} {f : Value → Value → Sem Value} (ho : OpR X f (rI C gv)) (hg : ∀ i j φ H, RD X.K φ H (g i j) (gv i j)) : OpR X f (rO2 X.K cl (i2 C g)) := by
  intro pins s σ H x y v u Q I rx ry h
  obtain ⟨φ, S, d, e, hs, rd, re, w⟩ := h
  cases rd with
  | int i =>
    cases re with
    | int j =>
      by_cases z : C i j
      · exact ho pins s σ H _ _ v u Q I rx ry ⟨i, j, rfl, rfl, z, w.val (if_pos z) hs (hg i j φ H)⟩
      · exact w.no (if_neg z)
    | _ => exact w.no rfl
  | _ => exact w.no rfl
theorem rI_of {f : Value → Value → Sem Value} {gv : Int → Int → V} (h : OpR X f (rI0 gv)) : OpR X f (rI (fun _ _ => True) gv) := fun pins s σ H x y v u Q I rx ry ⟨i, j, e1, e2, _, q⟩ => h pins s σ H x y v u Q I rx ry ⟨i, j, e1, e2, q⟩
abbrev subD := i2 (fun _ _ => True) fun i j => .int (i - j)
theorem op_subD : OpR X (binaryOp .Sub) (rO2 X.K cl subD) := i2_ok (rI_of op_sub) fun _ _ _ _ => .int _
abbrev fdivD := i2 CDivW fun i j => .int (i / j)
theorem op_fdivD : OpR X (binaryOp .FloorDiv) (rO2 X.K cl fdivD) := i2_ok op_fdivW fun _ _ _ _ => .int _
abbrev modD := i2 (fun _ j => 0 < j) fun i j => .int (i % j)
theorem op_modD : OpR X (binaryOp .Mod) (rO2 X.K cl modD) := i2_ok op_mod fun _ _ _ _ => .int _
abbrev powD := i2 CPow fun i j => .int (i ^ j.toNat)
theorem op_powD : OpR X (binaryOp .Pow) (rO2 X.K cl powD) := i2_ok op_pow fun _ _ _ _ => .int _
def mulD : D → D → Store → OD
  | .int i, .int j, S => if CMulA i j then some (.int (i * j), S) else none
  | .str x, .int k, S => if -(2 ^ 63) ≤ k ∧ k < 2 ^ 63 ∧ x.length * k.toNat ≤ 16777216 then some (.str (repStr x k), S) else none
  | .tup xs, .int k, S => if xs ≠ [] ∧ 1 ≤ k ∧ k ≤ 1000 ∧ xs.length ≤ 1000 then some (.tup (List.replicate k.toNat xs).flatten, S) else none
  | .ref n, .int k, S => match lstO S n with
    | some xs => if -(2 ^ 63) ≤ k ∧ k < 2 ^ 63 ∧ xs.length * k.toNat ≤ sizeLine then some (.ref S.length, S ++ [.lst (List.replicate k.toNat xs).flatten]) else none
    | none => none
  | _, _, _ => none
theorem op_mulD : OpR X (binaryOp .Mult) (rO2 X.K cl mulD) := by
  intro pins s σ H x y v u Q I rx ry h
  obtain ⟨φ, S, d, e, hs, rd, re, w⟩ := h
  cases rd with
  | int i =>
    cases re with
    | int j =>
      by_cases z : CMulA i j
      · rcases z with z | z | z
        · exact op_mul pins s σ H _ _ v u Q I rx ry ⟨i, j, rfl, rfl, .inl z, w.val (if_pos (.inl z)) hs (.int _)⟩
        · exact op_mul pins s σ H _ _ v u Q I rx ry ⟨i, j, rfl, rfl, .inr z, w.val (if_pos (.inr (.inl z))) hs (.int _)⟩
        · exact op_mulW pins s σ H _ _ v u Q I rx ry ⟨i, j, rfl, rfl, z, w.val (if_pos (.inr (.inr z))) hs (.int _)⟩
      · exact w.no (if_neg z)
    | _ => exact w.no rfl
  | str x =>
    cases re with
    | int k =>
      by_cases z : -(2 ^ 63) ≤ k ∧ k < 2 ^ 63 ∧ x.length * k.toNat ≤ 16777216
      · exact op_mul_str pins s σ H _ _ v u Q I rx ry ⟨x, k, rfl, rfl, z.1, z.2.1, z.2.2, w.val (if_pos z) hs (.str _)⟩
      · exact w.no (if_neg z)
    | _ => exact w.no rfl
  | tup h1 h2 =>
    cases re with
    | int k =>
      rename_i a xs ds
      by_cases z : ds ≠ [] ∧ 1 ≤ k ∧ k ≤ 1000 ∧ ds.length ≤ 1000
      · have hne : xs ≠ [] := fun e => by
          subst e
          cases h2
          exact z.1 rfl
        by_cases z1 : k = 1
        · subst z1
          exact op_repT1 pins s σ H _ _ v u Q I rx ry ⟨_, _, rfl, rfl, h1, hne, w.val ((if_pos z).trans (by simp)) hs (.tup h1 h2)⟩
        · exact op_repT pins s σ H _ _ v u Q I rx ry ⟨_, _, _, rfl, rfl, h1, hne, by omega, z.2.2.1, by rw [← h2.len]; exact z.2.2.2, fun p np => w.newT (if_pos z) hs (h2.reps _) np⟩
      · exact w.no (if_neg z)
    | _ => exact w.no rfl
  | ref e1 =>
    cases re with
    | int k =>
      rename_i n a
      cases q1 : lstO S n with
      | none => exact w.no (by simp only [mulD, q1])
      | some xs =>
        obtain ⟨vs, h1, h2⟩ := hs.lst q1 e1
        by_cases z : -(2 ^ 63) ≤ k ∧ k < 2 ^ 63 ∧ xs.length * k.toNat ≤ sizeLine
        · exact op_rep pins s σ H _ _ v u Q I rx ry ⟨_, _, _, rfl, rfl, h1, z.1, z.2.1, by rw [← h2.len]; exact z.2.2, fun p np => w.newL (by simp only [mulD, q1, if_pos z]) hs (h2.reps _) np⟩
        · exact w.no (by simp only [mulD, q1, if_neg z])
    | _ => exact w.no rfl
  | _ => exact w.no rfl
def negD : D → Store → OD
  | .int i, S => some (.int (-i), S)
  | _, _ => none
theorem un_negD : UnR X (unaryOp .USub) (rO1 X.K cl negD) := by
  intro pins s σ H x v Q I rx h
  obtain ⟨φ, S, d, hs, rd, w⟩ := h
  cases rd with
  | int i => exact un_neg pins s σ H _ v Q I rx ⟨i, rfl, w.val rfl hs (.int _)⟩
  | _ => exact w.no rfl
/-! ### comparisons -/
def sigma (f : Int → Int → Bool) (g : Str → Str → Bool) : D → D → Store → OD
  | .int i, .int j, S => some (.bl (f i j), S)
  | .str x, .str y, S => some (.bl (g x y), S)
  | _, _, _ => none
abbrev ltD := sigma (fun i j => decide (i < j)) fun x y => decide (x.cps.toList < y.cps.toList)
abbrev leD := i2 (fun _ _ => True) fun i j => .bl (decide (i ≤ j))
abbrev gtD := sigma (fun i j => decide (j < i)) fun x y => decide (y.cps.toList < x.cps.toList)
abbrev geD := i2 (fun _ _ => True) fun i j => .bl (decide (j ≤ i))
theorem op_ltD : OpR X (compareOp .Lt) (rO2 X.K cl ltD) := by
  intro pins s σ H x y v u Q I rx ry h
  obtain ⟨φ, S, d, e, hs, rd, re, w⟩ := h
  cases rd with
  | int i =>
    cases re with
    | int j => exact op_lt pins s σ H _ _ v u Q I rx ry ⟨i, j, rfl, rfl, w.val rfl hs (.bl _)⟩
    | _ => exact w.no rfl
  | str i =>
    cases re with
    | str j => exact op_lt_str pins s σ H _ _ v u Q I rx ry ⟨i, j, rfl, rfl, w.val rfl hs (.bl _)⟩
    | _ => exact w.no rfl
  | _ => exact w.no rfl
theorem op_gtD : OpR X (compareOp .Gt) (rO2 X.K cl gtD) := by
  intro pins s σ H x y v u Q I rx ry h
  obtain ⟨φ, S, d, e, hs, rd, re, w⟩ := h
  cases rd with
  | int i =>
    cases re with
    | int j => exact op_gt pins s σ H _ _ v u Q I rx ry ⟨i, j, rfl, rfl, w.val rfl hs (.bl _)⟩
    | _ => exact w.no rfl
  | str i =>
    cases re with
    | str j => exact op_gt_str pins s σ H _ _ v u Q I rx ry ⟨i, j, rfl, rfl, w.val rfl hs (.bl _)⟩
    | _ => exact w.no rfl
  | _ => exact w.no rfl
theorem op_leD : OpR X (compareOp .LtE) (rO2 X.K cl leD) := i2_ok (rI_of op_le) fun _ _ _ _ => .bl _
theorem op_geD : OpR X (compareOp .GtE) (rO2 X.K cl geD) := i2_ok (rI_of op_ge) fun _ _ _ _ => .bl _
end
end L3
set_option Elab.async false
set_option linter.all false
set_option maxRecDepth 100000
set_option maxHeartbeats 4000000
namespace L3
open PySem PySem.Spec PyProof.Rows L2
/-! ### data as PyData -/
mutual
def py : D → Option PyData
  | .non => some .none
  | .bl b => some (.bool b)
  | .int i => some (.int i)
  | .str x => some (.str x)
  | .tup xs => (pys xs).map .tuple
  | .lis xs => (pys xs).map .list
  | .ref _ => none
def pys : List D → Option (List PyData)
  | [] => some []
  | d :: ds => (py d).bind fun p => (pys ds).map fun ps => p :: ps
end
/-- .. with the lists of the store -/
def toP : Nat → Store → D → Option PyData
  | 0, _, _ => none
  | n + 1, S, d => match d with
    | .non => some .none
    | .bl b => some (.bool b)
    | .int i => some (.int i)
    | .str x => some (.str x)
    | .tup xs => (xs.mapM (toP n S)).map .tuple
    | .lis xs => (xs.mapM (toP n S)).map .list
    | .ref m => (lstO S m).bind fun xs => (xs.mapM (toP n S)).map .list
def pyS (S : Store) (d : D) : Option PyData := match py d with
  | some p => some p
  | none => toP 40 S d
section
variable {X : Cx} {K : PySem.W.Frag} {cl : Cl} {φ : List Addr} {H : Hp} {S : Store} {Q : VK}
mutual
theorem py_ok : ∀ {d : D} {v : V} {p : PyData}, RD K φ H d v → py d = some p → Dp K H v p
  | _, _, _, .non, e => by cases e; exact .non
  | _, _, _, .bl b, e => by cases e; exact .bl b
  | _, _, _, .int b, e => by cases e; exact .int b
  | _, _, _, .str b, e => by cases e; exact .str b
  | _, _, _, .tup (ds := ds) h1 h2, e => by
    have e' : (pys ds).map PyData.tuple = some _ := e
    cases q : pys ds with
    | none => rw [q] at e'; cases e'
    | some ps => rw [q] at e'; cases e'; exact .tup h1 (pys_ok h2 q)
  | _, _, _, .lisR (ds := ds) h1 _ h2, e => by
    have e' : (pys ds).map PyData.list = some _ := e
    cases q : pys ds with
    | none => rw [q] at e'; cases e'
    | some ps => rw [q] at e'; cases e'; exact .lst (.inl h1) (pys_ok h2 q)
  | _, _, _, .lisK (ds := ds) h1 h2, e => by
    have e' : (pys ds).map PyData.list = some _ := e
    cases q : pys ds with
    | none => rw [q] at e'; cases e'
    | some ps => rw [q] at e'; cases e'; exact .lst (h1 H) (pys_ok h2 q)
theorem pys_ok : ∀ {d : List D} {v : List V} {p : List PyData}, RDs K φ H d v → pys d = some p → DpAll K H v p
  | _, _, _, .nil, e => by cases e; exact .nil
  | _, _, _, .cons (d := d) (ds := ds) h1 h2, e => by
    have e' : ((py d).bind fun p => (pys ds).map fun ps => p :: ps) = some _ := e
    cases q : py d with
    | none => rw [q] at e'; cases e'
    | some p =>
      rw [q] at e'
      cases q2 : pys ds with
      | none => rw [q2] at e'; cases e'
      | some ps => rw [q2] at e'; cases e'; exact .cons (py_ok h1 q) (pys_ok h2 q2)
end
theorem mapM_ok {f : D → Option PyData} (hf : ∀ d v p, RD K φ H d v → f d = some p → Dp K H v p) : ∀ {ds : List D} {vs : List V} {ps : List PyData}, RDs K φ H ds vs → ds.mapM f = some ps → DpAll K H vs ps
  | [], _, ps, .nil, e => by
    have : ps = [] := by simpa using e.symm
    subst this
    exact .nil
  | d :: ds, _, ps, .cons h1 h2, e => by
    rw [List.mapM_cons] at e
    cases q : f d with
    | none => rw [q] at e; cases e
    | some p =>
      rw [q] at e
      cases q2 : ds.mapM f with
      | none => simp [q2] at e
      | some qs =>
        simp [q2] at e
        subst e
        exact .cons (hf _ _ _ h1 q) (mapM_ok hf h2 q2)
theorem toP_ok (s : RS K cl φ S H) : ∀ (n : Nat) (d : D) (v : V) (p : PyData), RD K φ H d v → toP n S d = some p → Dp K H v p
  | 0, _, _, _, _, e => by cases e
  | n + 1, d, v, p, r, e => by
    cases r with
    | non => cases e; exact .non
    | bl b => cases e; exact .bl b
    | int b => cases e; exact .int b
    | str b => cases e; exact .str b
    | tup h1 h2 =>
      rename_i a vs ds
      have e' : (ds.mapM (toP n S)).map PyData.tuple = some p := e
      cases q : ds.mapM (toP n S) with
      | none => rw [q] at e'; cases e'
      | some ps => rw [q] at e'; cases e'; exact .tup h1 (mapM_ok (toP_ok s n) h2 q)
    | lisR h1 h0 h2 =>
      rename_i a vs ds
      have e' : (ds.mapM (toP n S)).map PyData.list = some p := e
      cases q : ds.mapM (toP n S) with
      | none => rw [q] at e'; cases e'
      | some ps => rw [q] at e'; cases e'; exact .lst (.inl h1) (mapM_ok (toP_ok s n) h2 q)
    | lisK h1 h2 =>
      rename_i a vs ds
      have e' : (ds.mapM (toP n S)).map PyData.list = some p := e
      cases q : ds.mapM (toP n S) with
      | none => rw [q] at e'; cases e'
      | some ps => rw [q] at e'; cases e'; exact .lst (h1 H) (mapM_ok (toP_ok s n) h2 q)
    | ref h1 =>
      rename_i m a
      have e' : ((lstO S m).bind fun xs => (xs.mapM (toP n S)).map PyData.list) = some p := e
      cases q0 : lstO S m with
      | none => rw [q0] at e'; cases e'
      | some ds =>
        rw [q0] at e'
        have e2 : (ds.mapM (toP n S)).map PyData.list = some p := e'
        cases q : ds.mapM (toP n S) with
        | none => rw [q] at e2; cases e2
        | some ps =>
          rw [q] at e2
          cases e2
          obtain ⟨vs, g1, g2⟩ := s.lst q0 h1
          exact .lst (SqL.of g1) (mapM_ok (toP_ok s n) g2 q)
theorem pyS_ok (s : RS K cl φ S H) {d : D} {v : V} {p : PyData} (r : RD K φ H d v) (e : pyS S d = some p) : Dp K H v p := by
  unfold pyS at e
  cases q : py d with
  | none => rw [q] at e; exact toP_ok s 40 d v p r e
  | some p' => rw [q] at e; cases e; exact py_ok r q
/-! ### == -/
def flatEq : D → D → Option Bool
  | .non, .non => some true | .non, .int _ => some false | .int _, .non => some false | .non, .bl _ => some false | .bl _, .non => some false | .non, .str _ => some false | .str _, .non => some false
  | .int i, .int j => some (decide (i = j)) | .bl i, .bl j => some (decide (i = j)) | .str i, .str j => some (decide (i = j))
  | .int _, .str _ => some false | .str _, .int _ => some false | .bl _, .str _ => some false | .str _, .bl _ => some false
  | _, _ => none
def eqO (S : Store) (d e : D) : Option Bool := match flatEq d e with
  | some k => some k
  | none => match pyS S d, pyS S e with
    | some p, some q => if (SeqAt.shaped p && SeqAt.shaped q) = true then some (PyData.eqv p q) else none
    | _, _ => none
def eqD (d e : D) (S : Store) : OD := (eqO S d e).map fun k => (.bl k, S)
def neD (d e : D) (S : Store) : OD := (eqO S d e).map fun k => (.bl (!k), S)
theorem flatEq_ok {d e : D} {x y : V} {k : Bool} (rd : RD K φ H d x) (re : RD K φ H e y) (h : flatEq d e = some k) : scal x y = true ∧ decide (x = y) = k := by
  cases rd <;> cases re <;> first | (cases h; done) | (simp only [flatEq, Option.some.injEq] at h; subst h; exact ⟨rfl, by first | rfl | simp | decide⟩)
theorem eqO_ok {d e : D} {x y : V} {k : Bool} (s : RS K cl φ S H) (rd : RD K φ H d x) (re : RD K φ H e y) (h : eqO S d e = some k) :
    (scal x y = true ∧ decide (x = y) = k) ∨ ∃ p q, Dp K H x p ∧ Dp K H y q ∧ SeqAt.shaped p = true ∧ SeqAt.shaped q = true ∧ PyData.eqv p q = k := by
  unfold eqO at h
  cases q0 : flatEq d e with
  | some k' => rw [q0] at h; cases h; exact .inl (flatEq_ok rd re q0)
  | none =>
    rw [q0] at h
    cases q1 : pyS S d with
    | none => simp [q1] at h
    | some p =>
      cases q2 : pyS S e with
      | none => simp [q1, q2] at h
      | some q =>
        simp only [q1, q2] at h
        by_cases z : (SeqAt.shaped p && SeqAt.shaped q) = true
        · rw [if_pos z] at h
          cases h
          rw [Bool.and_eq_true] at z
          exact .inr ⟨p, q, pyS_ok s rd q1, pyS_ok s re q2, z.1, z.2, rfl⟩
        · rw [if_neg z] at h; cases h
theorem op_eqDD (hu : X.A.units + 64 < cLine) : OpR X (compareOp .Eq) (rO2 X.K cl eqD) := by
  intro pins s σ H x y v u Q I rx ry h
  obtain ⟨φ, S, d, e, hs, rd, re, w⟩ := h
  cases q : eqO S d e with
  | none => exact w.no (by unfold eqD; rw [q]; rfl)
  | some k =>
    have w' := w.val (by unfold eqD; rw [q]; rfl) hs (.bl k)
    rcases eqO_ok hs rd re q with ⟨h1, h2⟩ | ⟨p, q, h1, h2, h3, h4, h5⟩
    · exact op_eq pins s σ H _ _ v u Q I rx ry ⟨h1, by rw [h2]; exact w'⟩
    · exact op_eqD hu pins s σ H _ _ v u Q I rx ry ⟨p, q, h1, h2, h3, h4, by rw [h5]; exact w'⟩
theorem op_neDD (hu : X.A.units + 64 < cLine) : OpR X (compareOp .NotEq) (rO2 X.K cl neD) := by
  intro pins s σ H x y v u Q I rx ry h
  obtain ⟨φ, S, d, e, hs, rd, re, w⟩ := h
  cases q : eqO S d e with
  | none => exact w.no (by unfold neD; rw [q]; rfl)
  | some k =>
    have w' := w.val (by unfold neD; rw [q]; rfl) hs (.bl (!k))
    rcases eqO_ok hs rd re q with ⟨h1, h2⟩ | ⟨p, q, h1, h2, h3, h4, h5⟩
    · exact op_ne pins s σ H _ _ v u Q I rx ry ⟨h1, by rw [h2]; exact w'⟩
    · exact op_neD hu pins s σ H _ _ v u Q I rx ry ⟨p, q, h1, h2, h3, h4, by rw [h5]; exact w'⟩
/-! ### is -/
def isnon : D → Bool
  | .non => true
  | _ => false
theorem isnon_ok {d : D} {v : V} (r : RD K φ H d v) : decide (v = .non) = isnon d := by cases r <;> rfl
def isO : D → D → Option Bool
  | d, .non => some (isnon d)
  | .bl a, .bl b => some (decide (a = b))
  | _, _ => none
def isD (d e : D) (S : Store) : OD := (isO d e).map fun k => (.bl k, S)
def isntD (d e : D) (S : Store) : OD := (isO d e).map fun k => (.bl (!k), S)
theorem op_isD : OpR X (compareOp .Is) (rO2 X.K cl isD) := by
  intro pins s σ H x y v u Q I rx ry h
  obtain ⟨φ, S, d, e, hs, rd, re, w⟩ := h
  cases re with
  | non =>
    have e1 : isO d .non = some (isnon d) := by cases d <;> rfl
    exact op_isN pins s σ H _ _ v u Q I rx ry ⟨rfl, by rw [isnon_ok rd]; exact w.val (by unfold isD; rw [e1]; rfl) hs (.bl _)⟩
  | bl b =>
    cases rd with
    | bl a => exact op_is_bl pins s σ H _ _ v u Q I rx ry ⟨a, b, rfl, rfl, w.val rfl hs (.bl _)⟩
    | _ => exact w.no rfl
  | _ => cases rd <;> exact w.no rfl
theorem op_isntD : OpR X (compareOp .IsNot) (rO2 X.K cl isntD) := by
  intro pins s σ H x y v u Q I rx ry h
  obtain ⟨φ, S, d, e, hs, rd, re, w⟩ := h
  cases re with
  | non =>
    have e1 : isO d .non = some (isnon d) := by cases d <;> rfl
    exact op_notN pins s σ H _ _ v u Q I rx ry ⟨rfl, by rw [isnon_ok rd]; exact w.val (by unfold isntD; rw [e1]; rfl) hs (.bl _)⟩
  | bl b =>
    cases rd with
    | bl a => exact op_isnot_bl pins s σ H _ _ v u Q I rx ry ⟨a, b, rfl, rfl, w.val rfl hs (.bl _)⟩
    | _ => exact w.no rfl
  | _ => cases rd <;> exact w.no rfl
/-! ### in -/
def flatD : D → Bool
  | .non => true
  | .bl _ => true
  | .int _ => true
  | .str _ => true
  | _ => false
def eqF : D → D → Bool
  | .non, .non => true
  | .bl a, .bl b => a == b
  | .bl a, .int b => (if a then 1 else 0) == b
  | .int a, .bl b => a == (if b then 1 else 0)
  | .int a, .int b => a == b
  | .str a, .str b => a == b
  | _, _ => false
theorem flatD_ok {d : D} {v : V} (r : RD K φ H d v) : flatV v = flatD d := by cases r <;> rfl
theorem eqF_ok {d e : D} {v u : V} (r : RD K φ H d v) (q : RD K φ H e u) : eqV v u = eqF d e := by cases r <;> cases q <;> rfl
theorem flats_ok : ∀ {ds : List D} {vs : List V}, RDs K φ H ds vs → vs.all flatV = ds.all flatD
  | _, _, .nil => rfl
  | _, _, .cons h t => by rw [List.all_cons, List.all_cons, flatD_ok h, flats_ok t]
theorem ins_ok {e : D} {u : V} (q : RD K φ H e u) : ∀ {ds : List D} {vs : List V}, RDs K φ H ds vs → inV u vs = ds.any fun y => eqF y e
  | _, _, .nil => rfl
  | _, _, .cons h t => by
    have := ins_ok q t
    unfold inV at this ⊢
    rw [List.any_cons, List.any_cons, eqF_ok h q, this]
def inO (S : Store) (d : D) : D → Option Bool
  | .str z => match d with
    | .str x => if x.cps.size = 1 then some (decide (x.cps.getD 0 0 ∈ z.cps.toList)) else none
    | _ => none
  | e => match seqO S e with
    | some ys => if flatD d = true ∧ ys.all flatD = true then some (ys.any fun y => eqF y d) else
      (match pyS S d, pyS S e with
        | some p, some (.list qs) => if (SeqAt.shaped p && SeqAt.shaped (.list qs)) = true then some (qs.any fun z => PyData.eqv z p) else none
        | _, _ => none)
    | none => none
def inD (d e : D) (S : Store) : OD := (inO S d e).map fun k => (.bl k, S)
def ninD (d e : D) (S : Store) : OD := (inO S d e).map fun k => (.bl (!k), S)
theorem one_sign {x : Str} (h : x.cps.size = 1) : x = ⟨#[x.cps.getD 0 0]⟩ := by
  obtain ⟨⟨l⟩⟩ := x
  match l, h with
  | [c], _ => rfl
theorem inO_ok {d e : D} {x y : V} {k : Bool} (s : RS K cl φ S H) (rd : RD K φ H d x) (re : RD K φ H e y) (h : inO S d e = some k) :
    (∃ (c : Nat) (z : Str), x = .str ⟨#[c]⟩ ∧ y = .str z ∧ decide (c ∈ z.cps.toList) = k) ∨ (∃ p xs, y = .ref p ∧ (SqL K H p xs ∨ SqT K H p xs) ∧ flatV x = true ∧ xs.all flatV = true ∧ inV x xs = k) ∨
    ∃ p ps, Dp K H x p ∧ Dp K H y (.list ps) ∧ SeqAt.shaped p = true ∧ SeqAt.shaped (.list ps) = true ∧ (ps.any fun z => PyData.eqv z p) = k := by
  have key : ∀ e, RD K φ H e y → (match seqO S e with
    | some ys => if flatD d = true ∧ ys.all flatD = true then some (ys.any fun y => eqF y d) else
      (match pyS S d, pyS S e with
        | some p, some (.list qs) => if (SeqAt.shaped p && SeqAt.shaped (.list qs)) = true then some (qs.any fun z => PyData.eqv z p) else none
        | _, _ => none)
    | none => none) = some k → (∃ p xs, y = .ref p ∧ (SqL K H p xs ∨ SqT K H p xs) ∧ flatV x = true ∧ xs.all flatV = true ∧ inV x xs = k) ∨
    ∃ p ps, Dp K H x p ∧ Dp K H y (.list ps) ∧ SeqAt.shaped p = true ∧ SeqAt.shaped (.list ps) = true ∧ (ps.any fun z => PyData.eqv z p) = k := by
    intro e re h
    cases q : seqO S e with
    | none => rw [q] at h; cases h
    | some ys =>
      rw [q] at h
      dsimp only at h
      obtain ⟨a, vs, rfl, h1, h2⟩ := s.seq re q
      by_cases z : flatD d = true ∧ ys.all flatD = true
      · rw [if_pos z] at h
        cases h
        exact .inl ⟨a, vs, rfl, h2, by rw [flatD_ok rd]; exact z.1, by rw [flats_ok h1]; exact z.2, ins_ok rd h1⟩
      · rw [if_neg z] at h
        cases q1 : pyS S d with
        | none => rw [q1] at h; cases h
        | some p =>
          cases q2 : pyS S e with
          | none => rw [q1, q2] at h; cases h
          | some r =>
            rw [q1, q2] at h
            cases r with
            | list qs =>
              dsimp only at h
              by_cases z : (SeqAt.shaped p && SeqAt.shaped (.list qs)) = true
              · rw [if_pos z] at h
                cases h
                rw [Bool.and_eq_true] at z
                exact .inr ⟨p, qs, pyS_ok s rd q1, pyS_ok s re q2, z.1, z.2, rfl⟩
              · rw [if_neg z] at h; cases h
            | _ => cases h
  cases re with
  | str z =>
    cases rd with
    | str x =>
      have h' : (if x.cps.size = 1 then some (decide (x.cps.getD 0 0 ∈ z.cps.toList)) else none) = some k := h
      by_cases c : x.cps.size = 1
      · rw [if_pos c] at h'
        cases h'
        exact .inl ⟨_, z, congrArg V.str (one_sign c), rfl, rfl⟩
      · rw [if_neg c] at h'; cases h'
    | _ => cases h
  | non => exact .inr (key _ .non h)
  | bl b => exact .inr (key _ (.bl b) h)
  | int b => exact .inr (key _ (.int b) h)
  | tup h1 h2 => exact .inr (key _ (.tup h1 h2) h)
  | lisR h1 h0 h2 => exact .inr (key _ (.lisR h1 h0 h2) h)
  | lisK h1 h2 => exact .inr (key _ (.lisK h1 h2) h)
  | ref h1 => exact .inr (key _ (.ref h1) h)
theorem op_inDD (hu : X.A.units + 65 < cLine) : OpR X (compareOp .In) (rO2 X.K cl inD) := by
  intro pins s σ H x y v u Q I rx ry h
  obtain ⟨φ, S, d, e, hs, rd, re, w⟩ := h
  cases q : inO S d e with
  | none => exact w.no (by unfold inD; rw [q]; rfl)
  | some k =>
    have w' := w.val (by unfold inD; rw [q]; rfl) hs (.bl k)
    rcases inO_ok hs rd re q with ⟨c, z, h1, h2, h3⟩ | ⟨p, xs, h1, h2, h3, h4, h5⟩ | ⟨p, ps, h1, h2, h3, h4, h5⟩
    · exact op_in_sign pins s σ H _ _ v u Q I rx ry ⟨c, z, h1, h2, by rw [h3]; exact w'⟩
    · exact op_in_seq pins s σ H _ _ v u Q I rx ry ⟨p, xs, h1, h2, h3, h4, by rw [h5]; exact w'⟩
    · exact op_inD hu pins s σ H _ _ v u Q I rx ry ⟨p, ps, h1, h2, h3, h4, by rw [h5]; exact w'⟩
theorem op_ninDD (hu : X.A.units + 65 < cLine) : OpR X (compareOp .NotIn) (rO2 X.K cl ninD) := by
  intro pins s σ H x y v u Q I rx ry h
  obtain ⟨φ, S, d, e, hs, rd, re, w⟩ := h
  cases q : inO S d e with
  | none => exact w.no (by unfold ninD; rw [q]; rfl)
  | some k =>
    have w' := w.val (by unfold ninD; rw [q]; rfl) hs (.bl (!k))
    rcases inO_ok hs rd re q with ⟨c, z, h1, h2, h3⟩ | ⟨p, xs, h1, h2, h3, h4, h5⟩ | ⟨p, ps, h1, h2, h3, h4, h5⟩
    · exact op_notIn_sign pins s σ H _ _ v u Q I rx ry ⟨c, z, h1, h2, by rw [h3]; exact w'⟩
    · exact op_notIn_seq pins s σ H _ _ v u Q I rx ry ⟨p, xs, h1, h2, h3, h4, by rw [h5]; exact w'⟩
    · exact op_notInD hu pins s σ H _ _ v u Q I rx ry ⟨p, ps, h1, h2, h3, h4, by rw [h5]; exact w'⟩
end
end L3
set_option Elab.async false
set_option linter.all false
set_option maxRecDepth 100000
set_option maxHeartbeats 4000000
namespace L3
open PySem PySem.Spec PyProof.Rows L2
section
variable {X : Cx} {K : PySem.W.Frag} {cl : Cl} {φ : List Addr} {H : Hp} {S : Store} {Q : VK}
/-! ### x[i], x[lo:hi] -/
def ixD : D → D → Store → OD
  | .str z, .int i, S => if z.length ≤ sizeLine then (atI z.cps.toList i).map fun c => (.str ⟨#[c]⟩, S) else none
  | d, .int i, S => (seqO S d).bind fun xs => (atI xs i).map fun y => (y, S)
  | _, _, _ => none
theorem atI_ok {ds : List D} {vs : List V} (r : RDs K φ H ds vs) {i : Int} {d : D} (h : atI ds i = some d) : ∃ v, atI vs i = some v ∧ RD K φ H d v := by
  unfold atI at h ⊢
  rw [← r.len]
  cases q : ixN ds.length i with
  | none => rw [q] at h; cases h
  | some j =>
    rw [q] at h
    exact r.get h
theorem ix_D : IxR X (rO2 X.K cl ixD) := by
  intro value slice pins s σ H x y v u Q I rx ry h hs
  obtain ⟨φ, S, d, e, s0, rd, re, w⟩ := h
  have sq : ∀ i, y = .int i → (∀ xs, seqO S d = some xs → ∀ z, atI xs i = some z → wpO X.K cl φ H (some (z, S)) Q → wpAny (model X.prog X.w) X.A (subscriptTail value slice v u) (EP X pins σ Q) X.xe s) := by
    rintro i rfl xs q z hz w
    obtain ⟨a, vs, rfl, h1, h2⟩ := s0.seq rd q
    obtain ⟨v', e1, e2⟩ := atI_ok h1 hz
    rcases h2 with h2 | h2
    · exact ix_list value slice pins s σ H _ _ v u Q I rx ry ⟨a, vs, i, v', rfl, rfl, h2, e1, w.val rfl s0 e2⟩ hs
    · exact ix_tup value slice pins s σ H _ _ v u Q I rx ry ⟨a, vs, i, v', rfl, rfl, h2, e1, w.val rfl s0 e2⟩ hs
  have seqs : ∀ i, y = .int i → wpO X.K cl φ H ((seqO S d).bind fun xs => (atI xs i).map fun y => (y, S)) Q → wpAny (model X.prog X.w) X.A (subscriptTail value slice v u) (EP X pins σ Q) X.xe s := by
    intro i ey w
    cases q : seqO S d with
    | none => exact w.no (by rw [q]; rfl)
    | some xs =>
      cases q2 : atI xs i with
      | none => exact w.no (by rw [q]; simp [q2])
      | some z =>
        rw [q] at w
        simp only [Option.bind_some, q2, Option.map_some] at w
        exact sq i ey xs q z q2 w
  cases re with
  | int i =>
    cases rd with
    | str z =>
      by_cases c : z.length ≤ sizeLine
      · cases q : atI z.cps.toList i with
        | none => exact w.no (by simp only [ixD, if_pos c, q]; rfl)
        | some k => exact ix_str value slice pins s σ H _ _ v u Q I rx ry ⟨z, i, k, rfl, rfl, c, q, w.val (by simp only [ixD, if_pos c, q]; rfl) s0 (.str _)⟩ hs
      · exact w.no (by simp only [ixD, if_neg c])
    | _ => exact seqs i rfl w
  | _ => exact w.no (by cases rd <;> rfl)
def cutD (xs : List D) (lo hi : Option Int) : List D := (xs.drop (HT.sIx xs.length 0 lo)).take (HT.sIx xs.length xs.length hi - HT.sIx xs.length 0 lo)
theorem cut_ok {ds : List D} {vs : List V} (r : RDs K φ H ds vs) (lo hi : Option Int) : RDs K φ H (cutD ds lo hi) (cutV vs lo hi) := by
  unfold cutD cutV
  rw [r.len]
  exact (r.drop _).take _
def slD (d : D) (lo hi : Option Int) (S : Store) : OD := match d with
  | .str z => if z.length ≤ sizeLine then some (.str (cutS z lo hi), S) else none
  | .tup xs => some (.tup (cutD xs lo hi), S)
  | .lis xs => some (.ref S.length, S ++ [.lst (cutD xs lo hi)])
  | .ref n => (lstO S n).map fun xs => (.ref S.length, S ++ [.lst (cutD xs lo hi)])
  | _ => none
def rSO (K : PySem.W.Frag) (cl : Cl) : V → Option Int → Option Int → Hp → VK → Prop := fun x lo hi H Q => ∃ φ S d, RS K cl φ S H ∧ RD K φ H d x ∧ wpO K cl φ H (slD d lo hi S) Q
theorem sl_D : SlR X (rSO X.K cl) := by
  intro pins s σ H x v vl vu lo hi sl Q I rx hs pl pu h
  obtain ⟨φ, S, d, s0, rd, w⟩ := h
  cases rd with
  | str z =>
    by_cases c : z.length ≤ sizeLine
    · exact sl_str pins s σ H _ v vl vu lo hi sl Q I rx hs pl pu ⟨z, rfl, c, w.val (if_pos c) s0 (.str _)⟩
    · exact w.no (if_neg c)
  | tup h1 h2 =>
    rename_i a vs ds
    refine sl_tupA pins s σ H _ v vl vu lo hi sl Q I rx hs pl pu ⟨a, vs, rfl, h1, fun ⟨e1, e2⟩ => ?_, fun _ p np => w.newT rfl s0 (cut_ok h2 lo hi) np⟩
    refine w.val rfl s0 ?_
    have : cutD ds lo hi = ds := by
      unfold cutD
      rw [h2.len, e1, e2, List.drop_zero, Nat.sub_zero, ← h2.len, List.take_length]
    rw [this]
    exact .tup h1 h2
  | lisR h1 h0 h2 => exact sl_list pins s σ H _ v vl vu lo hi sl Q I rx hs pl pu ⟨_, _, rfl, .inl h1, fun p np => w.newL rfl s0 (cut_ok h2 lo hi) np⟩
  | lisK h1 h2 => exact sl_list pins s σ H _ v vl vu lo hi sl Q I rx hs pl pu ⟨_, _, rfl, h1 H, fun p np => w.newL rfl s0 (cut_ok h2 lo hi) np⟩
  | ref e =>
    rename_i n a
    cases q : lstO S n with
    | none => exact w.no (by simp only [slD, q]; rfl)
    | some xs =>
      obtain ⟨vs, g1, g2⟩ := s0.lst q e
      exact sl_list pins s σ H _ v vl vu lo hi sl Q I rx hs pl pu ⟨_, _, rfl, SqL.of g1, fun p np => w.newL (by simp only [slD, q]; rfl) s0 (cut_ok g2 lo hi) np⟩
  | _ => exact w.no rfl
abbrev MO := DE → Store → R (Option Int)
abbrev RI : Rl (Option Int) (Option Int) := fun _ _ a b => a = b
abbrev FO (K : PySem.W.Frag) (cl : Cl) (E : L2.St → XK) (m : MO) : TO := F K cl RI E m
def noneO : MO := fun _ S => .ok none S
def intO : D → Option Int
  | .int i => some i
  | _ => none
theorem RD.intO {d : D} {v : V} {k : Int} (r : RD K φ H d v) (h : intO d = some k) : v = .int k := by
  cases r <;> first | (cases h; done) | (injection h with h; subst h; rfl)
def someO (m : ME) : MO := fun ρ S => (m ρ S).bind fun d S1 => match intO d with
  | some i => .ok (some i) S1
  | none => .no
variable {E : L2.St → XK} {e a b c o : Expr} {m ma mb : ME} {ms : MA} {pos p2 : Pos} {lo hi : Option Expr} {ml mh : MO}
theorem PO.imp {X : Cx} {e : Option Expr} {t t' : TO} (h : PO X e t) (i : ∀ σ H Q, t' σ H Q → t σ H Q) : PO X e t' := ⟨fun pins s σ H Q I q => h.run pins s σ H Q I (i σ H Q q)⟩
theorem fo_none : PO X none (FO K cl E noneO) := PO.imp po_none fun σ H Q ⟨φ, ρ, S, s, _, h⟩ => wp.here (rl := RI) s rfl h
theorem fo_some (h : PE X e (FE K cl E m)) : PO X (some e) (FO K cl E (someO m)) := PO.imp (po_some h) fun σ H Q ⟨φ, ρ, S, s, e, h⟩ => F.step s e h fun d S1 φ1 v H1 f s1 e1 r h1 => by
  cases q : intO d with
  | none => rw [q] at h1; exact h1.elim
  | some i => rw [q] at h1; exact ⟨i, r.intO q, wp.here (rl := RI) s1 rfl h1⟩
def slE (m : ME) (ml mh : MO) : ME := fun ρ S => (m ρ S).bind fun d S1 => (ml ρ S1).bind fun l S2 => (mh ρ S2).bind fun h S3 => R.ofO (slD d l h S3)
theorem fe_slice (he : PE X e (FE X.K cl E m)) (hl : PO X lo (FO X.K cl E ml)) (hu : PO X hi (FO X.K cl E mh)) : PE X (.Subscript e (.Slice lo hi none p2) pos) (FE X.K cl E (slE m ml mh)) :=
  PE.imp (pe_slice sl_D he hl hu) fun σ H Q ⟨φ, ρ, S, s, e, h⟩ => F.step s e h fun d S1 φ1 v H1 f1 s1 e1 r1 h1 => F.step s1 e1 h1 fun l S2 φ2 l' H2 f2 s2 e2 r2 h2 => F.step s2 e2 h2 fun u S3 φ3 u' H3 f3 s3 e3 r3 h3 => by
    cases r2
    cases r3
    exact ⟨φ3, S3, d, s3, (r1.fu f2).fu f3, wp.ofO h3⟩
/-! ### displays -/
def tupE (ms : MA) : ME := fun ρ S => (ms ρ S).bind fun ds S1 => if ds.length ≤ sizeLine then .ok (.tup ds) S1 else .no
def lstE (ms : MA) : ME := fun ρ S => (ms ρ S).bind fun ds S1 => if ds.length ≤ sizeLine then .ok (.ref S1.length) (S1 ++ [.lst ds]) else .no
theorem tup_im : ∀ σ H Q, FE K cl E (tupE ms) σ H Q → tTup (FA K cl E ms) σ H Q := fun σ H Q ⟨φ, ρ, S, s, e, h⟩ => F.step s e h fun ds S1 φ1 vs H1 f1 s1 e1 r1 h1 => by
  by_cases z : ds.length ≤ sizeLine
  · rw [if_pos z] at h1
    exact ⟨by rw [← RDs.len r1]; exact z, fun p np => wpO.newT (K := K) (cl := cl) (φ := φ1) (r := some (.tup ds, S1)) ⟨_, _, rfl, fun φ' v H' f s r => h1 φ' v H' f s r⟩ rfl s1 r1 np⟩
  · rw [if_neg z] at h1; exact h1.elim
theorem lst_im : ∀ σ H Q, FE K cl E (lstE ms) σ H Q → tLst (FA K cl E ms) σ H Q := fun σ H Q ⟨φ, ρ, S, s, e, h⟩ => F.step s e h fun ds S1 φ1 vs H1 f1 s1 e1 r1 h1 => by
  by_cases z : ds.length ≤ sizeLine
  · rw [if_pos z] at h1
    exact ⟨by rw [← RDs.len r1]; exact z, fun p np => wpO.newL (K := K) (cl := cl) (φ := φ1) (r := some (.ref S1.length, S1 ++ [.lst ds])) ⟨_, _, rfl, fun φ' v H' f s r => h1 φ' v H' f s r⟩ rfl s1 r1 np⟩
  · rw [if_neg z] at h1; exact h1.elim
def dicE0 : ME := fun _ S => .ok (.ref S.length) (S ++ [.dic []])
theorem dic0_im : ∀ σ H Q, FE K cl E dicE0 σ H Q → tDNewK σ H Q := fun σ H Q ⟨φ, ρ, S, s, e, h⟩ p np => h _ _ _ (Fu.new np) (s.new np (.dic upd_same .nil)) s.new_ref
/-! ### isinstance -/
def kindD (S : Store) : D → Option String
  | .non => some "NoneType"
  | .bl _ => some "bool"
  | .int _ => some "int"
  | .str _ => some "str"
  | .tup _ => some "tuple"
  | .lis _ => some "list"
  | .ref n => match S[n]? with
    | some (.lst _) => some "list"
    | some (.dic _) => some "dict"
    | _ => none
def isT (a T : String) : Bool := a == T || (a == "bool" && T == "int")
theorem isT_ok {a T : String} (ha : a ∈ ["NoneType", "bool", "int", "str", "tuple", "list", "dict"]) (hT : T ∈ ["int", "bool", "str", "tuple", "list"]) : kitB a T = some (isT a T) := by
  have h : ∀ a ∈ ["NoneType", "bool", "int", "str", "tuple", "list", "dict"], ∀ T ∈ ["int", "bool", "str", "tuple", "list"], kitB a T = some (isT a T) := by decide +kernel
  exact h a ha T hT
theorem kindD_ok (s : RS K cl φ S H) {d : D} {v : V} {k : String} (r : RD K φ H d v) (h : kindD S d = some k) : k ∈ ["NoneType", "bool", "int", "str", "tuple", "list", "dict"] ∧ TyX K H v (.type k) := by
  cases r with
  | non => cases h; exact ⟨by decide, .base .non⟩
  | bl b => cases h; exact ⟨by decide, .base (.bl b)⟩
  | int b => cases h; exact ⟨by decide, .base (.int b)⟩
  | str b => cases h; exact ⟨by decide, .base (.str b)⟩
  | tup h1 h2 => cases h; exact ⟨by decide, ty_tup h1⟩
  | lisR h1 h0 h2 => cases h; exact ⟨by decide, ty_lst (.inl h1)⟩
  | lisK h1 h2 => cases h; exact ⟨by decide, ty_lst (h1 H)⟩
  | ref e =>
    rename_i n a
    have h' : (match S[n]? with
      | some (.lst _) => some "list"
      | some (.dic _) => some "dict"
      | _ => none) = some k := h
    obtain ⟨o, e1, e2⟩ := s.all e
    rw [e1] at h'
    cases e2 with
    | lst g1 g2 => cases h'; exact ⟨by decide, ty_lst (SqL.of g1)⟩
    | dic g1 g2 => cases h'; exact ⟨by decide, .base (.dK g1)⟩
    | ins g1 g2 => cases h'
    | tab g1 g2 => cases h'
def isiE (T : String) (m : ME) : ME := fun ρ S => (m ρ S).bind fun d S1 => match kindD S1 d with
  | some k => .ok (.bl (isT k T)) S1
  | none => .no
theorem isi_im {T : String} (hT : T ∈ ["int", "bool", "str", "tuple", "list"]) : ∀ σ H Q, FE K cl E (isiE T m) σ H Q → tCB (rIsi K) (tCons (FE K cl E m) (tCons (tC (.ty T)) tNil)) σ H Q := fun σ H Q ⟨φ, ρ, S, s, e, h⟩ =>
  F.step s e h fun d S1 φ1 v H1 f1 s1 e1 r1 h1 => by
    cases q : kindD S1 d with
    | none => rw [q] at h1; exact h1.elim
    | some k =>
      rw [q] at h1
      obtain ⟨q1, q2⟩ := kindD_ok s1 r1 q
      exact ⟨_, _, _, _, _, rfl, .ty _, q2, kit_ty (isT_ok q1 hT), wp.here (rl := RD K) s1 (.bl _) h1⟩
/-! ### built-in functions -/
def lenF : List D → Store → OD
  | [.str z], S => if z.length ≤ sizeLine then some (.int z.length, S) else none
  | [.ref n], S => match S[n]? with
    | some (.lst xs) => some (.int xs.length, S)
    | some (.dic xs) => some (.int xs.length, S)
    | _ => none
  | [d], S => (seqO S d).map fun xs => (.int xs.length, S)
  | _, _ => none
theorem Paired.len {α β : Type} {F : α → β → Prop} : ∀ {xs : List α} {ys : List β}, Paired F xs ys → xs.length = ys.length
  | _, _, .nil => rfl
  | _, _, .cons _ t => congrArg Nat.succ (Paired.len t)
theorem call_lenF : CallR X (.builtin "len") (rOs X.K cl lenF) := by
  intro pins s σ H xs us Q I r h
  obtain ⟨φ, S, ds, s0, rd, w⟩ := h
  cases rd with
  | nil => exact w.no rfl
  | cons h1 h2 =>
    cases h2 with
    | cons _ _ => exact w.no (by cases h1 <;> rfl)
    | nil =>
      cases h1 with
      | str z =>
        by_cases c : z.length ≤ sizeLine
        · exact call_len_str pins s σ H _ us Q I r ⟨z, rfl, c, w.val (if_pos c) s0 (.int _)⟩
        · exact w.no (if_neg c)
      | tup g1 g2 => exact call_len_seq pins s σ H _ us Q I r ⟨_, _, rfl, .inr g1, by rw [← g2.len]; exact w.val rfl s0 (.int _)⟩
      | lisR g1 g0 g2 => exact call_len_seq pins s σ H _ us Q I r ⟨_, _, rfl, .inl (.inl g1), by rw [← g2.len]; exact w.val rfl s0 (.int _)⟩
      | lisK g1 g2 => exact call_len_seq pins s σ H _ us Q I r ⟨_, _, rfl, .inl (g1 H), by rw [← g2.len]; exact w.val rfl s0 (.int _)⟩
      | ref e =>
        rename_i n a
        obtain ⟨o, e1, e2⟩ := s0.all e
        cases e2 with
        | lst g1 g2 => exact call_len_seq pins s σ H _ us Q I r ⟨_, _, rfl, .inl (SqL.of g1), by rw [← g2.len]; exact w.val (by simp only [lenF, e1]) s0 (.int _)⟩
        | dic g1 g2 => exact call_lenD pins s σ H _ us Q I r ⟨_, _, rfl, g1, by rw [← Paired.len g2]; exact w.val (by simp only [lenF, e1]) s0 (.int _)⟩
        | ins g1 g2 => exact w.no (by simp only [lenF, e1])
        | tab g1 g2 => exact w.no (by simp only [lenF, e1])
      | _ => exact w.no rfl
def maxF : List D → Store → OD
  | [.int i, .int j], S => some (.int (if j > i then j else i), S)
  | _, _ => none
def minF : List D → Store → OD
  | [.int i, .int j], S => some (.int (if j < i then j else i), S)
  | _, _ => none
/-- one way to open a list of arguments -/
theorem RDs.two {x y : D} {vs : List V} (h : RDs K φ H [x, y] vs) : ∃ u v, vs = [u, v] ∧ RD K φ H x u ∧ RD K φ H y v := by
  cases h with
  | cons h1 h2 => cases h2 with
    | cons h2 h3 => cases h3; exact ⟨_, _, rfl, h1, h2⟩
theorem RDs.one {x : D} {vs : List V} (h : RDs K φ H [x] vs) : ∃ u, vs = [u] ∧ RD K φ H x u := by
  cases h with
  | cons h1 h2 => cases h2; exact ⟨_, rfl, h1⟩
theorem maxF_some {ds : List D} {r : D × Store} (h : maxF ds S = some r) : ∃ i j, ds = [.int i, .int j] ∧ r = (.int (if j > i then j else i), S) := by
  unfold maxF at h
  split at h
  · cases h; exact ⟨_, _, rfl, rfl⟩
  · cases h
theorem minF_some {ds : List D} {r : D × Store} (h : minF ds S = some r) : ∃ i j, ds = [.int i, .int j] ∧ r = (.int (if j < i then j else i), S) := by
  unfold minF at h
  split at h
  · cases h; exact ⟨_, _, rfl, rfl⟩
  · cases h
theorem call_maxF (hc : X.calm = true) : CallR X (.builtin "max") (rOs X.K cl maxF) := by
  intro pins s σ H xs us Q I r h
  obtain ⟨φ, S, ds, s0, rd, w⟩ := h
  obtain ⟨d', S', e', q⟩ := id w
  obtain ⟨i, j, rfl, er⟩ := maxF_some e'
  obtain ⟨u1, u2, rfl, r1, r2⟩ := rd.two
  cases r1
  cases r2
  exact call_max2 hc pins s σ H _ us Q I r ⟨i, j, rfl, w.val rfl s0 (.int _)⟩
theorem call_minF (hc : X.calm = true) : CallR X (.builtin "min") (rOs X.K cl minF) := by
  intro pins s σ H xs us Q I r h
  obtain ⟨φ, S, ds, s0, rd, w⟩ := h
  obtain ⟨d', S', e', q⟩ := id w
  obtain ⟨i, j, rfl, er⟩ := minF_some e'
  obtain ⟨u1, u2, rfl, r1, r2⟩ := rd.two
  cases r1
  cases r2
  exact call_min2 hc pins s σ H _ us Q I r ⟨i, j, rfl, w.val rfl s0 (.int _)⟩
def intF : List D → Store → OD
  | [.int i], S => some (.int i, S)
  | [.bl k], S => some (.int (if k then 1 else 0), S)
  | [.str x], S => if x.length ≤ 640 then (PySem.intText? x).map fun n => (.int n, S) else none
  | _, _ => none
theorem call_intF : CallR X (.type "int") (rOs X.K cl intF) := by
  intro pins s σ H xs us Q I r h
  obtain ⟨φ, S, ds, s0, rd, w⟩ := h
  cases rd with
  | nil => exact w.no rfl
  | cons h1 h2 =>
    cases h2 with
    | cons _ _ => exact w.no (by cases h1 <;> rfl)
    | nil =>
      cases h1 with
      | int i => exact call_int1 pins s σ H _ us Q I r (.inl ⟨i, rfl, w.val rfl s0 (.int _)⟩)
      | bl i => exact call_int1 pins s σ H _ us Q I r (.inr ⟨i, rfl, w.val rfl s0 (.int _)⟩)
      | str x =>
        by_cases c : x.length ≤ 640
        · cases q : PySem.intText? x with
          | none => exact w.no (by simp only [intF, if_pos c, q]; rfl)
          | some n => exact call_int_str pins s σ H _ us Q I r ⟨x, n, rfl, q, c, w.val (by simp only [intF, if_pos c, q]; rfl) s0 (.int _)⟩
        · exact w.no (by simp only [intF, if_neg c])
      | _ => exact w.no rfl
def strF : List D → Store → OD
  | [.int i], S => if i.natAbs.log2 < 1920 then some (.str (toString i), S) else none
  | _, _ => none
theorem call_strF : CallR X (.type "str") (rOs X.K cl strF) := by
  intro pins s σ H xs us Q I r h
  obtain ⟨φ, S, ds, s0, rd, w⟩ := h
  cases rd with
  | nil => exact w.no rfl
  | cons h1 h2 =>
    cases h2 with
    | cons _ _ => exact w.no (by cases h1 <;> rfl)
    | nil =>
      cases h1 with
      | int i =>
        by_cases c : i.natAbs.log2 < 1920
        · exact call_str_int pins s σ H _ us Q I r ⟨i, rfl, c, w.val (if_pos c) s0 (.str _)⟩
        · exact w.no (if_neg c)
      | _ => exact w.no rfl
def ordF : List D → Store → OD
  | [.str x], S => if x.length = 1 then some (.int (x.cps.getD 0 0 : Nat), S) else none
  | _, _ => none
theorem call_ordF : CallR X (.builtin "ord") (rOs X.K cl ordF) := by
  intro pins s σ H xs us Q I r h
  obtain ⟨φ, S, ds, s0, rd, w⟩ := h
  cases rd with
  | nil => exact w.no rfl
  | cons h1 h2 =>
    cases h2 with
    | cons _ _ => exact w.no (by cases h1 <;> rfl)
    | nil =>
      cases h1 with
      | str x =>
        by_cases c : x.length = 1
        · exact call_ord pins s σ H _ us Q I r ⟨x, rfl, c, w.val (if_pos c) s0 (.int _)⟩
        · exact w.no (if_neg c)
      | _ => exact w.no rfl
def absF : List D → Store → OD
  | [.int i], S => some (.int (if i < 0 then -i else i), S)
  | _, _ => none
theorem call_absF : CallR X (.builtin "abs") (rOs X.K cl absF) := by
  intro pins s σ H xs us Q I r h
  obtain ⟨φ, S, ds, s0, rd, w⟩ := h
  cases rd with
  | nil => exact w.no rfl
  | cons h1 h2 =>
    cases h2 with
    | cons _ _ => exact w.no (by cases h1 <;> rfl)
    | nil =>
      cases h1 with
      | int x => exact call_abs pins s σ H _ us Q I r ⟨x, rfl, w.val rfl s0 (.int _)⟩
      | _ => exact w.no rfl
def bls : List D → Option (List Bool)
  | [] => some []
  | d :: ds => (blO d).bind fun k => (bls ds).map fun ks => k :: ks
theorem bls_ok : ∀ {ds : List D} {vs : List V} {ks : List Bool}, RDs K φ H ds vs → bls ds = some ks → vs = ks.map V.bl
  | _, _, _, .nil, e => by cases e; rfl
  | _, _, _, .cons (d := d) (ds := ds) h t, e => by
    have e' : ((blO d).bind fun k => (bls ds).map fun ks => k :: ks) = some _ := e
    cases q : blO d with
    | none => rw [q] at e'; cases e'
    | some k =>
      rw [q] at e'
      cases q2 : bls ds with
      | none => rw [q2] at e'; cases e'
      | some ks => rw [q2] at e'; cases e'; rw [bls_ok t q2, h.blO q]; rfl
/-- the items of a list -/
def lstD (S : Store) : D → Option (List D)
  | .lis xs => some xs
  | .ref n => lstO S n
  | _ => none
theorem RS.lstD (s : RS K cl φ S H) {d : D} {v : V} (r : RD K φ H d v) {xs : List D} (h : lstD S d = some xs) : ∃ a vs, v = .ref a ∧ RDs K φ H xs vs ∧ SqL K H a vs := by
  cases r with
  | lisR h1 h0 h2 => cases h; exact ⟨_, _, rfl, h2, (.inl h1)⟩
  | lisK h1 h2 => cases h; exact ⟨_, _, rfl, h2, (h1 H)⟩
  | ref e =>
    obtain ⟨vs, h1, h2⟩ := s.lst h e
    exact ⟨_, _, rfl, h2, SqL.of h1⟩
  | _ => cases h
def allF : List D → Store → OD
  | [d], S => ((lstD S d).bind bls).map fun ks => (.bl (ks.all id), S)
  | _, _ => none
def anyF : List D → Store → OD
  | [d], S => ((lstD S d).bind bls).map fun ks => (.bl (ks.any id), S)
  | _, _ => none
theorem call_allF (hc : X.calm = true) : CallR X (.builtin "all") (rOs X.K cl allF) := by
  intro pins s σ H xs us Q I r h
  obtain ⟨φ, S, ds, s0, rd, w⟩ := h
  match ds, rd, w with
  | [], _, w => exact w.no rfl
  | _ :: _ :: _, _, w => exact w.no rfl
  | [d], rd, w =>
    obtain ⟨v, rfl, h1⟩ := rd.one
    cases q : lstD S d with
    | none => exact w.no (by simp only [allF, q]; rfl)
    | some ys =>
      cases q2 : bls ys with
      | none => exact w.no (by simp only [allF, q, Option.bind_some, q2]; rfl)
      | some ks =>
        obtain ⟨a, vs, rfl, g1, g2⟩ := s0.lstD h1 q
        have := bls_ok g1 q2
        subst this
        exact cr_all hc pins s σ H _ us Q I r ⟨a, ks, rfl, g2, w.val (by simp only [allF, q, Option.bind_some, q2]; rfl) s0 (.bl _)⟩
theorem call_anyF (hc : X.calm = true) : CallR X (.builtin "any") (rOs X.K cl anyF) := by
  intro pins s σ H xs us Q I r h
  obtain ⟨φ, S, ds, s0, rd, w⟩ := h
  match ds, rd, w with
  | [], _, w => exact w.no rfl
  | _ :: _ :: _, _, w => exact w.no rfl
  | [d], rd, w =>
    obtain ⟨v, rfl, h1⟩ := rd.one
    cases q : lstD S d with
    | none => exact w.no (by simp only [anyF, q]; rfl)
    | some ys =>
      cases q2 : bls ys with
      | none => exact w.no (by simp only [anyF, q, Option.bind_some, q2]; rfl)
      | some ks =>
        obtain ⟨a, vs, rfl, g1, g2⟩ := s0.lstD h1 q
        have := bls_ok g1 q2
        subst this
        exact cr_any hc pins s σ H _ us Q I r ⟨a, ks, rfl, g2, w.val (by simp only [anyF, q, Option.bind_some, q2]; rfl) s0 (.bl _)⟩
def listF : List D → Store → OD
  | [d], S => (seqO S d).map fun xs => (.ref S.length, S ++ [.lst xs])
  | _, _ => none
theorem call_listF : CallR X (.type "list") (rOs X.K cl listF) := by
  intro pins s σ H xs us Q I r h
  obtain ⟨φ, S, ds, s0, rd, w⟩ := h
  match ds, rd, w with
  | [], _, w => exact w.no rfl
  | _ :: _ :: _, _, w => exact w.no rfl
  | [d], rd, w =>
    obtain ⟨v, rfl, h1⟩ := rd.one
    cases q : seqO S d with
    | none => exact w.no (by simp only [listF, q]; rfl)
    | some ys =>
      obtain ⟨a, vs, rfl, g1, g2⟩ := s0.seq h1 q
      exact call_list_of pins s σ H _ us Q I r ⟨a, vs, rfl, g2, fun l nl => w.newL (by simp only [listF, q]; rfl) s0 g1 nl⟩
def tupF : List D → Store → OD
  | [.tup xs], S => some (.tup xs, S)
  | [d], S => (lstD S d).map fun xs => (.tup xs, S)
  | _, _ => none
theorem call_tupF : CallR X (.type "tuple") (rOs X.K cl tupF) := by
  intro pins s σ H xs us Q I r h
  obtain ⟨φ, S, ds, s0, rd, w⟩ := h
  match ds, rd, w with
  | [], _, w => exact w.no rfl
  | _ :: _ :: _, _, w => exact w.no (by unfold tupF; split <;> simp_all)
  | [d], rd, w =>
    obtain ⟨v, rfl, h1⟩ := rd.one
    cases h1 with
    | tup g1 g2 => exact call_tuple_of pins s σ H _ us Q I r ⟨_, _, rfl, .inr ⟨g1, w.val rfl s0 (.tup g1 g2)⟩⟩
    | lisR g1 g0 g2 => exact call_tuple_of pins s σ H _ us Q I r ⟨_, _, rfl, .inl ⟨.inl g1, fun l nl => w.newT rfl s0 g2 nl⟩⟩
    | lisK g1 g2 => exact call_tuple_of pins s σ H _ us Q I r ⟨_, _, rfl, .inl ⟨g1 H, fun l nl => w.newT rfl s0 g2 nl⟩⟩
    | ref e =>
      rename_i n a _
      cases q : lstO S n with
      | none => exact w.no (by simp only [tupF, lstD, q]; rfl)
      | some ys =>
        obtain ⟨vs, g1, g2⟩ := s0.lst q e
        exact call_tuple_of pins s σ H _ us Q I r ⟨_, _, rfl, .inl ⟨SqL.of g1, fun l nl => w.newT (by simp only [tupF, lstD, q]; rfl) s0 g2 nl⟩⟩
    | _ => exact w.no rfl
end
end L3
set_option Elab.async false
set_option linter.all false
set_option maxRecDepth 100000
set_option maxHeartbeats 4000000
namespace L3
open PySem PySem.Spec PyProof.Rows L2
/-! ### dicts, instances, by name -/
def valD {κ : Type} [DecidableEq κ] (kvs : List (κ × D)) (k : κ) : Option D := (kvs.find? fun kv => decide (kv.1 = k)).map (·.2)
def putD {κ : Type} [DecidableEq κ] (kvs : List (κ × D)) (k : κ) (v : D) : List (κ × D) :=
  if (kvs.any fun kv => decide (kv.1 = k)) = true then kvs.map (fun kv => if kv.1 = k then (kv.1, v) else kv) else kvs ++ [(k, v)]
def dropD {κ : Type} [DecidableEq κ] (kvs : List (κ × D)) (k : κ) : List (κ × D) := kvs.filter fun kv => decide (kv.1 ≠ k)
def putFD (f : Str) (v : D) : List (Str × D) → List (Str × D)
  | [] => [(f, v)]
  | (g, x) :: r => if g = f then (g, v) :: r else (g, x) :: putFD f v r
def keyO : D → Option Key
  | .int i => some (.inl i)
  | .str x => some (.inr x)
  | _ => none
def dicD (S : Store) : D → Option (List (Key × D))
  | .ref n => dicO S n
  | _ => none
/-- the attributes of an instance of C -/
def insO (S : Store) (C : Str) : D → Option (List (Str × D))
  | .ref n => match S[n]? with
    | some (.ins C' fs) => if C' = C then some fs else none
    | _ => none
  | _ => none
section
variable {X : Cx} {K : PySem.W.Frag} {cl : Cl} {φ : List Addr} {H : Hp} {S : Store} {Q : VK}
/-- there on both sides, or on none -/
def RDo (K : PySem.W.Frag) (φ : List Addr) (H : Hp) : Option D → Option V → Prop
  | some d, some v => RD K φ H d v
  | none, none => True
  | _, _ => False
theorem RA.val {κ : Type} [DecidableEq κ] (k : κ) : ∀ {kvs : List (κ × D)} {ws : List (κ × V)}, RA K φ H kvs ws → RDo K φ H (valD kvs k) (valV ws k)
  | _, _, .nil => trivial
  | _, _, .cons (a := p) (b := q) h t => by
    obtain ⟨k1, d⟩ := p
    obtain ⟨k2, v⟩ := q
    obtain ⟨rfl, h⟩ := h
    by_cases e : k1 = k
    · simp only [valD, valV, List.find?_cons, e, decide_true, Option.map_some]
      exact h
    · have := RA.val k t
      simp only [valD, valV] at this
      simp only [valD, valV, List.find?_cons, e, decide_false]
      exact this
theorem RA.any {κ : Type} [DecidableEq κ] (k : κ) : ∀ {kvs : List (κ × D)} {ws : List (κ × V)}, RA K φ H kvs ws → (kvs.any fun kv => decide (kv.1 = k)) = ws.any fun kv => decide (kv.1 = k)
  | _, _, .nil => rfl
  | _, _, .cons h t => by rw [List.any_cons, List.any_cons, RA.any k t, h.1]
theorem RA.app {α : Type} : ∀ {a b : List (α × D)} {u v : List (α × V)}, RA K φ H a u → RA K φ H b v → RA K φ H (a ++ b) (u ++ v)
  | _, _, _, _, .nil, s => s
  | _, _, _, _, .cons h t, s => .cons h (RA.app t s)
theorem RA.mapPut {κ : Type} [DecidableEq κ] {k : κ} {d : D} {v : V} (r : RD K φ H d v) : ∀ {kvs : List (κ × D)} {ws : List (κ × V)}, RA K φ H kvs ws →
    RA K φ H (kvs.map fun kv => if kv.1 = k then (kv.1, d) else kv) (ws.map fun kv => if kv.1 = k then (kv.1, v) else kv)
  | _, _, .nil => .nil
  | _, _, .cons h t => by
    rw [List.map_cons, List.map_cons]
    refine .cons ?_ (RA.mapPut r t)
    rw [h.1]
    split
    · exact ⟨rfl, r⟩
    · exact h
theorem RA.put {κ : Type} [DecidableEq κ] (k : κ) {d : D} {v : V} (r : RD K φ H d v) {kvs : List (κ × D)} {ws : List (κ × V)} (h : RA K φ H kvs ws) : RA K φ H (putD kvs k d) (putK ws k v) := by
  unfold putD putK
  rw [RA.any k h]
  split
  · exact RA.mapPut r h
  · exact RA.app h (.cons ⟨rfl, r⟩ .nil)
theorem RA.drop {κ : Type} [DecidableEq κ] (k : κ) : ∀ {kvs : List (κ × D)} {ws : List (κ × V)}, RA K φ H kvs ws → RA K φ H (dropD kvs k) (dropK ws k)
  | _, _, .nil => .nil
  | _, _, .cons (a := p) (b := q) h t => by
    have := RA.drop k t
    unfold dropD dropK at this ⊢
    rw [List.filter_cons, List.filter_cons, h.1]
    split
    · exact .cons h this
    · exact this
theorem RA.look (f : Str) : ∀ {kvs : List (Str × D)} {ws : List (Str × V)}, RA K φ H kvs ws → RDo K φ H (kvs.lookup f) (ws.lookup f)
  | _, _, .nil => trivial
  | _, _, .cons (a := p) (b := q) h t => by
    obtain ⟨k1, d⟩ := p
    obtain ⟨k2, v⟩ := q
    obtain ⟨rfl, h⟩ := h
    by_cases e : (f == k1) = true
    · simp only [List.lookup, e]
      exact h
    · have e' : (f == k1) = false := by simpa using e
      simp only [List.lookup, e']
      exact RA.look f t
theorem RA.putF {f : Str} {d : D} {v : V} (r : RD K φ H d v) : ∀ {kvs : List (Str × D)} {ws : List (Str × V)}, RA K φ H kvs ws → RA K φ H (putFD f d kvs) (L2.putF f v ws)
  | _, _, .nil => .cons ⟨rfl, r⟩ .nil
  | _, _, .cons (a := p) (b := q) h t => by
    obtain ⟨k1, d1⟩ := p
    obtain ⟨k2, v1⟩ := q
    obtain ⟨rfl, h⟩ := h
    unfold putFD L2.putF
    split
    · exact .cons ⟨rfl, r⟩ t
    · exact .cons ⟨rfl, h⟩ (RA.putF r t)
theorem keyO_ok {d : D} {v : V} {k : Key} (r : RD K φ H d v) (h : keyO d = some k) : v = kV k := by
  cases r <;> first | (cases h; done) | (injection h with h; subst h; rfl)
theorem RS.dicD (s : RS K cl φ S H) {d : D} {v : V} (r : RD K φ H d v) {kvs : List (Key × D)} (h : dicD S d = some kvs) : ∃ n a ws, d = .ref n ∧ φ[n]? = some a ∧ v = .ref a ∧ H a = some (.dK ws) ∧ RA K φ H kvs ws := by
  cases r with
  | ref e =>
    obtain ⟨ws, h1, h2⟩ := s.dic h e
    exact ⟨_, _, ws, rfl, e, rfl, h1, h2⟩
  | _ => cases h
theorem RS.insO (s : RS K cl φ S H) {d : D} {v : V} {C : Str} (r : RD K φ H d v) {fs : List (Str × D)} (h : insO S C d = some fs) : ∃ n a dx ws, d = .ref n ∧ φ[n]? = some a ∧ v = .ref a ∧ H a = some (.ins (cl C) dx ws) ∧ RA K φ H fs ws := by
  cases r with
  | ref e =>
    rename_i n a
    obtain ⟨o, e1, e2⟩ := s.all e
    have h' : (match S[n]? with
      | some (.ins C' fs) => if C' = C then some fs else none
      | _ => none) = some fs := h
    rw [e1] at h'
    cases e2 with
    | ins g1 g2 =>
      dsimp only at h'
      split at h'
      · rename_i ec
        cases h'
        subst ec
        exact ⟨n, a, _, _, rfl, e, rfl, g1, g2⟩
      · cases h'
    | _ => cases h'
  | _ => cases h
variable {E : L2.St → XK} {e a b c o i : Expr} {m ma mb mc : ME} {ms : MA} {pos p2 apos cpos : Pos} {es : List Expr}
/-- d[k], k in d -/
def dgetF (d k : D) (S : Store) : OD := (dicD S d).bind fun kvs => (keyO k).bind fun k => (valD kvs k).map fun v => (v, S)
def dinF (k d : D) (S : Store) : OD := (dicD S d).bind fun kvs => (keyO k).map fun k => (.bl (valD kvs k).isSome, S)
def dninF (k d : D) (S : Store) : OD := (dicD S d).bind fun kvs => (keyO k).map fun k => (.bl (!(valD kvs k).isSome), S)
theorem dgetF_some {d k : D} {r : D × Store} (h : dgetF d k S = some r) : ∃ kvs k' v, dicD S d = some kvs ∧ keyO k = some k' ∧ valD kvs k' = some v ∧ r = (v, S) := by
  unfold dgetF at h
  cases q : dicD S d with
  | none => rw [q] at h; cases h
  | some kvs =>
    rw [q] at h
    cases q2 : keyO k with
    | none => simp [q2] at h
    | some k' =>
      simp only [q2, Option.bind_some] at h
      cases q3 : valD kvs k' with
      | none => rw [q3] at h; cases h
      | some v => rw [q3] at h; cases h; exact ⟨_, _, _, rfl, rfl, q3, rfl⟩
theorem dinF_some {d k : D} {r : D × Store} (h : dinF k d S = some r) : ∃ kvs k', dicD S d = some kvs ∧ keyO k = some k' ∧ r = (.bl (valD kvs k').isSome, S) := by
  unfold dinF at h
  cases q : dicD S d with
  | none => rw [q] at h; cases h
  | some kvs =>
    rw [q] at h
    cases q2 : keyO k with
    | none => simp [q2] at h
    | some k' => simp only [q2, Option.bind_some, Option.map_some] at h; cases h; exact ⟨_, _, rfl, rfl, rfl⟩
theorem dninF_some {d k : D} {r : D × Store} (h : dninF k d S = some r) : ∃ kvs k', dicD S d = some kvs ∧ keyO k = some k' ∧ r = (.bl (!(valD kvs k').isSome), S) := by
  unfold dninF at h
  cases q : dicD S d with
  | none => rw [q] at h; cases h
  | some kvs =>
    rw [q] at h
    cases q2 : keyO k with
    | none => simp [q2] at h
    | some k' => simp only [q2, Option.bind_some, Option.map_some] at h; cases h; exact ⟨_, _, rfl, rfl, rfl⟩
theorem RDo.some {o : Option D} {v : V} (h : RDo K φ H o (some v)) : ∃ d, o = some d ∧ RD K φ H d v := by
  cases o with
  | none => exact h.elim
  | some d => exact ⟨d, rfl, h⟩
theorem RDo.someD {o : Option V} {d : D} (h : RDo K φ H (.some d) o) : ∃ v, o = .some v ∧ RD K φ H d v := by
  cases o with
  | none => exact h.elim
  | some d => exact ⟨d, rfl, h⟩
theorem RDo.isSome {o : Option D} {v : Option V} (h : RDo K φ H o v) : o.isSome = v.isSome := by
  cases o <;> cases v <;> first | rfl | exact h.elim
theorem fe_dget (hu : X.A.units + 1 < cLine) (ho : PE X o (FE K cl E ma)) (hi : PE X i (FE K cl E mb)) (hs : NoSl i := by exact fun _ _ => rfl) : PE X (.Subscript o i pos) (FE K cl E (opE dgetF ma mb)) :=
  PE.imp (pe_dget hu ho hi hs) fun σ H Q h => by
    obtain ⟨φ, ρ, S, s, e, h⟩ := h
    refine F.step s e h fun d S1 φ1 v H1 f1 s1 e1 r1 h1 => F.step s1 e1 h1 fun k S2 φ2 u H2 f2 s2 e2 r2 h2 => ?_
    obtain ⟨d', S', q, _⟩ := wp.ofO h2
    obtain ⟨kvs, k', w, q1, q2, q3, _⟩ := dgetF_some q
    obtain ⟨n, a, ws, rfl, hn, rfl, g1, g2⟩ := s2.dicD (r1.fu f2) q1
    have z := RA.val k' g2
    rw [q3] at z
    obtain ⟨v, z1, z2⟩ := z.someD
    have ek := keyO_ok r2 q2
    subst ek
    exact ⟨a, v, rfl, by rw [← z1]; exact DGet.k g1, wpO.val (wp.ofO h2) (by unfold dgetF; rw [q1]; simp [q2, q3]) s2 z2⟩
theorem fc_din (hu : X.A.units + 1 < cLine) (hi : PE X i (FE K cl E ma)) (ho : PE X o (FE K cl E mb)) : PC X .In i o (FE K cl E (opE dinF ma mb)) :=
  ⟨fun pins s σ H Q I h => (pc_din hu hi ho).run pins s σ H Q I (by
    obtain ⟨φ, ρ, S, s, e, h⟩ := h
    refine F.step s e h fun k S1 φ1 v H1 f1 s1 e1 r1 h1 => F.step s1 e1 h1 fun d S2 φ2 u H2 f2 s2 e2 r2 h2 => ?_
    obtain ⟨d', S', q, _⟩ := wp.ofO h2
    obtain ⟨kvs, k', q1, q2, _⟩ := dinF_some q
    obtain ⟨n, a, ws, rfl, hn, rfl, g1, g2⟩ := s2.dicD r2 q1
    have z := RA.val k' g2
    have ek := keyO_ok (r1.fu f2) q2
    subst ek
    exact ⟨a, _, rfl, DGet.k g1, by rw [← z.isSome]; exact wpO.val (wp.ofO h2) (by unfold dinF; rw [q1]; simp [q2]) s2 (.bl _)⟩)⟩
theorem fc_dnin (hu : X.A.units + 1 < cLine) (hi : PE X i (FE K cl E ma)) (ho : PE X o (FE K cl E mb)) : PC X .NotIn i o (FE K cl E (opE dninF ma mb)) :=
  ⟨fun pins s σ H Q I h => (pc_dnotin hu hi ho).run pins s σ H Q I (by
    obtain ⟨φ, ρ, S, s, e, h⟩ := h
    refine F.step s e h fun k S1 φ1 v H1 f1 s1 e1 r1 h1 => F.step s1 e1 h1 fun d S2 φ2 u H2 f2 s2 e2 r2 h2 => ?_
    obtain ⟨d', S', q, _⟩ := wp.ofO h2
    obtain ⟨kvs, k', q1, q2, _⟩ := dninF_some q
    obtain ⟨n, a, ws, rfl, hn, rfl, g1, g2⟩ := s2.dicD r2 q1
    have z := RA.val k' g2
    have ek := keyO_ok (r1.fu f2) q2
    subst ek
    exact ⟨a, _, rfl, DGet.k g1, by rw [← z.isSome]; exact wpO.val (wp.ofO h2) (by unfold dninF; rw [q1]; simp [q2]) s2 (.bl _)⟩)⟩
theorem ft_pc {op : CmpOp} {m : ME} (h : PC X op a b (FE K cl E m)) (h1 : behindInMarks op b = false := by first | exact nobehind _ (by decide) (by decide) | rfl) : PT X (.Compare a [op] [b] pos) (FT K cl E (bT m)) := PT.imp (pt_cmp h h1) tb_im
/-- d.get(k), d.get(k, x), d.pop(k) -/
def dget1E (md mk : ME) : ME := fun ρ S => (md ρ S).bind fun d S1 => if (dicD S1 d).isSome = true then (mk ρ S1).bind fun k S2 => R.ofO ((dicD S2 d).bind fun kvs => (keyO k).map fun k => ((valD kvs k).getD .non, S2)) else .no
def dget2E (md mk mx : ME) : ME := fun ρ S => (md ρ S).bind fun d S1 => if (dicD S1 d).isSome = true then (mk ρ S1).bind fun k S2 => (mx ρ S2).bind fun x S3 => R.ofO ((dicD S3 d).bind fun kvs => (keyO k).map fun k => ((valD kvs k).getD x, S3)) else .no
def refO : D → Nat
  | .ref n => n
  | _ => 0
def dpopE (md mk : ME) : ME := fun ρ S => (md ρ S).bind fun d S1 => if (dicD S1 d).isSome = true then (mk ρ S1).bind fun k S2 => R.ofO ((dicD S2 d).bind fun kvs => (keyO k).bind fun k => (valD kvs k).map fun v => (v, S2.set (refO d) (.dic (dropD kvs k)))) else .no
theorem isD_of (s : RS K cl φ S H) {d : D} {v : V} (r : RD K φ H d v) (h : (dicD S d).isSome = true) : ∃ a, v = .ref a ∧ IsD H a := by
  cases q : dicD S d with
  | none => rw [q] at h; cases h
  | some kvs =>
    obtain ⟨n, a, ws, rfl, hn, rfl, g1, g2⟩ := s.dicD r q
    exact ⟨a, rfl, .inl ⟨_, .inl g1⟩⟩
theorem getD_ok {o : Option D} {w : Option V} {d : D} {v : V} (h : RDo K φ H o w) (r : RD K φ H d v) : RD K φ H (o.getD d) (w.getD v) := by
  cases o <;> cases w <;> first | exact r | exact h | exact h.elim
theorem fe_dget1 (hu : X.A.units + 1 < cLine) (ho : PE X o (FE K cl E ma)) (he : PE X e (FE K cl E mb)) (mm : M1 X o "get" apos e cpos) : PE X (.Call (.Attribute o "get" apos) [e] [] cpos) (FE K cl E (dget1E ma mb)) :=
  PE.imp (pe_dget1 hu ho he mm) fun σ H Q h => by
    obtain ⟨φ, ρ, S, s, e, h⟩ := h
    refine F.step s e h fun d S1 φ1 v H1 f1 s1 e1 r1 h1 => ?_
    by_cases c : (dicD S1 d).isSome = true
    · rw [if_pos c] at h1
      obtain ⟨a, rfl, i⟩ := isD_of s1 r1 c
      refine ⟨a, rfl, i, F.step s1 e1 h1 fun k S2 φ2 u H2 f2 s2 e2 r2 h2 => ?_⟩
      obtain ⟨d', S', q, qq⟩ := wp.ofO h2
      cases q1 : dicD S2 d with
      | none => rw [q1] at q; cases q
      | some kvs =>
        rw [q1] at q
        cases q2 : keyO k with
        | none => rw [q2] at q; cases q
        | some k' =>
          obtain ⟨n, a', ws, rfl, hn, ea, g1, g2⟩ := s2.dicD (r1.fu f2) q1
          cases ea
          have ek := keyO_ok r2 q2
          subst ek
          simp only [q2, Option.bind_some, Option.map_some, Option.some.injEq, Prod.mk.injEq] at q
          obtain ⟨rfl, rfl⟩ := q
          exact ⟨_, DGet.k g1, qq _ _ _ Fu.refl s2 (getD_ok (RA.val k' g2) .non)⟩
    · rw [if_neg c] at h1; exact h1.elim
theorem fe_dget2 {f : Expr} (hu : X.A.units + 1 < cLine) (ho : PE X o (FE K cl E ma)) (he : PE X e (FE K cl E mb)) (hf : PE X f (FE K cl E mc)) (mm : M2 X o "get" apos e f cpos) : PE X (.Call (.Attribute o "get" apos) [e, f] [] cpos) (FE K cl E (dget2E ma mb mc)) :=
  PE.imp (pe_dget2 hu ho he hf mm) fun σ H Q h => by
    obtain ⟨φ, ρ, S, s, e, h⟩ := h
    refine F.step s e h fun d S1 φ1 v H1 f1 s1 e1 r1 h1 => ?_
    by_cases c : (dicD S1 d).isSome = true
    · rw [if_pos c] at h1
      obtain ⟨a, rfl, i⟩ := isD_of s1 r1 c
      refine ⟨a, rfl, i, F.step s1 e1 h1 fun k S2 φ2 u H2 f2 s2 e2 r2 h2 => F.step s2 e2 h2 fun x S3 φ3 w H3 f3 s3 e3 r3 h3 => ?_⟩
      obtain ⟨d', S', q, qq⟩ := wp.ofO h3
      cases q1 : dicD S3 d with
      | none => rw [q1] at q; cases q
      | some kvs =>
        rw [q1] at q
        cases q2 : keyO k with
        | none => rw [q2] at q; cases q
        | some k' =>
          obtain ⟨n, a', ws, rfl, hn, ea, g1, g2⟩ := s3.dicD ((r1.fu f2).fu f3) q1
          cases ea
          have ek := keyO_ok r2 q2
          subst ek
          simp only [q2, Option.bind_some, Option.map_some, Option.some.injEq, Prod.mk.injEq] at q
          obtain ⟨rfl, rfl⟩ := q
          exact ⟨_, DGet.k g1, qq _ _ _ Fu.refl s3 (getD_ok (RA.val k' g2) r3)⟩
    · rw [if_neg c] at h1; exact h1.elim
theorem fe_dpop (ho : PE X o (FE K cl E ma)) (he : PE X e (FE K cl E mb)) (mm : M1 X o "pop" apos e cpos) : PE X (.Call (.Attribute o "pop" apos) [e] [] cpos) (FE K cl E (dpopE ma mb)) :=
  PE.imp (pe_dpop1 ho he mm) fun σ H Q h => by
    obtain ⟨φ, ρ, S, s, e, h⟩ := h
    refine F.step s e h fun d S1 φ1 v H1 f1 s1 e1 r1 h1 => ?_
    by_cases c : (dicD S1 d).isSome = true
    · rw [if_pos c] at h1
      obtain ⟨a, rfl, i⟩ := isD_of s1 r1 c
      refine ⟨a, rfl, i, F.step s1 e1 h1 fun k S2 φ2 u H2 f2 s2 e2 r2 h2 => ?_⟩
      obtain ⟨d', S', q, qq⟩ := wp.ofO h2
      cases q1 : dicD S2 d with
      | none => rw [q1] at q; cases q
      | some kvs =>
        rw [q1] at q
        cases q2 : keyO k with
        | none => simp [q2] at q
        | some k' =>
          obtain ⟨n, a', ws, rfl, hn, ea, g1, g2⟩ := s2.dicD (r1.fu f2) q1
          cases ea
          have ek := keyO_ok r2 q2
          subst ek
          simp only [q2, Option.bind_some] at q
          have z := RA.val k' g2
          cases q3 : valD kvs k' with
          | none => rw [q3] at q; cases q
          | some d0 =>
            rw [q3] at q z
            simp only [Option.map_some, Option.some.injEq, Prod.mk.injEq] at q
            obtain ⟨rfl, rfl⟩ := q
            obtain ⟨v0, z1, z2⟩ := z.someD
            have fp := Fu.put (h := HO.dK (dropK ws k')) s2 hn
            exact ⟨ws, k', v0, g1, rfl, z1, qq _ _ _ fp (s2.put hn (.dic upd_same ((RA.drop k' g2).fu fp))) (z2.fu fp)⟩
    · rw [if_neg c] at h1; exact h1.elim
/-! ### fields -/
def fldE (C f : Str) (m : ME) : ME := fun ρ S => (m ρ S).bind fun d S1 => R.ofO ((insO S1 C d).bind fun fs => (fs.lookup f).map fun v => (v, S1))
theorem fld_im {C f : Str} (c : Cls K (cl C)) (n : NoAttr K (cl C) f) : ∀ σ H Q, FE K cl E (fldE C f m) σ H Q → tFld K (FE K cl E m) f σ H Q := fun σ H Q ⟨φ, ρ, S, s, e, h⟩ => F.step s e h fun d S1 φ1 v H1 f1 s1 e1 r1 h1 => by
  obtain ⟨d', S', q, qq⟩ := wp.ofO h1
  cases q1 : insO S1 C d with
  | none => rw [q1] at q; cases q
  | some fs =>
    rw [q1] at q
    obtain ⟨n', a, dx, ws, rfl, hn, rfl, g1, g2⟩ := s1.insO r1 q1
    have z := RA.look f g2
    cases q2 : fs.lookup f with
    | none => simp [q2] at q
    | some d0 =>
      rw [q2] at z
      obtain ⟨v0, z1, z2⟩ := z.someD
      simp only [q2, Option.bind_some, Option.map_some, Option.some.injEq, Prod.mk.injEq] at q
      obtain ⟨rfl, rfl⟩ := q
      exact ⟨a, _, dx, ws, v0, rfl, g1, c, n, z1, qq _ _ _ Fu.refl s1 z2⟩
/-! ### calls of the text's own defs -/
abbrev Fn := List D → Store → R D
/-- the promise of a def that runs as m does, n arguments -/
def spM (K : PySem.W.Frag) (cl : Cl) (n : Nat) (m : Fn) : Sp := fun vs H Q E => ∃ φ S ds, RS K cl φ S H ∧ RDs K φ H ds vs ∧ ds.length = n ∧ wp K cl (RD K) E φ H (m ds S) Q
/-- as many as are asked -/
def nF (n : Nat) (m : Fn) : Fn := fun ds S => if ds.length = n then m ds S else .no
def callE (n : Nat) (m : Fn) (ms : MA) : ME := fun ρ S => (ms ρ S).bind (nF n m)
theorem nF_wp {n : Nat} {m : Fn} {ds : List D} {XX : XK} (h : wp K cl (RD K) XX φ H (nF n m ds S) Q) : ds.length = n ∧ wp K cl (RD K) XX φ H (m ds S) Q := by
  unfold nF at h
  by_cases c : ds.length = n
  · rw [if_pos c] at h; exact ⟨c, h⟩
  · rw [if_neg c] at h; exact h.elim
theorem call_im {n : Nat} {m : Fn} {XX : XK} : ∀ σ H Q, FE K cl (fun _ => XX) (callE n m ms) σ H Q → tCall (spM K cl n m) [] XX (FA K cl (fun _ => XX) ms) σ H Q := fun σ H Q ⟨φ, ρ, S, s, e, h⟩ =>
  F.step (E := fun _ => XX) s e h fun ds S1 φ1 vs H1 f1 s1 e1 r1 h1 => by
    rw [List.append_nil]
    obtain ⟨hn, h1⟩ := nF_wp h1
    exact ⟨φ1, S1, ds, s1, r1, hn, h1⟩
theorem callS_im {n : Nat} {m : Fn} : ∀ σ H Q, FE K cl E (callE n m ms) σ H Q → tCallS (spM K cl n m) E (FA K cl E ms) σ H Q := fun σ H Q ⟨φ, ρ, S, s, e, h⟩ =>
  F.step s e h fun ds S1 φ1 vs H1 f1 s1 e1 r1 h1 => by
    obtain ⟨hn, h1⟩ := nF_wp h1
    exact ⟨φ1, S1, ds, s1, r1, hn, h1⟩
theorem call0_im {n : Nat} {m : Fn} {XX : XK} : ∀ σ H Q, FE K cl (fun _ => XX) (callE n m nilA) σ H Q → tCall (spM K cl n m) [] XX tNil σ H Q := fun σ H Q ⟨φ, ρ, S, s, e, h⟩ =>
  let h2 := nF_wp h
  ⟨φ, S, [], s, .nil, h2.1, h2.2⟩
/-- o.m(..): an instance of C without an attribute m -/
def methE (C mn : Str) (n : Nat) (m : Fn) (mo : ME) (ms : MA) : ME := fun ρ S => (mo ρ S).bind fun d S1 => match insO S1 C d with
  | some fs => if fs.lookup mn = none then (ms ρ S1).bind fun ds => nF n m (d :: ds) else .no
  | none => .no
theorem lookNone {f : Str} {fs : List (Str × D)} {ws : List (Str × V)} (g : RA K φ H fs ws) (h : fs.lookup f = none) : ws.lookup f = none := by
  have z := RA.look f g
  rw [h] at z
  cases q : ws.lookup f with
  | none => rfl
  | some v => rw [q] at z; exact z.elim
instance (f : Str) (fs : List (Str × D)) : Decidable (fs.lookup f = none) := by
  cases h : fs.lookup f
  · exact .isTrue rfl
  · exact .isFalse (by simp)
theorem meth_im {C mn : Str} {n : Nat} {m : Fn} {mo : ME} {XX : XK} : ∀ σ H Q, FE K cl (fun _ => XX) (methE C mn n m mo ms) σ H Q → tMeth (cl C) mn (spM K cl n m) [] XX (FE K cl (fun _ => XX) mo) (FA K cl (fun _ => XX) ms) σ H Q := fun σ H Q ⟨φ, ρ, S, s, e, h⟩ =>
  F.step (E := fun _ => XX) s e h fun d S1 φ1 v H1 f1 s1 e1 r1 h1 => by
    cases q : insO S1 C d with
    | none => rw [q] at h1; exact h1.elim
    | some fs =>
      rw [q] at h1
      dsimp only at h1
      obtain ⟨n', a, dx, ws, rfl, hn, rfl, g1, g2⟩ := s1.insO r1 q
      by_cases c : fs.lookup mn = none
      · rw [if_pos c] at h1
        refine ⟨a, dx, ws, rfl, g1, lookNone g2 c, F.step (E := fun _ => XX) s1 e1 h1 fun ds S2 φ2 vs H2 f2 s2 e2 r2 h2 => ?_⟩
        rw [List.append_nil]
        obtain ⟨hn, h2⟩ := nF_wp h2
        exact ⟨φ2, S2, _, s2, .cons (r1.fu f2) r2, hn, h2⟩
      · rw [if_neg c] at h1; exact h1.elim
theorem methS_im {C mn : Str} {n : Nat} {m : Fn} {mo : ME} : ∀ σ H Q, FE K cl E (methE C mn n m mo ms) σ H Q → L2.tMethE (cl C) mn (spM K cl n m) E (FE K cl E mo) (FA K cl E ms) σ H Q := fun σ H Q ⟨φ, ρ, S, s, e, h⟩ =>
  F.step s e h fun d S1 φ1 v H1 f1 s1 e1 r1 h1 => by
    cases q : insO S1 C d with
    | none => rw [q] at h1; exact h1.elim
    | some fs =>
      rw [q] at h1
      dsimp only at h1
      obtain ⟨n', a, dx, ws, rfl, hn, rfl, g1, g2⟩ := s1.insO r1 q
      by_cases c : fs.lookup mn = none
      · rw [if_pos c] at h1
        refine ⟨a, dx, ws, rfl, g1, lookNone g2 c, F.step s1 e1 h1 fun ds S2 φ2 vs H2 f2 s2 e2 r2 h2 => ?_⟩
        obtain ⟨hn, h2⟩ := nF_wp h2
        exact ⟨φ2, S2, _, s2, .cons (r1.fu f2) r2, hn, h2⟩
      · rw [if_neg c] at h1; exact h1.elim
theorem meth0_of {sp : Sp} {C : Addr} {mn : Str} {XX : XK} {ta : TE} : ∀ σ H Q, tMeth C mn sp [] XX ta tNil σ H Q → tMeth C mn sp [] XX ta tNil σ H Q := fun _ _ _ h => h
/-- no arguments: the list read as nothing -/
theorem nilA_im : ∀ σ H Q, FA K cl E nilA σ H Q → tNil σ H Q := fun σ H Q ⟨φ, ρ, S, s, _, h⟩ => wp.here (rl := RDs K) s .nil h
theorem meth0_im {C mn : Str} {n : Nat} {m : Fn} {mo : ME} {XX : XK} : ∀ σ H Q, FE K cl (fun _ => XX) (methE C mn n m mo nilA) σ H Q → tMeth (cl C) mn (spM K cl n m) [] XX (FE K cl (fun _ => XX) mo) tNil σ H Q := fun σ H Q ⟨φ, ρ, S, s, e, h⟩ =>
  F.step (E := fun _ => XX) s e h fun d S1 φ1 v H1 f1 s1 e1 r1 h1 => by
    cases q : insO S1 C d with
    | none => rw [q] at h1; exact h1.elim
    | some fs =>
      rw [q] at h1
      dsimp only at h1
      obtain ⟨n', a, dx, ws, rfl, hn, rfl, g1, g2⟩ := s1.insO r1 q
      by_cases c : fs.lookup mn = none
      · rw [if_pos c] at h1
        obtain ⟨hn, h2⟩ := nF_wp h1
        exact ⟨a, dx, ws, rfl, g1, lookNone g2 c, φ1, S1, _, s1, .cons r1 .nil, hn, h2⟩
      · rw [if_neg c] at h1; exact h1.elim
theorem meth0S_im {C mn : Str} {n : Nat} {m : Fn} {mo : ME} : ∀ σ H Q, FE K cl E (methE C mn n m mo nilA) σ H Q → L2.tMethE (cl C) mn (spM K cl n m) E (FE K cl E mo) tNil σ H Q := fun σ H Q ⟨φ, ρ, S, s, e, h⟩ =>
  F.step s e h fun d S1 φ1 v H1 f1 s1 e1 r1 h1 => by
    cases q : insO S1 C d with
    | none => rw [q] at h1; exact h1.elim
    | some fs =>
      rw [q] at h1
      dsimp only at h1
      obtain ⟨n', a, dx, ws, rfl, hn, rfl, g1, g2⟩ := s1.insO r1 q
      by_cases c : fs.lookup mn = none
      · rw [if_pos c] at h1
        obtain ⟨hn, h2⟩ := nF_wp h1
        exact ⟨a, dx, ws, rfl, g1, lookNone g2 c, φ1, S1, _, s1, .cons r1 .nil, hn, h2⟩
      · rw [if_neg c] at h1; exact h1.elim
/-- C(..) -/
def makeE (C : Str) (n : Nat) (m : Fn) (ms : MA) : ME := fun ρ S => (ms ρ S).bind fun ds S1 => (nF n m (.ref S1.length :: ds) (S1 ++ [.ins C []])).bind fun d S2 => if isnon d = true then .ok (.ref S1.length) S2 else .no
theorem own_fu {x dx : Addr} (n : H dx = none) : Fu K φ φ H (upd H dx (.own x)) := ⟨List.prefix_refl _, KTu.new n, fun a o ha e => ⟨ha, by rw [upd_ne fun z => by rw [z, n] at e; cases e]; exact e⟩⟩
theorem RS.own {x dx : Addr} (s : RS K cl φ S H) (n : H dx = none) : RS K cl φ S (upd H dx (.own x)) :=
  ⟨s.len, s.nd, fun m a o e1 e2 => (s.obj m a o e1 e2).fu (own_fu n) (upd_ne fun z => s.fresh n (by rw [← z]; exact List.mem_of_getElem? e1))⟩
theorem make_wp {C : Str} {n : Nat} {m : Fn} {ds : List D} {vs : List V} {XX : XK} (s : RS K cl φ S H) (r : RDs K φ H ds vs)
    (h : wp K cl (RD K) XX φ H ((nF n m (.ref S.length :: ds) (S ++ [.ins C []])).bind fun d S2 => if isnon d = true then .ok (.ref S.length) S2 else .no) Q)
    {x dx : Addr} (nx : H x = none) (ndx : H dx = none) (ne : dx ≠ x) : spM K cl n m (.ref x :: vs) (upd (upd H dx (.own x)) x (.ins (cl C) dx [])) (fun v H2 => v = .non ∧ Q (.ref x) H2) XX := by
  have f1 : Fu K φ φ H (upd H dx (.own x)) := own_fu ndx
  have s1 := s.own (x := x) ndx
  have nx1 : upd H dx (.own x) x = none := by rw [upd_ne (Ne.symm ne)]; exact nx
  have f2 : Fu K φ (φ ++ [x]) (upd H dx (.own x)) (upd (upd H dx (.own x)) x (.ins (cl C) dx [])) := Fu.new nx1
  have s2 : RS K cl (φ ++ [x]) (S ++ [.ins C []]) (upd (upd H dx (.own x)) x (.ins (cl C) dx [])) := s1.new nx1 (.ins upd_same .nil)
  have rx : RD K (φ ++ [x]) (upd (upd H dx (.own x)) x (.ins (cl C) dx [])) (.ref S.length) (.ref x) := s1.new_ref
  have h' := h.fu (f1.trans f2)
  unfold nF at h'
  by_cases c : (D.ref S.length :: ds).length = n
  · rw [if_pos c] at h'
    refine ⟨_, _, _, s2, .cons rx (r.fu (f1.trans f2)), c, ?_⟩
    cases q : m (.ref S.length :: ds) (S ++ [.ins C []]) with
    | ok d S3 =>
      rw [q] at h'
      intro φ' v H' f s3 rv
      by_cases c2 : isnon d = true
      · have h2 : wp K cl (RD K) XX (φ ++ [x]) _ (if isnon d = true then R.ok (.ref S.length) S3 else .no) Q := h'
        rw [if_pos c2] at h2
        refine ⟨?_, h2 φ' _ H' f s3 (rx.fu f)⟩
        cases d <;> first | (cases rv; rfl) | cases c2
      · have h2 : wp K cl (RD K) XX (φ ++ [x]) _ (if isnon d = true then R.ok (.ref S.length) S3 else .no) Q := h'
        rw [if_neg c2] at h2
        exact h2.elim
    | exc cc fs S3 => rw [q] at h'; exact h'
    | no => rw [q] at h'; exact h'
  · rw [if_neg c] at h'; exact h'.elim
theorem make_im {C : Str} {n : Nat} {m : Fn} {XX : XK} : ∀ σ H Q, FE K cl (fun _ => XX) (makeE C n m ms) σ H Q → tMake (cl C) (spM K cl n m) [] XX (FA K cl (fun _ => XX) ms) σ H Q := fun σ H Q ⟨φ, ρ, S, s, e, h⟩ =>
  F.step (E := fun _ => XX) s e h fun ds S1 φ1 vs H1 f1 s1 e1 r1 h1 x dx nx ndx ne => by
    rw [List.append_nil]
    exact make_wp s1 r1 h1 nx ndx ne
theorem make0_im {C : Str} {n : Nat} {m : Fn} {XX : XK} : ∀ σ H Q, FE K cl (fun _ => XX) (makeE C n m nilA) σ H Q → tMake (cl C) (spM K cl n m) [] XX tNil σ H Q := fun σ H Q ⟨φ, ρ, S, s, e, h⟩ x dx nx ndx ne => make_wp s .nil h nx ndx ne
theorem makeS_im {C : Str} {n : Nat} {m : Fn} : ∀ σ H Q, FE K cl E (makeE C n m ms) σ H Q → L2.tMakeE (cl C) (spM K cl n m) E (FA K cl E ms) σ H Q := fun σ H Q ⟨φ, ρ, S, s, e, h⟩ =>
  F.step s e h fun ds S1 φ1 vs H1 f1 s1 e1 r1 h1 x dx nx ndx ne => make_wp s1 r1 h1 nx ndx ne
/-! ### methods of texts and lists -/
def strO : D → Option Str
  | .str x => some x
  | _ => none
theorem RD.strO {d : D} {v : V} {k : Str} (r : RD K φ H d v) (h : strO d = some k) : v = .str k := by
  cases r <;> first | (cases h; done) | (injection h with h; subst h; rfl)
/-- a text's method of one argument -/
def sm1E (f : Str → D → Store → OD) (m ma : ME) : ME := fun ρ S => (m ρ S).bind fun d S1 => match strO d with
  | some x => (ma ρ S1).bind fun a S2 => R.ofO (f x a S2)
  | none => .no
theorem sm1_im {f : Str → D → Store → OD} {r : V → List V → Hp → VK → Prop} (hr : ∀ φ S H x a v Q, RS K cl φ S H → RD K φ H a v → wpO K cl φ H (f x a S) Q → r (.str x) [v] H Q) :
    ∀ σ H Q, FE K cl E (sm1E f m ma) σ H Q → tM1 r (FE K cl E m) (FE K cl E ma) σ H Q := fun σ H Q ⟨φ, ρ, S, s, e, h⟩ => F.step s e h fun d S1 φ1 v H1 f1 s1 e1 r1 h1 => by
  cases q : strO d with
  | none => rw [q] at h1; exact h1.elim
  | some x =>
    rw [q] at h1
    have ev := r1.strO q
    subst ev
    exact ⟨⟨x, rfl⟩, F.step s1 e1 h1 fun a S2 φ2 u H2 f2 s2 e2 r2 h2 => hr φ2 S2 H2 x a u _ s2 r2 (wp.ofO h2)⟩
def startsF (x : Str) (a : D) (S : Store) : OD := (strO a).map fun y => (.bl (Txt.startswith x y), S)
theorem fe_starts {apos pos : Pos} (ho : PE X o (FE K cl E m)) (he : PE X e (FE K cl E ma)) (hs : starEach [e] X.env = [(false, eval e X.env)] := by rfl) (hbase : attributeBase o "startswith" X.env (eval o X.env) = eval o X.env := by rfl) (hline : (apos.endLine == pos.line) = true := by rfl) :
    PE X (.Call (.Attribute o "startswith" apos) [e] [] pos) (FE K cl E (sm1E startsF m ma)) :=
  PE.imp (pe_m1 PySem.F.slot_str_startswith PySem.F.type_str_startswith mt_startswith ho he hs hbase hline) (sm1_im fun φ S H x a v Q s r w => by
    cases q : strO a with
    | none => exact w.no (by unfold startsF; rw [q]; rfl)
    | some y =>
      have ev := r.strO q
      subst ev
      exact ⟨x, y, rfl, rfl, w.val (by unfold startsF; rw [q]; rfl) s (.bl _)⟩)
def txts : List D → Option (List Str)
  | [] => some []
  | d :: ds => (strO d).bind fun k => (txts ds).map fun ks => k :: ks
theorem txts_ok : ∀ {ds : List D} {vs : List V} {ks : List Str}, RDs K φ H ds vs → txts ds = some ks → vs = ks.map V.str
  | _, _, _, .nil, e => by cases e; rfl
  | _, _, _, .cons (d := d) (ds := ds) h t, e => by
    have e' : ((strO d).bind fun k => (txts ds).map fun ks => k :: ks) = some _ := e
    cases q : strO d with
    | none => rw [q] at e'; cases e'
    | some k =>
      rw [q] at e'
      cases q2 : txts ds with
      | none => rw [q2] at e'; cases e'
      | some ks => rw [q2] at e'; cases e'; rw [txts_ok t q2, h.strO q]; rfl
def joinF (x : Str) (a : D) (S : Store) : OD := ((seqO S a).bind txts).bind fun ys => if (ys.map (·.length)).sum + ys.length * x.length ≤ 16777216 then some (.str (Txt.join x ys), S) else none
theorem fe_join {apos pos : Pos} (ho : PE X o (FE X.K cl E m)) (he : PE X e (FE X.K cl E ma)) (hs : starEach [e] X.env = [(false, eval e X.env)] := by rfl) (hbase : attributeBase o "join" X.env (eval o X.env) = eval o X.env := by rfl) (hline : (apos.endLine == pos.line) = true := by rfl) :
    PE X (.Call (.Attribute o "join" apos) [e] [] pos) (FE X.K cl E (sm1E joinF m ma)) :=
  PE.imp (pe_join ho he hs hbase hline) (sm1_im fun φ S H x a v Q s r w => by
    cases q : seqO S a with
    | none => exact w.no (by unfold joinF; rw [q]; rfl)
    | some ys =>
      cases q2 : txts ys with
      | none => exact w.no (by unfold joinF; rw [q]; simp [q2])
      | some zs =>
        by_cases c : (zs.map (·.length)).sum + zs.length * x.length ≤ 16777216
        · obtain ⟨p, vs, rfl, g1, g2⟩ := s.seq r q
          have ev := txts_ok g1 q2
          subst ev
          exact ⟨x, p, zs, rfl, rfl, g2, c, w.val (by unfold joinF; rw [q]; simp [q2, c]) s (.str _)⟩
        · exact w.no (by unfold joinF; rw [q]; simp [q2, c]))
def splitF (x : Str) (a : D) (S : Store) : OD := (strO a).bind fun y => if (y.length == 0) = false ∧ x.length + 2 ≤ sizeLine then some (.ref S.length, S ++ [.lst ((Txt.split x y).map D.str)]) else none
theorem fe_split {apos pos : Pos} (ho : PE X o (FE X.K cl E m)) (he : PE X e (FE X.K cl E ma)) (hs : starEach [e] X.env = [(false, eval e X.env)] := by rfl) (hbase : attributeBase o "split" X.env (eval o X.env) = eval o X.env := by rfl) (hline : (apos.endLine == pos.line) = true := by rfl) :
    PE X (.Call (.Attribute o "split" apos) [e] [] pos) (FE X.K cl E (sm1E splitF m ma)) :=
  PE.imp (pe_split ho he hs hbase hline) (sm1_im fun φ S H x a v Q s r w => by
    cases q : strO a with
    | none => exact w.no (by unfold splitF; rw [q]; rfl)
    | some y =>
      by_cases c : (y.length == 0) = false ∧ x.length + 2 ≤ sizeLine
      · have ev := r.strO q
        subst ev
        exact ⟨x, y, rfl, rfl, c.1, c.2, fun p np => w.newL (by unfold splitF; rw [q]; exact if_pos c) s (RDs.strs _) np⟩
      · exact w.no (by unfold splitF; rw [q]; exact if_neg c))
/-- a list's method -/
def lmE (f : Nat → List D → List D → Store → OD) (m : ME) (ms : MA) : ME := fun ρ S => (m ρ S).bind fun d S1 => match d with
  | .ref n => if (lstO S1 n).isSome = true then (ms ρ S1).bind fun ds S2 => R.ofO ((lstO S2 n).bind fun xs => f n xs ds S2) else .no
  | _ => .no
theorem lm_im {f : Nat → List D → List D → Store → OD} {r : V → List V → Hp → VK → Prop}
    (hr : ∀ φ S H n a xs ws ds vs Q, RS K cl φ S H → φ[n]? = some a → lstO S n = some xs → H a = some (.lst ws) → RDs K φ H xs ws → RDs K φ H ds vs → wpO K cl φ H (f n xs ds S) Q → r (.ref a) vs H Q) :
    ∀ σ H Q, FE K cl E (lmE f m ms) σ H Q → tBM K "list" r (FE K cl E m) (FA K cl E ms) σ H Q := fun σ H Q ⟨φ, ρ, S, s, e, h⟩ => F.step s e h fun d S1 φ1 v H1 f1 s1 e1 r1 h1 => by
  cases r1 with
  | ref hn =>
    rename_i n a
    dsimp only at h1
    by_cases c : (lstO S1 n).isSome = true
    · rw [if_pos c] at h1
      cases q : lstO S1 n with
      | none => rw [q] at c; cases c
      | some xs =>
        obtain ⟨ws, g1, g2⟩ := s1.lst q hn
        refine ⟨.inl ⟨rfl, _, SqL.of g1⟩, F.step s1 e1 h1 fun ds S2 φ2 vs H2 f2 s2 e2 r2 h2 => ?_⟩
        have w := wp.ofO h2
        cases q2 : lstO S2 n with
        | none => exact w.no (by rw [q2]; rfl)
        | some ys =>
          rw [q2] at w
          obtain ⟨us, g3, g4⟩ := s2.lst q2 (f2.get hn)
          exact hr φ2 S2 H2 n a ys us ds vs _ s2 (f2.get hn) q2 g3 g4 r2 w
    · rw [if_neg c] at h1; exact h1.elim
  | _ => exact h1.elim
def appendF (n : Nat) (xs ds : List D) (S : Store) : OD := match ds with
  | [y] => if xs.length < sizeLine then some (.non, S.set n (.lst (xs ++ [y]))) else none
  | _ => none
theorem append_r : ∀ φ S H n a xs ws ds vs Q, RS K cl φ S H → φ[n]? = some a → lstO S n = some xs → H a = some (.lst ws) → RDs K φ H xs ws → RDs K φ H ds vs → wpO K cl φ H (appendF n xs ds S) Q → rAppend (.ref a) vs H Q := fun φ S H n a xs ws ds vs Q s hn q g1 g2 r w => by
  match ds, r, w with
  | [], _, w => exact w.no rfl
  | _ :: _ :: _, _, w => exact w.no rfl
  | [y], r, w =>
    obtain ⟨u, rfl, r1⟩ := r.one
    by_cases c : xs.length < sizeLine
    · exact ⟨a, ws, u, rfl, rfl, g1, by rw [← g2.len]; exact c, w.putL (if_pos c) s hn (g2.app (.cons r1 .nil)) .non⟩
    · exact w.no (if_neg c)
def extendF (n : Nat) (xs ds : List D) (S : Store) : OD := match ds with
  | [.ref m] => (lstO S m).bind fun ys => if xs.length + ys.length ≤ sizeLine then some (.non, S.set n (.lst (xs ++ ys))) else none
  | _ => none
theorem extend_r : ∀ φ S H n a xs ws ds vs Q, RS K cl φ S H → φ[n]? = some a → lstO S n = some xs → H a = some (.lst ws) → RDs K φ H xs ws → RDs K φ H ds vs → wpO K cl φ H (extendF n xs ds S) Q → rExtend (.ref a) vs H Q := fun φ S H n a xs ws ds vs Q s hn q g1 g2 r w => by
  match ds, r, w with
  | [], _, w => exact w.no rfl
  | _ :: _ :: _, _, w => exact w.no (by unfold extendF; split <;> simp_all)
  | [y], r, w =>
    obtain ⟨u, rfl, r1⟩ := r.one
    cases r1 with
    | ref e =>
      rename_i k b _
      cases q2 : lstO S k with
      | none => exact w.no (by simp only [extendF, q2]; rfl)
      | some ys =>
        obtain ⟨us, g3, g4⟩ := s.lst q2 e
        by_cases c : xs.length + ys.length ≤ sizeLine
        · exact ⟨a, b, ws, us, rfl, rfl, g1, g3, by rw [← g2.len, ← g4.len]; exact c, w.putL (by simp only [extendF, q2, Option.bind_some]; exact if_pos c) s hn (g2.app g4) .non⟩
        · exact w.no (by simp only [extendF, q2, Option.bind_some]; exact if_neg c)
    | _ => exact w.no rfl
def popAtF (n : Nat) (xs ds : List D) (S : Store) : OD := match ds with
  | [.int i] => if -(2 ^ 63) ≤ i ∧ i < 2 ^ 63 then (seqIndex? i xs.length).bind fun k => (xs[k]?).map fun y => (y, S.set n (.lst (xs.eraseIdx k))) else none
  | _ => none
theorem popAt_r : ∀ φ S H n a xs ws ds vs Q, RS K cl φ S H → φ[n]? = some a → lstO S n = some xs → H a = some (.lst ws) → RDs K φ H xs ws → RDs K φ H ds vs → wpO K cl φ H (popAtF n xs ds S) Q → rPopAt (.ref a) vs H Q := fun φ S H n a xs ws ds vs Q s hn q g1 g2 r w => by
  match ds, r, w with
  | [], _, w => exact w.no rfl
  | _ :: _ :: _, _, w => exact w.no (by unfold popAtF; split <;> simp_all)
  | [y], r, w =>
    obtain ⟨u, rfl, r1⟩ := r.one
    cases r1 with
    | int i =>
      by_cases c : -(2 ^ 63) ≤ i ∧ i < 2 ^ 63
      · cases q1 : seqIndex? i xs.length with
        | none => exact w.no (by simp only [popAtF, if_pos c, q1]; rfl)
        | some k =>
          cases q2 : xs[k]? with
          | none => exact w.no (by simp only [popAtF, if_pos c, q1, Option.bind_some, q2]; rfl)
          | some y =>
            obtain ⟨v, g3, g4⟩ := g2.get q2
            exact ⟨a, ws, i, k, v, rfl, rfl, g1, c.1, c.2, by rw [← g2.len]; exact q1, g3, w.putL (by simp only [popAtF, if_pos c, q1, Option.bind_some, q2]; rfl) s hn (g2.erase k) g4⟩
      · exact w.no (by simp only [popAtF, if_neg c])
    | _ => exact w.no rfl
end
end L3
set_option Elab.async false
set_option linter.all false
set_option maxRecDepth 100000
set_option maxHeartbeats 4000000
namespace L3
open PySem PySem.Spec PyProof.Rows L2
/-! ### statements -/
inductive SR where
  | nx (ρ : DE) (S : Store) | rt (d : D) (S : Store) | bk (ρ : DE) (S : Store) | ct (ρ : DE) (S : Store) | exc (c : Str) (fs : List (Str × D)) (ρ : DE) (S : Store) | no
abbrev MS := DE → Store → SR
def R.sb {α : Type} (r : R α) (ρ : DE) (k : α → Store → SR) : SR := match r with
  | .ok a S => k a S
  | .exc c fs S => .exc c fs ρ S
  | .no => .no
def ws (K : PySem.W.Frag) (cl : Cl) (E : L2.St → XK) (φ : List Addr) (H : Hp) (r : SR) (D : Ends) : Prop := match r with
  | .nx ρ S => ∀ φ' σ' H', Fu K φ φ' H H' → RS K cl φ' S H' → RE K φ' H' ρ σ' → D.nx σ' H'
  | .bk ρ S => ∀ φ' σ' H', Fu K φ φ' H H' → RS K cl φ' S H' → RE K φ' H' ρ σ' → D.bk σ' H'
  | .ct ρ S => ∀ φ' σ' H', Fu K φ φ' H H' → RS K cl φ' S H' → RE K φ' H' ρ σ' → D.ct σ' H'
  | .rt d S => ∀ φ' v H', Fu K φ φ' H H' → RS K cl φ' S H' → RD K φ' H' d v → D.rt v H'
  | .exc c fs ρ S => ∀ φ' oe σ' H', Fu K φ φ' H H' → RS K cl φ' S H' → RE K φ' H' ρ σ' → RX K φ' H' fs oe → E σ' (.ref (cl c)) oe H'
  | .no => False
def FS (K : PySem.W.Frag) (cl : Cl) (E : L2.St → XK) (m : MS) : TS := fun D σ H => ∃ φ ρ S, RS K cl φ S H ∧ RE K φ H ρ σ ∧ ws K cl E φ H (m ρ S) D
section
variable {X : Cx} {K : PySem.W.Frag} {cl : Cl} {E : L2.St → XK} {φ φ1 : List Addr} {H H1 : Hp} {S S1 : Store} {ρ : DE} {σ : L2.St} {D D1 : Ends} {α β : Type} {rl : Rl α β}
theorem ws.fu {r : SR} (f : Fu K φ φ1 H H1) (h : ws K cl E φ H r D) : ws K cl E φ1 H1 r D := by
  cases r with
  | nx ρ S => exact fun φ' σ' H' g => h φ' σ' H' (f.trans g)
  | bk ρ S => exact fun φ' σ' H' g => h φ' σ' H' (f.trans g)
  | ct ρ S => exact fun φ' σ' H' g => h φ' σ' H' (f.trans g)
  | rt ρ S => exact fun φ' σ' H' g => h φ' σ' H' (f.trans g)
  | exc c fs ρ S => exact fun φ' oe σ' H' g => h φ' oe σ' H' (f.trans g)
  | no => exact h
theorem FS.mk {m : MS} (s : RS K cl φ S H) (e : RE K φ H ρ σ) (h : ws K cl E φ H (m ρ S) D) : FS K cl E m D σ H := ⟨φ, ρ, S, s, e, h⟩
theorem FS.step {m : DE → Store → R α} {k : α → Store → SR} {Q : β → Hp → Prop} (s : RS K cl φ S H) (e : RE K φ H ρ σ) (h : ws K cl E φ H ((m ρ S).sb ρ k) D)
    (hk : ∀ a S1 φ1 v H1, Fu K φ φ1 H H1 → RS K cl φ1 S1 H1 → RE K φ1 H1 ρ σ → rl φ1 H1 a v → ws K cl E φ1 H1 (k a S1) D → Q v H1) : F K cl rl E m σ H Q := by
  refine ⟨φ, ρ, S, s, e, ?_⟩
  cases q : m ρ S with
  | ok a S1 =>
    rw [q] at h
    exact fun φ' v H' f s' r => hk a S1 φ' v H' f s' (e.fu f) r (ws.fu f h)
  | exc c fs S1 =>
    rw [q] at h
    exact fun φ' oe H' f s' r => h φ' oe σ H' f s' (e.fu f) r
  | no =>
    rw [q] at h
    exact h
theorem ws.nxt (s : RS K cl φ S H) (e : RE K φ H ρ σ) (h : ws K cl E φ H (.nx ρ S) D) : D.nx σ H := h φ σ H Fu.refl s e
theorem PS.imp {st : Stmt} {t t' : TS} (h : PS X st t) (i : ∀ D σ H, t' D σ H → t D σ H) : PS X st t' := ⟨fun pins s σ H D I q => h.run pins s σ H D I (i D σ H q)⟩
theorem PSs.imp {st : List Stmt} {t t' : TS} (h : PSs X st t) (i : ∀ D σ H, t' D σ H → t D σ H) : PSs X st t' := ⟨fun pins s σ H D I q => h.run pins s σ H D I (i D σ H q)⟩
variable {st : Stmt} {rest body body2 : List Stmt} {e c o i : Expr} {m ma mb : ME} {mt : MT} {ms mu : MS} {pos pos' : Pos}
def nextM : MS := fun ρ S => .nx ρ S
def seqM (m k : MS) : MS := fun ρ S => match m ρ S with
  | .nx ρ' S' => k ρ' S'
  | r => r
theorem fss_nil : PSs X [] (FS K cl E nextM) := PSs.imp pss_nil fun D σ H ⟨φ, ρ, S, s, e, h⟩ => ws.nxt s e h
theorem seq_ws {r : SR} {k : MS} (h : ws K cl E φ H (match r with
  | .nx ρ' S' => k ρ' S'
  | r => r) D) : ws K cl E φ H r { D with nx := FS K cl E k D } := by
  cases r with
  | nx ρ' S' => exact fun φ' σ' H' f s' e' => ⟨φ', ρ', S', s', e', ws.fu f h⟩
  | _ => exact h
theorem fss_cons (h1 : PS X st (FS K cl E ms)) (h2 : PSs X rest (FS K cl E mu)) : PSs X (st :: rest) (FS K cl E (seqM ms mu)) :=
  PSs.imp (pss_cons h1 h2) fun D σ H ⟨φ, ρ, S, s, e, h⟩ => ⟨φ, ρ, S, s, e, seq_ws h⟩
theorem fss_one (h1 : PS X st (FS K cl E ms)) : PSs X [st] (FS K cl E ms) := pss_one h1
def bkM : MS := fun ρ S => .bk ρ S
def ctM : MS := fun ρ S => .ct ρ S
theorem fs_pass : PS X (.Pass pos) (FS K cl E nextM) := PS.imp ps_pass fun D σ H ⟨φ, ρ, S, s, e, h⟩ => ws.nxt s e h
theorem fs_break : PS X (.Break pos) (FS K cl E bkM) := PS.imp ps_break fun D σ H ⟨φ, ρ, S, s, e, h⟩ => h φ σ H Fu.refl s e
theorem fs_continue : PS X (.Continue pos) (FS K cl E ctM) := PS.imp ps_continue fun D σ H ⟨φ, ρ, S, s, e, h⟩ => h φ σ H Fu.refl s e
def dropM (m : ME) : MS := fun ρ S => (m ρ S).sb ρ fun _ S1 => .nx ρ S1
theorem drop_im : ∀ D σ H, FS K cl E (dropM m) D σ H → tDrop (FE K cl E m) D σ H := fun D σ H ⟨φ, ρ, S, s, e, h⟩ => FS.step s e h fun d S1 φ1 v H1 f1 s1 e1 r1 h1 => ws.nxt s1 e1 h1
def retM (m : ME) : MS := fun ρ S => (m ρ S).sb ρ fun d S1 => .rt d S1
theorem fs_ret (he : PE X e (FE K cl E m)) : PS X (.Return (some e) pos) (FS K cl E (retM m)) := PS.imp (ps_ret he) fun D σ H ⟨φ, ρ, S, s, e, h⟩ => FS.step s e h fun d S1 φ1 v H1 f1 s1 e1 r1 h1 => h1 φ1 v H1 Fu.refl s1 r1
def retNM : MS := fun _ S => .rt .non S
theorem fs_retN : PS X (.Return none pos) (FS K cl E retNM) := PS.imp ps_retN fun D σ H ⟨φ, ρ, S, s, e, h⟩ => h φ .non H Fu.refl s .non
def ifM (t : MT) (ms mu : MS) : MS := fun ρ S => (t ρ S).sb ρ fun k S1 => if k = true then ms ρ S1 else mu ρ S1
theorem fs_if (hc : PT X c (FT K cl E mt)) (ha : PSs X body (FS K cl E ms)) (hb : PSs X body2 (FS K cl E mu)) : PS X (.If c body body2 pos) (FS K cl E (ifM mt ms mu)) :=
  PS.imp (ps_if hc ha hb) fun D σ H ⟨φ, ρ, S, s, e, h⟩ => FS.step s e h fun k S1 φ1 v H1 f1 s1 e1 r1 h1 => by
    cases r1
    cases k
    · exact ⟨φ1, ρ, S1, s1, e1, h1⟩
    · exact ⟨φ1, ρ, S1, s1, e1, h1⟩
def setM (i : Nat) (m : ME) : MS := fun ρ S => (m ρ S).sb ρ fun d S1 => .nx (ρ.set i (some d)) S1
theorem set_im {i : Nat} : ∀ D σ H, FS K cl E (setM i m) D σ H → tAsg (FE K cl E m) (gName i) D σ H := fun D σ H ⟨φ, ρ, S, s, e, h⟩ => FS.step s e h fun d S1 φ1 v H1 f1 s1 e1 r1 h1 => ws.nxt s1 (e1.set i r1) h1
/-! ### targets -/
abbrev MG := L3.D → DE → Store → R DE
/-- the same but for the slots at vs -/
def Sa (vs : List Nat) (σ σ' : L2.St) : Prop := (∀ j : Nat, j ∉ vs → σ'[j]? = σ[j]?) ∧ σ'.length = σ.length
def wg (K : PySem.W.Frag) (cl : Cl) (vs : List Nat) (φ : List Addr) (H : Hp) (σ : L2.St) (r : R DE) (Q : L2.St → Hp → Prop) : Prop := match r with
  | .ok ρ S => ∀ φ' σ' H', Fu K φ φ' H H' → RS K cl φ' S H' → RE K φ' H' ρ σ' → Sa vs σ σ' → Q σ' H'
  | _ => False
/-- a target that stores to the slots at vs alone -/
def FG (K : PySem.W.Frag) (cl : Cl) (vs : List Nat) (m : MG) : TG := fun v σ H Q => ∃ φ ρ S d, RS K cl φ S H ∧ RE K φ H ρ σ ∧ RD K φ H d v ∧ wg K cl vs φ H σ (m d ρ S) Q
abbrev MGs := List L3.D → DE → Store → R DE
def FGs (K : PySem.W.Frag) (cl : Cl) (vs : List Nat) (m : MGs) : TGs := fun us σ H Q => ∃ φ ρ S ds, RS K cl φ S H ∧ RE K φ H ρ σ ∧ RDs K φ H ds us ∧ wg K cl vs φ H σ (m ds ρ S) Q
def nameG (i : Nat) : MG := fun d ρ S => .ok (ρ.set i (some d)) S
def nilG : MGs := fun ds ρ S => match ds with
  | [] => .ok ρ S
  | _ => .no
def consG (m : MG) (k : MGs) : MGs := fun ds ρ S => match ds with
  | d :: ds => (m d ρ S).bind fun ρ1 S1 => k ds ρ1 S1
  | [] => .no
def tupG (n : Nat) (k : MGs) : MG := fun d ρ S => match d with
  | .tup xs => if xs.length = n then k xs ρ S else .no
  | _ => .no
theorem name_ig {i : Nat} {vs : List Nat} (hi : i ∈ vs) : ∀ v σ H Q, FG K cl vs (nameG i) v σ H Q → gName i v σ H Q := fun v σ H Q ⟨φ, ρ, S, d, s, e, r, h⟩ =>
  h φ (σ.set i (some v)) H Fu.refl s (e.set i r) ⟨fun j hj => List.getElem?_set_ne fun z => hj (by rw [← z]; exact hi), List.length_set⟩
theorem nil_ig {vs : List Nat} : ∀ v σ H Q, FGs K cl vs nilG v σ H Q → gNil v σ H Q := fun v σ H Q ⟨φ, ρ, S, ds, s, e, r, h⟩ => by
  cases r with
  | nil => exact ⟨rfl, h φ σ H Fu.refl s e ⟨fun _ _ => rfl, rfl⟩⟩
  | cons _ _ => exact h.elim
theorem wg.fu {vs : List Nat} {σ1 : L2.St} {r : R DE} {Q : L2.St → Hp → Prop} (f : Fu K φ φ1 H H1) (g : Sa vs σ σ1) (h : wg K cl vs φ H σ r Q) : wg K cl vs φ1 H1 σ1 r Q := by
  cases r with
  | ok ρ S => exact fun φ' σ' H' f' s' e' g' => h φ' σ' H' (f.trans f') s' e' ⟨fun j hj => (g'.1 j hj).trans (g.1 j hj), g'.2.trans g.2⟩
  | exc _ _ _ => exact h
  | no => exact h
theorem cons_ig {vs : List Nat} {m : MG} {k : MGs} {g : TG} {gs : TGs} (h1 : ∀ v σ H Q, FG K cl vs m v σ H Q → g v σ H Q) (h2 : ∀ v σ H Q, FGs K cl vs k v σ H Q → gs v σ H Q) :
    ∀ v σ H Q, FGs K cl vs (consG m k) v σ H Q → gCons g gs v σ H Q := fun v σ H Q ⟨φ, ρ, S, ds, s, e, r, h⟩ => by
  cases r with
  | nil => exact h.elim
  | cons r1 r2 =>
    rename_i d u ds us _
    refine ⟨u, us, rfl, h1 _ _ _ _ ⟨φ, ρ, S, d, s, e, r1, ?_⟩⟩
    have h' : wg K cl vs φ H σ ((m d ρ S).bind fun ρ1 S1 => k ds ρ1 S1) Q := h
    cases q : m d ρ S with
    | ok ρ1 S1 =>
      rw [q] at h'
      exact fun φ' σ' H' f s' e' g' => h2 _ _ _ _ ⟨φ', ρ1, S1, ds, s', e', r2.fu f, wg.fu f g' h'⟩
    | exc _ _ _ => rw [q] at h'; exact h'
    | no => rw [q] at h'; exact h'
theorem tup_ig {vs : List Nat} {n : Nat} {k : MGs} {gs : TGs} (h2 : ∀ v σ H Q, FGs K cl vs k v σ H Q → gs v σ H Q) : ∀ v σ H Q, FG K cl vs (tupG n k) v σ H Q → gTup K n gs v σ H Q := fun v σ H Q ⟨φ, ρ, S, d, s, e, r, h⟩ => by
  cases r with
  | tup g1 g2 =>
    rename_i a us xs _
    have h' : wg K cl vs φ H σ (if xs.length = n then k xs ρ S else .no) Q := h
    by_cases c : xs.length = n
    · rw [if_pos c] at h'
      exact ⟨a, us, rfl, g1, by rw [← g2.len]; exact c, h2 _ _ _ _ ⟨φ, ρ, S, xs, s, e, g2, h'⟩⟩
    · rw [if_neg c] at h'; exact h'.elim
  | _ => exact h.elim
theorem PG.imp {t : Expr} {g g' : TG} (h : PG X t g) (i : ∀ v σ H Q, g' v σ H Q → g v σ H Q) : PG X t g' := ⟨fun pins s σ H v u Q I r q => h.run pins s σ H v u Q I r (i v σ H Q q)⟩
theorem PGs.imp {t : List Expr} {g g' : TGs} (h : PGs X t g) (i : ∀ v σ H Q, g' v σ H Q → g v σ H Q) : PGs X t g' := ⟨fun pins s σ H v u Q I r q => h.run pins s σ H v u Q I r (i v σ H Q q)⟩
/-- target = e -/
def asgM (m : ME) (g : MG) : MS := fun ρ S => (m ρ S).sb ρ fun d S1 => match g d ρ S1 with
  | .ok ρ1 S2 => .nx ρ1 S2
  | _ => .no
theorem asg_im {vs : List Nat} {g : MG} {tg : TG} (hg : ∀ v σ H Q, FG K cl vs g v σ H Q → tg v σ H Q) : ∀ D σ H, FS K cl E (asgM m g) D σ H → tAsg (FE K cl E m) tg D σ H := fun D σ H ⟨φ, ρ, S, s, e, h⟩ =>
  FS.step s e h fun d S1 φ1 v H1 f1 s1 e1 r1 h1 => hg _ _ _ _ ⟨φ1, ρ, S1, d, s1, e1, r1, by
    cases q : g d ρ S1 with
    | ok ρ1 S2 => rw [q] at h1; exact fun φ' σ' H' f s' e' _ => h1 φ' σ' H' f s' e'
    | exc c fs S2 => rw [q] at h1; exact h1
    | no => rw [q] at h1; exact h1⟩
/-- o.f = e -/
def fldM (C f : Str) (mo mv : ME) : MS := fun ρ S => (mv ρ S).sb ρ fun v S1 => (mo ρ S1).sb ρ fun d S2 => match insO S2 C d with
  | some fs => if fs.length < 1000 then .nx ρ (S2.set (refO d) (.ins C (putFD f v fs))) else .no
  | none => .no
theorem RA.len {κ : Type} {kvs : List (κ × L3.D)} {wss : List (κ × V)} (h : RA K φ H kvs wss) : kvs.length = wss.length := Paired.len h
theorem fldM_im {C f : Str} (c : Cls K (cl C)) (n : NoAttr K (cl C) f) : ∀ D σ H, FS K cl E (fldM C f ma mb) D σ H → sFld K (FE K cl E ma) (FE K cl E mb) f D σ H := fun D σ H ⟨φ, ρ, S, s, e, h⟩ =>
  FS.step s e h fun v S1 φ1 u H1 f1 s1 e1 r1 h1 => FS.step s1 e1 h1 fun d S2 φ2 w H2 f2 s2 e2 r2 h2 => by
    cases q : insO S2 C d with
    | none => rw [q] at h2; exact h2.elim
    | some fs =>
      rw [q] at h2
      dsimp only at h2
      by_cases z : fs.length < 1000
      · rw [if_pos z] at h2
        obtain ⟨k, a, dx, wss, rfl, hn, rfl, g1, g2⟩ := s2.insO r2 q
        have fp := Fu.put (h := HO.ins (cl C) dx (putF f u wss)) s2 hn
        exact ⟨a, _, dx, wss, rfl, g1, c, n, by rw [← RA.len g2]; exact z, h2 φ2 σ _ fp (s2.put hn (.ins upd_same ((RA.putF (r1.fu f2) g2).fu fp))) (e2.fu fp)⟩
      · rw [if_neg z] at h2; exact h2.elim
/-- o.f op= e, ints -/
def fldaugM (C f : Str) (g : Int → Int → Int) (mo mv : ME) : MS := fun ρ S => (mo ρ S).sb ρ fun d S1 => match (insO S1 C d).bind (fun fs => (fs.lookup f).bind intO) with
  | some i => (mv ρ S1).sb ρ fun v S2 => match intO v, insO S2 C d with
    | some j, some fs => if fs.length < 1000 then .nx ρ (S2.set (refO d) (.ins C (putFD f (.int (g i j)) fs))) else .no
    | _, _ => .no
  | none => .no
theorem fldaug_im {C f : Str} {g : Int → Int → Int} {rd : V → V → Hp → VK → Prop} (hrd : ∀ i j H Q, Q (V.int (g i j)) H → rd (.int i) (.int j) H Q) (c : Cls K (cl C)) (n : NoAttr K (cl C) f) :
    ∀ D σ H, FS K cl E (fldaugM C f g ma mb) D σ H → sFldAug K (FE K cl E ma) (FE K cl E mb) rd f D σ H := fun D σ H ⟨φ, ρ, S, s, e, h⟩ =>
  FS.step s e h fun d S1 φ1 w H1 f1 s1 e1 r1 h1 => by
    cases q : insO S1 C d with
    | none => rw [q] at h1; exact h1.elim
    | some fs =>
      rw [q] at h1
      simp only [Option.bind_some] at h1
      obtain ⟨k, a, dx, wss, rfl, hn, rfl, g1, g2⟩ := s1.insO r1 q
      have z := RA.look f g2
      cases q2 : fs.lookup f with
      | none => rw [q2] at h1; exact h1.elim
      | some d0 =>
        rw [q2] at h1 z
        simp only [Option.bind_some] at h1
        obtain ⟨v0, z1, z2⟩ := z.someD
        cases q3 : intO d0 with
        | none => rw [q3] at h1; exact h1.elim
        | some i =>
          rw [q3] at h1
          dsimp only at h1
          have ev := z2.intO q3
          subst ev
          refine ⟨a, _, dx, wss, _, rfl, g1, c, n, z1, FS.step s1 e1 h1 fun v S2 φ2 u H2 f2 s2 e2 r2 h2 => ?_⟩
          cases q4 : intO v with
          | none => rw [q4] at h2; exact h2.elim
          | some j =>
            rw [q4] at h2
            have eu := r2.intO q4
            subst eu
            cases q5 : insO S2 C (.ref k) with
            | none => rw [q5] at h2; exact h2.elim
            | some fs2 =>
              rw [q5] at h2
              dsimp only at h2
              obtain ⟨k', a', dx2, ws2, ek, hn2, ea, g3, g4⟩ := s2.insO (r1.fu f2) q5
              cases ek
              cases ea
              by_cases zz : fs2.length < 1000
              · rw [if_pos zz] at h2
                have fp := Fu.put (h := HO.ins (cl C) dx2 (putF f (.int (g i j)) ws2)) s2 hn2
                exact hrd _ _ _ _ ⟨dx2, ws2, g3, by rw [← RA.len g4]; exact zz, h2 φ2 σ _ fp (s2.put hn2 (.ins upd_same ((RA.putF (.int _) g4).fu fp))) (e2.fu fp)⟩
              · rw [if_neg zz] at h2; exact h2.elim
/-- o[i] = e of a list or a dict -/
def putO (o k v : L3.D) (S : Store) : Option Store := match o with
  | .ref n => match S[n]? with
    | some (.lst xs) => match k with
      | .int j => (ixN xs.length j).map fun j => S.set n (.lst (xs.set j v))
      | _ => none
    | some (.dic kvs) => (keyO k).bind fun k => if kvs.length < sizeLine then some (S.set n (.dic (putD kvs k v))) else none
    | _ => none
  | _ => none
def subM (mo mk mv : ME) : MS := fun ρ S => (mv ρ S).sb ρ fun v S1 => (mo ρ S1).sb ρ fun d S2 => (mk ρ S2).sb ρ fun k S3 => match putO d k v S3 with
  | some S4 => .nx ρ S4
  | none => .no
def rSetU : TSet := fun o i v H Q => rSetL o i v H Q ∨ rSetD o i v H Q
theorem set_u (hu : X.A.units + 1 < cLine) : PSet X rSetU := fun pins s σ H o i v ov iv u Q I ro ri rv h => by
  rcases h with h | h
  · exact set_list pins s σ H o i v ov iv u Q I ro ri rv h
  · exact set_dict hu pins s σ H o i v ov iv u Q I ro ri rv h
theorem sub_im {mc : ME} : ∀ D σ H, FS K cl E (subM ma mb mc) D σ H → tAsg (FE K cl E mc) (gSub (FE K cl E ma) (FE K cl E mb) rSetU) D σ H := fun D σ H ⟨φ, ρ, S, s, e, h⟩ =>
  FS.step s e h fun v S1 φ1 u H1 f1 s1 e1 r1 h1 => FS.step s1 e1 h1 fun d S2 φ2 w H2 f2 s2 e2 r2 h2 => FS.step s2 e2 h2 fun k S3 φ3 x H3 f3 s3 e3 r3 h3 => by
    have rv := (r1.fu f2).fu f3
    have rd := r2.fu f3
    cases q : putO d k v S3 with
    | none => rw [q] at h3; exact h3.elim
    | some S4 =>
      rw [q] at h3
      dsimp only at h3
      cases rd with
      | ref hn =>
        rename_i n a
        obtain ⟨o, o1, o2⟩ := s3.all hn
        unfold putO at q
        dsimp only at q
        rw [o1] at q
        cases o2 with
        | lst g1 g2 =>
          cases r3 with
          | int j =>
            dsimp only at q
            rename_i xs us
            cases q2 : ixN xs.length j with
            | none => rw [q2] at q; cases q
            | some i =>
              rw [q2] at q
              cases q
              have fp := Fu.put (h := HO.lst (us.set i u)) s3 hn
              exact .inl ⟨a, us, j, i, rfl, rfl, g1, by rw [← g2.len]; exact q2, h3 φ3 σ _ fp (s3.put hn (.lst upd_same ((g2.set rv i).fu fp))) (e3.fu fp)⟩
          | _ => cases q
        | dic g1 g2 =>
          rename_i kvs us
          dsimp only at q
          cases q2 : keyO k with
          | none => rw [q2] at q; cases q
          | some k' =>
            rw [q2] at q
            simp only [Option.bind_some] at q
            have ek := keyO_ok r3 q2
            subst ek
            by_cases z : kvs.length < sizeLine
            · rw [if_pos z] at q
              cases q
              have fp := Fu.put (h := HO.dK (putK us k' u)) s3 hn
              exact .inr ⟨a, _, rfl, DPut.k g1 (by rw [← RA.len g2]; exact z), h3 φ3 σ _ fp (s3.put hn (.dic upd_same ((RA.put k' rv g2).fu fp))) (e3.fu fp)⟩
            · rw [if_neg z] at q; cases q
        | ins g1 g2 => cases q
        | tab g1 g2 => cases q
      | _ => cases q
/-- x op= e at a name -/
def augM (i : Nat) (f : L3.D → L3.D → Store → OD) (m : ME) : MS := fun ρ S => (vE i ρ S).sb ρ fun x S1 => (m ρ S1).sb ρ fun y S2 => (R.ofO (f x y S2)).sb ρ fun z S3 => .nx (ρ.set i (some z)) S3
def rIp (K : PySem.W.Frag) (cl : Cl) (f : L3.D → L3.D → Store → OD) : TIp := rO2 K cl f
theorem ws.sbO {r : OD} {k : L3.D → Store → SR} (h : ws K cl E φ H ((R.ofO r).sb ρ k) D) : ∃ d S, r = some (d, S) ∧ ws K cl E φ H (k d S) D := by
  cases r with
  | none => exact h.elim
  | some p => exact ⟨p.1, p.2, rfl, h⟩
theorem aug_im {i : Nat} {f : L3.D → L3.D → Store → OD} : ∀ D σ H, FS K cl E (augM i f m) D σ H → tAug i (FE K cl E m) (rIp K cl f) D σ H := fun D σ H ⟨φ, ρ, S, s, e, h⟩ => by
  unfold augM at h
  cases q : vE i ρ S with
  | no => rw [q] at h; exact h.elim
  | exc c fs S' =>
    unfold vE at q
    split at q <;> cases q
  | ok x S' =>
    rw [q] at h
    unfold vE at q
    split at q
    · rename_i d hd
      cases q
      obtain ⟨v, h1, h2⟩ := e.at_ i x hd
      refine ⟨v, h1, FS.step s e h fun y S2 φ2 u H2 f2 s2 e2 r2 h3 => ?_⟩
      obtain ⟨z, S3, q3, h4⟩ := ws.sbO h3
      exact ⟨φ2, S2, x, y, s2, h2.fu f2, r2, z, S3, q3, fun φ' v' H' f' s' r' => h4 φ' _ H' f' s' ((e2.fu f').set i r')⟩
    · cases q
end
end L3
set_option Elab.async false
set_option linter.all false
set_option maxRecDepth 100000
set_option maxHeartbeats 4000000
namespace L3
open PySem PySem.Spec PyProof.Rows L2
/-! ### what is walked -/
structure ItD where
  items : List L3.D
  src : List (Nat × O)
def srcOk (src : List (Nat × O)) (S : Store) : Prop := ∀ p ∈ src, S[p.1]? = some p.2
def ItOk (K : PySem.W.Frag) (cl : Cl) (φ : List Addr) (H : Hp) (it : ItD) (J : It) : Prop :=
  ∀ φ2 S2 H2, Fu K φ φ2 H H2 → RS K cl φ2 S2 H2 → srcOk it.src S2 → (∀ i, i < it.items.length → J.go i H2) ∧ J.stop it.items.length H2 ∧
    ∀ i x H3, i < it.items.length → J.yld i H2 x H3 → Fu K φ2 φ2 H2 H3 ∧ RS K cl φ2 S2 H3 ∧ ∃ d, it.items[i]? = some d ∧ RD K φ2 H3 d x
abbrev MI := DE → Store → R ItD
abbrev FI (K : PySem.W.Frag) (cl : Cl) (E : L2.St → XK) (m : MI) : TI := F K cl (ItOk K cl) E m
section
variable {X : Cx} {K : PySem.W.Frag} {cl : Cl} {E : L2.St → XK} {φ φ1 : List Addr} {H H1 : Hp} {S S1 : Store} {ρ : DE} {σ : L2.St} {D D1 : Ends}
variable {tg e : Expr} {m : ME} {ma : MA} {pos p tpos : Pos}
theorem PI.imp {t t' : TI} (h : PI X tg e t) (i : ∀ σ H R, t' σ H R → t σ H R) : PI X tg e t' := ⟨fun pins s σ H R I q => h.run pins s σ H R I (i σ H R q)⟩
def rangeI1 (ms : MA) : MI := fun ρ S => (ms ρ S).bind fun ds S1 => match ds with
  | [.int j] => if -(2 ^ 62) ≤ j ∧ j < 2 ^ 62 then .ok ⟨(List.range j.toNat).map fun i : Nat => .int (0 + (i : Int)), []⟩ S1 else .no
  | _ => .no
def rangeI2 (ms : MA) : MI := fun ρ S => (ms ρ S).bind fun ds S1 => match ds with
  | [.int i, .int j] => if -(2 ^ 62) ≤ i ∧ i < 2 ^ 62 ∧ -(2 ^ 62) ≤ j ∧ j < 2 ^ 62 then .ok ⟨(List.range (j - i).toNat).map fun k : Nat => .int (i + (k : Int)), []⟩ S1 else .no
  | _ => .no
theorem range_ok (lo : Int) (n : Nat) : ItOk K cl φ H ⟨(List.range n).map fun i : Nat => .int (lo + (i : Int)), []⟩ (Itr lo n) := fun φ2 S2 H2 f s _ => by
  simp only [List.length_map, List.length_range]
  refine ⟨fun i h => h, Nat.le_refl _, fun i x H3 hi y => ?_⟩
  obtain ⟨rfl, rfl⟩ := y
  exact ⟨Fu.refl, s, _, by rw [List.getElem?_map, List.getElem?_range hi]; rfl, .int _⟩
theorem fi_range1 (h : PI X tg e (iRng1 (FA K cl E ma))) : PI X tg e (FI K cl E (rangeI1 ma)) := PI.imp h fun σ H R ⟨φ, ρ, S, s, e, h⟩ => F.step s e h fun ds S1 φ1 vs H1 f1 s1 e1 r1 h1 => by
  split at h1
  · rename_i j
    obtain ⟨v, rfl, r⟩ := RDs.one r1
    cases r
    by_cases c : -(2 ^ 62) ≤ j ∧ j < 2 ^ 62
    · rw [if_pos c] at h1
      exact ⟨j, rfl, c.1, c.2, wp.here (rl := ItOk K cl) s1 (range_ok 0 j.toNat) h1⟩
    · rw [if_neg c] at h1; exact h1.elim
  · exact h1.elim
theorem fi_range2 (h : PI X tg e (iRng2 (FA K cl E ma))) : PI X tg e (FI K cl E (rangeI2 ma)) := PI.imp h fun σ H R ⟨φ, ρ, S, s, e, h⟩ => F.step s e h fun ds S1 φ1 vs H1 f1 s1 e1 r1 h1 => by
  split at h1
  · rename_i i j
    obtain ⟨v, u, rfl, r, q⟩ := RDs.two r1
    cases r
    cases q
    by_cases c : -(2 ^ 62) ≤ i ∧ i < 2 ^ 62 ∧ -(2 ^ 62) ≤ j ∧ j < 2 ^ 62
    · rw [if_pos c] at h1
      exact ⟨i, j, rfl, c, wp.here (rl := ItOk K cl) s1 (range_ok i (j - i).toNat) h1⟩
    · rw [if_neg c] at h1; exact h1.elim
  · exact h1.elim
/-- a list, a tuple, a text -/
def itO (S : Store) : L3.D → Option ItD
  | .tup xs => some ⟨xs, []⟩
  | .lis xs => some ⟨xs, []⟩
  | .str z => some ⟨z.cps.toList.map fun c => .str ⟨#[c]⟩, []⟩
  | .ref n => (lstO S n).map fun xs => ⟨xs, [(n, .lst xs)]⟩
  | _ => none
def seqI (m : ME) : MI := fun ρ S => (m ρ S).bind fun d S1 => match itO S1 d with
  | some it => .ok it S1
  | none => .no
theorem lst_src {n : Nat} {xs : List L3.D} {a : Addr} (s : RS K cl φ S H) (hn : φ[n]? = some a) (h : srcOk [(n, O.lst xs)] S) : ∃ vs, H a = some (.lst vs) ∧ RDs K φ H xs vs := by
  have q : S[n]? = some (.lst xs) := h (n, .lst xs) (by simp)
  exact s.lst (by unfold lstO; rw [q]) hn
theorem itl_ok {ds : List L3.D} {src : List (Nat × O)} {a : Addr} (h : ∀ φ2 S2 H2, Fu K φ φ2 H H2 → RS K cl φ2 S2 H2 → srcOk src S2 → ∃ vs, SqL K H2 a vs ∧ RDs K φ2 H2 ds vs) : ItOk K cl φ H ⟨ds, src⟩ (Itl K a) := fun φ2 S2 H2 f s q => by
  obtain ⟨vs, h1, h2⟩ := h φ2 S2 H2 f s q
  have w := walk_list (K := K) (a := a) (xs := vs)
  refine ⟨fun i hi => w.goes i H2 (by rw [← h2.len]; exact hi) h1, by rw [h2.len]; exact w.stops H2 h1, fun i x H3 hi y => ?_⟩
  obtain ⟨rfl, e⟩ := w.yields i H2 x H3 (by rw [← h2.len]; exact hi) h1 y
  obtain ⟨d, d1, d2⟩ := h2.getV e
  exact ⟨Fu.refl, s, d, d1, d2⟩
theorem fi_seq (h : PE X e (FE X.K cl E m)) : PI X tg e (FI X.K cl E (seqI m)) := by
  refine ⟨fun pins s0 σ H R I q => ?_⟩
  obtain ⟨φ, ρ, S, s, ee, hh⟩ := id q
  have at_ : ∀ {Q : VK}, (∀ d S1 φ1 v H1, Fu X.K φ φ1 H H1 → RS X.K cl φ1 S1 H1 → RD X.K φ1 H1 d v → wp X.K cl (ItOk X.K cl) (E σ) φ1 H1 (match itO S1 d with
      | some it => .ok it S1
      | none => .no) R → m ρ S = .ok d S1 → Q v H1) → FE X.K cl E m σ H Q := fun {Q} hq => by
    refine ⟨φ, ρ, S, s, ee, ?_⟩
    unfold seqI at hh
    cases z : m ρ S with
    | ok d S1 =>
      rw [z] at hh
      exact fun φ' v H' f s' r => hq d S1 φ' v H' f s' r (wp.fu f hh) z
    | exc c fs S1 => rw [z] at hh; exact hh
    | no => rw [z] at hh; exact hh
  cases z : m ρ S with
  | no => unfold seqI at hh; rw [z] at hh; exact hh.elim
  | exc c fs S1 =>
    refine (pi_list h).run pins s0 σ H R I (at_ fun d S2 φ1 v H1 f s1 r w e => ?_)
    rw [z] at e; cases e
  | ok d S1 =>
    cases d with
    | tup xs =>
      refine (pi_tup h).run pins s0 σ H R I (at_ fun d S2 φ1 v H1 f s1 r w e => ?_)
      rw [z] at e
      cases e
      cases r with
      | tup h1 h2 =>
        rename_i a vs
        refine ⟨a, rfl, ⟨_, h1⟩, wp.here (rl := ItOk X.K cl) s1 ?_ w⟩
        intro φ2 S2 H2 f2 s2 _
        have h1' := f2.kt _ _ h1
        have h2' := h2.fu f2
        have w := walk_tup (K := X.K) (a := a) (xs := vs)
        refine ⟨fun i hi => w.goes i H2 (by rw [← h2.len]; exact hi) h1', by rw [show (xs.length) = vs.length from h2.len]; exact w.stops H2 h1', fun i x H3 hi y => ?_⟩
        obtain ⟨rfl, e⟩ := w.yields i H2 x H3 (by rw [← h2.len]; exact hi) h1' y
        obtain ⟨d, d1, d2⟩ := h2'.getV e
        exact ⟨Fu.refl, s2, d, d1, d2⟩
    | str x =>
      refine (pi_str h).run pins s0 σ H R I (at_ fun d S2 φ1 v H1 f s1 r w e => ?_)
      rw [z] at e
      cases e
      cases r with
      | str _ =>
        refine ⟨x, rfl, wp.here (rl := ItOk X.K cl) s1 ?_ w⟩
        intro φ2 S2 H2 f2 s2 _
        have w := walk_str (z := x)
        have hl : (x.cps.toList.map fun c => L3.D.str ⟨#[c]⟩).length = x.cps.size := by simp
        refine ⟨fun i hi => w.goes i H2 (by rw [← hl]; exact hi) trivial, by rw [hl]; exact w.stops H2 trivial, fun i y H3 hi yy => ?_⟩
        obtain ⟨rfl, c, e, rfl⟩ := w.yields i H2 y H3 (by rw [← hl]; exact hi) trivial yy
        exact ⟨Fu.refl, s2, .str ⟨#[c]⟩, by rw [List.getElem?_map, Array.getElem?_toList, e]; rfl, .str _⟩
    | ref n =>
      refine (pi_list h).run pins s0 σ H R I (at_ fun d S2 φ1 v H1 f s1 r w e => ?_)
      rw [z] at e
      cases e
      cases r with
      | ref hn =>
        rename_i a
        have w' : wp X.K cl (ItOk X.K cl) (E σ) φ1 H1 (match (lstO S1 n).map fun xs => (⟨xs, [(n, .lst xs)]⟩ : ItD) with
          | some it => .ok it S1
          | none => .no) R := w
        cases q1 : lstO S1 n with
        | none => rw [q1] at w'; exact w'.elim
        | some xs =>
          rw [q1] at w'
          obtain ⟨vs, g1, g2⟩ := s1.lst q1 hn
          refine ⟨a, rfl, ⟨_, SqL.of g1⟩, wp.here (rl := ItOk X.K cl) s1 (itl_ok fun φ2 S2 H2 f2 s2 q2 => ?_) w'⟩
          obtain ⟨vs', k1, k2⟩ := lst_src s2 (f2.get hn) q2
          exact ⟨vs', SqL.of k1, k2⟩
    | lis xs =>
      refine (pi_list h).run pins s0 σ H R I (at_ fun d S2 φ1 v H1 f s1 r w e => ?_)
      rw [z] at e
      cases e
      have keep : ∀ a, RD X.K φ1 H1 (.lis xs) (.ref a) → (∀ φ2 H2, Fu X.K φ1 φ2 H1 H2 → ∃ vs, SqL X.K H2 a vs ∧ RDs X.K φ2 H2 xs vs) := fun a r φ2 H2 f2 => by
        cases r.fu f2 with
        | lisR k1 k0 k2 => exact ⟨_, .inl k1, k2⟩
        | lisK k1 k2 => exact ⟨_, k1 H2, k2⟩
      cases r with
      | lisR h1 h0 h2 => exact ⟨_, rfl, ⟨_, .inl h1⟩, wp.here (rl := ItOk X.K cl) s1 (itl_ok fun φ2 S2 H2 f2 s2 _ => keep _ (.lisR h1 h0 h2) φ2 H2 f2) w⟩
      | lisK h1 h2 => exact ⟨_, rfl, ⟨_, h1 H1⟩, wp.here (rl := ItOk X.K cl) s1 (itl_ok fun φ2 S2 H2 f2 s2 _ => keep _ (.lisK h1 h2) φ2 H2 f2) w⟩
    | _ => unfold seqI at hh; rw [z] at hh; exact hh.elim
/-- pairs, each a new tuple -/
theorem pair_ok {J : It} {ds es : List L3.D} {src : List (Nat × O)} (h : ∀ φ2 S2 H2, Fu K φ φ2 H H2 → RS K cl φ2 S2 H2 → srcOk src S2 → ∃ (us ws : Nat → Option V) (G : Hp → Prop), Walk J (min ds.length es.length) G (YPair us ws) ∧ G H2 ∧
      (∀ i v, i < min ds.length es.length → us i = some v → ∃ d, ds[i]? = some d ∧ RD K φ2 H2 d v) ∧ (∀ i v, i < min ds.length es.length → ws i = some v → ∃ d, es[i]? = some d ∧ RD K φ2 H2 d v)) :
    ItOk K cl φ H ⟨(ds.zip es).map fun p => .tup [p.1, p.2], src⟩ J := fun φ2 S2 H2 f s q => by
  obtain ⟨us, ws, G, w, g, h1, h2⟩ := h φ2 S2 H2 f s q
  simp only [List.length_map, List.length_zip]
  refine ⟨fun i hi => w.goes i H2 hi g, w.stops H2 g, fun i x H3 hi y => ?_⟩
  obtain ⟨T, x1, x2, rfl, n, rfl, e1, e2⟩ := w.yields i H2 x H3 hi g y
  obtain ⟨d1, g1, g2⟩ := h1 i x1 hi e1
  obtain ⟨d2, g3, g4⟩ := h2 i x2 hi e2
  have f3 : Fu K φ2 φ2 H2 (upd H2 T (.tup [x1, x2])) := ⟨List.prefix_refl _, KTu.new n, fun a o ha e => ⟨ha, by rw [upd_ne fun z => by rw [z, n] at e; cases e]; exact e⟩⟩
  refine ⟨f3, ⟨s.len, s.nd, fun m a o e1 e2 => (s.obj m a o e1 e2).fu f3 (upd_ne fun z => s.fresh n (by rw [← z]; exact List.mem_of_getElem? e1))⟩, .tup [d1, d2], ?_, .tup (SqT.of upd_same) (.cons (g2.fu f3) (.cons (g4.fu f3) .nil))⟩
  have hz : (ds.zip es)[i]? = some (d1, d2) := List.getElem?_zip_eq_some.mpr ⟨g1, g3⟩
  rw [List.getElem?_map, hz]
  rfl
/-- two lists, two tuples -/
def zipI (ms : MA) : MI := fun ρ S => (ms ρ S).bind fun ds S1 => match ds with
  | [.tup xs, .tup ys] => .ok ⟨(xs.zip ys).map fun p => .tup [p.1, p.2], []⟩ S1
  | [.ref n, .ref k] => match lstO S1 n, lstO S1 k with
    | some xs, some ys => .ok ⟨(xs.zip ys).map fun p => .tup [p.1, p.2], [(n, .lst xs), (k, .lst ys)]⟩ S1
    | _, _ => .no
  | _ => .no
theorem fi_zip (h : PI X tg e (RZ.iZipA K (FA K cl E ma))) : PI X tg e (FI K cl E (zipI ma)) := PI.imp h fun σ H R ⟨φ, ρ, S, s, e, h⟩ => F.step s e h fun ds S1 φ1 vs H1 f1 s1 e1 r1 h1 => by
  split at h1
  · rename_i xs ys
    obtain ⟨v, u, rfl, r, q⟩ := RDs.two r1
    cases r with
    | tup g1 g2 =>
      cases q with
      | tup k1 k2 =>
        rename_i a us b wss
        refine ⟨_, _, _, _, rfl, .inr ⟨g1, k1, wp.here (rl := ItOk K cl) s1 (pair_ok fun φ2 S2 H2 f2 s2 _ => ?_) h1⟩⟩
        refine ⟨fun i => us[i]?, fun i => wss[i]?, fun H => SqT K H a us ∧ SqT K H b wss, ⟨fun i H hi z => ?_, fun H z => ⟨us, wss, z.1, z.2, by have := g2.len; have := k2.len; omega⟩, fun i H x H' hi z y => ?_⟩, ⟨f2.kt _ _ g1, f2.kt _ _ k1⟩,
          fun i v _ e => (g2.fu f2).getV e, fun i v _ e => (k2.fu f2).getV e⟩
        · have l1 := g2.len
          have l2 := k2.len
          have i1 : i < us.length := by omega
          have i2 : i < wss.length := by omega
          exact ⟨us, wss, us[i], wss[i], z.1, z.2, by simp [i1], by simp [i2]⟩
        · obtain ⟨T, x1, x2, q1, q2, q3, q4, q5⟩ := y
          exact ⟨T, x1, x2, q1, q2, q3, q4 us z.1, q5 wss z.2⟩
  · rename_i n k
    obtain ⟨v, u, rfl, r, q⟩ := RDs.two r1
    cases r with
    | ref hn =>
      cases q with
      | ref hk =>
        rename_i a b
        cases z1 : lstO S1 n with
        | none => rw [z1] at h1; exact h1.elim
        | some xs =>
          cases z2 : lstO S1 k with
          | none => rw [z1, z2] at h1; exact h1.elim
          | some ys =>
            rw [z1, z2] at h1
            obtain ⟨us, g1, g2⟩ := s1.lst z1 hn
            obtain ⟨wss, k1, k2⟩ := s1.lst z2 hk
            refine ⟨_, _, _, _, rfl, .inl ⟨SqL.of g1, SqL.of k1, wp.here (rl := ItOk K cl) s1 (pair_ok fun φ2 S2 H2 f2 s2 q2 => ?_) h1⟩⟩
            obtain ⟨us', m1, m2⟩ := s2.lst (n := n) (xs := xs) (by unfold lstO; rw [q2 (n, .lst xs) (by simp)]) (f2.get hn)
            obtain ⟨ws', m3, m4⟩ := s2.lst (n := k) (xs := ys) (by unfold lstO; rw [q2 (k, .lst ys) (by simp)]) (f2.get hk)
            refine ⟨fun i => us'[i]?, fun i => ws'[i]?, _, walk_zip (by rw [m2.len, m4.len]), ⟨SqL.of m1, SqL.of m3⟩, fun i v _ e => m2.getV e, fun i v _ e => m4.getV e⟩
  · exact h1.elim
def numsD (n : Nat) : List L3.D := (List.range n).map fun i : Nat => .int (i : Int)
/-- enumerate of a list -/
def enumI (ms : MA) : MI := fun ρ S => (ms ρ S).bind fun ds S1 => match ds with
  | [.ref n] => match lstO S1 n with
    | some xs => .ok ⟨((numsD xs.length).zip xs).map fun p => .tup [p.1, p.2], [(n, .lst xs)]⟩ S1
    | none => .no
  | _ => .no
theorem fi_enum (h : PI X tg e (iEnum K (FA K cl E ma))) : PI X tg e (FI K cl E (enumI ma)) := PI.imp h fun σ H R ⟨φ, ρ, S, s, e, h⟩ => F.step s e h fun ds S1 φ1 vs H1 f1 s1 e1 r1 h1 => by
  split at h1
  · rename_i n
    obtain ⟨v, rfl, r⟩ := RDs.one r1
    cases r with
    | ref hn =>
      rename_i a
      cases z1 : lstO S1 n with
      | none => rw [z1] at h1; exact h1.elim
      | some xs =>
        rw [z1] at h1
        obtain ⟨us, g1, g2⟩ := s1.lst z1 hn
        refine ⟨_, us, rfl, SqL.of g1, wp.here (rl := ItOk K cl) s1 (pair_ok fun φ2 S2 H2 f2 s2 q2 => ?_) h1⟩
        obtain ⟨us', m1, m2⟩ := lst_src s2 (f2.get hn) q2
        have hm : min (numsD xs.length).length xs.length = us'.length := by rw [show (numsD xs.length).length = xs.length by simp [numsD], Nat.min_self, m2.len]
        rw [hm]
        refine ⟨_, _, _, walk_enum, SqL.of m1, fun i v hi e => ?_, fun i v _ e => m2.getV e⟩
        cases e
        refine ⟨.int (i : Int), ?_, .int _⟩
        unfold numsD
        rw [List.getElem?_map, List.getElem?_range (by rw [m2.len]; exact hi)]
        rfl
  · exact h1.elim
/-! ### for -/
open Classical in
noncomputable def forL (src : List (Nat × O)) (g : MG) (body : MS) : List L3.D → MS
  | [], ρ, S => if srcOk src S then .nx ρ S else .no
  | d :: ds, ρ, S => if srcOk src S then (match g d ρ S with
      | .ok ρ1 S1 => (match body ρ1 S1 with
        | .nx ρ' S' => forL src g body ds ρ' S'
        | .ct ρ' S' => forL src g body ds ρ' S'
        | .bk ρ' S' => .nx ρ' S'
        | r => r)
      | _ => .no) else .no
noncomputable def forM (mi : MI) (g : MG) (body : MS) : MS := fun ρ S => (mi ρ S).sb ρ fun it S1 => forL it.src g body it.items ρ S1
theorem fs_for {iter : Expr} {body : List Stmt} {mi : MI} {g : MG} {tgg : TG} {vs : List Nat} {mb : MS} (h : PS X (.For tg iter body [] pos) (tFor (FI K cl E mi) tgg (FS K cl E mb)))
    (hg : ∀ v σ H Q, FG K cl vs g v σ H Q → tgg v σ H Q) : PS X (.For tg iter body [] pos) (FS K cl E (forM mi g mb)) := PS.imp h fun D σ H ⟨φ, ρ, S, s, e, h⟩ => FS.step s e h fun it S1 φ1 J H1 f1 s1 e1 r1 h1 => by
  refine ⟨fun i m σ H => m = it.items.length - i ∧ i ≤ it.items.length ∧ ∃ φ2 ρ2 S2, Fu K φ1 φ2 H1 H ∧ RS K cl φ2 S2 H ∧ RE K φ2 H ρ2 σ ∧ ws K cl E φ2 H (forL it.src g mb (it.items.drop i) ρ2 S2) D, ⟨_, rfl, Nat.zero_le _, φ1, ρ, S1, Fu.refl, s1, e1, h1⟩, ?_⟩
  rintro i m σ H ⟨rfl, hi, φ2, ρ2, S2, f2, s2, e2, h2⟩
  by_cases hlt : i < it.items.length
  · rw [List.drop_eq_getElem_cons hlt] at h2
    unfold forL at h2
    by_cases c : srcOk it.src S2
    · rw [if_pos c] at h2
      obtain ⟨q1, _, q3⟩ := r1 φ2 S2 H f2 s2 c
      refine .inr ⟨q1 i hlt, fun σ' H' => ∃ φ3 ρ3 S3, Fu K φ1 φ3 H1 H' ∧ RS K cl φ3 S3 H' ∧ RE K φ3 H' ρ3 σ' ∧ ws K cl E φ3 H' (forL it.src g mb (it.items.drop (i + 1)) ρ3 S3) D, fun σ' H' z => ⟨_, by omega, rfl, hlt, z⟩, fun x H' y => ?_⟩
      obtain ⟨k1, k2, d, k3, k4⟩ := q3 i x H' hlt y
      have ed : it.items[i] = d := by
        rw [List.getElem?_eq_getElem hlt] at k3
        exact Option.some.inj k3
      rw [ed] at h2
      refine hg _ _ _ _ ⟨φ2, ρ2, S2, d, k2, e2.fu k1, k4, ?_⟩
      cases z : g d ρ2 S2 with
      | ok ρ3 S3 =>
        rw [z] at h2
        dsimp only at h2
        intro φ' σ' H'' f' s' e' _
        refine ⟨φ', ρ3, S3, s', e', ?_⟩
        have h2' := ws.fu (k1.trans f') h2
        cases z2 : mb ρ3 S3 with
        | nx ρ4 S4 => rw [z2] at h2'; exact fun φ5 σ5 H5 f5 s5 e5 => ⟨φ5, ρ4, S4, ((f2.trans k1).trans f').trans f5, s5, e5, ws.fu f5 h2'⟩
        | ct ρ4 S4 => rw [z2] at h2'; exact fun φ5 σ5 H5 f5 s5 e5 => ⟨φ5, ρ4, S4, ((f2.trans k1).trans f').trans f5, s5, e5, ws.fu f5 h2'⟩
        | bk ρ4 S4 => rw [z2] at h2'; exact h2'
        | rt ρ4 S4 => rw [z2] at h2'; exact h2'
        | exc _ _ ρ4 S4 => rw [z2] at h2'; exact h2'
        | no => rw [z2] at h2'; exact h2'
      | exc _ _ _ => rw [z] at h2; exact h2.elim
      | no => rw [z] at h2; exact h2.elim
    · rw [if_neg c] at h2; exact h2.elim
  · have ei : i = it.items.length := by omega
    subst ei
    rw [List.drop_length] at h2
    unfold forL at h2
    by_cases c : srcOk it.src S2
    · rw [if_pos c] at h2
      exact .inl ⟨(r1 φ2 S2 H f2 s2 c).2.1, ws.nxt s2 e2 h2⟩
    · rw [if_neg c] at h2; exact h2.elim
/-! ### while -/
def whL (t : MT) (body : MS) : Nat → MS
  | 0, _, _ => .no
  | n + 1, ρ, S => (t ρ S).sb ρ fun k S1 => if k = true then (match body ρ S1 with
      | .nx ρ' S' => whL t body n ρ' S'
      | .ct ρ' S' => whL t body n ρ' S'
      | .bk ρ' S' => .nx ρ' S'
      | r => r) else .nx ρ S1
open Classical in
noncomputable def whileM (t : MT) (body : MS) : MS := fun ρ S => if h : ∃ n, whL t body n ρ S ≠ .no then whL t body (Classical.choose h) ρ S else .no
theorem fs_while {c : Expr} {body : List Stmt} {t : MT} {mb : MS} (h : PS X (.While c body [] pos) (tWhile (FT K cl E t) (FS K cl E mb))) : PS X (.While c body [] pos) (FS K cl E (whileM t mb)) := PS.imp h fun D σ H ⟨φ, ρ, S, s, e, h⟩ => by
  have go : ∃ n, ws K cl E φ H (whL t mb n ρ S) D := by
    unfold whileM at h
    by_cases c : ∃ n, whL t mb n ρ S ≠ .no
    · rw [dif_pos c] at h
      exact ⟨_, h⟩
    · rw [dif_neg c] at h; exact h.elim
  obtain ⟨n, h⟩ := go
  refine ⟨fun m σ H => ∃ φ2 ρ2 S2, RS K cl φ2 S2 H ∧ RE K φ2 H ρ2 σ ∧ ws K cl E φ2 H (whL t mb m ρ2 S2) D, ⟨n, φ, ρ, S, s, e, h⟩, ?_⟩
  rintro m σ H ⟨φ2, ρ2, S2, s2, e2, h2⟩
  cases m with
  | zero => exact h2.elim
  | succ m =>
    refine FS.step s2 e2 h2 fun k S3 φ3 k' H3 f3 s3 e3 r3 h3 => ?_
    cases r3
    cases k with
    | true =>
      refine ⟨fun σ' H' => ∃ φ4 ρ4 S4, RS K cl φ4 S4 H' ∧ RE K φ4 H' ρ4 σ' ∧ ws K cl E φ4 H' (whL t mb m ρ4 S4) D, fun σ' H' z => ⟨m, Nat.lt_succ_self _, z⟩, φ3, ρ2, S3, s3, e3, ?_⟩
      rw [if_pos rfl] at h3
      cases z2 : mb ρ2 S3 with
      | nx ρ4 S4 => rw [z2] at h3; exact fun φ5 σ5 H5 f5 s5 e5 => ⟨φ5, ρ4, S4, s5, e5, ws.fu f5 h3⟩
      | ct ρ4 S4 => rw [z2] at h3; exact fun φ5 σ5 H5 f5 s5 e5 => ⟨φ5, ρ4, S4, s5, e5, ws.fu f5 h3⟩
      | bk ρ4 S4 => rw [z2] at h3; exact h3
      | rt ρ4 S4 => rw [z2] at h3; exact h3
      | exc _ _ ρ4 S4 => rw [z2] at h3; exact h3
      | no => rw [z2] at h3; exact h3
    | false =>
      rw [if_neg Bool.false_ne_true] at h3
      exact ws.nxt s3 e3 h3
/-! ### list comprehensions -/
def wipeD (ρ : DE) : List Nat → DE
  | [] => ρ
  | v :: vs => (wipeD ρ vs).set v none
theorem RE.wipe (e : RE K φ H ρ σ) : ∀ vs, RE K φ H (wipeD ρ vs) (wipe σ vs)
  | [] => e
  | v :: vs => (RE.wipe e vs).forget v
theorem wipe_get (σ : L2.St) (j : Nat) : ∀ vs : List Nat, (L2.wipe σ vs)[j]? = if j ∈ vs then (if j < σ.length then some none else none) else σ[j]?
  | [] => rfl
  | v :: vs => by
    show ((L2.wipe σ vs).set v none)[j]? = _
    by_cases e : v = j
    · rw [if_pos (by rw [e]; exact List.mem_cons_self)]
      by_cases l : j < σ.length
      · rw [if_pos l, e, List.getElem?_set_self (by rw [wipe_length]; exact l)]
      · rw [if_neg l]
        exact List.getElem?_eq_none (by rw [List.length_set, wipe_length]; omega)
    · rw [List.getElem?_set_ne e, wipe_get σ j vs]
      by_cases m : j ∈ vs
      · rw [if_pos m, if_pos (List.mem_cons_of_mem _ m)]
      · rw [if_neg m, if_neg fun z => (List.mem_cons.mp z).elim (fun z => e z.symm) m]
theorem wipe_of {σ2 : L2.St} {vs us : List Nat} (h : Sa us (L2.wipe σ vs) σ2) (hu : ∀ v ∈ us, v ∈ vs) : L2.wipe σ2 vs = L2.wipe σ vs := List.ext_getElem? fun j => by
  rw [wipe_get, wipe_get, h.2, wipe_length]
  by_cases m : j ∈ vs
  · rw [if_pos m, if_pos m]
  · rw [if_neg m, if_neg m, h.1 j fun z => m (hu j z), wipe_get, if_neg m]
open Classical in
noncomputable def lcL (src : List (Nat × O)) (g : MG) (mt : MT) (me : ME) (ρ : DE) (n : Nat) : List L3.D → Store → R L3.D
  | [], S => if srcOk src S then .ok (.ref n) S else .no
  | d :: ds, S => if srcOk src S then (match g d ρ S with
      | .ok ρ1 S1 => (match mt ρ1 S1 with
        | .ok k S2 => if k = true then (match me ρ1 S2 with
            | .ok y S3 => (match lstO S3 n with
              | some acc => if acc.length < sizeLine then lcL src g mt me ρ n ds (S3.set n (.lst (acc ++ [y]))) else .no
              | none => .no)
            | _ => .no) else lcL src g mt me ρ n ds S2
        | _ => .no)
      | _ => .no) else .no
noncomputable def lcE (mi : MI) (vs : List Nat) (g : MG) (mt : MT) (me : ME) : ME := fun ρ S => (mi ρ S).bind fun it S1 => lcL it.src g mt me (wipeD ρ vs) S1.length it.items (S1 ++ [.lst []])
def yesT : MT := fun _ S => .ok true S
theorem yes_im {E0 : L2.St → XK} : ∀ σ H Q, FT K cl E0 yesT σ H Q → tYes σ H Q := fun σ H Q ⟨φ, ρ, S, s, _, h⟩ => wp.here (rl := RB) s rfl h
theorem lc_im {E0 : L2.St → XK} {mi : MI} {vs us : List Nat} {g : MG} {tgg : TG} {mt : MT} {tt : TT} {me : ME} (hg : ∀ v σ H Q, FG K cl us g v σ H Q → tgg v σ H Q) (hu : ∀ v ∈ us, v ∈ vs) (ht : ∀ σ H Q, FT K cl E0 mt σ H Q → tt σ H Q) :
    ∀ σ H Q, FE K cl E (lcE mi vs g mt me) σ H Q → tLc (FI K cl E mi) tgg tt (FE K cl E0 me) vs σ H Q := fun σ H Q ⟨φ, ρ, S, s, e, h⟩ => F.step s e h fun it S1 φ1 J H1 f1 s1 e1 r1 h1 D nD => by
  have sD : RS K cl (φ1 ++ [D]) (S1 ++ [.lst []]) (upd H1 D (.lst [])) := s1.new nD (.lst upd_same .nil)
  have fD : Fu K φ1 (φ1 ++ [D]) H1 (upd H1 D (.lst [])) := Fu.new nD
  have gD : (φ1 ++ [D])[S1.length]? = some D := by rw [← s1.len]; exact new_at φ1 D
  refine ⟨fun i m H => m = it.items.length - i ∧ i ≤ it.items.length ∧ ∃ φ2 S2, Fu K φ1 φ2 H1 H ∧ RS K cl φ2 S2 H ∧ φ2[S1.length]? = some D ∧ wp K cl (RD K) (E σ) φ2 H (lcL it.src g mt me (wipeD ρ vs) S1.length (it.items.drop i) S2) Q, ⟨_, rfl, Nat.zero_le _, _, _, fD, sD, gD, wp.fu fD h1⟩, ?_⟩
  rintro i m H ⟨rfl, hi, φ2, S2, f2, s2, g2, h2⟩
  by_cases hlt : i < it.items.length
  · rw [List.drop_eq_getElem_cons hlt] at h2
    unfold lcL at h2
    by_cases c : srcOk it.src S2
    · rw [if_pos c] at h2
      obtain ⟨q1, _, q3⟩ := r1 φ2 S2 H f2 s2 c
      refine .inr ⟨q1 i hlt, fun H' => ∃ φ3 S3, Fu K φ1 φ3 H1 H' ∧ RS K cl φ3 S3 H' ∧ φ3[S1.length]? = some D ∧ wp K cl (RD K) (E σ) φ3 H' (lcL it.src g mt me (wipeD ρ vs) S1.length (it.items.drop (i + 1)) S3) Q, fun H' z => ⟨_, by omega, rfl, hlt, z⟩, fun x H' y => ?_⟩
      obtain ⟨k1, k2, d, k3, k4⟩ := q3 i x H' hlt y
      have ed : it.items[i] = d := by
        rw [List.getElem?_eq_getElem hlt] at k3
        exact Option.some.inj k3
      rw [ed] at h2
      have ew : RE K φ2 H' (wipeD ρ vs) (wipe σ vs) := RE.wipe (e1.fu (f2.trans k1)) vs
      refine hg _ _ _ _ ⟨φ2, wipeD ρ vs, S2, d, k2, ew, k4, ?_⟩
      cases z : g d (wipeD ρ vs) S2 with
      | ok ρ3 S3 =>
        rw [z] at h2
        dsimp only at h2
        intro φ' σ' H'' f' s' e' same
        refine ⟨wipe_of same hu, ht _ _ _ ⟨φ', ρ3, S3, s', e', ?_⟩⟩
        · have h3 := wp.fu (k1.trans f') h2
          cases z2 : mt ρ3 S3 with
          | ok k S4 =>
            rw [z2] at h3
            dsimp only at h3
            intro φ4 k' H4 f4 s4 rk
            cases rk
            have h4 := wp.fu f4 h3
            cases k with
            | true =>
              rw [if_pos rfl] at h4 ⊢
              refine ⟨φ4, ρ3, S4, s4, e'.fu f4, ?_⟩
              cases z3 : me ρ3 S4 with
              | ok y S5 =>
                rw [z3] at h4
                dsimp only at h4
                intro φ5 v5 H5 f5 s5 r5
                have h5 := wp.fu f5 h4
                have g5 : φ5[S1.length]? = some D := f5.get (f4.get (f'.get (k1.get g2)))
                cases z4 : lstO S5 S1.length with
                | none => rw [z4] at h5; exact h5.elim
                | some acc =>
                  rw [z4] at h5
                  dsimp only at h5
                  obtain ⟨vacc, a1, a2⟩ := s5.lst z4 g5
                  by_cases c5 : acc.length < sizeLine
                  · rw [if_pos c5] at h5
                    have fp := Fu.put (h := HO.lst (vacc ++ [v5])) s5 g5
                    refine ⟨vacc, a1, by rw [← a2.len]; exact c5, φ5, S5.set S1.length (.lst (acc ++ [y])), ((((f2.trans k1).trans f').trans f4).trans f5).trans fp, s5.put g5 (.lst upd_same ((a2.app (.cons r5 .nil)).fu fp)), g5, wp.fu fp h5⟩
                  · rw [if_neg c5] at h5; exact h5.elim
              | exc _ _ _ => rw [z3] at h4; exact h4.elim
              | no => rw [z3] at h4; exact h4.elim
            | false =>
              rw [if_neg Bool.false_ne_true] at h4 ⊢
              exact ⟨φ4, S4, ((f2.trans k1).trans f').trans f4, s4, f4.get (f'.get (k1.get g2)), h4⟩
          | exc _ _ _ => rw [z2] at h3; exact h3.elim
          | no => rw [z2] at h3; exact h3.elim
      | exc _ _ _ => rw [z] at h2; exact h2.elim
      | no => rw [z] at h2; exact h2.elim
    · rw [if_neg c] at h2; exact h2.elim
  · have ei : i = it.items.length := by omega
    subst ei
    rw [List.drop_length] at h2
    unfold lcL at h2
    by_cases c : srcOk it.src S2
    · rw [if_pos c] at h2
      exact .inl ⟨(r1 φ2 S2 H f2 s2 c).2.1, wp.here (rl := RD K) s2 (.ref g2) h2⟩
    · rw [if_neg c] at h2; exact h2.elim
end
end L3
set_option Elab.async false
set_option linter.all false
set_option maxRecDepth 100000
set_option maxHeartbeats 4000000
namespace L3
open PySem PySem.Spec PyProof.Rows L2
section
variable {X : Cx} {K : PySem.W.Frag} {cl : Cl} {E : L2.St → XK} {φ φ1 : List Addr} {H H1 : Hp} {S S1 : Store} {ρ : DE} {σ : L2.St}
/-! ### a def's body -/
def fnM (k : Nat) (mb : MS) : Fn := fun ds S => match mb (ds.map some ++ List.replicate k none) S with
  | .nx _ S' => .ok .non S'
  | .rt d S' => .ok d S'
  | .exc c fs _ S' => .exc c fs S'
  | _ => .no
theorem body_of {n k : Nat} {mb : MS} {N : List Str} {vs : List V} {Q : VK} {XX : XK} (hk : N.length = n + k) (h : spM K cl n (fnM k mb) vs H Q XX) : FS K cl (fun _ => XX) mb { nx := fun _ H' => Q .non H', rt := Q } (L2.start N vs) H := by
  obtain ⟨φ, S, ds, s, r, hn, h⟩ := h
  have e : RE K φ H (ds.map some ++ List.replicate k none) (L2.start N vs) := by
    unfold L2.start
    rw [← r.len, hn, hk, Nat.add_sub_cancel_left]
    exact RE.app (RE.args r) (RE.nones k)
  refine ⟨φ, _, S, s, e, ?_⟩
  unfold fnM at h
  cases q : mb (ds.map some ++ List.replicate k none) S with
  | nx ρ' S' => rw [q] at h; exact fun φ' σ' H' f s' _ => h φ' .non H' f s' .non
  | rt d S' => rw [q] at h; exact fun φ' v H' f s' r => h φ' v H' f s' r
  | exc c fs ρ' S' => rw [q] at h; exact fun φ' oe σ' H' f s' _ r => h φ' oe H' f s' r
  | bk ρ' S' => rw [q] at h; exact (show False from h).elim
  | ct ρ' S' => rw [q] at h; exact (show False from h).elim
  | no => rw [q] at h; exact h
theorem spM_len {n : Nat} {m : Fn} {vs : List V} {Q : VK} {XX : XK} (h : spM K cl n m vs H Q XX) : vs.length = n := by
  obtain ⟨φ, S, ds, s, r, hn, h⟩ := h
  rw [← r.len, hn]
theorem ok_none {P : Program} {w : World} {mg : Str → Option Value} {base : Heap} {CX : CXT} {k n : Nat} {f : Addr} {fd : FuncData} {ps : List Str} (hn : n = ps.length := by rfl) : L2.FnOk P w K mg base CX k f fd ps (spM K cl n fun _ _ => .no) :=
  ⟨fun vs H Q E h => by rw [spM_len h, hn], fun A outer s H args us vs Q E _ _ _ _ h => by obtain ⟨_, _, _, _, _, _, h⟩ := h; exact h.elim⟩
/-! ### raise, try -/
def raiseM (c : Str) (fs : List (Str × L3.D)) : MS := fun ρ S => .exc c fs ρ S
theorem raise0_im {c : Str} {D : Ends} : FS K cl E (raiseM c []) D σ H → E σ (.ref (cl c)) none H := fun ⟨φ, ρ, S, s, e, h⟩ => h φ none σ H Fu.refl s e .non
def tryM (tab : List (Str × Bool)) (body suite : MS) : MS := fun ρ S => match body ρ S with
  | .exc c fs ρ' S' => match tab.lookup c with
    | some true => suite ρ' S'
    | some false => .exc c fs ρ' S'
    | none => .no
  | r => r
theorem lookup_mem {α β : Type} [BEq α] [LawfulBEq α] {c : α} {b : β} : ∀ {l : List (α × β)}, l.lookup c = some b → (c, b) ∈ l
  | [], h => by cases h
  | (d, k) :: l, h => by
    by_cases e : (c == d) = true
    · have := eq_of_beq e
      subst this
      simp only [List.lookup, e] at h
      cases h
      exact List.mem_cons_self
    · have e' : (c == d) = false := by simpa using e
      simp only [List.lookup, e'] at h
      exact List.mem_cons_of_mem _ (lookup_mem h)
theorem try_im {C : Value} {tab : List (Str × Bool)} {body suite : MS} {Wout : WX} {ts : Addr → Value → Option Addr → TS} (hx : ∀ p ∈ tab, PySem.W.exmOne K (.ref (cl p.1)) C = some p.2) (hs : ∀ a cls d D σ H, FS K cl (fun σ cls d H => Wout cls d σ H) suite D σ H → ts a cls d D σ H) :
    ∀ D σ H, FS K cl (fun σ cls d H => Wout cls d σ H) (tryM tab body suite) D σ H → FS K cl (fun σ cls d H => wOnly K C ts Wout D cls d σ H) body D σ H := fun D σ H ⟨φ, ρ, S, s, e, h⟩ => by
  refine ⟨φ, ρ, S, s, e, ?_⟩
  unfold tryM at h
  cases q : body ρ S with
  | exc c fs ρ' S' =>
    rw [q] at h
    dsimp only at h
    intro φ' oe σ' H' f s' e' r
    cases q2 : tab.lookup c with
    | none => rw [q2] at h; exact h.elim
    | some b =>
      rw [q2] at h
      refine ⟨b, hx _ (lookup_mem q2), fun eb a _ => ?_, fun eb => ?_⟩
      · subst eb
        exact hs _ _ _ _ _ _ ⟨φ', ρ', S', s', e', ws.fu f h⟩
      · subst eb
        exact h φ' oe σ' H' f s' e' r
  | nx _ _ => rw [q] at h; exact h
  | rt _ _ => rw [q] at h; exact h
  | bk _ _ => rw [q] at h; exact h
  | ct _ _ => rw [q] at h; exact h
  | no => rw [q] at h; exact h
/-! ### words for the printed texts -/
theorem setlc_im {i : Nat} {m : ME} {t : TE} (im : ∀ σ H Q, FE K cl E m σ H Q → t σ H Q) : ∀ D σ H, FS K cl E (setM i m) D σ H → tAsg t (gName i) D σ H := fun D σ H h => by
  have := set_im (K := K) (cl := cl) (E := E) D σ H h
  exact im _ _ _ this
theorem ft_imp {mt : MT} {e : Expr} (h : PT X e (FT K cl E mt)) : PTs X [e] (FT K cl E mt) := pts_one h
theorem passN {X : Cx} {E : XK} : L2.Passes L2.CX0 X E := fun _ _ _ _ _ _ _ h => h.elim
theorem room65 {k : Nat} {A : Around} (r : L2.Room k A) : A.units + 65 < cLine := by have := r.un; omega
def parM (i j : Nat) (ms : MA) : MS := fun ρ S => (ms ρ S).sb ρ fun ds S1 => match ds with
  | [a, b] => .nx ((ρ.set i (some a)).set j (some b)) S1
  | _ => .no
theorem par_im {i j : Nat} {ms : MA} : ∀ D σ H, FS K cl E (parM i j ms) D σ H → tPar i j (FA K cl E ms) D σ H := fun D σ H ⟨φ, ρ, S, s, e, h⟩ => FS.step s e h fun ds S1 φ1 vs H1 f1 s1 e1 r1 h1 => by
  split at h1
  · obtain ⟨u, v, rfl, r, q⟩ := RDs.two r1
    exact ⟨u, v, rfl, ws.nxt s1 ((e1.set i r).set j q) h1⟩
  · exact h1.elim
def par3M (i j l : Nat) (ms : MA) : MS := fun ρ S => (ms ρ S).sb ρ fun ds S1 => match ds with
  | [a, b, c] => .nx (((ρ.set i (some a)).set j (some b)).set l (some c)) S1
  | _ => .no
theorem par3_im {i j l : Nat} {ms : MA} : ∀ D σ H, FS K cl E (par3M i j l ms) D σ H → tPar3 i j l (FA K cl E ms) D σ H := fun D σ H ⟨φ, ρ, S, s, e, h⟩ => FS.step s e h fun ds S1 φ1 vs H1 f1 s1 e1 r1 h1 => by
  split at h1
  · cases r1 with
    | cons r t =>
      obtain ⟨u, v, rfl, q, q2⟩ := RDs.two t
      exact ⟨_, u, v, rfl, ws.nxt s1 (((e1.set i r).set j q).set l q2) h1⟩
  · exact h1.elim
theorem ip_of {op : Operator} {f : L3.D → L3.D → Store → OD} {f' : Int → Int → Int} (hf : ∀ i j S, f (.int i) (.int j) S = some (.int (f' i j), S)) (ho : PIp X op (ipI f')) (hn : ∀ d e S r, f d e S = some r → (∃ i, d = .int i) ∧ ∃ j, e = .int j) : PIp X op (rIp K cl f) := by
  intro pins s σ H x y v u Q I rx ry h
  obtain ⟨φ, S, d, e, s0, rd, re, w⟩ := h
  obtain ⟨d', S', q, _⟩ := id w
  obtain ⟨⟨i, rfl⟩, j, rfl⟩ := hn _ _ _ _ q
  cases rd
  cases re
  exact ho pins s σ H _ _ v u Q I rx ry ⟨i, j, rfl, rfl, w.val (hf i j S) s0 (.int _)⟩
/-- ints alone -/
def addI (d e : L3.D) (S : Store) : OD := i2 (fun _ _ => True) (fun i j => .int (i + j)) d e S
theorem i2_some {C : Int → Int → Prop} [∀ i j, Decidable (C i j)] {g : Int → Int → L3.D} {d e : L3.D} {r : L3.D × Store} (h : i2 C g d e S = some r) : (∃ i, d = .int i) ∧ ∃ j, e = .int j := by
  unfold i2 at h
  split at h
  · exact ⟨⟨_, rfl⟩, _, rfl⟩
  · cases h
theorem ip_addI : PIp X .Add (rIp K cl addI) := ip_of (f' := fun i j => i + j) (fun _ _ _ => rfl) ip_add fun d e S r h => i2_some h
theorem ip_subD : PIp X .Sub (rIp K cl subD) := ip_of (f' := fun i j => i - j) (fun _ _ _ => rfl) ip_sub fun d e S r h => i2_some h
/-- a text in a written dict of the top; its item -/
def inCE (kvs : List (Str × PyData)) (b : Bool) (m : ME) : ME := fun ρ S => (m ρ S).bind fun d S1 => match strO d with
  | some z => .ok (.bl ((kvs.lookup z).isSome != b)) S1
  | none => .no
theorem inC_im {m : ME} {a : Addr} {kvs : List (Str × PyData)} {b : Bool} : ∀ σ H Q, FE K cl E (inCE kvs b m) σ H Q → tOp (rInCD a kvs b) (FE K cl E m) (tC (.ref a)) σ H Q := fun σ H Q ⟨φ, ρ, S, s, e, h⟩ => F.step s e h fun d S1 φ1 v H1 f1 s1 e1 r1 h1 => by
  cases q : strO d with
  | none => rw [q] at h1; exact h1.elim
  | some z =>
    rw [q] at h1
    exact ⟨z, r1.strO q, rfl, wp.here (rl := RD K) s1 (.bl _) h1⟩
mutual
def ofP : PyData → L3.D
  | .none => .non
  | .bool b => .bl b
  | .int i => .int i
  | .str x => .str x
  | .tuple ds => .tup (ofPs ds)
  | .list ds => .lis (ofPs ds)
  | .dict _ => .non
def ofPs : List PyData → List L3.D
  | [] => []
  | d :: ds => ofP d :: ofPs ds
end
mutual
/-- no list within -/
def flatP : PyData → Bool
  | .list _ => false
  | .dict _ => false
  | .tuple ds => flatPs ds
  | _ => true
def flatPs : List PyData → Bool
  | [] => true
  | d :: ds => flatP d && flatPs ds
end
mutual
theorem ofP_ok : ∀ {v : V} {d : PyData}, Dp K H v d → flatP d = true → RD K φ H (ofP d) v
  | _, _, .non, _ => by simp only [ofP]; exact .non
  | _, _, .bl b, _ => by simp only [ofP]; exact .bl b
  | _, _, .int b, _ => by simp only [ofP]; exact .int b
  | _, _, .str b, _ => by simp only [ofP]; exact .str b
  | _, _, .tup h hs, f => by simp only [ofP]; simp only [flatP] at f; exact .tup h (ofPs_ok hs f)
  | _, _, .lst h hs, f => by simp [flatP] at f
theorem ofPs_ok : ∀ {v : List V} {d : List PyData}, DpAll K H v d → flatPs d = true → RDs K φ H (ofPs d) v
  | _, _, .nil, _ => by simp only [ofPs]; exact .nil
  | _, _, .cons h hs, f => by simp only [ofPs]; simp only [flatPs, Bool.and_eq_true] at f; exact .cons (ofP_ok h f.1) (ofPs_ok hs f.2)
end
def ixCE (kvs : List (Str × PyData)) (m : ME) : ME := fun ρ S => (m ρ S).bind fun d S1 => match (strO d).bind fun z => kvs.lookup z with
  | some c => .ok (ofP c) S1
  | none => .no
theorem ixC_im {m : ME} {a : Addr} {kvs : List (Str × PyData)} (hf : ∀ p ∈ kvs, flatP p.2 = true) : ∀ σ H Q, FE K cl E (ixCE kvs m) σ H Q → tOp (rIxCD K a kvs) (tC (.ref a)) (FE K cl E m) σ H Q := fun σ H Q ⟨φ, ρ, S, s, e, h⟩ => F.step s e h fun d S1 φ1 v H1 f1 s1 e1 r1 h1 => by
  cases q : strO d with
  | none => rw [q] at h1; exact h1.elim
  | some z =>
    rw [q] at h1
    simp only [Option.bind_some] at h1
    cases q2 : kvs.lookup z with
    | none => rw [q2] at h1; exact h1.elim
    | some c =>
      rw [q2] at h1
      exact ⟨z, c, rfl, r1.strO q, q2, fun v hv => wp.here (rl := RD K) s1 (ofP_ok (hv H1) (hf (z, c) (lookup_mem q2))) h1⟩
/-! ### what is thrown away -/
mutual
def D.lt (n : Nat) : L3.D → Prop
  | .ref k => k < n
  | .tup xs => D.lts n xs
  | .lis xs => D.lts n xs
  | _ => True
def D.lts (n : Nat) : List L3.D → Prop
  | [] => True
  | d :: ds => D.lt n d ∧ D.lts n ds
end
def O.lt (n : Nat) : O → Prop
  | .lst xs => D.lts n xs
  | .dic kvs => ∀ p ∈ kvs, D.lt n p.2
  | .ins _ fs => ∀ p ∈ fs, D.lt n p.2
  | .tab kvs => ∀ p ∈ kvs, D.lt n p.1 ∧ D.lt n p.2
/-- no address beyond the store -/
def Wf (S : Store) : Prop := ∀ o ∈ S, O.lt S.length o
mutual
theorem RD.bound {n : Nat} (hl : φ.length = n) : ∀ {d : L3.D} {v : V}, RD K φ H d v → D.lt n d
  | _, _, .non => by simp [D.lt]
  | _, _, .bl b => by simp [D.lt]
  | _, _, .int b => by simp [D.lt]
  | _, _, .str b => by simp [D.lt]
  | _, _, .tup h hs => by simp only [D.lt]; exact RDs.bound hl hs
  | _, _, .lisR h ho hs => by simp only [D.lt]; exact RDs.bound hl hs
  | _, _, .lisK h hs => by simp only [D.lt]; exact RDs.bound hl hs
  | _, _, .ref h => by simp only [D.lt]; rw [← hl]; exact (List.getElem?_eq_some_iff.mp h).1
theorem RDs.bound {n : Nat} (hl : φ.length = n) : ∀ {d : List L3.D} {v : List V}, RDs K φ H d v → D.lts n d
  | _, _, .nil => by simp [D.lts]
  | _, _, .cons h hs => by simp only [D.lts]; exact ⟨RD.bound hl h, RDs.bound hl hs⟩
end
theorem RA.bound {κ : Type} {n : Nat} (hl : φ.length = n) : ∀ {d : List (κ × L3.D)} {v : List (κ × V)}, RA K φ H d v → ∀ p ∈ d, D.lt n p.2
  | _, _, .nil, _, m => by cases m
  | _, _, .cons h hs, p, m => by
    rcases List.mem_cons.mp m with rfl | m
    · exact h.2.bound hl
    · exact RA.bound hl hs p m
theorem tab_bound {n : Nat} (hl : φ.length = n) : ∀ {kvs : List (L3.D × L3.D)} {es : List (NestedKey × Addr × V)}, Paired (fun (p : L3.D × L3.D) (x : NestedKey × Addr × V) => (NK p.1 = some x.1 ∧ x.1.depth ≤ 8) ∧ RD K φ H p.1 (.ref x.2.1) ∧ RD K φ H p.2 x.2.2) kvs es → ∀ p ∈ kvs, D.lt n p.1 ∧ D.lt n p.2
  | _, _, .nil, _, m => by cases m
  | _, _, .cons h hs, p, m => by
    rcases List.mem_cons.mp m with rfl | m
    · exact ⟨h.2.1.bound hl, h.2.2.bound hl⟩
    · exact tab_bound hl hs p m
theorem RS.wf (s : RS K cl φ S H) : Wf S := fun o m => by
  obtain ⟨n, h⟩ := List.mem_iff_getElem?.mp m
  obtain ⟨a, _, r⟩ := s.at h
  cases r with
  | lst _ g => exact g.bound s.len
  | dic _ g => exact g.bound s.len
  | ins _ g => exact g.bound s.len
  | tab _ g => exact tab_bound s.len g
mutual
theorem RD.take {n : Nat} : ∀ {d : L3.D} {v : V}, RD K φ H d v → D.lt n d → RD K (φ.take n) H d v
  | _, _, .non, _ => .non
  | _, _, .bl b, _ => .bl b
  | _, _, .int b, _ => .int b
  | _, _, .str b, _ => .str b
  | _, _, .tup h hs, l => by simp only [D.lt] at l; exact .tup h (RDs.take' hs l)
  | _, _, .lisR h ho hs, l => by simp only [D.lt] at l; exact .lisR h (fun m => ho (List.mem_of_mem_take m)) (RDs.take' hs l)
  | _, _, .lisK h hs, l => by simp only [D.lt] at l; exact .lisK h (RDs.take' hs l)
  | _, _, .ref h, l => by simp only [D.lt] at l; exact .ref (by rw [List.getElem?_take, if_pos l]; exact h)
theorem RDs.take' {n : Nat} : ∀ {d : List L3.D} {v : List V}, RDs K φ H d v → D.lts n d → RDs K (φ.take n) H d v
  | _, _, .nil, _ => .nil
  | _, _, .cons h hs, l => by simp only [D.lts] at l; exact .cons (RD.take h l.1) (RDs.take' hs l.2)
end
theorem RA.take {κ : Type} {n : Nat} : ∀ {d : List (κ × L3.D)} {v : List (κ × V)}, RA K φ H d v → (∀ p ∈ d, D.lt n p.2) → RA K (φ.take n) H d v
  | _, _, .nil, _ => .nil
  | _, _, .cons h hs, l => .cons ⟨h.1, h.2.take (l _ List.mem_cons_self)⟩ (RA.take hs fun p m => l p (List.mem_cons_of_mem _ m))
theorem tab_take {n : Nat} : ∀ {kvs : List (L3.D × L3.D)} {es : List (NestedKey × Addr × V)}, Paired (fun (p : L3.D × L3.D) (x : NestedKey × Addr × V) => (NK p.1 = some x.1 ∧ x.1.depth ≤ 8) ∧ RD K φ H p.1 (.ref x.2.1) ∧ RD K φ H p.2 x.2.2) kvs es → (∀ p ∈ kvs, D.lt n p.1 ∧ D.lt n p.2) → Paired (fun (p : L3.D × L3.D) (x : NestedKey × Addr × V) => (NK p.1 = some x.1 ∧ x.1.depth ≤ 8) ∧ RD K (φ.take n) H p.1 (.ref x.2.1) ∧ RD K (φ.take n) H p.2 x.2.2) kvs es
  | _, _, .nil, _ => .nil
  | _, _, .cons h hs, l => .cons ⟨h.1, h.2.1.take (l _ List.mem_cons_self).1, h.2.2.take (l _ List.mem_cons_self).2⟩ (tab_take hs fun p m => l p (List.mem_cons_of_mem _ m))
theorem RO.take {n : Nat} {a : Addr} {o : O} (r : RO K cl φ H a o) (h : O.lt n o) : RO K cl (φ.take n) H a o := by
  cases r with
  | lst h1 h2 => exact .lst h1 (h2.take' h)
  | dic h1 h2 => exact .dic h1 (h2.take h)
  | ins h1 h2 => exact .ins h1 (h2.take h)
  | tab h1 h2 => exact .tab h1 (tab_take h2 h)
theorem RS.take {G : Store} (s : RS K cl φ (S ++ G) H) (h : Wf S) : RS K cl (φ.take S.length) S H := by
  have hl : (φ.take S.length).length = S.length := by rw [List.length_take, s.len, List.length_append]; omega
  refine ⟨hl, s.nd.sublist (List.take_sublist _ _), fun n a o e1 e2 => ?_⟩
  have hn := (List.getElem?_eq_some_iff.mp e2).1
  rw [List.getElem?_take, if_pos hn] at e1
  exact (s.obj n a o e1 (by rw [List.getElem?_append_left hn]; exact e2)).take (h o (List.mem_of_getElem? e2))
theorem Fu.take {φ2 : List Addr} {n : Nat} (f : Fu K φ φ2 H H1) (h : φ.length ≤ n) : Fu K φ (φ2.take n) H H1 := by
  refine ⟨?_, f.kt, fun a o ha e => ?_⟩
  · obtain ⟨t, e⟩ := f.pre
    refine ⟨t.take (n - φ.length), ?_⟩
    rw [← e, List.take_append, List.take_of_length_le h]
  · obtain ⟨h1, h2⟩ := f.out a o ha e
    exact ⟨fun m => h1 (List.mem_of_mem_take m), h2⟩
/-- m' says as much as m: it may leave out what m leaves behind at the store's end -/
def Ref (n : Nat) (m' m : Fn) : Prop := ∀ ds S, ds.length = n → Wf S → D.lts S.length ds → match m' ds S with
  | .ok d S' => ∃ G, m ds S = .ok d (S' ++ G) ∧ (G = [] ∨ (Wf S' ∧ D.lt S'.length d ∧ S.length ≤ S'.length))
  | .exc c fs S' => ∃ G, m ds S = .exc c fs (S' ++ G) ∧ (G = [] ∨ (fs = [] ∧ Wf S' ∧ S.length ≤ S'.length))
  | .no => True
theorem Ref.sp {n : Nat} {m' m : Fn} (h : Ref n m' m) : ∀ vs H Q XX, spM K cl n m' vs H Q XX → spM K cl n m vs H Q XX := fun vs H Q XX ⟨φ, S, ds, s, r, hn, w⟩ => by
  refine ⟨φ, S, ds, s, r, hn, ?_⟩
  have hh := h ds S hn s.wf (r.bound s.len)
  cases q : m' ds S with
  | ok d S' =>
    rw [q] at hh w
    obtain ⟨G, e, g⟩ := hh
    rw [e]
    intro φ' v H' f s' rd
    rcases g with rfl | ⟨g1, g2, g3⟩
    · rw [List.append_nil] at s'
      exact w φ' v H' f s' rd
    · exact w _ v H' (f.take (by rw [s.len]; exact g3)) (s'.take g1) (rd.take g2)
  | exc c fs S' =>
    rw [q] at hh w
    obtain ⟨G, e, g⟩ := hh
    rw [e]
    intro φ' oe H' f s' rx
    rcases g with rfl | ⟨rfl, g1, g3⟩
    · rw [List.append_nil] at s'
      exact w φ' oe H' f s' rx
    · refine w _ oe H' (f.take (by rw [s.len]; exact g3)) (s'.take g1) ?_
      cases rx with
      | non => exact .non
      | fld h1 h2 => cases h2; exact .fld h1 .nil
  | no => rw [q] at w; exact w.elim
theorem _root_.L2.FnOk.ref {P : Program} {w : World} {mg : Str → Option Value} {base : Heap} {CX : CXT} {k n : Nat} {f : Addr} {fd : FuncData} {ps : List Str} {m' m : Fn} (F : L2.FnOk P w K mg base CX k f fd ps (spM K cl n m)) (h : Ref n m' m) :
    L2.FnOk P w K mg base CX k f fd ps (spM K cl n m') := F.imp h.sp
end
end L3
namespace L2
open PySem PySem.Spec PyProof.Rows
/-- isinstance of an object and its own class -/
theorem is_self {x C : Addr} {o : Obj} (hc : o.cls = .ref C) : Answers (fun s => s.heap.get? x = some o) (.ref x) (.ref C) true := by
  intro dep tk prog w A R s hs
  obtain ⟨h0, g, d, tt, os⟩ := s
  obtain ⟨p, hq⟩ := hs
  have LT : PySem.W.Looks (model prog w) h0 (typeOf (.ref x)) (.ref C) := hc ▸ (PySem.W.Looks.ld p).andThen .now
  unfold Builtin.«isinstance.nested»
  refine wpAny_bind (LT.at ?_)
  rw [if_pos (by simp)]
  exact wpAny_bind (wpAny_rule (wpAny_pure (hq tt)))
def rIsX (a : Addr) (cls : Value) : List V → Hp → VK → Prop := fun xs H Q => ∃ C, xs = [.ref a, .ref C] ∧ cls = .ref C ∧ Q (.bl true) H
theorem call_isiX {X : Cx} {a : Addr} {oe : Obj} {cls : Value} {d : Option Addr} {pn : List (Addr × Obj)} (hz : Zc cls d oe) : CallR (X.suite a ((a, oe) :: pn)) (.builtin "isinstance") (rIsX a cls) := by
  intro pins s σ H xs us Q I r h
  obtain ⟨C, rfl, rfl, q⟩ := h
  obtain ⟨u1, u2, rfl, r1, r2⟩ := vals2 r
  cases (show u1 = Value.ref a from r1)
  cases (show u2 = Value.ref C from r2)
  obtain ⟨ha, _⟩ := I.pin (a, oe) (List.mem_append_left _ List.mem_cons_self)
  exact call_isinstance (S := fun _ R s => s.heap.get? a = some oe ∧ ∀ tk, R (.ok (.ret (.bool true))) { s with toks := tk })
    (fun prog w A R s hs => isinstance_outer (is_self hz.1 0 _ prog w A R s hs) (fun z => nomatch z)) ⟨ha, fun tk => ⟨.bl true, H, I.tok tk, rfl, q⟩⟩
end L2
namespace L3
open PySem PySem.Spec PyProof.Rows L2
section
variable {X : Cx} {K : PySem.W.Frag} {cl : Cl} {E : L2.St → XK}
/-- try: body; except x as n: return isinstance(n, C) -/
def tryIsM (i : Nat) (tab : List (Str × Bool)) (C : Str) (body : MS) : MS := fun ρ S => match body ρ S with
  | .exc c fs ρ' S' => match tab.lookup c with
    | some true => if c = C ∧ i < ρ'.length then .rt (.bl true) S' else .no
    | some false => .exc c fs ρ' S'
    | none => .no
  | r => r
abbrev tsIs (i : Nat) (C : Addr) : Addr → Value → Option Addr → TS := fun a cls _ => tRet (tCB (rIsX a cls) (tCons (tVar i) (tCons (tC (.ref C)) tNil)))
theorem tryis_im {i : Nat} {C : Value} {N : Str} {tab : List (Str × Bool)} {body : MS} {Wout : WX} (hx : ∀ p ∈ tab, PySem.W.exmOne K (.ref (cl p.1)) C = some p.2) :
    ∀ D σ H, FS K cl (fun σ cls d H => Wout cls d σ H) (tryIsM i tab N body) D σ H → FS K cl (fun σ cls d H => wAs K C i (tsIs i (cl N)) Wout D cls d σ H) body D σ H := fun D σ H ⟨φ, ρ, S, s, e, h⟩ => by
  refine ⟨φ, ρ, S, s, e, ?_⟩
  unfold tryIsM at h
  cases q : body ρ S with
  | exc c fs ρ' S' =>
    rw [q] at h
    dsimp only at h
    intro φ' oe σ' H' f s' e' r
    cases q2 : tab.lookup c with
    | none => rw [q2] at h; exact h.elim
    | some b =>
      rw [q2] at h
      refine ⟨b, hx _ (lookup_mem q2), fun eb a _ => ?_, fun eb => ?_⟩
      · subst eb
        dsimp only at h
        by_cases g : c = N ∧ i < ρ'.length
        · rw [if_pos g] at h
          obtain ⟨rfl, hi⟩ := g
          have hi' : (σ'.set i (some (V.ref a)))[i]? = some (some (V.ref a)) := by
            rw [List.getElem?_set_self (by rw [← e'.len]; exact hi)]
          exact ⟨_, hi', cl c, rfl, rfl, h φ' _ H' f s' (.bl true)⟩
        · rw [if_neg g] at h; exact h.elim
      · subst eb
        exact h φ' oe σ' H' f s' e' r
  | nx _ _ => rw [q] at h; exact h
  | rt _ _ => rw [q] at h; exact h
  | bk _ _ => rw [q] at h; exact h
  | ct _ _ => rw [q] at h; exact h
  | no => rw [q] at h; exact h
/-- try: body; except x as n: return (t, isinstance(n, C)) -/
def tryPM (i : Nat) (tab : List (Str × Bool)) (t C : Str) (body : MS) : MS := fun ρ S => match body ρ S with
  | .exc c fs ρ' S' => match tab.lookup c with
    | some true => if c = C ∧ i < ρ'.length then .rt (.tup [.str t, .bl true]) S' else .no
    | some false => .exc c fs ρ' S'
    | none => .no
  | r => r
abbrev tsP (i : Nat) (t : Str) (C : Addr) : Addr → Value → Option Addr → TS := fun a cls _ => tRet (tTup (tCons (tC (.str t)) (tCons (tCB (rIsX a cls) (tCons (tVar i) (tCons (tC (.ref C)) tNil))) tNil)))
theorem tryp_im {i : Nat} {t : Str} {C : Value} {N : Str} {tab : List (Str × Bool)} {body : MS} {Wout : WX} (hx : ∀ p ∈ tab, PySem.W.exmOne K (.ref (cl p.1)) C = some p.2) :
    ∀ D σ H, FS K cl (fun σ cls d H => Wout cls d σ H) (tryPM i tab t N body) D σ H → FS K cl (fun σ cls d H => wAs K C i (tsP i t (cl N)) Wout D cls d σ H) body D σ H := fun D σ H ⟨φ, ρ, S, s, e, h⟩ => by
  refine ⟨φ, ρ, S, s, e, ?_⟩
  unfold tryPM at h
  cases q : body ρ S with
  | exc c fs ρ' S' =>
    rw [q] at h
    dsimp only at h
    intro φ' oe σ' H' f s' e' r
    cases q2 : tab.lookup c with
    | none => rw [q2] at h; exact h.elim
    | some b =>
      rw [q2] at h
      refine ⟨b, hx _ (lookup_mem q2), fun eb a _ => ?_, fun eb => ?_⟩
      · subst eb
        dsimp only at h
        by_cases g : c = N ∧ i < ρ'.length
        · rw [if_pos g] at h
          obtain ⟨rfl, hi⟩ := g
          have hi' : (σ'.set i (some (V.ref a)))[i]? = some (some (V.ref a)) := by
            rw [List.getElem?_set_self (by rw [← e'.len]; exact hi)]
          have h2 := ws.fu f h
          refine ⟨_, hi', cl c, rfl, rfl, by show 2 ≤ sizeLine; rw [PySem.sizeLine_eq]; decide, fun p np => ?_⟩
          exact wpO.newT (K := K) (cl := cl) (φ := φ') (r := some (.tup [.str t, .bl true], S')) ⟨_, _, rfl, fun φ v H f s r => h2 φ v H f s r⟩ rfl s' (.cons (.str _) (.cons (.bl true) .nil)) np
        · rw [if_neg g] at h; exact h.elim
      · subst eb
        exact h φ' oe σ' H' f s' e' r
  | nx _ _ => rw [q] at h; exact h
  | rt _ _ => rw [q] at h; exact h
  | bk _ _ => rw [q] at h; exact h
  | ct _ _ => rw [q] at h; exact h
  | no => rw [q] at h; exact h
/-- a def that lets no exception out -/
def noX (m : MS) : MS := fun ρ S => match m ρ S with
  | .exc _ _ _ _ => .no
  | r => r
theorem nox_im {E E' : L2.St → XK} {m : MS} : ∀ D σ H, FS K cl E (noX m) D σ H → FS K cl E' m D σ H := fun D σ H ⟨φ, ρ, S, s, e, h⟩ => by
  refine ⟨φ, ρ, S, s, e, ?_⟩
  unfold noX at h
  cases q : m ρ S with
  | exc c fs ρ' S' => rw [q] at h; exact h.elim
  | nx _ _ => rw [q] at h; exact h
  | rt _ _ => rw [q] at h; exact h
  | bk _ _ => rw [q] at h; exact h
  | ct _ _ => rw [q] at h; exact h
  | no => rw [q] at h; exact h
/-- a call that might raise, where nothing may be raised: nothing is -/
theorem passNF {P : Program} {w : World} {X : Cx} : L2.Passes (L2.CX P w) X (fun _ _ _ => False) := fun pins σ H s e s' I c => by
  obtain ⟨_, _, _, _, _, _, _, _, _, _, _, _, h⟩ := c
  exact h.elim
end
end L3
set_option Elab.async false
set_option linter.all false
set_option maxRecDepth 100000
set_option maxHeartbeats 4000000
/-! dict displays; several except clauses -/
namespace L3
open PySem PySem.Spec PyProof.Rows L2
section
variable {X : Cx} {K : PySem.W.Frag} {cl : Cl} {E : L2.St → XK} {φ : List Addr} {H : Hp} {S : Store} {ρ : DE} {σ : L2.St}
def mergeD (kvs : List (Key × L3.D)) : List (Key × L3.D) → List (Key × L3.D)
  | [] => kvs
  | p :: r => mergeD (putD kvs p.1 p.2) r
theorem RA.merge : ∀ {ks : List Key} {ds : List L3.D} {vs : List V} {kvs : List (Key × L3.D)} {ws : List (Key × V)}, ds.length = ks.length → RDs K φ H ds vs → RA K φ H kvs ws → RA K φ H (mergeD kvs (ks.zip ds)) (mergeK ws (ks.zip vs))
  | [], [], _, _, _, _, h, r => by cases h; exact r
  | [], _ :: _, _, _, _, h, _, _ => by simp at h
  | _ :: _, [], _, _, _, h, _, _ => by simp at h
  | k :: ks, d :: ds, _, _, _, h, .cons h1 h2, r => by
    have q := RA.merge (ks := ks) (ds := ds) (by simpa using h) h2 (RA.put k h1 r)
    exact q
/-- {k: v, ..}: the new dict stands first, empty -/
def fillD (n : Nat) (ks : List Str) (ds : List L3.D) (S1 : Store) : R L3.D := match S1[n]? with
  | some (.dic []) => if ds.length = ks.length ∧ ks.length ≤ 15 then .ok (.ref n) (S1.set n (.dic (mergeD [] ((ks.map fun k => (.inr k : Key)).zip ds)))) else .no
  | _ => .no
def dispE (ks : List Str) (ms : MA) : ME := fun ρ S => (ms ρ (S ++ [.dic []])).bind fun ds S1 => fillD S.length ks ds S1
theorem fu_new_ref {p : Addr} (s : RS K cl φ S H) : (φ ++ [p])[S.length]? = some p := by rw [← s.len]; exact new_at φ p
abbrev kmA (ms : List ME) : MA := ms.foldr consA nilA
theorem disp_pairs : ∀ (ks : List Str) (ms : List ME) {σ : L2.St} {H : Hp} {Q : List (V × V) → Hp → Prop}, ks.length = ms.length → FA K cl E (kmA ms) σ H (fun vs H' => Q ((ks.map V.str).zip vs) H') → tPairs ((ks.zip ms).map fun p => (tC (V.str p.1), FE K cl E p.2)) σ H Q
  | [], [], σ, H, Q, _, ⟨φ, ρ, S, s, _, h⟩ => wp.here (rl := RDs K) s .nil h
  | [], _ :: _, _, _, _, h, _ => by simp at h
  | _ :: _, [], _, _, _, h, _ => by simp at h
  | k :: ks, m :: ms, σ, H, Q, hl, ⟨φ, ρ, S, s, e, h⟩ => by
    show FE K cl E m σ H _
    refine F.step s e h fun d S1 φ1 v H1 f1 s1 e1 r1 h1 => ?_
    refine disp_pairs ks ms (by simpa using hl) ?_
    exact F.step s1 e1 h1 fun ds S2 φ2 vs H2 f2 s2 e2 r2 h2 => wp.here (rl := RDs K) s2 (.cons (r1.fu f2) r2) h2
theorem disp_im {ks : List Str} {ms : List ME} (hk : ks.length = ms.length) : ∀ σ H Q, FE K cl E (dispE ks (kmA ms)) σ H Q → tDisp ((ks.zip ms).map fun p => (tC (V.str p.1), FE K cl E p.2)) σ H Q := fun σ H Q ⟨φ, ρ, S, s, e, h⟩ p np => by
  refine disp_pairs ks ms hk ?_
  have s0 : RS K cl (φ ++ [p]) (S ++ [.dic []]) (upd H p (.dK [])) := s.new np (.dic upd_same .nil)
  have f0 : Fu K φ (φ ++ [p]) H (upd H p (.dK [])) := Fu.new np
  have hn := fu_new_ref (p := p) s
  have h' := wp.fu f0 h
  refine F.step s0 (e.fu f0) h' fun ds S1 φ1 vs H1 f1 s1 e1 r1 h1 => ?_
  have hn1 := f1.get hn
  unfold fillD at h1
  split at h1
  · rename_i hS
    by_cases z : ds.length = ks.length ∧ ks.length ≤ 15
    · rw [if_pos z] at h1
      obtain ⟨a, ha, ro⟩ := s1.at hS
      rw [hn1] at ha
      cases ha
      cases ro with
      | dic g1 g2 =>
        cases g2
        have hvl : vs.length = ks.length := by rw [← RDs.len r1]; exact z.1
        refine ⟨g1, (ks.map fun k => (.inr k : Key)).zip vs, ?_, by rw [List.length_zip, List.length_map]; omega, ?_⟩
        · have key : ∀ (ks : List Str) (vs : List V), (ks.map V.str).zip vs = ((ks.map fun k => (.inr k : Key)).zip vs).map fun kv => (kV kv.1, kv.2) := by
            intro ks
            induction ks with
            | nil => intro vs; rfl
            | cons k ks ih =>
              intro vs
              cases vs with
              | nil => rfl
              | cons v vs => simp only [List.map_cons, List.zip_cons_cons, ih vs]; rfl
          exact key ks vs
        · have fp := Fu.put s1 hn1 (h := .dK (mergeK [] ((ks.map fun k => (.inr k : Key)).zip vs)))
          exact h1 φ1 (.ref p) _ fp (RS.put s1 hn1 (.dic upd_same ((RA.merge (by rw [z.1, List.length_map]) r1 .nil).fu fp))) (.ref hn1)
    · rw [if_neg z] at h1; exact h1.elim
  · exact h1.elim
/-! ### several except clauses -/
def handleM : List (List (Str × Bool) × MS) → Str → List (Str × L3.D) → MS
  | [], c, fs, ρ, S => .exc c fs ρ S
  | (tab, suite) :: r, c, fs, ρ, S => match tab.lookup c with
    | some true => suite ρ S
    | some false => handleM r c fs ρ S
    | none => .no
def tryNM (hs : List (List (Str × Bool) × MS)) (body : MS) : MS := fun ρ S => match body ρ S with
  | .exc c fs ρ' S' => handleM hs c fs ρ' S'
  | r => r
inductive HM (K : PySem.W.Frag) (cl : Cl) (Wout : WX) : List (List (Str × Bool) × MS) → List (Value × (Addr → Value → Option Addr → TS)) → Prop
  | nil : HM K cl Wout [] []
  | cons {tab : List (Str × Bool)} {suite : MS} {C : Value} {ts : Addr → Value → Option Addr → TS} {hs : List (List (Str × Bool) × MS)} {l : List (Value × (Addr → Value → Option Addr → TS))} (hx : ∀ p ∈ tab, PySem.W.exmOne K (.ref (cl p.1)) C = some p.2)
      (hsu : ∀ a cls d D σ H, FS K cl (fun σ cls d H => Wout cls d σ H) suite D σ H → ts a cls d D σ H) (r : HM K cl Wout hs l) : HM K cl Wout ((tab, suite) :: hs) ((C, ts) :: l)
theorem handle_im {hs : List (List (Str × Bool) × MS)} {l : List (Value × (Addr → Value → Option Addr → TS))} {Wout : WX} (hm : HM K cl Wout hs l) {c : Str} {fs : List (Str × L3.D)} {oe : Option Addr} {D : Ends} (s : RS K cl φ S H) (e : RE K φ H ρ σ) (hx : ws K cl (fun σ cls d H => Wout cls d σ H) φ H (.exc c fs ρ S) D → Wout (.ref (cl c)) oe σ H)
    (h : ws K cl (fun σ cls d H => Wout cls d σ H) φ H (handleM hs c fs ρ S) D) : wMany K Wout D l (.ref (cl c)) oe σ H := by
  induction hm with
  | nil => exact hx h
  | @cons tab suite C ts hs l hx2 hsu hr ih =>
    unfold handleM at h
    cases q2 : tab.lookup c with
    | none => rw [q2] at h; exact h.elim
    | some b =>
      rw [q2] at h
      refine ⟨b, hx2 _ (lookup_mem q2), fun eb a _ => ?_, fun eb => ?_⟩
      · subst eb
        exact hsu _ _ _ _ _ _ ⟨φ, ρ, S, s, e, h⟩
      · subst eb
        exact ih h
theorem tryN_im {hs : List (List (Str × Bool) × MS)} {l : List (Value × (Addr → Value → Option Addr → TS))} {body : MS} {Wout : WX} (hm : HM K cl Wout hs l) :
    ∀ D σ H, FS K cl (fun σ cls d H => Wout cls d σ H) (tryNM hs body) D σ H → FS K cl (fun σ cls d H => wMany K Wout D l cls d σ H) body D σ H := fun D σ H ⟨φ, ρ, S, s, e, h⟩ => by
  refine ⟨φ, ρ, S, s, e, ?_⟩
  unfold tryNM at h
  cases q : body ρ S with
  | exc c fs ρ' S' =>
    rw [q] at h
    dsimp only at h
    intro φ' oe σ' H' f s' e' r
    exact handle_im hm s' e' (fun h2 => h2 φ' oe σ' H' Fu.refl s' e' r) (ws.fu f h)
  | nx _ _ => rw [q] at h; exact h
  | rt _ _ => rw [q] at h; exact h
  | bk _ _ => rw [q] at h; exact h
  | ct _ _ => rw [q] at h; exact h
  | no => rw [q] at h; exact h
end
end L3
set_option Elab.async false
set_option maxRecDepth 100000
set_option maxHeartbeats 4000000
/-! ### enumerate of a tuple; the greatest of pairs -/
namespace L2
open PySem PySem.Spec PyProof.Rows
open Sem (wp)
open AutoSeq1 (wpAny_loadPart')
theorem meets_enumerate_newT (l : Addr) (items : Array Value) (n : Nat) (dct : Option Addr) (sl : Array (Option Value)) :
    Meets (Builtin.«enumerate.__new__» ⟨[.type "enumerate", .ref l], []⟩) (fun _ R s => s.heap.get? l = some { cls := .type "tuple", dict := dct, data := .seq items n, slots := sl } ∧
      R (.ok (.ret (.ref (s.heap.push { cls := .type "tuple_iterator", data := .fields #[.ref l, .int 0 0] }).objs.size)))
        { s with heap := (s.heap.push { cls := .type "tuple_iterator", data := .fields #[.ref l, .int 0 0] }).push { cls := .type "enumerate", data := .fields #[.none, .bool false, .ref s.heap.objs.size, rawInt 0, .none, .none] } }) :=
  .of_wp fun prog w A R s h => by
    obtain ⟨hp, g, d, tk, os⟩ := s; obtain ⟨hl, h⟩ := h
    have hsub := sub_enumerate
    have hL : Heap.IsTuple (Shared.heap ⟨hp, g, d, tk, os⟩) l items := ⟨_, hl, rfl, n, rfl⟩
    wp_walk using wpAny_loadPart' hl
    refine wpAny_stack_any fun st => wpAny_pure ?_
    split
    · rename_i c _ _ _ _ _
      cases (c == Value.type "enumerate")
      · wp_walk using wpAny_loadPart' hl, wpAny_pyIter_tuple hL
        exact ⟨_, rfl, h⟩
      · wp_walk using wpAny_loadPart' hl, wpAny_pyIter_tuple hL
        exact ⟨_, rfl, h⟩
    · wp_walk using wpAny_loadPart' hl, wpAny_pyIter_tuple hL
      exact ⟨_, rfl, h⟩
section
variable {prog : Program} {w : World} {A : Around} {E : Value → Shared → Prop} {s : Shared}
theorem call_enumerate_tuple {l : Addr} {items : Array Value} {Q : Value → Shared → Prop} (hL : s.heap.IsTuple l items)
    (h : ∀ h', IsEnum h' (s.heap.objs.size + 1) s.heap.objs.size 0 .none → h'.IsTupleIter s.heap.objs.size l 0 → h'.objs.size = s.heap.objs.size + 2 →
      (∀ b o, s.heap.get? b = some o → h'.get? b = some o) → Q (.ref (s.heap.objs.size + 1)) { s with heap := h' }) :
    wpAny (model prog w) A (call (.type "enumerate") [.ref l]) Q E s := by
  obtain ⟨⟨c, dct, dt, sl⟩, hl, hc, n, hd⟩ := hL
  replace hc : c = .type "tuple" := hc
  replace hd : dt = .seq items n := hd
  subst hc hd
  refine callType_new F.called_enumerate (by decide) (F.typeCall_enumerate_1 _) (F.newCall_enumerate_1 _) (fun obj => F.args_object_init_2 obj _) F.entry_enumerate_new
    (meets_enumerate_newT l items n dct sl) ⟨hl, ?_⟩
  have hz : (s.heap.push { cls := .type "tuple_iterator", data := .fields #[.ref l, .int 0 0] }).objs.size = s.heap.objs.size + 1 := Heap.size_push ..
  show _ ∧ _
  rw [hz]
  have he : IsEnum ((s.heap.push { cls := .type "tuple_iterator", data := .fields #[.ref l, .int 0 0] }).push
      { cls := .type "enumerate", data := .fields #[.none, .bool false, .ref s.heap.objs.size, rawInt 0, .none, .none] }) (s.heap.objs.size + 1) s.heap.objs.size 0 .none := by
    have := Heap.get?_push_size (s.heap.push { cls := .type "tuple_iterator", data := .fields #[.ref l, .int 0 0] })
      (o := { cls := .type "enumerate", data := .fields #[.none, .bool false, .ref s.heap.objs.size, rawInt 0, .none, .none] }) rfl
    rw [hz] at this; exact this
  refine ⟨⟨_, he, rfl⟩, h _ he ⟨_, Heap.get?_push_of_some _ (Heap.get?_push_size _ rfl), rfl, rfl⟩ (by rw [Heap.size_push, hz]) fun b o x => Heap.get?_push_of_some _ (Heap.get?_push_of_some _ x)⟩
end
/-- the tuple at a, each item in a new pair -/
def Itet (K : PySem.W.Frag) (a : Addr) : It :=
  ⟨fun i H => ∃ (xs : List V) (x : V), SqT K H a xs ∧ xs[i]? = some x, fun i H v H' => ∃ T x, v = .ref T ∧ H T = none ∧ H' = upd H T (.tup [.int (i : Nat), x]) ∧ ∀ xs, SqT K H a xs → xs[i]? = some x, fun i H => ∃ xs : List V, SqT K H a xs ∧ xs.length = i⟩
theorem turn_enumT {P : Program} {w : World} {K : PySem.W.Frag} {elts : List Expr} {kk : Nat} {tpos : Pos} (a e it : Addr) :
    Turn P w K (.Tuple elts kk tpos) (Itet K a) [e, it] e (fun i h => (∃ old, IsEnum h e it ((i : Nat) : Int) old) ∧ h.IsTupleIter it a i ∧ e ≠ it) where
  mem := by simp
  obj := fun i h st b hb => by
    obtain ⟨⟨old, he⟩, ⟨o, ho, hc, hd⟩, _⟩ := st
    have e' : b = e ∨ b = it := by simpa using hb
    rcases e' with z | z
    · rw [z]; exact ⟨_, he, fun v q => nomatch q⟩
    · rw [z]; exact ⟨o, ho, fun v q => by rw [hd] at q; cases q⟩
  keep := fun i h h' st k => let ⟨⟨old, he⟩, hi, hne⟩ := st; ⟨⟨old, k e (by simp) _ he⟩, hi.at fun o q => k it (by simp) o q, hne⟩
  item := by
    intro X hP hw hK hc i pins s σ H E I hf st hg
    subst hP hw hK
    obtain ⟨⟨old, he⟩, hit, hne⟩ := st
    obtain ⟨xs, x, hq, hx⟩ := hg
    obtain ⟨its, rv, p, hz⟩ := I.tuple hq
    obtain ⟨u, hu, ru⟩ := rv.get hx
    have pT : s.heap.IsTuple a its.toArray := p
    have hel : e < s.heap.objs.size := Heap.lt_size he
    have hil : it < s.heap.objs.size := by obtain ⟨_, q, _⟩ := hit; exact Heap.lt_size q
    have hai : a ≠ it := fun z => by
      obtain ⟨o1, e1, c1, _⟩ := pT
      obtain ⟨o2, e2, c2, _⟩ := hit
      rw [z, e2] at e1
      cases e1
      rw [c2] at c1
      exact absurd c1 (by decide)
    have hae : e ≠ a := fun z => by
      obtain ⟨o1, e1, c1, _⟩ := pT
      rw [← z, he] at e1
      cases e1
      exact absurd (show Value.type "enumerate" = Value.type "tuple" from c1) (by decide)
    have D := Draws.tuple (prog := X.prog) (w := X.w) (A := X.A.in1) (I.ok.hd hc) it a hai its.toArray
    have hi : i < its.toArray.size := by
      have := (List.getElem?_eq_some_iff.mp hu).1
      simpa using this
    refine wpAny_pyNext_enum_itemC D he ⟨hit, pT⟩ hi hne (by simp [hne, hae]) fun x' h' tk hP ho hs' hT hsz hk => ?_
    have ex : x' = u := by
      have : its.toArray[i]? = some x' := hP
      simp at this
      rw [hu] at this
      exact (Option.some.inj this).symm
    subst ex
    refine ⟨_, rfl, wpAny_letOwnedTupleGo_enum (s := { s with heap := h', toks := tk + 1 }) ho fun h'' he' sb => ?_⟩
    have hT2 : h''.get? s.heap.objs.size = some { cls := .type "tuple", data := .seq #[.int i tk, x'] } := (sb.2 _ (Nat.ne_of_gt hel)).trans hT
    have new : ObjOk X.prog X.w (upd H s.heap.objs.size (.tup [.int (i : Nat), x])) h'' s.heap.objs.size (.tup [.int (i : Nat), x]) :=
      ⟨by show 2 ≤ sizeLine; decide, [.int i tk, x'], .cons ⟨_, rfl⟩ (.cons ru .nil), ⟨_, hT2, rfl, _, rfl⟩⟩
    have I1 : Inv X pins σ (upd H s.heap.objs.size (.tup [.int (i : Nat), x])) { s with heap := h'', toks := tk + 1 } :=
      I.turnedNew (ch := [e, it]) (fun b ob hb q => (sb.2 b (fun z => hb (by simp [z]))).trans (hk b ob (fun z => hb (by simp [z])) (fun z => hb (by simp [z])) q)) hf (Nat.le_refl _) new
    refine ⟨.ref s.heap.objs.size, _, I1, rfl, ⟨_, x, rfl, I.hok.fresh (Nat.le_refl _), rfl, fun ys hy => by rw [I.tuple_inj hy hq]; exact hx⟩, ⟨⟨x', ?_⟩, hs'.1.at fun o q => (sb.2 it (Ne.symm hne)).trans q, hne⟩, fun b hb => ?_⟩
    · have e1 : ((i + 1 : Nat) : Int) = (i : Int) + 1 := by omega
      rw [e1]; exact he'
    · have hb' : b < s.heap.objs.size := by
        have e' : b = e ∨ b = it := by simpa using hb
        rcases e' with z | z
        · rw [z]; exact hel
        · rw [z]; exact hil
      rw [upd_ne (Nat.ne_of_lt hb')]
      exact (hf b hb).1
  done := by
    intro X hP hw hK hc i pins s σ H E I hf st hg
    subst hP hw hK
    obtain ⟨⟨old, he⟩, hit, hne⟩ := st
    obtain ⟨xs, hq, hx⟩ := hg
    obtain ⟨its, rv, p, hz⟩ := I.tuple hq
    obtain ⟨f0, f1, f2, f3, f4, f5⟩ := hf it (by simp)
    have hl := rv.length
    have pT : s.heap.IsTuple a its.toArray := p
    have hai : a ≠ it := fun z => by
      obtain ⟨o1, e1, c1, _⟩ := pT
      obtain ⟨o2, e2, c2, _⟩ := hit
      rw [z, e2] at e1
      cases e1
      rw [c2] at c1
      exact absurd c1 (by decide)
    have D := Draws.tuple (prog := X.prog) (w := X.w) (A := X.A.in1) (I.ok.hd hc) it a hai its.toArray
    have hn : its.toArray.size = i := by simp; omega
    exact wpAny_pyNext_enum_endD D he (hst := ⟨by rw [hn]; exact hit, pT⟩) fun h' eb => ⟨rfl, I.turned (t' := s.toks) (fun b o hb q => eb b o hb q) f0 f1 f3 f4 f5⟩
  self := fun A i s Q E st h => let ⟨⟨_, he⟩, _⟩ := st; wpAny_pyIter_enum he h
def iEnumT (K : PySem.W.Frag) (ta : TA) : TI := fun σ H R => ta σ H fun vs H1 => ∃ a xs, vs = [.ref a] ∧ SqT K H1 a xs ∧ R (Itet K a) H1
theorem pi_enumT {X : Cx} {e : Expr} {ta : TA} {p pos tpos : Pos} {elts : List Expr} {kk : Nat} (hg : Gl X "enumerate") (hm : X.mg "enumerate" = none) (ha : PA X [e] ta) (hs : starEach [e] X.env = [(false, eval e X.env)] := by rfl) :
    PI X (.Tuple elts kk tpos) (.Call (.Name "enumerate" p) [e] [] pos) (iEnumT X.K ta) := by
  refine ⟨fun pins s σ H R I h => ?_⟩
  refine Call_ (ld_blt I hg hm boot_enumerate (PyProof.Rows.callWith_type1 (thn (ha.run pos pins s σ H _ I h) fun us s1 ⟨vs, H1, I1, r1, q1⟩ => ?_) hs rfl))
  obtain ⟨a, xs, ex, hq, q⟩ := q1
  subst ex
  cases r1 with
  | cons r rr =>
    cases rr
    cases r
    obtain ⟨its, rv, p', hz⟩ := I1.tuple hq
    refine call_enumerate_tuple (show s1.heap.IsTuple a its.toArray from p') fun h' he hit hsz hk => wpAny_pyIter_enum he ?_
    have I2 : Inv X pins σ H1 { s1 with heap := h' } := I1.kept (t' := s1.toks) hk
    refine ⟨s1.heap.objs.size + 1, [s1.heap.objs.size + 1, s1.heap.objs.size], _, _, H1, rfl, I2, turn_enumT a (s1.heap.objs.size + 1) s1.heap.objs.size, ⟨⟨.none, he⟩, hit, Nat.succ_ne_self _⟩, fun b hb => ?_, q⟩
    have e' : b = s1.heap.objs.size + 1 ∨ b = s1.heap.objs.size := by simpa using hb
    have hle : s1.heap.objs.size ≤ b := by
      rcases e' with z | z
      · rw [z]; exact Nat.le_add_right _ _
      · rw [z]; exact Nat.le_refl _
    exact I1.fpOk hle (I1.hok.fresh hle)
theorem walk_enumT {K : PySem.W.Frag} {a : Addr} {xs : List V} : Walk (Itet K a) xs.length (fun H => SqT K H a xs) (YPair (fun i => some (.int (i : Nat))) (fun i => xs[i]?)) := by
  refine ⟨fun i _ hi q => ⟨xs, xs[i], q, by simp [hi]⟩, fun _ q => ⟨xs, q, rfl⟩, fun i H v H' _ q y => ?_⟩
  obtain ⟨T, x, h1, h2, h3, h4⟩ := y
  exact ⟨T, .int (i : Nat), x, h1, h2, h3, rfl, h4 xs q⟩
end L2
namespace L2
open PySem PySem.Spec PyProof.Rows PySem.W
section
variable {prog : Program} {w : World} {A : Around} {E : Value → Shared → Prop} {s : Shared}
theorem call_max_twoH {a b : Value} {Q : Value → Shared → Prop}
    (h : wpAny (model prog w) A.in1 (pyIter (.ref s.heap.objs.size)) (fun it s₂ => ∃ I fp wr G n P St H bt, it = .ref I ∧ WalksS prog w A.in1 I fp wr G n P St ∧ St 0 s₂ ∧ (∀ b ∈ fp, b < s₂.heap.objs.size) ∧ 0 < n ∧
      (∀ b o, H.get? b = some o → b ∉ wr) ∧ (∀ b o, H.get? b = some o → s₂.heap.get? b = some o) ∧ CmpIn prog w A.in1 .Gt H P bt ∧ ∀ v s', P (argBest bt (n - 1)) v → Moved wr G s₂ s' → Q v s') E { s with heap := s.heap.push { cls := .type "tuple", data := .seq #[a, b] } }) :
    wpAny (model prog w) A (call (.builtin "max") [a, b]) Q E s := by
  have hname : (toString "max" ++ toString ".loop" : String) = "max.loop" := by decide
  refine call_function_tree F.kind_max F.plain_max F.entry_max (F.args_max2 _ _) ?_
  show wpAny _ A.in1 (Builtin.Builtins.bindParams "max" ["key", "default"] 0 ⟨[], []⟩ >>= _) _ _ s
  refine wpAny_bind (wpAny_of_eq (show Builtin.Builtins.bindParams "max" ["key", "default"] 0 ⟨[], []⟩ = pure [none, none] from rfl) ?_)
  show wpAny _ A.in1 (newTuple [a, b] >>= _) _ _ s
  refine wpAny_bind (wpAny_newObj_type ?_)
  refine wpAny_bind (wpAny_mono h (fun it s₂ h₂ => ?_) fun _ _ e => e)
  obtain ⟨I, fp, wr, G, n, P, St, H, bt, rfl, W, hst, hfp, hn, hw, hkeep, hcmp, hQ⟩ := h₂
  refine wpAny_bind (wpAny_newObj_type ?_)
  have hSf : s₂.heap.objs.size ∉ fp := fun hm => Nat.lt_irrefl _ (hfp _ hm)
  rw [hname]
  refine wpAny_pure ⟨plainId_quiet F.plain_max_loop _, codeAny_max_loop_firstH W H hw bt hcmp s₂.heap.objs.size hSf (fresh_in hkeep) _ hn (fun b o e => Heap.get?_push_of_some _ (hkeep b o e)) (W.frame 0 s₂ _ s₂.toks hst (Nat.le_refl _) fun b _ o e => Heap.get?_push_of_some _ e) (Heap.get?_push_size _ rfl) fun v s' hP hm => ?_⟩
  exact hQ v s' hP (Moved.drop_new (tk := s₂.toks) hm (Nat.le_refl _))
/-- the place of the greatest -/
theorem max_list_at {l : Addr} {vs : Array Value} {x : PyData} {xs : List PyData} {as : List Addr} {Q : Value → Shared → Prop} (hh : A.handled = none) (hl : s.heap.IsList l vs) (hr : ReadsAll s.heap vs.toList (x :: xs) as) (ha : AlikeAll (x :: xs)) (hu : A.units + 1 + PyData.depthAll (x :: xs) < cLine)
    (h : ∀ v h' tk, vs[argBest (fun i j => dataLt ((x :: xs).getD j .none) ((x :: xs).getD i .none)) xs.length]? = some v → (∀ b o, s.heap.get? b = some o → h'.get? b = some o) → Q v { s with heap := h', toks := tk }) :
    wpAny (model prog w) A (call (.builtin "max") [.ref l]) Q E s := by
  have hn : vs.size = xs.length + 1 := readsAll_len hr
  refine call_max_walkH (iter_listW (A := A.in1) hh hl fun s₂ e W st hfp hw hk => ?_)
  refine ⟨_, _, _, _, _, _, _, s.heap, _, rfl, W, st, hfp, by omega, hw, hk, cmpIn_gt (A := A.in1) hr ha (by show A.units + 1 + _ < _; exact hu), fun v s' hP m => ?_⟩
  obtain ⟨h', tk, rfl, hk'⟩ := moved_old e rfl m
  have e1 : vs.size - 1 = xs.length := by omega
  rw [e1] at hP
  exact h _ h' tk hP hk'
theorem max_two_at {a b : Value} {x y : PyData} {as : List Addr} {Q : Value → Shared → Prop} (hh : A.handled = none) (hr : ReadsAll s.heap [a, b] [x, y] as) (ha : AlikeAll [x, y]) (hu : A.units + 1 + PyData.depthAll [x, y] < cLine)
    (h : ∀ v h' tk, [a, b][argBest (fun i j => dataLt ([x, y].getD j .none) ([x, y].getD i .none)) 1]? = some v → (∀ b o, s.heap.get? b = some o → h'.get? b = some o) → Q v { s with heap := h', toks := tk }) :
    wpAny (model prog w) A (call (.builtin "max") [a, b]) Q E s := by
  have hk0 : ∀ b' o, s.heap.get? b' = some o → (s.heap.push { cls := .type "tuple", data := .seq #[a, b] }).get? b' = some o := fun b' o e => Heap.get?_push_of_some _ e
  have hT : (s.heap.push { cls := .type "tuple", data := .seq #[a, b] }).IsTuple s.heap.objs.size #[a, b] := ⟨_, Heap.get?_push_size _ rfl, rfl, 0, rfl⟩
  refine call_max_twoH (iter_tupleW (s := { s with heap := s.heap.push { cls := .type "tuple", data := .seq #[a, b] } }) (A := A.in1) hh hT fun s₂ e W st hfp hw hk => ?_)
  refine ⟨_, _, _, _, _, _, _, s.heap, _, rfl, W, st, hfp, Nat.zero_lt_two, fun b' o e' => hw b' o (hk0 b' o e'), fun b' o e' => hk b' o (hk0 b' o e'), cmpIn_gt (A := A.in1) (vs := #[a, b]) hr ha (by show A.units + 1 + _ < _; exact hu), fun v s' hP m => ?_⟩
  obtain ⟨h', tk, rfl, hk'⟩ := moved_old e rfl m
  have hP' : (#[a, b] : Array Value)[argBest (fun i j => dataLt ([x, y].getD j .none) ([x, y].getD i .none)) 1]? = some v := hP
  exact h _ h' tk (by simpa using hP') fun b' o e' => hk' b' o (hk0 b' o e')
end
end L2
namespace L3
open PySem PySem.Spec PyProof.Rows L2 PySem.W
section
variable {X : Cx} {K : PySem.W.Frag} {cl : Cl} {E : L2.St → XK} {φ : List Addr} {H : Hp} {S : Store} {ρ : DE} {σ : L2.St}
/-- a pair of integers -/
def ipair (p : Int × Int) : L3.D := .tup [.int p.1, .int p.2]
def prO : L3.D → Option (Int × Int)
  | .tup [.int a, .int b] => some (a, b)
  | _ => none
theorem prO_some {d : L3.D} {p : Int × Int} (h : prO d = some p) : d = ipair p := by
  unfold prO at h
  split at h
  · cases h; rfl
  · cases h
theorem prs_some : ∀ {ds : List L3.D} {ps : List (Int × Int)}, ds.mapM prO = some ps → ds = ps.map ipair
  | [], ps, h => by cases h; rfl
  | d :: ds, ps, h => by
    rw [List.mapM_cons] at h
    cases e : prO d with
    | none => rw [e] at h; cases h
    | some p =>
      rw [e] at h
      cases e2 : ds.mapM prO with
      | none => rw [e2] at h; cases h
      | some qs =>
        rw [e2] at h
        cases h
        rw [prO_some e, prs_some e2]
        rfl
theorem pair_dp {p : Int × Int} {v : V} (r : RD K φ H (ipair p) v) : Dp K H v (Datum.toD p) := by
  cases r with
  | tup h1 h2 =>
    obtain ⟨u, w, rfl, r1, r2⟩ := h2.two
    cases r1
    cases r2
    exact .tup h1 (.cons (.int _) (.cons (.int _) .nil))
theorem pairs_dp : ∀ {ps : List (Int × Int)} {vs : List V}, RDs K φ H (ps.map ipair) vs → DpAll K H vs (ps.map Datum.toD)
  | [], _, h => by cases h; exact .nil
  | p :: ps, _, h => by
    cases h with
    | cons h1 h2 => exact .cons (pair_dp h1) (pairs_dp h2)
def maxP : List L3.D → Store → OD
  | [.int i, .int j], S => some (.int (if j > i then j else i), S)
  | [.tup xs, .tup ys], S => match prO (.tup xs), prO (.tup ys) with
    | some p, some q => some (ipair (maxOf p [q]), S)
    | _, _ => none
  | [.ref n], S => match (lstO S n).bind (·.mapM prO) with
    | some (q :: qs) => some (ipair (maxOf q qs), S)
    | _ => none
  | _, _ => none
theorem best_at {q : Int × Int} {qs : List (Int × Int)} : ((q :: qs).map ipair)[argBest (fun i j => dataLt (((q :: qs).map Datum.toD).getD j .none) (((q :: qs).map Datum.toD).getD i .none)) qs.length]? = some (ipair (maxOf q qs)) := by
  have e1 : (fun i j => dataLt (((q :: qs).map (Datum.toD : Int × Int → PyData)).getD j .none) (((q :: qs).map Datum.toD).getD i .none)) = fun i j => (fun a b => dataLt b a) (((Datum.toD q) :: qs.map Datum.toD).getD i .none) (((Datum.toD q) :: qs.map Datum.toD).getD j .none) := rfl
  have f := argBest_fold (fun a b : PyData => dataLt b a) .none (Datum.toD q) (qs.map Datum.toD) qs.length (by simp)
  rw [e1]
  generalize argBest _ qs.length = k at f
  obtain ⟨f1, f2⟩ := f
  have hk : k < (q :: qs).length := by simp; omega
  rw [List.getElem?_map, List.getElem?_eq_getElem hk]
  have f3 : (qs.map (Datum.toD : Int × Int → PyData)).take qs.length = qs.map Datum.toD := List.take_of_length_le (by simp)
  rw [f3] at f2
  have f4 : List.foldl (fun a y => if dataLt a y = true then y else a) (Datum.toD q) (qs.map (Datum.toD : Int × Int → PyData)) = Datum.toD (maxOf q qs) := maxD_map q qs
  have f5 : (Datum.toD q :: qs.map (Datum.toD : Int × Int → PyData)).getD k .none = Datum.toD ((q :: qs)[k]) := by
    rw [← List.map_cons, List.getD_eq_getElem?_getD, List.getElem?_map, List.getElem?_eq_getElem hk]
    rfl
  rw [f5] at f2
  have f6 : (Datum.toD ((q :: qs)[k]) : PyData) = Datum.toD (maxOf q qs) := f2.trans f4
  have f7 : (q :: qs)[k] = maxOf q qs := by
    generalize (q :: qs)[k] = a at f6
    generalize maxOf q qs = b at f6
    obtain ⟨a1, a2⟩ := a
    obtain ⟨b1, b2⟩ := b
    have f6' : PyData.tuple [.int a1, .int a2] = .tuple [.int b1, .int b2] := f6
    simp at f6'
    rw [f6'.1, f6'.2]
  rw [f7]
  rfl
theorem depth_pairs (ps : List (Int × Int)) : PyData.depthAll (ps.map (Datum.toD : Int × Int → PyData)) ≤ 1 := depthAll_map ps
theorem call_maxP (hu : X.A.units + 64 < cLine) (hc : X.calm = true) : CallR X (.builtin "max") (rOs X.K cl maxP) := by
  intro pins s σ H xs us Q I r h
  obtain ⟨φ, S, ds, s0, rd, w⟩ := h
  obtain ⟨d', S', e', q⟩ := id w
  unfold maxP at e'
  split at e'
  · rename_i i j
    obtain ⟨u1, u2, rfl, r1, r2⟩ := rd.two
    cases r1
    cases r2
    exact call_max2 hc pins s σ H _ us Q I r ⟨i, j, rfl, w.val rfl s0 (.int _)⟩
  · rename_i xs ys
    cases q1 : prO (.tup xs) with
    | none => rw [q1] at e'; cases e'
    | some p1 =>
      cases q2 : prO (.tup ys) with
      | none => rw [q1, q2] at e'; cases e'
      | some p2 =>
        have we : maxP [.tup xs, .tup ys] S = some (ipair (maxOf p1 [p2]), S) := by simp only [maxP, q1, q2]
        have z1 := prO_some q1
        have z2 := prO_some q2
        rw [z1, z2] at rd
        have rd' : RDs X.K φ H ([p1, p2].map ipair) _ := rd
        obtain ⟨u1, u2, rfl, r1, r2⟩ := rd.two
        obtain ⟨as, hr⟩ := Dp.readsAll I _ _ _ (pairs_dp rd') r
        obtain ⟨v1, v2, rfl, n1, n2⟩ := vals2 r
        refine max_two_at (I.ok.hd hc) hr (alikeAll_datum [p1, p2]) (by have := depth_pairs [p1, p2]; have e : PyData.depthAll [Datum.toD p1, Datum.toD p2] = PyData.depthAll ([p1, p2].map Datum.toD) := rfl; omega) fun v h' tk hv hk => ?_
        have hb := best_at (q := p1) (qs := [p2])
        have hv' : [v1, v2][argBest (fun i j => dataLt (([p1, p2].map (Datum.toD : Int × Int → PyData)).getD j .none) (([p1, p2].map Datum.toD).getD i .none)) 1]? = some v := hv
        have hb' : ([p1, p2].map ipair)[argBest (fun i j => dataLt (([p1, p2].map (Datum.toD : Int × Int → PyData)).getD j .none) (([p1, p2].map Datum.toD).getD i .none)) 1]? = some (ipair (maxOf p1 [p2])) := hb
        obtain ⟨x, hx, rx⟩ := rd'.get hb'
        obtain ⟨u, hu', ru⟩ := r.get hx
        rw [hv'] at hu'
        cases hu'
        exact ⟨x, H, I.kept hk, ru, w.val we s0 rx⟩
  · rename_i n
    obtain ⟨u1, rfl, r1⟩ := rd.one
    cases r1 with
    | ref hn =>
      rename_i a
      cases q1 : lstO S n with
      | none => rw [q1] at e'; cases e'
      | some xs =>
        rw [q1] at e'
        have e2 : (match xs.mapM prO with
          | some (q :: qs) => some (ipair (maxOf q qs), S)
          | _ => none) = some (d', S') := e'
        cases q2 : xs.mapM prO with
        | none => rw [q2] at e2; cases e2
        | some ps =>
          cases ps with
          | nil => rw [q2] at e2; cases e2
          | cons p ps =>
            have we : maxP [.ref n] S = some (ipair (maxOf p ps), S) := by
              simp only [maxP, q1, Option.bind_some, q2]
            have ex := prs_some q2
            subst ex
            obtain ⟨vs, g1, g2⟩ := s0.lst q1 hn
            obtain ⟨its, rv, pl, hz⟩ := I.list (SqL.of g1)
            obtain ⟨as, hr⟩ := Dp.readsAll I _ _ _ (pairs_dp g2) rv
            obtain ⟨v0, rfl, n0⟩ := vals1 r
            cases n0
            refine max_list_at (x := Datum.toD p) (xs := ps.map Datum.toD) (I.ok.hd hc) pl.isList (by simpa using hr) (alikeAll_datum (p :: ps)) (by have := depth_pairs (p :: ps); have e : PyData.depthAll (Datum.toD p :: ps.map Datum.toD) = PyData.depthAll ((p :: ps).map (Datum.toD : Int × Int → PyData)) := rfl; omega) fun v h' tk hv hk => ?_
            have hb := best_at (q := p) (qs := ps)
            rw [List.length_map] at hv
            have hv' : its.toArray[argBest (fun i j => dataLt (((p :: ps).map (Datum.toD : Int × Int → PyData)).getD j .none) (((p :: ps).map Datum.toD).getD i .none)) ps.length]? = some v := hv
            obtain ⟨x, hx, rx⟩ := g2.get hb
            obtain ⟨u, hu', ru⟩ := rv.get hx
            rw [List.getElem?_toArray, hu'] at hv'
            cases hv'
            exact ⟨x, H, I.kept hk, ru, w.val we s0 rx⟩
  · cases e'
end
end L3
namespace L3
open PySem PySem.Spec PyProof.Rows L2
section
variable {X : Cx} {cl : Cl} {E : L2.St → XK} {φ : List Addr} {H : Hp} {S : Store} {ρ : DE} {σ : L2.St} {e : Expr} {ma : MA} {pos p tpos : Pos} {elts : List Expr} {kk : Nat}
/-- enumerate of a tuple or a list -/
def enumA (ms : MA) : MI := fun ρ S => (ms ρ S).bind fun ds S1 => match ds with
  | [.tup xs] => .ok ⟨((numsD xs.length).zip xs).map fun p => .tup [p.1, p.2], []⟩ S1
  | [.ref n] => match lstO S1 n with
    | some xs => .ok ⟨((numsD xs.length).zip xs).map fun p => .tup [p.1, p.2], [(n, .lst xs)]⟩ S1
    | none => .no
  | _ => .no
theorem enumA_ref (hn : ∀ xs S1, ma ρ S ≠ .ok [.tup xs] S1) : enumA ma ρ S = enumI ma ρ S := by
  unfold enumA enumI
  cases z : ma ρ S with
  | ok ds S1 =>
    show (match ds with
      | [.tup xs] => _
      | [.ref n] => _
      | _ => _) = _
    match ds, z with
    | [.tup xs], z => exact absurd z (hn xs S1)
    | [], _ => rfl
    | [.ref n], _ => rfl
    | [.int _], _ => rfl
    | [.str _], _ => rfl
    | [.bl _], _ => rfl
    | [.non], _ => rfl
    | [.lis _], _ => rfl
    | d :: _ :: _, _ => cases d <;> rfl
  | exc c fs S1 => rfl
  | no => rfl
theorem fi_enumA (hg : Gl X "enumerate") (hm : X.mg "enumerate" = none) (ha : PA X [e] (FA X.K cl E ma)) (hs : starEach [e] X.env = [(false, eval e X.env)] := by rfl) :
    PI X (.Tuple elts kk tpos) (.Call (.Name "enumerate" p) [e] [] pos) (FI X.K cl E (enumA ma)) := by
  refine ⟨fun pins s0 σ H R I q => ?_⟩
  obtain ⟨φ, ρ, S, s, ee, hh⟩ := id q
  by_cases hn : ∀ xs S1, ma ρ S ≠ .ok [.tup xs] S1
  · refine (fi_enum (pi_enum hg hm ha hs)).run pins s0 σ H R I ⟨φ, ρ, S, s, ee, ?_⟩
    rw [← enumA_ref hn]
    exact hh
  · have hn' : ∃ xs S1, ma ρ S = .ok [.tup xs] S1 := Classical.byContradiction fun c => hn fun xs S1 z => c ⟨xs, S1, z⟩
    obtain ⟨xs, S1, z⟩ := hn'
    refine (pi_enumT hg hm ha hs).run pins s0 σ H R I ⟨φ, ρ, S, s, ee, ?_⟩
    rw [z]
    unfold enumA at hh
    rw [z] at hh
    intro φ' vs H1 f1 s1 r1
    have h1 := wp.fu f1 hh
    obtain ⟨v, rfl, r⟩ := RDs.one r1
    cases r with
    | tup g1 g2 =>
      rename_i a us
      refine ⟨a, us, rfl, g1, wp.here (rl := ItOk X.K cl) s1 (pair_ok fun φ2 S2 H2 f2 s2 q2 => ?_) h1⟩
      have hm : min (numsD xs.length).length xs.length = us.length := by rw [show (numsD xs.length).length = xs.length by simp [numsD], Nat.min_self, g2.len]
      rw [hm]
      refine ⟨_, _, _, walk_enumT, f2.kt _ _ g1, fun i v hi e => ?_, fun i v _ e => (g2.fu f2).getV e⟩
      cases e
      refine ⟨.int (i : Int), ?_, .int _⟩
      unfold numsD
      rw [List.getElem?_map, List.getElem?_range (by rw [g2.len]; exact hi)]
      rfl
end
end L3
set_option Elab.async false
set_option linter.all false
set_option maxRecDepth 100000
set_option maxHeartbeats 4000000
namespace L2
open PySem PySem.Spec PyProof.Rows
section
variable {X : Cx}
/-- name = {k: v for ..} on one line, the name a local -/
theorem ps_setDc {i : Nat} {y : Str} {py : Pos} {kx vx tg iter : Expr} {ifs : List Expr} {scope : Scope} {own : List (Str × Nat)} {pos spos : Pos} {wi : TI} {g : TG} {tt : TT} {tk tv : TE} (hc : X.calm = true) (hN : X.N.Nodup) (hy : X.N[i]? = some y) (hyl : X.env.scope.names.lookup y = some .local)
    (hsw : swapsWith (.DictComp kx vx [⟨tg, iter, ifs, 0⟩] scope pos) (some (.Name y py)) spos.line X.env = pure true) (hi : PI X tg iter wi) (ok : BlkOk X.N X.env.scope scope own)
    (hg : ∀ (s : Shared) (H : Hp) (C : Addr) (cl : List (Str × Addr)) (fp : List Addr), PG (X.blk s H scope (compEnvC scope cl C X.env) fp) tg g) (ht : ∀ (s : Shared) (H : Hp) (C : Addr) (cl : List (Str × Addr)) (fp : List Addr), PTs (X.blk s H scope (compEnvC scope cl C X.env) fp) ifs tt)
    (hk : ∀ (s : Shared) (H : Hp) (C : Addr) (cl : List (Str × Addr)) (fp : List Addr), PE (X.blk s H scope (compEnvC scope cl C X.env) fp) kx tk)
    (he : ∀ (s : Shared) (H : Hp) (C : Addr) (cl : List (Str × Addr)) (fp : List Addr), PE (X.blk s H scope (compEnvC scope cl C X.env) fp) vx tv) (hs : ∀ x, foldedSetIterable iter X.env x = pure x := by intro _; rfl) :
    PS X (.Assign [.Name y py] (.DictComp kx vx [⟨tg, iter, ifs, 0⟩] scope pos) spos) (tAsg (tDc wi g tt tk tv (own.map (·.2))) (gName i)) := by
  refine ⟨fun pins s σ H D I h => ?_⟩
  rw [exec_Assign_Name_used _ _ _ _ hsw]
  refine wpAny_bind (wpAny_standAt (wpAny_bind ?_))
  show wpAny _ X.A (do let _ ← comprehension (.DictComp kx vx [⟨tg, iter, ifs, 0⟩] scope pos) scope X.env (firstIterPos [⟨tg, iter, ifs, 0⟩] pos) newDict false (eval iter X.env) (some (assign (.Name y py) X.env))) _ _ s
  have h : tDc wi g tt tk tv (own.map (·.2)) σ H (fun x H1 => gName i x σ H1 D.nx) := h
  refine wpAny_bind (thn (dc_core (Qf := fun _ s' => SP X pins D .next s') hc hN I hi ok hg ht hk he hs h fun L C s' m H' I' q hn f => ?_) fun _ s' hq => wpAny_pure (wpAny_pure hq))
  show wpAny _ _ (assign (.Name y py) X.env (.ref L)) _ _ _
  refine wpAny_assign_Name (store_ok2 (v := V.ref L) I' hN hy (.inl hyl) rfl (fun s2 I2 ⟨a, sb, ha⟩ => ?_) (.inr hyl))
  obtain ⟨f0, f1, f2, f3, f4, f5⟩ := f
  have haC : C ≠ a := by
    rcases ha with z | z
    · rw [z]; exact f1
    · exact fun e => f4 y a z e.symm
  refine ⟨m, hn.sameBut sb haC, fun h3 sb3 => ?_⟩
  exact ⟨_, H', I2.turned (t' := s2.toks) (fun b o hb e => (sb3.2 b hb).trans e) f0 f1 f3 f4 f5, q⟩
theorem swd_true {kx vx : Expr} {gs : List Comprehension} {scope : Scope} {pos py : Pos} {y : Str} {l : Nat} {env : Env} (hk : env.scope.kind = .function) (hy : env.scope.names.lookup y = some .local) (hl : (py.line == pos.line) = true)
    (ha : (scope.names.any fun (n, k) => n == y && (k == .local || k == .cell)) = false) : swapsWith (.DictComp kx vx gs scope pos) (some (.Name y py)) l env = pure true := by
  have ky : env.kindOf y = some .local := hy
  have hb : env.blockKind = .function := by unfold Env.blockKind; rw [hk]; rfl
  unfold swapsWith
  simp only [hb, ky, ha, Expr.pos, hl]
  rfl
end
end L2
namespace L3
open PySem PySem.Spec PyProof.Rows L2
section
variable {X : Cx} {K : PySem.W.Frag} {cl : Cl} {E : L2.St → XK} {φ φ' : List Addr} {H H' : Hp} {S S' : Store} {ρ : DE} {σ : L2.St} {ma mb : ME}
/-- d[k] op= e of a dict, ints -/
def daugM (g : Int → Int → Int) (mo mk mv : ME) : MS := fun ρ S => (mo ρ S).sb ρ fun d S1 => (mk ρ S1).sb ρ fun k S2 => match ((dicD S2 d).bind fun kvs => (keyO k).bind (valD kvs)).bind intO with
  | some i => (mv ρ S2).sb ρ fun v S3 => match intO v, dicD S3 d, keyO k with
    | some j, some kvs, some k => if kvs.length < sizeLine then .nx ρ (S3.set (refO d) (.dic (putD kvs k (.int (g i j))))) else .no
    | _, _, _ => .no
  | none => .no
theorem daug_im {g : Int → Int → Int} {rd : V → V → Hp → VK → Prop} {mc : ME} (hrd : ∀ i j H Q, Q (V.int (g i j)) H → rd (.int i) (.int j) H Q) :
    ∀ D σ H, FS K cl E (daugM g ma mb mc) D σ H → sDAug (FE K cl E ma) (FE K cl E mb) (FE K cl E mc) rd D σ H := fun D σ H ⟨φ, ρ, S, s, e, h⟩ =>
  FS.step s e h fun d S1 φ1 u H1 f1 s1 e1 r1 h1 => FS.step s1 e1 h1 fun k S2 φ2 w H2 f2 s2 e2 r2 h2 => by
    cases q1 : dicD S2 d with
    | none => rw [q1] at h2; exact h2.elim
    | some kvs =>
      rw [q1] at h2
      cases q2 : keyO k with
      | none => rw [q2] at h2; exact h2.elim
      | some k' =>
        rw [q2] at h2
        simp only [Option.bind_some] at h2
        cases q3 : valD kvs k' with
        | none => rw [q3] at h2; exact h2.elim
        | some x =>
          rw [q3] at h2
          simp only [Option.bind_some] at h2
          cases q4 : intO x with
          | none => rw [q4] at h2; exact h2.elim
          | some i =>
            rw [q4] at h2
            dsimp only at h2
            obtain ⟨n, a, ws, rfl, hn, rfl, g1, g2⟩ := s2.dicD (r1.fu f2) q1
            have z := RA.val k' g2
            rw [q3] at z
            obtain ⟨v, z1, z2⟩ := z.someD
            have ek := keyO_ok r2 q2
            subst ek
            have ev := z2.intO q4
            subst ev
            refine ⟨a, _, rfl, by rw [← z1]; exact DGet.k g1, FS.step s2 e2 h2 fun y S3 φ3 u H3 f3 s3 e3 r3 h3 => ?_⟩
            cases q5 : intO y with
            | none => rw [q5] at h3; exact h3.elim
            | some j =>
              rw [q5] at h3
              have eu := r3.intO q5
              subst eu
              cases q6 : dicD S3 (.ref n) with
              | none => rw [q6] at h3; exact h3.elim
              | some kvs2 =>
                rw [q6] at h3
                dsimp only at h3
                obtain ⟨n', a', ws2, en, hn2, ea, g3, g4⟩ := s3.dicD ((r1.fu f2).fu f3) q6
                cases en
                cases ea
                by_cases c : kvs2.length < sizeLine
                · rw [if_pos c] at h3
                  have fp := Fu.put (h := HO.dK (putK ws2 k' (.int (g i j)))) s3 hn2
                  exact hrd _ _ _ _ ⟨_, DPut.k g3 (by rw [← RA.len g4]; exact c), h3 φ3 σ _ fp (s3.put hn2 (.dic upd_same ((RA.put k' (.int _) g4).fu fp))) (e3.fu fp)⟩
                · rw [if_neg c] at h3; exact h3.elim
end
/-! ### {k: v for x in xs} -/
open Classical in
noncomputable def dcL (src : List (Nat × O)) (g : MG) (mt : MT) (mk me : ME) (ρ : DE) (n : Nat) : List L3.D → Store → R L3.D
  | [], S => if srcOk src S then .ok (.ref n) S else .no
  | d :: ds, S => if srcOk src S then (match g d ρ S with
      | .ok ρ1 S1 => (match mt ρ1 S1 with
        | .ok k S2 => if k = true then (match mk ρ1 S2 with
            | .ok y S3 => (match me ρ1 S3 with
              | .ok z S4 => (match dicO S4 n, keyO y with
                | some kvs, some k => if kvs.length < sizeLine then dcL src g mt mk me ρ n ds (S4.set n (.dic (putD kvs k z))) else .no
                | _, _ => .no)
              | _ => .no)
            | _ => .no) else dcL src g mt mk me ρ n ds S2
        | _ => .no)
      | _ => .no) else .no
open Classical in
noncomputable def dcE (mi : MI) (vs : List Nat) (g : MG) (mt : MT) (mk me : ME) : ME := fun ρ S => (mi ρ S).bind fun it S1 => dcL it.src g mt mk me (wipeD ρ vs) S1.length it.items (S1 ++ [.dic []])
section
variable {K : PySem.W.Frag} {cl : Cl} {E : L2.St → XK}
theorem dc_im {E0 : L2.St → XK} {mi : MI} {vs us : List Nat} {g : MG} {tgg : TG} {mt : MT} {tt : TT} {mk me : ME} (hg : ∀ v σ H Q, FG K cl us g v σ H Q → tgg v σ H Q) (hu : ∀ v ∈ us, v ∈ vs) (ht : ∀ σ H Q, FT K cl E0 mt σ H Q → tt σ H Q) :
    ∀ σ H Q, FE K cl E (dcE mi vs g mt mk me) σ H Q → tDc (FI K cl E mi) tgg tt (FE K cl E0 mk) (FE K cl E0 me) vs σ H Q := fun σ H Q ⟨φ, ρ, S, s, e, h⟩ => F.step s e h fun it S1 φ1 J H1 f1 s1 e1 r1 h1 D nD => by
  have sD : RS K cl (φ1 ++ [D]) (S1 ++ [.dic []]) (upd H1 D (.dK [])) := s1.new nD (.dic upd_same .nil)
  have fD : Fu K φ1 (φ1 ++ [D]) H1 (upd H1 D (.dK [])) := Fu.new nD
  have gD : (φ1 ++ [D])[S1.length]? = some D := by rw [← s1.len]; exact new_at φ1 D
  refine ⟨fun i m H => m = it.items.length - i ∧ i ≤ it.items.length ∧ ∃ φ2 S2, Fu K φ1 φ2 H1 H ∧ RS K cl φ2 S2 H ∧ φ2[S1.length]? = some D ∧ wp K cl (RD K) (E σ) φ2 H (dcL it.src g mt mk me (wipeD ρ vs) S1.length (it.items.drop i) S2) Q, ⟨_, rfl, Nat.zero_le _, _, _, fD, sD, gD, wp.fu fD h1⟩, ?_⟩
  rintro i m H ⟨rfl, hi, φ2, S2, f2, s2, g2, h2⟩
  by_cases hlt : i < it.items.length
  · rw [List.drop_eq_getElem_cons hlt] at h2
    unfold dcL at h2
    by_cases c : srcOk it.src S2
    · rw [if_pos c] at h2
      obtain ⟨q1, _, q3⟩ := r1 φ2 S2 H f2 s2 c
      refine .inr ⟨q1 i hlt, fun H' => ∃ φ3 S3, Fu K φ1 φ3 H1 H' ∧ RS K cl φ3 S3 H' ∧ φ3[S1.length]? = some D ∧ wp K cl (RD K) (E σ) φ3 H' (dcL it.src g mt mk me (wipeD ρ vs) S1.length (it.items.drop (i + 1)) S3) Q, fun H' z => ⟨_, by omega, rfl, hlt, z⟩, fun x H' y => ?_⟩
      obtain ⟨k1, k2, d, k3, k4⟩ := q3 i x H' hlt y
      have ed : it.items[i] = d := by
        rw [List.getElem?_eq_getElem hlt] at k3
        exact Option.some.inj k3
      rw [ed] at h2
      have ew : RE K φ2 H' (wipeD ρ vs) (wipe σ vs) := RE.wipe (e1.fu (f2.trans k1)) vs
      refine hg _ _ _ _ ⟨φ2, wipeD ρ vs, S2, d, k2, ew, k4, ?_⟩
      cases z : g d (wipeD ρ vs) S2 with
      | ok ρ3 S3 =>
        rw [z] at h2
        dsimp only at h2
        intro φ' σ' H'' f' s' e' same
        refine ⟨wipe_of same hu, ht _ _ _ ⟨φ', ρ3, S3, s', e', ?_⟩⟩
        · have h3 := wp.fu (k1.trans f') h2
          cases z2 : mt ρ3 S3 with
          | ok k S4 =>
            rw [z2] at h3
            dsimp only at h3
            intro φ4 k' H4 f4 s4 rk
            cases rk
            have h4 := wp.fu f4 h3
            cases k with
            | true =>
              rw [if_pos rfl] at h4 ⊢
              refine ⟨φ4, ρ3, S4, s4, e'.fu f4, ?_⟩
              cases z3 : mk ρ3 S4 with
              | ok y S5 =>
                rw [z3] at h4
                dsimp only at h4
                intro φ5 v5 H5 f5 s5 r5
                have h5 := wp.fu f5 h4
                refine ⟨φ5, ρ3, S5, s5, (e'.fu f4).fu f5, ?_⟩
                cases z4 : me ρ3 S5 with
                | ok w S6 =>
                  rw [z4] at h5
                  dsimp only at h5
                  intro φ6 v6 H6 f6 s6 r6
                  have h6 := wp.fu f6 h5
                  have g6 : φ6[S1.length]? = some D := f6.get (f5.get (f4.get (f'.get (k1.get g2))))
                  cases z5 : dicO S6 S1.length with
                  | none => rw [z5] at h6; exact h6.elim
                  | some kvs =>
                    rw [z5] at h6
                    cases z6 : keyO y with
                    | none => rw [z6] at h6; exact h6.elim
                    | some kk =>
                      rw [z6] at h6
                      dsimp only at h6
                      have zd : dicD S6 (.ref S1.length) = some kvs := z5
                      obtain ⟨n', a', ws, en, hn, ea, g7, g8⟩ := s6.dicD (K := K) (RD.ref g6 : RD K φ6 H6 (.ref S1.length) (.ref D)) zd
                      cases en
                      cases ea
                      have ek := keyO_ok (r5.fu f6) z6
                      by_cases c5 : kvs.length < sizeLine
                      · rw [if_pos c5] at h6
                        have fp := Fu.put (h := HO.dK (putK ws kk v6)) s6 g6
                        refine ⟨ws, kk, ek, g7, by rw [← RA.len g8]; exact c5, φ6, S6.set S1.length (.dic (putD kvs kk w)), (((((f2.trans k1).trans f').trans f4).trans f5).trans f6).trans fp, s6.put g6 (.dic upd_same ((RA.put kk r6 g8).fu fp)), g6, wp.fu fp h6⟩
                      · rw [if_neg c5] at h6; exact h6.elim
                | exc _ _ _ => rw [z4] at h5; exact h5.elim
                | no => rw [z4] at h5; exact h5.elim
              | exc _ _ _ => rw [z3] at h4; exact h4.elim
              | no => rw [z3] at h4; exact h4.elim
            | false =>
              rw [if_neg Bool.false_ne_true] at h4 ⊢
              exact ⟨φ4, S4, ((f2.trans k1).trans f').trans f4, s4, f4.get (f'.get (k1.get g2)), h4⟩
          | exc _ _ _ => rw [z2] at h3; exact h3.elim
          | no => rw [z2] at h3; exact h3.elim
      | exc _ _ _ => rw [z] at h2; exact h2.elim
      | no => rw [z] at h2; exact h2.elim
    · rw [if_neg c] at h2; exact h2.elim
  · have ei : i = it.items.length := by omega
    subst ei
    rw [List.drop_length] at h2
    unfold dcL at h2
    by_cases c : srcOk it.src S2
    · rw [if_pos c] at h2
      exact .inl ⟨(r1 φ2 S2 H f2 s2 c).2.1, wp.here (rl := RD K) s2 (.ref g2) h2⟩
    · rw [if_neg c] at h2; exact h2.elim
end
end L3
namespace He
open PySem PySem.Spec PyProof.Rows L2
/-- the objects that are looked at: the module's names first -/
def asR (n : Nat) : List Addr := [3, 6, 4] ++ List.range n
def obsA (n : Nat) (fa : List Fa) (fn : List DefD) (ts : List Tab) (ex : PySem.W.Frag → Bool) (g : Addr → Option Obj) : AlX := (obsT fa fn ts (frT g (asR n)), ex (frT g (asR n)))
theorem saysA_of {n : Nat} {fa : List Fa} {fn : List DefD} {ts : List Tab} {ex : PySem.W.Frag → Bool} {w : World} {h : Heap} (e : obsA n fa fn ts ex h.get? = valX fn ts w) : SaysX fa fn ts [] ex w h (frT h.get? (asR n)) :=
  ⟨congrArg (fun z : AlX => z.1) e, congrArg (fun z : AlX => z.2) e, fun p m => absurd m List.not_mem_nil, fun p m => absurd m List.not_mem_nil, fun p m => absurd m List.not_mem_nil⟩
def hookA (n : Nat) (fa : List Fa) (fn : List DefD) (ts : List Tab) (ex : PySem.W.Frag → Bool) : PySem.W.Hook where
  α := AlX
  obs := fun s => obsA n fa fn ts ex s.heap.get?
  val := fun w => valX fn ts w
  says := fun w h => ∃ K : PySem.W.Frag, K.In h ∧ SaysX fa fn ts [] ex w h K
  of := fun _ _ e => ⟨_, frT_in, saysA_of e⟩
  keeps := fun _ _ _ ⟨K, hK, c⟩ k => ⟨K, PySem.W.Frag.In.keeps hK k, ⟨c.t, c.more, c.hd, c.out, fun p hp => k _ _ (c.empty p hp)⟩⟩
theorem obsA_eq {n : Nat} {fa : List Fa} {fn : List DefD} {ts : List Tab} {ex : PySem.W.Frag → Bool} {g : Addr → Option Obj} {s : Shared} (h : ∀ a, g a = s.heap.get? a) : obsA n fa fn ts ex g = (hookA n fa fn ts ex).obs s := by
  have e : g = s.heap.get? := funext h
  rw [e] <;> rfl
/-- the head's run in two parts: what the library asks, and the facts -/
theorem run_split {r : PySem.W.OpenRow} {q : Program} {H : PySem.W.Hook} {ob : PySem.W.SharedT → H.α} {M : Nat} {loose : List PySem.Str} {w : World}
    (h1 : ∀ os : OsState, (HandSHeadRun.endF (HandSHeadRun.stepQ (HandSHeadRun.denQ HandSHeadRun.tabQ) r.prog w) M r.prog w os).map (fun s => (HandSHeadRun.looksF r.prog (PySem.W.boot_heap w.params) s.abs, HandSHeadRun.seenQ q loose (importedModules r.prog.main.body) (fun s => PySem.W.xlAt q [] s && PySem.W.recOk r.toRowW.records s) s.abs)) = some (true, PySem.W.openGood q loose))
    (h2 : ∀ os : OsState, (HandSHeadRun.endF (HandSHeadRun.stepQ (HandSHeadRun.denQ HandSHeadRun.tabQ) r.prog w) M r.prog w os).map ob = some (H.val w)) : HandSHeadRun.RunEq r q H ob M loose w := by
  intro os
  have e1 := h1 os
  have e2 := h2 os
  generalize HandSHeadRun.endF (HandSHeadRun.stepQ (HandSHeadRun.denQ HandSHeadRun.tabQ) r.prog w) M r.prog w os = s at e1 e2 ⊢
  cases s with
  | none => cases e2
  | some s =>
    have e3 := Option.some.inj e1
    have e4 := Option.some.inj e2
    simp only [Option.map_some]
    rw [e4]
    have e5 := congrArg Prod.fst e3
    have e6 := congrArg Prod.snd e3
    dsimp only at e5 e6
    rw [e5, e6]
end He
set_option Elab.async false
set_option linter.all false
set_option maxRecDepth 100000
set_option maxHeartbeats 4000000
/-! zip of a tuple and a list; walls; split with a count -/
namespace L2
open PySem PySem.Spec PyProof.Rows
/-- the tuple at a and the list at b, turn by turn -/
def Itm (K : PySem.W.Frag) (a b : Addr) : It where
  go := fun i H => ∃ (us ws : List V) (u w : V), (SqT K H a us ∧ us[i]? = some u) ∧ SqL K H b ws ∧ ws[i]? = some w
  yld := fun i H v H' => ∃ (T : Addr) (u w : V), v = .ref T ∧ H T = none ∧ H' = upd H T (.tup [u, w]) ∧ (∀ us, SqT K H a us → us[i]? = some u) ∧ ∀ ws, SqL K H b ws → ws[i]? = some w
  stop := fun i H => ∃ us ws : List V, SqT K H a us ∧ SqL K H b ws ∧ (i ≤ us.length ∧ i ≤ ws.length) ∧ (i = us.length ∨ i = ws.length)
/-- where the parts of the zip stand -/
def ZipHas (z tI tO j1 j2 a b : Addr) (i : Nat) (h : Heap) : Prop := (IsZip h z tI tO .none ∧ IsTupOf2 h tI (.ref j1) (.ref j2) ∧ ∃ u w, IsTupOf2 h tO u w) ∧ h.IsTupleIter j1 a i ∧ h.IsListIter j2 b i
theorem mem5 {c z tI tO j1 j2 : Addr} (m : c ∈ [z, tI, tO, j1, j2]) : c = z ∨ c = tI ∨ c = tO ∨ c = j1 ∨ c = j2 := by simpa using m
theorem ZipHas.lives {z tI tO j1 j2 a b : Addr} {i : Nat} {h : Heap} (q : ZipHas z tI tO j1 j2 a b i h) {c : Addr} (m : c ∈ [z, tI, tO, j1, j2]) : ∃ o, h.get? c = some o ∧ ∀ v, o.data ≠ .cell v := by
  obtain ⟨⟨q1, q2, u, w, q3⟩, ⟨p1, r1, _, d1⟩, ⟨p2, r2, _, d2⟩⟩ := q
  rcases mem5 m with rfl | rfl | rfl | rfl | rfl
  · exact ⟨_, q1, fun v e => by cases e⟩
  · exact ⟨_, q2, fun v e => by cases e⟩
  · exact ⟨_, q3, fun v e => by cases e⟩
  · exact ⟨p1, r1, fun v e => by rw [e] at d1; cases d1⟩
  · exact ⟨p2, r2, fun v e => by rw [e] at d2; cases d2⟩
theorem turn_zipM {P : Program} {w : World} {K : PySem.W.Frag} {elts : List Expr} {kk : Nat} {tpos : Pos} {a b z tI tO j1 j2 : Addr} (sp : ZipSep2 z tI tO j1 j2 [j1, a] [j2, b]) (n1 : a ≠ j1) (n2 : b ≠ j2) :
    Turn P w K (.Tuple elts kk tpos) (Itm K a b) [z, tI, tO, j1, j2] z (ZipHas z tI tO j1 j2 a b) where
  mem := List.mem_cons_self
  obj := fun i h q c m => q.lives m
  keep := fun i h h' q k => by
    obtain ⟨⟨q1, q2, u, w, q3⟩, q4, q5⟩ := q
    exact ⟨⟨k _ (by simp) _ q1, k _ (by simp) _ q2, u, w, k _ (by simp) _ q3⟩, q4.at fun o e => k _ (by simp) _ e, q5.at fun o e => k _ (by simp) _ e⟩
  item := by
    intro X eP ew eK cal i pins s σ H E inv fp q g
    subst eP ew eK
    have live := fun c m => q.lives (c := c) m
    obtain ⟨⟨q1, q2, u0, w0, q3⟩, q4, q5⟩ := q
    obtain ⟨us, ws, u, w, ⟨gu, eu⟩, gw, ew⟩ := g
    obtain ⟨vu, ru, pu, _⟩ := inv.tuple gu
    obtain ⟨vw, rw', pw, _⟩ := inv.list gw
    obtain ⟨x1, k1, r1⟩ := ru.get eu
    obtain ⟨x2, k2, r2⟩ := rw'.get ew
    have b1 : i < vu.toArray.size := by have := (List.getElem?_eq_some_iff.mp k1).1; simpa using this
    have b2 : i < vw.toArray.size := by have := (List.getElem?_eq_some_iff.mp k2).1; simpa using this
    have no := inv.ok.hd cal
    have no' : X.A.in1.handled = none := no
    refine wpAny_pyNext_zipD2_item sp (Draws.tuple no' j1 a n1 vu.toArray) (Draws.list no' j2 b n2 vw.toArray) q1 q2 q3 ⟨q4, pu⟩ ⟨q5, pw.isList⟩ b1 b2 fun y1 y2 h1 t1 e1 e2 z1 o1 s1 s2 nw sz fr => ?_
    have f1 : y1 = x1 := by have : vu[i]? = some y1 := by simpa using e1
                            rw [k1] at this; exact (Option.some.inj this).symm
    have f2 : y2 = x2 := by have : vw[i]? = some y2 := by simpa using e2
                            rw [k2] at this; exact (Option.some.inj this).symm
    subst f1 f2
    have zl : z < s.heap.objs.size := Heap.lt_size q1
    refine ⟨_, rfl, wpAny_letOwnedTupleGo_zip (s := { s with heap := h1, toks := t1 }) z1 fun h2 z2 sb => ?_⟩
    have up : ∀ c o, c ≠ z → h1.get? c = some o → h2.get? c = some o := fun c o n e => (sb.2 c n).trans e
    have nwT := up _ _ (Nat.ne_of_gt zl) nw
    have inv2 : Inv X pins σ (upd H s.heap.objs.size (.tup [u, w])) { s with heap := h2, toks := t1 } :=
      inv.turnedNew (ch := [z, tI, tO, j1, j2]) (fun c o out e => by
        have n : ∀ d ∈ [z, tI, tO, j1, j2], c ≠ d := fun d m x => out (by rw [x]; exact m)
        exact up c o (n z (by simp)) (fr c o (n z (by simp)) (n tO (by simp)) (n j1 (by simp)) (n j2 (by simp)) e)) fp (Nat.le_refl _)
        ⟨(by decide : 2 ≤ sizeLine), [y1, y2], .cons r1 (.cons r2 .nil), _, nwT, rfl, _, rfl⟩
    refine ⟨.ref s.heap.objs.size, _, inv2, rfl, ⟨_, u, w, rfl, inv.hok.fresh (Nat.le_refl _), rfl, fun l hl => (by rw [inv.tuple_inj hl gu]; exact eu), fun l hl => (by rw [inv.list_inj hl gw]; exact ew)⟩, ⟨⟨z2, up _ _ sp.TIz (fr _ _ sp.TIz sp.TITO sp.TIi1 sp.TIi2 q2), y1, y2, up _ _ sp.TOz o1⟩, s1.1.at fun o e => up _ o (Ne.symm sp.zi1) e, s2.1.at fun o e => up _ o (Ne.symm sp.zi2) e⟩, fun c m => ?_⟩
    obtain ⟨o, eo, _⟩ := live c m
    have lt : c < s.heap.objs.size := Heap.lt_size eo
    rw [upd_ne (Nat.ne_of_lt lt)]
    exact (fp c m).1
  done := by
    intro X eP ew eK cal i pins s σ H E inv fp q g
    subst eP ew eK
    obtain ⟨⟨q1, q2, u0, w0, q3⟩, q4, q5⟩ := q
    obtain ⟨us, ws, gu, gw, ⟨c1, c2⟩, c3⟩ := g
    obtain ⟨vu, ru, pu, _⟩ := inv.tuple gu
    obtain ⟨vw, rw', pw, _⟩ := inv.list gw
    have y1 := ru.length
    have y2 := rw'.length
    have no' : X.A.in1.handled = none := inv.ok.hd cal
    refine wpAny_pyNext_zipD2_end sp (Draws.tuple no' j1 a n1 vu.toArray) (Draws.list no' j2 b n2 vw.toArray) q1 q2 q3 ⟨q4, pu⟩ ⟨q5, pw.isList⟩ (by simp; omega) (by simp; omega) (by simp; omega) fun h1 t1 fr => ⟨rfl, ?_⟩
    exact inv.turnedL (ch := [z, tI, tO, j1, j2]) (fun c o out e => by
      have n : ∀ d ∈ [z, tI, tO, j1, j2], c ≠ d := fun d m x => out (by rw [x]; exact m)
      exact fr c o (n z (by simp)) (n tO (by simp)) (n j1 (by simp)) (n j2 (by simp)) e) fp
  self := fun A i s Q E q h => wpAny_pyIter_zip q.1.1 h
def iZipM (K : PySem.W.Frag) (ta : TA) : TI := fun σ H R => ta σ H fun vs H1 => ∃ a b us ws, vs = [.ref a, .ref b] ∧ SqT K H1 a us ∧ SqL K H1 b ws ∧ R (Itm K a b) H1
theorem pi_zipM {X : Cx} {e e2 : Expr} {ta : TA} {p pos tpos : Pos} {elts : List Expr} {kk : Nat} (hg : Gl X "zip") (hm : X.mg "zip" = none) (ha : PA X [e, e2] ta) (hs : starEach [e, e2] X.env = (false, eval e X.env) :: starEach [e2] X.env := by rfl)
    (hpl : (backTo pos (starEach [e2] X.env)).any (·.1) = false := by rfl) : PI X (.Tuple elts kk tpos) (.Call (.Name "zip" p) [e, e2] [] pos) (iZipM X.K ta) := by
  constructor
  intro pins s σ H R inv h
  refine Call_ (ld_blt inv hg hm PyProof.Rows.boot_zip (PyProof.Rows.callWith_type1 (thn (ha.run pos pins s σ H _ inv h) fun vals s1 got => ?_) hs hpl))
  obtain ⟨vs, H1, inv1, rv, a, b, us, ws, ev, gu, gw, q⟩ := got
  subst ev
  cases rv with
  | cons r0 rv =>
    cases rv with
    | cons r1 rv =>
      cases rv
      cases r0
      cases r1
      obtain ⟨vu, _, pu, _⟩ := inv1.tuple gu
      obtain ⟨vw, _, pw, _⟩ := inv1.list gw
      have la : a < s1.heap.objs.size := by obtain ⟨o, e, _⟩ := id pu; exact Heap.lt_size e
      have lb : b < s1.heap.objs.size := pw.lt
      refine zip_begins2 (begins_tuple a vu.toArray) (begins_list b vw.toArray) (show s1.heap.IsTuple a vu.toArray from pu) pw.isList fun h' z1 t1 t2 o1 o2 sz fr => wpAny_pyIter_zip z1 ?_
      have inv2 : Inv X pins σ H1 { s1 with heap := h' } := inv1.kept (t' := s1.toks) fr
      refine ⟨s1.heap.objs.size + 4, [s1.heap.objs.size + 4, s1.heap.objs.size + 2, s1.heap.objs.size + 3, s1.heap.objs.size, s1.heap.objs.size + 1], _, Itm X.K a b, H1, rfl, inv2, turn_zipM (zip_sep2 (fp1 := [a]) (fp2 := [b]) (fun c m => by rw [List.mem_singleton.mp m]; exact la) (fun c m => by rw [List.mem_singleton.mp m]; exact lb)) (Nat.ne_of_lt la) (Nat.ne_of_lt (Nat.lt_succ_of_lt lb)), ⟨⟨z1, t1, _, _, t2⟩, ⟨_, o1, rfl, rfl⟩, ⟨_, o2, rfl, rfl⟩⟩, fun c m => ?_, q⟩
      have ge : s1.heap.objs.size ≤ c := by rcases mem5 m with rfl | rfl | rfl | rfl | rfl <;> omega
      exact inv1.fpOk ge (inv1.hok.fresh ge)
end L2
namespace L2
open PySem PySem.Spec PyProof.Rows
/-- a try whose body lets nothing out: the handlers do not matter -/
theorem ps_try_no {X : Cx} {body : List Stmt} {g0 : ExceptHandler} {gs : List ExceptHandler} {pos : Pos} {tb : TS} (hs : X.stack = X.env :: X.outer)
    (hb : ∀ (pn : List (Addr × Obj)) (xe : Value → Shared → Prop), Takes (X.tr pn xe) (fun _ _ _ _ => False) → PassesOwn (model X.prog X.w) X.A X.env xe → PSs (X.tr pn xe) body tb) :
    PS X (.Try body (g0 :: gs) [] [] pos) tb := by
  constructor
  intro pins s σ H D inv h
  have okk := inv.ok
  refine wpAny_Try_except (wpAny_mono ((hb (X.pn ++ pins) _ (fun v t no => ?_) PassesOwn.looking).run [] s σ H D (inv.toTry _) h) (fun fl t got => ?_) fun v t z => z)
  · obtain ⟨_, _, _, _, _, _, _, _, _, _, _, _, _, _, _, _, z⟩ := no
    exact z.elim
  · match fl, got with
    | .next, ⟨σ1, H1, inv1, q⟩ => exact wpAny_execs_nil ⟨σ1, H1, inv1.ofTry okk, q⟩
    | .brk, ⟨σ1, H1, inv1, q⟩ => exact ⟨σ1, H1, inv1.ofTry okk, q⟩
    | .cont, ⟨σ1, H1, inv1, q⟩ => exact ⟨σ1, H1, inv1.ofTry okk, q⟩
    | .ret u, ⟨x1, σ1, H1, inv1, rx, q⟩ => exact ⟨x1, σ1, H1, inv1.ofTry okk, rx, q⟩
end L2
namespace L3
open PySem PySem.Spec PyProof.Rows L2
section
variable {X : Cx} {K : PySem.W.Frag} {cl : Cl} {E : L2.St → XK} {φ φ' : List Addr} {H H' : Hp} {S S' : Store} {ρ : DE} {σ : L2.St} {m ma mb : ME}
/-! ### walls: what is never reached -/
def wallM : MS := fun _ _ => .no
theorem ps_wall {st : Stmt} : PS X st (FS K cl E wallM) := ⟨fun _ _ _ _ _ _ ⟨_, _, _, _, _, h⟩ => h.elim⟩
/-- a try that lets no exception come -/
def tryNoM (body : MS) : MS := fun ρ S => match body ρ S with
  | .exc _ _ _ _ => .no
  | r => r
theorem tryno_im {body : MS} {D : Ends} (h : FS K cl E (tryNoM body) D σ H) : FS K cl (fun _ _ _ _ => False) body D σ H := by
  obtain ⟨φ, ρ, S, s, e, h⟩ := h
  refine ⟨φ, ρ, S, s, e, ?_⟩
  unfold tryNoM at h
  cases q : body ρ S with
  | exc c fs ρ' S' => rw [q] at h; exact h.elim
  | nx _ _ => rw [q] at h; exact h
  | rt _ _ => rw [q] at h; exact h
  | bk _ _ => rw [q] at h; exact h
  | ct _ _ => rw [q] at h; exact h
  | no => rw [q] at h; exact h
/-! ### zip of a tuple and a list -/
def zipM (ms : MA) : MI := fun ρ S => (ms ρ S).bind fun ds S1 => match ds with
  | [.tup xs, .ref k] => match lstO S1 k with
    | some ys => .ok ⟨(xs.zip ys).map fun p => .tup [p.1, p.2], [(k, .lst ys)]⟩ S1
    | none => .no
  | _ => .no
theorem fi_zipM {tg e : Expr} {ms : MA} (h : PI X tg e (iZipM K (FA K cl E ms))) : PI X tg e (FI K cl E (zipM ms)) := PI.imp h fun σ H R ⟨φ, ρ, S, s, e, h⟩ => F.step s e h fun ds S1 φ1 vs H1 f1 s1 e1 r1 h1 => by
  split at h1
  · rename_i xs k
    obtain ⟨v, u, rfl, r, q⟩ := RDs.two r1
    cases r with
    | tup g1 g2 =>
      cases q with
      | ref hk =>
        rename_i a us b
        cases z2 : lstO S1 k with
        | none => rw [z2] at h1; exact h1.elim
        | some ys =>
          rw [z2] at h1
          obtain ⟨wss, k1, k2⟩ := s1.lst z2 hk
          refine ⟨_, _, _, _, rfl, g1, SqL.of k1, wp.here (rl := ItOk K cl) s1 (pair_ok fun φ2 S2 H2 f2 s2 q2 => ?_) h1⟩
          obtain ⟨ws', m3, m4⟩ := s2.lst (n := k) (xs := ys) (by unfold lstO; rw [q2 (k, .lst ys) (by simp)]) (f2.get hk)
          have l1 := g2.len
          have l2 := m4.len
          refine ⟨fun i => us[i]?, fun i => ws'[i]?, fun H => SqT K H a us ∧ SqL K H b ws', ⟨fun i H hi z => ?_, fun H z => ⟨us, ws', z.1, z.2, by omega, by omega⟩, fun i H x H' hi z y => ?_⟩, ⟨f2.kt _ _ g1, SqL.of m3⟩, fun i v _ e => (g2.fu f2).getV e, fun i v _ e => m4.getV e⟩
          · have i1 : i < us.length := by omega
            have i2 : i < ws'.length := by omega
            exact ⟨us, ws', us[i], ws'[i], ⟨z.1, by simp [i1]⟩, z.2, by simp [i2]⟩
          · obtain ⟨T, x1, x2, q1, q2, q3, q4, q5⟩ := y
            exact ⟨T, x1, x2, q1, q2, q3, q4 us z.1, q5 ws' z.2⟩
  · exact h1.elim
/-! ### a text's method of some arguments -/
def smE (f : Str → List D → Store → OD) (m : ME) (ms : MA) : ME := fun ρ S => (m ρ S).bind fun d S1 => match strO d with
  | some x => (ms ρ S1).bind fun ds S2 => R.ofO (f x ds S2)
  | none => .no
theorem sm_im {ms : MA} {f : Str → List D → Store → OD} {r : V → List V → Hp → VK → Prop} (hr : ∀ φ S H x ds vs Q, RS K cl φ S H → RDs K φ H ds vs → wpO K cl φ H (f x ds S) Q → r (.str x) vs H Q) :
    ∀ σ H Q, FE K cl E (smE f m ms) σ H Q → tBM K "str" r (FE K cl E m) (FA K cl E ms) σ H Q := fun σ H Q ⟨φ, ρ, S, s, e, h⟩ => F.step s e h fun d S1 φ1 v H1 f1 s1 e1 r1 h1 => by
  cases q : strO d with
  | none => rw [q] at h1; exact h1.elim
  | some x =>
    rw [q] at h1
    have ev := r1.strO q
    subst ev
    exact ⟨rfl, F.step s1 e1 h1 fun ds S2 φ2 vs H2 f2 s2 e2 r2 h2 => hr φ2 S2 H2 x ds vs _ s2 r2 (wp.ofO h2)⟩
def split2F (x : Str) (ds : List D) (S : Store) : OD := match ds with
  | [.str y, .int k] => if (y.length == 0) = false ∧ -(2 ^ 63) ≤ k ∧ k < 2 ^ 63 ∧ x.length + 2 ≤ sizeLine then some (.ref S.length, S ++ [.lst ((Txt.splitMax x y k).map D.str)]) else none
  | _ => none
theorem split2_r : ∀ φ S H x ds vs Q, RS K cl φ S H → RDs K φ H ds vs → wpO K cl φ H (split2F x ds S) Q → (fun (x : V) (xs : List V) (H : Hp) (Q : VK) => ∃ (a b : Str) (k : Int), x = .str a ∧ xs = [.str b, .int k] ∧ (b.length == 0) = false ∧ -(2 ^ 63) ≤ k ∧ k < 2 ^ 63 ∧ a.length + 2 ≤ sizeLine ∧ rNewStrs (Txt.splitMax a b k) H Q) (.str x) vs H Q := fun φ S H x ds vs Q s r w => by
  match ds, r, w with
  | [], _, w => exact w.no rfl
  | [_], _, w => exact w.no (by unfold split2F; split <;> simp_all)
  | _ :: _ :: _ :: _, _, w => exact w.no (by unfold split2F; split <;> simp_all)
  | [a, b], r, w =>
    obtain ⟨v, u, rfl, r, q⟩ := RDs.two r
    cases r with
    | str y =>
      cases q with
      | int k =>
        by_cases c : (y.length == 0) = false ∧ -(2 ^ 63) ≤ k ∧ k < 2 ^ 63 ∧ x.length + 2 ≤ sizeLine
        · exact ⟨x, y, k, rfl, rfl, c.1, c.2.1, c.2.2.1, c.2.2.2, fun p np => w.newL (by unfold split2F; exact if_pos c) s (RDs.strs _) np⟩
        · exact w.no (by unfold split2F; exact if_neg c)
      | _ => exact w.no rfl
    | _ => exact w.no (by unfold split2F; split <;> simp_all)
end
end L3
set_option Elab.async false
set_option linter.all false
set_option maxRecDepth 100000
set_option maxHeartbeats 4000000
/-! raise C(x, y) of an own class that keeps both; the same in an except suite, from None; what an exception tells -/
namespace L2
open PySem PySem.Spec PyProof.Rows
/-- a def, while an exception is handled -/
theorem FunD.okH {P : Program} {w : World} {K : PySem.W.Frag} {mg : Str → Option Value} {base : Heap} {x qual : Str} {params : Arguments} {body : List Stmt} {scope : Scope} {dvs : List V} {kws : List (Str × V)} {f : Addr} {fd : FuncData}
    {CX : CXT} {N ps : List Str} {k : Nat} {sp : Sp} (F : FunD K x qual params body scope dvs kws f fd) (S : FnScope N ps scope) (len : ∀ vs H Q E, sp vs H Q E → vs.length = ps.length)
    (hbody : ∀ (cdv : Value) (A : Around) (outer : List Env) (s : Shared) (H : Hp) (vs : List V) (Q : VK) (E : XK) (p : Addr × Obj), L2H.Hot1 A p → L2H.RoomH k (A.deeper (envOfC qual scope s.heap.objs.size f cdv)) → sp vs H Q E →
      ∃ t, PSs (L2H.cxH CX P w K mg base N qual scope f cdv A outer s H E p) body t ∧ t { nx := fun _ H' => Q .non H', rt := Q } (start N vs) H) : L2H.FnH P w K mg base CX (k + 1) f fd ps sp := by
  obtain ⟨oc, od, dV, kV, doc, pm, an, cdv, ct, osl, rfl, lk, hcd, _, _⟩ := F.ex
  exact L2H.fn_ofH lk hcd S len fun A outer s H vs Q E p hp hr hsp => hbody cdv A outer s H vs Q E p hp hr hsp
def keep2 (f g : Str) (l r : V) : List (Str × V) := [(g, r), (f, l)]
/-- __init__(self, l, r): self.f = l; self.g = r -/
def spX2 (C : Addr) (f g : Str) : Sp := fun vs H Q _ => ∃ (a : Addr) (l r : V), vs = [.ref a, l, r] ∧ H a = some (exo a C none) ∧ ∀ d, H d = none → d ≠ a → Q .non (upd (upd (upd H d (exd d [(f, l)])) a (exo a C (some d))) d (exd d (keep2 f g l r)))
theorem spX2_len {C : Addr} {f g : Str} {a b c : Str} : ∀ vs H Q E, spX2 C f g vs H Q E → vs.length = [a, b, c].length := fun vs H Q E h => by
  obtain ⟨a, l, r, rfl, _⟩ := h
  rfl
/-- what the two assignments ask -/
theorem x2_body {K : PySem.W.Frag} {C : Addr} {f g : Str} {vs : List V} {H : Hp} {Q : VK} {E : XK} {N : List Str} {D : Ends} (T : OexC K C) (nf : PySem.W.findIn K (.ref C) f = some none) (ng : PySem.W.findIn K (.ref C) g = some none) (hN : N.length = 3) (hD : D.nx = fun _ H' => Q .non H') (h : spX2 C f g vs H Q E) :
    tSeq (tOst K f (tVar 0) (tVar 1)) (tOst K g (tVar 0) (tVar 2)) D (start N vs) H := by
  obtain ⟨a, l, r, rfl, ha, k⟩ := h
  refine ⟨_, rfl, _, rfl, a, C, rfl, T, nf, .inl ⟨ha, fun d hd da => ?_⟩⟩
  refine ⟨_, rfl, _, rfl, a, C, rfl, T, ng, .inr ⟨d, _, upd_same, by rw [upd_ne da, upd_same], by show 1 ≤ 900; decide, ?_⟩⟩
  rw [hD]
  exact k d hd da
/-- the exception is made: what a raise makes of it -/
theorem x2_raise {C : Addr} {f g : Str} {H : Hp} {l r : V} {E : XK} (q : ∀ d, H d = none → E (.ref C) (some d) (upd H d (.xd (keep2 f g l r)))) : ∀ a, H a = none →
    spX2 C f g (.ref a :: ([l, r] ++ [])) (upd H a (exo a C none)) (fun v H2 => v = .non ∧ ∃ (d : Addr) (fs : List (Str × V)), H2 a = some (exo a C (some d)) ∧ H2 d = some (exd d fs) ∧ H d = none ∧ E (.ref C) (some d) (upd (del H2 a) d (.xd fs))) (fun _ _ _ => False) := fun a ha =>
  ⟨a, l, r, rfl, upd_same, fun d hd da => ⟨rfl, d, keep2 f g l r, by rw [upd_ne (Ne.symm da), upd_same], upd_same, by rw [upd_ne da] at hd; exact hd, by
    have hd' : H d = none := by rw [upd_ne da] at hd; exact hd
    rw [del_back ha fun b h1 h2 => by rw [upd_ne h2, upd_ne h1, upd_ne h2, upd_ne h1]]
    exact q d hd'⟩⟩
/-- a call's exception whose context is none, less told -/
theorem cx_of_n {P : Program} {w : World} {outer : List Env} {H : Hp} {s : Shared} {E : XK} {u : Value} {s' : Shared} (h : L2N.CX P w outer H s E u s') : L2.CX P w outer H s E u s' := by
  obtain ⟨a, B, H', cls, d, e, fl, hok, ub, na, os, ag, hE⟩ := h
  exact ⟨a, B, H', cls, d, e, L2H.flyingZ_imp (fun o z => z.zc) fl, hok, ub, na, os, ag, hE⟩
theorem passAt_n {X : Cx} {W : WX} (tk : Takes X W) (σ : St) : PassesAt (L2N.CX X.prog X.w) X σ (WE W σ) := fun pins H s e s' I c => passAt tk σ pins H s e s' I (cx_of_n c)
theorem passes_n {P : Program} {w : World} {X : Cx} {E : XK} (h : L2.Passes (L2.CX P w) X E) : L2.Passes (L2N.CX P w) X E := fun pins σ H s e s' I c => h pins σ H s e s' I (cx_of_n c)
section
variable {X : Cx} {C : Addr} {bmB : List Value} {B newId initId : String}
theorem pmk_own0n {x : Str} {p pos : Pos} (F : ExcBaseFacts B newId initId bmB) (q : PySem.W.excIn X.K C bmB newId = true) (gC : X.mg x = some (.ref C)) (kC : PySem.W.keepIn X.K (.ref C) = true) (r : Raises X (.ref C)) (hg : Gl X x)
    (hdb : (x == ("__debug__" : Str)) = false := by decide) : L2N.PMk X (.Call (.Name x p) [] [] pos) (fun _ H Q => Q (.ref C) none H) := by
  intro pins s σ H Q I h
  refine wpAny_Call_Name_kw (ld_glob I hg gC ?_ hdb)
  refine PySem.W.callWith_K0 I.kIn kC ?_
  obtain ⟨hp, g, dd0, tk, os⟩ := s
  obtain ⟨bm, N, nm, qn, bs, hdct, sn, sub, ab, col, dd, k0, k1, k2, k3, k5, mN, hC, hN, hni, T⟩ := exc_obj I.kIn q
  refine wpAny_call_exc_subT F T hC hN hni (fun h' e hm => ?_) (Nat.zero_le _)
  exact L2N.mk_of I hm r h (I.hok.gone hm.new)
end
end L2
namespace L3
open PySem PySem.Spec PyProof.Rows L2
section
variable {X : Cx} {K : PySem.W.Frag} {cl : Cl} {E : L2.St → XK} {φ : List Addr} {H : Hp} {S : Store} {ρ : DE} {σ : L2.St}
theorem add_fu {dx : Addr} {o' : HO} (n : H dx = none) : Fu K φ φ H (upd H dx o') := ⟨List.prefix_refl _, KTu.new n, fun a o ha e => ⟨ha, by rw [upd_ne fun z => by rw [z, n] at e; cases e]; exact e⟩⟩
theorem rs_add {dx : Addr} {o' : HO} (s : RS K cl φ S H) (n : H dx = none) : RS K cl φ S (upd H dx o') :=
  ⟨s.len, s.nd, fun m a o e1 e2 => (s.obj m a o e1 e2).fu (add_fu n) (upd_ne fun z => s.fresh n (by rw [← z]; exact List.mem_of_getElem? e1))⟩
/-- raise c(x, y), which keeps x as f and y as g -/
def raise2M (c f g : Str) (ms : MA) : MS := fun ρ S => (ms ρ S).sb ρ fun ds S1 => match ds with
  | [x, y] => .exc c [(g, y), (f, x)] ρ S1
  | _ => .no
theorem raise2_im {c f g : Str} {ms : MA} {Wout : WX} {D : Ends} (h : FS K cl (fun σ cls d H => Wout cls d σ H) (raise2M c f g ms) D σ H) :
    tMkO (cl c) (spX2 (cl c) f g) [] (FA K cl (fun σ cls d H => Wout cls d σ H) ms) σ H (fun cls d H' => Wout cls d σ H') := by
  obtain ⟨φ, ρ, S, s, e, h⟩ := h
  refine FS.step s e h fun ds S1 φ1 vs H1 f1 s1 e1 r1 h1 => ?_
  match ds, r1, h1 with
  | [], _, h1 => exact h1.elim
  | [_], _, h1 => exact h1.elim
  | _ :: _ :: _ :: _, _, h1 => exact h1.elim
  | [x, y], r1, h1 =>
    obtain ⟨l, r, rfl, rl, rr⟩ := RDs.two r1
    refine ⟨by show 2 ≤ 1000; decide, x2_raise (E := fun cls d H' => Wout cls d σ H') fun d hd => ?_⟩
    have fu : Fu K φ1 φ1 H1 (upd H1 d (.xd (keep2 f g l r))) := add_fu hd
    exact h1 φ1 (some d) σ _ fu (rs_add s1 hd) (e1.fu fu) (.fld upd_same (.cons ⟨rfl, rr.fu fu⟩ (.cons ⟨rfl, rl.fu fu⟩ .nil)))
/-- try: body; except C as n: x = (n.f, n.g) -/
def tellM (i j : Nat) (tab : List (Str × Bool)) (C f g : Str) (body : MS) : MS := fun ρ S => match body ρ S with
  | .exc c fs ρ' S' => match tab.lookup c with
    | some true => if c = C ∧ i < ρ'.length ∧ j ≠ i then (match fs.lookup f, fs.lookup g with
        | some x, some y => .nx ((ρ'.set j (some (.tup [x, y]))).set i none) S'
        | _, _ => .no) else .no
    | some false => .exc c fs ρ' S'
    | none => .no
  | r => r
abbrev tsTell (i j : Nat) (C : Addr) (f g : Str) : Addr → Value → Option Addr → TS := fun a cls d => tAsg (tTup (tCons (tXf a cls d C f (tVar i)) (tCons (tXf a cls d C g (tVar i)) tNil))) (gName j)
theorem tell_im {i j : Nat} {C : Value} {N f g : Str} {tab : List (Str × Bool)} {body : MS} {Wout : WX} (hx : ∀ p ∈ tab, PySem.W.exmOne K (.ref (cl p.1)) C = some p.2) :
    ∀ D σ H, FS K cl (fun σ cls d H => Wout cls d σ H) (tellM i j tab N f g body) D σ H → FS K cl (fun σ cls d H => wAs K C i (tsTell i j (cl N) f g) Wout D cls d σ H) body D σ H := fun D σ H ⟨φ, ρ, S, s, e, h⟩ => by
  refine ⟨φ, ρ, S, s, e, ?_⟩
  unfold tellM at h
  cases q : body ρ S with
  | exc c fs ρ' S' =>
    rw [q] at h
    dsimp only at h
    intro φ' oe σ' H' f' s' e' r
    cases q2 : tab.lookup c with
    | none => rw [q2] at h; exact h.elim
    | some b =>
      rw [q2] at h
      refine ⟨b, hx _ (lookup_mem q2), fun eb a _ => ?_, fun eb => ?_⟩
      · subst eb
        dsimp only at h
        by_cases c1 : c = N ∧ i < ρ'.length ∧ j ≠ i
        · rw [if_pos c1] at h
          obtain ⟨rfl, hi, hj⟩ := c1
          have hi' : (σ'.set i (some (V.ref a)))[i]? = some (some (V.ref a)) := by
            rw [List.getElem?_set_self (by rw [← e'.len]; exact hi)]
          cases q3 : fs.lookup f with
          | none => rw [q3] at h; exact h.elim
          | some x =>
            cases q4 : fs.lookup g with
            | none => rw [q3, q4] at h; exact h.elim
            | some y =>
              rw [q3, q4] at h
              cases r with
              | non => cases q3
              | fld hd ra =>
                rename_i dd wl
                have lx := RA.look f ra
                have ly := RA.look g ra
                rw [q3] at lx
                rw [q4] at ly
                obtain ⟨vx, ex, rx⟩ := RDo.someD lx
                obtain ⟨vy, ey, ry⟩ := RDo.someD ly
                refine ⟨_, hi', rfl, rfl, dd, wl, vx, rfl, hd, ex, _, hi', rfl, rfl, dd, wl, vy, rfl, hd, ey, by show 2 ≤ sizeLine; rw [PySem.sizeLine_eq]; decide, fun p np => ?_⟩
                have h2 := ws.fu f' h
                have fu : Fu K φ' φ' H' (upd H' p (.tup [vx, vy])) := add_fu np
                have rd : RD K φ' (upd H' p (.tup [vx, vy])) (.tup [x, y]) (.ref p) := .tup (SqT.of upd_same) (.cons (rx.fu fu) (.cons (ry.fu fu) .nil))
                refine h2 φ' _ _ fu (rs_add s' np) ?_
                show RE K φ' _ _ ((((σ'.set i (some (V.ref a))).set j (some (.ref p)))).set i none)
                have e2 := (e'.fu fu).set j rd
                have e3 := e2.forget i (v := none)
                have es : ((σ'.set i (some (V.ref a))).set j (some (V.ref p))).set i none = (σ'.set j (some (V.ref p))).set i none := by
                  rw [List.set_comm _ _ (Ne.symm hj), List.set_set]
                rw [es]
                exact e3
        · rw [if_neg c1] at h; exact h.elim
      · subst eb
        exact h φ' oe σ' H' f' s' e' r
  | nx _ _ => rw [q] at h; exact h
  | rt _ _ => rw [q] at h; exact h
  | bk _ _ => rw [q] at h; exact h
  | ct _ _ => rw [q] at h; exact h
  | no => rw [q] at h; exact h
end
end L3
set_option Elab.async false
set_option linter.all false
set_option maxRecDepth 100000
set_option maxHeartbeats 4000000
/-! dicts whose keys are nested tuples -/
namespace L3
open PySem PySem.Spec PyProof.Rows L2
section
variable {X : Cx} {cl : Cl} {φ : List Addr} {H : Hp} {S : Store} {σ : L2.St} {pins : List (Addr × Obj)} {s : Shared}
mutual
/-- a value that is such a key, in the heap -/
theorem nested_is (inv : Inv X pins σ H s) : ∀ {d : L3.D} {v : V}, RD X.K φ H d v → ∀ {k : NestedKey} {u : Value}, NK d = some k → RelV v u → NestedIs s.heap k u
  | _, _, .non, k, u, h, r => by
    cases h
    cases (show u = Value.none from r)
    exact .none
  | _, _, .bl b, k, u, h, r => by
    cases h
    cases (show u = Value.bool b from r)
    exact .bool rfl
  | _, _, .int i, k, u, h, r => by
    cases h
    obtain ⟨t, e⟩ := r
    subst e
    exact .int i t
  | _, _, .str x, k, u, h, r => by
    cases h
    obtain ⟨t, e⟩ := r
    subst e
    exact .text x t
  | _, _, .tup (a := a) (ds := ds) g rs, k, u, h, r => by
    cases (show u = Value.ref a from r)
    cases e : NKs ds with
    | none => simp [NK, e] at h
    | some ks =>
      simp [NK, e] at h
      subst h
      obtain ⟨vu, ru, pu, _⟩ := inv.tuple g
      obtain ⟨o, e1, e2, n, e3⟩ := pu
      exact .tup e1 e2 e3 (by
        have := nesteds_are inv rs e ru
        simpa using this)
  | _, _, .lisR _ _ _, _, _, h, _ => by cases h
  | _, _, .lisK _ _, _, _, h, _ => by cases h
  | _, _, .ref _, _, _, h, _ => by cases h
theorem nesteds_are (inv : Inv X pins σ H s) : ∀ {ds : List L3.D} {vs : List V}, RDs X.K φ H ds vs → ∀ {ks : List NestedKey} {us : List Value}, NKs ds = some ks → Vals vs us → NestedAll s.heap ks us
  | _, _, .nil, ks, us, h, r => by
    cases h
    cases r
    exact .nil
  | _, _, .cons (d := d) (ds := ds) r1 rs, ks, us, h, r => by
    cases r with
    | cons q1 qs =>
      cases e1 : NK d with
      | none => simp [NKs, e1] at h
      | some k =>
        cases e2 : NKs ds with
        | none => simp [NKs, e1, e2] at h
        | some kk =>
          simp [NKs, e1, e2] at h
          subst h
          exact .cons (nested_is inv r1 e1 q1) (nesteds_are inv rs e2 qs)
end
abbrev TabR (K : PySem.W.Frag) (φ : List Addr) (H : Hp) : List (L3.D × L3.D) → List (NestedKey × Addr × V) → Prop := Paired fun (p : L3.D × L3.D) (x : NestedKey × Addr × V) => (NK p.1 = some x.1 ∧ x.1.depth ≤ 8) ∧ RD K φ H p.1 (.ref x.2.1) ∧ RD K φ H p.2 x.2.2
abbrev EntR : List (NestedKey × Addr × V) → List (NestedKey × Addr × Value) → Prop := Paired fun (x : NestedKey × Addr × V) (y : NestedKey × Addr × Value) => x.1 = y.1 ∧ x.2.1 = y.2.1 ∧ RelV x.2.2 y.2.2
theorem tab_is (inv : Inv X pins σ H s) : ∀ {kvs : List (L3.D × L3.D)} {es : List (NestedKey × Addr × V)} {vs : List (NestedKey × Addr × Value)}, TabR X.K φ H kvs es → EntR es vs → ∀ y ∈ vs, (nestedKind X.prog X.w).is s.heap y.1 y.2.1
  | _, _, _, .nil, .nil, _, m => by cases m
  | _, _, _, .cons h hs, .cons q qs, y, m => by
    rcases List.mem_cons.mp m with rfl | m
    · obtain ⟨⟨h1, h2⟩, h3, _⟩ := h
      obtain ⟨q1, q2, _⟩ := q
      rw [← q1, ← q2]
      exact ⟨nested_is inv h3 h1 rfl, h2⟩
    · exact tab_is inv hs qs y m
theorem tab_dict (inv : Inv X pins σ H s) (hw : cl.w = X.w) {a : Addr} {kvs : List (L3.D × L3.D)} {es : List (NestedKey × Addr × V)} (g : H a = some (ndO cl.w a es)) (hp : TabR X.K φ H kvs es) :
    (a == sysModules) = false ∧ ∃ vs, EntR es vs ∧ s.heap.DictOfH (nestedKind X.prog X.w) a vs := by
  obtain ⟨⟨h1, vs, hv, o, es', ep, e1, e2, e3, e4, e5⟩, _⟩ := inv.hok a _ g
  rw [hw] at e4
  exact ⟨h1, vs, hv, o, es', ep, e1, e2, e3, e4, tab_is inv hp hv, e5⟩
/-- whether the key is there -/
def hasK (x : NestedKey) (kvs : List (L3.D × L3.D)) : Bool := kvs.any fun p => decide (NK p.1 = some x)
theorem has_at {x : NestedKey} : ∀ {kvs : List (L3.D × L3.D)} {es : List (NestedKey × Addr × V)} {vs : List (NestedKey × Addr × Value)}, TabR X.K φ H kvs es → EntR es vs → (atKey vs x).isSome = hasK x kvs
  | _, _, _, .nil, .nil => rfl
  | _, _, _, .cons (a := p) h hs, .cons (b := y) q qs => by
    have ih := has_at (x := x) hs qs
    obtain ⟨⟨h1, _⟩, _, _⟩ := h
    obtain ⟨q1, _, _⟩ := q
    unfold atKey hasK at ih ⊢
    rw [List.find?_cons, List.any_cons, h1, q1]
    by_cases c : y.1 = x
    · simp [c]
    · simp [c]
      simpa using ih
def tabO (S : Store) (d : L3.D) : Option (List (L3.D × L3.D)) := match d with
  | .ref n => (match S[n]? with
    | some (.tab kvs) => some kvs
    | _ => none)
  | _ => none
theorem RS.tabD {d : L3.D} {v : V} (st : RS X.K cl φ S H) (r : RD X.K φ H d v) {kvs : List (L3.D × L3.D)} (h : tabO S d = some kvs) : ∃ n a es, d = .ref n ∧ φ[n]? = some a ∧ v = .ref a ∧ H a = some (ndO cl.w a es) ∧ TabR X.K φ H kvs es := by
  cases r with
  | ref e =>
    rename_i n a
    obtain ⟨o, e1, e2⟩ := st.all e
    simp only [tabO, e1] at h
    cases e2 with
    | tab g1 g2 => cases h; exact ⟨n, a, _, rfl, e, rfl, g1, g2⟩
    | lst g1 g2 => cases h
    | dic g1 g2 => cases h
    | ins g1 g2 => cases h
  | _ => cases h
/-- k in d, k not in d, the dict's keys being nested tuples, k a tuple -/
def tinF (neg : Bool) (k d : L3.D) (S : Store) : OD := match k with
  | .tup _ => (NK k).bind fun x => (tabO S d).bind fun kvs => if x.depth ≤ 8 then some (.bl (neg != hasK x kvs), S) else none
  | _ => none
variable {E : L2.St → XK} {ma mb : ME} {i o : Expr}
theorem ft_tin (hw : cl.w = X.w) (hu : X.A.units + 65 < cLine) (hi : PE X i (FE X.K cl E ma)) (ho : PE X o (FE X.K cl E mb)) : PC X .In i o (FE X.K cl E (opE (tinF false) ma mb)) :=
  ⟨fun pins s σ H Q I h => by
    obtain ⟨φ, ρ, S, s0, e, h⟩ := h
    refine thn (hi.run pins s σ H _ I (F.step s0 e h fun k S1 φ1 v H1 f1 s1 e1 r1 h1 => (show ∃ φ ρ S k, RS X.K cl φ S H1 ∧ RE X.K φ H1 ρ σ ∧ RD X.K φ H1 k v ∧ wp X.K cl (RD X.K) (E σ) φ H1 ((mb ρ S).bind fun d S2 => R.ofO (tinF false k d S2)) Q from ⟨φ1, ρ, S1, k, s1, e1, r1, h1⟩))) fun iv s1' ⟨y, H1, I1, ry, φ1, ρ1, S1, k, st1, e1, r1, h1⟩ => ?_
    refine thn (ho.run pins s1' σ H1 _ I1 (F.step st1 e1 h1 fun d S2 φ2 u H2 f2 s2 e2 r2 h2 => (show ∃ φ S d, RS X.K cl φ S H2 ∧ RD X.K φ H2 k y ∧ RD X.K φ H2 d u ∧ wp X.K cl (RD X.K) (E σ) φ H2 (R.ofO (tinF false k d S)) Q from ⟨φ2, S2, d, s2, r1.fu f2, r2, h2⟩))) fun u s2' ⟨x, H2, I2, rx, φ2, S2, d, st2, rk, rd, h2⟩ => ?_
    obtain ⟨d', S', q, hq⟩ := wp.ofO h2
    cases k with
    | tup ds =>
      unfold tinF at q
      dsimp only at q
      cases e3 : NK (.tup ds) with
      | none => rw [e3] at q; cases q
      | some xk =>
        rw [e3] at q
        simp only [Option.bind_some] at q
        cases e4 : tabO S2 d with
        | none => rw [e4] at q; cases q
        | some kvs =>
          rw [e4] at q
          simp only [Option.bind_some] at q
          by_cases c : xk.depth ≤ 8
          · rw [if_pos c] at q
            obtain ⟨n, a, es, rfl, hn, rfl, g1, g2⟩ := RS.tabD st2 rd e4
            cases rk with
            | @tup b vsb _ gk rks =>
              cases (show iv = Value.ref b from ry)
              cases (show u = Value.ref a from rx)
              obtain ⟨hd, vs, hv, dd⟩ := tab_dict I2 hw g1 g2
              have hk : (nestedKind X.prog X.w).is s2'.heap xk b := ⟨nested_is I2 (.tup gk rks) e3 rfl, c⟩
              refine wpAny_in_heap (knd := nestedKind X.prog X.w) (show X.A.in1.units + 8 < cLine from ?_) hk hd dd ?_
              · show X.A.units + 1 + 8 < cLine
                omega
              · rw [has_at g2 hv]
                cases q
                have eb : (false != hasK xk kvs) = hasK xk kvs := by cases hasK xk kvs <;> rfl
                rw [eb] at hq
                exact ⟨.bl _, H2, I2.tok _, rfl, hq φ2 _ H2 Fu.refl st2 (.bl _)⟩
          · rw [if_neg c] at q; cases q
    | _ => cases q⟩
theorem ft_tnin (hw : cl.w = X.w) (hu : X.A.units + 65 < cLine) (hi : PE X i (FE X.K cl E ma)) (ho : PE X o (FE X.K cl E mb)) : PC X .NotIn i o (FE X.K cl E (opE (tinF true) ma mb)) :=
  ⟨fun pins s σ H Q I h => by
    obtain ⟨φ, ρ, S, s0, e, h⟩ := h
    refine thn (hi.run pins s σ H _ I (F.step s0 e h fun k S1 φ1 v H1 f1 s1 e1 r1 h1 => (show ∃ φ ρ S k, RS X.K cl φ S H1 ∧ RE X.K φ H1 ρ σ ∧ RD X.K φ H1 k v ∧ wp X.K cl (RD X.K) (E σ) φ H1 ((mb ρ S).bind fun d S2 => R.ofO (tinF true k d S2)) Q from ⟨φ1, ρ, S1, k, s1, e1, r1, h1⟩))) fun iv s1' ⟨y, H1, I1, ry, φ1, ρ1, S1, k, st1, e1, r1, h1⟩ => ?_
    refine thn (ho.run pins s1' σ H1 _ I1 (F.step st1 e1 h1 fun d S2 φ2 u H2 f2 s2 e2 r2 h2 => (show ∃ φ S d, RS X.K cl φ S H2 ∧ RD X.K φ H2 k y ∧ RD X.K φ H2 d u ∧ wp X.K cl (RD X.K) (E σ) φ H2 (R.ofO (tinF true k d S)) Q from ⟨φ2, S2, d, s2, r1.fu f2, r2, h2⟩))) fun u s2' ⟨x, H2, I2, rx, φ2, S2, d, st2, rk, rd, h2⟩ => ?_
    obtain ⟨d', S', q, hq⟩ := wp.ofO h2
    cases k with
    | tup ds =>
      unfold tinF at q
      dsimp only at q
      cases e3 : NK (.tup ds) with
      | none => rw [e3] at q; cases q
      | some xk =>
        rw [e3] at q
        simp only [Option.bind_some] at q
        cases e4 : tabO S2 d with
        | none => rw [e4] at q; cases q
        | some kvs =>
          rw [e4] at q
          simp only [Option.bind_some] at q
          by_cases c : xk.depth ≤ 8
          · rw [if_pos c] at q
            obtain ⟨n, a, es, rfl, hn, rfl, g1, g2⟩ := RS.tabD st2 rd e4
            cases rk with
            | @tup b vsb _ gk rks =>
              cases (show iv = Value.ref b from ry)
              cases (show u = Value.ref a from rx)
              obtain ⟨hd, vs, hv, dd⟩ := tab_dict I2 hw g1 g2
              have hk : (nestedKind X.prog X.w).is s2'.heap xk b := ⟨nested_is I2 (.tup gk rks) e3 rfl, c⟩
              refine wpAny_notIn_heap (knd := nestedKind X.prog X.w) (show X.A.in1.units + 8 < cLine from ?_) hk hd dd ?_
              · show X.A.units + 1 + 8 < cLine
                omega
              · rw [has_at g2 hv]
                cases q
                have eb : (true != hasK xk kvs) = !hasK xk kvs := by cases hasK xk kvs <;> rfl
                rw [eb] at hq
                exact ⟨.bl _, H2, I2.tok _, rfl, hq φ2 _ H2 Fu.refl st2 (.bl _)⟩
          · rw [if_neg c] at q; cases q
    | _ => cases q⟩
/-- {} for such a dict -/
def tabE0 : ME := fun ρ S => .ok (.ref S.length) (S ++ [.tab []])
theorem nd_empty (w : World) (h : Heap) (hb : sysModules < h.objs.size) {P : Program} {w' : World} {H : Hp} : ObjOk P w' H (h.push { cls := .type "dict", data := .dict #[] }) h.objs.size (ndO w h.objs.size []) := by
  refine ⟨⟨beq_eq_false_iff_ne.mpr (Ne.symm (Nat.ne_of_lt hb)), [], .nil, _, #[], 0, Heap.get?_push_size _ rfl, ⟨rfl, rfl, rfl⟩, rfl, rfl, List.nodup_nil⟩, ⟨_, Heap.get?_push_size _ rfl⟩, fun h1 h2 q k => ?_⟩
  obtain ⟨q1, vs, q2, o, es', ep, q3, q4⟩ := q
  exact ⟨q1, vs, q2, o, es', ep, k _ q3, q4⟩
variable {pos : Pos}
theorem fe_tnew : PE X (.Dict [] [] pos) (FE X.K cl E tabE0) := ⟨fun pins s σ H Q I ⟨φ, ρ, S, s0, e, h⟩ =>
  wpAny_Dict_empty ⟨.ref s.heap.objs.size, _, I.laid (a := s.heap.objs.size) (o := ndO cl.w s.heap.objs.size []) (t' := s.toks) (fun _ _ q => Heap.get?_push_of_some _ q) (Nat.le_refl _) (nd_empty cl.w s.heap I.big), rfl, by
    have n : H s.heap.objs.size = none := I.hok.fresh (Nat.le_refl _)
    exact h (φ ++ [s.heap.objs.size]) _ _ (Fu.new n) (s0.new n (.tab upd_same .nil)) s0.new_ref⟩⟩
/-- the value v kept at the key k (an old key stays) -/
def putT (x : NestedKey) (k v : L3.D) (kvs : List (L3.D × L3.D)) : List (L3.D × L3.D) := if hasK x kvs = true then kvs.map (fun p => if NK p.1 = some x then (p.1, v) else p) else kvs ++ [(k, v)]
def putE (x : NestedKey) (b : Addr) (v : V) (es : List (NestedKey × Addr × V)) : List (NestedKey × Addr × V) := if (es.any fun y => decide (y.1 = x)) = true then es.map (fun y => if y.1 = x then (y.1, y.2.1, v) else y) else es ++ [(x, b, v)]
theorem any_tab {x : NestedKey} : ∀ {kvs : List (L3.D × L3.D)} {es : List (NestedKey × Addr × V)}, TabR X.K φ H kvs es → (es.any fun y => decide (y.1 = x)) = hasK x kvs
  | _, _, .nil => rfl
  | _, _, .cons h hs => by
    have ih := any_tab (x := x) hs
    obtain ⟨⟨h1, _⟩, _, _⟩ := h
    unfold hasK at ih ⊢
    rw [List.any_cons, List.any_cons, h1, ih]
    congr 1
    simp
theorem put_map {x : NestedKey} {d : L3.D} {v : V} (rv : RD X.K φ H d v) : ∀ {kvs : List (L3.D × L3.D)} {es : List (NestedKey × Addr × V)}, TabR X.K φ H kvs es → TabR X.K φ H (kvs.map fun p => if NK p.1 = some x then (p.1, d) else p) (es.map fun y => if y.1 = x then (y.1, y.2.1, v) else y)
  | _, _, .nil => .nil
  | _, _, .cons (a := p) (b := y) h hs => by
    have ih := put_map (x := x) rv hs
    obtain ⟨⟨h1, h2⟩, h3, h4⟩ := h
    rw [List.map_cons, List.map_cons]
    refine .cons ?_ ih
    by_cases c : y.1 = x
    · have c' : NK p.1 = some x := by rw [h1, c]
      rw [if_pos c, if_pos c']
      exact ⟨⟨h1, h2⟩, h3, rv⟩
    · have c' : ¬ NK p.1 = some x := by rw [h1]; simpa using c
      rw [if_neg c, if_neg c']
      exact ⟨⟨h1, h2⟩, h3, h4⟩
theorem tab_app : ∀ {kvs l : List (L3.D × L3.D)} {es m : List (NestedKey × Addr × V)}, TabR X.K φ H kvs es → TabR X.K φ H l m → TabR X.K φ H (kvs ++ l) (es ++ m)
  | _, _, _, _, .nil, q => q
  | _, _, _, _, .cons h hs, q => .cons h (tab_app hs q)
theorem put_tab {x : NestedKey} {k d : L3.D} {b : Addr} {v : V} (hk : NK k = some x) (hx : x.depth ≤ 8) (rk : RD X.K φ H k (.ref b)) (rv : RD X.K φ H d v) {kvs : List (L3.D × L3.D)} {es : List (NestedKey × Addr × V)} (h : TabR X.K φ H kvs es) : TabR X.K φ H (putT x k d kvs) (putE x b v es) := by
  unfold putT putE
  rw [any_tab h]
  split
  · exact put_map rv h
  · exact tab_app h (.cons ⟨⟨hk, hx⟩, rk, rv⟩ .nil)
theorem any_ent {x : NestedKey} : ∀ {es : List (NestedKey × Addr × V)} {vs : List (NestedKey × Addr × Value)}, EntR es vs → (atKey vs x).isSome = (es.any fun y => decide (y.1 = x))
  | _, _, .nil => rfl
  | _, _, .cons (a := p) (b := y) h hs => by
    have ih := any_ent (x := x) hs
    obtain ⟨h1, _, _⟩ := h
    unfold atKey at ih ⊢
    rw [List.find?_cons, List.any_cons, h1]
    by_cases c : y.1 = x
    · simp [c]
    · simp [c]
      simpa using ih
theorem ent_map {x : NestedKey} {v : V} {u : Value} (ru : RelV v u) : ∀ {es : List (NestedKey × Addr × V)} {vs : List (NestedKey × Addr × Value)}, EntR es vs → EntR (es.map fun y => if y.1 = x then (y.1, y.2.1, v) else y) (vs.map (putAt x u))
  | _, _, .nil => .nil
  | _, _, .cons (a := p) (b := y) h hs => by
    have ih := ent_map (x := x) ru hs
    obtain ⟨h1, h2, h3⟩ := h
    rw [List.map_cons, List.map_cons]
    refine .cons ?_ ih
    unfold putAt
    by_cases c : y.1 = x
    · rw [if_pos (h1.trans c), if_pos c]; exact ⟨h1, h2, ru⟩
    · rw [if_neg (by rw [h1]; exact c), if_neg c]; exact ⟨h1, h2, h3⟩
theorem ent_app : ∀ {es m : List (NestedKey × Addr × V)} {vs n : List (NestedKey × Addr × Value)}, EntR es vs → EntR m n → EntR (es ++ m) (vs ++ n)
  | _, _, _, _, .nil, q => q
  | _, _, _, _, .cons h hs, q => .cons h (ent_app hs q)
theorem ent_put {x : NestedKey} {b : Addr} {v : V} {u : Value} (ru : RelV v u) {es : List (NestedKey × Addr × V)} {vs : List (NestedKey × Addr × Value)} (h : EntR es vs) : EntR (putE x b v es) (storedH vs x b u) := by
  unfold putE storedH
  rw [any_ent h]
  split
  · exact ent_map ru h
  · exact ent_app h (.cons ⟨rfl, rfl, ru⟩ .nil)
def tputF (k d v : L3.D) (S : Store) : Option Store := match k, d with
  | .tup ds, .ref n => (NK (.tup ds)).bind fun x => (tabO S (.ref n)).bind fun kvs => if x.depth ≤ 8 ∧ kvs.length < sizeLine then some (S.set n (.tab (putT x (.tup ds) v kvs))) else none
  | _, _ => none
/-- o[k] = v, k a tuple -/
def tputM (mo mk mv : ME) : MS := fun ρ S => (mv ρ S).sb ρ fun v S1 => (mo ρ S1).sb ρ fun d S2 => (mk ρ S2).sb ρ fun k S3 => match tputF k d v S3 with
  | some S4 => .nx ρ S4
  | none => .no
theorem tab_len : ∀ {kvs : List (L3.D × L3.D)} {es : List (NestedKey × Addr × V)}, TabR X.K φ H kvs es → es.length = kvs.length
  | _, _, .nil => rfl
  | _, _, .cons _ hs => congrArg (· + 1) (tab_len hs)
theorem ent_len : ∀ {es : List (NestedKey × Addr × V)} {vs : List (NestedKey × Addr × Value)}, EntR es vs → vs.length = es.length
  | _, _, .nil => rfl
  | _, _, .cons _ hs => congrArg (· + 1) (ent_len hs)
/-- the dict written -/
theorem t_set {A : Around} {E' : Value → Shared → Prop} {Q : Unit → Shared → Prop} (hw : cl.w = X.w) (hu : A.units + 65 < cLine) (inv : Inv X pins σ H s) {a b : Addr} {x : NestedKey} {kvs : List (L3.D × L3.D)} {es : List (NestedKey × Addr × V)} {v : V} {u : Value}
    (g : H a = some (ndO cl.w a es)) (hp : TabR X.K φ H kvs es) (hl : kvs.length < sizeLine) (hk : NestedIs s.heap x (.ref b)) (hx : x.depth ≤ 8) (ru : RelV v u) (h : ∀ s', Inv X pins σ (upd H a (ndO cl.w a (putE x b v es))) s' → Q () s') :
    wpAny (model X.prog X.w) A (setItem (.ref a) (.ref b) u) Q E' s := by
  obtain ⟨hd, vs, hv, dd⟩ := tab_dict inv hw g hp
  refine wpAny_setItem_heap (knd := nestedKind X.prog X.w) (hsz := by rw [ent_len hv, tab_len hp]; omega) (show A.units + 1 + 8 < cLine by omega) ⟨hk, hx⟩ dd fun h' dd' hs => h _ ?_
  obtain ⟨q, es', ep, hq, h2, h3, h4, _, h5⟩ := dd'
  refine d_write inv (by rw [g]; exact True.intro) hs ⟨q, hq⟩ ⟨⟨hd, _, ent_put ru hv, q, es', ep, hq, h2, h3, by rw [h4, hw]; rfl, h5⟩, ⟨q, hq⟩, fun h1 h2 z k => ?_⟩
  obtain ⟨q1, vs1, q2, o, e1, ep1, q3, q4⟩ := z
  exact ⟨q1, vs1, q2, o, e1, ep1, k _ q3, q4⟩
variable {mo mk mv : ME}
theorem ps_tput {value o i : Expr} {pos pos' : Pos} (hw : cl.w = X.w) (hu : X.A.units + 65 < cLine) (ho : PE X o (FE X.K cl E mo)) (hi : PE X i (FE X.K cl E mk)) (hv : PE X value (FE X.K cl E mv)) (hs : swapsWith value (some (.Subscript o i pos')) pos.line X.env = pure false := by rfl) :
    PS X (.Assign [.Subscript o i pos'] value pos) (FS X.K cl E (tputM mo mk mv)) := by
  refine ⟨fun pins s σ H D I h => ?_⟩
  obtain ⟨φ, ρ, S, s0, e, h⟩ := h
  refine wpAny_Assign_Subscript (thn (hv.run pins s σ H _ I (FS.step s0 e h fun v S1 φ1 u H1 f1 s1 e1 r1 h1 => (show ∃ φ S v, RS X.K cl φ S H1 ∧ RE X.K φ H1 ρ σ ∧ RD X.K φ H1 v u ∧ ws X.K cl E φ H1 ((mo ρ S).sb ρ fun d S2 => (mk ρ S2).sb ρ fun k S3 => match tputF k d v S3 with
      | some S4 => .nx ρ S4
      | none => .no) D from ⟨φ1, S1, v, s1, e1, r1, h1⟩))) fun r s1' ⟨y, H1, I1, ry, φ1, S1, v, st1, e1, r1, h1⟩ => ?_) hs
  refine thn (ho.run pins s1' σ H1 _ I1 (FS.step st1 e1 h1 fun d S2 φ2 u H2 f2 s2 e2 r2 h2 => (show ∃ φ S d, RS X.K cl φ S H2 ∧ RE X.K φ H2 ρ σ ∧ RD X.K φ H2 v y ∧ RD X.K φ H2 d u ∧ ws X.K cl E φ H2 ((mk ρ S).sb ρ fun k S3 => match tputF k d v S3 with
      | some S4 => .nx ρ S4
      | none => .no) D from ⟨φ2, S2, d, s2, e2, r1.fu f2, r2, h2⟩))) fun u s2' ⟨x, H2, I2, rx, φ2, S2, d, st2, e2, rv2, rd2, h2⟩ => ?_
  refine thn (hi.run pins s2' σ H2 _ I2 (FS.step st2 e2 h2 fun k S3 φ3 z H3 f3 s3 e3 r3 h3 => (show ∃ φ S k, RS X.K cl φ S H3 ∧ RE X.K φ H3 ρ σ ∧ RD X.K φ H3 v y ∧ RD X.K φ H3 d x ∧ RD X.K φ H3 k z ∧ ws X.K cl E φ H3 (match tputF k d v S with
      | some S4 => .nx ρ S4
      | none => .no) D from ⟨φ3, S3, k, s3, e3, rv2.fu f3, rd2.fu f3, r3, h3⟩))) fun iv s3' ⟨z, H3, I3, rz, φ3, S3, k, st3, e3, rv3, rd3, rk3, h3⟩ => ?_
  cases q : tputF k d v S3 with
  | none => rw [q] at h3; exact h3.elim
  | some S4 =>
    rw [q] at h3
    unfold tputF at q
    cases k with
    | tup ds =>
      cases d with
      | ref n =>
        dsimp only at q
        cases q1 : NK (.tup ds) with
        | none => rw [q1] at q; cases q
        | some xk =>
          rw [q1] at q
          simp only [Option.bind_some] at q
          cases q2 : tabO S3 (.ref n) with
          | none => rw [q2] at q; cases q
          | some kvs =>
            rw [q2] at q
            simp only [Option.bind_some] at q
            by_cases c : xk.depth ≤ 8 ∧ kvs.length < sizeLine
            · rw [if_pos c] at q
              cases q
              obtain ⟨n', a, es, en, hn, rfl, g1, g2⟩ := RS.tabD st3 rd3 q2
              cases en
              cases rk3 with
              | @tup b vsb _ gk rks =>
                cases (show iv = Value.ref b from rz)
                cases (show u = Value.ref a from rx)
                refine t_set hw hu I3 g1 g2 c.2 (nested_is I3 (.tup gk rks) q1 rfl) c.1 ry fun s4 I4 => ⟨σ, _, I4, ?_⟩
                have fp := Fu.put (h := ndO cl.w a (putE xk b y es)) st3 hn
                have tb := put_tab (x := xk) q1 c.1 (.tup gk rks) rv3 g2
                exact h3 φ3 σ _ fp (st3.put hn (.tab upd_same (Paired.mapP tb fun p x' q => ⟨q.1, q.2.1.fu fp, q.2.2.fu fp⟩))) (e3.fu fp)
            · rw [if_neg c] at q; cases q
      | _ => cases q
    | _ => cases q
/-- the int keys of a dict -/
def intKeys : List (Key × L3.D) → Option (List Int)
  | [] => some []
  | (.inl i, _) :: r => (intKeys r).map fun l => i :: l
  | (.inr _, _) :: _ => none
/-- sorted(d) of a dict with int keys -/
def sortDF (ds : List L3.D) (S : Store) : OD := match ds with
  | [d] => (dicD S d).bind fun kvs => (intKeys kvs).bind fun ks => if ks.length < 64 then some (.ref S.length, S ++ [.lst ((ks.mergeSort fun a b => decide (a ≤ b)).map .int)]) else none
  | _ => none
end
theorem sorted_one {xs ys : List Int} (hp : xs.Perm ys) (h1 : xs.Pairwise (· ≤ ·)) (h2 : ys.Pairwise (· ≤ ·)) : xs = ys :=
  hp.eq_of_pairwise (fun a b _ _ p q => Int.le_antisymm p q) h1 h2
theorem merge_sorted (ks : List Int) : (ks.mergeSort fun a b => decide (a ≤ b)).Pairwise (· ≤ ·) := by
  have := List.pairwise_mergeSort (le := fun a b : Int => decide (a ≤ b)) (fun a b c p q => by simp at p q ⊢; omega) (fun a b => by simp; omega) ks
  exact this.imp fun h => by simpa using h
theorem keys_int {K : PySem.W.Frag} {φ : List Addr} {H : Hp} : ∀ {kvs : List (Key × L3.D)} {ws : List (Key × V)} {ks : List Int}, RA K φ H kvs ws → intKeys kvs = some ks → ws.map (·.1) = ks.map Sum.inl
  | _, _, _, .nil, h => by cases h; rfl
  | _, _, ks, .cons (a := p) (b := q) h hs, e => by
    obtain ⟨k, d⟩ := p
    cases k with
    | inr x => cases e
    | inl i =>
      unfold intKeys at e
      cases q2 : intKeys _ with
      | none => rw [q2] at e; cases e
      | some l =>
        rw [q2] at e
        cases e
        rw [List.map_cons, List.map_cons, keys_int hs q2, ← h.1]
theorem call_sortDF {X : Cx} {cl : Cl} (hc : X.calm = true) : CallR X (.builtin "sorted") (rOs X.K cl sortDF) := by
  intro pins s σ H xs us Q I r h
  obtain ⟨φ, S, ds, s0, rd, w⟩ := h
  match ds, rd, w with
  | [], _, w => exact w.no rfl
  | _ :: _ :: _, _, w => exact w.no rfl
  | [d], rd, w =>
    obtain ⟨v, rfl, h1⟩ := rd.one
    cases q : dicD S d with
    | none => exact w.no (by simp only [sortDF, q]; rfl)
    | some kvs =>
      cases q2 : intKeys kvs with
      | none => exact w.no (by simp only [sortDF, q, Option.bind_some, q2]; rfl)
      | some ks =>
        by_cases c : ks.length < 64
        · obtain ⟨n, a, ws, rfl, hn, rfl, g1, g2⟩ := s0.dicD h1 q
          refine call_sortedDI hc pins s σ H _ us Q I r ⟨a, ws, ks, rfl, .inl g1, keys_int g2 q2, c, fun ys p hp hs np => ?_⟩
          have ey : ys = ks.mergeSort fun a b => decide (a ≤ b) := sorted_one (hp.trans (List.mergeSort_perm ks _).symm) hs (merge_sorted ks)
          exact w.newL (ds := ys.map .int) (by simp only [sortDF, q, Option.bind_some, q2, if_pos c, ey]) s0 (RDs.ints ys) np
        · exact w.no (by simp only [sortDF, q, Option.bind_some, q2, if_neg c])
end L3
set_option Elab.async false
set_option linter.all false
set_option maxRecDepth 100000
set_option maxHeartbeats 4000000
/-! what the printed functions do, in plain Lean -/
namespace L3
open PySem PySem.Spec PyProof.Rows L2
abbrev XT := Str → List (Str × L3.D) → Store → Prop
abbrev YT := DE → Str → List (Str × L3.D) → Store → Prop
/-- what a run gives: a value with P, or an exception with X -/
def R.OkX {α : Type} (r : R α) (X : XT) (P : α → Store → Prop) : Prop := match r with
  | .ok a S => P a S
  | .exc c fs S => X c fs S
  | .no => False
abbrev R.Ok {α : Type} (r : R α) (P : α → Store → Prop) : Prop := r.OkX (fun _ _ _ => False) P
/-- what an operator gives -/
def okO (o : OD) (P : L3.D → Store → Prop) : Prop := match o with
  | some p => P p.1 p.2
  | none => False
def SR.OkX (r : SR) (Y : YT) (nx : DE → Store → Prop) (rt : L3.D → Store → Prop) (bk ct : DE → Store → Prop) : Prop := match r with
  | .nx ρ S => nx ρ S
  | .rt d S => rt d S
  | .bk ρ S => bk ρ S
  | .ct ρ S => ct ρ S
  | .exc c fs ρ S => Y ρ c fs S
  | .no => False
abbrev SR.Ok (r : SR) (nx : DE → Store → Prop) (rt : L3.D → Store → Prop) (bk ct : DE → Store → Prop) : Prop := r.OkX (fun _ _ _ _ => False) nx rt bk ct
theorem R.Ok.ex {α : Type} {r : R α} {P : α → Store → Prop} (h : r.Ok P) : ∃ a S, r = .ok a S ∧ P a S := by
  cases r with
  | ok a S => exact ⟨a, S, rfl, h⟩
  | exc _ _ _ => exact h.elim
  | no => exact h.elim
theorem R.Ok.up {α : Type} {r : R α} {X : XT} {P : α → Store → Prop} (h : r.Ok P) : r.OkX X P := by
  cases r with
  | ok a S => exact h
  | exc _ _ _ => exact h.elim
  | no => exact h
section
variable {α β : Type} {P Q : α → Store → Prop} {S : Store} {ρ : DE} {nx bk ct : DE → Store → Prop} {rt : L3.D → Store → Prop} {X : XT} {Y : YT}
@[simp] theorem ok_ok {a : α} : (R.ok a S).OkX X P ↔ P a S := Iff.rfl
@[simp] theorem ok_no : (R.no : R α).OkX X P ↔ False := Iff.rfl
@[simp] theorem ok_exc {c : Str} {fs : List (Str × L3.D)} : (R.exc c fs S : R α).OkX X P ↔ X c fs S := Iff.rfl
@[simp] theorem ok_bind {r : R α} {f : α → Store → R β} {P : β → Store → Prop} : (r.bind f).OkX X P ↔ r.OkX X fun a S => (f a S).OkX X P := by
  cases r with
  | ok a S => simp only [R.bind, ok_ok]
  | exc c fs S => simp only [R.bind, ok_exc]
  | no => simp only [R.bind, ok_no]
theorem R.OkX.imp {r : R α} (h : r.OkX X P) (i : ∀ a S, P a S → Q a S) : r.OkX X Q := by
  cases r with
  | ok a S => exact i a S h
  | exc c fs S => exact h
  | no => exact h
theorem R.OkX.impX {r : R α} {X' : XT} (h : r.OkX X P) (i : ∀ a S, P a S → Q a S) (x : ∀ c fs S, X c fs S → X' c fs S) : r.OkX X' Q := by
  cases r with
  | ok a S => exact i a S h
  | exc c fs S => exact x c fs S h
  | no => exact h
theorem R.Ok.imp {r : R α} (h : r.Ok P) (i : ∀ a S, P a S → Q a S) : r.Ok Q := R.OkX.imp h i
@[simp] theorem sok_sb {r : R α} {f : α → Store → SR} : (r.sb ρ f).OkX Y nx rt bk ct ↔ r.OkX (Y ρ) fun a S => (f a S).OkX Y nx rt bk ct := by
  cases r with
  | ok a S => simp only [R.sb, ok_ok]
  | exc c fs S => exact Iff.rfl
  | no => exact Iff.rfl
@[simp] theorem sok_nx : (SR.nx ρ S).OkX Y nx rt bk ct ↔ nx ρ S := Iff.rfl
@[simp] theorem sok_rt {d : L3.D} : (SR.rt d S).OkX Y nx rt bk ct ↔ rt d S := Iff.rfl
@[simp] theorem sok_bk : (SR.bk ρ S).OkX Y nx rt bk ct ↔ bk ρ S := Iff.rfl
@[simp] theorem sok_ct : (SR.ct ρ S).OkX Y nx rt bk ct ↔ ct ρ S := Iff.rfl
@[simp] theorem sok_no : (SR.no).OkX Y nx rt bk ct ↔ False := Iff.rfl
@[simp] theorem sok_seq {m k : MS} : (seqM m k ρ S).OkX Y nx rt bk ct ↔ (m ρ S).OkX Y (fun ρ S => (k ρ S).OkX Y nx rt bk ct) rt bk ct := by
  unfold seqM
  cases m ρ S <;> exact Iff.rfl
/-- what stands between two statements -/
theorem seq_cut {m k : MS} (Q : DE → Store → Prop) (h1 : (m ρ S).OkX Y Q rt bk ct) (h2 : ∀ ρ' S', Q ρ' S' → (k ρ' S').OkX Y nx rt bk ct) : (seqM m k ρ S).OkX Y nx rt bk ct := by
  rw [sok_seq]
  cases e : m ρ S <;> rw [e] at h1 <;> first | exact h1 | exact h2 _ _ h1
@[simp] theorem ok_fn {k : Nat} {mb : MS} {ds : List L3.D} {P : L3.D → Store → Prop} : (fnM k mb ds S).OkX X P ↔ (mb (ds.map some ++ List.replicate k none) S).OkX (fun _ c fs S => X c fs S) (fun _ S => P .non S) P (fun _ _ => False) fun _ _ => False := by
  unfold fnM
  cases mb (ds.map some ++ List.replicate k none) S <;> exact Iff.rfl
@[simp] theorem ok_ofO {o : OD} {P : L3.D → Store → Prop} : (R.ofO o).OkX X P ↔ okO o P := by
  cases o <;> exact Iff.rfl
@[simp] theorem okO_some {d : L3.D} {P : L3.D → Store → Prop} : okO (some (d, S)) P ↔ P d S := Iff.rfl
@[simp] theorem okO_none {P : L3.D → Store → Prop} : okO none P ↔ False := Iff.rfl
@[simp] theorem okO_map {α : Type} {o : Option α} {f : α → L3.D × Store} {P : L3.D → Store → Prop} : okO (o.map f) P ↔ ∃ a, o = some a ∧ P (f a).1 (f a).2 := by
  cases o <;> simp [okO]
@[simp] theorem okO_bind {α : Type} {o : Option α} {f : α → OD} {P : L3.D → Store → Prop} : okO (o.bind f) P ↔ ∃ a, o = some a ∧ okO (f a) P := by
  cases o <;> simp [okO]
@[simp] theorem okO_if {c : Prop} [Decidable c] {r q : OD} {P : L3.D → Store → Prop} : okO (if c then r else q) P ↔ if c then okO r P else okO q P := by split <;> exact Iff.rfl
@[simp] theorem ok_if {c : Prop} [Decidable c] {r q : R α} : (if c then r else q).OkX X P ↔ if c then r.OkX X P else q.OkX X P := by split <;> exact Iff.rfl
@[simp] theorem sok_if {c : Prop} [Decidable c] {r q : SR} : (if c then r else q).OkX Y nx rt bk ct ↔ if c then r.OkX Y nx rt bk ct else q.OkX Y nx rt bk ct := by split <;> exact Iff.rfl
theorem SR.Ok.imp {r : SR} {nx' bk' ct' : DE → Store → Prop} {rt' : L3.D → Store → Prop} (h : r.OkX Y nx rt bk ct) (h1 : ∀ ρ S, nx ρ S → nx' ρ S) (h2 : ∀ d S, rt d S → rt' d S) (h3 : ∀ ρ S, bk ρ S → bk' ρ S) (h4 : ∀ ρ S, ct ρ S → ct' ρ S) : r.OkX Y nx' rt' bk' ct' := by
  cases r with
  | nx ρ S => exact h1 _ _ h
  | rt ρ S => exact h2 _ _ h
  | bk ρ S => exact h3 _ _ h
  | ct ρ S => exact h4 _ _ h
  | exc _ _ _ _ => exact h
  | no => exact h
theorem vE_at {i : Nat} {d : L3.D} (h : ρ[i]? = some (some d)) : vE i ρ S = .ok d S := by unfold vE; rw [h]
/-! ### expressions -/
variable {m ma mb mc : ME} {t u : MT} {ms : MA} {P : L3.D → Store → Prop} {PB : Bool → Store → Prop} {PA : List L3.D → Store → Prop}
@[simp] theorem ok_v {i : Nat} : (vE i ρ S).OkX X P ↔ ∃ d, ρ[i]? = some (some d) ∧ P d S := by
  unfold vE
  cases h : ρ[i]? with
  | none => simp
  | some o => cases o <;> simp
@[simp] theorem ok_c {d : L3.D} : (cE d ρ S).OkX X P ↔ P d S := ok_ok
@[simp] theorem ok_opE {f : L3.D → L3.D → Store → OD} : (opE f ma mb ρ S).OkX X P ↔ (ma ρ S).OkX X fun d S1 => (mb ρ S1).OkX X fun e S2 => okO (f d e S2) P := by simp [opE]
@[simp] theorem ok_unE {f : L3.D → Store → OD} : (unE f ma ρ S).OkX X P ↔ (ma ρ S).OkX X fun d S1 => okO (f d S1) P := by simp [unE]
@[simp] theorem ok_bfE {f : List L3.D → Store → OD} : (bfE f ms ρ S).OkX X P ↔ (ms ρ S).OkX X fun d S1 => okO (f d S1) P := by simp [bfE]
@[simp] theorem ok_bT : (bT m ρ S).OkX X PB ↔ (m ρ S).OkX X fun d S1 => ∃ k, blO d = some k ∧ PB k S1 := by
  unfold bT
  rw [ok_bind]
  refine ⟨fun h => h.imp fun d S1 q => ?_, fun h => h.imp fun d S1 q => ?_⟩
  · cases e : blO d with
    | none => rw [e] at q; simp at q
    | some k => rw [e] at q; simpa using q
  · obtain ⟨k, e, q⟩ := q
    rw [e]
    simpa using q
@[simp] theorem ok_andT : (andT t u ρ S).OkX X PB ↔ (t ρ S).OkX X fun k S1 => if k = true then (u ρ S1).OkX X PB else PB false S1 := by simp [andT]
@[simp] theorem ok_orT : (orT t u ρ S).OkX X PB ↔ (t ρ S).OkX X fun k S1 => if k = true then PB true S1 else (u ρ S1).OkX X PB := by simp [orT]
@[simp] theorem ok_notT : (notT t ρ S).OkX X PB ↔ (t ρ S).OkX X fun k S1 => PB (!k) S1 := by simp [notT]
@[simp] theorem ok_yesT : (yesT ρ S).OkX X PB ↔ PB true S := ok_ok
@[simp] theorem ok_andE : (andE ma mb ρ S).OkX X P ↔ (ma ρ S).OkX X fun d S1 => ∃ k, blO d = some k ∧ if k = true then (mb ρ S1).OkX X P else P (.bl false) S1 := by simp [andE]
@[simp] theorem ok_orE : (orE ma mb ρ S).OkX X P ↔ (ma ρ S).OkX X fun d S1 => ∃ k, blO d = some k ∧ if k = true then P (.bl true) S1 else (mb ρ S1).OkX X P := by simp [orE]
@[simp] theorem ok_notE : (notE ma ρ S).OkX X P ↔ (ma ρ S).OkX X fun d S1 => ∃ k, blO d = some k ∧ P (.bl (!k)) S1 := by simp [notE]
@[simp] theorem ok_ifE : (ifE t ma mb ρ S).OkX X P ↔ (t ρ S).OkX X fun k S1 => if k = true then (ma ρ S1).OkX X P else (mb ρ S1).OkX X P := by simp [ifE]
@[simp] theorem ok_isiE {T : String} : (isiE T m ρ S).OkX X P ↔ (m ρ S).OkX X fun d S1 => ∃ k, kindD S1 d = some k ∧ P (.bl (isT k T)) S1 := by
  unfold isiE
  rw [ok_bind]
  refine ⟨fun h => h.imp fun d S1 q => ?_, fun h => h.imp fun d S1 q => ?_⟩
  · cases e : kindD S1 d with
    | none => rw [e] at q; simp at q
    | some k => rw [e] at q; simpa using q
  · obtain ⟨k, e, q⟩ := q
    rw [e]
    simpa using q
@[simp] theorem ok_nilA : (nilA ρ S).OkX X PA ↔ PA [] S := ok_ok
@[simp] theorem ok_consA : (consA m ms ρ S).OkX X PA ↔ (m ρ S).OkX X fun d S1 => (ms ρ S1).OkX X fun ds S2 => PA (d :: ds) S2 := by simp [consA]
@[simp] theorem ok_nF {n : Nat} {f : Fn} {ds : List L3.D} : (nF n f ds S).OkX X P ↔ ds.length = n ∧ (f ds S).OkX X P := by
  unfold nF
  by_cases c : ds.length = n <;> simp [c]
@[simp] theorem ok_callE {n : Nat} {f : Fn} : (callE n f ms ρ S).OkX X P ↔ (ms ρ S).OkX X fun ds S1 => ds.length = n ∧ (f ds S1).OkX X P := by simp [callE]
@[simp] theorem ok_tupE : (tupE ms ρ S).OkX X P ↔ (ms ρ S).OkX X fun ds S1 => ds.length ≤ 16777216 ∧ P (.tup ds) S1 := by
  unfold tupE
  rw [ok_bind]
  refine ⟨fun h => h.imp fun d S1 q => ?_, fun h => h.imp fun d S1 q => ?_⟩
  · rw [PySem.sizeLine_eq] at q
    by_cases c : d.length ≤ 16777216 <;> simp [c] at q <;> exact ⟨c, q⟩
  · rw [PySem.sizeLine_eq, if_pos q.1]; exact ok_ok.mpr q.2
@[simp] theorem ok_lstE : (lstE ms ρ S).OkX X P ↔ (ms ρ S).OkX X fun ds S1 => ds.length ≤ 16777216 ∧ P (.ref S1.length) (S1 ++ [.lst ds]) := by
  unfold lstE
  rw [ok_bind]
  refine ⟨fun h => h.imp fun d S1 q => ?_, fun h => h.imp fun d S1 q => ?_⟩
  · rw [PySem.sizeLine_eq] at q
    by_cases c : d.length ≤ 16777216 <;> simp [c] at q <;> exact ⟨c, q⟩
  · rw [PySem.sizeLine_eq, if_pos q.1]; exact ok_ok.mpr q.2
@[simp] theorem ok_noneO {PO : Option Int → Store → Prop} : (noneO ρ S).OkX X PO ↔ PO none S := ok_ok
@[simp] theorem ok_someO {PO : Option Int → Store → Prop} : (someO m ρ S).OkX X PO ↔ (m ρ S).OkX X fun d S1 => ∃ i, intO d = some i ∧ PO (some i) S1 := by
  unfold someO
  rw [ok_bind]
  refine ⟨fun h => h.imp fun d S1 q => ?_, fun h => h.imp fun d S1 q => ?_⟩
  · cases e : intO d with
    | none => rw [e] at q; simp at q
    | some k => rw [e] at q; simpa using q
  · obtain ⟨k, e, q⟩ := q
    rw [e]
    simpa using q
@[simp] theorem ok_slE {ml mh : MO} : (slE m ml mh ρ S).OkX X P ↔ (m ρ S).OkX X fun d S1 => (ml ρ S1).OkX X fun l S2 => (mh ρ S2).OkX X fun h S3 => okO (slD d l h S3) P := by simp [slE]
@[simp] theorem ok_sm1E {f : Str → L3.D → Store → OD} : (sm1E f m ma ρ S).OkX X P ↔ (m ρ S).OkX X fun d S1 => ∃ x, strO d = some x ∧ (ma ρ S1).OkX X fun a S2 => okO (f x a S2) P := by
  unfold sm1E
  rw [ok_bind]
  refine ⟨fun h => h.imp fun d S1 q => ?_, fun h => h.imp fun d S1 q => ?_⟩
  · cases e : strO d with
    | none => rw [e] at q; simp at q
    | some k => rw [e] at q; simpa using q
  · obtain ⟨k, e, q⟩ := q
    rw [e]
    simpa using q
def inK (kvs : List (Str × PyData)) (z : Str) : Bool := (kvs.lookup z).isSome
@[simp] theorem ok_inCE {kvs : List (Str × PyData)} {b : Bool} : (inCE kvs b m ρ S).OkX X P ↔ (m ρ S).OkX X fun d S1 => ∃ z, strO d = some z ∧ P (.bl (inK kvs z != b)) S1 := by
  unfold inCE
  rw [ok_bind]
  refine ⟨fun h => h.imp fun d S1 q => ?_, fun h => h.imp fun d S1 q => ?_⟩
  · cases e : strO d with
    | none => rw [e] at q; simp at q
    | some k => rw [e] at q; exact ⟨k, rfl, ok_ok.mp q⟩
  · obtain ⟨k, e, q⟩ := q
    rw [e]
    exact ok_ok.mpr q
@[simp] theorem ok_ixCE {kvs : List (Str × PyData)} : (ixCE kvs m ρ S).OkX X P ↔ (m ρ S).OkX X fun d S1 => ∃ z c, strO d = some z ∧ kvs.lookup z = some c ∧ P (ofP c) S1 := by
  unfold ixCE
  rw [ok_bind]
  refine ⟨fun h => h.imp fun d S1 q => ?_, fun h => h.imp fun d S1 q => ?_⟩
  · cases e : strO d with
    | none => rw [e] at q; simp at q
    | some k =>
      rw [e] at q
      simp only [Option.bind_some] at q
      cases e2 : kvs.lookup k with
      | none => rw [e2] at q; simp at q
      | some c => rw [e2] at q; exact ⟨k, c, rfl, e2, by simpa using q⟩
  · obtain ⟨k, c, e, e2, q⟩ := q
    rw [e]
    simp only [Option.bind_some, e2]
    simpa using q
/-! ### statements -/
variable {ms' mu : MS}
@[simp] theorem sok_next : (nextM ρ S).OkX Y nx rt bk ct ↔ nx ρ S := Iff.rfl
@[simp] theorem sok_bkM : (bkM ρ S).OkX Y nx rt bk ct ↔ bk ρ S := Iff.rfl
@[simp] theorem sok_ctM : (ctM ρ S).OkX Y nx rt bk ct ↔ ct ρ S := Iff.rfl
@[simp] theorem sok_drop : (dropM m ρ S).OkX Y nx rt bk ct ↔ (m ρ S).OkX (Y ρ) fun _ S1 => nx ρ S1 := by simp [dropM]
@[simp] theorem sok_ret : (retM m ρ S).OkX Y nx rt bk ct ↔ (m ρ S).OkX (Y ρ) rt := by simp [retM]
@[simp] theorem sok_retN : (retNM ρ S).OkX Y nx rt bk ct ↔ rt .non S := Iff.rfl
@[simp] theorem sok_ifM {mu' : MS} : (ifM t ms' mu' ρ S).OkX Y nx rt bk ct ↔ (t ρ S).OkX (Y ρ) fun k S1 => if k = true then (ms' ρ S1).OkX Y nx rt bk ct else (mu' ρ S1).OkX Y nx rt bk ct := by simp [ifM]
@[simp] theorem sok_set {i : Nat} : (setM i m ρ S).OkX Y nx rt bk ct ↔ (m ρ S).OkX (Y ρ) fun d S1 => nx (ρ.set i (some d)) S1 := by simp [setM]
@[simp] theorem sok_asg {g : MG} : (asgM m g ρ S).OkX Y nx rt bk ct ↔ (m ρ S).OkX (Y ρ) fun d S1 => (g d ρ S1).Ok fun ρ1 S2 => nx ρ1 S2 := by
  unfold asgM
  rw [sok_sb]
  refine ⟨fun h => h.imp fun d S1 q => ?_, fun h => h.imp fun d S1 q => ?_⟩
  · cases e : g d ρ S1 <;> rw [e] at q <;> simp at q ⊢; exact q
  · cases e : g d ρ S1 <;> rw [e] at q <;> simp at q ⊢; exact q
@[simp] theorem ok_nameG {i : Nat} {d : L3.D} {PG : DE → Store → Prop} : (nameG i d ρ S).OkX X PG ↔ PG (ρ.set i (some d)) S := ok_ok
@[simp] theorem ok_nilG {ds : List L3.D} {PG : DE → Store → Prop} : (nilG ds ρ S).OkX X PG ↔ ds = [] ∧ PG ρ S := by
  cases ds <;> simp [nilG]
theorem ok_consG {g : MG} {k : MGs} {ds : List L3.D} {PG : DE → Store → Prop} : (consG g k ds ρ S).OkX X PG ↔ ∃ d es, ds = d :: es ∧ (g d ρ S).OkX X fun ρ1 S1 => (k es ρ1 S1).OkX X PG := by
  cases ds with
  | nil => simp [consG]
  | cons d ds =>
    simp only [consG, ok_bind, List.cons.injEq]
    exact ⟨fun h => ⟨_, _, ⟨rfl, rfl⟩, h⟩, fun ⟨_, _, ⟨e1, e2⟩, h⟩ => by subst e1; subst e2; exact h⟩
@[simp] theorem ok_consG_c {g : MG} {k : MGs} {d : L3.D} {ds : List L3.D} {PG : DE → Store → Prop} : (consG g k (d :: ds) ρ S).OkX X PG ↔ (g d ρ S).OkX X fun ρ1 S1 => (k ds ρ1 S1).OkX X PG := by simp [consG]
@[simp] theorem ok_consG_n {g : MG} {k : MGs} {PG : DE → Store → Prop} : (consG g k [] ρ S).OkX X PG ↔ False := by simp [consG]
@[simp] theorem ok_tupG {n : Nat} {k : MGs} {d : L3.D} {PG : DE → Store → Prop} : (tupG n k d ρ S).OkX X PG ↔ ∃ xs, d = .tup xs ∧ xs.length = n ∧ (k xs ρ S).OkX X PG := by
  cases d <;> simp [tupG]
def is2 (ds : List L3.D) (Q : L3.D → L3.D → Prop) : Prop := match ds with
  | [a, b] => Q a b
  | _ => False
@[simp] theorem is2_l {a b : L3.D} {Q : L3.D → L3.D → Prop} : is2 [a, b] Q ↔ Q a b := Iff.rfl
@[simp] theorem sok_par {i j : Nat} : (parM i j ms ρ S).OkX Y nx rt bk ct ↔ (ms ρ S).OkX (Y ρ) fun ds S1 => is2 ds fun a b => nx ((ρ.set i (some a)).set j (some b)) S1 := by
  unfold parM
  rw [sok_sb]
  refine ⟨fun h => h.imp fun d S1 q => ?_, fun h => h.imp fun d S1 q => ?_⟩
  · split at q
    · exact q
    · exact q.elim
  · unfold is2 at q
    split at q
    · exact q
    · exact q.elim
@[simp] theorem sok_sub : (subM ma mb mc ρ S).OkX Y nx rt bk ct ↔ (mc ρ S).OkX (Y ρ) fun v S1 => (ma ρ S1).OkX (Y ρ) fun d S2 => (mb ρ S2).OkX (Y ρ) fun k S3 => ∃ S4, putO d k v S3 = some S4 ∧ nx ρ S4 := by
  simp only [subM, sok_sb]
  refine ⟨fun h => h.imp fun d S1 q => q.imp fun _ _ q => q.imp fun _ _ q => ?_, fun h => h.imp fun d S1 q => q.imp fun _ _ q => q.imp fun _ _ q => ?_⟩
  · split at q
    · rename_i e; exact ⟨_, e, q⟩
    · exact q.elim
  · obtain ⟨S4, e, q⟩ := q; rw [e]; exact q
@[simp] theorem ok_lmE {f : Nat → List L3.D → List L3.D → Store → OD} : (lmE f m ms ρ S).OkX X P ↔ (m ρ S).OkX X fun d S1 => ∃ n, d = .ref n ∧ (lstO S1 n).isSome = true ∧ (ms ρ S1).OkX X fun ds S2 => ∃ xs, lstO S2 n = some xs ∧ okO (f n xs ds S2) P := by
  unfold lmE
  rw [ok_bind]
  refine ⟨fun h => h.imp fun d S1 q => ?_, fun h => h.imp fun d S1 q => ?_⟩
  · cases d with
    | ref n =>
      dsimp only at q
      by_cases c : (lstO S1 n).isSome = true
      · rw [if_pos c] at q
        refine ⟨n, rfl, c, (ok_bind.mp q).imp fun ds S2 q => ?_⟩
        have q := ok_ofO.mp q
        rw [okO_bind] at q
        exact q
      · rw [if_neg c] at q; simp at q
    | _ => simp at q
  · obtain ⟨n, rfl, c, q⟩ := q
    dsimp only
    rw [if_pos c, ok_bind]
    refine q.imp fun ds S2 q => ?_
    rw [ok_ofO, okO_bind]
    exact q
@[simp] theorem sok_raise {c : Str} : (raiseM c [] ρ S).OkX Y nx rt bk ct ↔ Y ρ c [] S := Iff.rfl
@[simp] theorem sok_noX : (noX ms' ρ S).OkX Y nx rt bk ct ↔ (ms' ρ S).Ok nx rt bk ct := by
  unfold noX
  cases ms' ρ S <;> exact Iff.rfl
/-- what becomes of an exception in a try -/
def tryY (tab : List (Str × Bool)) (suite : Str → List (Str × L3.D) → DE → Store → Prop) (Y : YT) : YT := fun ρ c fs S => match tab.lookup c with
  | some true => suite c fs ρ S
  | some false => Y ρ c fs S
  | none => False
@[simp] theorem sok_try {tab : List (Str × Bool)} {body suite : MS} : (tryM tab body suite ρ S).OkX Y nx rt bk ct ↔ (body ρ S).OkX (tryY tab (fun _ _ ρ S => (suite ρ S).OkX Y nx rt bk ct) Y) nx rt bk ct := by
  unfold tryM
  cases body ρ S with
  | exc c fs ρ' S' =>
    simp only [SR.OkX, tryY]
    cases tab.lookup c with
    | none => exact Iff.rfl
    | some b => cases b <;> simp [SR.OkX]
  | _ => exact Iff.rfl
@[simp] theorem sok_tryIs {i : Nat} {C : Str} {tab : List (Str × Bool)} {body : MS} : (tryIsM i tab C body ρ S).OkX Y nx rt bk ct ↔ (body ρ S).OkX (tryY tab (fun c _ ρ S => (c = C ∧ i < ρ.length) ∧ rt (.bl true) S) Y) nx rt bk ct := by
  unfold tryIsM
  cases body ρ S with
  | exc c fs ρ' S' =>
    simp only [SR.OkX, tryY]
    cases tab.lookup c with
    | none => exact Iff.rfl
    | some b =>
      cases b with
      | false => exact Iff.rfl
      | true =>
        simp only []
        by_cases h : c = C ∧ i < ρ'.length
        · rw [if_pos h]; exact ⟨fun q => ⟨h, q⟩, fun q => q.2⟩
        · rw [if_neg h]; exact ⟨fun q => q.elim, fun q => h q.1⟩
  | _ => exact Iff.rfl
@[simp] theorem sok_tryP {i : Nat} {t C : Str} {tab : List (Str × Bool)} {body : MS} : (tryPM i tab t C body ρ S).OkX Y nx rt bk ct ↔ (body ρ S).OkX (tryY tab (fun c _ ρ S => (c = C ∧ i < ρ.length) ∧ rt (.tup [.str t, .bl true]) S) Y) nx rt bk ct := by
  unfold tryPM
  cases body ρ S with
  | exc c fs ρ' S' =>
    simp only [SR.OkX, tryY]
    cases tab.lookup c with
    | none => exact Iff.rfl
    | some b =>
      cases b with
      | false => exact Iff.rfl
      | true =>
        simp only []
        by_cases h : c = C ∧ i < ρ'.length
        · rw [if_pos h]; exact ⟨fun q => ⟨h, q⟩, fun q => q.2⟩
        · rw [if_neg h]; exact ⟨fun q => q.elim, fun q => h q.1⟩
  | _ => exact Iff.rfl
/-! ### values -/
@[simp] theorem blO_bl {k : Bool} : blO (.bl k) = some k := rfl
@[simp] theorem intO_int {k : Int} : intO (.int k) = some k := rfl
@[simp] theorem strO_str {k : Str} : strO (.str k) = some k := rfl
@[simp] theorem kind_int {i : Int} : kindD S (.int i) = some "int" := rfl
@[simp] theorem kind_bl {i : Bool} : kindD S (.bl i) = some "bool" := rfl
@[simp] theorem kind_str {i : Str} : kindD S (.str i) = some "str" := rfl
@[simp] theorem kind_non : kindD S .non = some "NoneType" := rfl
@[simp] theorem kind_tup {ds : List L3.D} : kindD S (.tup ds) = some "tuple" := rfl
@[simp] theorem kind_lis {ds : List L3.D} : kindD S (.lis ds) = some "list" := rfl
@[simp] theorem lenF_tup {ds : List L3.D} : lenF [.tup ds] S = some (.int ds.length, S) := rfl
@[simp] theorem lenF_lis {ds : List L3.D} : lenF [.lis ds] S = some (.int ds.length, S) := rfl
@[simp] theorem i2_int {C : Int → Int → Prop} [∀ i j, Decidable (C i j)] {g : Int → Int → L3.D} {i j : Int} : okO (i2 C g (.int i) (.int j) S) P ↔ C i j ∧ P (g i j) S := by
  by_cases c : C i j <;> simp [i2, c]
@[simp] theorem addD_int {i j : Int} : addD (.int i) (.int j) S = some (.int (i + j), S) := rfl
@[simp] theorem negD_int {i : Int} : negD (.int i) S = some (.int (-i), S) := rfl
@[simp] theorem ltD_int {i j : Int} : ltD (.int i) (.int j) S = some (.bl (decide (i < j)), S) := rfl
@[simp] theorem gtD_int {i j : Int} : gtD (.int i) (.int j) S = some (.bl (decide (j < i)), S) := rfl
@[simp] theorem eqD_int {i j : Int} : eqD (.int i) (.int j) S = some (.bl (decide (i = j)), S) := rfl
@[simp] theorem neD_int {i j : Int} : neD (.int i) (.int j) S = some (.bl (!decide (i = j)), S) := rfl
@[simp] theorem eqD_str {i j : Str} : eqD (.str i) (.str j) S = some (.bl (decide (i = j)), S) := rfl
@[simp] theorem neD_str {i j : Str} : neD (.str i) (.str j) S = some (.bl (!decide (i = j)), S) := rfl
@[simp] theorem eqD_bl {i j : Bool} : eqD (.bl i) (.bl j) S = some (.bl (decide (i = j)), S) := rfl
@[simp] theorem neD_bl {i j : Bool} : neD (.bl i) (.bl j) S = some (.bl (!decide (i = j)), S) := rfl
@[simp] theorem ixD_tup {ds : List L3.D} {i : Int} : ixD (.tup ds) (.int i) S = (atI ds i).map fun y => (y, S) := rfl
@[simp] theorem ixD_lis {ds : List L3.D} {i : Int} : ixD (.lis ds) (.int i) S = (atI ds i).map fun y => (y, S) := rfl
@[simp] theorem ixD_ref {n : Nat} {i : Int} : ixD (.ref n) (.int i) S = (lstO S n).bind fun xs => (atI xs i).map fun y => (y, S) := rfl
@[simp] theorem isD_non {d : L3.D} : isD d .non S = some (.bl (isnon d), S) := by cases d <;> rfl
@[simp] theorem isntD_non {d : L3.D} : isntD d .non S = some (.bl (!isnon d), S) := by cases d <;> rfl
@[simp] theorem isD_bl {i j : Bool} : isD (.bl i) (.bl j) S = some (.bl (decide (i = j)), S) := rfl
@[simp] theorem isntD_bl {i j : Bool} : isntD (.bl i) (.bl j) S = some (.bl (!decide (i = j)), S) := rfl
@[simp] theorem atI_0 {α : Type} {a : α} {l : List α} : atI (a :: l) 0 = some a := atI_nat (j := 0) (by simp)
@[simp] theorem atI_1 {α : Type} {a b : α} {l : List α} : atI (a :: b :: l) 1 = some b := atI_nat (j := 1) (by simp)
@[simp] theorem atI_2 {α : Type} {a b c : α} {l : List α} : atI (a :: b :: c :: l) 2 = some c := atI_nat (j := 2) (by simp)
@[simp] theorem atI_3 {α : Type} {a b c d : α} {l : List α} : atI (a :: b :: c :: d :: l) 3 = some d := atI_nat (j := 3) (by simp)
@[simp] theorem atI_4 {α : Type} {a b c d e : α} {l : List α} : atI (a :: b :: c :: d :: e :: l) 4 = some e := atI_nat (j := 4) (by simp)
@[simp] theorem tupF_tup {ds : List L3.D} : tupF [.tup ds] S = some (.tup ds, S) := rfl
@[simp] theorem maxF_int {i j : Int} : maxF [.int i, .int j] S = some (.int (if j > i then j else i), S) := rfl
@[simp] theorem minF_int {i j : Int} : minF [.int i, .int j] S = some (.int (if j < i then j else i), S) := rfl
@[simp] theorem isT_ii : isT "int" "int" = true := by decide +kernel
@[simp] theorem isT_bi : isT "bool" "int" = true := by decide +kernel
@[simp] theorem isT_bb : isT "bool" "bool" = true := by decide +kernel
@[simp] theorem isT_ib : isT "int" "bool" = false := by decide +kernel
@[simp] theorem isT_ss : isT "str" "str" = true := by decide +kernel
@[simp] theorem isT_tt : isT "tuple" "tuple" = true := by decide +kernel
@[simp] theorem isT_si : isT "str" "int" = false := by decide +kernel
@[simp] theorem isT_ni : isT "NoneType" "int" = false := by decide +kernel
@[simp] theorem isT_ti : isT "tuple" "int" = false := by decide +kernel
@[simp] theorem isT_li : isT "list" "int" = false := by decide +kernel
@[simp] theorem isT_is : isT "int" "str" = false := by decide +kernel
@[simp] theorem isT_bs : isT "bool" "str" = false := by decide +kernel
@[simp] theorem isT_ns : isT "NoneType" "str" = false := by decide +kernel
@[simp] theorem isT_ts : isT "tuple" "str" = false := by decide +kernel
@[simp] theorem isT_ls : isT "list" "str" = false := by decide +kernel
@[simp] theorem isT_it : isT "int" "tuple" = false := by decide +kernel
@[simp] theorem isT_bt : isT "bool" "tuple" = false := by decide +kernel
@[simp] theorem isT_nt : isT "NoneType" "tuple" = false := by decide +kernel
@[simp] theorem isT_st : isT "str" "tuple" = false := by decide +kernel
@[simp] theorem isT_lt : isT "list" "tuple" = false := by decide +kernel
@[simp] theorem mulD_int {i j : Int} : okO (mulD (.int i) (.int j) S) P ↔ CMulA i j ∧ P (.int (i * j)) S := by
  by_cases c : CMulA i j <;> simp [mulD, c]
@[simp] theorem mulD_str {x : Str} {k : Int} : okO (mulD (.str x) (.int k) S) P ↔ (-9223372036854775808 ≤ k ∧ k < 9223372036854775808 ∧ x.length * k.toNat ≤ 16777216) ∧ P (.str (repStr x k)) S := by
  by_cases c : -(2 ^ 63) ≤ k ∧ k < 2 ^ 63 ∧ x.length * k.toNat ≤ 16777216 <;> simp [mulD] <;> simp at c <;> simp [c]
@[simp] theorem mulD_tup {xs : List L3.D} {k : Int} : okO (mulD (.tup xs) (.int k) S) P ↔ (xs ≠ [] ∧ 1 ≤ k ∧ k ≤ 1000 ∧ xs.length ≤ 1000) ∧ P (.tup (List.replicate k.toNat xs).flatten) S := by
  by_cases c : xs ≠ [] ∧ 1 ≤ k ∧ k ≤ 1000 ∧ xs.length ≤ 1000
  · simp only [mulD, if_pos c, okO_some, c, true_and]; simp
  · have : mulD (.tup xs) (.int k) S = none := if_neg c
    rw [this, okO_none]
    exact ⟨fun h => h.elim, fun h => c h.1⟩
theorem tupF_ref {n : Nat} {x : List L3.D} (h : lstO S n = some x) : tupF [.ref n] S = some (.tup x, S) := by
  simp [tupF, lstD, h]
@[simp] theorem ofStr_inj {a b : String} : Str.ofString a = Str.ofString b ↔ a = b := by
  refine ⟨fun h => ?_, fun h => by rw [h]⟩
  rw [Str.ofString_eq_toList, Str.ofString_eq_toList] at h
  have h2 : a.toList.map Char.toNat = b.toList.map Char.toNat := congrArg (fun x : Str => x.cps.toList) h
  have := (List.map_inj_right (f := Char.toNat) (fun x y e => Char.ext (UInt32.toNat_inj.mp e))).mp h2
  exact String.toList_inj.mp this
theorem in_strs {q : Nat} {l : List Str} {k : Str} (h : lstO S q = some (l.map .str)) : inD (.str k) (.ref q) S = some (.bl (decide (k ∈ l)), S) := by
  have e : (l.map L3.D.str).any (fun y => eqF y (.str k)) = decide (k ∈ l) := by
    rw [Bool.eq_iff_iff]
    simp [eqF]
  have f : (l.map L3.D.str).all flatD = true := by simp [flatD]
  unfold inD inO
  simp only [seqO, h]
  rw [if_pos ⟨rfl, f⟩, e]
  rfl
theorem CMulA.r {i j : Int} (h : -(2 ^ 64) < j ∧ j < 2 ^ 64) : CMulA i j := .inr (.inl h)
theorem CMulA.l {i j : Int} (h : -(2 ^ 64) < i ∧ i < 2 ^ 64) : CMulA i j := .inl h
@[simp] theorem geD_int {i j : Int} : geD (.int i) (.int j) S = some (.bl (decide (j ≤ i)), S) := rfl
@[simp] theorem leD_int {i j : Int} : leD (.int i) (.int j) S = some (.bl (decide (i ≤ j)), S) := rfl
@[simp] theorem subD_int {i j : Int} : subD (.int i) (.int j) S = some (.int (i - j), S) := rfl
@[simp] theorem addI_int {i j : Int} : addI (.int i) (.int j) S = some (.int (i + j), S) := rfl
@[simp] theorem intF_int {i : Int} : intF [.int i] S = some (.int i, S) := rfl
@[simp] theorem intF_bl {i : Bool} : intF [.bl i] S = some (.int (if i then 1 else 0), S) := rfl
@[simp] theorem strF_int {i : Int} : okO (strF [.int i] S) P ↔ i.natAbs.log2 < 1920 ∧ P (.str (toString i)) S := by
  by_cases c : i.natAbs.log2 < 1920 <;> simp [strF, c]
@[simp] theorem addD_str {x y : Str} : okO (addD (.str x) (.str y) S) P ↔ x.length + y.length ≤ 16777216 ∧ P (.str (x ++ y)) S := by
  simp only [addD, PySem.sizeLine_eq]
  by_cases c : x.length + y.length ≤ 16777216 <;> simp [c]
@[simp] theorem addD_tup {x y : List L3.D} : okO (addD (.tup x) (.tup y) S) P ↔ x.length + y.length ≤ 16777216 ∧ P (.tup (x ++ y)) S := by
  simp only [addD, PySem.sizeLine_eq]
  by_cases c : x.length + y.length ≤ 16777216 <;> simp [c]
theorem addD_ref {n m : Nat} {x y : List L3.D} (h1 : lstO S n = some x) (h2 : lstO S m = some y) : okO (addD (.ref n) (.ref m) S) P ↔ x.length + y.length ≤ 16777216 ∧ P (.ref S.length) (S ++ [.lst (x ++ y)]) := by
  simp only [addD, PySem.sizeLine_eq, h1, h2]
  by_cases c : x.length + y.length ≤ 16777216 <;> simp [c]
@[simp] theorem slD_tup {x : List L3.D} {lo hi : Option Int} : slD (.tup x) lo hi S = some (.tup (cutD x lo hi), S) := rfl
@[simp] theorem slD_str {x : Str} {lo hi : Option Int} : okO (slD (.str x) lo hi S) P ↔ x.length ≤ 16777216 ∧ P (.str (cutS x lo hi)) S := by
  simp only [slD, PySem.sizeLine_eq]
  by_cases c : x.length ≤ 16777216 <;> simp [c]
@[simp] theorem lenF_str {x : Str} : okO (lenF [.str x] S) P ↔ x.length ≤ 16777216 ∧ P (.int x.length) S := by
  simp only [lenF, PySem.sizeLine_eq]
  by_cases c : x.length ≤ 16777216 <;> simp [c]
@[simp] theorem lenF_ref {n : Nat} {x : List L3.D} (h : lstO S n = some x) : lenF [.ref n] S = some (.int x.length, S) := by
  have := lstO_at h
  simp [lenF, this]
@[simp] theorem ixD_str {x : Str} {i : Int} : okO (ixD (.str x) (.int i) S) P ↔ x.length ≤ 16777216 ∧ ∃ c, atI x.cps.toList i = some c ∧ P (.str ⟨#[c]⟩) S := by
  simp only [ixD, PySem.sizeLine_eq]
  by_cases c : x.length ≤ 16777216 <;> simp [c]
theorem putO_lst {n : Nat} {x : List L3.D} {j : Int} {v : L3.D} (h : lstO S n = some x) : putO (.ref n) (.int j) v S = (ixN x.length j).map fun j => S.set n (.lst (x.set j v)) := by
  have := lstO_at h
  simp [putO, this]
theorem lstO_set {n : Nat} {x y : List L3.D} (h : lstO S n = some x) : lstO (S.set n (.lst y)) n = some y := by
  have := (List.getElem?_eq_some_iff.mp (lstO_at h)).1
  simp [lstO, this]
theorem lstO_new {x : List L3.D} : lstO (S ++ [.lst x]) S.length = some x := by simp [lstO]
theorem lstO_old {n : Nat} {x : List L3.D} {o : O} (h : lstO S n = some x) : lstO (S ++ [o]) n = some x := by
  have := lstO_at h
  have l := (List.getElem?_eq_some_iff.mp this).1
  simp [lstO, List.getElem?_append_left l, this]
theorem kind_ref {n : Nat} {x : List L3.D} (h : lstO S n = some x) : kindD S (.ref n) = some "list" := by
  have := lstO_at h
  simp [kindD, this]
theorem one_lt {a b : Nat} : (([a] : List Nat) < [b]) ↔ a < b := by simp [List.cons_lt_cons_iff]
@[simp] theorem ltD_sign {c : Nat} : ltD (.str ⟨#[c]⟩) (.str " ") S = some (.bl (decide (c < 32)), S) := by
  have e1 : (" " : Str).cps.toList = [32] := by decide +kernel
  have e2 : (⟨#[c]⟩ : Str).cps.toList = [c] := rfl
  show some (L3.D.bl (decide ((⟨#[c]⟩ : Str).cps.toList < (" " : Str).cps.toList)), S) = _
  rw [e1, e2]
  congr 3
  exact decide_eq_decide.mpr one_lt
@[simp] theorem gtD_sign {c : Nat} : gtD (.str ⟨#[c]⟩) (.str "~") S = some (.bl (decide (126 < c)), S) := by
  have e1 : ("~" : Str).cps.toList = [126] := by decide +kernel
  have e2 : (⟨#[c]⟩ : Str).cps.toList = [c] := rfl
  show some (L3.D.bl (decide (("~" : Str).cps.toList < (⟨#[c]⟩ : Str).cps.toList)), S) = _
  rw [e1, e2]
  congr 3
  exact decide_eq_decide.mpr one_lt
@[simp] theorem ordF_sign {c : Nat} : ordF [.str ⟨#[c]⟩] S = some (.int (c : Int), S) := rfl
def is3 (ds : List L3.D) (Q : L3.D → L3.D → L3.D → Prop) : Prop := match ds with
  | [a, b, c] => Q a b c
  | _ => False
@[simp] theorem is3_l {a b c : L3.D} {Q : L3.D → L3.D → L3.D → Prop} : is3 [a, b, c] Q ↔ Q a b c := Iff.rfl
@[simp] theorem sok_par3 {i j l : Nat} : (par3M i j l ms ρ S).OkX Y nx rt bk ct ↔ (ms ρ S).OkX (Y ρ) fun ds S1 => is3 ds fun a b c => nx (((ρ.set i (some a)).set j (some b)).set l (some c)) S1 := by
  unfold par3M
  rw [sok_sb]
  refine ⟨fun h => h.imp fun d S1 q => ?_, fun h => h.imp fun d S1 q => ?_⟩
  · split at q
    · exact q
    · exact q.elim
  · unfold is3 at q
    split at q
    · exact q
    · exact q.elim
/-! ### loops -/
variable {PI : ItD → Store → Prop}
@[simp] theorem ok_seqI : (seqI m ρ S).OkX X PI ↔ (m ρ S).OkX X fun d S1 => ∃ it, itO S1 d = some it ∧ PI it S1 := by
  unfold seqI
  rw [ok_bind]
  refine ⟨fun h => h.imp fun d S1 q => ?_, fun h => h.imp fun d S1 q => ?_⟩
  · cases e : itO S1 d with
    | none => rw [e] at q; simp at q
    | some k => rw [e] at q; simpa using q
  · obtain ⟨k, e, q⟩ := q
    rw [e]
    simpa using q
@[simp] theorem itO_tup {x : List L3.D} : itO S (.tup x) = some ⟨x, []⟩ := rfl
@[simp] theorem itO_str {x : Str} : itO S (.str x) = some ⟨x.cps.toList.map fun c => .str ⟨#[c]⟩, []⟩ := rfl
theorem itO_ref {n : Nat} {x : List L3.D} (h : lstO S n = some x) : itO S (.ref n) = some ⟨x, [(n, .lst x)]⟩ := by simp [itO, h]
@[simp] theorem ok_range1 : (rangeI1 ms ρ S).OkX X PI ↔ (ms ρ S).OkX X fun ds S1 => ∃ j, ds = [.int j] ∧ (-4611686018427387904 ≤ j ∧ j < 4611686018427387904) ∧ PI ⟨(List.range j.toNat).map fun i : Nat => .int (0 + (i : Int)), []⟩ S1 := by
  unfold rangeI1
  rw [ok_bind]
  refine ⟨fun h => h.imp fun d S1 q => ?_, fun h => h.imp fun d S1 q => ?_⟩
  · split at q
    · rename_i j
      by_cases c : -(2 ^ 62) ≤ j ∧ j < 2 ^ 62
      · rw [if_pos c] at q; exact ⟨j, rfl, by have : (2 : Int) ^ 62 = 4611686018427387904 := by decide
                                              omega, ok_ok.mp q⟩
      · rw [if_neg c] at q; simp at q
    · simp at q
  · obtain ⟨j, rfl, c, q⟩ := q
    dsimp only
    rw [if_pos (by have : (2 : Int) ^ 62 = 4611686018427387904 := by decide
                   omega)]
    exact ok_ok.mpr q
@[simp] theorem ok_range2 : (rangeI2 ms ρ S).OkX X PI ↔ (ms ρ S).OkX X fun ds S1 => is2 ds fun a b => ∃ i, intO a = some i ∧ ∃ j, intO b = some j ∧ (-4611686018427387904 ≤ i ∧ i < 4611686018427387904 ∧ -4611686018427387904 ≤ j ∧ j < 4611686018427387904) ∧ PI ⟨(List.range (j - i).toNat).map fun k : Nat => .int (i + (k : Int)), []⟩ S1 := by
  have e : (2 : Int) ^ 62 = 4611686018427387904 := by decide
  unfold rangeI2
  rw [ok_bind]
  refine ⟨fun h => h.imp fun d S1 q => ?_, fun h => h.imp fun d S1 q => ?_⟩
  · split at q
    · rename_i i j
      by_cases c : -(2 ^ 62) ≤ i ∧ i < 2 ^ 62 ∧ -(2 ^ 62) ≤ j ∧ j < 2 ^ 62
      · rw [if_pos c] at q; exact ⟨i, rfl, j, rfl, by omega, ok_ok.mp q⟩
      · rw [if_neg c] at q; simp at q
    · simp at q
  · unfold is2 at q
    split at q
    · rename_i a b
      obtain ⟨i, e1, j, e2, c, q⟩ := q
      cases a <;> cases e1
      cases b <;> cases e2
      dsimp only
      rw [if_pos (by omega)]
      exact ok_ok.mpr q
    · exact q.elim
@[simp] theorem sok_for {mi : MI} {g : MG} {body : MS} : (forM mi g body ρ S).OkX Y nx rt bk ct ↔ (mi ρ S).OkX (Y ρ) fun it S1 => (forL it.src g body it.items ρ S1).OkX Y nx rt bk ct := by simp [forM]
@[simp] theorem wipeD_nil {ρ : DE} : wipeD ρ [] = ρ := rfl
@[simp] theorem wipeD_cons {ρ : DE} {v : Nat} {vs : List Nat} : wipeD ρ (v :: vs) = (wipeD ρ vs).set v none := rfl
def zipOk (ds : List L3.D) (S : Store) (PI : ItD → Store → Prop) : Prop := match ds with
  | [.tup xs, .tup ys] => PI ⟨(xs.zip ys).map fun p => .tup [p.1, p.2], []⟩ S
  | [.ref n, .ref k] => ∃ xs ys, lstO S n = some xs ∧ lstO S k = some ys ∧ PI ⟨(xs.zip ys).map fun p => .tup [p.1, p.2], [(n, .lst xs), (k, .lst ys)]⟩ S
  | _ => False
@[simp] theorem zipOk_tup {xs ys : List L3.D} : zipOk [.tup xs, .tup ys] S PI ↔ PI ⟨(xs.zip ys).map fun p => .tup [p.1, p.2], []⟩ S := Iff.rfl
@[simp] theorem ok_zipI : (zipI ms ρ S).OkX X PI ↔ (ms ρ S).OkX X fun ds S1 => zipOk ds S1 PI := by
  unfold zipI
  rw [ok_bind]
  refine ⟨fun h => h.imp fun d S1 q => ?_, fun h => h.imp fun d S1 q => ?_⟩
  · split at q
    · exact ok_ok.mp q
    · split at q
      · rename_i e1 e2; exact ⟨_, _, e1, e2, ok_ok.mp q⟩
      · simp at q
    · simp at q
  · unfold zipOk at q
    split at q
    · exact ok_ok.mpr q
    · obtain ⟨xs, ys, e1, e2, q⟩ := q
      try dsimp only
      rw [e1, e2]
      exact ok_ok.mpr q
    · exact q.elim
theorem srcOk_nil : srcOk [] S := fun _ h => by cases h
theorem for_inv {src : List (Nat × O)} {g : MG} {body : MS} {items : List L3.D} (I : Nat → DE → Store → Prop) (h0 : I 0 ρ S) (hs : ∀ i ρ S, i ≤ items.length → I i ρ S → srcOk src S)
    (step : ∀ i d ρ S, items[i]? = some d → I i ρ S → (g d ρ S).Ok fun ρ1 S1 => (body ρ1 S1).OkX Y (I (i + 1)) rt nx (I (i + 1))) (done : ∀ ρ S, I items.length ρ S → nx ρ S) : (forL src g body items ρ S).OkX Y nx rt bk ct := by
  have key : ∀ k i ρ S, i + k = items.length → I i ρ S → (forL src g body (items.drop i) ρ S).OkX Y nx rt bk ct := by
    intro k
    induction k with
    | zero =>
      intro i ρ S e h
      have ei : i = items.length := by omega
      subst ei
      rw [List.drop_length]
      unfold forL
      rw [if_pos (hs _ _ _ (Nat.le_refl _) h)]
      exact done _ _ h
    | succ k ih =>
      intro i ρ S e h
      have hi : i < items.length := by omega
      rw [List.drop_eq_getElem_cons hi]
      unfold forL
      rw [if_pos (hs _ _ _ (by omega) h)]
      obtain ⟨ρ1, S1, e1, h1⟩ := (step i _ ρ S (List.getElem?_eq_getElem hi) h).ex
      rw [e1]
      dsimp only
      cases q : body ρ1 S1 with
      | nx ρ2 S2 => rw [q] at h1; exact ih (i + 1) _ _ (by omega) h1
      | ct ρ2 S2 => rw [q] at h1; exact ih (i + 1) _ _ (by omega) h1
      | bk ρ2 S2 => rw [q] at h1; exact h1
      | rt ρ2 S2 => rw [q] at h1; exact h1
      | exc _ _ _ _ => rw [q] at h1; exact h1
      | no => rw [q] at h1; exact h1
  exact key items.length 0 ρ S (by omega) h0
@[simp] theorem ok_lcE {mi : MI} {vs : List Nat} {g : MG} {mt : MT} {me : ME} : (lcE mi vs g mt me ρ S).OkX X P ↔ (mi ρ S).OkX X fun it S1 => (lcL it.src g mt me (wipeD ρ vs) S1.length it.items (S1 ++ [.lst []])).OkX X P := by simp [lcE]
theorem lc_inv {src : List (Nat × O)} {g : MG} {mt : MT} {me : ME} {items : List L3.D} {n : Nat} (I : Nat → List L3.D → Store → Prop) (h0 : I 0 [] S) (hn : lstO S n = some []) (hs : ∀ i acc S, i ≤ items.length → I i acc S → srcOk src S)
    (step : ∀ i d acc S, items[i]? = some d → I i acc S → lstO S n = some acc → (g d ρ S).Ok fun ρ1 S1 => (mt ρ1 S1).Ok fun k S2 => if k = true then (me ρ1 S2).Ok fun y S3 => lstO S3 n = some acc ∧ acc.length < 16777216 ∧ I (i + 1) (acc ++ [y]) (S3.set n (.lst (acc ++ [y]))) else lstO S2 n = some acc ∧ I (i + 1) acc S2)
    (done : ∀ acc S, I items.length acc S → lstO S n = some acc → P (.ref n) S) : (lcL src g mt me ρ n items S).OkX X P := by
  have key : ∀ k i acc S, i + k = items.length → I i acc S → lstO S n = some acc → (lcL src g mt me ρ n (items.drop i) S).OkX X P := by
    intro k
    induction k with
    | zero =>
      intro i acc S e h hn
      have ei : i = items.length := by omega
      subst ei
      rw [List.drop_length]
      unfold lcL
      rw [if_pos (hs _ _ _ (Nat.le_refl _) h)]
      exact ok_ok.mpr (done _ _ h hn)
    | succ k ih =>
      intro i acc S e h hn
      have hi : i < items.length := by omega
      rw [List.drop_eq_getElem_cons hi]
      unfold lcL
      rw [if_pos (hs _ _ _ (by omega) h)]
      obtain ⟨ρ1, S1, e1, h2⟩ := (step i _ acc S (List.getElem?_eq_getElem hi) h hn).ex
      obtain ⟨kk, S2, e2, h2⟩ := R.Ok.ex h2
      rw [e1]
      dsimp only
      rw [e2]
      dsimp only
      cases kk with
      | true =>
        rw [if_pos rfl] at h2 ⊢
        obtain ⟨y, S3, e3, q1, q2, q3⟩ := R.Ok.ex h2
        rw [e3]
        dsimp only
        rw [q1]
        dsimp only
        rw [if_pos (by rw [PySem.sizeLine_eq]; exact q2)]
        exact ih (i + 1) _ _ (by omega) q3 (lstO_set q1)
      | false =>
        rw [if_neg Bool.false_ne_true] at h2 ⊢
        exact ih (i + 1) _ _ (by omega) h2.2 h2.1
  exact key items.length 0 [] S (by omega) h0 hn
theorem whL_succ {t : MT} {body : MS} : ∀ {n : Nat} {ρ : DE} {S : Store}, whL t body n ρ S ≠ .no → whL t body (n + 1) ρ S = whL t body n ρ S
  | 0, _, _, h => absurd rfl h
  | n + 1, ρ, S, h => by
    unfold whL at h
    rw [whL, whL]
    cases q : t ρ S with
    | ok k S1 =>
      rw [q] at h
      simp only [R.sb] at h ⊢
      cases k with
      | false => rfl
      | true =>
        simp only [if_true] at h ⊢
        cases q2 : body ρ S1 with
        | nx ρ' S' => rw [q2] at h; exact whL_succ h
        | ct ρ' S' => rw [q2] at h; exact whL_succ h
        | _ => rfl
    | exc _ _ _ => rfl
    | no => rfl
theorem whL_le {t : MT} {body : MS} {n : Nat} {ρ : DE} {S : Store} (h : whL t body n ρ S ≠ .no) : ∀ k, whL t body (n + k) ρ S = whL t body n ρ S
  | 0 => rfl
  | k + 1 => by
    have e := whL_le h k
    rw [← Nat.add_assoc, whL_succ (by rw [e]; exact h), e]
theorem while_of {t : MT} {body : MS} {n : Nat} (h : (whL t body n ρ S).OkX Y nx rt bk ct) : (whileM t body ρ S).OkX Y nx rt bk ct := by
  have hn : whL t body n ρ S ≠ .no := fun e => by rw [e] at h; exact h
  have hx : ∃ n, whL t body n ρ S ≠ .no := ⟨n, hn⟩
  unfold whileM
  rw [dif_pos hx]
  have hc := Classical.choose_spec hx
  have e : whL t body (Classical.choose hx) ρ S = whL t body n ρ S := by
    rw [← whL_le hc n, Nat.add_comm, whL_le hn]
  rw [e]
  exact h
/-- a while loop, by a number that falls -/
theorem while_inv {t : MT} {body : MS} (I : Nat → DE → Store → Prop)
    (step : ∀ k ρ S, I k ρ S → (t ρ S).OkX (Y ρ) fun b S1 => if b = true then (body ρ S1).OkX Y (fun ρ S => ∃ j, j < k ∧ I j ρ S) rt nx (fun ρ S => ∃ j, j < k ∧ I j ρ S) else nx ρ S1) {k : Nat} (h0 : I k ρ S) : (whileM t body ρ S).OkX Y nx rt bk ct := by
  have key : ∀ k ρ S, I k ρ S → ∃ n, (whL t body n ρ S).OkX Y nx rt bk ct := by
    intro k
    induction k using Nat.strongRecOn with
    | _ k ih =>
      intro ρ S h
      have st := step k ρ S h
      cases q : t ρ S with
      | ok b S1 =>
        rw [q] at st
        simp only [ok_ok] at st
        cases b with
        | false => exact ⟨1, by unfold whL; rw [q]; exact st⟩
        | true =>
          rw [if_pos rfl] at st
          cases q2 : body ρ S1 with
          | nx ρ' S' =>
            rw [q2] at st
            obtain ⟨j, hj, hi⟩ := st
            obtain ⟨n, hn⟩ := ih j hj _ _ hi
            exact ⟨n + 1, by unfold whL; rw [q]; simp only [R.sb, if_true, q2]; exact hn⟩
          | ct ρ' S' =>
            rw [q2] at st
            obtain ⟨j, hj, hi⟩ := st
            obtain ⟨n, hn⟩ := ih j hj _ _ hi
            exact ⟨n + 1, by unfold whL; rw [q]; simp only [R.sb, if_true, q2]; exact hn⟩
          | bk ρ' S' => rw [q2] at st; exact ⟨1, by unfold whL; rw [q]; simp only [R.sb, if_true, q2]; exact st⟩
          | rt ρ' S' => rw [q2] at st; exact ⟨1, by unfold whL; rw [q]; simp only [R.sb, if_true, q2]; exact st⟩
          | exc _ _ _ _ => rw [q2] at st; exact ⟨1, by unfold whL; rw [q]; simp only [R.sb, if_true, q2]; exact st⟩
          | no => rw [q2] at st; exact st.elim
      | exc c fs S1 => rw [q] at st; exact ⟨1, by unfold whL; rw [q]; exact st⟩
      | no => rw [q] at st; exact st.elim
  obtain ⟨n, hn⟩ := key k ρ S h0
  exact while_of hn
theorem ref_inj {mg : Str → Option Value} {x : Str} {a b : Addr} (h : mg x = some (.ref a)) (g : mg x = some (.ref b)) : a = b := by
  rw [h] at g
  cases g
  rfl
/-- the end of a law -/
theorem sp_law {K : PySem.W.Frag} {cl : Cl} {m : Fn} (hm : ∀ ns : List Int, ns.length ≤ 63 → (m [.lis (ns.map .int)] []).Ok fun d _ => d = .bl true) (H : Hp) (a : Addr) (ns : List Int) (hl : ns.length ≤ 63) (hS : SqL K H a (ns.map V.int)) :
    spM K cl 1 m [.ref a] H (fun v _ => v = .bl true) fun _ _ _ => False := by
  refine ⟨[], [], [.lis (ns.map .int)], ⟨rfl, List.nodup_nil, fun n a o e => by simp at e⟩, .cons ?_ .nil, rfl, ?_⟩
  · rcases hS with h | h
    · exact .lisR h (by simp) (RDs.ints ns)
    · exact .lisK (fun _ => .inr h) (RDs.ints ns)
  · obtain ⟨d, S, e, rfl⟩ := (hm ns hl).ex
    rw [e]
    intro φ' v H' _ _ r
    cases r
    rfl
end
end L3
set_option Elab.async false
set_option linter.all false
set_option maxRecDepth 100000
set_option maxHeartbeats 1000000
namespace L3
open PySem PySem.Spec PyProof.Rows L2
variable {S : Store} {P : L3.D → Store → Prop}
def signOk (c : Nat) : Bool := !decide (c < 32) && !decide (126 < c) && !decide (c = 37)
def near (x : Str) : Prop := ∀ c ∈ x.cps.toList, signOk c = true ∨ c = 10
def Rf (S : Store) : L3.D → Prop
  | .ref n => ∃ xs, lstO S n = some xs
  | _ => True
def Gd (L : Nat) (S : Store) : Nat → L3.D → Prop
  | _, .ref n => ∃ xs, lstO S n = some xs ∧ ∀ e ∈ xs, flatD e = true ∧ ∀ x, e = .str x → near x
  | _, .str x => near x ∧ x.length ≤ 1000
  | _, .lis _ => False
  | 0, .tup _ => False
  | k + 1, .tup xs => xs.length ≤ L ∧ ∀ e ∈ xs, Gd L S k e
  | _, _ => True
theorem Gd.rf {L n : Nat} {d : L3.D} (h : Gd L S n d) : Rf S d := by
  cases d with
  | ref k => cases n <;> (obtain ⟨xs, e, _⟩ := h; exact ⟨xs, e⟩)
  | _ => trivial
/-- S' holds all that S holds -/
def More (S S' : Store) : Prop := ∀ (m : Nat) o, S[m]? = some o → S'[m]? = some o
theorem More.lst {S S' : Store} (h : More S S') {n : Nat} {xs : List L3.D} (e : lstO S n = some xs) : lstO S' n = some xs := by
  unfold lstO
  rw [h n _ (lstO_at e)]
theorem More.rf {S S' : Store} (h : More S S') {d : L3.D} (r : Rf S d) : Rf S' d := by
  cases d with
  | ref n => obtain ⟨xs, e⟩ := r; exact ⟨xs, h.lst e⟩
  | _ => trivial
theorem More.gd {S S' : Store} (h : More S S') {L : Nat} : ∀ {n : Nat} {d : L3.D}, Gd L S n d → Gd L S' n d
  | n, .ref k, g => by
    cases n <;> (obtain ⟨xs, e, q⟩ := g; exact ⟨xs, h.lst e, q⟩)
  | n, .str x, g => by cases n <;> exact g
  | n, .lis x, g => by cases n <;> exact g
  | 0, .tup _, g => g
  | n + 1, .tup xs, g => ⟨g.1, fun e m => More.gd h (g.2 e m)⟩
  | n, .non, g => by cases n <;> trivial
  | n, .bl _, g => by cases n <;> trivial
  | n, .int _, g => by cases n <;> trivial
theorem More.refl (S : Store) : More S S := fun _ _ h => h
theorem More.new {S : Store} (o : O) : More S (S ++ [o]) := fun m u q => (List.getElem?_append_left (List.getElem?_eq_some_iff.mp q).1).trans q
theorem More.trans {A B C : Store} (h : More A B) (g : More B C) : More A C := fun m o q => g m o (h m o q)
def isIntD (d : L3.D) (lo hi : Int) : Bool := match d with
  | .int i => decide (lo ≤ i) && decide (i ≤ hi)
  | _ => false
def isProcD (c d : L3.D) : Bool := match c with
  | .int n => isIntD c 1 10 && isIntD d 0 (n - 1)
  | _ => false
def isPairD (d : L3.D) : Bool := match d with
  | .tup [a, b] => isIntD a 0 1000000000000 && isIntD b 0 1000000000000 && (match a, b with
    | .int i, .int j => decide (0 < j) || decide (i = 0)
    | _, _ => false)
  | _ => false
theorem two_or {xs : List L3.D} : (∃ a b, xs = [a, b]) ∨ xs.length ≠ 2 := by
  match xs with
  | [a, b] => exact .inl ⟨a, b, rfl⟩
  | [] => exact .inr (by simp)
  | [_] => exact .inr (by simp)
  | _ :: _ :: _ :: _ => exact .inr (by simp)
theorem isPair_len {xs : List L3.D} (h : xs.length ≠ 2) : isPairD (.tup xs) = false := by
  unfold isPairD
  split
  · rename_i e; cases e; exact absurd rfl h
  · rfl
theorem isIntD_some {d : L3.D} {lo hi : Int} (h : isIntD d lo hi = true) : ∃ i, d = .int i ∧ lo ≤ i ∧ i ≤ hi := by
  cases d with
  | int i => simp [isIntD] at h; exact ⟨i, rfl, h.1, h.2⟩
  | _ => cases h
def isClockD (c d : L3.D) : Bool := isProcD c (.int 0) && (match c, d with
  | .int n, .tup xs => decide ((xs.length : Int) = n) && xs.all isPairD
  | _, _ => false)
theorem bls_map (f : L3.D → Bool) : ∀ xs : List L3.D, bls (xs.map fun d => .bl (f d)) = some (xs.map f)
  | [] => rfl
  | x :: xs => by
    have := bls_map f xs
    simp only [List.map_cons, bls, blO, this]
    rfl
def printD : L3.D → Bool
  | .str x => x.cps.toList.all signOk
  | _ => false
def outD : L3.D → Bool
  | .str x => x.cps.toList.all signOk && decide ((x.length : Int) ≤ 40)
  | _ => false
theorem near_ok {x : Str} (h : near x) : PyData.strOk x = true := by
  unfold PyData.strOk
  rw [← Array.all_toList, List.all_eq_true]
  intro c m
  rcases h c m with q | q
  · simp [signOk] at q ⊢; omega
  · simp [q]
def Lay (n : Nat) (q : PyData) : Prop := q.canLay0 = true ∧ q.depth ≤ n
theorem Lay.shaped {n : Nat} {q : PyData} (h : Lay n q) (hn : n ≤ 64) : SeqAt.shaped q = true := by
  show (q.canLay0 && decide (q.depth ≤ 64)) = true
  rw [h.1, decide_eq_true (Nat.le_trans h.2 hn)]; rfl
theorem lay_all {n : Nat} {f : L3.D → Option PyData} : ∀ {xs : List L3.D}, (∀ e ∈ xs, ∃ q, f e = some q ∧ Lay n q) → ∃ qs, xs.mapM f = some qs ∧ PyData.canLayAll0 qs = true ∧ PyData.depthAll qs ≤ n
  | [], _ => ⟨[], by simp, by simp [PyData.canLayAll0], by simp [PyData.depthAll]⟩
  | e :: xs, h => by
    obtain ⟨q, e1, h1, h2⟩ := h e (by simp)
    obtain ⟨qs, e2, h3, h4⟩ := lay_all (xs := xs) fun e m => h e (by simp [m])
    exact ⟨q :: qs, by simp [List.mapM_cons, e1, e2], by simp [PyData.canLayAll0, h1, h3], by simp [PyData.depthAll]; omega⟩
theorem toP_tup {m : Nat} {xs : List L3.D} : toP (m + 1) S (.tup xs) = (xs.mapM (toP m S)).map .tuple := rfl
theorem toP_ref {m k : Nat} : toP (m + 1) S (.ref k) = (lstO S k).bind fun xs => (xs.mapM (toP m S)).map .list := rfl
theorem toP_lay {L : Nat} : ∀ (n : Nat) (d : L3.D) (m : Nat), Gd L S n d → n + 2 ≤ m → ∃ q, toP m S d = some q ∧ Lay (n + 1) q := by
  intro n
  induction n with
  | zero =>
    intro d m h hm
    obtain ⟨m, rfl⟩ : ∃ k, m = k + 2 := ⟨m - 2, by omega⟩
    cases d with
    | non => exact ⟨_, rfl, by simp [PyData.canLay0], by simp [PyData.depth]⟩
    | bl b => exact ⟨_, rfl, by simp [PyData.canLay0], by simp [PyData.depth]⟩
    | int b => exact ⟨_, rfl, by simp [PyData.canLay0], by simp [PyData.depth]⟩
    | str x => exact ⟨_, rfl, by simp [PyData.canLay0, near_ok h.1], by simp [PyData.depth]⟩
    | tup xs => exact h.elim
    | lis xs => exact h.elim
    | ref k =>
      obtain ⟨xs, e, hx⟩ := h
      obtain ⟨qs, e2, h3, h4⟩ := lay_all (n := 0) (f := toP (m + 1) S) (xs := xs) fun e he => by
        obtain ⟨f1, f2⟩ := hx e he
        cases e with
        | non => exact ⟨_, rfl, by simp [PyData.canLay0], by simp [PyData.depth]⟩
        | bl b => exact ⟨_, rfl, by simp [PyData.canLay0], by simp [PyData.depth]⟩
        | int b => exact ⟨_, rfl, by simp [PyData.canLay0], by simp [PyData.depth]⟩
        | str x => exact ⟨_, rfl, by simp [PyData.canLay0, near_ok (f2 x rfl)], by simp [PyData.depth]⟩
        | _ => cases f1
      exact ⟨.list qs, by rw [toP_ref, e, Option.bind_some, e2]; rfl, by simp [PyData.canLay0, h3], by simp [PyData.depth]; omega⟩
  | succ n ih =>
    intro d m h hm
    obtain ⟨m, rfl⟩ : ∃ k, m = k + 2 := ⟨m - 2, by omega⟩
    cases d with
    | non => exact ⟨_, rfl, by simp [PyData.canLay0], by simp [PyData.depth]⟩
    | bl b => exact ⟨_, rfl, by simp [PyData.canLay0], by simp [PyData.depth]⟩
    | int b => exact ⟨_, rfl, by simp [PyData.canLay0], by simp [PyData.depth]⟩
    | str x => exact ⟨_, rfl, by simp [PyData.canLay0, near_ok h.1], by simp [PyData.depth]⟩
    | tup xs =>
      obtain ⟨qs, e2, h3, h4⟩ := lay_all (n := n + 1) (f := toP (m + 1) S) (xs := xs) fun e he => ih e (m + 1) (h.2 e he) (by omega)
      exact ⟨.tuple qs, by rw [toP_tup, e2]; rfl, by simp [PyData.canLay0, h3], by simp [PyData.depth]; omega⟩
    | lis xs => exact h.elim
    | ref k =>
      obtain ⟨xs, e, hx⟩ := h
      obtain ⟨qs, e2, h3, h4⟩ := lay_all (n := 0) (f := toP (m + 1) S) (xs := xs) fun e he => by
        obtain ⟨f1, f2⟩ := hx e he
        cases e with
        | non => exact ⟨_, rfl, by simp [PyData.canLay0], by simp [PyData.depth]⟩
        | bl b => exact ⟨_, rfl, by simp [PyData.canLay0], by simp [PyData.depth]⟩
        | int b => exact ⟨_, rfl, by simp [PyData.canLay0], by simp [PyData.depth]⟩
        | str x => exact ⟨_, rfl, by simp [PyData.canLay0, near_ok (f2 x rfl)], by simp [PyData.depth]⟩
        | _ => cases f1
      exact ⟨.list qs, by rw [toP_ref, e, Option.bind_some, e2]; rfl, by simp [PyData.canLay0, h3], by simp [PyData.depth]; omega⟩
theorem py_lay {L : Nat} : ∀ (n : Nat) (d : L3.D) (q : PyData), Gd L S n d → py d = some q → Lay (n + 1) q := by
  intro n
  have all : ∀ {n : Nat}, (∀ (d : L3.D) (q : PyData), Gd L S n d → py d = some q → Lay (n + 1) q) → ∀ {xs : List L3.D} {qs : List PyData}, (∀ e ∈ xs, Gd L S n e) → pys xs = some qs → PyData.canLayAll0 qs = true ∧ PyData.depthAll qs ≤ n + 1 := by
    intro n ih xs
    induction xs with
    | nil => intro qs _ e; simp [pys] at e; subst e; simp [PyData.canLayAll0, PyData.depthAll]
    | cons x xs ihx =>
      intro qs h e
      simp only [pys] at e
      cases e1 : py x with
      | none => simp [e1] at e
      | some q =>
        cases e2 : pys xs with
        | none => simp [e1, e2] at e
        | some ps =>
          simp [e1, e2] at e
          subst e
          obtain ⟨a1, a2⟩ := ih x q (h x (by simp)) e1
          obtain ⟨b1, b2⟩ := ihx (fun e m => h e (by simp [m])) e2
          exact ⟨by simp [PyData.canLayAll0, a1, b1], by simp [PyData.depthAll]; omega⟩
  induction n with
  | zero =>
    intro d q h e
    cases d with
    | non => cases e; exact ⟨by simp [PyData.canLay0], by simp [PyData.depth]⟩
    | bl b => cases e; exact ⟨by simp [PyData.canLay0], by simp [PyData.depth]⟩
    | int b => cases e; exact ⟨by simp [PyData.canLay0], by simp [PyData.depth]⟩
    | str x => cases e; exact ⟨by simp [PyData.canLay0, near_ok h.1], by simp [PyData.depth]⟩
    | tup xs => exact h.elim
    | lis xs => exact h.elim
    | ref k => cases e
  | succ n ih =>
    intro d q h e
    cases d with
    | non => cases e; exact ⟨by simp [PyData.canLay0], by simp [PyData.depth]⟩
    | bl b => cases e; exact ⟨by simp [PyData.canLay0], by simp [PyData.depth]⟩
    | int b => cases e; exact ⟨by simp [PyData.canLay0], by simp [PyData.depth]⟩
    | str x => cases e; exact ⟨by simp [PyData.canLay0, near_ok h.1], by simp [PyData.depth]⟩
    | tup xs =>
      simp only [py] at e
      cases e1 : pys xs with
      | none => simp [e1] at e
      | some qs =>
        simp [e1] at e
        subst e
        obtain ⟨a1, a2⟩ := all ih h.2 e1
        exact ⟨by simp [PyData.canLay0, a1], by simp [PyData.depth]; omega⟩
    | lis xs => exact h.elim
    | ref k => cases e
theorem pyS_lay {L n : Nat} {d : L3.D} (h : Gd L S n d) (hn : n ≤ 30) : ∃ q, pyS S d = some q ∧ Lay (n + 1) q := by
  unfold pyS
  cases e : py d with
  | some q => exact ⟨q, rfl, py_lay n d q h e⟩
  | none => exact toP_lay n d 40 h (by omega)
def isE : L3.D → Bool
  | .tup [] => true
  | _ => false
theorem pyS_tup {x : L3.D} {xs : List L3.D} {q : PyData} (h : pyS S (.tup (x :: xs)) = some q) : ∃ a as, q = .tuple (a :: as) := by
  unfold pyS at h
  cases e : py (.tup (x :: xs)) with
  | some p =>
    rw [e] at h
    cases h
    simp only [py, pys] at e
    cases e1 : py x with
    | none => simp [e1] at e
    | some a =>
      cases e2 : pys xs with
      | none => simp [e1, e2] at e
      | some as => simp [e1, e2] at e; exact ⟨a, as, e.symm⟩
  | none =>
    rw [e] at h
    dsimp only at h
    rw [toP_tup, List.mapM_cons] at h
    cases e1 : toP 39 S x with
    | none => simp [e1] at h
    | some a =>
      cases e2 : xs.mapM (toP 39 S) with
      | none => simp [e1, e2] at h
      | some as => simp [e1, e2] at h; exact ⟨a, as, h.symm⟩
theorem eq_empty {L n : Nat} {xs : List L3.D} (h : Gd L S n (.tup xs)) (hn : n ≤ 30) : eqD (.tup xs) (.tup []) S = some (.bl xs.isEmpty, S) := by
  obtain ⟨q, e, l⟩ := pyS_lay h hn
  have e0 : pyS S (.tup []) = some (.tuple []) := rfl
  have s0 : SeqAt.shaped (.tuple []) = true := by decide +kernel
  have e1 : eqO S (.tup xs) (.tup []) = some (PyData.eqv q (.tuple [])) := by
    unfold eqO
    simp only [flatEq, e, e0, l.shaped (by omega), s0, Bool.and_self, if_true]
  unfold eqD
  rw [e1]
  cases xs with
  | nil => rw [e0] at e; cases e; simp [PyData.eqv, PyData.eqvAll]
  | cons x xs =>
    obtain ⟨a, as, rfl⟩ := pyS_tup e
    simp [PyData.eqv, PyData.eqvAll]
def itemD (c : L3.D) (nest : L3.D → Bool) (s : Str) (d : L3.D) : Bool := if s = "cell" then isIntD d 0 3 else if s = "value" then isIntD d (-1000000) 1000000 else if s = "process" then isProcD c d else nest d
def allIn (f : Str → L3.D → Bool) : List Str → List L3.D → Bool
  | p :: ps, d :: ds => f p d && allIn f ps ds
  | _, _ => true
theorem allIn_take {f : Str → L3.D → Bool} : ∀ {ps : List Str} {ds : List L3.D} {i : Nat} {p : Str} {d : L3.D}, ps[i]? = some p → ds[i]? = some d → allIn f (ps.take (i + 1)) (ds.take (i + 1)) = (allIn f (ps.take i) (ds.take i) && f p d)
  | [], _, _, _, _, h, _ => by simp at h
  | _ :: _, [], _, _, _, _, h => by simp at h
  | a :: ps, b :: ds, 0, p, d, h1, h2 => by
    have e1 : a = p := by simpa using h1
    have e2 : b = d := by simpa using h2
    subst e1 e2
    simp [allIn]
  | a :: ps, b :: ds, i + 1, p, d, h1, h2 => by
    have := allIn_take (f := f) (ps := ps) (ds := ds) (i := i) (by simpa using h1) (by simpa using h2)
    simp only [List.take_succ_cons, allIn, this, Bool.and_assoc]
theorem allIn_no {f : Str → L3.D → Bool} : ∀ {ps : List Str} {ds : List L3.D} {i : Nat} {p : Str} {d : L3.D}, ps[i]? = some p → ds[i]? = some d → f p d = false → allIn f ps ds = false
  | [], _, _, _, _, h, _, _ => by simp at h
  | _ :: _, [], _, _, _, _, h, _ => by simp at h
  | a :: ps, b :: ds, 0, p, d, h1, h2, h3 => by
    have e1 : a = p := by simpa using h1
    have e2 : b = d := by simpa using h2
    subst e1 e2
    simp [allIn, h3]
  | a :: ps, b :: ds, i + 1, p, d, h1, h2, h3 => by
    simp [allIn, allIn_no (f := f) (ps := ps) (ds := ds) (i := i) (by simpa using h1) (by simpa using h2) h3]
def shapes : List (Str × List Str) := [("set", ["cell", "value"]), ("add", ["cell", "value"]), ("copy", ["cell", "cell"]), ("send", ["process", "payload"]), ("show", ["cell"]), ("both", ["payload", "payload"]), ("if", ["cell", "payload", "payload"])]
theorem ofPs_strs : ∀ l : List Str, ofPs (l.map .str) = l.map .str
  | [] => rfl
  | x :: l => by simp only [List.map_cons, ofPs, ofP, ofPs_strs l]
def payD (c : L3.D) : Nat → L3.D → Bool
  | 0, _ => false
  | n + 1, d => match d with
    | .tup (.str k :: ds) => (match shapes.lookup k with
      | some ps => decide (ds.length = ps.length) && allIn (itemD c (payD c n)) ps ds
      | none => false)
    | _ => false
def isPayD (c d : L3.D) : Bool := isIntD c 1 10 && payD c 6 d
theorem payD_tup {c : L3.D} {n : Nat} {k : Str} {ds : List L3.D} : payD c (n + 1) (.tup (.str k :: ds)) = (match shapes.lookup k with
      | some ps => decide (ds.length = ps.length) && allIn (itemD c (payD c n)) ps ds
      | none => false) := rfl
theorem isPair_some {d : L3.D} (h : isPairD d = true) : ∃ i j : Int, d = .tup [.int i, .int j] ∧ 0 ≤ i ∧ i ≤ 1000000000000 ∧ 0 ≤ j ∧ j ≤ 1000000000000 ∧ (0 < j ∨ i = 0) := by
  unfold isPairD at h
  split at h
  · rename_i a b
    simp only [Bool.and_eq_true] at h
    obtain ⟨⟨h1, h2⟩, h3⟩ := h
    obtain ⟨i, rfl, i1, i2⟩ := isIntD_some h1
    obtain ⟨j, rfl, j1, j2⟩ := isIntD_some h2
    simp at h3
    exact ⟨i, j, rfl, i1, i2, j1, j2, h3⟩
  · cases h
def zeroD (d : L3.D) : Bool := match d with
  | .tup [.int i, .int j] => decide (i = 0) && decide (j = 0)
  | _ => false
theorem eq_zero {i j : Int} : eqD (.tup [.int i, .int j]) (.tup [.int 0, .int 0]) S = some (.bl (zeroD (.tup [.int i, .int j])), S) := by
  have e1 : pyS S (.tup [.int i, .int j]) = some (.tuple [.int i, .int j]) := rfl
  have e2 : pyS S (.tup [.int 0, .int 0]) = some (.tuple [.int 0, .int 0]) := rfl
  have sh : ∀ a b : Int, SeqAt.shaped (.tuple [.int a, .int b]) = true := fun a b => by
    show (PyData.canLay0 _ && decide (PyData.depth _ ≤ 64)) = true
    simp [PyData.canLay0, PyData.canLayAll0, PyData.depth, PyData.depthAll]
  have e3 : eqO S (.tup [.int i, .int j]) (.tup [.int 0, .int 0]) = some (PyData.eqv (.tuple [.int i, .int j]) (.tuple [.int 0, .int 0])) := by
    unfold eqO
    simp only [flatEq, e1, e2, sh, Bool.and_self, if_true]
  unfold eqD
  rw [e3]
  simp only [PyData.eqv, PyData.eqvAll, zeroD, Bool.and_true]
  rfl
def cntPos : L3.D → Bool
  | .tup [_, .int j] => decide (0 < j)
  | _ => false
def intG : L3.D → Int
  | .int i => i
  | _ => 0
def tupG' : L3.D → List L3.D
  | .tup xs => xs
  | _ => []
def atPos (xs : List L3.D) (i : Int) : Bool := match xs[i.toNat]? with
  | some d => cntPos d
  | none => false
/-- the items of a letter of the first kind -/
def passD (c s n p k : L3.D) : Bool := isIntD n 1 1000000000000 && isPayD c p && isClockD c k && (if isIntD s (-1) (-1) = true then (tupG' k).all zeroD else isProcD c s && atPos (tupG' k) (intG s))
theorem clock_some {c k : L3.D} (h : isClockD c k = true) : ∃ (n : Int) (xs : List L3.D), c = .int n ∧ k = .tup xs ∧ (xs.length : Int) = n ∧ ∀ x ∈ xs, isPairD x = true := by
  unfold isClockD at h
  rw [Bool.and_eq_true] at h
  obtain ⟨_, h⟩ := h
  cases c with
  | int n =>
    cases k with
    | tup xs =>
      dsimp only at h
      rw [Bool.and_eq_true, decide_eq_true_eq, List.all_eq_true] at h
      exact ⟨n, xs, rfl, rfl, h.1, h.2⟩
    | _ => cases h
  | _ => cases k <;> cases h
theorem isProc_some {c d : L3.D} (h : isProcD c d = true) : ∃ n i : Int, c = .int n ∧ d = .int i ∧ 1 ≤ n ∧ n ≤ 10 ∧ 0 ≤ i ∧ i < n := by
  unfold isProcD at h
  split at h
  · rename_i n
    rw [Bool.and_eq_true] at h
    obtain ⟨i, e, i1, i2⟩ := isIntD_some h.2
    obtain ⟨m, e2, m1, m2⟩ := isIntD_some h.1
    cases e2
    exact ⟨n, i, rfl, e, m1, m2, i1, by omega⟩
  · cases h
def sizes : List (Str × Int) := [("pass", 5), ("got", 3), ("end", 4), ("heard", 3), ("firm", 4), ("show", 4), ("seen", 3)]
theorem sizes_big {z : Str} {n : Int} (h : sizes.lookup z = some n) : 3 ≤ n := by
  have hm := lookup_mem h
  have : ∀ p ∈ sizes, 3 ≤ p.2 := by decide
  exact this _ hm
def nth (xs : List L3.D) (i : Nat) : L3.D := (xs[i]?).getD .non
def letK (c : L3.D) (z : Str) (xs : List L3.D) : Bool :=
  if z = "pass" then passD c (nth xs 0) (nth xs 1) (nth xs 2) (nth xs 3)
  else if z = "seen" then isIntD (nth xs 0) (-1) (-1) && isIntD (nth xs 1) 0 1000000000000
  else if isProcD c (nth xs 0) = false then false
  else if z = "got" then isIntD (nth xs 1) 1 1000000000000
  else if z = "show" then isIntD (nth xs 1) 1 1000000000000 && outD (nth xs 2)
  else isIntD (nth xs 1) 0 1000000000000 && (decide (z = "heard") || isIntD (nth xs 2) 0 1000000000000)
def letterD (c v : L3.D) : Bool := isProcD c (.int 0) && (match v with
  | .tup (.str z :: xs) => (match sizes.lookup z with
    | some n => decide ((xs.length : Int) + 1 = n) && letK c z xs
    | none => false)
  | _ => false)
theorem letterD_tup {c : L3.D} {z : Str} {xs : List L3.D} : letterD c (.tup (.str z :: xs)) = (isProcD c (.int 0) && (match sizes.lookup z with
    | some n => decide ((xs.length : Int) + 1 = n) && letK c z xs
    | none => false)) := rfl
theorem lookup_mapv {α β : Type} {f : α → β} (z : Str) : ∀ l : List (Str × α), (l.map fun p => (p.1, f p.2)).lookup z = (l.lookup z).map f
  | [] => rfl
  | (k, v) :: l => by
    by_cases c : (z == k) = true
    · simp [List.lookup, c]
    · have c' : (z == k) = false := by simpa using c
      simp [List.lookup, c', lookup_mapv z l]
def sgn (s : Str) : Nat := if s = "cell" then 99 else if s = "value" then 118 else if s = "process" then 115 else 112
def lsh : List (Str × Str) := shapes.map fun p => (p.1, ⟨(p.2.map sgn).toArray⟩)
theorem lsh_is : lsh = ([("set", "cv"), ("add", "cv"), ("copy", "cc"), ("send", "sp"), ("show", "c"), ("both", "pp"), ("if", "cpp")] : List (Str × Str)) := by decide +kernel
def rowsD (l : List (Str × Str)) : List L3.D := l.map fun p => .tup [.str p.1, .str p.2]
theorem More.app {S : Store} (l : List O) : More S (S ++ l) := fun m u q => (List.getElem?_append_left (List.getElem?_eq_some_iff.mp q).1).trans q
def pr (p : Int × Int) : L3.D := .tup [.int p.1, .int p.2]
def prP (p : Int × Int) : PyData := .tuple [.int p.1, .int p.2]
theorem pys_pairs : ∀ ps : List (Int × Int), pys (ps.map pr) = some (ps.map prP)
  | [] => rfl
  | p :: ps => by simp only [List.map_cons, pys, pr, py, pys_pairs ps]; rfl
theorem shaped_pairs (ps : List (Int × Int)) : SeqAt.shaped (.tuple (ps.map prP)) = true := by
  have k : ∀ ps : List (Int × Int), PyData.canLayAll0 (ps.map prP) = true ∧ PyData.depthAll (ps.map prP) ≤ 2 := fun ps => by
    induction ps with
    | nil => simp [PyData.canLayAll0, PyData.depthAll]
    | cons p ps ih => simp [PyData.canLayAll0, PyData.depthAll, prP, PyData.canLay0, PyData.depth, ih.1]; omega
  have := k ps
  show (PyData.canLay0 _ && decide (PyData.depth _ ≤ 64)) = true
  simp [PyData.canLay0, PyData.depth, this.1]
  omega
theorem eqv_pairs : ∀ ps qs : List (Int × Int), PyData.eqvAll (ps.map prP) (qs.map prP) = decide (ps = qs)
  | [], [] => by simp [PyData.eqvAll]
  | [], q :: qs => by simp [PyData.eqvAll]
  | p :: ps, [] => by simp [PyData.eqvAll]
  | (a, b) :: ps, (c, d) :: qs => by
    have := eqv_pairs ps qs
    simp [PyData.eqvAll, prP, PyData.eqv] at this ⊢
    by_cases h1 : a = c <;> by_cases h2 : b = d <;> simp_all
theorem eq_pairs (ps qs : List (Int × Int)) : eqD (.tup (ps.map pr)) (.tup (qs.map pr)) S = some (.bl (decide (ps = qs)), S) := by
  have e1 : ∀ ps : List (Int × Int), pyS S (.tup (ps.map pr)) = some (.tuple (ps.map prP)) := fun ps => by
    unfold pyS
    simp only [py, pys_pairs]
    rfl
  unfold eqD eqO
  simp only [flatEq, e1, shaped_pairs, Bool.and_self, if_true, PyData.eqv, eqv_pairs]
  rfl
theorem pairs_of : ∀ {xs : List L3.D}, (∀ x ∈ xs, isPairD x = true) → ∃ ps : List (Int × Int), xs = ps.map pr
  | [], _ => ⟨[], rfl⟩
  | x :: xs, h => by
    obtain ⟨i, j, e, _⟩ := isPair_some (h x (by simp))
    obtain ⟨ps, e2⟩ := pairs_of (xs := xs) fun x m => h x (by simp [m])
    exact ⟨(i, j) :: ps, by rw [e, e2]; rfl⟩
theorem all_zero (ps : List (Int × Int)) : decide (ps = List.replicate ps.length (0, 0)) = (ps.map pr).all zeroD := by
  induction ps with
  | nil => rfl
  | cons p ps ih =>
    obtain ⟨a, b⟩ := p
    have e : zeroD (pr (a, b)) = (decide (a = 0) && decide (b = 0)) := rfl
    simp only [List.length_cons, List.replicate_succ, List.map_cons, List.all_cons, e, ← ih, List.cons.injEq, Prod.mk.injEq, Bool.decide_and]
theorem rep_zero (n : Nat) : (List.replicate n [L3.D.tup [.int 0, .int 0]]).flatten = (List.replicate n ((0 : Int), (0 : Int))).map pr := by
  induction n with
  | zero => rfl
  | succ n ih => simp only [List.replicate_succ, List.flatten_cons, ih, List.map_cons]; rfl
def sizeD : List L3.D := sizes.map fun p => .tup [.str p.1, .int p.2]
theorem sizes_nd (z : Str) (n : Int) : sizes.lookup z = some n ↔ (z, n) ∈ sizes := by
  refine ⟨lookup_mem, fun h => ?_⟩
  have : ∀ p ∈ sizes, sizes.lookup p.1 = some p.2 := by decide +kernel
  exact this _ h
theorem in_sizes {q : Nat} {z : Str} {n : Int} (hq : lstO S q = some sizeD) (hz : near z) : ninD (.tup [.str z, .int n]) (.ref q) S = some (.bl (!decide (sizes.lookup z = some n)), S) := by
  have e1 : pyS S (.tup [.str z, .int n]) = some (.tuple [.str z, .int n]) := rfl
  have e2 : pyS S (.ref q) = some (.list (sizes.map fun p => .tuple [.str p.1, .int p.2])) := by
    show toP 40 S (.ref q) = _
    rw [toP_ref, hq]
    rfl
  have s1 : SeqAt.shaped (.tuple [.str z, .int n]) = true := by
    show (PyData.canLay0 _ && decide (PyData.depth _ ≤ 64)) = true
    simp [PyData.canLay0, PyData.canLayAll0, PyData.depth, PyData.depthAll, near_ok hz]
  have s2 : SeqAt.shaped (.list (sizes.map fun p => .tuple [.str p.1, .int p.2])) = true := by decide +kernel
  have e3 : (sizes.map fun p => PyData.tuple [.str p.1, .int p.2]).any (fun y => PyData.eqv y (.tuple [.str z, .int n])) = decide (sizes.lookup z = some n) := by
    rw [Bool.eq_iff_iff, List.any_eq_true, decide_eq_true_eq, sizes_nd]
    constructor
    · rintro ⟨x, hx, e⟩
      obtain ⟨⟨k, v⟩, hp, rfl⟩ := List.mem_map.mp hx
      simp [PyData.eqv, PyData.eqvAll] at e
      rw [← e.1, ← e.2]; exact hp
    · intro h
      exact ⟨_, List.mem_map.mpr ⟨_, h, rfl⟩, by simp [PyData.eqv, PyData.eqvAll]⟩
  unfold ninD inO
  simp only [seqO, hq]
  rw [if_neg (by intro h; cases h.1)]
  simp only [e1, e2, s1, s2, Bool.and_self, if_true, e3]
  rfl
theorem in_nl {x : Str} : inD (.str "\n") (.str x) S = some (.bl (decide (10 ∈ x.cps.toList)), S) := by
  have e : ("\n" : Str) = ⟨#[10]⟩ := by decide +kernel
  rw [e]
  rfl
theorem out_near {x : Str} (h : near x) (h4 : x.length ≤ 40) (hn : ¬ 10 ∈ x.cps.toList) : outD (.str x) = true := by
  have : x.cps.toList.all signOk = true := List.all_eq_true.mpr fun c m => (h c m).resolve_right fun e => hn (e ▸ m)
  simp only [outD, this, Bool.true_and, decide_eq_true_eq]
  omega
theorem out_not {x : Str} (h : x.length > 40 ∨ 10 ∈ x.cps.toList) : outD (.str x) = false := by
  rcases h with h | h
  · have : ¬ ((x.length : Int) ≤ 40) := by omega
    simp only [outD, decide_eq_false this, Bool.and_false]
  · have : x.cps.toList.all signOk = false := List.all_eq_false.mpr ⟨10, h, by simp [signOk]⟩
    simp only [outD, this, Bool.false_and]
def Bg (S : Store) (p : Nat) : Prop := ∃ a b c : Int, lstO S p = some [.int a, .int b, .int c]
structure Nx (p : Nat) (S S' : Store) : Prop where
  bag : Bg S' p
  old : ∀ (m : Nat) o, m ≠ p → S[m]? = some o → S'[m]? = some o
theorem Nx.refl {p : Nat} (h : Bg S p) : Nx p S S := ⟨h, fun _ _ _ q => q⟩
theorem Nx.trans {p : Nat} {A B C : Store} (h : Nx p A B) (g : Nx p B C) : Nx p A C := ⟨g.bag, fun m o n q => g.old m o n (h.old m o n q)⟩
theorem Nx.put {p : Nat} {a b c : Int} (h : Bg S p) : Nx p S (S.set p (.lst [.int a, .int b, .int c])) := by
  obtain ⟨x, y, z, e⟩ := h
  refine ⟨⟨a, b, c, lstO_set e⟩, fun m o n q => ?_⟩
  rw [List.getElem?_set_ne (Ne.symm n)]
  exact q
theorem Nx.new {p : Nat} (h : Bg S p) (o : O) : Nx p S (S ++ [o]) := by
  obtain ⟨x, y, z, e⟩ := h
  exact ⟨⟨x, y, z, lstO_old e⟩, fun m o _ q => More.new _ m o q⟩
theorem Nx.lst {p : Nat} {S S' : Store} (h : Nx p S S') {n : Nat} {xs : List L3.D} (hn : n ≠ p) (e : lstO S n = some xs) : lstO S' n = some xs := by
  unfold lstO
  rw [h.old n _ hn (lstO_at e)]
theorem Nx.gd {p : Nat} {S S' : Store} (h : Nx p S S') {L : Nat} : ∀ {n : Nat} {d : L3.D}, Gd L S n d → Gd L S' n d
  | n, .ref k, g => by
    have key : ∃ xs, lstO S' k = some xs ∧ ∀ e ∈ xs, flatD e = true ∧ ∀ x, e = .str x → near x := by
      by_cases c : k = p
      · subst c
        obtain ⟨a, b, c, e⟩ := h.bag
        refine ⟨_, e, fun e he => ?_⟩
        simp at he
        rcases he with rfl | rfl | rfl <;> exact ⟨rfl, fun x q => by cases q⟩
      · cases n <;> (obtain ⟨xs, e, q⟩ := g; exact ⟨xs, h.lst c e, q⟩)
    cases n <;> exact key
  | n, .str x, g => by cases n <;> exact g
  | n, .lis x, g => by cases n <;> exact g
  | 0, .tup _, g => g
  | n + 1, .tup xs, g => ⟨g.1, fun e m => Nx.gd h (g.2 e m)⟩
  | n, .non, g => by cases n <;> trivial
  | n, .bl _, g => by cases n <;> trivial
  | n, .int _, g => by cases n <;> trivial
theorem Bg.lt {p : Nat} (h : Bg S p) : p < S.length := by
  obtain ⟨a, b, c, e⟩ := h
  exact (List.getElem?_eq_some_iff.mp (lstO_at e)).1
theorem pay_gd {c : L3.D} {L : Nat} (hL : 4 ≤ L) : ∀ {n : Nat} {d : L3.D}, payD c n d = true → Gd L S n d := by
  have hint : ∀ {n : Nat} {d : L3.D} {lo hi : Int}, isIntD d lo hi = true → Gd L S n d := fun {n d lo hi} h => by
    obtain ⟨i, rfl, _⟩ := isIntD_some h
    cases n <;> trivial
  intro n
  induction n with
  | zero => intro d h; cases h
  | succ n ih =>
    intro d h
    match d, h with
    | .tup (.str k :: ds), h =>
      rw [payD_tup] at h
      cases e : shapes.lookup k with
      | none => rw [e] at h; cases h
      | some ps =>
        rw [e] at h
        dsimp only at h
        rw [Bool.and_eq_true, decide_eq_true_eq] at h
        have hs : ∀ p ∈ shapes, p.2.length ≤ 3 ∧ p.1.length ≤ 1000 ∧ p.1.cps.toList.all signOk = true := by decide +kernel
        obtain ⟨s1, s2, s3⟩ := hs _ (lookup_mem e)
        have key : ∀ (ps : List Str) (ds : List L3.D), ds.length ≤ ps.length → allIn (itemD c (payD c n)) ps ds = true → ∀ d ∈ ds, Gd L S n d := by
          intro ps
          induction ps with
          | nil => intro ds hl _ d hd; cases ds with
            | nil => cases hd
            | cons a b => simp at hl
          | cons p ps ihp =>
            intro ds hl ha d hd
            cases ds with
            | nil => cases hd
            | cons a ds =>
              simp only [allIn, Bool.and_eq_true] at ha
              rcases List.mem_cons.mp hd with rfl | hd
              · have hi := ha.1
                unfold itemD at hi
                by_cases c1 : p = "cell"
                · rw [if_pos c1] at hi; exact hint hi
                rw [if_neg c1] at hi
                by_cases c2 : p = "value"
                · rw [if_pos c2] at hi; exact hint hi
                rw [if_neg c2] at hi
                by_cases c3 : p = "process"
                · rw [if_pos c3] at hi
                  obtain ⟨a, b, _, rfl, _⟩ := isProc_some hi
                  cases n <;> trivial
                rw [if_neg c3] at hi
                exact ih hi
              · exact ihp ds (by simpa using hl) ha.2 d hd
        refine ⟨by dsimp only at s1; simp; omega, fun x hx => ?_⟩
        rcases List.mem_cons.mp hx with rfl | hx
        · have : near k ∧ k.length ≤ 1000 := ⟨fun c m => .inl (List.all_eq_true.mp s3 c m), s2⟩
          cases n <;> exact this
        · exact key ps ds (by omega) h.2 x hx
section
variable {c : L3.D} {n : Nat}
theorem pay_of {k : Str} {ds : List L3.D} {ps : List Str} (e : shapes.lookup k = some ps) : payD c (n + 1) (.tup (.str k :: ds)) = (decide (ds.length = ps.length) && allIn (itemD c (payD c n)) ps ds) := by
  rw [payD_tup, e]
theorem pay_show {r : Int} (h0 : 0 ≤ r) (h1 : r < 4) : payD c (n + 1) (.tup [.str "show", .int r]) = true := by
  rw [pay_of (ps := ["cell"]) (by decide +kernel)]
  simp [allIn, itemD, isIntD]
  omega
theorem pay_set {r v : Int} (h0 : 0 ≤ r) (h1 : r < 4) (v0 : -1000000 ≤ v) (v1 : v ≤ 1000000) : payD c (n + 1) (.tup [.str "set", .int r, .int v]) = true := by
  rw [pay_of (ps := ["cell", "value"]) (by decide +kernel)]
  simp [allIn, itemD, isIntD]
  omega
theorem pay_add {r v : Int} (h0 : 0 ≤ r) (h1 : r < 4) (v0 : -1000000 ≤ v) (v1 : v ≤ 1000000) : payD c (n + 1) (.tup [.str "add", .int r, .int v]) = true := by
  rw [pay_of (ps := ["cell", "value"]) (by decide +kernel)]
  simp [allIn, itemD, isIntD]
  omega
theorem pay_copy {r v : Int} (h0 : 0 ≤ r) (h1 : r < 4) (v0 : 0 ≤ v) (v1 : v < 4) : payD c (n + 1) (.tup [.str "copy", .int r, .int v]) = true := by
  rw [pay_of (ps := ["cell", "cell"]) (by decide +kernel)]
  simp [allIn, itemD, isIntD]
  omega
theorem pay_send {d : L3.D} {m r : Int} (m1 : 1 ≤ m) (m2 : m ≤ 10) (h0 : 0 ≤ r) (h1 : r < m) (h : payD (.int m) n d = true) : payD (.int m) (n + 1) (.tup [.str "send", .int r, d]) = true := by
  rw [pay_of (ps := ["process", "payload"]) (by decide +kernel)]
  simp [allIn, itemD, isIntD, isProcD, h]
  omega
theorem pay_both {d e : L3.D} (h : payD c n d = true) (g : payD c n e = true) : payD c (n + 1) (.tup [.str "both", d, e]) = true := by
  rw [pay_of (ps := ["payload", "payload"]) (by decide +kernel)]
  simp [allIn, itemD, h, g]
theorem pay_if {d e : L3.D} {r : Int} (h0 : 0 ≤ r) (h1 : r < 4) (h : payD c n d = true) (g : payD c n e = true) : payD c (n + 1) (.tup [.str "if", .int r, d, e]) = true := by
  rw [pay_of (ps := ["cell", "payload", "payload"]) (by decide +kernel)]
  simp [allIn, itemD, isIntD, h, g]
  omega
end
theorem log_sm {m : Int} (m1 : 1 ≤ m) (m2 : m ≤ 1000) : m.natAbs.log2 < 9000 := by
  have : m.natAbs.log2 ≤ m.natAbs := Nat.log2_le_self _
  omega
theorem Nx.len {p : Nat} {S S' : Store} (h : Nx p S S') : S.length ≤ S'.length := by
  apply Classical.byContradiction
  intro c
  have hl : S'.length < S.length := by omega
  have hp := h.bag.lt
  have := h.old S'.length S[S'.length] (by omega) (List.getElem?_eq_getElem hl)
  have := (List.getElem?_eq_some_iff.mp this).1
  omega
theorem join_cps : ∀ ks : List Str, (Txt.join (Str.ofString "") ks).cps.toList = (ks.map (·.cps.toList)).flatten := by
  intro ks
  show (Builtin.Str.glued (Str.ofString "") ks).cps.toList = _
  rw [StrLaws.glued_eq_join]
  induction ks with
  | nil => rfl
  | cons a ks ih =>
    cases ks with
    | nil => simp [Str.join]
    | cons b ks =>
      have e : Str.join (Str.ofString "") (a :: b :: ks) = a ++ Str.ofString "" ++ Str.join (Str.ofString "") (b :: ks) := rfl
      rw [e, List.map_cons, List.flatten_cons, ← ih]
      show (a.cps ++ #[] ++ (Str.join (Str.ofString "") (b :: ks)).cps).toList = _
      simp
theorem txts_map : ∀ ks : List Str, txts (ks.map .str) = some ks
  | [] => rfl
  | k :: ks => by simp only [List.map_cons, txts, strO, txts_map ks]; rfl
theorem Gd.mono {L L' : Nat} (hL : L ≤ L') : ∀ {n n' : Nat} {d : L3.D}, n ≤ n' → Gd L S n d → Gd L' S n' d
  | n, n', .ref k, _, g => by cases n <;> cases n' <;> exact g
  | n, n', .str x, _, g => by cases n <;> cases n' <;> exact g
  | n, n', .lis x, _, g => by cases n <;> exact g.elim
  | 0, _, .tup _, _, g => g.elim
  | n + 1, n', .tup xs, h, g => by
    obtain ⟨k, rfl⟩ : ∃ k, n' = k + 1 := ⟨n' - 1, by omega⟩
    exact ⟨Nat.le_trans g.1 hL, fun e m => Gd.mono hL (by omega) (g.2 e m)⟩
  | n, n', .non, _, g => by cases n' <;> trivial
  | n, n', .bl _, _, g => by cases n' <;> trivial
  | n, n', .int _, _, g => by cases n' <;> trivial
theorem Gd.int {L n : Nat} {i : Int} : Gd L S n (.int i) := by cases n <;> trivial
theorem Gd.non {L n : Nat} : Gd L S n .non := by cases n <;> trivial
theorem Gd.bl {L n : Nat} {b : Bool} : Gd L S n (.bl b) := by cases n <;> trivial
theorem Gd.str {L n : Nat} {x : Str} (h : near x) (l : x.length ≤ 1000) : Gd L S n (.str x) := by cases n <;> exact ⟨h, l⟩
theorem near_of {x : Str} (h : x.cps.toList.all signOk = true) : near x := fun c m => .inl (List.all_eq_true.mp h c m)
theorem nearD {x : Str} (h : (x.cps.toList.all fun c => signOk c || c == 10) = true) : near x := fun c m => by
  have := List.all_eq_true.mp h c m
  simpa using this
theorem Gd.pair {L n : Nat} (hL : 2 ≤ L) {d : L3.D} (h : isPairD d = true) : Gd L S (n + 1) d := by
  obtain ⟨i, j, rfl, _⟩ := isPair_some h
  exact ⟨hL, fun e m => by simp at m; rcases m with rfl | rfl <;> exact .int⟩
theorem Gd.tup {L n : Nat} {xs : List L3.D} (hl : xs.length ≤ L) (h : ∀ e ∈ xs, Gd L S n e) : Gd L S (n + 1) (.tup xs) := ⟨hl, h⟩
theorem cutD_sub {xs : List L3.D} {lo hi : Option Int} {e : L3.D} (h : e ∈ L3.cutD xs lo hi) : e ∈ xs := List.mem_of_mem_drop (List.mem_of_mem_take h)
theorem cutD_len {xs : List L3.D} {lo hi : Option Int} : (L3.cutD xs lo hi).length ≤ xs.length := by
  unfold L3.cutD
  rw [List.length_take, List.length_drop]
  omega
theorem lstO_off {l : List O} {i : Nat} {xs : List L3.D} (h : l[i]? = some (.lst xs)) : lstO (S ++ l) (S.length + i) = some xs := by
  unfold lstO
  rw [List.getElem?_append_right (by omega), show S.length + i - S.length = i by omega, h]
theorem Nx.app {p : Nat} (h : Bg S p) (l : List O) : Nx p S (S ++ l) := by
  obtain ⟨x, y, z, e⟩ := h
  exact ⟨⟨x, y, z, (More.app l).lst e⟩, fun m o _ q => More.app l m o q⟩
theorem rep_x {k : Nat} (h : k ≤ 1000) : near (repStr (Str.ofString "x") (k : Int)) ∧ (repStr (Str.ofString "x") (k : Int)).length ≤ 1000 := by
  have e : (repStr (Str.ofString "x") (k : Int)).cps.toList = List.replicate k 120 := by
    unfold repStr
    rw [Int.toNat_natCast, show (Str.ofString "x").cps.toList = [120] by decide +kernel]
    clear h
    induction k with
    | zero => rfl
    | succ k ih => rw [List.replicate_succ, List.flatten_cons, List.replicate_succ]; simp at ih ⊢
  refine ⟨fun c m => ?_, ?_⟩
  · rw [e] at m
    rw [(List.mem_replicate.mp m).2]
    exact .inl (by decide)
  · unfold Str.length
    rw [← Array.length_toList, e, List.length_replicate]
    exact h
end L3
set_option Elab.async false
set_option linter.all false
set_option maxRecDepth 100000
set_option maxHeartbeats 1000000
namespace L3
open PySem PySem.Spec PyProof.Rows L2
variable {S : Store} {P : L3.D → Store → Prop}
/-! ### decimals -/
def digs (n : Nat) : List Nat := (Nat.toDigits 10 n).map Char.toNat
def dval (cs : List Nat) : Nat := cs.foldl (fun acc c => acc * 10 + (c - 48)) 0
theorem digitChar_nat : ∀ d : Nat, d < 10 → (Nat.digitChar d).toNat = 48 + d := by decide
theorem digs_lt {n : Nat} (h : n < 10) : digs n = [48 + n] := by
  unfold digs
  rw [Nat.toDigits_of_lt_base h, List.map_cons, List.map_nil, digitChar_nat n h]
theorem digs_ge {n : Nat} (h : 10 ≤ n) : digs n = digs (n / 10) ++ [48 + n % 10] := by
  have e : n = 10 * (n / 10) + n % 10 := by omega
  have hp : 0 < n / 10 := by omega
  have hm : n % 10 < 10 := by omega
  have q := Nat.toDigits_append_toDigits (b := 10) (by decide) hp hm
  rw [← e, Nat.toDigits_of_lt_base hm] at q
  unfold digs
  rw [← q, List.map_append, List.map_cons, List.map_nil, digitChar_nat _ hm]
theorem digs_ind {P : Nat → List Nat → Prop} (h1 : ∀ n, n < 10 → P n [48 + n]) (h2 : ∀ n, 10 ≤ n → P (n / 10) (digs (n / 10)) → P n (digs (n / 10) ++ [48 + n % 10])) : ∀ n, P n (digs n) := by
  intro n
  induction n using Nat.strongRecOn with
  | _ n ih =>
    by_cases c : n < 10
    · rw [digs_lt c]; exact h1 n c
    · rw [digs_ge (by omega)]; exact h2 n (by omega) (ih _ (by omega))
theorem digs_all (n : Nat) : ∀ c ∈ digs n, 48 ≤ c ∧ c ≤ 57 := by
  refine digs_ind (P := fun _ l => ∀ c ∈ l, 48 ≤ c ∧ c ≤ 57) (fun n h c m => ?_) (fun n h ih c m => ?_) n
  · simp at m; omega
  · rcases List.mem_append.mp m with m | m
    · exact ih c m
    · simp at m; omega
theorem digs_ne (n : Nat) : digs n ≠ [] := digs_ind (P := fun _ l => l ≠ []) (fun n h => by simp) (fun n h ih => by simp) n
theorem dval_snoc (cs : List Nat) (c : Nat) : dval (cs ++ [c]) = dval cs * 10 + (c - 48) := by
  unfold dval
  rw [List.foldl_append]
  rfl
theorem digs_val (n : Nat) : dval (digs n) = n := digs_ind (P := fun n l => dval l = n) (fun n h => by simp [dval]) (fun n h ih => by rw [dval_snoc, ih]; omega) n
theorem digs_len : ∀ (k n : Nat), n < 10 ^ (k + 1) → (digs n).length ≤ k + 1
  | 0, n, h => by rw [digs_lt (by simpa using h)]; simp
  | k + 1, n, h => by
    by_cases c : n < 10
    · rw [digs_lt c]; simp
    · rw [digs_ge (by omega), List.length_append, List.length_singleton]
      have := digs_len k (n / 10) (by rw [Nat.div_lt_iff_lt_mul (by decide)]; rw [Nat.pow_succ] at h; exact h)
      omega
/-- no leading zero but 0 -/
theorem digs_head (n : Nat) (h : 1 ≤ n) : ∃ c r, digs n = c :: r ∧ 49 ≤ c := by
  refine digs_ind (P := fun n l => 1 ≤ n → ∃ c r, l = c :: r ∧ 49 ≤ c) (fun n _ h => ⟨48 + n, [], rfl, by omega⟩) (fun n h ih _ => ?_) n h
  obtain ⟨c, r, e, q⟩ := ih (by omega)
  rw [e]
  exact ⟨c, r ++ [48 + n % 10], rfl, q⟩
/-- what a list of digits with no leading zero is -/
theorem digs_dval : ∀ (cs : List Nat), (∀ c ∈ cs, 48 ≤ c ∧ c ≤ 57) → cs ≠ [] → (cs.length = 1 ∨ ∃ c r, cs = c :: r ∧ 49 ≤ c) → digs (dval cs) = cs := by
  intro cs
  generalize hn : cs.length = n
  induction n generalizing cs with
  | zero => intro _ h; exact absurd (List.length_eq_zero_iff.mp hn) h
  | succ n ih =>
    intro h hne hh
    have e := List.dropLast_concat_getLast hne
    generalize cs.dropLast = ini at e
    generalize cs.getLast hne = c at e
    subst e
    have hc : 48 ≤ c ∧ c ≤ 57 := h c (by simp)
    have hl : ini.length = n := by simpa using hn
    rw [dval_snoc]
    cases ini with
    | nil =>
      simp [dval]
      rw [digs_lt (by omega)]
      congr 1; omega
    | cons d r =>
      have hd : 49 ≤ d := by
        rcases hh with hh | ⟨c0, r0, e0, q⟩
        · simp at hl; omega
        · simp at e0; omega
      have hi := ih (d :: r) hl (fun c m => h c (List.mem_append_left _ m)) (by simp) (.inr ⟨d, r, rfl, hd⟩)
      have hp : 1 ≤ dval (d :: r) := by
        have : ∀ (cs : List Nat) (a : Nat), a ≤ cs.foldl (fun acc c => acc * 10 + (c - 48)) a := by
          intro cs
          induction cs with
          | nil => intro a; exact Nat.le_refl _
          | cons c cs ih => intro a; exact Nat.le_trans (show a ≤ a * 10 + (c - 48) by omega) (ih _)
        have := this r (0 * 10 + (d - 48))
        show 1 ≤ r.foldl _ (0 * 10 + (d - 48))
        omega
      rw [digs_ge (by omega), show (dval (d :: r) * 10 + (c - 48)) / 10 = dval (d :: r) by omega, hi]
      congr 2; omega
def decS (i : Int) : List Nat := if i < 0 then 45 :: digs i.natAbs else digs i.natAbs
theorem str_ext {x y : Str} (h : x.cps.toList = y.cps.toList) : x = y := by
  cases x; cases y
  congr 1
  exact Array.ext' h
theorem ofStr_cps (s : String) : (Str.ofString s).cps.toList = s.toList.map Char.toNat := by
  rw [Str.ofString_eq_toList]
theorem dec_cps (i : Int) : (Str.ofString (toString i)).cps.toList = decS i := by
  rw [ofStr_cps]
  cases i with
  | ofNat n =>
    have h : ¬ (Int.ofNat n < 0) := by simp
    unfold decS
    rw [if_neg h]
    show (Nat.repr n).toList.map Char.toNat = _
    unfold Nat.repr digs
    simp
  | negSucc n =>
    have h : Int.negSucc n < 0 := Int.negSucc_lt_zero n
    unfold decS
    rw [if_pos h]
    show ("-" ++ Nat.repr (n + 1)).toList.map Char.toNat = _
    unfold Nat.repr digs
    simp [Int.natAbs_negSucc]
theorem decS_len {i : Int} {k : Nat} (h : i.natAbs < 10 ^ (k + 1)) : (decS i).length ≤ k + 2 := by
  have := digs_len k _ h
  unfold decS
  split <;> simp <;> omega
/-! ### texts of payloads -/
mutual
def txtL : L3.D → List Nat
  | .tup ds => 40 :: (txtJ ds ++ [41])
  | .int i => decS i
  | .str k => k.cps.toList
  | _ => []
def txtJ : List L3.D → List Nat
  | [] => []
  | d :: ds => txtL d ++ txtLs ds
def txtLs : List L3.D → List Nat
  | [] => []
  | d :: ds => 32 :: (txtL d ++ txtLs ds)
end
def txt (d : L3.D) : Str := ⟨(txtL d).toArray⟩
theorem txt_cps (d : L3.D) : (txt d).cps.toList = txtL d := rfl
theorem txt_len (d : L3.D) : (txt d).length = (txtL d).length := by
  unfold Str.length txt
  simp
theorem len_cps (x : Str) : x.length = x.cps.toList.length := by
  unfold Str.length
  simp
theorem txtLs_map : ∀ ds : List L3.D, txtLs ds = (ds.map fun d => 32 :: txtL d).flatten
  | [] => rfl
  | d :: ds => by simp only [txtLs, List.map_cons, List.flatten_cons, txtLs_map ds, List.cons_append]
theorem join_sp (a : Str) : ∀ ks : List Str, (Txt.join (Str.ofString " ") (a :: ks)).cps.toList = a.cps.toList ++ (ks.map fun k => 32 :: k.cps.toList).flatten := by
  intro ks
  show (Builtin.Str.glued (Str.ofString " ") (a :: ks)).cps.toList = _
  rw [StrLaws.glued_eq_join]
  have sp : (Str.ofString " ").cps.toList = [32] := by decide +kernel
  induction ks generalizing a with
  | nil => simp [Str.join]
  | cons b ks ih =>
    have e : Str.join (Str.ofString " ") (a :: b :: ks) = a ++ Str.ofString " " ++ Str.join (Str.ofString " ") (b :: ks) := rfl
    rw [e, List.map_cons, List.flatten_cons]
    show (a.cps ++ (Str.ofString " ").cps ++ (Str.join (Str.ofString " ") (b :: ks)).cps).toList = _
    rw [Array.toList_append, Array.toList_append, ih, sp]
    simp
theorem item_kind {c d : L3.D} {n : Nat} {s : Str} (h : itemD c (payD c n) s d = true) : (∃ i : Int, d = .int i ∧ -1000000 ≤ i ∧ i ≤ 1000000) ∨ payD c n d = true := by
  unfold itemD at h
  by_cases c1 : s = "cell"
  · rw [if_pos c1] at h
    obtain ⟨i, e, a, b⟩ := isIntD_some h
    exact .inl ⟨i, e, by omega, by omega⟩
  rw [if_neg c1] at h
  by_cases c2 : s = "value"
  · rw [if_pos c2] at h
    obtain ⟨i, e, a, b⟩ := isIntD_some h
    exact .inl ⟨i, e, by omega, by omega⟩
  rw [if_neg c2] at h
  by_cases c3 : s = "process"
  · rw [if_pos c3] at h
    obtain ⟨m, i, _, e, m1, m2, a, b⟩ := isProc_some h
    exact .inl ⟨i, e, by omega, by omega⟩
  rw [if_neg c3] at h
  exact .inr h
theorem allIn_all {f : Str → L3.D → Bool} : ∀ {ps : List Str} {ds : List L3.D}, ds.length = ps.length → allIn f ps ds = true → ∀ d ∈ ds, ∃ s ∈ ps, f s d = true
  | _, [], _, _, d, m => by cases m
  | [], _ :: _, h, _, _, _ => by simp at h
  | p :: ps, e :: ds, hl, h, d, m => by
    simp only [allIn, Bool.and_eq_true] at h
    rcases List.mem_cons.mp m with rfl | m
    · exact ⟨p, by simp, h.1⟩
    · obtain ⟨s, hs, hf⟩ := allIn_all (by simpa using hl) h.2 d m
      exact ⟨s, by simp [hs], hf⟩
theorem shapes_sm {k : Str} {ps : List Str} (h : shapes.lookup k = some ps) : ps.length ≤ 3 ∧ k.length ≤ 4 ∧ 1 ≤ ps.length := by
  have m := lookup_mem h
  have : ∀ p ∈ shapes, p.2.length ≤ 3 ∧ p.1.length ≤ 4 ∧ 1 ≤ p.2.length := by
    unfold shapes
    intro p hp
    simp at hp
    rcases hp with rfl | rfl | rfl | rfl | rfl | rfl | rfl <;> decide +kernel
  exact this _ m
theorem pay_items {c d : L3.D} {n : Nat} (h : payD c (n + 1) d = true) : ∃ (k : Str) (ds : List L3.D) (ps : List Str), d = .tup (.str k :: ds) ∧ shapes.lookup k = some ps ∧ ds.length = ps.length ∧ allIn (itemD c (payD c n)) ps ds = true ∧
    ∀ e ∈ ds, (∃ i : Int, e = .int i ∧ -1000000 ≤ i ∧ i ≤ 1000000) ∨ payD c n e = true := by
  unfold payD at h
  split at h
  · rename_i k ds
    split at h
    · rename_i ps e
      rw [Bool.and_eq_true, decide_eq_true_eq] at h
      refine ⟨k, ds, ps, rfl, e, h.1, h.2, fun x m => ?_⟩
      obtain ⟨s, _, hs⟩ := allIn_all h.1 h.2 x m
      exact item_kind hs
    · cases h
  · cases h
theorem txtLs_len {B : Nat} : ∀ {ds : List L3.D}, (∀ d ∈ ds, (txtL d).length ≤ B) → (txtLs ds).length ≤ ds.length * (B + 1)
  | [], _ => by simp [txtLs]
  | d :: ds, h => by
    have := txtLs_len (ds := ds) fun e m => h e (by simp [m])
    have := h d (by simp)
    simp only [txtLs, List.length_cons, List.length_append, Nat.add_mul]
    omega
theorem txt_bound {c : L3.D} : ∀ (n : Nat) (d : L3.D), payD c n d = true → (txtL d).length ≤ 20 * 4 ^ n
  | 0, d, h => by cases h
  | n + 1, d, h => by
    obtain ⟨k, ds, ps, rfl, e, hl, _, hi⟩ := pay_items h
    obtain ⟨s1, s2, _⟩ := shapes_sm e
    have hp : 1 ≤ 4 ^ n := Nat.one_le_pow _ _ (by decide)
    have hb : ∀ x ∈ ds, (txtL x).length ≤ 20 * 4 ^ n := fun x m => by
      rcases hi x m with ⟨i, rfl, a, b⟩ | q
      · have := decS_len (i := i) (k := 6) (by omega)
        simp only [txtL]; omega
      · exact txt_bound n x q
    have := txtLs_len hb
    have h3 : ds.length * (20 * 4 ^ n + 1) ≤ 3 * (20 * 4 ^ n + 1) := Nat.mul_le_mul_right _ (by omega)
    have kl := len_cps k
    simp only [txtL, txtJ, List.length_cons, List.length_append, List.length_nil, Nat.pow_succ]
    omega
theorem More.set {S S' : Store} (h : More S S') {q : Nat} (hq : S.length ≤ q) (o : O) : More S (S'.set q o) := fun m u e => by
  have hm := (List.getElem?_eq_some_iff.mp e).1
  rw [List.getElem?_set_ne (by omega)]
  exact h m u e
theorem neq_self {L n : Nat} {v : L3.D} (h : Gd L S n v) (hn : n ≤ 30) (ht : ∃ xs, v = .tup xs) : neD v v S = some (.bl false, S) := by
  obtain ⟨xs, rfl⟩ := ht
  obtain ⟨q, e, l⟩ := pyS_lay h hn
  unfold neD eqO
  simp only [flatEq, e, l.shaped (by omega), Bool.and_self, if_true, PySem.SeqAt.eqv_refl q l.1]
  rfl
end L3
set_option Elab.async false
set_option linter.all false
set_option maxRecDepth 100000
set_option maxHeartbeats 1000000
namespace L3
open PySem PySem.Spec PyProof.Rows L2
variable {S : Store} {P : L3.D → Store → Prop}
/-! ### integers as words -/
theorem starts_minus (l : List Nat) : Txt.startswith (⟨l.toArray⟩ : Str) "-" = (l.head? == some 45) := by
  cases l with
  | nil => rfl
  | cons a l =>
    have e1 : ("-" : Str) = ⟨#[45]⟩ := by decide +kernel
    rw [e1]
    unfold Txt.startswith Builtin.Str.subAt
    simp [Str.length]
def digL (l : List Nat) : Bool := l.all fun c => decide (48 ≤ c) && decide (c ≤ 57)
def unsign (l : List Nat) : List Nat := if (l.head? == some 45) = true then l.tail else l
/-- the number that a word writes -/
def intOf (l : List Nat) : Option Int :=
  if unsign l = [] ∨ 13 < (unsign l).length ∨ digL (unsign l) = false then none
  else if (unsign l).head? = some 48 ∧ l ≠ [48] then none
  else some (if (l.head? == some 45) = true then -((NumText.digitsVal (unsign l) : Nat) : Int) else ((NumText.digitsVal (unsign l) : Nat) : Int))
def intV : Option Int → L3.D
  | none => .non
  | some i => .int i
theorem ten_digits {c : Nat} : c ∈ ("0123456789" : Str).cps.toList ↔ (decide (48 ≤ c) && decide (c ≤ 57)) = true := by
  have e : ("0123456789" : Str).cps.toList = [48, 49, 50, 51, 52, 53, 54, 55, 56, 57] := by decide +kernel
  rw [e]
  simp
  omega
theorem dval_eq (cs : List Nat) : dval cs = NumText.digitsVal cs := rfl
theorem digs_digL (n : Nat) : digL (digs n) = true := by
  unfold digL
  rw [List.all_eq_true]
  intro c m
  have := digs_all n c m
  simp [this.1, this.2]
theorem unsign_le (l : List Nat) : (unsign l).length ≤ l.length := by
  unfold unsign
  split
  · rw [List.length_tail]; omega
  · exact Nat.le_refl _
theorem intOf_dec (i : Int) (h : i.natAbs < 10000000000000) : intOf (decS i) = some i := by
  have hl := digs_len 12 i.natAbs (by simpa using h)
  have hne := digs_ne i.natAbs
  have hu : unsign (decS i) = digs i.natAbs := by
    unfold unsign decS
    by_cases c : i < 0
    · rw [if_pos c]; simp
    · rw [if_neg c]
      cases e : digs i.natAbs with
      | nil => exact absurd e hne
      | cons a r =>
        have := digs_all i.natAbs a (by rw [e]; simp)
        rw [if_neg]
        simp; omega
  have hd := digs_digL i.natAbs
  have hv := digs_val i.natAbs
  have h0 : ¬ ((digs i.natAbs).head? = some 48 ∧ decS i ≠ [48]) := by
    rintro ⟨a, b⟩
    by_cases z : i.natAbs = 0
    · have : i = 0 := by omega
      subst this
      exact b (by decide)
    · obtain ⟨c, r, e, q⟩ := digs_head i.natAbs (by omega)
      rw [e] at a
      simp at a
      omega
  unfold intOf
  rw [hu, if_neg (by
    rintro (q | q | q)
    · exact hne q
    · omega
    · rw [hd] at q; cases q), if_neg h0]
  congr 1
  have hv' : NumText.digitsVal (digs i.natAbs) = i.natAbs := hv
  rw [hv']
  unfold decS
  by_cases c : i < 0
  · rw [if_pos c]; simp; omega
  · rw [if_neg c]
    cases e : digs i.natAbs with
    | nil => exact absurd e hne
    | cons a r =>
      have := digs_all i.natAbs a (by rw [e]; simp)
      rw [if_neg (by simp; omega)]
      omega

/-! ### reading -/
def brk (c : Nat) : Bool := c == 32 || c == 40 || c == 41
def wordL (cs : List Nat) : List Nat := cs.takeWhile fun c => !brk c
def restL (cs : List Nat) : List Nat := cs.dropWhile fun c => !brk c
theorem word_rest (cs : List Nat) : wordL cs ++ restL cs = cs := List.takeWhile_append_dropWhile
theorem word_take (r : List Nat) : r.take (wordL r).length = wordL r := by
  have := List.take_left (l₁ := wordL r) (l₂ := restL r)
  rwa [word_rest] at this
theorem rest_suf (cs : List Nat) : restL cs <:+ cs := ⟨wordL cs, word_rest cs⟩
def readI (f : List Nat → Option (L3.D × List Nat)) (p : Str) (r : List Nat) : Option (L3.D × List Nat) :=
  if p = "payload" then f r else (intOf (wordL r)).map fun i => (.int i, restL r)
def readIs (f : List Nat → Option (L3.D × List Nat)) : List Str → List Nat → Option (List L3.D × List Nat)
  | [], cs => some ([], cs)
  | p :: ps, cs => match cs with
    | [] => none
    | c :: r => if c = 32 then (readI f p r).bind fun x => (readIs f ps x.2).map fun y => (x.1 :: y.1, y.2) else none
def readD : Nat → List Nat → Option (L3.D × List Nat)
  | 0, _ => none
  | n + 1, cs => match cs with
    | [] => none
    | c :: r => if c = 40 then (shapes.lookup ⟨(wordL r).toArray⟩).bind fun ps => (readIs (readD n) ps (restL r)).bind fun x => match x.2 with
        | [] => none
        | e :: u => if e = 41 then some (.tup (.str ⟨(wordL r).toArray⟩ :: x.1), u) else none
      else none
def pos (l t : List Nat) : Nat := l.length - t.length
theorem pos_succ {l r : List Nat} {c : Nat} (h : (c :: r) <:+ l) : ((pos l (c :: r) : Nat) : Int) + 1 = ((pos l r : Nat) : Int) := by
  have := h.length_le
  unfold pos
  simp at this ⊢
  omega
theorem suf_tail {l r : List Nat} {c : Nat} (h : (c :: r) <:+ l) : r <:+ l := (List.suffix_cons c r).trans h
theorem atI_pos {l r : List Nat} {c : Nat} (h : (c :: r) <:+ l) : atI l ((pos l (c :: r) : Nat) : Int) = some c := by
  obtain ⟨p, rfl⟩ := h
  have e : pos (p ++ c :: r) (c :: r) = p.length := by unfold pos; rw [List.length_append]; omega
  rw [e]
  exact atI_nat (by simp)
theorem cut_suf {l cs : List Nat} (h : cs <:+ l) {a b : Int} {k : Nat} (ha : a = ((pos l cs : Nat) : Int)) (hb : b = a + (k : Int)) : cutS ⟨l.toArray⟩ (some a) (some b) = ⟨(cs.take k).toArray⟩ := by
  obtain ⟨p, rfl⟩ := h
  have e : pos (p ++ cs) cs = p.length := by unfold pos; rw [List.length_append]; omega
  subst hb ha
  rw [e]
  unfold cutS
  have hl : (⟨(p ++ cs).toArray⟩ : Str).length = p.length + cs.length := by unfold Str.length; simp
  have h1 : HT.sIx (p.length + cs.length) 0 (some (p.length : Int)) = p.length := (HT.sIx_nat _ _ _).trans (by omega)
  have h2 : HT.sIx (p.length + cs.length) (p.length + cs.length) (some ((p.length : Int) + (k : Int))) = min (p.length + k) (p.length + cs.length) := by
    rw [show (p.length : Int) + (k : Int) = ((p.length + k : Nat) : Int) by omega]
    exact HT.sIx_nat _ _ _
  rw [hl, h1, h2]
  have h3 : (p ++ cs).drop p.length = cs := by simp
  rw [h3]
  congr 2
  rw [show min (p.length + k) (p.length + cs.length) - p.length = min k cs.length by omega, List.take_eq_take_iff]
  omega
theorem word_cut {l r : List Nat} (hr : r <:+ l) : cutS ⟨l.toArray⟩ (some (pos l r : Nat)) (some (pos l (restL r) : Nat)) = ⟨(wordL r).toArray⟩ := by
  have q := cut_suf (k := (wordL r).length) hr rfl rfl
  have e1 : ((pos l r : Nat) : Int) + ((wordL r).length : Int) = ((pos l (restL r) : Nat) : Int) := by
    have h1 := hr.length_le
    have h2 := congrArg List.length (word_rest r)
    rw [List.length_append] at h2
    unfold pos
    omega
  rw [e1, word_take] at q
  exact q
theorem one_str {cs : List Nat} {c : Nat} : ((⟨(cs.take 1).toArray⟩ : Str) = ⟨#[c]⟩) ↔ cs.head? = some c := by
  cases cs with
  | nil => simp
  | cons a r => simp
theorem str_lp : Str.ofString "(" = ⟨#[40]⟩ := by decide +kernel
theorem str_rp : Str.ofString ")" = ⟨#[41]⟩ := by decide +kernel
theorem str_sp : Str.ofString " " = ⟨#[32]⟩ := by decide +kernel
theorem in_brk {c : Nat} : (c ∈ (Str.ofString " ()").cps.toList) ↔ brk c = true := by
  have e : (Str.ofString " ()").cps.toList = [32, 40, 41] := by decide +kernel
  rw [e]
  simp [brk, or_assoc]
theorem arr_len (l : List Nat) : (⟨l.toArray⟩ : Str).length = l.length := by unfold Str.length; simp
theorem readIs_suf {f : List Nat → Option (L3.D × List Nat)} (hf : ∀ {r d t}, f r = some (d, t) → t <:+ r) : ∀ {ps : List Str} {cs ds t}, readIs f ps cs = some (ds, t) → t <:+ cs
  | [], cs, ds, t, h => by simp [readIs] at h; rw [h.2]; exact List.suffix_refl _
  | p :: ps, cs, ds, t, h => by
    cases cs with
    | nil => simp [readIs] at h
    | cons c r =>
      simp only [readIs] at h
      split at h
      · cases e : readI f p r with
        | none => rw [e] at h; simp at h
        | some x =>
          rw [e] at h
          simp only [Option.bind_some] at h
          cases e2 : readIs f ps x.2 with
          | none => rw [e2] at h; simp at h
          | some y =>
            rw [e2] at h
            simp at h
            obtain ⟨_, rfl⟩ := h
            have h1 := readIs_suf hf e2
            have h2 : x.2 <:+ r := by
              unfold readI at e
              split at e
              · exact hf (d := x.1) e
              · obtain ⟨i, _, rfl⟩ := Option.map_eq_some_iff.mp e
                exact rest_suf r
            exact h1.trans (h2.trans (List.suffix_cons c r))
      · cases h
theorem readD_suf : ∀ {n : Nat} {cs d t}, readD n cs = some (d, t) → t <:+ cs
  | 0, _, _, _, h => by cases h
  | n + 1, cs, d, t, h => by
    cases cs with
    | nil => simp [readD] at h
    | cons c r =>
      simp only [readD] at h
      split at h
      · cases e : shapes.lookup ⟨(wordL r).toArray⟩ with
        | none => rw [e] at h; simp at h
        | some ps =>
          rw [e] at h
          simp only [Option.bind_some] at h
          cases e2 : readIs (readD n) ps (restL r) with
          | none => rw [e2] at h; simp at h
          | some y =>
            rw [e2] at h
            simp only [Option.bind_some] at h
            have h1 := readIs_suf (fun h => readD_suf h) e2
            split at h
            · cases h
            · rename_i z u e3
              split at h
              · simp at h
                obtain ⟨_, rfl⟩ := h
                rw [e3] at h1
                exact (List.suffix_cons z u).trans (h1.trans ((rest_suf r).trans (List.suffix_cons c r)))
              · cases h
      · cases h
theorem shapes_near {k : Str} {ps : List Str} (h : shapes.lookup k = some ps) : near k := by
  have m := lookup_mem h
  have : ∀ p ∈ shapes, p.1.cps.toList.all signOk = true := by
    unfold shapes
    intro p hp
    simp at hp
    rcases hp with rfl | rfl | rfl | rfl | rfl | rfl | rfl <;> decide +kernel
  exact near_of (this _ m)
theorem readIs_all {f : List Nat → Option (L3.D × List Nat)} {Q : L3.D → Prop} (hi : ∀ i : Int, Q (.int i)) (hf : ∀ {r d t}, f r = some (d, t) → Q d) : ∀ {ps : List Str} {cs ds t}, readIs f ps cs = some (ds, t) → ds.length = ps.length ∧ ∀ d ∈ ds, Q d
  | [], cs, ds, t, h => by simp [readIs] at h; obtain ⟨rfl, _⟩ := h; exact ⟨rfl, fun d m => by cases m⟩
  | p :: ps, cs, ds, t, h => by
    cases cs with
    | nil => simp [readIs] at h
    | cons c r =>
      simp only [readIs] at h
      split at h
      · cases e : readI f p r with
        | none => rw [e] at h; simp at h
        | some x =>
          rw [e] at h
          simp only [Option.bind_some] at h
          cases e2 : readIs f ps x.2 with
          | none => rw [e2] at h; simp at h
          | some y =>
            rw [e2] at h
            simp at h
            obtain ⟨rfl, rfl⟩ := h
            obtain ⟨h1, h2⟩ := readIs_all hi hf e2
            refine ⟨by simp [h1], fun d m => ?_⟩
            rcases List.mem_cons.mp m with rfl | m
            · unfold readI at e
              split at e
              · exact hf (t := x.2) e
              · obtain ⟨i, _, rfl⟩ := Option.map_eq_some_iff.mp e
                exact hi i
            · exact h2 d m
      · cases h
theorem readD_inv {n : Nat} {cs t : List Nat} {d : L3.D} (h : readD (n + 1) cs = some (d, t)) : ∃ r ps ds, cs = 40 :: r ∧ shapes.lookup ⟨(wordL r).toArray⟩ = some ps ∧ readIs (readD n) ps (restL r) = some (ds, 41 :: t) ∧ d = .tup (.str ⟨(wordL r).toArray⟩ :: ds) := by
  cases cs with
  | nil => simp [readD] at h
  | cons c r =>
    simp only [readD] at h
    split at h
    · rename_i c40
      cases e : shapes.lookup ⟨(wordL r).toArray⟩ with
      | none => rw [e] at h; simp at h
      | some ps =>
        rw [e] at h
        simp only [Option.bind_some] at h
        cases e2 : readIs (readD n) ps (restL r) with
        | none => rw [e2] at h; simp at h
        | some y =>
          rw [e2] at h
          simp only [Option.bind_some] at h
          split at h
          · cases h
          · rename_i z u e3
            split at h
            · rename_i e41
              simp at h
              obtain ⟨rfl, rfl⟩ := h
              obtain ⟨ds, v⟩ := y
              dsimp only at e3
              exact ⟨r, ps, ds, by rw [c40], e, by rw [e2, e3, e41], rfl⟩
            · cases h
    · cases h
theorem readD_gd : ∀ {n : Nat} {cs t : List Nat} {d : L3.D}, readD n cs = some (d, t) → Gd 4 S n d
  | 0, _, _, _, h => by cases h
  | n + 1, cs, t, d, h => by
    obtain ⟨r, ps, ds, rfl, e, e2, rfl⟩ := readD_inv h
    obtain ⟨p1, p2, _⟩ := shapes_sm e
    obtain ⟨h1, h2⟩ := readIs_all (Q := Gd 4 S n) (fun i => Gd.int) (fun h => readD_gd h) e2
    refine Gd.tup (by simp; omega) fun x m => ?_
    rcases List.mem_cons.mp m with rfl | m
    · exact Gd.str (shapes_near e) (by omega)
    · exact h2 x m
/-! ### a text is read as what it tells -/
theorem word_app {w r : List Nat} {c : Nat} (hw : ∀ x ∈ w, brk x = false) (hc : brk c = true) : wordL (w ++ c :: r) = w ∧ restL (w ++ c :: r) = c :: r := by
  unfold wordL restL
  induction w with
  | nil => simp [hc]
  | cons a w ih =>
    have ha := hw a (by simp)
    obtain ⟨h1, h2⟩ := ih fun x m => hw x (by simp [m])
    simp only [List.cons_append]
    rw [List.takeWhile_cons, List.dropWhile_cons]
    simp [ha, h1, h2]
theorem dec_brk (i : Int) : ∀ x ∈ decS i, brk x = false := by
  have key : ∀ x, 48 ≤ x ∧ x ≤ 57 → brk x = false := fun x h => by
    simp [brk]; omega
  intro x m
  unfold decS at m
  split at m
  · rcases List.mem_cons.mp m with rfl | m
    · decide
    · exact key x (digs_all _ x m)
  · exact key x (digs_all _ x m)
theorem shapes_word {k : Str} {ps : List Str} (h : shapes.lookup k = some ps) : (∀ x ∈ k.cps.toList, brk x = false) ∧ ∀ p ∈ ps, p = "cell" ∨ p = "value" ∨ p = "process" ∨ p = "payload" := by
  have m := lookup_mem h
  have : ∀ p ∈ shapes, (p.1.cps.toList.all fun x => !brk x) = true ∧ ∀ q ∈ p.2, q = Str.ofString "cell" ∨ q = "value" ∨ q = "process" ∨ q = "payload" := by
    unfold shapes
    intro p hp
    simp at hp
    rcases hp with rfl | rfl | rfl | rfl | rfl | rfl | rfl <;> refine ⟨by decide +kernel, fun q m => ?_⟩ <;> simp at m <;> first | (rcases m with rfl | rfl | rfl <;> simp; done) | (rcases m with rfl | rfl <;> simp; done) | (subst m; simp; done)
  obtain ⟨h1, h2⟩ := this _ m
  refine ⟨fun x m => ?_, h2⟩
  have := List.all_eq_true.mp h1 x m
  simpa using this
theorem item_pay {c d : L3.D} {n : Nat} {p : Str} (hp : p = "cell" ∨ p = "value" ∨ p = "process" ∨ p = "payload") (h : itemD c (payD c n) p d = true) : (p ≠ "payload" ∧ ∃ i : Int, d = .int i ∧ -1000000 ≤ i ∧ i ≤ 1000000) ∨ (p = "payload" ∧ payD c n d = true) := by
  have e1 : (Str.ofString "cell") ≠ Str.ofString "payload" := by simp
  have e2 : (Str.ofString "value") ≠ Str.ofString "payload" := by simp
  have e3 : (Str.ofString "process") ≠ Str.ofString "payload" := by simp
  rcases hp with rfl | rfl | rfl | rfl
  · refine .inl ⟨e1, ?_⟩
    unfold itemD at h
    rw [if_pos rfl] at h
    obtain ⟨i, e, a, b⟩ := isIntD_some h
    exact ⟨i, e, by omega, by omega⟩
  · refine .inl ⟨e2, ?_⟩
    unfold itemD at h
    rw [if_neg (by simp), if_pos rfl] at h
    obtain ⟨i, e, a, b⟩ := isIntD_some h
    exact ⟨i, e, by omega, by omega⟩
  · refine .inl ⟨e3, ?_⟩
    unfold itemD at h
    rw [if_neg (by simp), if_neg (by simp), if_pos rfl] at h
    obtain ⟨m, i, _, e, m1, m2, a, b⟩ := isProc_some h
    exact ⟨i, e, by omega, by omega⟩
  · refine .inr ⟨rfl, ?_⟩
    unfold itemD at h
    rw [if_neg (by simp), if_neg (by simp), if_neg (by simp)] at h
    exact h
theorem readIs_txt {c : L3.D} {n : Nat} (ih : ∀ (d : L3.D) (t : List Nat), payD c n d = true → readD n (txtL d ++ t) = some (d, t)) : ∀ {ps : List Str} {ds : List L3.D} (t : List Nat), (∀ p ∈ ps, p = "cell" ∨ p = "value" ∨ p = "process" ∨ p = "payload") → ds.length = ps.length → allIn (itemD c (payD c n)) ps ds = true → readIs (readD n) ps (txtLs ds ++ 41 :: t) = some (ds, 41 :: t)
  | [], [], t, _, _, _ => by simp [readIs, txtLs]
  | [], _ :: _, t, _, h, _ => by simp at h
  | _ :: _, [], t, _, h, _ => by simp at h
  | p :: ps, d :: ds, t, hp, hl, h => by
    simp only [allIn, Bool.and_eq_true] at h
    have e : txtLs (d :: ds) ++ 41 :: t = 32 :: (txtL d ++ (txtLs ds ++ 41 :: t)) := by simp [txtLs]
    have hrec := readIs_txt ih (ps := ps) (ds := ds) t (fun q m => hp q (by simp [m])) (by simpa using hl) h.2
    have hb : ∃ z w, txtLs ds ++ 41 :: t = z :: w ∧ brk z = true := by
      cases ds with
      | nil => exact ⟨41, t, rfl, by decide⟩
      | cons y ys => exact ⟨32, txtL y ++ txtLs ys ++ 41 :: t, by simp [txtLs], by decide⟩
    rw [e]
    simp only [readIs, if_true]
    have hi : readI (readD n) p (txtL d ++ (txtLs ds ++ 41 :: t)) = some (d, txtLs ds ++ 41 :: t) := by
      rcases item_pay (hp p (by simp)) h.1 with ⟨q, i, rfl, a, b⟩ | ⟨rfl, q⟩
      · obtain ⟨z, w, ez, hz⟩ := hb
        obtain ⟨w1, w2⟩ := word_app (r := w) (dec_brk i) hz
        unfold readI
        rw [if_neg q, ez]
        simp only [txtL]
        rw [w1, w2, intOf_dec i (by omega)]
        rfl
      · unfold readI
        rw [if_pos rfl]
        exact ih d _ q
    rw [hi]
    simp only [Option.bind_some]
    rw [hrec]
    rfl
theorem read_txt {c : L3.D} : ∀ (n : Nat) (d : L3.D) (t : List Nat), payD c n d = true → readD n (txtL d ++ t) = some (d, t)
  | 0, d, t, h => by cases h
  | n + 1, d, t, h => by
    obtain ⟨k, ds, ps, rfl, e, hl, ha, _⟩ := pay_items h
    obtain ⟨s1, s2, s3⟩ := shapes_sm e
    obtain ⟨hw, hp⟩ := shapes_word e
    obtain ⟨d0, ds0, rfl⟩ : ∃ a b, ds = a :: b := by
      cases ds with
      | nil => simp at hl; omega
      | cons a b => exact ⟨a, b, rfl⟩
    have e1 : txtL (.tup (.str k :: d0 :: ds0)) ++ t = 40 :: (k.cps.toList ++ (txtLs (d0 :: ds0) ++ 41 :: t)) := by simp [txtL, txtJ]
    have e2 : txtLs (d0 :: ds0) ++ 41 :: t = 32 :: (txtL d0 ++ txtLs ds0 ++ 41 :: t) := by simp [txtLs]
    obtain ⟨w1, w2⟩ := word_app (r := txtL d0 ++ txtLs ds0 ++ 41 :: t) hw (c := 32) (by decide)
    rw [← e2] at w1 w2
    have hk : (⟨k.cps.toList.toArray⟩ : Str) = k := by cases k; simp
    have := readIs_txt (c := c) (n := n) (fun d t h => read_txt n d t h) (ps := ps) (ds := d0 :: ds0) t hp hl ha
    rw [e1]
    simp [readD, w1, w2, hk, e, this]
theorem txt_inj {c c' d e : L3.D} {n m : Nat} {t : List Nat} (h : payD c n d = true) (g : payD c' m e = true) (hnm : n = m) (q : txtL e = txtL d ++ t) : e = d ∧ t = [] := by
  subst hnm
  have a := read_txt n e [] g
  have b := read_txt n d t h
  rw [List.append_nil, q, b] at a
  cases a
  exact ⟨rfl, rfl⟩
theorem txt_sign {c : L3.D} : ∀ (n : Nat) (d : L3.D), payD c n d = true → ∀ x ∈ txtL d, signOk x = true
  | 0, d, h => by cases h
  | n + 1, d, h => by
    obtain ⟨k, ds, ps, rfl, e, hl, ha, hi⟩ := pay_items h
    have hk := shapes_near e
    have hk2 : ∀ x ∈ k.cps.toList, signOk x = true := by
      have m := lookup_mem e
      have : ∀ p ∈ shapes, p.1.cps.toList.all signOk = true := by
        unfold shapes
        intro p hp
        simp at hp
        rcases hp with rfl | rfl | rfl | rfl | rfl | rfl | rfl <;> decide +kernel
      exact fun x mx => List.all_eq_true.mp (this _ m) x mx
    have hd : ∀ y ∈ ds, ∀ x ∈ txtL y, signOk x = true := fun y my x mx => by
      rcases hi y my with ⟨i, rfl, _⟩ | q
      · simp only [txtL] at mx
        unfold decS at mx
        have key : ∀ x, 48 ≤ x ∧ x ≤ 57 → signOk x = true := fun x h => by simp [signOk]; omega
        split at mx
        · rcases List.mem_cons.mp mx with rfl | mx
          · decide
          · exact key x (digs_all _ x mx)
        · exact key x (digs_all _ x mx)
      · exact txt_sign n y q x mx
    intro x mx
    simp only [txtL, txtJ] at mx
    rcases List.mem_cons.mp mx with rfl | mx
    · decide
    rcases List.mem_append.mp mx with mx | mx
    · rcases List.mem_append.mp mx with mx | mx
      · exact hk2 x mx
      · rw [txtLs_map] at mx
        obtain ⟨l, hl, hx⟩ := List.mem_flatten.mp mx
        obtain ⟨y, my, rfl⟩ := List.mem_map.mp hl
        rcases List.mem_cons.mp hx with rfl | hx
        · decide
        · exact hd y my x hx
    · rw [List.mem_singleton.mp mx]; decide
theorem txt_print {c d : L3.D} {n : Nat} (h : payD c n d = true) : printD (.str (txt d)) = true := by
  show (txt d).cps.toList.all signOk = true
  rw [txt_cps, List.all_eq_true]
  exact txt_sign n d h
/-- payloads and the like: ints, texts, tuples -/
def Pl : Nat → L3.D → Prop
  | _, .int _ => True
  | _, .str _ => True
  | n + 1, .tup xs => xs.length ≤ 1000 ∧ ∀ x ∈ xs, Pl n x
  | _, _ => False
theorem Pl.int {n : Nat} {i : Int} : Pl n (.int i) := by cases n <;> trivial
theorem Pl.str {n : Nat} {i : Str} : Pl n (.str i) := by cases n <;> trivial
theorem pay_pl {c : L3.D} : ∀ (n : Nat) (d : L3.D), payD c n d = true → Pl n d
  | 0, d, h => by cases h
  | n + 1, d, h => by
    obtain ⟨k, ds, ps, rfl, e, hl, ha, hi⟩ := pay_items h
    obtain ⟨s1, s2, s3⟩ := shapes_sm e
    refine ⟨by simp; omega, fun x m => ?_⟩
    rcases List.mem_cons.mp m with rfl | m
    · exact Pl.str
    · rcases hi x m with ⟨i, rfl, _⟩ | q
      · exact Pl.int
      · exact pay_pl n x q
/-- a greater group has the payload, too -/
theorem pay_mono {a b : Int} (hab : a ≤ b) (hb : b ≤ 10) : ∀ (n : Nat) (d : L3.D), payD (.int a) n d = true → payD (.int b) n d = true
  | 0, d, h => by cases h
  | n + 1, d, h => by
    obtain ⟨k, ds, ps, rfl, e, hl, ha, hi⟩ := pay_items h
    rw [payD_tup, e]
    simp only [hl, decide_true, Bool.true_and]
    clear e hl hi h
    induction ps generalizing ds with
    | nil => cases ds <;> rfl
    | cons p ps ih =>
      cases ds with
      | nil => rfl
      | cons d ds =>
        simp only [allIn, Bool.and_eq_true] at ha ⊢
        refine ⟨?_, ih ds ha.2⟩
        have h := ha.1
        unfold itemD at h ⊢
        by_cases c1 : p = "cell"
        · rw [if_pos c1] at h ⊢; exact h
        rw [if_neg c1] at h ⊢
        by_cases c2 : p = "value"
        · rw [if_pos c2] at h ⊢; exact h
        rw [if_neg c2] at h ⊢
        by_cases c3 : p = "process"
        · rw [if_pos c3] at h ⊢
          obtain ⟨m, i, em, rfl, m1, m2, i1, i2⟩ := isProc_some h
          cases em
          have q1 : isIntD (.int b) 1 10 = true := by simp [isIntD]; omega
          have q2 : isIntD (.int i) 0 (b - 1) = true := by simp [isIntD]; omega
          simp only [isProcD, q1, q2, Bool.and_self]
        rw [if_neg c3] at h ⊢
        exact pay_mono hab hb n d h
theorem allIn_mono {f g : Str → L3.D → Bool} (h : ∀ p d, f p d = true → g p d = true) : ∀ {ps : List Str} {ds : List L3.D}, allIn f ps ds = true → allIn g ps ds = true
  | [], [], _ => rfl
  | [], _ :: _, _ => rfl
  | _ :: _, [], _ => rfl
  | p :: ps, d :: ds, q => by
    simp only [allIn, Bool.and_eq_true] at q ⊢
    exact ⟨h p d q.1, allIn_mono h q.2⟩
theorem itemD_mono {c : L3.D} {f g : L3.D → Bool} (h : ∀ d, f d = true → g d = true) (p : Str) (d : L3.D) (q : itemD c f p d = true) : itemD c g p d = true := by
  unfold itemD at q ⊢
  by_cases c1 : p = "cell"
  · rw [if_pos c1] at q ⊢; exact q
  rw [if_neg c1] at q ⊢
  by_cases c2 : p = "value"
  · rw [if_pos c2] at q ⊢; exact q
  rw [if_neg c2] at q ⊢
  by_cases c3 : p = "process"
  · rw [if_pos c3] at q ⊢; exact q
  rw [if_neg c3] at q ⊢
  exact h d q
/-- a payload may stand less deep -/
theorem pay_up {c : L3.D} : ∀ {n m : Nat} {d : L3.D}, n ≤ m → payD c n d = true → payD c m d = true
  | 0, _, _, _, h => by cases h
  | n + 1, m, d, hm, h => by
    obtain ⟨m, rfl⟩ : ∃ k, m = k + 1 := ⟨m - 1, by omega⟩
    obtain ⟨k, ds, ps, rfl, e, hl, ha, hi⟩ := pay_items h
    rw [payD_tup, e]
    simp only [hl, decide_true, Bool.true_and]
    exact allIn_mono (itemD_mono fun d q => pay_up (by omega) q) ha
theorem More.bg {S S' : Store} {p : Nat} (m : More S S') (h : Bg S p) : Bg S' p := by
  obtain ⟨a, b, c, e⟩ := h
  exact ⟨a, b, c, m.lst e⟩
theorem More.nx {S S' : Store} {p : Nat} (m : More S S') (h : Bg S p) : Nx p S S' := ⟨m.bg h, fun n o _ q => m n o q⟩
theorem starts_some {x y : Str} (h : Txt.startswith x y = true) : ∃ t, x.cps.toList = y.cps.toList ++ t := by
  unfold Txt.startswith Builtin.Str.subAt at h
  rw [Bool.and_eq_true] at h
  have e := eq_of_beq h.2
  refine ⟨x.cps.toList.drop y.length, ?_⟩
  rw [← e]
  simp
end L3
set_option Elab.async false
set_option linter.all false
set_option maxRecDepth 100000
set_option maxHeartbeats 1000000
namespace L3
open PySem PySem.Spec PyProof.Rows L2
variable {S : Store} {P : L3.D → Store → Prop}
/-! ### slices by naturals -/
theorem cutD_to {xs : List L3.D} {a : Nat} : L3.cutD xs none (some (a : Int)) = xs.take a := by
  unfold L3.cutD
  rw [HT.sIx_nat, HT.sIx_none, Nat.sub_zero, List.drop_zero, List.take_eq_take_iff]
  omega
theorem cutD_from {xs : List L3.D} {a : Nat} : L3.cutD xs (some (a : Int)) none = xs.drop a := by
  unfold L3.cutD
  rw [HT.sIx_nat, HT.sIx_none]
  by_cases h : a ≤ xs.length
  · rw [Nat.min_eq_left h, ← List.length_drop, List.take_length]
  · rw [Nat.min_eq_right (by omega), List.drop_length, List.drop_eq_nil_of_le (by omega)]; simp
theorem set_cut {xs : List L3.D} {a : Nat} {v : L3.D} (h : a < xs.length) : xs.take a ++ [v] ++ xs.drop (a + 1) = xs.set a v := by
  rw [List.set_eq_take_append_cons_drop, if_pos h]
  simp
/-! ### a way into a payload -/
def isTup : L3.D → Bool
  | .tup _ => true
  | _ => false
/-- w leads from the payload d to the payload e -/
def Way (c : L3.D) : Nat → L3.D → List Nat → L3.D → Prop
  | n, d, [], e => payD c n d = true ∧ d = e
  | n + 1, d, a :: w, e => payD c (n + 1) d = true ∧ ∃ xs x, d = .tup xs ∧ 1 ≤ a ∧ xs[a]? = some x ∧ Way c n x w e
  | 0, _, _ :: _, _ => False
def withD : L3.D → List Nat → L3.D → L3.D
  | _, [], o => o
  | .tup xs, a :: w, o => .tup (xs.set a (withD (xs.getD a .non) w o))
  | d, _ :: _, _ => d
theorem Way.pay {c : L3.D} : ∀ {n : Nat} {d : L3.D} {w : List Nat} {e : L3.D}, Way c n d w e → payD c n d = true
  | n, d, [], e, h => by cases n <;> exact h.1
  | n + 1, d, a :: w, e, h => h.1
  | 0, _, _ :: _, _, h => h.elim
theorem Way.len {c : L3.D} : ∀ {n : Nat} {d : L3.D} {w : List Nat} {e : L3.D}, Way c n d w e → w.length + 1 ≤ n
  | 0, d, [], e, h => by cases h.1
  | n + 1, d, [], e, h => by simp
  | n + 1, d, a :: w, e, h => by
    obtain ⟨_, xs, x, _, _, _, hw⟩ := h
    have := hw.len
    simp; omega
  | 0, _, _ :: _, _, h => h.elim
theorem Way.last {c : L3.D} : ∀ {n : Nat} {d : L3.D} {w : List Nat} {e : L3.D}, Way c n d w e → payD c (n - w.length) e = true
  | n, d, [], e, h => by
    have : payD c n d = true ∧ d = e := by cases n <;> exact h
    obtain ⟨h1, rfl⟩ := this
    simpa using h1
  | n + 1, d, a :: w, e, h => by
    obtain ⟨_, xs, x, _, _, _, hw⟩ := h
    have := hw.last
    simpa using this
  | 0, _, _ :: _, _, h => h.elim
/-- one step more -/
theorem Way.snoc {c : L3.D} : ∀ {n : Nat} {d : L3.D} {w : List Nat} {xs : List L3.D} {a : Nat} {x : L3.D}, Way c n d w (.tup xs) → 1 ≤ a → xs[a]? = some x → isTup x = true → Way c n d (w ++ [a]) x
  | n, d, [], xs, a, x, h, ha, hx, ht => by
    have h' : payD c n d = true ∧ d = .tup xs := by cases n <;> exact h
    obtain ⟨h1, rfl⟩ := h'
    cases n with
    | zero => cases h1
    | succ n =>
      refine ⟨h1, xs, x, rfl, ha, hx, ?_⟩
      obtain ⟨k, ds, ps, e, _, _, _, hi⟩ := pay_items h1
      cases e
      obtain ⟨a, rfl⟩ : ∃ b, a = b + 1 := ⟨a - 1, by omega⟩
      have m : x ∈ ds := List.mem_of_getElem? (by simpa using hx)
      have : payD c n x = true := by
        rcases hi x m with ⟨i, rfl, _⟩ | q
        · cases ht
        · exact q
      cases n <;> exact ⟨this, rfl⟩
  | n + 1, d, b :: w, xs, a, x, h, ha, hx, ht => by
    obtain ⟨h1, ys, y, e, hb, hy, hw⟩ := h
    exact ⟨h1, ys, y, e, hb, hy, hw.snoc ha hx ht⟩
  | 0, _, _ :: _, _, _, _, h, _, _, _ => h.elim
theorem allIn_set {f : Str → L3.D → Bool} {v : L3.D} : ∀ {ps : List Str} {ds : List L3.D} {i : Nat}, allIn f ps ds = true → (∀ p, ps[i]? = some p → f p v = true) → allIn f ps (ds.set i v) = true
  | [], [], _, _, _ => rfl
  | [], _ :: _, i, _, _ => by cases i <;> rfl
  | _ :: _, [], _, _, _ => rfl
  | p :: ps, d :: ds, 0, h, g => by
    simp only [allIn, Bool.and_eq_true, List.set_cons_zero] at h ⊢
    exact ⟨g p (by simp), h.2⟩
  | p :: ps, d :: ds, i + 1, h, g => by
    simp only [allIn, Bool.and_eq_true, List.set_cons_succ] at h ⊢
    exact ⟨h.1, allIn_set h.2 fun q hq => g q (by simpa using hq)⟩
theorem allIn_get {f : Str → L3.D → Bool} : ∀ {ps : List Str} {ds : List L3.D} {i : Nat} {p : Str} {d : L3.D}, allIn f ps ds = true → ps[i]? = some p → ds[i]? = some d → f p d = true
  | [], _, _, _, _, _, h, _ => by simp at h
  | _ :: _, [], _, _, _, _, _, h => by simp at h
  | p :: ps, d :: ds, 0, q, e, h, h1, h2 => by
    simp at h1 h2
    subst h1 h2
    simp only [allIn, Bool.and_eq_true] at h
    exact h.1
  | p :: ps, d :: ds, i + 1, q, e, h, h1, h2 => by
    simp only [allIn, Bool.and_eq_true] at h
    exact allIn_get h.2 (by simpa using h1) (by simpa using h2)
/-- a payload with another one in a payload's place -/
theorem pay_set_in {c : L3.D} {n : Nat} {k : Str} {ds : List L3.D} {i : Nat} {x v : L3.D} (h : payD c (n + 1) (.tup (.str k :: ds)) = true) (hi : ds[i]? = some x) (hx : isTup x = true) (hv : payD c n v = true) : payD c (n + 1) (.tup (.str k :: ds.set i v)) = true := by
  obtain ⟨k', ds', ps, e, el, hl, ha, _⟩ := pay_items h
  cases e
  rw [payD_tup, el]
  simp only [List.length_set, hl, decide_true, Bool.true_and]
  refine allIn_set ha fun p hp => ?_
  have q := allIn_get ha hp hi
  rcases item_pay ((shapes_word el).2 p (List.mem_of_getElem? hp)) q with ⟨_, j, rfl, _⟩ | ⟨rfl, _⟩
  · cases hx
  · unfold itemD
    rw [if_neg (by simp), if_neg (by simp), if_neg (by simp)]
    exact hv
theorem pay_isTup {c d : L3.D} {n : Nat} (h : payD c n d = true) : isTup d = true := by
  cases n with
  | zero => cases h
  | succ n => obtain ⟨k, ds, _, rfl, _⟩ := pay_items h; rfl
theorem with_pay {c : L3.D} : ∀ {n : Nat} {d : L3.D} {w : List Nat} {e o : L3.D}, Way c n d w e → payD c (n - w.length) o = true → payD c n (withD d w o) = true
  | n, d, [], e, o, h, g => by simpa [withD] using g
  | n + 1, d, a :: w, e, o, h, g => by
    obtain ⟨h1, xs, x, rfl, ha, hx, hw⟩ := h
    have r := with_pay (o := o) hw (by simpa using g)
    obtain ⟨k, ds, ps, e, _⟩ := pay_items h1
    cases e
    obtain ⟨a, rfl⟩ : ∃ b, a = b + 1 := ⟨a - 1, by omega⟩
    have hx' : ds[a]? = some x := by simpa using hx
    have hg : ((L3.D.str k :: ds).getD (a + 1) .non) = x := by rw [List.getD_eq_getElem?_getD, hx]; rfl
    simp only [withD, hg, List.set_cons_succ]
    exact pay_set_in h1 hx' (pay_isTup hw.pay) r
  | 0, _, _ :: _, _, _, h, _ => h.elim
theorem with_not {c c' : L3.D} : ∀ {n : Nat} {d : L3.D} {w : List Nat} {e o : L3.D}, Way c n d w e → isTup o = true → payD c' n (withD d w o) = true → payD c' (n - w.length) o = true
  | n, d, [], e, o, h, _, g => by simpa [withD] using g
  | n + 1, d, a :: w, e, o, h, ho, g => by
    obtain ⟨h1, xs, x, rfl, ha, hx, hw⟩ := h
    have hg : xs.getD a .non = x := by rw [List.getD_eq_getElem?_getD, hx]; rfl
    simp only [withD, hg] at g
    obtain ⟨k, ds, ps, e, _, _, _, hi⟩ := pay_items g
    obtain ⟨a, rfl⟩ : ∃ b, a = b + 1 := ⟨a - 1, by omega⟩
    have hl : a + 1 < xs.length := (List.getElem?_eq_some_iff.mp hx).1
    cases xs with
    | nil => simp at hl
    | cons y ys =>
      simp only [List.set_cons_succ] at e
      injection e with e
      injection e with e1 e2
      have m : withD x w o ∈ ds := by
        rw [← e2]
        exact List.mem_of_getElem? (i := a) (by rw [List.getElem?_set_self (by simpa using hl)])
      have ht : isTup (withD x w o) = true := by
        cases w with
        | nil => exact ho
        | cons b w =>
          have := pay_isTup hw.pay
          cases x <;> first | (cases this; done) | rfl
      rcases hi _ m with ⟨i, q, _⟩ | q
      · rw [q] at ht; cases ht
      · have := with_not hw ho q
        simpa using this
  | 0, _, _ :: _, _, _, h, _, _ => h.elim
theorem readI_mono {f g : List Nat → Option (L3.D × List Nat)} (h : ∀ cs r, f cs = some r → g cs = some r) {p : Str} {cs r} (q : readI f p cs = some r) : readI g p cs = some r := by
  unfold readI at q ⊢
  split at q
  · rename_i c; rw [if_pos c]; exact h _ _ q
  · rename_i c; rw [if_neg c]; exact q
theorem readIs_mono {f g : List Nat → Option (L3.D × List Nat)} (h : ∀ cs r, f cs = some r → g cs = some r) : ∀ {ps : List Str} {cs r}, readIs f ps cs = some r → readIs g ps cs = some r
  | [], cs, r, q => q
  | p :: ps, cs, r, q => by
    cases cs with
    | nil => cases q
    | cons c t =>
      simp only [readIs] at q ⊢
      split at q
      · rename_i c32
        rw [if_pos c32]
        cases e : readI f p t with
        | none => rw [e] at q; simp at q
        | some x =>
          rw [e] at q
          rw [readI_mono h e]
          simp only [Option.bind_some] at q ⊢
          cases e2 : readIs f ps x.2 with
          | none => rw [e2] at q; simp at q
          | some y => rw [e2] at q; rw [readIs_mono h e2]; exact q
      · cases q
theorem readD_mono : ∀ {n m : Nat} {cs : List Nat} {r}, n ≤ m → readD n cs = some r → readD m cs = some r
  | 0, _, _, _, _, h => by cases h
  | n + 1, m, cs, r, hm, h => by
    obtain ⟨m, rfl⟩ : ∃ k, m = k + 1 := ⟨m - 1, by omega⟩
    obtain ⟨d, t⟩ := r
    obtain ⟨u, ps, ds, rfl, e, e2, rfl⟩ := readD_inv h
    have := readIs_mono (g := readD m) (fun cs r q => readD_mono (by omega) q) e2
    simp [readD, e, this]
theorem Way.up {c : L3.D} : ∀ {n m : Nat} {d : L3.D} {w : List Nat} {e : L3.D}, n ≤ m → Way c n d w e → Way c m d w e
  | n, m, d, [], e, hm, h => by
    have : payD c n d = true ∧ d = e := by cases n <;> exact h
    obtain ⟨h1, rfl⟩ := this
    have := pay_up hm h1
    cases m <;> exact ⟨this, rfl⟩
  | n + 1, m, d, a :: w, e, hm, h => by
    obtain ⟨m, rfl⟩ : ∃ k, m = k + 1 := ⟨m - 1, by omega⟩
    obtain ⟨h1, xs, x, rfl, ha, hx, hw⟩ := h
    exact ⟨pay_up (by omega) h1, xs, x, rfl, ha, hx, hw.up (by omega)⟩
  | 0, _, _, _ :: _, _, _, h => h.elim
theorem kind_pl {n : Nat} {x : L3.D} (h : Pl n x) : ∃ k, kindD S x = some k ∧ isT k "tuple" = isTup x := by
  cases x with
  | int i => exact ⟨_, kind_int, isT_it⟩
  | str i => exact ⟨_, kind_str, isT_st⟩
  | tup i => exact ⟨_, kind_tup, isT_tt⟩
  | _ => cases n <;> exact h.elim
/-- the words of a text, joined -/
theorem join_txt {X : XT} {ρ : DE} {i q : Nat} {k : Str} {ds : List L3.D} (hr : ρ[i]? = some (some (.ref q))) (hq : lstO S q = some (.str k :: ds.map fun d => .str (txt d))) (hb : (txtL (.tup (.str k :: ds))).length ≤ 400000) (h : P (.str (txt (.tup (.str k :: ds)))) S) :
    ((opE addD (opE addD (cE (.str "(")) (sm1E joinF (cE (.str " ")) (vE i))) (cE (.str ")"))) ρ S).OkX X P := by
  have htx : txts (.str k :: ds.map fun d => .str (txt d)) = some (k :: ds.map txt) := by
    have := txts_map (k :: ds.map txt)
    simpa [Function.comp_def] using this
  have kl := len_cps k
  have hjl : (Txt.join (Str.ofString " ") (k :: ds.map txt)).cps.toList = txtJ (.str k :: ds) := by
    rw [join_sp]
    simp only [txtJ, txtL, txtLs_map, List.map_map]
    rfl
  have hjn := len_cps (Txt.join (Str.ofString " ") (k :: ds.map txt))
  rw [hjl] at hjn
  have hto : (txtL (.tup (.str k :: ds))).length = (txtJ (.str k :: ds)).length + 2 := by simp [txtL]
  have hto2 : (txtL (.tup (.str k :: ds))).length = k.length + (txtLs ds).length + 2 := by rw [kl]; simp [txtL, txtJ]; omega
  have hsum : k.length + (ds.map ((fun x : Str => x.length) ∘ txt)).sum + (ds.length + 1) * (Str.ofString " ").length ≤ 16777216 := by
    have b1 : ∀ l : List L3.D, (l.map ((fun x : Str => x.length) ∘ txt)).sum + l.length = (txtLs l).length := by
      intro l
      induction l with
      | nil => rfl
      | cons d l ih => simp [txtLs, txt_len] at ih ⊢; omega
    have sp : (Str.ofString " ").length = 1 := by decide +kernel
    have := b1 ds
    rw [sp]
    omega
  simp [hr, joinF, seqO, hq, htx]
  refine ⟨hsum, ?_, ?_, ?_⟩
  · rw [hjn, show (Str.ofString "(").length = 1 by decide +kernel]; omega
  · rw [len_cps, show (Str.ofString "(" ++ Txt.join (Str.ofString " ") (k :: ds.map txt)).cps.toList = (Str.ofString "(").cps.toList ++ (Txt.join (Str.ofString " ") (k :: ds.map txt)).cps.toList from Array.toList_append, hjl, List.length_append, show (Str.ofString "(").cps.toList.length = 1 by decide +kernel, show (Str.ofString ")").length = 1 by decide +kernel]
    omega
  · have he : Str.ofString "(" ++ Txt.join (Str.ofString " ") (k :: ds.map txt) ++ Str.ofString ")" = txt (.tup (.str k :: ds)) := str_ext (by
      rw [show (Str.ofString "(" ++ Txt.join (Str.ofString " ") (k :: ds.map txt) ++ Str.ofString ")").cps.toList = (Str.ofString "(").cps.toList ++ (Txt.join (Str.ofString " ") (k :: ds.map txt)).cps.toList ++ (Str.ofString ")").cps.toList from by
        rw [← Array.toList_append, ← Array.toList_append]; rfl, hjl, show (Str.ofString "(").cps.toList = [40] by decide +kernel, show (Str.ofString ")").cps.toList = [41] by decide +kernel, txt_cps]
      simp [txtL])
    rw [he]
    exact h
theorem Nx.app_list {p q : Nat} {A B : Store} (nx : Nx p A B) (hq : A.length ≤ q) (hp : p ≠ q) {xs : List L3.D} : Nx p A (B.set q (.lst xs)) := by
  obtain ⟨a, b, c, e⟩ := nx.bag
  refine ⟨⟨a, b, c, ?_⟩, fun m o hm em => ?_⟩
  · have := lstO_at e
    unfold lstO
    rw [List.getElem?_set_ne (by omega), this]
  · have l := (List.getElem?_eq_some_iff.mp em).1
    rw [List.getElem?_set_ne (by omega)]
    exact nx.old m o hm em
theorem neq_ref {a b : Nat} {xs : List L3.D} (ha : lstO S a = some xs) (hb : lstO S b = some xs) (hx : ∀ e ∈ xs, flatD e = true ∧ ∀ x, e = .str x → near x) : neD (.ref a) (.ref b) S = some (.bl false, S) := by
  have g : Gd 0 S 0 (.ref a) := ⟨xs, ha, hx⟩
  obtain ⟨q, e, l⟩ := pyS_lay g (by omega)
  have e2 : pyS S (.ref b) = some q := by
    have h1 : pyS S (.ref a) = (lstO S a).bind fun xs => (xs.mapM (toP 39 S)).map .list := rfl
    have h2 : pyS S (.ref b) = (lstO S b).bind fun xs => (xs.mapM (toP 39 S)).map .list := rfl
    rw [h2, hb, ← ha, ← h1, e]
  unfold neD eqO
  simp only [flatEq, e, e2, l.shaped (by omega), Bool.and_self, if_true, PySem.SeqAt.eqv_refl q l.1]
  rfl
end L3
set_option Elab.async false
set_option linter.all false
set_option maxRecDepth 100000
set_option maxHeartbeats 1000000
namespace L3
open PySem PySem.Spec PyProof.Rows L2
variable {S : Store} {P : L3.D → Store → Prop}
/-! ### words are decimals -/
theorem intOf_some {l : List Nat} {i : Int} (h : intOf l = some i) : l = decS i ∧ i.natAbs < 10 ^ 13 := by
  unfold intOf at h
  split at h
  · cases h
  rename_i n1
  rw [not_or, not_or] at n1
  obtain ⟨u0, u13, ud⟩ := n1
  split at h
  · cases h
  rename_i n2
  have ud : digL (unsign l) = true := by simpa using ud
  have had : ∀ c ∈ unsign l, 48 ≤ c ∧ c ≤ 57 := fun c m => by
    unfold digL at ud
    have := List.all_eq_true.mp ud c m
    simpa using this
  obtain ⟨a, u, hau⟩ : ∃ a u, unsign l = a :: u := by
    cases e : unsign l with
    | nil => exact absurd e u0
    | cons a u => exact ⟨a, u, rfl⟩
  have hv : ∀ cs : List Nat, (∀ c ∈ cs, 48 ≤ c ∧ c ≤ 57) → dval cs < 10 ^ cs.length := by
    have key : ∀ (cs : List Nat) (a : Nat), (∀ c ∈ cs, 48 ≤ c ∧ c ≤ 57) → cs.foldl (fun acc c => acc * 10 + (c - 48)) a < (a + 1) * 10 ^ cs.length := by
      intro cs
      induction cs with
      | nil => intro a _; simp
      | cons c cs ih =>
        intro a hc
        have h2 := hc c (by simp)
        have h3 := ih (a * 10 + (c - 48)) fun x m => hc x (by simp [m])
        have h4 : (a * 10 + (c - 48) + 1) * 10 ^ cs.length ≤ ((a + 1) * 10) * 10 ^ cs.length := Nat.mul_le_mul_right _ (by omega)
        rw [List.foldl_cons, List.length_cons, Nat.pow_succ, Nat.mul_comm (10 ^ cs.length) 10, ← Nat.mul_assoc]
        exact Nat.lt_of_lt_of_le h3 h4
    intro cs hc
    have := key cs 0 hc
    rw [Nat.zero_add, Nat.one_mul] at this
    exact this
  have hlt : dval (unsign l) < 10 ^ 13 := Nat.lt_of_lt_of_le (hv _ had) (Nat.pow_le_pow_right (by decide) (by omega))
  have hh : a = 48 → l = [48] := fun e => by
    apply Classical.byContradiction
    intro q
    exact n2 ⟨by rw [hau, e]; rfl, q⟩
  have hd : digs (dval (unsign l)) = unsign l := by
    refine digs_dval _ had u0 ?_
    by_cases e : a = 48
    · have := hh e
      left
      rw [this]; rfl
    · right
      exact ⟨a, u, hau, by have := had a (by rw [hau]; simp); omega⟩
  have hdv : NumText.digitsVal (unsign l) = dval (unsign l) := rfl
  rw [hdv] at h
  by_cases hm : (l.head? == some 45) = true
  · rw [if_pos hm] at h
    cases h
    have hu : unsign l = l.tail := by unfold unsign; rw [if_pos hm]
    have hl : l = 45 :: unsign l := by
      cases l with
      | nil => cases hm
      | cons b r =>
        have : b = 45 := by simpa using hm
        rw [hu, this]; rfl
    have hpos : 0 < dval (unsign l) := by
      apply Nat.pos_of_ne_zero
      intro z
      have q := hd
      rw [z] at q
      have z2 : digs 0 = [48] := by decide
      rw [z2] at q
      have a48 : a = 48 := by rw [hau] at q; simp at q; exact q.1.symm
      have := hh a48
      rw [this] at hm
      cases hm
    refine ⟨?_, by omega⟩
    unfold decS
    rw [if_pos (by omega), show (-((dval (unsign l) : Nat) : Int)).natAbs = dval (unsign l) by omega, hd]
    exact hl
  · rw [if_neg hm] at h
    cases h
    have hu : unsign l = l := by unfold unsign; rw [if_neg hm]
    refine ⟨?_, by omega⟩
    unfold decS
    rw [if_neg (by omega), show (((dval (unsign l) : Nat) : Int)).natAbs = dval (unsign l) by omega, hd, hu]
theorem readIs_sound {f : List Nat → Option (L3.D × List Nat)} (hf : ∀ {cs d t}, f cs = some (d, t) → cs = txtL d ++ t) : ∀ {ps : List Str} {cs ds t}, readIs f ps cs = some (ds, t) → cs = txtLs ds ++ t
  | [], cs, ds, t, h => by simp [readIs] at h; obtain ⟨rfl, rfl⟩ := h; rfl
  | p :: ps, cs, ds, t, h => by
    cases cs with
    | nil => simp [readIs] at h
    | cons c r =>
      simp only [readIs] at h
      split at h
      · rename_i c32
        cases e : readI f p r with
        | none => rw [e] at h; simp at h
        | some x =>
          rw [e] at h
          simp only [Option.bind_some] at h
          cases e2 : readIs f ps x.2 with
          | none => rw [e2] at h; simp at h
          | some y =>
            rw [e2] at h
            simp at h
            obtain ⟨rfl, rfl⟩ := h
            have h2 := readIs_sound hf e2
            have h1 : r = txtL x.1 ++ x.2 := by
              unfold readI at e
              split at e
              · exact hf (d := x.1) e
              · obtain ⟨i, hi, rfl⟩ := Option.map_eq_some_iff.mp e
                simp only [txtL]
                rw [← (intOf_some hi).1]
                exact (word_rest r).symm
            rw [c32, h1, h2]
            simp [txtLs]
      · cases h
/-- what is read is the text of what is given -/
theorem readD_sound : ∀ {n : Nat} {cs t : List Nat} {d : L3.D}, readD n cs = some (d, t) → cs = txtL d ++ t
  | 0, _, _, _, h => by cases h
  | n + 1, cs, t, d, h => by
    obtain ⟨r, ps, ds, rfl, e, e2, rfl⟩ := readD_inv h
    have h2 := readIs_sound (fun h => readD_sound h) e2
    have := word_rest r
    rw [h2] at this
    have h3 : 40 :: r = 40 :: (wordL r ++ (txtLs ds ++ 41 :: t)) := congrArg _ this.symm
    rw [h3]
    simp [txtL, txtJ]
/-! ### the law's reader -/
def numR (c : Int) (p : Str) (w : List Nat) : Bool := match intOf w with
  | some i => if p = "value" then decide (-1000000 ≤ i) && decide (i ≤ 1000000) else if p = "cell" then decide (0 ≤ i) && decide (i < 4) else decide (0 ≤ i) && decide (i < c)
  | none => false
def lendI (c : Int) (f : List Nat → Option (List Nat)) (p : Str) (r : List Nat) : Option (List Nat) :=
  if p = "payload" then f r else if numR c p (wordL r) = true then some (restL r) else none
def lends (c : Int) (f : List Nat → Option (List Nat)) : List Str → List Nat → Option (List Nat)
  | [], cs => some cs
  | p :: ps, cs => match cs with
    | [] => none
    | ch :: r => if ch = 32 then (lendI c f p r).bind (lends c f ps) else none
def lend (c : Int) : Nat → List Nat → Option (List Nat)
  | 0, _ => none
  | n + 1, cs => match cs with
    | [] => none
    | ch :: r => if ch = 40 then (shapes.lookup ⟨(wordL r).toArray⟩).bind fun ps => (lends c (lend c n) ps (restL r)).bind fun t => match t with
        | [] => none
        | e :: u => if e = 41 then some u else none
      else none
theorem numR_iff {c : Int} (c1 : 1 ≤ c) (c2 : c ≤ 10) {n : Nat} {p : Str} (hp : p = "cell" ∨ p = "value" ∨ p = "process") {w : List Nat} : numR c p w = true ↔ ∃ i, intOf w = some i ∧ itemD (.int c) (payD (.int c) n) p (.int i) = true := by
  have hc : isIntD (.int c) 1 10 = true := by simp [isIntD, c1, c2]
  unfold numR
  cases e : intOf w with
  | none => simp
  | some i =>
    simp only [Option.some.injEq, exists_eq_left']
    rcases hp with rfl | rfl | rfl
    · simp [itemD, isIntD]; omega
    · simp [itemD, isIntD]
    · simp [itemD, isProcD, hc, isIntD]; omega
theorem lends_iff {c : Int} (c1 : 1 ≤ c) (c2 : c ≤ 10) {n : Nat} (ih : ∀ cs t, lend c n cs = some t ↔ ∃ d, readD n cs = some (d, t) ∧ payD (.int c) n d = true) : ∀ {ps : List Str} (cs t : List Nat), (∀ p ∈ ps, p = "cell" ∨ p = "value" ∨ p = "process" ∨ p = "payload") →
    (lends c (lend c n) ps cs = some t ↔ ∃ ds, readIs (readD n) ps cs = some (ds, t) ∧ allIn (itemD (.int c) (payD (.int c) n)) ps ds = true)
  | [], cs, t, _ => by
    simp [lends, readIs, allIn]
  | p :: ps, cs, t, hp => by
    cases cs with
    | nil => simp [lends, readIs]
    | cons ch r =>
      simp only [lends, readIs]
      by_cases c32 : ch = 32
      · rw [if_pos c32, if_pos c32]
        have rec1 := fun cs t => lends_iff c1 c2 ih (ps := ps) cs t fun q m => hp q (by simp [m])
        have hi : ∀ u, lendI c (lend c n) p r = some u ↔ ∃ d, readI (readD n) p r = some (d, u) ∧ itemD (.int c) (payD (.int c) n) p d = true := fun u => by
          unfold lendI readI
          by_cases hpay : p = "payload"
          · rw [if_pos hpay, if_pos hpay, ih]
            subst hpay
            have e : ∀ d, itemD (.int c) (payD (.int c) n) (Str.ofString "payload") d = payD (.int c) n d := fun d => by
              unfold itemD
              rw [if_neg (by simp), if_neg (by simp), if_neg (by simp)]
            simp only [e]
          · rw [if_neg hpay, if_neg hpay]
            have h3 : p = "cell" ∨ p = "value" ∨ p = "process" := by
              rcases hp p (by simp) with h | h | h | h
              · exact .inl h
              · exact .inr (.inl h)
              · exact .inr (.inr h)
              · exact absurd h hpay
            constructor
            · intro h
              by_cases hn : numR c p (wordL r) = true
              · rw [if_pos hn] at h
                cases h
                obtain ⟨i, e, q⟩ := (numR_iff c1 c2 (n := n) h3).mp hn
                exact ⟨.int i, by rw [e]; rfl, q⟩
              · rw [if_neg hn] at h; cases h
            · rintro ⟨d, h, q⟩
              obtain ⟨i, e, hx⟩ := Option.map_eq_some_iff.mp h
              cases hx
              rw [if_pos ((numR_iff c1 c2 h3).mpr ⟨i, e, q⟩)]
        constructor
        · intro h
          cases e : lendI c (lend c n) p r with
          | none => rw [e] at h; cases h
          | some u =>
            rw [e] at h
            simp only [Option.bind_some] at h
            obtain ⟨d, e1, q1⟩ := (hi u).mp e
            obtain ⟨ds, e2, q2⟩ := (rec1 u t).mp h
            exact ⟨d :: ds, by rw [e1]; simp [e2], by simp [allIn, q1, q2]⟩
        · rintro ⟨ds, h, q⟩
          cases e : readI (readD n) p r with
          | none => rw [e] at h; simp at h
          | some x =>
            rw [e] at h
            simp only [Option.bind_some] at h
            cases e2 : readIs (readD n) ps x.2 with
            | none => rw [e2] at h; simp at h
            | some y =>
              rw [e2] at h
              simp at h
              obtain ⟨rfl, rfl⟩ := h
              simp only [allIn, Bool.and_eq_true] at q
              have a := (hi x.2).mpr ⟨x.1, e, q.1⟩
              have b := (rec1 x.2 y.2).mpr ⟨y.1, e2, q.2⟩
              rw [a]
              exact b
      · rw [if_neg c32, if_neg c32]; simp
/-- the law's reader takes what is read as a payload of the group -/
theorem lend_iff {c : Int} (c1 : 1 ≤ c) (c2 : c ≤ 10) : ∀ (n : Nat) (cs t : List Nat), lend c n cs = some t ↔ ∃ d, readD n cs = some (d, t) ∧ payD (.int c) n d = true
  | 0, cs, t => by simp [lend, readD]
  | n + 1, cs, t => by
    have ih := lend_iff c1 c2 n
    constructor
    · intro h
      cases cs with
      | nil => cases h
      | cons ch r =>
        simp only [lend] at h
        split at h
        · rename_i c40
          cases e : shapes.lookup ⟨(wordL r).toArray⟩ with
          | none => rw [e] at h; cases h
          | some ps =>
            rw [e] at h
            simp only [Option.bind_some] at h
            cases e2 : lends c (lend c n) ps (restL r) with
            | none => rw [e2] at h; cases h
            | some u =>
              rw [e2] at h
              simp only [Option.bind_some] at h
              obtain ⟨ds, e3, q⟩ := (lends_iff c1 c2 ih (restL r) u (shapes_word e).2).mp e2
              cases u with
              | nil => cases h
              | cons z v =>
                dsimp only at h
                split at h
                · rename_i z41
                  cases h
                  have hl := (readIs_all (Q := fun _ => True) (fun _ => trivial) (fun _ => trivial) e3).1
                  refine ⟨.tup (.str ⟨(wordL r).toArray⟩ :: ds), ?_, ?_⟩
                  · simp [readD, c40, e, e3, z41]
                  · rw [payD_tup, e]
                    simp [hl, q]
                · cases h
        · cases h
    · rintro ⟨d, h, q⟩
      obtain ⟨r, ps, ds, rfl, e, e2, rfl⟩ := readD_inv h
      rw [payD_tup, e] at q
      simp only [Bool.and_eq_true] at q
      have := (lends_iff c1 c2 ih (restL r) (41 :: t) (shapes_word e).2).mpr ⟨ds, e2, q.2⟩
      simp [lend, e, this]
theorem lends_suf {c : Int} {f : List Nat → Option (List Nat)} (hf : ∀ {cs t}, f cs = some t → t <:+ cs) : ∀ {ps : List Str} {cs t : List Nat}, lends c f ps cs = some t → t <:+ cs
  | [], cs, t, h => by cases h; exact List.suffix_refl _
  | p :: ps, cs, t, h => by
    cases cs with
    | nil => cases h
    | cons ch r =>
      simp only [lends] at h
      split at h
      · cases e : lendI c f p r with
        | none => rw [e] at h; cases h
        | some u =>
          rw [e] at h
          have h1 := lends_suf hf (ps := ps) h
          have h2 : u <:+ r := by
            unfold lendI at e
            split at e
            · exact hf e
            · split at e
              · cases e; exact rest_suf r
              · cases e
          exact h1.trans (h2.trans (List.suffix_cons ch r))
      · cases h
theorem lend_suf {c : Int} : ∀ {n : Nat} {cs t : List Nat}, lend c n cs = some t → t <:+ cs
  | 0, _, _, h => by cases h
  | n + 1, cs, t, h => by
    cases cs with
    | nil => cases h
    | cons ch r =>
      simp only [lend] at h
      split at h
      · cases e : shapes.lookup ⟨(wordL r).toArray⟩ with
        | none => rw [e] at h; cases h
        | some ps =>
          rw [e] at h
          simp only [Option.bind_some] at h
          cases e2 : lends c (lend c n) ps (restL r) with
          | none => rw [e2] at h; cases h
          | some u =>
            rw [e2] at h
            simp only [Option.bind_some] at h
            have h1 := lends_suf (fun h => lend_suf h) e2
            cases u with
            | nil => cases h
            | cons z v =>
              dsimp only at h
              split at h
              · cases h
                exact (List.suffix_cons z _).trans (h1.trans ((rest_suf r).trans (List.suffix_cons ch r)))
              · cases h
      · cases h
end L3
set_option Elab.async false
set_option linter.all false
set_option maxRecDepth 100000
set_option maxHeartbeats 1000000
namespace L3
open PySem PySem.Spec PyProof.Rows L2
variable {S : Store} {P : L3.D → Store → Prop}
@[simp] theorem absF_int {i : Int} : absF [.int i] S = some (.int (if i < 0 then -i else i), S) := rfl
@[simp] theorem listF_tup {xs : List L3.D} : listF [.tup xs] S = some (.ref S.length, S ++ [.lst xs]) := rfl
theorem listF_ref {n : Nat} {xs : List L3.D} (h : lstO S n = some xs) : listF [.ref n] S = some (.ref S.length, S ++ [.lst xs]) := by
  unfold listF
  simp [seqO, h]
/-! ### the seven kinds -/
theorem pay_cases {c d : L3.D} {n : Nat} (h : payD c (n + 1) d = true) :
    (∃ a v : Int, d = .tup [.str "set", .int a, .int v] ∧ 0 ≤ a ∧ a ≤ 3 ∧ -1000000 ≤ v ∧ v ≤ 1000000) ∨
    (∃ a v : Int, d = .tup [.str "add", .int a, .int v] ∧ 0 ≤ a ∧ a ≤ 3 ∧ -1000000 ≤ v ∧ v ≤ 1000000) ∨
    (∃ a b : Int, d = .tup [.str "copy", .int a, .int b] ∧ 0 ≤ a ∧ a ≤ 3 ∧ 0 ≤ b ∧ b ≤ 3) ∨
    (∃ (q : Int) (e : L3.D), d = .tup [.str "send", .int q, e] ∧ 0 ≤ q ∧ q ≤ 9 ∧ payD c n e = true ∧ isProcD c (.int q) = true) ∨
    (∃ a : Int, d = .tup [.str "show", .int a] ∧ 0 ≤ a ∧ a ≤ 3) ∨
    (∃ e f : L3.D, d = .tup [.str "both", e, f] ∧ payD c n e = true ∧ payD c n f = true) ∨
    (∃ (a : Int) (e f : L3.D), d = .tup [.str "if", .int a, e, f] ∧ 0 ≤ a ∧ a ≤ 3 ∧ payD c n e = true ∧ payD c n f = true) := by
  obtain ⟨k, ds, ps, rfl, e, hl, ha, _⟩ := pay_items h
  have m := lookup_mem e
  unfold shapes at m
  have cell : ∀ {x}, itemD c (payD c n) "cell" x = true → ∃ i : Int, x = .int i ∧ 0 ≤ i ∧ i ≤ 3 := fun {x} q => by
    unfold itemD at q
    rw [if_pos rfl] at q
    exact isIntD_some q
  have value : ∀ {x}, itemD c (payD c n) "value" x = true → ∃ i : Int, x = .int i ∧ -1000000 ≤ i ∧ i ≤ 1000000 := fun {x} q => by
    unfold itemD at q
    rw [if_neg (by simp), if_pos rfl] at q
    exact isIntD_some q
  have proc : ∀ {x}, itemD c (payD c n) "process" x = true → ∃ i : Int, x = .int i ∧ 0 ≤ i ∧ i ≤ 9 ∧ isProcD c x = true := fun {x} q => by
    unfold itemD at q
    rw [if_neg (by simp), if_neg (by simp), if_pos rfl] at q
    obtain ⟨m, i, _, e, m1, m2, a, b⟩ := isProc_some q
    exact ⟨i, e, a, by omega, q⟩
  have pay : ∀ {x}, itemD c (payD c n) "payload" x = true → payD c n x = true := fun {x} q => by
    unfold itemD at q
    rw [if_neg (by simp), if_neg (by simp), if_neg (by simp)] at q
    exact q
  have two : ∀ {p q : Str}, ps = [p, q] → ∃ x y, ds = [x, y] ∧ itemD c (payD c n) p x = true ∧ itemD c (payD c n) q y = true := fun {p q} hp => by
    subst hp
    match ds, hl with
    | [x, y], _ => simp only [allIn, Bool.and_eq_true] at ha; exact ⟨x, y, rfl, ha.1, ha.2.1⟩
  simp at m
  rcases m with ⟨rfl, rfl⟩ | ⟨rfl, rfl⟩ | ⟨rfl, rfl⟩ | ⟨rfl, rfl⟩ | ⟨rfl, rfl⟩ | ⟨rfl, rfl⟩ | ⟨rfl, rfl⟩
  · obtain ⟨x, y, rfl, h1, h2⟩ := two rfl
    obtain ⟨i, rfl, a, b⟩ := cell h1
    obtain ⟨j, rfl, u, v⟩ := value h2
    exact .inl ⟨i, j, rfl, a, b, u, v⟩
  · obtain ⟨x, y, rfl, h1, h2⟩ := two rfl
    obtain ⟨i, rfl, a, b⟩ := cell h1
    obtain ⟨j, rfl, u, v⟩ := value h2
    exact .inr (.inl ⟨i, j, rfl, a, b, u, v⟩)
  · obtain ⟨x, y, rfl, h1, h2⟩ := two rfl
    obtain ⟨i, rfl, a, b⟩ := cell h1
    obtain ⟨j, rfl, u, v⟩ := cell h2
    exact .inr (.inr (.inl ⟨i, j, rfl, a, b, u, v⟩))
  · obtain ⟨x, y, rfl, h1, h2⟩ := two rfl
    obtain ⟨i, rfl, a, b, hq⟩ := proc h1
    exact .inr (.inr (.inr (.inl ⟨i, y, rfl, a, b, pay h2, hq⟩)))
  · match ds, hl with
    | [x], _ =>
      simp only [allIn, Bool.and_eq_true] at ha
      obtain ⟨i, rfl, a, b⟩ := cell ha.1
      exact .inr (.inr (.inr (.inr (.inl ⟨i, rfl, a, b⟩))))
  · obtain ⟨x, y, rfl, h1, h2⟩ := two rfl
    exact .inr (.inr (.inr (.inr (.inr (.inl ⟨x, y, rfl, pay h1, pay h2⟩)))))
  · match ds, hl with
    | [x, y, z], _ =>
      simp only [allIn, Bool.and_eq_true] at ha
      obtain ⟨i, rfl, a, b⟩ := cell ha.1
      exact .inr (.inr (.inr (.inr (.inr (.inr ⟨i, y, z, rfl, a, b, pay ha.2.1, pay ha.2.2.1⟩)))))
/-! ### the machine -/
/-- cells, sends (a process and a payload), outputs -/
abbrev Ran := List Int × List L3.D × List Str
def cellN (d : L3.D) : Nat := (intG d).toNat
def runP : Nat → List Int → L3.D → Ran
  | 0, cs, _ => (cs, [], [])
  | n + 1, cs, .tup (.str k :: ds) =>
    if k = "set" then (cs.set (cellN (ds.getD 0 .non)) (intG (ds.getD 1 .non)), [], [])
    else if k = "add" then (cs.set (cellN (ds.getD 0 .non)) (cs.getD (cellN (ds.getD 0 .non)) 0 + intG (ds.getD 1 .non)), [], [])
    else if k = "copy" then (cs.set (cellN (ds.getD 0 .non)) (cs.getD (cellN (ds.getD 1 .non)) 0), [], [])
    else if k = "send" then (cs, [.tup [ds.getD 0 .non, ds.getD 1 .non]], [])
    else if k = "show" then (cs, [], [Str.ofString (cs.getD (cellN (ds.getD 0 .non)) 0).repr])
    else if k = "if" then runP n cs (if cs.getD (cellN (ds.getD 0 .non)) 0 = 0 then ds.getD 2 .non else ds.getD 1 .non)
    else ((runP n (runP n cs (ds.getD 0 .non)).1 (ds.getD 1 .non)).1, (runP n cs (ds.getD 0 .non)).2.1 ++ (runP n (runP n cs (ds.getD 0 .non)).1 (ds.getD 1 .non)).2.1, (runP n cs (ds.getD 0 .non)).2.2 ++ (runP n (runP n cs (ds.getD 0 .non)).1 (ds.getD 1 .non)).2.2)
  | _, cs, _ => (cs, [], [])
/-- four cells of a bounded size -/
def CB (B : Int) (cs : List Int) : Prop := cs.length = 4 ∧ ∀ x ∈ cs, -B ≤ x ∧ x ≤ B
def SendOk (n : Nat) (e : L3.D) : Prop := ∃ (q : Int) (c d : L3.D), e = .tup [.int q, d] ∧ payD c n d = true
def OutOk (o : Str) : Prop := ∃ i : Int, o = Str.ofString i.repr ∧ -1000000000000 ≤ i ∧ i ≤ 1000000000000
theorem CB.mono {A B : Int} {cs : List Int} (h : CB A cs) (l : A ≤ B) : CB B cs := ⟨h.1, fun x m => by have := h.2 x m; omega⟩
theorem CB.get {B : Int} {cs : List Int} (h : CB B cs) {i : Nat} (hi : i ≤ 3) : -B ≤ cs.getD i 0 ∧ cs.getD i 0 ≤ B := by
  have hl : i < cs.length := by rw [h.1]; omega
  rw [List.getD_eq_getElem?_getD, List.getElem?_eq_getElem hl]
  exact h.2 _ (List.getElem_mem hl)
theorem CB.set {B : Int} {cs : List Int} (h : CB B cs) {i : Nat} {v : Int} (hv : -B ≤ v ∧ v ≤ B) : CB B (cs.set i v) := ⟨by rw [List.length_set]; exact h.1, fun x m => by
  rcases List.mem_or_eq_of_mem_set m with m | rfl
  · exact h.2 x m
  · exact hv⟩
theorem run_fit {c : L3.D} : ∀ (n : Nat) (cs : List Int) (d : L3.D) (B : Int), payD c n d = true → CB B cs → 1000000 ≤ B → B + 2 ^ n * 1000000 ≤ 1000000000000 →
    CB (B + 2 ^ n * 1000000) (runP n cs d).1 ∧ (∀ e ∈ (runP n cs d).2.1, SendOk n e) ∧ (∀ o ∈ (runP n cs d).2.2, OutOk o) ∧ (runP n cs d).2.1.length ≤ 2 ^ n ∧ (runP n cs d).2.2.length ≤ 2 ^ n
  | 0, cs, d, B, h, _, _, _ => by cases h
  | n + 1, cs, d, B, h, hc, hB, hU => by
    have p1 : (1 : Int) ≤ 2 ^ n := Int.le_of_lt_add_one (by have := Int.pow_pos (n := 2) (m := n) (by decide); omega)
    have pn : 1 ≤ 2 ^ n := Nat.one_le_pow _ _ (by decide)
    have e2 : (2 : Int) ^ (n + 1) = 2 * 2 ^ n := by rw [Int.pow_succ, Int.mul_comm]
    have n2 : 2 ^ (n + 1) = 2 * 2 ^ n := by rw [Nat.pow_succ, Nat.mul_comm]
    rw [e2] at hU ⊢
    rw [n2]
    have up : ∀ {A}, CB A cs → CB A cs := fun h => h
    rcases pay_cases h with ⟨a, v, rfl, a0, a1, v0, v1⟩ | ⟨a, v, rfl, a0, a1, v0, v1⟩ | ⟨a, b, rfl, a0, a1, b0, b1⟩ | ⟨q, e, rfl, q0, q1, he, _⟩ | ⟨a, rfl, a0, a1⟩ | ⟨e, f, rfl, he, hf⟩ | ⟨a, e, f, rfl, a0, a1, he, hf⟩
    · simp [runP, intG]
      exact (hc.mono (B := B + 2 * 2 ^ n * 1000000) (by omega)).set (by omega)
    · have := hc.get (i := cellN (.int a)) (by simp [cellN, intG]; omega)
      simp [runP, intG]
      refine (hc.mono (B := B + 2 * 2 ^ n * 1000000) (by omega)).set ?_
      rw [List.getD_eq_getElem?_getD] at this
      omega
    · have := hc.get (i := cellN (.int b)) (by simp [cellN, intG]; omega)
      simp [runP, intG]
      refine (hc.mono (B := B + 2 * 2 ^ n * 1000000) (by omega)).set ?_
      rw [List.getD_eq_getElem?_getD] at this
      omega
    · simp [runP]
      exact ⟨hc.mono (by omega), ⟨q, c, e, rfl, pay_up (by omega) he⟩, by omega⟩
    · have := hc.get (i := cellN (.int a)) (by simp [cellN, intG]; omega)
      simp [runP]
      refine ⟨hc.mono (by omega), ⟨_, rfl, ?_⟩, by omega⟩
      rw [List.getD_eq_getElem?_getD] at this
      omega
    · have g1 := run_fit n cs e B he hc hB (by omega)
      have g2 := run_fit n (runP n cs e).1 f (B + 2 ^ n * 1000000) hf g1.1 (by omega) (by omega)
      have er : runP (n + 1) cs (.tup [.str "both", e, f]) = ((runP n (runP n cs e).1 f).1, (runP n cs e).2.1 ++ (runP n (runP n cs e).1 f).2.1, (runP n cs e).2.2 ++ (runP n (runP n cs e).1 f).2.2) := by simp [runP]
      rw [er]
      refine ⟨g2.1.mono (by omega), fun x m => ?_, fun x m => ?_, ?_, ?_⟩
      · rcases List.mem_append.mp m with m | m
        · obtain ⟨q, c, d, e, h⟩ := g1.2.1 x m; exact ⟨q, c, d, e, pay_up (by omega) h⟩
        · obtain ⟨q, c, d, e, h⟩ := g2.2.1 x m; exact ⟨q, c, d, e, pay_up (by omega) h⟩
      · rcases List.mem_append.mp m with m | m
        · exact g1.2.2.1 x m
        · exact g2.2.2.1 x m
      · have := g1.2.2.2.1; have := g2.2.2.2.1; rw [List.length_append]; omega
      · have := g1.2.2.2.2; have := g2.2.2.2.2; rw [List.length_append]; omega
    · have er : runP (n + 1) cs (.tup [.str "if", .int a, e, f]) = runP n cs (if cs.getD (cellN (.int a)) 0 = 0 then f else e) := by simp [runP]
      rw [er]
      have key : ∀ x, payD c n x = true → CB (B + 2 * 2 ^ n * 1000000) (runP n cs x).1 ∧ (∀ e ∈ (runP n cs x).2.1, SendOk (n + 1) e) ∧ (∀ o ∈ (runP n cs x).2.2, OutOk o) ∧ (runP n cs x).2.1.length ≤ 2 * 2 ^ n ∧ (runP n cs x).2.2.length ≤ 2 * 2 ^ n := fun x hx => by
        have g1 := run_fit n cs x B hx hc hB (by omega)
        refine ⟨g1.1.mono (by omega), fun y m => ?_, g1.2.2.1, by have := g1.2.2.2.1; omega, by have := g1.2.2.2.2; omega⟩
        obtain ⟨q, c, d, e, h⟩ := g1.2.1 y m; exact ⟨q, c, d, e, pay_up (by omega) h⟩
      split
      · exact key f hf
      · exact key e he
/-- tuples of the same cells and lists alike are the same -/
theorem neq_ran {L n : Nat} {u : L3.D} {a b a' b' : Nat} {xs ys : List L3.D} (hn : n ≤ 20) (hu : Gd L S n u) (ha : lstO S a = some xs) (hb : lstO S b = some ys) (ha' : lstO S a' = some xs) (hb' : lstO S b' = some ys) (hx : ∀ e ∈ xs, Gd L S n e) (hy : ∀ e ∈ ys, Gd L S n e) :
    neD (.tup [u, .ref a, .ref b]) (.tup [u, .ref a', .ref b']) S = some (.bl false, S) := by
  have pn : ∀ a b : Nat, pyS S (.tup [u, .ref a, .ref b]) = toP 40 S (.tup [u, .ref a, .ref b]) := fun a b => by
    unfold pyS
    have : py (.tup [u, .ref a, .ref b]) = none := by
      simp only [py, pys]
      cases py u <;> simp
    rw [this]
  have rf : ∀ {k : Nat} {zs : List L3.D}, lstO S k = some zs → (∀ e ∈ zs, Gd L S n e) → ∃ q, toP 39 S (.ref k) = some q ∧ Lay (n + 2) q := fun {k zs} hk hz => by
    obtain ⟨qs, e2, h3, h4⟩ := lay_all (n := n + 1) (f := toP 38 S) (xs := zs) fun e m => toP_lay n e 38 (hz e m) (by omega)
    exact ⟨.list qs, by rw [show (39 : Nat) = 38 + 1 from rfl, toP_ref, hk, Option.bind_some, e2]; rfl, by simp [PyData.canLay0, h3], by simp [PyData.depth]; omega⟩
  obtain ⟨q1, e1, l1⟩ := toP_lay n u 39 hu (by omega)
  obtain ⟨q2, e2, l2⟩ := rf ha hx
  obtain ⟨q3, e3, l3⟩ := rf hb hy
  have sa : toP 39 S (.ref a') = toP 39 S (.ref a) := by rw [show (39 : Nat) = 38 + 1 from rfl, toP_ref, toP_ref, ha, ha']
  have sb : toP 39 S (.ref b') = toP 39 S (.ref b) := by rw [show (39 : Nat) = 38 + 1 from rfl, toP_ref, toP_ref, hb, hb']
  have t1 : toP 40 S (.tup [u, .ref a, .ref b]) = some (.tuple [q1, q2, q3]) := by
    rw [show (40 : Nat) = 39 + 1 from rfl, toP_tup]
    simp [List.mapM_cons, e1, e2, e3]
  have t2 : toP 40 S (.tup [u, .ref a', .ref b']) = some (.tuple [q1, q2, q3]) := by
    rw [show (40 : Nat) = 39 + 1 from rfl, toP_tup]
    simp [List.mapM_cons, e1, sa, sb, e2, e3]
  have lq : Lay (n + 3) (.tuple [q1, q2, q3]) := ⟨by simp [PyData.canLay0, PyData.canLayAll0, l1.1, l2.1, l3.1], by have := l1.2; have := l2.2; have := l3.2; simp [PyData.depth, PyData.depthAll]; omega⟩
  unfold neD eqO
  simp only [flatEq, pn, t1, t2, lq.shaped (by omega), Bool.and_self, if_true, PySem.SeqAt.eqv_refl _ lq.1]
  rfl
theorem eq_self {L n : Nat} {v : L3.D} (h : Gd L S n v) (hn : n ≤ 30) (ht : ∃ xs, v = .tup xs) : eqD v v S = some (.bl true, S) := by
  obtain ⟨xs, rfl⟩ := ht
  obtain ⟨q, e, l⟩ := pyS_lay h hn
  unfold eqD eqO
  simp only [flatEq, e, l.shaped (by omega), Bool.and_self, if_true, PySem.SeqAt.eqv_refl q l.1]
  rfl
end L3
set_option Elab.async false
set_option linter.all false
set_option maxRecDepth 100000
set_option maxHeartbeats 1000000
namespace L3
open PySem PySem.Spec PyProof.Rows L2
section
variable {P : L3.D → Store → Prop} {S : Store} {ρ : DE} {nx bk ct : DE → Store → Prop} {rt : L3.D → Store → Prop} {X : XT} {Y : YT} {m mo mv : ME} {ms : MA} {f : Fn}
@[simp] theorem ok_fldE {C g : Str} : (fldE C g m ρ S).OkX X P ↔ (m ρ S).OkX X fun d S1 => ∃ fs, insO S1 C d = some fs ∧ ∃ v, fs.lookup g = some v ∧ P v S1 := by
  unfold fldE
  rw [ok_bind]
  refine ⟨fun h => h.imp fun d S1 q => ?_, fun h => h.imp fun d S1 q => ?_⟩
  · rw [ok_ofO, okO_bind] at q
    obtain ⟨fs, e, q⟩ := q
    rw [okO_map] at q
    obtain ⟨v, e2, q⟩ := q
    exact ⟨fs, e, v, e2, q⟩
  · obtain ⟨fs, e, v, e2, q⟩ := q
    rw [ok_ofO, okO_bind]
    refine ⟨fs, e, ?_⟩
    rw [okO_map]
    exact ⟨v, e2, q⟩
@[simp] theorem ok_methE {C mn : Str} {n : Nat} : (methE C mn n f mo ms ρ S).OkX X P ↔ (mo ρ S).OkX X fun d S1 => ∃ fs, insO S1 C d = some fs ∧ fs.lookup mn = none ∧ (ms ρ S1).OkX X fun ds S2 => ds.length + 1 = n ∧ (f (d :: ds) S2).OkX X P := by
  unfold methE
  rw [ok_bind]
  refine ⟨fun h => h.imp fun d S1 q => ?_, fun h => h.imp fun d S1 q => ?_⟩
  · cases e : insO S1 C d with
    | none => rw [e] at q; exact q.elim
    | some fs =>
      rw [e] at q
      dsimp only at q
      by_cases c : fs.lookup mn = none
      · rw [if_pos c, ok_bind] at q
        refine ⟨fs, rfl, c, q.imp fun ds S2 q => ?_⟩
        rw [ok_nF] at q
        exact ⟨by simpa using q.1, q.2⟩
      · rw [if_neg c] at q; exact q.elim
  · obtain ⟨fs, e, c, q⟩ := q
    rw [e]
    dsimp only
    rw [if_pos c, ok_bind]
    refine q.imp fun ds S2 q => ?_
    rw [ok_nF]
    exact ⟨by simpa using q.1, q.2⟩
@[simp] theorem ok_makeE {C : Str} {n : Nat} : (makeE C n f ms ρ S).OkX X P ↔ (ms ρ S).OkX X fun ds S1 => ds.length + 1 = n ∧ (f (.ref S1.length :: ds) (S1 ++ [.ins C []])).OkX X fun d S2 => isnon d = true ∧ P (.ref S1.length) S2 := by
  unfold makeE
  rw [ok_bind]
  refine ⟨fun h => h.imp fun ds S1 q => ?_, fun h => h.imp fun ds S1 q => ?_⟩
  · rw [ok_bind, ok_nF] at q
    refine ⟨by simpa using q.1, q.2.imp fun d S2 q => ?_⟩
    by_cases c : isnon d = true
    · rw [if_pos c] at q; exact ⟨c, q⟩
    · rw [if_neg c] at q; exact q.elim
  · rw [ok_bind, ok_nF]
    refine ⟨by simpa using q.1, q.2.imp fun d S2 q => ?_⟩
    rw [if_pos q.1]
    exact q.2
@[simp] theorem sok_fldM {C g : Str} : (fldM C g mo mv ρ S).OkX Y nx rt bk ct ↔ (mv ρ S).OkX (Y ρ) fun v S1 => (mo ρ S1).OkX (Y ρ) fun d S2 => ∃ fs, insO S2 C d = some fs ∧ fs.length < 1000 ∧ nx ρ (S2.set (refO d) (.ins C (putFD g v fs))) := by
  unfold fldM
  rw [sok_sb]
  refine ⟨fun h => h.imp fun v S1 q => ?_, fun h => h.imp fun v S1 q => ?_⟩
  · rw [sok_sb] at q
    refine q.imp fun d S2 q => ?_
    cases e : insO S2 C d with
    | none => rw [e] at q; exact q.elim
    | some fs =>
      rw [e] at q
      dsimp only at q
      by_cases c : fs.length < 1000
      · rw [if_pos c] at q; exact ⟨fs, rfl, c, q⟩
      · rw [if_neg c] at q; exact q.elim
  · rw [sok_sb]
    refine q.imp fun d S2 q => ?_
    obtain ⟨fs, e, c, q⟩ := q
    rw [e]
    dsimp only
    rw [if_pos c]
    exact q
@[simp] theorem ok_dispE {ks : List Str} : (dispE ks ms ρ S).OkX X P ↔ (ms ρ (S ++ [.dic []])).OkX X fun ds S1 => S1[S.length]? = some (.dic []) ∧ (ds.length = ks.length ∧ ks.length ≤ 15) ∧ P (.ref S.length) (S1.set S.length (.dic (mergeD [] ((ks.map fun k => (.inr k : Key)).zip ds)))) := by
  unfold dispE
  rw [ok_bind]
  refine ⟨fun h => h.imp fun ds S1 q => ?_, fun h => h.imp fun ds S1 q => ?_⟩
  · unfold fillD at q
    split at q
    · rename_i e
      by_cases c : ds.length = ks.length ∧ ks.length ≤ 15
      · rw [if_pos c] at q; exact ⟨e, c, q⟩
      · rw [if_neg c] at q; exact q.elim
    · exact q.elim
  · obtain ⟨e, c, q⟩ := q
    unfold fillD
    rw [e]
    dsimp only
    rw [if_pos c]
    exact q
@[simp] theorem sok_tryNM {hs : List (List (Str × Bool) × MS)} {body : MS} : (tryNM hs body ρ S).OkX Y nx rt bk ct ↔ (body ρ S).OkX (fun ρ c fs S => (handleM hs c fs ρ S).OkX Y nx rt bk ct) nx rt bk ct := by
  unfold tryNM
  cases body ρ S <;> exact Iff.rfl
theorem insO_at {n : Nat} {C : Str} {fs : List (Str × L3.D)} (h : S[n]? = some (.ins C fs)) : insO S C (.ref n) = some fs := by
  unfold insO
  dsimp only
  rw [h]
  exact if_pos rfl
theorem lstO_of {n : Nat} {xs : List L3.D} (h : S[n]? = some (.lst xs)) : lstO S n = some xs := by
  unfold lstO
  rw [h]
theorem dicO_of {n : Nat} {kvs : List (Key × L3.D)} (h : S[n]? = some (.dic kvs)) : dicO S n = some kvs := by
  unfold dicO
  rw [h]
end
@[simp] theorem beq_ofStr {a b : String} : (Str.ofString a == Str.ofString b) = decide (a = b) := by
  rw [Bool.eq_iff_iff, beq_iff_eq, decide_eq_true_eq, ofStr_inj]
/-! ### the desk and its model -/
inductive Role | d | m | s | g | t | sr (i : Nat) | tr (i : Nat) | mr (i : Nat) | ar (i : Nat) | br (i : Nat)
/-- what is in them: the desk's payloads, got and texts, and the model's -/
structure Dst where
  A : Nat → List L3.D
  G : Nat → Nat
  T : Nat → List L3.D
  A' : Nat → List L3.D
  G' : Nat → Nat
  T' : Nat → List L3.D
def Role.okc (c : Nat) : Role → Prop
  | .sr i | .tr i | .mr i | .ar i | .br i => i < c
  | _ => True
def rowsR (c : Nat) (f : Nat → Nat) : O := .lst ((List.range c).map fun i => .ref (f i))
def modelD (loc : Role → Nat) (x : Dst) (i : Nat) : List (Key × L3.D) := [(.inr "asked", .ref (loc (.ar i))), (.inr "got", .int (x.G' i : Nat)), (.inr "shown", .ref (loc (.br i)))]
def deskF (c : Nat) (loc : Role → Nat) : List (Str × L3.D) := [("_count", .int (c : Int)), ("_submitted", .ref (loc .s)), ("_got", .ref (loc .g)), ("_shown", .ref (loc .t))]
def valR (c : Nat) (loc : Role → Nat) (x : Dst) : Role → O
  | .d => .ins "Desk" (deskF c loc)
  | .m => rowsR c fun i => loc (.mr i)
  | .s => rowsR c fun i => loc (.sr i)
  | .t => rowsR c fun i => loc (.tr i)
  | .g => .lst ((List.range c).map fun i => .int (x.G i : Nat))
  | .sr i => .lst (x.A i)
  | .tr i => .lst (x.T i)
  | .ar i => .lst (x.A' i)
  | .br i => .lst (x.T' i)
  | .mr i => .dic (modelD loc x i)
structure Dk (S : Store) (c : Nat) (loc : Role → Nat) (x : Dst) : Prop where
  has : ∀ r, r.okc c → S[loc r]? = some (valR c loc x r)
  inj : ∀ r q, r.okc c → q.okc c → loc r = loc q → r = q
variable {S S' : Store} {c : Nat} {loc : Role → Nat} {x y : Dst}
theorem Dk.more (h : Dk S c loc x) (m : More S S') : Dk S' c loc x := ⟨fun r o => m _ _ (h.has r o), h.inj⟩
theorem Dk.lt (h : Dk S c loc x) {r : Role} (o : r.okc c) : loc r < S.length := (List.getElem?_eq_some_iff.mp (h.has r o)).1
theorem Dk.nx {p : Nat} (h : Dk S c loc x) (hp : ∀ r : Role, r.okc c → loc r ≠ p) (n : Nx p S S') : Dk S' c loc x := ⟨fun r o => n.old _ _ (hp r o) (h.has r o), h.inj⟩
theorem Dk.set (h : Dk S c loc x) {r : Role} (o : r.okc c) (hv : ∀ q : Role, q.okc c → q ≠ r → valR c loc y q = valR c loc x q) : Dk (S.set (loc r) (valR c loc y r)) c loc y := ⟨fun q oq => by
  by_cases e : q = r
  · subst e
    rw [List.getElem?_set_self (h.lt o)]
  · rw [List.getElem?_set_ne (fun z => e (h.inj q r oq o z.symm)), h.has q oq, hv q oq e], h.inj⟩
def updF {α : Type} (f : Nat → α) (i : Nat) (v : α) : Nat → α := fun j => if j = i then v else f j
theorem atI_rows {f : Nat → Nat} {i : Nat} (h : i < c) : atI ((List.range c).map fun i => L3.D.ref (f i)) (i : Int) = some (.ref (f i)) := atI_nat (by rw [List.getElem?_map, List.getElem?_range h]; rfl)
theorem atI_ints {f : Nat → Nat} {i : Nat} (h : i < c) : atI ((List.range c).map fun i => L3.D.int (f i : Nat)) (i : Int) = some (.int (f i : Nat)) := atI_nat (by rw [List.getElem?_map, List.getElem?_range h]; rfl)
end L3
set_option Elab.async false
set_option linter.all false
set_option maxRecDepth 100000
set_option maxHeartbeats 1000000
namespace L3
open PySem PySem.Spec PyProof.Rows L2 PySem.W
section
variable {P : L3.D → Store → Prop} {S : Store} {ρ : DE} {nx bk ct : DE → Store → Prop} {rt : L3.D → Store → Prop} {X : XT} {Y : YT} {m mo mv : ME} {ms : MA} {f : Fn}
/-- the greater of two pairs -/
def mx (p q : Int × Int) : Int × Int := maxOf p [q]
theorem mx_eq {p q : Int × Int} : mx p q = if (if p.1 = q.1 then decide (p.2 < q.2) else decide (p.1 < q.1)) = true then q else p := rfl
@[simp] theorem maxP_int {i j : Int} : maxP [.int i, .int j] S = some (.int (if j > i then j else i), S) := rfl
@[simp] theorem maxP_pairs {p q : Int × Int} : maxP [ipair p, ipair q] S = some (ipair (mx p q), S) := rfl
@[simp] theorem maxP_tups {a b c d : Int} : maxP [.tup [.int a, .int b], .tup [.int c, .int d]] S = some (ipair (mx (a, b) (c, d)), S) := rfl
@[simp] theorem maxP_ptup {p : Int × Int} {c d : Int} : maxP [ipair p, .tup [.int c, .int d]] S = some (ipair (mx p (c, d)), S) := rfl
theorem prs_map : ∀ ps : List (Int × Int), (ps.map ipair).mapM prO = some ps
  | [] => rfl
  | p :: ps => by
    rw [List.map_cons, List.mapM_cons, prs_map ps]
    rfl
theorem maxP_ref {n : Nat} {q : Int × Int} {qs : List (Int × Int)} (h : lstO S n = some ((q :: qs).map ipair)) : maxP [.ref n] S = some (ipair (maxOf q qs), S) := by
  have e : (match (lstO S n).bind (·.mapM prO) with
    | some (q :: qs) => some (ipair (maxOf q qs), S)
    | _ => none) = some (ipair (maxOf q qs), S) := by rw [h, Option.bind_some, prs_map]
  exact e
theorem maxOf_snoc {q r : Int × Int} {qs : List (Int × Int)} : maxOf q (qs ++ [r]) = mx (maxOf q qs) r := by
  unfold mx maxOf
  rw [List.foldl_append]
theorem ipair_tup {p : Int × Int} : ipair p = .tup [.int p.1, .int p.2] := rfl
theorem ipair_inj {p q : Int × Int} (h : ipair p = ipair q) : p = q := by
  obtain ⟨a, b⟩ := p
  obtain ⟨c, d⟩ := q
  simp [ipair] at h
  rw [h.1, h.2]
/-- the items of enumerate -/
def enumL (xs : List L3.D) : List L3.D := ((numsD xs.length).zip xs).map fun p => .tup [p.1, p.2]
@[simp] theorem enumL_length {xs : List L3.D} : (enumL xs).length = xs.length := by simp [enumL, numsD]
theorem enumL_at {xs : List L3.D} {i : Nat} {d : L3.D} (h : (enumL xs)[i]? = some d) : ∃ x, xs[i]? = some x ∧ d = .tup [.int (i : Int), x] := by
  have hi := (List.getElem?_eq_some_iff.mp h).1
  rw [enumL_length] at hi
  refine ⟨xs[i], List.getElem?_eq_getElem hi, ?_⟩
  unfold enumL at h
  have hz : ((numsD xs.length).zip xs)[i]? = some (L3.D.int (i : Int), xs[i]) := List.getElem?_zip_eq_some.mpr ⟨by unfold numsD; rw [List.getElem?_map, List.getElem?_range hi]; rfl, List.getElem?_eq_getElem hi⟩
  rw [List.getElem?_map, hz] at h
  cases h
  rfl
def enOk (ds : List L3.D) (S : Store) (PI : ItD → Store → Prop) : Prop := match ds with
  | [.tup xs] => PI ⟨enumL xs, []⟩ S
  | [.ref n] => ∃ xs, lstO S n = some xs ∧ PI ⟨enumL xs, [(n, .lst xs)]⟩ S
  | _ => False
@[simp] theorem enOk_tup {xs : List L3.D} {PI : ItD → Store → Prop} : enOk [.tup xs] S PI ↔ PI ⟨enumL xs, []⟩ S := Iff.rfl
@[simp] theorem enOk_ref {n : Nat} {PI : ItD → Store → Prop} : enOk [.ref n] S PI ↔ ∃ xs, lstO S n = some xs ∧ PI ⟨enumL xs, [(n, .lst xs)]⟩ S := Iff.rfl
@[simp] theorem ok_enumA {PI : ItD → Store → Prop} : (enumA ms ρ S).OkX X PI ↔ (ms ρ S).OkX X fun ds S1 => enOk ds S1 PI := by
  unfold enumA
  rw [ok_bind]
  refine ⟨fun h => h.imp fun d S1 q => ?_, fun h => h.imp fun d S1 q => ?_⟩
  · split at q
    · exact ok_ok.mp q
    · split at q
      · rename_i e1; exact ⟨_, e1, ok_ok.mp q⟩
      · simp at q
    · simp at q
  · unfold enOk at q
    split at q
    · exact ok_ok.mpr q
    · obtain ⟨xs, e1, q⟩ := q
      try dsimp only
      rw [e1]
      exact ok_ok.mpr q
    · exact q.elim
end
/-! ### parts of a store, each with its place -/
structure Parts {ι : Type} (ok : ι → Prop) (loc : ι → Nat) (val : ι → O) (S : Store) : Prop where
  has : ∀ r, ok r → S[loc r]? = some (val r)
  inj : ∀ r q, ok r → ok q → loc r = loc q → r = q
section
variable {ι : Type} {ok : ι → Prop} {loc loc' : ι → Nat} {val val' : ι → O} {S S' : Store}
theorem Parts.lt (h : Parts ok loc val S) {r : ι} (o : ok r) : loc r < S.length := (List.getElem?_eq_some_iff.mp (h.has r o)).1
theorem Parts.more (h : Parts ok loc val S) (m : More S S') : Parts ok loc val S' := ⟨fun r o => m _ _ (h.has r o), h.inj⟩
theorem Parts.nx {p : Nat} (h : Parts ok loc val S) (hp : ∀ r, ok r → loc r ≠ p) (n : Nx p S S') : Parts ok loc val S' := ⟨fun r o => n.old _ _ (hp r o) (h.has r o), h.inj⟩
theorem Parts.set (h : Parts ok loc val S) {r : ι} (o : ok r) (hv : ∀ q, ok q → q ≠ r → val' q = val q) : Parts ok loc val' (S.set (loc r) (val' r)) := ⟨fun q oq => by
  by_cases e : q = r
  · subst e
    rw [List.getElem?_set_self (h.lt o)]
  · rw [List.getElem?_set_ne (fun z => e (h.inj q r oq o z.symm)), h.has q oq, hv q oq e], h.inj⟩
theorem Parts.other (h : Parts ok loc val S) {n : Nat} {o : O} (hn : ∀ r, ok r → loc r ≠ n) : Parts ok loc val (S.set n o) := ⟨fun q oq => by
  rw [List.getElem?_set_ne (fun z => hn q oq z.symm)]; exact h.has q oq, h.inj⟩
/-- the part r is made anew at n, and the part q that tells of it is set -/
theorem Parts.put [DecidableEq ι] (h : Parts ok loc val S) {S1 : Store} {r q : ι} (or : ok r) (oq : ok q) (hrq : r ≠ q) (m : More S S1) {n : Nat} (hn : S.length ≤ n) (hr : S1[n]? = some (val' r)) (hl : loc' = fun s => if s = r then n else loc s)
    (hv : ∀ s, ok s → s ≠ r → s ≠ q → val' s = val s) : Parts ok loc' val' (S1.set (loc q) (val' q)) := by
  subst hl
  have hs : ∀ s, ok s → loc s < S.length := fun s os => h.lt os
  have hql : loc q < S1.length := (List.getElem?_eq_some_iff.mp (m _ _ (h.has q oq))).1
  refine ⟨fun s os => ?_, fun s t os ot e => ?_⟩
  · by_cases e : s = r
    · subst e
      rw [if_pos rfl, List.getElem?_set_ne (by have := hs q oq; omega)]
      exact hr
    · rw [if_neg e]
      by_cases e2 : s = q
      · subst e2
        rw [List.getElem?_set_self hql]
      · rw [List.getElem?_set_ne (fun z => e2 (h.inj s q os oq z.symm)), hv s os e e2]
        exact m _ _ (h.has s os)
  · try dsimp only at e
    by_cases e1 : s = r
    · by_cases e2 : t = r
      · rw [e1, e2]
      · rw [if_pos e1, if_neg e2] at e
        have := hs t ot
        omega
    · by_cases e2 : t = r
      · rw [if_neg e1, if_pos e2] at e
        have := hs s os
        omega
      · rw [if_neg e1, if_neg e2] at e
        exact h.inj s t os ot e
end
end L3
set_option Elab.async false
set_option linter.all false
set_option maxRecDepth 100000
set_option maxHeartbeats 1000000
namespace L3
open PySem PySem.Spec PyProof.Rows L2 PySem.W
/-! ### frames: all stays but what stands at A -/
structure Fr (A : Nat → Prop) (S S' : Store) : Prop where
  len : S.length ≤ S'.length
  old : ∀ m o, ¬ A m → S[m]? = some o → S'[m]? = some o
section
variable {A B : Nat → Prop} {S S' S1 : Store}
theorem lt_of_at {n : Nat} {o : O} (h : S[n]? = some o) : n < S.length := (List.getElem?_eq_some_iff.mp h).1
theorem lst_lt {n : Nat} {xs : List L3.D} (h : lstO S n = some xs) : n < S.length := lt_of_at (lstO_at h)
theorem More.len (h : More S S') : S.length ≤ S'.length := by
  apply Classical.byContradiction
  intro c
  have hl : S'.length < S.length := by omega
  have := lt_of_at (h S'.length _ (List.getElem?_eq_getElem hl))
  omega
theorem Fr.refl : Fr A S S := ⟨Nat.le_refl _, fun _ _ _ e => e⟩
theorem Fr.of (h : More S S') : Fr A S S' := ⟨h.len, fun m o _ e => h m o e⟩
theorem Fr.trans (h : Fr A S S') (g : Fr A S' S1) : Fr A S S1 := ⟨Nat.le_trans h.len g.len, fun m o n e => g.old m o n (h.old m o n e)⟩
theorem Fr.more (h : Fr A S S') (g : More S' S1) : Fr A S S1 := h.trans (Fr.of g)
theorem Fr.mono (h : Fr A S S') (i : ∀ m, m < S.length → A m → B m) : Fr B S S' := ⟨h.len, fun m o n e => h.old m o (fun a => n (i m (lt_of_at e) a)) e⟩
theorem Fr.set (h : Fr A S S') {n : Nat} {o : O} (hn : A n ∨ S.length ≤ n) : Fr A S (S'.set n o) := ⟨by rw [List.length_set]; exact h.len, fun m u k e => by
  rw [List.getElem?_set_ne (fun z => by
    have := lt_of_at e
    rcases hn with hn | hn
    · exact k (z ▸ hn)
    · omega)]; exact h.old m u k e⟩
theorem Fr.lst (h : Fr A S S') {n : Nat} {xs : List L3.D} (hn : ¬ A n) (e : lstO S n = some xs) : lstO S' n = some xs := by
  unfold lstO
  rw [h.old n _ hn (lstO_at e)]
theorem Fr.to_more (h : Fr (fun _ => False) S S') : More S S' := fun m o e => h.old m o (fun x => x) e
end
def Reg {ι : Type} (ok : ι → Prop) (loc : ι → Nat) : Nat → Prop := fun m => ∃ r, ok r ∧ loc r = m
section
variable {ι : Type} {ok ok' : ι → Prop} {loc loc' : ι → Nat} {val val' : ι → O} {A : Nat → Prop} {S S' S1 : Store}
theorem Parts.fr (h : Parts ok loc val S) (f : Fr A S S') (hn : ∀ r, ok r → ¬ A (loc r)) : Parts ok loc val S' := ⟨fun r o => f.old _ _ (hn r o) (h.has r o), h.inj⟩
theorem Parts.upd [DecidableEq ι] (h : Parts ok loc val S) {r : ι} (o : ok r) (v : O) : Parts ok loc (fun q => if q = r then v else val q) (S.set (loc r) v) := ⟨fun q oq => by
  by_cases e : q = r
  · subst e
    rw [List.getElem?_set_self (h.lt o), if_pos rfl]
  · rw [List.getElem?_set_ne (fun z => e (h.inj q r oq o z.symm)), h.has q oq, if_neg e], h.inj⟩
theorem Parts.at [DecidableEq ι] (h : Parts ok loc val S) {r : ι} {n : Nat} {v : O} (hr : S[n]? = some v) (hn : ∀ q, ok q → q ≠ r → loc q ≠ n) :
    Parts (fun q => ok q ∨ q = r) (fun q => if q = r then n else loc q) (fun q => if q = r then v else val q) S := by
  refine ⟨fun q oq => ?_, fun q t oq ot e => ?_⟩
  · by_cases e : q = r
    · rw [if_pos e, if_pos e]; exact hr
    · rw [if_neg e, if_neg e]; exact h.has q (oq.resolve_right e)
  · try dsimp only at e
    by_cases e1 : q = r
    · by_cases e2 : t = r
      · rw [e1, e2]
      · rw [if_pos e1, if_neg e2] at e
        exact absurd e.symm (hn t (ot.resolve_right e2) e2)
    · by_cases e2 : t = r
      · rw [if_neg e1, if_pos e2] at e
        exact absurd e (hn q (oq.resolve_right e1) e1)
      · rw [if_neg e1, if_neg e2] at e
        exact h.inj q t (oq.resolve_right e1) (ot.resolve_right e2) e
theorem Parts.congr (h : Parts ok loc val S) (ho : ∀ r, ok' r → ok r) (hl : ∀ r, ok' r → loc' r = loc r) (hv : ∀ r, ok' r → val' r = val r) : Parts ok' loc' val' S :=
  ⟨fun r o => by rw [hl r o, hv r o]; exact h.has r (ho r o), fun r q o p e => h.inj r q (ho r o) (ho q p) (by rw [← hl r o, ← hl q p]; exact e)⟩
theorem Parts.reg_lt (h : Parts ok loc val S) {m : Nat} (hm : Reg ok loc m) : m < S.length := by
  obtain ⟨r, o, rfl⟩ := hm
  exact h.lt o
end
/-- one object is written -/
theorem Parts.one {ι : Type} [DecidableEq ι] {ok : ι → Prop} {loc : ι → Nat} {val : ι → O} {S0 S : Store} (h : Parts ok loc val S) (f : Fr (Reg ok loc) S0 S) {r : ι} (o : ok r) (v : O) :
    Parts ok loc (fun q => if q = r then v else val q) (S.set (loc r) v) ∧ Fr (Reg ok loc) S0 (S.set (loc r) v) ∧ (S.set (loc r) v).length = S.length ∧ ∀ a u, (∀ q, ok q → loc q ≠ a) → S[a]? = some u → (S.set (loc r) v)[a]? = some u :=
  ⟨h.upd o v, f.set (.inl ⟨r, o, rfl⟩), List.length_set, fun a u n e => by rw [List.getElem?_set_ne (n r o)]; exact e⟩
/-- a step of an object: it changes itself alone, and grows by new places alone -/
structure Mv (A B : Nat → Prop) (S S' : Store) : Prop where
  fr : Fr A S S'
  nw : ∀ m, B m → A m ∨ S.length ≤ m
theorem Mv.far {A B C : Nat → Prop} {S S' : Store} (h : Mv A B S S') (hc : ∀ m, C m → m < S.length) (d : ∀ m, C m → ¬ A m) : ∀ m, C m → ¬ B m := fun m c b => by
  rcases h.nw m b with x | x
  · exact d m c x
  · have := hc m c; omega
theorem Mv.trans {A B C : Nat → Prop} {S S' S1 : Store} (h : Mv A B S S') (g : Mv B C S' S1) : Mv A C S S1 :=
  ⟨⟨Nat.le_trans h.fr.len g.fr.len, fun m o n e => g.fr.old m o (fun b => by
    rcases h.nw m b with x | x
    · exact n x
    · have := lt_of_at e; omega) (h.fr.old m o n e)⟩, fun m c => by
    rcases g.nw m c with x | x
    · exact h.nw m x
    · exact .inr (Nat.le_trans h.fr.len x)⟩
section
variable {S : Store} {P : L3.D → Store → Prop}
theorem atI_last {α : Type} {xs : List α} {x : α} : atI (xs ++ [x]) (-1) = some x := by
  unfold atI ixN
  rw [if_neg (by decide), if_pos (by rw [List.length_append, List.length_singleton]; omega)]
  simp only [Option.bind_some, List.length_append, List.length_singleton]
  rw [show (-1 + ((xs.length + 1 : Nat) : Int)).toNat = xs.length by omega]
  simp
theorem atI_end {α : Type} {xs : List α} {x : α} (h : xs[xs.length - 1]? = some x) : atI xs (-1) = some x := by
  have hl := (List.getElem?_eq_some_iff.mp h).1
  unfold atI ixN
  rw [if_neg (by decide), if_pos (by omega)]
  simp only [Option.bind_some]
  rw [show (-1 + (xs.length : Int)).toNat = xs.length - 1 by omega]
  exact h
theorem ixN_lt {n i : Nat} (h : i < n) : ixN n (i : Int) = some i := by
  unfold ixN
  simp
  omega
theorem toP_lst {L n k : Nat} {xs : List L3.D} (hn : n ≤ 20) {m : Nat} (hm : n + 3 ≤ m) (hk : lstO S k = some xs) (hx : ∀ e ∈ xs, Gd L S n e) : ∃ q, toP m S (.ref k) = some q ∧ Lay (n + 2) q := by
  obtain ⟨m, rfl⟩ : ∃ j, m = j + 1 := ⟨m - 1, by omega⟩
  obtain ⟨qs, e2, h3, h4⟩ := lay_all (n := n + 1) (f := toP m S) (xs := xs) fun e me => toP_lay n e m (hx e me) (by omega)
  exact ⟨.list qs, by rw [toP_ref, hk, Option.bind_some, e2]; rfl, by simp [PyData.canLay0, h3], by simp [PyData.depth]; omega⟩
theorem toP_same {k j m : Nat} {xs : List L3.D} (hk : lstO S k = some xs) (hj : lstO S j = some xs) : toP m S (.ref k) = toP m S (.ref j) := by
  cases m with
  | zero => rfl
  | succ m => rw [toP_ref, toP_ref, hk, hj]
/-- lists alike are the same -/
theorem neq_lst {L n k j : Nat} {xs : List L3.D} (hn : n ≤ 20) (hk : lstO S k = some xs) (hj : lstO S j = some xs) (hx : ∀ e ∈ xs, Gd L S n e) : neD (.ref k) (.ref j) S = some (.bl false, S) := by
  obtain ⟨q, e, l⟩ := toP_lst (m := 40) hn (by omega) hk hx
  have p1 : ∀ k, pyS S (.ref k) = toP 40 S (.ref k) := fun _ => rfl
  unfold neD eqO
  simp only [flatEq, p1, e, toP_same hj hk, l.shaped (by omega), Bool.and_self, if_true, PySem.SeqAt.eqv_refl q l.1]
  rfl
theorem eq_lst {L n k j : Nat} {xs : List L3.D} (hn : n ≤ 20) (hk : lstO S k = some xs) (hj : lstO S j = some xs) (hx : ∀ e ∈ xs, Gd L S n e) : eqD (.ref k) (.ref j) S = some (.bl true, S) := by
  obtain ⟨q, e, l⟩ := toP_lst (m := 40) hn (by omega) hk hx
  have p1 : ∀ k, pyS S (.ref k) = toP 40 S (.ref k) := fun _ => rfl
  unfold eqD eqO
  simp only [flatEq, p1, e, toP_same hj hk, l.shaped (by omega), Bool.and_self, if_true, PySem.SeqAt.eqv_refl q l.1]
  rfl
/-! ### an object through steps of the store -/
theorem app_at {n : Nat} {o : O} {l : List O} (h : n = S.length) : (S ++ o :: l)[n]? = some o := by
  subst h
  rw [List.getElem?_append_right (Nat.le_refl _), Nat.sub_self]
  rfl
theorem ins_set {n : Nat} {C : Str} {fs : List (Str × L3.D)} (h : n < S.length) : insO (S.set n (.ins C fs)) C (.ref n) = some fs := insO_at (List.getElem?_set_self h)
theorem ins_app {n : Nat} {C : Str} {fs : List (Str × L3.D)} {l : List O} (h : insO S C (.ref n) = some fs) : insO (S ++ l) C (.ref n) = some fs := by
  unfold insO at h
  dsimp only at h
  split at h
  · rename_i C' fs' e
    unfold insO
    dsimp only
    rw [List.getElem?_append_left (lt_of_at e), e]
    exact h
  · cases h
theorem ins_sa {n : Nat} {C : Str} {fs : List (Str × L3.D)} {l : List O} (h : n < S.length) : insO (S.set n (.ins C fs) ++ l) C (.ref n) = some fs := ins_app (ins_set h)
theorem mulD_ref {n k : Nat} {xs : List L3.D} (h : lstO S n = some xs) (hk : xs.length * k ≤ 16777216) (h2 : k ≤ 1000000) : mulD (.ref n) (.int (k : Int)) S = some (.ref S.length, S ++ [.lst (List.replicate k xs).flatten]) := by
  simp only [mulD, h, Int.toNat_natCast, PySem.sizeLine_eq]
  rw [if_pos ⟨by omega, by omega, hk⟩]
@[simp] theorem refO_ref {n : Nat} : refO (.ref n) = n := rfl
/-- a comprehension that changes nothing that is there -/
theorem lc_gen {X : XT} {src : List (Nat × O)} {g : MG} {mt : MT} {me : ME} {ρ : DE} {items : List L3.D} (f : L3.D → Option L3.D) (hsrc : ∀ S', More S S' → srcOk src S') (hl : items.length ≤ 16000000)
    (step : ∀ (i : Nat) d S', items[i]? = some d → More S S' → (g d ρ S').Ok fun ρ1 S1 => (mt ρ1 S1).Ok fun k S2 => if k = true then (me ρ1 S2).Ok fun y S3 => f d = some y ∧ More S' S3 else f d = none ∧ More S' S2)
    (done : ∀ S', More S S' → lstO S' S.length = some (items.filterMap f) → P (.ref S.length) S') : (lcL src g mt me ρ S.length items (S ++ [.lst []])).OkX X P := by
  refine lc_inv (fun i acc S' => acc = (items.take i).filterMap f ∧ More S S') ⟨rfl, More.new _⟩ lstO_new (fun i acc S' _ h => hsrc S' h.2) ?_ ?_
  · rintro i d acc S' hi ⟨rfl, mo⟩ hn
    have hl' : ((items.take i).filterMap f).length < 16777216 := by
      have := List.length_filterMap_le f (items.take i)
      rw [List.length_take] at this
      omega
    have et : items.take (i + 1) = items.take i ++ [d] := by rw [List.take_succ, hi]; rfl
    refine R.Ok.imp (step i d S' hi mo) fun ρ1 S1 h1 => R.Ok.imp h1 fun k S2 h2 => ?_
    cases k with
    | true =>
      rw [if_pos rfl] at h2 ⊢
      refine R.Ok.imp h2 fun y S3 ⟨hf, m3⟩ => ⟨m3.lst hn, hl', ?_, (mo.trans m3).set (Nat.le_refl _) _⟩
      rw [et, List.filterMap_append]
      simp [hf]
    | false =>
      rw [if_neg Bool.false_ne_true] at h2 ⊢
      refine ⟨h2.2.lst hn, ?_, mo.trans h2.2⟩
      rw [et, List.filterMap_append]
      simp [h2.1]
  · rintro acc S' ⟨rfl, mo⟩ hn
    rw [List.take_length] at hn
    exact done S' mo hn
theorem lc_gen' {X : XT} {src : List (Nat × O)} {g : MG} {mt : MT} {me : ME} {ρ : DE} {items : List L3.D} {T : Store} {n : Nat} (f : L3.D → Option L3.D) (hT : T = S ++ [.lst []]) (hn : n = S.length) (hsrc : ∀ S', More S S' → srcOk src S') (hl : items.length ≤ 16000000)
    (step : ∀ (i : Nat) d S', items[i]? = some d → More S S' → (g d ρ S').Ok fun ρ1 S1 => (mt ρ1 S1).Ok fun k S2 => if k = true then (me ρ1 S2).Ok fun y S3 => f d = some y ∧ More S' S3 else f d = none ∧ More S' S2)
    (done : ∀ S', More S S' → lstO S' S.length = some (items.filterMap f) → P (.ref S.length) S') : (lcL src g mt me ρ n items T).OkX X P := by
  subst hT hn
  exact lc_gen f hsrc hl step done
/-- a loop that changes nothing that is there but the list q, which grows -/
theorem for_grow {Y : YT} {nx bk ct : DE → Store → Prop} {rt : L3.D → Store → Prop} {src : List (Nat × O)} {g : MG} {body : MS} {ρ : DE} {items : List L3.D} {q : Nat} {acc0 : List L3.D} (E : DE → Prop) (f : Nat → L3.D → List L3.D) (h0 : E ρ) (hq : lstO S q = some acc0) (hsrc : ∀ S', (∀ m o, m ≠ q → S[m]? = some o → S'[m]? = some o) → srcOk src S')
    (step : ∀ i d acc ρ S', items[i]? = some d → E ρ → (∀ m o, m ≠ q → S[m]? = some o → S'[m]? = some o) → lstO S' q = some acc → acc = acc0 ++ (List.range i).flatMap (fun j => f j (items.getD j .non)) → (g d ρ S').Ok fun ρ1 S1 => (body ρ1 S1).OkX Y (fun ρ S2 => E ρ ∧ (∀ m o, m ≠ q → S'[m]? = some o → S2[m]? = some o) ∧ lstO S2 q = some (acc ++ f i d)) rt nx (fun ρ S2 => E ρ ∧ (∀ m o, m ≠ q → S'[m]? = some o → S2[m]? = some o) ∧ lstO S2 q = some (acc ++ f i d)))
    (done : ∀ ρ S', E ρ → (∀ m o, m ≠ q → S[m]? = some o → S'[m]? = some o) → lstO S' q = some (acc0 ++ (List.range items.length).flatMap (fun j => f j (items.getD j .non))) → nx ρ S') : (forL src g body items ρ S).OkX Y nx rt bk ct := by
  refine for_inv (fun i ρ S' => E ρ ∧ (∀ m o, m ≠ q → S[m]? = some o → S'[m]? = some o) ∧ lstO S' q = some (acc0 ++ (List.range i).flatMap (fun j => f j (items.getD j .non)))) ⟨h0, fun _ _ _ e => e, by simpa using hq⟩ (fun i ρ S' _ h => hsrc S' h.2.1) ?_ (fun ρ S' h => done ρ S' h.1 h.2.1 h.2.2)
  rintro i d ρ S' hi ⟨he, mo, hn⟩
  have ed : items.getD i .non = d := by rw [List.getD_eq_getElem?_getD, hi]; rfl
  have key : ∀ ρ S2, (E ρ ∧ (∀ m o, m ≠ q → S'[m]? = some o → S2[m]? = some o) ∧ lstO S2 q = some (acc0 ++ (List.range i).flatMap (fun j => f j (items.getD j .non)) ++ f i d)) → (E ρ ∧ (∀ m o, m ≠ q → S[m]? = some o → S2[m]? = some o) ∧ lstO S2 q = some (acc0 ++ (List.range (i + 1)).flatMap (fun j => f j (items.getD j .non)))) := fun ρ S2 h => ⟨h.1, fun m o hm e => h.2.1 m o hm (mo m o hm e), by
    rw [h.2.2, List.range_succ, List.flatMap_append]
    simp only [List.flatMap_cons, List.flatMap_nil, List.append_nil, ed, List.append_assoc]⟩
  refine R.Ok.imp (step i d _ ρ S' hi he mo hn rfl) fun ρ1 S1 h => SR.Ok.imp h key (fun _ _ h => h) (fun _ _ h => h) key
end
end L3
namespace L3
open PySem PySem.Spec PyProof.Rows L2 PySem.W
section
variable {ι ι' : Type} {ok ok' : ι → Prop} {loc loc' : ι → Nat} {val val' : ι → O} {S S' : Store}
/-- a part of the parts -/
theorem Parts.sub (h : Parts ok loc val S) (j : ι' → ι) (hj : ∀ a b, j a = j b → a = b) : Parts (fun r => ok (j r)) (fun r => loc (j r)) (fun r => val (j r)) S := ⟨fun r o => h.has _ o, fun r q or oq e => hj _ _ (h.inj _ _ or oq e)⟩
/-- a part of the parts takes a step -/
theorem Parts.swap {ok1 : ι' → Prop} {loc1 : ι' → Nat} {val1 : ι' → O} (h : Parts ok loc val S) (j : ι' → ι) (h1 : Parts ok1 loc1 val1 S') (m : Mv (Reg (fun r => ok (j r)) fun r => loc (j r)) (Reg ok1 loc1) S S')
    (c1 : ∀ r, ok' (j r) → ok1 r ∧ loc' (j r) = loc1 r ∧ val' (j r) = val1 r) (c2 : ∀ q, (∀ r, q ≠ j r) → ok' q → ok q ∧ loc' q = loc q ∧ val' q = val q) : Parts ok' loc' val' S' := by
  have far : ∀ q, (∀ r, q ≠ j r) → ok q → ¬ Reg (fun r => ok (j r)) (fun r => loc (j r)) (loc q) := fun q hq oq ⟨r, or, e⟩ => hq r (h.inj _ _ or oq e).symm
  have cross : ∀ q r, (∀ r, q ≠ j r) → ok q → ok1 r → loc q ≠ loc1 r := fun q r hq oq or e => by
    rcases m.nw _ ⟨r, or, rfl⟩ with x | x
    · rw [← e] at x; exact far q hq oq x
    · have := h.lt oq; omega
  refine ⟨fun q oq => ?_, fun q t oq ot e => ?_⟩
  · by_cases hq : ∃ r, q = j r
    · obtain ⟨r, rfl⟩ := hq
      obtain ⟨a, b, c⟩ := c1 r oq
      rw [b, c]
      exact h1.has r a
    · have hq' : ∀ r, q ≠ j r := fun r e => hq ⟨r, e⟩
      obtain ⟨a, b, c⟩ := c2 q hq' oq
      rw [b, c]
      exact m.fr.old _ _ (far q hq' a) (h.has q a)
  · by_cases hq : ∃ r, q = j r
    · obtain ⟨r, rfl⟩ := hq
      obtain ⟨a, b, _⟩ := c1 r oq
      by_cases ht : ∃ r, t = j r
      · obtain ⟨s, rfl⟩ := ht
        obtain ⟨a', b', _⟩ := c1 s ot
        rw [b, b'] at e
        rw [h1.inj _ _ a a' e]
      · have ht' : ∀ r, t ≠ j r := fun r e => ht ⟨r, e⟩
        obtain ⟨a', b', _⟩ := c2 t ht' ot
        rw [b, b'] at e
        exact absurd e.symm (cross t r ht' a' a)
    · have hq' : ∀ r, q ≠ j r := fun r e => hq ⟨r, e⟩
      obtain ⟨a, b, _⟩ := c2 q hq' oq
      by_cases ht : ∃ r, t = j r
      · obtain ⟨s, rfl⟩ := ht
        obtain ⟨a', b', _⟩ := c1 s ot
        rw [b, b'] at e
        exact absurd e (cross q s hq' a a')
      · have ht' : ∀ r, t ≠ j r := fun r e => ht ⟨r, e⟩
        obtain ⟨a', b', _⟩ := c2 t ht' ot
        rw [b, b'] at e
        exact h.inj _ _ a a' e
theorem Mv.more {A : Nat → Prop} {S S' S1 : Store} (h : Mv A A S S') (m : More S' S1) : Mv A A S S1 := ⟨h.fr.more m, h.nw⟩
theorem Mv.refl {A : Nat → Prop} {S : Store} : Mv A A S S := ⟨Fr.refl, fun _ h => .inl h⟩
theorem Mv.of {A : Nat → Prop} {S S' : Store} (m : More S S') : Mv A A S S' := ⟨Fr.of m, fun _ h => .inl h⟩
/-- one of the parts is written in place -/
theorem Parts.put1 (h : Parts ok loc val S) {r : ι} (o : ok r) (v : O) (hv : ∀ q, ok q → q ≠ r → val' q = val q) (hr : val' r = v) : Parts ok loc val' (S.set (loc r) v) ∧ Mv (Reg ok loc) (Reg ok loc) S (S.set (loc r) v) := by
  subst hr
  exact ⟨h.set o hv, ⟨Fr.refl.set (.inl ⟨r, o, rfl⟩), fun _ h => .inl h⟩⟩
/-- one of the parts is made anew at the store's end, and the part that tells of it is written -/
theorem Parts.put2 [DecidableEq ι] (h : Parts ok loc val S) {r q : ι} (or : ok r) (oq : ok q) (hrq : r ≠ q) (m : More S S') {n : Nat} (hn : S.length ≤ n) {v u : O} (hr : S'[n]? = some v) (hl : ∀ s, loc' s = if s = r then n else loc s) (h1 : val' r = v) (h2 : val' q = u)
    (hv : ∀ s, ok s → s ≠ r → s ≠ q → val' s = val s) : Parts ok loc' val' (S'.set (loc q) u) ∧ Mv (Reg ok loc) (Reg ok loc') S (S'.set (loc q) u) := by
  subst h1 h2
  have el : loc' = fun s => if s = r then n else loc s := funext hl
  refine ⟨Parts.put h or oq hrq m hn hr el hv, ⟨(Fr.of m).set (.inl ⟨q, oq, rfl⟩), ?_⟩⟩
  rintro k ⟨s, os, rfl⟩
  rw [hl]
  by_cases e : s = r
  · rw [if_pos e]; exact .inr hn
  · rw [if_neg e]; exact .inl ⟨s, os, rfl⟩
end
end L3
namespace L3
open PySem PySem.Spec PyProof.Rows L2 PySem.W
section
variable {S : Store} {ρ : DE} {nx bk ct : DE → Store → Prop} {rt : L3.D → Store → Prop} {X : XT} {Y : YT} {m mo mv mk me : ME} {P : L3.D → Store → Prop}
@[simp] theorem sok_fldaug {C f : Str} {g : Int → Int → Int} : (fldaugM C f g mo mv ρ S).OkX Y nx rt bk ct ↔ (mo ρ S).OkX (Y ρ) fun d S1 => ∃ fs, insO S1 C d = some fs ∧ ∃ i, fs.lookup f = some (.int i) ∧ (mv ρ S1).OkX (Y ρ) fun v S2 => ∃ j, v = .int j ∧ ∃ gs, insO S2 C d = some gs ∧ gs.length < 1000 ∧ nx ρ (S2.set (refO d) (.ins C (putFD f (.int (g i j)) gs))) := by
  have hi : ∀ d : L3.D, ∀ i, intO d = some i ↔ d = .int i := fun d i => by cases d <;> simp [intO]
  unfold fldaugM
  rw [sok_sb]
  refine ⟨fun h => h.imp fun d S1 q => ?_, fun h => h.imp fun d S1 q => ?_⟩
  · cases e1 : insO S1 C d with
    | none => rw [e1] at q; exact q.elim
    | some fs =>
      rw [e1] at q
      simp only [Option.bind_some] at q
      cases e2 : fs.lookup f with
      | none => rw [e2] at q; exact q.elim
      | some x =>
        rw [e2] at q
        simp only [Option.bind_some] at q
        cases e3 : intO x with
        | none => rw [e3] at q; exact q.elim
        | some i =>
          rw [e3] at q
          dsimp only at q
          rw [sok_sb] at q
          rw [hi] at e3
          subst e3
          refine ⟨fs, rfl, i, e2, q.imp fun v S2 q => ?_⟩
          cases e4 : intO v with
          | none => rw [e4] at q; exact q.elim
          | some j =>
            rw [e4] at q
            rw [hi] at e4
            subst e4
            cases e5 : insO S2 C d with
            | none => rw [e5] at q; exact q.elim
            | some gs =>
              rw [e5] at q
              dsimp only at q
              by_cases c : gs.length < 1000
              · rw [if_pos c] at q; exact ⟨j, rfl, gs, rfl, c, q⟩
              · rw [if_neg c] at q; exact q.elim
  · obtain ⟨fs, e1, i, e2, q⟩ := q
    rw [e1]
    simp only [Option.bind_some, e2, intO_int]
    rw [sok_sb]
    refine q.imp fun v S2 q => ?_
    obtain ⟨j, rfl, gs, e5, c, q⟩ := q
    rw [e5]
    simp only [intO_int]
    rw [if_pos c]
    exact q
@[simp] theorem sok_daug {g : Int → Int → Int} : (daugM g mo mk mv ρ S).OkX Y nx rt bk ct ↔ (mo ρ S).OkX (Y ρ) fun d S1 => (mk ρ S1).OkX (Y ρ) fun k S2 => ∃ kvs, dicD S2 d = some kvs ∧ ∃ k', keyO k = some k' ∧ ∃ i, valD kvs k' = some (.int i) ∧ (mv ρ S2).OkX (Y ρ) fun v S3 => ∃ j, v = .int j ∧ ∃ kws, dicD S3 d = some kws ∧ kws.length < sizeLine ∧ nx ρ (S3.set (refO d) (.dic (putD kws k' (.int (g i j))))) := by
  have hi : ∀ d : L3.D, ∀ i, intO d = some i ↔ d = .int i := fun d i => by cases d <;> simp [intO]
  unfold daugM
  rw [sok_sb]
  refine ⟨fun h => h.imp fun d S1 q => ?_, fun h => h.imp fun d S1 q => ?_⟩
  · rw [sok_sb] at q
    refine q.imp fun k S2 q => ?_
    cases e1 : dicD S2 d with
    | none => rw [e1] at q; exact q.elim
    | some kvs =>
      rw [e1] at q
      cases e2 : keyO k with
      | none => rw [e2] at q; exact q.elim
      | some k' =>
        rw [e2] at q
        simp only [Option.bind_some] at q
        cases e3 : valD kvs k' with
        | none => rw [e3] at q; exact q.elim
        | some x =>
          rw [e3] at q
          simp only [Option.bind_some] at q
          cases e4 : intO x with
          | none => rw [e4] at q; exact q.elim
          | some i =>
            rw [e4] at q
            dsimp only at q
            rw [sok_sb] at q
            rw [hi] at e4
            subst e4
            refine ⟨kvs, rfl, k', rfl, i, e3, q.imp fun v S3 q => ?_⟩
            cases e5 : intO v with
            | none => rw [e5] at q; exact q.elim
            | some j =>
              rw [e5] at q
              rw [hi] at e5
              subst e5
              cases e6 : dicD S3 d with
              | none => rw [e6] at q; exact q.elim
              | some kws =>
                rw [e6] at q
                dsimp only at q
                by_cases c : kws.length < sizeLine
                · rw [if_pos c] at q; exact ⟨j, rfl, kws, rfl, c, q⟩
                · rw [if_neg c] at q; exact q.elim
  · rw [sok_sb]
    refine q.imp fun k S2 q => ?_
    obtain ⟨kvs, e1, k', e2, i, e3, q⟩ := q
    rw [e1]
    simp only [Option.bind_some, e2, e3, intO_int]
    rw [sok_sb]
    refine q.imp fun v S3 q => ?_
    obtain ⟨j, rfl, kws, e6, c, q⟩ := q
    rw [e6]
    simp only [intO_int]
    rw [if_pos c]
    exact q
@[simp] theorem ok_dcE {mi : MI} {vs : List Nat} {g : MG} {mt : MT} : (dcE mi vs g mt mk me ρ S).OkX X P ↔ (mi ρ S).OkX X fun it S1 => (dcL it.src g mt mk me (wipeD ρ vs) S1.length it.items (S1 ++ [.dic []])).OkX X P := by simp [dcE]
theorem dicO_set {n : Nat} {k k' : List (Key × L3.D)} (h : dicO S n = some k) : dicO (S.set n (.dic k')) n = some k' := by
  have : n < S.length := by
    unfold dicO at h
    split at h
    · rename_i e; exact lt_of_at e
    · cases h
  simp [dicO, this]
theorem dc_inv {src : List (Nat × O)} {g : MG} {mt : MT} {items : List L3.D} {n : Nat} (I : Nat → List (Key × L3.D) → Store → Prop) (h0 : I 0 [] S) (hn : dicO S n = some []) (hs : ∀ i acc S, i ≤ items.length → I i acc S → srcOk src S)
    (step : ∀ (i : Nat) d acc S, items[i]? = some d → I i acc S → dicO S n = some acc → (g d ρ S).Ok fun ρ1 S1 => (mt ρ1 S1).Ok fun k S2 => if k = true then (mk ρ1 S2).Ok fun y S3 => (me ρ1 S3).Ok fun z S4 => dicO S4 n = some acc ∧ acc.length < 16777216 ∧ ∃ k, keyO y = some k ∧ I (i + 1) (putD acc k z) (S4.set n (.dic (putD acc k z))) else dicO S2 n = some acc ∧ I (i + 1) acc S2)
    (done : ∀ acc S, I items.length acc S → dicO S n = some acc → P (.ref n) S) : (dcL src g mt mk me ρ n items S).OkX X P := by
  have key : ∀ k i acc S, i + k = items.length → I i acc S → dicO S n = some acc → (dcL src g mt mk me ρ n (items.drop i) S).OkX X P := by
    intro k
    induction k with
    | zero =>
      intro i acc S e h hn
      have ei : i = items.length := by omega
      subst ei
      rw [List.drop_length]
      unfold dcL
      rw [if_pos (hs _ _ _ (Nat.le_refl _) h)]
      exact ok_ok.mpr (done _ _ h hn)
    | succ k ih =>
      intro i acc S e h hn
      have hi : i < items.length := by omega
      rw [List.drop_eq_getElem_cons hi]
      unfold dcL
      rw [if_pos (hs _ _ _ (by omega) h)]
      obtain ⟨ρ1, S1, e1, h2⟩ := (step i _ acc S (List.getElem?_eq_getElem hi) h hn).ex
      obtain ⟨kk, S2, e2, h2⟩ := R.Ok.ex h2
      rw [e1]
      dsimp only
      rw [e2]
      dsimp only
      cases kk with
      | true =>
        rw [if_pos rfl] at h2 ⊢
        obtain ⟨y, S3, e3, h2⟩ := R.Ok.ex h2
        rw [e3]
        dsimp only
        obtain ⟨z, S4, e4, q1, q2, k, q3, q4⟩ := R.Ok.ex h2
        rw [e4]
        dsimp only
        rw [q1, q3]
        dsimp only
        rw [if_pos (by rw [PySem.sizeLine_eq]; exact q2)]
        exact ih (i + 1) _ _ (by omega) q4 (dicO_set q1)
      | false =>
        rw [if_neg Bool.false_ne_true] at h2 ⊢
        exact ih (i + 1) _ _ (by omega) h2.2 h2.1
  exact key items.length 0 [] S (by omega) h0 hn
end
end L3
set_option Elab.async false
set_option linter.all false
set_option maxRecDepth 100000
set_option maxHeartbeats 1000000
/-! texts cut at one sign -/
namespace L3
open PySem PySem.Spec PyProof.Rows L2
def cutL (c : Nat) : List Nat → List (List Nat)
  | [] => [[]]
  | a :: r => if a = c then [] :: cutL c r else match cutL c r with
    | [] => [[a]]
    | p :: ps => (a :: p) :: ps
def cutN (c : Nat) : Nat → List Nat → List (List Nat)
  | 0, l => [l]
  | _ + 1, [] => [[]]
  | k + 1, a :: r => if a = c then [] :: cutN c k r else match cutN c (k + 1) r with
    | [] => [[a]]
    | p :: ps => (a :: p) :: ps
theorem cutL_app {c : Nat} : ∀ {p r : List Nat}, c ∉ p → cutL c (p ++ c :: r) = p :: cutL c r
  | [], r, _ => by simp [cutL]
  | a :: p, r, h => by
    have h1 : a ≠ c := fun e => h (by simp [e])
    have h2 : c ∉ p := fun e => h (by simp [e])
    simp [cutL, h1, cutL_app h2]
theorem cutL_none {c : Nat} : ∀ {p : List Nat}, c ∉ p → cutL c p = [p]
  | [], _ => by simp [cutL]
  | a :: p, h => by
    have h1 : a ≠ c := fun e => h (by simp [e])
    have h2 : c ∉ p := fun e => h (by simp [e])
    simp [cutL, h1, cutL_none h2]
theorem cutN_app {c k : Nat} : ∀ {p r : List Nat}, c ∉ p → cutN c (k + 1) (p ++ c :: r) = p :: cutN c k r
  | [], r, _ => by simp [cutN]
  | a :: p, r, h => by
    have h1 : a ≠ c := fun e => h (by simp [e])
    have h2 : c ∉ p := fun e => h (by simp [e])
    simp [cutN, h1, cutN_app h2]
theorem cutN_none {c : Nat} : ∀ {k : Nat} {p : List Nat}, c ∉ p → cutN c k p = [p]
  | 0, _, _ => by simp [cutN]
  | _ + 1, [], _ => by simp [cutN]
  | k + 1, a :: p, h => by
    have h1 : a ≠ c := fun e => h (by simp [e])
    have h2 : c ∉ p := fun e => h (by simp [e])
    simp [cutN, h1, cutN_none h2]
theorem cut_cases (c : Nat) : ∀ l : List Nat, c ∉ l ∨ ∃ p r, l = p ++ c :: r ∧ c ∉ p
  | [] => .inl (by simp)
  | a :: l => by
    by_cases h : a = c
    · exact .inr ⟨[], l, by simp [h], by simp⟩
    · rcases cut_cases c l with h2 | ⟨p, r, rfl, h2⟩
      · exact .inl (by simp [h2, Ne.symm h])
      · exact .inr ⟨a :: p, r, rfl, by simp [h2, Ne.symm h]⟩
theorem spl_cut {c : Nat} : ∀ (n : Nat) (l : List Nat), l.length ≤ n → TL.spl [c] 0 [] l = cutL c l := by
  intro n
  induction n with
  | zero =>
    intro l h
    have : l = [] := List.length_eq_zero_iff.mp (by omega)
    subst this
    rw [cutL_none (by simp)]
    exact TL.spl_last1 (s := c) (S := []) (p := []) (by simp)
  | succ n ih =>
    intro l h
    rcases cut_cases c l with h2 | ⟨p, r, rfl, h2⟩
    · rw [cutL_none h2]
      exact TL.spl_last1 (s := c) (S := []) h2
    · rw [cutL_app h2]
      have := TL.spl_part1 (s := c) (S := []) (p := p) (rest := r) (acc := []) h2
      simp only [List.cons_append, List.nil_append] at this
      rw [this, ih r (by simp at h; omega)]
def mkS (l : List Nat) : Str := ⟨l.toArray⟩
theorem mkS_cps (l : List Nat) : (mkS l).cps.toList = l := by simp [mkS]
theorem of_cps (x : Str) : mkS x.cps.toList = x := str_ext (mkS_cps _)
/-- a text split at one sign -/
theorem split_cut (l : List Nat) (c : Nat) (hc : c < 256) : Txt.split (mkS l) ⟨#[c]⟩ = (cutL c l).map mkS := by
  have h := TL.split_spl (mkS l) ⟨#[c]⟩ (by simp [TL.tl]) (TL.kind_ok (by simp [hc]))
  refine TL.map_tl_inj ?_
  rw [h, List.map_map]
  rw [show TL.tl (⟨#[c]⟩ : Str) = [c] from rfl, show TL.tl (mkS l) = l from mkS_cps l, spl_cut _ l (Nat.le_refl _)]
  symm
  conv => rhs; rw [← List.map_id (cutL c l)]
  exact List.map_congr_left fun p _ => mkS_cps p
def occL (c : Nat) : Nat → List Nat → List Nat
  | _, [] => []
  | i, a :: r => if a = c then i :: occL c (i + 1) r else occL c (i + 1) r
theorem occL_app {c : Nat} : ∀ {p r : List Nat} {i : Nat}, c ∉ p → occL c i (p ++ c :: r) = (i + p.length) :: occL c (i + p.length + 1) r
  | [], r, i, _ => by simp [occL]
  | a :: p, r, i, h => by
    have h1 : a ≠ c := fun e => h (by simp [e])
    have h2 : c ∉ p := fun e => h (by simp [e])
    simp [occL, h1, occL_app h2, Nat.add_assoc, Nat.add_comm 1]
theorem occL_none {c : Nat} : ∀ {p : List Nat} {i : Nat}, c ∉ p → occL c i p = []
  | [], i, _ => rfl
  | a :: p, i, h => by
    have h1 : a ≠ c := fun e => h (by simp [e])
    have h2 : c ∉ p := fun e => h (by simp [e])
    simp [occL, h1, occL_none h2]
theorem occ_run (x : Str) (c L : Nat) : ∀ (m cur : Nat) (st : Array Nat × Nat), st.2 ≤ cur → cur + m = x.length + 1 →
    (forIn (List.range' cur m) st (StrLaws.occBody x ⟨#[c]⟩ x.length L)).run.fst.toList = st.1.toList ++ (occL c cur (x.cps.toList.drop cur)).take (L - st.1.size) := by
  intro m
  induction m with
  | zero =>
    intro cur st h1 h2
    have : x.cps.toList.drop cur = [] := List.drop_eq_nil_of_le (by rw [← len_cps]; omega)
    rw [this]
    simp [occL]
  | succ m ih =>
    intro cur st h1 h2
    rw [List.range'_succ, List.forIn_cons]
    unfold StrLaws.occBody
    have one := StrLaws.subAt_one x c cur
    by_cases hc : cur < x.length
    · have hd : x.cps.toList.drop cur = x.cps.toList[cur]'(by rw [← len_cps]; exact hc) :: x.cps.toList.drop (cur + 1) := List.drop_eq_getElem_cons _
      have hg : x.cps.toList[cur]? = some (x.cps.toList[cur]'(by rw [← len_cps]; exact hc)) := List.getElem?_eq_getElem _
      by_cases he : x.cps.toList[cur]'(by rw [← len_cps]; exact hc) = c
      · by_cases hL : st.1.size < L
        · have h3 := one.mpr (by rw [hg, he])
          rw [if_pos ⟨⟨⟨hL, h1⟩, h3.1⟩, h3.2⟩]
          refine (ih (cur + 1) (st.1.push cur, cur + 1) (Nat.le_refl _) (by omega)).trans ?_
          rw [hd]
          simp only [occL, he, if_true]
          rw [Array.toList_push, Array.size_push]
          have : L - st.1.size = (L - (st.1.size + 1)) + 1 := by omega
          rw [this, List.take_succ_cons, List.append_assoc]
          rfl
        · rw [if_neg (fun z => hL z.1.1.1)]
          refine (ih (cur + 1) (st.1, st.2) (Nat.le_succ_of_le h1) (by omega)).trans ?_
          rw [show L - st.1.size = 0 by omega, List.take_zero, List.take_zero]
      · rw [if_neg (fun z => he (by have := one.mp ⟨z.1.2, z.2⟩; rw [hg] at this; exact Option.some.inj this))]
        refine (ih (cur + 1) (st.1, st.2) (Nat.le_succ_of_le h1) (by omega)).trans ?_
        rw [hd]
        simp only [occL, if_neg he]
    · rw [if_neg (fun z => by have := z.1.2; have e : (⟨#[c]⟩ : Str).length = 1 := rfl; omega)]
      refine (ih (cur + 1) (st.1, st.2) (Nat.le_succ_of_le h1) (by omega)).trans ?_
      have e1 : x.cps.toList.drop cur = [] := List.drop_eq_nil_of_le (by rw [← len_cps]; omega)
      have e2 : x.cps.toList.drop (cur + 1) = [] := List.drop_eq_nil_of_le (by rw [← len_cps]; omega)
      rw [e1, e2]
      simp [occL]
theorem occ_one (x : Str) (c L : Nat) : Builtin.Str.occurrences x ⟨#[c]⟩ 0 x.length L = (occL c 0 x.cps.toList).take L := by
  rw [StrLaws.occ_eq]
  have := occ_run x c L (x.length + 1 - 0) 0 (#[], 0) (Nat.le_refl _) (by omega)
  simpa using this
theorem parts_cut (x : Str) (c : Nat) : ∀ (n k a : Nat) (l : List Nat), l.length ≤ n → x.cps.toList.drop a = l → a + l.length = x.length →
    (StrLaws.partsFrom x 1 a ((occL c a l).take k)).map TL.tl = cutN c k l := by
  intro n
  induction n with
  | zero =>
    intro k a l h h1 h2
    have : l = [] := List.length_eq_zero_iff.mp (by omega)
    subst this
    rw [cutN_none (by simp)]
    simp only [occL, List.take_nil]
    show [TL.tl (Builtin.Str.strSub x a x.length)] = _
    rw [TL.tl_strSub_end]
    exact congrArg (fun z => [z]) h1
  | succ n ih =>
    intro k a l h h1 h2
    have last : (StrLaws.partsFrom x 1 a []).map TL.tl = [l] := by
      show [TL.tl (Builtin.Str.strSub x a x.length)] = _
      rw [TL.tl_strSub_end]
      exact congrArg (fun z => [z]) h1
    rcases cut_cases c l with h3 | ⟨p, r, rfl, h3⟩
    · rw [cutN_none h3, occL_none h3, List.take_nil]
      exact last
    · cases k with
      | zero => rw [List.take_zero, last]; simp [cutN]
      | succ k =>
        rw [cutN_app h3, occL_app h3, List.take_succ_cons]
        show TL.tl (Builtin.Str.strSub x a (a + p.length)) :: (StrLaws.partsFrom x 1 (a + p.length + 1) _).map TL.tl = _
        have e1 : TL.tl (Builtin.Str.strSub x a (a + p.length)) = p := by
          rw [TL.tl_strSub, show TL.tl x = x.cps.toList from rfl, h1, Nat.add_sub_cancel_left]
          simp
        rw [e1, ih k (a + p.length + 1) r (by simp at h; omega) ?_ (by simp at h2; omega)]
        have := congrArg (List.drop (p.length + 1)) h1
        rw [List.drop_drop] at this
        rw [Nat.add_assoc, this]
        have e : p ++ c :: r = (p ++ [c]) ++ r := by simp
        rw [e]
        have e2 : p.length + 1 = (p ++ [c]).length := by simp
        rw [e2, List.drop_left]
/-- a text split at one sign, k times -/
theorem splitMax_cut (l : List Nat) (c k : Nat) (hc : c < 256) : Txt.splitMax (mkS l) ⟨#[c]⟩ (k : Int) = (cutN c k l).map mkS := by
  have key := parts_cut (mkS l) c l.length k 0 l (Nat.le_refl _) (mkS_cps l) (by rw [len_cps, mkS_cps]; omega)
  have lim : limitOf (mkS l) (k : Int) = k := by unfold limitOf; rw [if_neg (by omega)]; exact Int.toNat_natCast k
  have occ := occ_one (mkS l) c k
  rw [mkS_cps] at occ
  have back : (cutN c k l).map mkS = StrLaws.partsFrom (mkS l) 1 0 ((occL c 0 l).take k) := by
    refine TL.map_tl_inj ?_
    rw [key, List.map_map]
    conv => rhs; rw [← List.map_id (cutN c k l)]
    exact List.map_congr_left fun p _ => mkS_cps p
  have none_case : (occL c 0 l).take k = [] → [mkS l] = (cutN c k l).map mkS := fun e => by
    rw [back, e]
    show _ = [Builtin.Str.strSub (mkS l) 0 (mkS l).length]
    rw [StrLaws.sub_whole]
  unfold Txt.splitMax
  rw [lim, occ]
  by_cases h1 : (decide ((mkS l).length < (⟨#[c]⟩ : Str).length) || decide (Builtin.Str.strKind (mkS l) < Builtin.Str.strKind ⟨#[c]⟩)) = true
  · rw [if_pos h1]
    have hlt : (mkS l).length < 1 := by
      simp only [Bool.or_eq_true, decide_eq_true_eq] at h1
      rcases h1 with h | h
      · exact h
      · exact absurd h (TL.kind_ok (by simp [hc]))
    have : l = [] := by
      rw [len_cps, mkS_cps] at hlt
      exact List.length_eq_zero_iff.mp (by omega)
    subst this
    exact none_case (by simp [occL])
  · rw [if_neg h1]
    by_cases h2 : ((occL c 0 l).take k).isEmpty = true
    · rw [if_pos h2]
      exact none_case (List.isEmpty_iff.mp h2)
    · rw [if_neg h2, StrLaws.partsBetween_eq, back]
      rfl
/-- words joined by a sign -/
def joinL (c : Nat) : List (List Nat) → List Nat
  | [] => []
  | [p] => p
  | p :: q :: ps => p ++ c :: joinL c (q :: ps)
theorem cutL_join {c : Nat} : ∀ {ps : List (List Nat)}, ps ≠ [] → (∀ p ∈ ps, c ∉ p) → cutL c (joinL c ps) = ps
  | [], h, _ => absurd rfl h
  | [p], _, h => cutL_none (h p (by simp))
  | p :: q :: ps, _, h => by
    show cutL c (p ++ c :: joinL c (q :: ps)) = _
    rw [cutL_app (h p (by simp)), cutL_join (by simp) fun z m => h z (List.mem_cons_of_mem _ m)]
theorem cutN_join {c : Nat} {z : List Nat} : ∀ {ps : List (List Nat)}, (∀ p ∈ ps, c ∉ p) → cutN c ps.length (joinL c (ps ++ [z])) = ps ++ [z]
  | [], _ => by simp [cutN, joinL]
  | [p], h => by
    show cutN c 1 (p ++ c :: z) = _
    rw [cutN_app (h p (by simp))]; simp [cutN]
  | p :: q :: ps, h => by
    show cutN c (ps.length + 1 + 1) (p ++ c :: joinL c (q :: ps ++ [z])) = _
    rw [cutN_app (h p (by simp))]
    have := cutN_join (z := z) (ps := q :: ps) fun w m => h w (List.mem_cons_of_mem _ m)
    simp only [List.length_cons] at this
    rw [this]
    rfl
theorem joinL_cps (c : Nat) : ∀ ks : List Str, (Txt.join ⟨#[c]⟩ ks).cps.toList = joinL c (ks.map fun k => k.cps.toList) := by
  intro ks
  rw [TL.join_eq]
  have := TL.tl_join ⟨#[c]⟩ ks
  refine this.trans ?_
  rw [show TL.tl (⟨#[c]⟩ : Str) = [c] from rfl]
  show TL.joinL [c] (ks.map fun k => k.cps.toList) = _
  generalize (ks.map fun k => k.cps.toList) = ps
  induction ps with
  | nil => rfl
  | cons p ps ih =>
    cases ps with
    | nil => rfl
    | cons q ps =>
      show p ++ ([c] ++ TL.joinL [c] (q :: ps)) = p ++ c :: joinL c (q :: ps)
      rw [ih]
      rfl
end L3
namespace L3
open PySem PySem.Spec PyProof.Rows L2
section
variable {P : L3.D → Store → Prop} {S : Store} {ρ : DE} {nx bk ct : DE → Store → Prop} {rt : L3.D → Store → Prop} {X : XT} {Y : YT} {m : ME} {ms : MA} {PI : ItD → Store → Prop}
@[simp] theorem sok_wall : (wallM ρ S).OkX Y nx rt bk ct ↔ False := Iff.rfl
@[simp] theorem sok_tryNo {body : MS} : (tryNoM body ρ S).OkX Y nx rt bk ct ↔ (body ρ S).Ok nx rt bk ct := by
  unfold tryNoM
  cases body ρ S <;> exact Iff.rfl
@[simp] theorem ok_smE {f : Str → List L3.D → Store → OD} : (smE f m ms ρ S).OkX X P ↔ (m ρ S).OkX X fun d S1 => ∃ x, strO d = some x ∧ (ms ρ S1).OkX X fun ds S2 => okO (f x ds S2) P := by
  unfold smE
  rw [ok_bind]
  refine ⟨fun h => h.imp fun d S1 q => ?_, fun h => h.imp fun d S1 q => ?_⟩
  · cases e : strO d with
    | none => rw [e] at q; simp at q
    | some k => rw [e] at q; simpa using q
  · obtain ⟨k, e, q⟩ := q
    rw [e]
    simpa using q
def zipMOk (ds : List L3.D) (S : Store) (PI : ItD → Store → Prop) : Prop := match ds with
  | [.tup xs, .ref k] => ∃ ys, lstO S k = some ys ∧ PI ⟨(xs.zip ys).map fun p => .tup [p.1, p.2], [(k, .lst ys)]⟩ S
  | _ => False
@[simp] theorem zipMOk_tr {xs : List L3.D} {k : Nat} : zipMOk [.tup xs, .ref k] S PI ↔ ∃ ys, lstO S k = some ys ∧ PI ⟨(xs.zip ys).map fun p => .tup [p.1, p.2], [(k, .lst ys)]⟩ S := Iff.rfl
@[simp] theorem ok_zipM : (zipM ms ρ S).OkX X PI ↔ (ms ρ S).OkX X fun ds S1 => zipMOk ds S1 PI := by
  unfold zipM
  rw [ok_bind]
  refine ⟨fun h => h.imp fun d S1 q => ?_, fun h => h.imp fun d S1 q => ?_⟩
  · split at q
    · rename_i xs k
      cases e : lstO S1 k with
      | none => rw [e] at q; simp at q
      | some ys => rw [e] at q; exact ⟨ys, e, ok_ok.mp q⟩
    · simp at q
  · unfold zipMOk at q
    split at q
    · obtain ⟨ys, e, q⟩ := q
      try dsimp only
      rw [e]
      exact ok_ok.mpr q
    · exact q.elim
/-! ### short loops, turn by turn -/
theorem for_nil {src : List (Nat × O)} {g : MG} {body : MS} : (forL src g body [] ρ S).OkX Y nx rt bk ct ↔ srcOk src S ∧ nx ρ S := by
  unfold forL
  by_cases c : srcOk src S
  · rw [if_pos c]; exact ⟨fun h => ⟨c, h⟩, fun h => h.2⟩
  · rw [if_neg c]; exact ⟨fun h => h.elim, fun h => c h.1⟩
theorem for_cons {src : List (Nat × O)} {g : MG} {body : MS} {d : L3.D} {ds : List L3.D} (h1 : srcOk src S) (h : (g d ρ S).Ok fun ρ1 S1 => (body ρ1 S1).OkX Y (fun ρ' S' => (forL src g body ds ρ' S').OkX Y nx rt bk ct) rt nx (fun ρ' S' => (forL src g body ds ρ' S').OkX Y nx rt bk ct)) :
    (forL src g body (d :: ds) ρ S).OkX Y nx rt bk ct := by
  unfold forL
  rw [if_pos h1]
  obtain ⟨ρ1, S1, e1, h2⟩ := h.ex
  rw [e1]
  dsimp only
  cases q : body ρ1 S1 <;> rw [q] at h2 <;> exact h2
theorem srcOk_lst {k : Nat} {xs : List L3.D} (h : lstO S k = some xs) : srcOk [(k, .lst xs)] S := fun p m => by
  rw [List.mem_singleton.mp m]
  exact lstO_at h
end
end L3
set_option Elab.async false
set_option linter.all false
set_option maxRecDepth 100000
set_option maxHeartbeats 1000000
/-! raise with two values, what an exception tells; cuts once more -/
namespace L3
open PySem PySem.Spec PyProof.Rows L2
section
variable {P : L3.D → Store → Prop} {S : Store} {ρ : DE} {nx bk ct : DE → Store → Prop} {rt : L3.D → Store → Prop} {X : XT} {Y : YT} {m : ME} {ms : MA} {PI : ItD → Store → Prop}
def twoD (ds : List L3.D) (Q : L3.D → L3.D → Prop) : Prop := match ds with
  | [x, y] => Q x y
  | _ => False
@[simp] theorem twoD_two {x y : L3.D} {Q : L3.D → L3.D → Prop} : twoD [x, y] Q ↔ Q x y := Iff.rfl
@[simp] theorem sok_raise2 {c f g : Str} : (raise2M c f g ms ρ S).OkX Y nx rt bk ct ↔ (ms ρ S).OkX (Y ρ) fun ds S1 => twoD ds fun x y => Y ρ c [(g, y), (f, x)] S1 := by
  unfold raise2M
  rw [sok_sb]
  have key : ∀ (ds : List L3.D) (S1 : Store), (match ds with
    | [x, y] => SR.exc c [(g, y), (f, x)] ρ S1
    | _ => SR.no).OkX Y nx rt bk ct ↔ twoD ds fun x y => Y ρ c [(g, y), (f, x)] S1 := fun ds S1 => by
    match ds with
    | [] => exact Iff.rfl
    | [_] => exact Iff.rfl
    | [x, y] => exact Iff.rfl
    | _ :: _ :: _ :: _ => exact Iff.rfl
  exact ⟨fun h => h.imp fun ds S1 q => (key ds S1).mp q, fun h => h.imp fun ds S1 q => (key ds S1).mpr q⟩
@[simp] theorem sok_tell {i j : Nat} {C f g : Str} {tab : List (Str × Bool)} {body : MS} : (tellM i j tab C f g body ρ S).OkX Y nx rt bk ct ↔
    (body ρ S).OkX (tryY tab (fun c fs ρ S => (c = C ∧ i < ρ.length ∧ j ≠ i) ∧ ∃ x y, fs.lookup f = some x ∧ fs.lookup g = some y ∧ nx ((ρ.set j (some (.tup [x, y]))).set i none) S) Y) nx rt bk ct := by
  unfold tellM
  cases body ρ S with
  | exc c fs ρ' S' =>
    simp only [SR.OkX, tryY]
    cases tab.lookup c with
    | none => exact Iff.rfl
    | some b =>
      cases b with
      | false => exact Iff.rfl
      | true =>
        dsimp only
        by_cases h : c = C ∧ i < ρ'.length ∧ j ≠ i
        · rw [if_pos h]
          cases e1 : fs.lookup f with
          | none => exact ⟨fun q => q.elim, fun q => by obtain ⟨_, x, y, q, _⟩ := q; cases q⟩
          | some x =>
            cases e2 : fs.lookup g with
            | none => exact ⟨fun q => q.elim, fun q => by obtain ⟨_, x, y, _, q, _⟩ := q; cases q⟩
            | some y => exact ⟨fun q => ⟨h, x, y, rfl, rfl, q⟩, fun q => by obtain ⟨_, x', y', q1, q2, q⟩ := q; cases q1; cases q2; exact q⟩
        · rw [if_neg h]; exact ⟨fun q => q.elim, fun q => h q.1⟩
  | _ => exact Iff.rfl
end
theorem cutL_ne {c : Nat} : ∀ l : List Nat, cutL c l ≠ []
  | [] => by simp [cutL]
  | a :: l => by
    unfold cutL
    split
    · simp
    · split <;> simp
theorem cut_ind {c : Nat} {Q : List Nat → Prop} (h1 : ∀ l, c ∉ l → Q l) (h2 : ∀ p r, c ∉ p → Q r → Q (p ++ c :: r)) : ∀ l, Q l := by
  have key : ∀ (n : Nat) (l : List Nat), l.length ≤ n → Q l := by
    intro n
    induction n with
    | zero =>
      intro l h
      have : l = [] := List.length_eq_zero_iff.mp (by omega)
      subst this
      exact h1 _ (by simp)
    | succ n ih =>
      intro l h
      rcases cut_cases c l with q | ⟨p, r, rfl, q⟩
      · exact h1 l q
      · exact h2 p r q (ih r (by simp at h; omega))
  exact fun l => key _ l (Nat.le_refl _)
theorem joinL_cons {c : Nat} {p : List Nat} {ps : List (List Nat)} (h : ps ≠ []) : joinL c (p :: ps) = p ++ c :: joinL c ps := by
  cases ps with
  | nil => exact absurd rfl h
  | cons q ps => rfl
theorem joinL_cut {c : Nat} : ∀ l : List Nat, joinL c (cutL c l) = l := cut_ind (fun l h => by rw [cutL_none h]; rfl) fun p r h ih => by
  rw [cutL_app h, joinL_cons (cutL_ne r), ih]
theorem cutN_eq {c : Nat} : ∀ (l : List Nat) (k : Nat), cutN c k l = if k < (cutL c l).length then (cutL c l).take k ++ [joinL c ((cutL c l).drop k)] else cutL c l := by
  refine cut_ind (c := c) (fun l h k => ?_) fun p r h ih k => ?_
  · rw [cutL_none h, cutN_none h]
    by_cases c0 : k = 0
    · subst c0; simp [joinL]
    · rw [if_neg (by simp; omega)]
  · rw [cutL_app h]
    cases k with
    | zero =>
      have := joinL_cut (c := c) (p ++ c :: r)
      rw [cutL_app h] at this
      simp [cutN, this]
    | succ k =>
      rw [cutN_app h, ih k]
      by_cases q : k < (cutL c r).length
      · rw [if_pos q, if_pos (by simp; omega)]; simp
      · rw [if_neg q, if_neg (by simp; omega)]
/-- how long the words of a text are together -/
def wsum (ps : List (List Nat)) : Nat := (ps.map fun p => p.length + 1).sum
theorem wsum_cons {p : List Nat} {ps : List (List Nat)} : wsum (p :: ps) = p.length + 1 + wsum ps := by simp [wsum]
theorem wsum_app {ps qs : List (List Nat)} : wsum (ps ++ qs) = wsum ps + wsum qs := by simp [wsum]
theorem wsum_cut {c : Nat} : ∀ l : List Nat, wsum (cutL c l) = l.length + 1 := cut_ind (fun l h => by rw [cutL_none h]; simp [wsum]) fun p r h ih => by
  rw [cutL_app h, wsum_cons, ih]; simp; omega
theorem wsum_len (ps : List (List Nat)) : ps.length ≤ wsum ps := by
  induction ps with
  | nil => simp [wsum]
  | cons p ps ih => rw [wsum_cons]; simp; omega
theorem joinL_len {c : Nat} : ∀ ps : List (List Nat), (joinL c ps).length ≤ wsum ps
  | [] => by simp [joinL]
  | [p] => by simp [joinL, wsum]
  | p :: q :: ps => by
    have := joinL_len (c := c) (q :: ps)
    rw [joinL_cons (by simp), wsum_cons]
    simp; omega
theorem wsum_mem {p : List Nat} : ∀ {ps : List (List Nat)}, p ∈ ps → p.length + 1 ≤ wsum ps
  | q :: ps, m => by
    rw [wsum_cons]
    rcases List.mem_cons.mp m with rfl | m
    · omega
    · have := wsum_mem m; omega
theorem wsum_take {ps : List (List Nat)} {k : Nat} : wsum (ps.take k) + wsum (ps.drop k) = wsum ps := by
  rw [← wsum_app, List.take_append_drop]
theorem joinL_all {c : Nat} {R : Nat → Prop} (hc : R c) : ∀ {ps : List (List Nat)}, (∀ p ∈ ps, ∀ x ∈ p, R x) → ∀ x ∈ joinL c ps, R x
  | [], _, x, m => by simp [joinL] at m
  | [p], h, x, m => h p (by simp) x (by simpa [joinL] using m)
  | p :: q :: ps, h, x, m => by
    rw [joinL_cons (by simp)] at m
    rcases List.mem_append.mp m with m | m
    · exact h p (by simp) x m
    · rcases List.mem_cons.mp m with rfl | m
      · exact hc
      · exact joinL_all hc (fun z hz => h z (List.mem_cons_of_mem _ hz)) x m
theorem cutL_all {c : Nat} {R : Nat → Prop} : ∀ l : List Nat, (∀ x ∈ l, R x) → ∀ p ∈ cutL c l, ∀ x ∈ p, R x := cut_ind (fun l h hl p m x hx => by
    rw [cutL_none h] at m
    rw [List.mem_singleton.mp m] at hx
    exact hl x hx) fun p r h ih hl q m x hx => by
  rw [cutL_app h] at m
  rcases List.mem_cons.mp m with rfl | m
  · exact hl x (by simp [hx])
  · exact ih (fun z hz => hl z (by simp [hz])) q m x hx
end L3
set_option Elab.async false
set_option linter.all false
set_option maxRecDepth 100000
set_option maxHeartbeats 1000000
/-! plain data: equality decides; keys that are nested tuples; rules for dicts with such keys -/
namespace L3
open PySem PySem.Spec PyProof.Rows L2 PySem.W
mutual
def qD : L3.D → PyData
  | .non => .none
  | .bl b => .bool b
  | .int i => .int i
  | .str x => .str x
  | .tup xs => .tuple (qDs xs)
  | .lis xs => .list (qDs xs)
  | .ref _ => .none
def qDs : List L3.D → List PyData
  | [] => []
  | d :: ds => qD d :: qDs ds
end
theorem qDs_map : ∀ xs : List L3.D, qDs xs = xs.map qD
  | [] => rfl
  | x :: xs => by rw [qDs, qDs_map xs]; rfl
theorem pys_all : ∀ {xs : List L3.D}, (∀ x ∈ xs, py x = some (qD x)) → pys xs = some (qDs xs)
  | [], _ => rfl
  | x :: xs, h => by
    rw [pys, h x (by simp), pys_all fun y m => h y (by simp [m])]
    rfl
theorem py_pl : ∀ (n : Nat) (d : L3.D), Pl n d → py d = some (qD d) := by
  intro n
  induction n with
  | zero =>
    intro d h
    cases d with
    | int i => rfl
    | str x => rfl
    | _ => exact h.elim
  | succ n ih =>
    intro d h
    cases d with
    | int i => rfl
    | str x => rfl
    | tup xs =>
      have := pys_all (xs := xs) fun x m => ih x (h.2 x m)
      simp only [py, this, Option.map_some, qD]
    | _ => exact h.elim
theorem toP_pl : ∀ (n m : Nat) (S : Store) (d : L3.D), Pl n d → n + 1 ≤ m → toP m S d = some (qD d) := by
  intro n
  induction n with
  | zero =>
    intro m S d h hm
    obtain ⟨m, rfl⟩ : ∃ k, m = k + 1 := ⟨m - 1, by omega⟩
    cases d with
    | int i => rfl
    | str x => rfl
    | _ => exact h.elim
  | succ n ih =>
    intro m S d h hm
    obtain ⟨m, rfl⟩ : ∃ k, m = k + 1 := ⟨m - 1, by omega⟩
    cases d with
    | int i => rfl
    | str x => rfl
    | tup xs =>
      have key : ∀ ys : List L3.D, (∀ y ∈ ys, Pl n y) → ys.mapM (toP m S) = some (qDs ys) := by
        intro ys
        induction ys with
        | nil => intro _; rfl
        | cons y ys ihy =>
          intro hy
          rw [List.mapM_cons, ih m S y (hy y (by simp)) (by omega), ihy fun z mz => hy z (by simp [mz])]
          rfl
      rw [toP_tup, key xs h.2]
      rfl
    | _ => exact h.elim
theorem eqv_pl : ∀ (n m : Nat) (d e : L3.D), Pl n d → Pl m e → (PyData.eqv (qD d) (qD e) = true ↔ d = e) := by
  intro n
  induction n with
  | zero =>
    intro m d e h g
    cases d with
    | int i => cases e with
      | int j => simp [qD, PyData.eqv]
      | str y => simp [qD, PyData.eqv]
      | tup ys => simp [qD, PyData.eqv]
      | _ => cases m <;> exact g.elim
    | str x => cases e with
      | int j => simp [qD, PyData.eqv]
      | str y => simp [qD, PyData.eqv]
      | tup ys => simp [qD, PyData.eqv]
      | _ => cases m <;> exact g.elim
    | _ => exact h.elim
  | succ n ih =>
    intro m d e h g
    cases d with
    | int i => cases e with
      | int j => simp [qD, PyData.eqv]
      | str y => simp [qD, PyData.eqv]
      | tup ys => simp [qD, PyData.eqv]
      | _ => cases m <;> exact g.elim
    | str x => cases e with
      | int j => simp [qD, PyData.eqv]
      | str y => simp [qD, PyData.eqv]
      | tup ys => simp [qD, PyData.eqv]
      | _ => cases m <;> exact g.elim
    | tup xs => cases e with
      | int j => simp [qD, PyData.eqv]
      | str y => simp [qD, PyData.eqv]
      | tup ys =>
        cases m with
        | zero => exact g.elim
        | succ m =>
          have key : ∀ xs ys : List L3.D, (∀ x ∈ xs, Pl n x) → (∀ y ∈ ys, Pl m y) → (PyData.eqvAll (qDs xs) (qDs ys) = true ↔ xs = ys) := by
            intro xs
            induction xs with
            | nil =>
              intro ys _ _
              cases ys <;> simp [qDs, PyData.eqvAll]
            | cons x xs ihx =>
              intro ys hx hy
              cases ys with
              | nil => simp [qDs, PyData.eqvAll]
              | cons y ys =>
                have h1 := ih m x y (hx x (by simp)) (hy y (by simp))
                have h2 := ihx ys (fun z mz => hx z (by simp [mz])) (fun z mz => hy z (by simp [mz]))
                simp [qDs, PyData.eqvAll, h1, h2]
          simp [qD, PyData.eqv, key xs ys h.2 g.2]
      | _ => cases m <;> exact g.elim
    | _ => exact h.elim
section
variable {S : Store} {P : L3.D → Store → Prop} {d e : L3.D}
/-- plain data, bounded -/
def Pb (n : Nat) (d : L3.D) : Prop := Pl n d ∧ ∀ S, Gd 1000 S n d
theorem Pb.shaped {n : Nat} (hn : n ≤ 30) (h : Pb n d) : SeqAt.shaped (qD d) = true := by
  obtain ⟨q, e, l⟩ := pyS_lay (h.2 []) hn
  have : pyS [] d = some (qD d) := by unfold pyS; rw [py_pl n d h.1]
  rw [this] at e
  cases e
  exact l.shaped (by omega)
theorem eqO_plain {n m : Nat} (hn : n ≤ 30) (hm : m ≤ 30) (h : Pb n d) (g : Pb m e) : ∃ b, eqO S d e = some b ∧ (b = true ↔ d = e) := by
  have key := eqv_pl n m d e h.1 g.1
  have p1 : ∀ {n d}, Pb n d → pyS S d = some (qD d) := fun {n d} h => by unfold pyS; rw [py_pl n d h.1]
  unfold eqO
  cases q : flatEq d e with
  | some k =>
    refine ⟨k, rfl, ?_⟩
    rw [← key]
    obtain ⟨h1, _⟩ := h
    obtain ⟨g1, _⟩ := g
    cases d <;> cases e <;> first | (cases q; done) | (cases q; simp [qD, PyData.eqv]; done) | (cases n <;> exact h1.elim)
  | none =>
    simp only [p1 h, p1 g, h.shaped hn, g.shaped hm, Bool.and_self, if_true]
    exact ⟨_, rfl, key⟩
theorem eqD_plain {n m : Nat} (hn : n ≤ 30) (hm : m ≤ 30) (h : Pb n d) (g : Pb m e) (hp : ∀ b : Bool, (b = true ↔ d = e) → P (.bl b) S) : okO (eqD d e S) P := by
  obtain ⟨b, q, hb⟩ := eqO_plain (S := S) hn hm h g
  unfold eqD
  rw [q]
  exact hp b hb
theorem neD_plain {n m : Nat} (hn : n ≤ 30) (hm : m ≤ 30) (h : Pb n d) (g : Pb m e) (hp : ∀ b : Bool, (b = false ↔ d = e) → P (.bl b) S) : okO (neD d e S) P := by
  obtain ⟨b, q, hb⟩ := eqO_plain (S := S) hn hm h g
  unfold neD
  rw [q]
  refine hp (!b) ?_
  rw [← hb]
  cases b <;> simp
theorem eqO_lists {n m k j : Nat} {xs ys : List L3.D} (hn : n ≤ 20) (hm : m ≤ 20) (hk : lstO S k = some xs) (hj : lstO S j = some ys) (h : ∀ x ∈ xs, Pb n x) (g : ∀ y ∈ ys, Pb m y) : ∃ b, eqO S (.ref k) (.ref j) = some b ∧ (b = true ↔ xs = ys) := by
  have p1 : ∀ {n k : Nat} {xs : List L3.D}, n ≤ 20 → lstO S k = some xs → (∀ x ∈ xs, Pb n x) → pyS S (.ref k) = some (.list (qDs xs)) := fun {n k xs} hn hk h => by
    show toP 40 S (.ref k) = _
    have key : ∀ ys : List L3.D, (∀ y ∈ ys, Pb n y) → ys.mapM (toP 39 S) = some (qDs ys) := by
      intro ys
      induction ys with
      | nil => intro _; rfl
      | cons y ys ihy =>
        intro hy
        rw [List.mapM_cons, toP_pl n 39 S y (hy y (by simp)).1 (by omega), ihy fun z mz => hy z (by simp [mz])]
        rfl
    rw [show (40 : Nat) = 39 + 1 from rfl, toP_ref, hk, Option.bind_some, key xs h]
    rfl
  have p2 : ∀ {n k : Nat} {xs : List L3.D}, n ≤ 20 → lstO S k = some xs → (∀ x ∈ xs, Pb n x) → SeqAt.shaped (.list (qDs xs)) = true := fun {n k xs} hn hk h => by
    obtain ⟨q, e, l⟩ := toP_lst (L := 1000) (m := 40) hn (by omega) hk fun x mx => (h x mx).2 S
    have := p1 hn hk h
    rw [show pyS S (.ref k) = toP 40 S (.ref k) from rfl, e] at this
    cases this
    exact l.shaped (by omega)
  have key : ∀ xs ys : List L3.D, (∀ x ∈ xs, Pb n x) → (∀ y ∈ ys, Pb m y) → (PyData.eqvAll (qDs xs) (qDs ys) = true ↔ xs = ys) := by
    intro xs
    induction xs with
    | nil =>
      intro ys _ _
      cases ys <;> simp [qDs, PyData.eqvAll]
    | cons x xs ihx =>
      intro ys hx hy
      cases ys with
      | nil => simp [qDs, PyData.eqvAll]
      | cons y ys =>
        have h1 := eqv_pl n m x y (hx x (by simp)).1 (hy y (by simp)).1
        have h2 := ihx ys (fun z mz => hx z (by simp [mz])) (fun z mz => hy z (by simp [mz]))
        simp [qDs, PyData.eqvAll, h1, h2]
  unfold eqO
  simp only [flatEq, p1 hn hk h, p1 hm hj g, p2 hn hk h, p2 hm hj g, Bool.and_self, if_true]
  exact ⟨_, rfl, by simpa [PyData.eqv] using key xs ys h g⟩
theorem eqD_lists {n m k j : Nat} {xs ys : List L3.D} (hn : n ≤ 20) (hm : m ≤ 20) (hk : lstO S k = some xs) (hj : lstO S j = some ys) (h : ∀ x ∈ xs, Pb n x) (g : ∀ y ∈ ys, Pb m y) (hp : ∀ b : Bool, (b = true ↔ xs = ys) → P (.bl b) S) : okO (eqD (.ref k) (.ref j) S) P := by
  obtain ⟨b, q, hb⟩ := eqO_lists (S := S) hn hm hk hj h g
  unfold eqD
  rw [q]
  exact hp b hb
theorem neD_lists {n m k j : Nat} {xs ys : List L3.D} (hn : n ≤ 20) (hm : m ≤ 20) (hk : lstO S k = some xs) (hj : lstO S j = some ys) (h : ∀ x ∈ xs, Pb n x) (g : ∀ y ∈ ys, Pb m y) (hp : ∀ b : Bool, (b = false ↔ xs = ys) → P (.bl b) S) : okO (neD (.ref k) (.ref j) S) P := by
  obtain ⟨b, q, hb⟩ := eqO_lists (S := S) hn hm hk hj h g
  unfold neD
  rw [q]
  refine hp (!b) ?_
  rw [← hb]
  cases b <;> simp
theorem Pb.int {n : Nat} {i : Int} : Pb n (.int i) := ⟨Pl.int, fun S => by cases n <;> trivial⟩
theorem Pb.tup {n : Nat} {xs : List L3.D} (hl : xs.length ≤ 1000) (h : ∀ x ∈ xs, Pb n x) : Pb (n + 1) (.tup xs) := ⟨⟨hl, fun x m => (h x m).1⟩, fun S => ⟨hl, fun x m => (h x m).2 S⟩⟩
theorem Pb.str {n : Nat} {x : Str} (h : near x) (hl : x.length ≤ 1000) : Pb n (.str x) := ⟨Pl.str, fun S => by cases n <;> exact ⟨h, hl⟩⟩
theorem pay_pb {c : L3.D} {n : Nat} {d : L3.D} (h : payD c n d = true) : Pb n d := ⟨pay_pl n d h, fun S => pay_gd (by omega) h⟩
/-! ### keys that are nested tuples -/
theorem nk_pl : ∀ (n : Nat) (d : L3.D), Pl n d → ∃ k, NK d = some k ∧ k.depth ≤ n := by
  intro n
  induction n with
  | zero =>
    intro d h
    cases d with
    | int i => exact ⟨_, rfl, by simp [NestedKey.depth]⟩
    | str x => exact ⟨_, rfl, by simp [NestedKey.depth]⟩
    | _ => exact h.elim
  | succ n ih =>
    intro d h
    cases d with
    | int i => exact ⟨_, rfl, by simp [NestedKey.depth]⟩
    | str x => exact ⟨_, rfl, by simp [NestedKey.depth]⟩
    | tup xs =>
      have key : ∀ ys : List L3.D, (∀ y ∈ ys, Pl n y) → ∃ ks, NKs ys = some ks ∧ NestedKey.depthAll ks ≤ n := by
        intro ys
        induction ys with
        | nil => intro _; exact ⟨[], rfl, by simp [NestedKey.depthAll]⟩
        | cons y ys ihy =>
          intro hy
          obtain ⟨k, e1, l1⟩ := ih y (hy y (by simp))
          obtain ⟨ks, e2, l2⟩ := ihy fun z mz => hy z (by simp [mz])
          exact ⟨k :: ks, by simp [NKs, e1, e2], by simp [NestedKey.depthAll]; omega⟩
      obtain ⟨ks, e, l⟩ := key xs h.2
      exact ⟨.tup ks, by simp [NK, e], by simp [NestedKey.depth]; omega⟩
    | _ => exact h.elim
theorem nks_cons {y : L3.D} {ys : List L3.D} {ks : List NestedKey} (h : NKs (y :: ys) = some ks) : ∃ k l, NK y = some k ∧ NKs ys = some l ∧ ks = k :: l := by
  rw [NKs] at h
  cases e : NK y with
  | none => rw [e] at h; cases h
  | some k =>
    rw [e] at h
    cases e2 : NKs ys with
    | none => rw [e2] at h; cases h
    | some l => rw [e2] at h; cases h; exact ⟨k, l, rfl, rfl, rfl⟩
theorem nk_inj : ∀ (n m : Nat) (d e : L3.D), Pl n d → Pl m e → NK d = NK e → d = e := by
  intro n
  induction n with
  | zero =>
    intro m d e h g q
    cases d with
    | int i => cases e with
      | int j => simp [NK] at q; rw [q]
      | str y => simp [NK] at q
      | tup ys =>
        obtain ⟨k, e1, _⟩ := nk_pl m _ g
        rw [e1] at q
        simp [NK] at q e1
        obtain ⟨a, _, rfl⟩ := e1
        cases q
      | _ => cases m <;> exact g.elim
    | str x => cases e with
      | int j => simp [NK] at q
      | str y => simp [NK] at q; rw [q]
      | tup ys =>
        obtain ⟨k, e1, _⟩ := nk_pl m _ g
        rw [e1] at q
        simp [NK] at q e1
        obtain ⟨a, _, rfl⟩ := e1
        cases q
      | _ => cases m <;> exact g.elim
    | _ => exact h.elim
  | succ n ih =>
    intro m d e h g q
    cases d with
    | int i => cases e with
      | int j => simp [NK] at q; rw [q]
      | str y => simp [NK] at q
      | tup ys =>
        obtain ⟨k, e1, _⟩ := nk_pl m _ g
        rw [e1] at q
        simp [NK] at q e1
        obtain ⟨a, _, rfl⟩ := e1
        cases q
      | _ => cases m <;> exact g.elim
    | str x => cases e with
      | int j => simp [NK] at q
      | str y => simp [NK] at q; rw [q]
      | tup ys =>
        obtain ⟨k, e1, _⟩ := nk_pl m _ g
        rw [e1] at q
        simp [NK] at q e1
        obtain ⟨a, _, rfl⟩ := e1
        cases q
      | _ => cases m <;> exact g.elim
    | tup xs => cases e with
      | int j =>
        obtain ⟨k, e1, _⟩ := nk_pl (n + 1) _ h
        rw [e1] at q
        simp [NK] at q e1
        obtain ⟨a, _, rfl⟩ := e1
        cases q
      | str y =>
        obtain ⟨k, e1, _⟩ := nk_pl (n + 1) _ h
        rw [e1] at q
        simp [NK] at q e1
        obtain ⟨a, _, rfl⟩ := e1
        cases q
      | tup ys =>
        cases m with
        | zero => exact g.elim
        | succ m =>
          have key : ∀ xs ys : List L3.D, (∀ x ∈ xs, Pl n x) → (∀ y ∈ ys, Pl m y) → ∀ ks, NKs xs = some ks → NKs ys = some ks → xs = ys := by
            intro xs
            induction xs with
            | nil =>
              intro ys _ _ ks e1 e2
              cases ys with
              | nil => rfl
              | cons y ys =>
                obtain ⟨k, l, _, _, e⟩ := nks_cons e2
                subst e
                simp [NKs] at e1
            | cons x xs ihx =>
              intro ys hx hy ks e1 e2
              cases ys with
              | nil =>
                obtain ⟨k, l, _, _, e⟩ := nks_cons e1
                subst e
                simp [NKs] at e2
              | cons y ys =>
                obtain ⟨k, ks', a1, a2, rfl⟩ := nks_cons e1
                obtain ⟨k2, ks2, b1, b2, e⟩ := nks_cons e2
                cases e
                rw [ih m x y (hx x (by simp)) (hy y (by simp)) (a1.trans b1.symm), ihx ys (fun z mz => hx z (by simp [mz])) (fun z mz => hy z (by simp [mz])) _ a2 b2]
          obtain ⟨k, e1, _⟩ := nk_pl (n + 1) _ h
          have e2 := q ▸ e1
          simp [NK] at e1 e2
          obtain ⟨ks, a1, a2⟩ := e1
          obtain ⟨ks2, b1, b2⟩ := e2
          rw [← b2] at a2
          cases a2
          rw [key xs ys h.2 g.2 _ a1 b1]
      | _ => cases m <;> exact g.elim
    | _ => exact h.elim
end
section
variable {S : Store} {P : L3.D → Store → Prop} {ρ : DE} {nx bk ct : DE → Store → Prop} {rt : L3.D → Store → Prop} {X : XT} {Y : YT} {mo mk mv md mx : ME}
@[simp] theorem ok_tabE0 : (tabE0 ρ S).OkX X P ↔ P (.ref S.length) (S ++ [.tab []]) := Iff.rfl
@[simp] theorem ok_dicE0 : (dicE0 ρ S).OkX X P ↔ P (.ref S.length) (S ++ [.dic []]) := Iff.rfl
@[simp] theorem sok_tput : (tputM mo mk mv ρ S).OkX Y nx rt bk ct ↔ (mv ρ S).OkX (Y ρ) fun v S1 => (mo ρ S1).OkX (Y ρ) fun d S2 => (mk ρ S2).OkX (Y ρ) fun k S3 => ∃ S4, tputF k d v S3 = some S4 ∧ nx ρ S4 := by
  simp only [tputM, sok_sb]
  refine ⟨fun h => h.imp fun d S1 q => q.imp fun _ _ q => q.imp fun _ _ q => ?_, fun h => h.imp fun d S1 q => q.imp fun _ _ q => q.imp fun _ _ q => ?_⟩
  · split at q
    · rename_i e; exact ⟨_, e, q⟩
    · exact q.elim
  · obtain ⟨S4, e, q⟩ := q; rw [e]; exact q
@[simp] theorem ok_dget2 : (dget2E md mk mx ρ S).OkX X P ↔ (md ρ S).OkX X fun d S1 => (dicD S1 d).isSome = true ∧ (mk ρ S1).OkX X fun k S2 => (mx ρ S2).OkX X fun z S3 => ∃ kvs, dicD S3 d = some kvs ∧ ∃ k', keyO k = some k' ∧ P ((valD kvs k').getD z) S3 := by
  unfold dget2E
  rw [ok_bind]
  refine ⟨fun h => h.imp fun d S1 q => ?_, fun h => h.imp fun d S1 q => ?_⟩
  · by_cases c : (dicD S1 d).isSome = true
    · rw [if_pos c, ok_bind] at q
      refine ⟨c, q.imp fun k S2 q => ?_⟩
      rw [ok_bind] at q
      refine q.imp fun z S3 q => ?_
      rw [ok_ofO, okO_bind] at q
      obtain ⟨kvs, e, q⟩ := q
      rw [okO_map] at q
      obtain ⟨k', e2, q⟩ := q
      exact ⟨kvs, e, k', e2, q⟩
    · rw [if_neg c] at q; exact q.elim
  · obtain ⟨c, q⟩ := q
    rw [if_pos c, ok_bind]
    refine q.imp fun k S2 q => ?_
    rw [ok_bind]
    refine q.imp fun z S3 q => ?_
    obtain ⟨kvs, e, k', e2, q⟩ := q
    rw [ok_ofO, okO_bind]
    refine ⟨kvs, e, ?_⟩
    rw [okO_map]
    exact ⟨k', e2, q⟩
/-- a dict with nested keys: the keys in it -/
def TabAt (S : Store) (n : Nat) (L : List L3.D) : Prop := ∃ kvs, S[n]? = some (.tab kvs) ∧ kvs.length ≤ L.length ∧ ∀ x, hasK x kvs = true ↔ ∃ d ∈ L, NK d = some x
theorem TabAt.of (h : S[n]? = some (.tab [])) : TabAt S n [] := ⟨[], h, Nat.le_refl _, fun x => by simp [hasK]⟩
theorem TabAt.more {S' : Store} {n : Nat} {L : List L3.D} (h : TabAt S n L) (mo : More S S') : TabAt S' n L := by
  obtain ⟨kvs, e, h⟩ := h
  exact ⟨kvs, mo _ _ e, h⟩
theorem TabAt.tabO {n : Nat} {L : List L3.D} (h : TabAt S n L) : ∃ kvs, tabO S (.ref n) = some kvs ∧ kvs.length ≤ L.length ∧ ∀ x, hasK x kvs = true ↔ ∃ d ∈ L, NK d = some x := by
  obtain ⟨kvs, e, h⟩ := h
  exact ⟨kvs, by simp [L3.tabO, e], h⟩
theorem has_put {x y : NestedKey} {k v : L3.D} (hk : NK k = some x) {kvs : List (L3.D × L3.D)} : hasK y (putT x k v kvs) = true ↔ hasK y kvs = true ∨ x = y := by
  unfold putT
  split
  · rename_i c
    have e : hasK y (kvs.map fun p => if NK p.1 = some x then (p.1, v) else p) = hasK y kvs := by
      unfold hasK
      rw [List.any_map]
      congr 1
      funext p
      simp only [Function.comp]
      split <;> rfl
    rw [e]
    constructor
    · exact .inl
    · rintro (q | rfl)
      · exact q
      · exact c
  · unfold hasK
    rw [List.any_append]
    simp [hk]
theorem put_len {x : NestedKey} {k v : L3.D} {kvs : List (L3.D × L3.D)} : (putT x k v kvs).length ≤ kvs.length + 1 := by
  unfold putT
  split
  · simp
  · simp
theorem tput_ok {n m : Nat} {ds : List L3.D} {v : L3.D} {L : List L3.D} (h : TabAt S n L) (hm : m ≤ 8) (hp : Pl m (.tup ds)) (hl : L.length < 1000) : ∃ S', tputF (.tup ds) (.ref n) v S = some S' ∧ TabAt S' n (L ++ [.tup ds]) ∧ ∃ o, S' = S.set n o := by
  obtain ⟨kvs, e0, l0, hh⟩ := h
  obtain ⟨k, e1, d1⟩ := nk_pl m _ hp
  have e2 : L3.tabO S (.ref n) = some kvs := by simp [L3.tabO, e0]
  refine ⟨S.set n (.tab (putT k (.tup ds) v kvs)), ?_, ⟨_, List.getElem?_set_self (lt_of_at e0), ?_, fun x => ?_⟩, _, rfl⟩
  · unfold tputF
    dsimp only
    rw [e1, Option.bind_some, e2, Option.bind_some, if_pos ⟨by omega, by rw [PySem.sizeLine_eq]; omega⟩]
  · have := put_len (x := k) (k := .tup ds) (v := v) (kvs := kvs)
    simp
    omega
  · rw [has_put e1, hh]
    constructor
    · rintro (⟨d, md, e⟩ | rfl)
      · exact ⟨d, by simp [md], e⟩
      · exact ⟨_, by simp, e1⟩
    · rintro ⟨d, md, e⟩
      rcases List.mem_append.mp md with md | md
      · exact .inl ⟨d, md, e⟩
      · rw [List.mem_singleton.mp md, e1] at e
        cases e
        exact .inr rfl
theorem tnin_ok {n m : Nat} {ds : List L3.D} {L : List L3.D} (h : TabAt S n L) (hm : m ≤ 8) (hp : Pl m (.tup ds)) (hL : ∀ d ∈ L, Pl m d) (hP : ∀ b : Bool, (b = false ↔ .tup ds ∈ L) → P (.bl b) S) : okO (tinF true (.tup ds) (.ref n) S) P := by
  obtain ⟨kvs, e0, l0, hh⟩ := h.tabO
  obtain ⟨k, e1, d1⟩ := nk_pl m _ hp
  unfold tinF
  dsimp only
  rw [e1, Option.bind_some, e0, Option.bind_some, if_pos (by omega : k.depth ≤ 8), okO_some]
  refine hP _ ?_
  have : (true != hasK k kvs) = false ↔ hasK k kvs = true := by cases hasK k kvs <;> simp
  rw [this, hh]
  constructor
  · rintro ⟨d, md, e⟩
    rw [← nk_inj m m d _ (hL d md) hp (e.trans e1.symm)]
    exact md
  · exact fun md => ⟨_, md, e1⟩
theorem sortD_ok {m : Nat} {kvs : List (Key × L3.D)} {ks : List Int} (h : S[m]? = some (.dic kvs)) (hk : intKeys kvs = some ks) (hl : ks.length < 64) (hP : P (.ref S.length) (S ++ [.lst ((ks.mergeSort fun a b => decide (a ≤ b)).map .int)])) : okO (sortDF [.ref m] S) P := by
  have e : dicD S (.ref m) = some kvs := by simp [dicD, dicO, h]
  unfold sortDF
  dsimp only
  rw [e, Option.bind_some, hk, Option.bind_some, if_pos hl]
  exact hP
end
@[simp] theorem atI_5 {α : Type} {a b c d e f : α} {l : List α} : atI (a :: b :: c :: d :: e :: f :: l) 5 = some f := atI_nat (j := 5) (by simp)
@[simp] theorem atI_6 {α : Type} {a b c d e f g : α} {l : List α} : atI (a :: b :: c :: d :: e :: f :: g :: l) 6 = some g := atI_nat (j := 6) (by simp)
theorem rev_ind {α : Type} {Q : List α → Prop} (h0 : Q []) (h1 : ∀ l a, Q l → Q (l ++ [a])) (l : List α) : Q l := by
  have key : ∀ m : List α, Q m.reverse := fun m => by
    induction m with
    | nil => exact h0
    | cons a m ih => rw [List.reverse_cons]; exact h1 _ _ ih
  have := key l.reverse
  rwa [List.reverse_reverse] at this
/-- a comprehension over a list of things, that changes nothing that is there -/
theorem lc_xs {α : Type} {S : Store} {P : L3.D → Store → Prop} {X : XT} {src : List (Nat × O)} {g : MG} {mt : MT} {me : ME} {ρ : DE} {items : List L3.D} {T : Store} {n : Nat} (xs : List α) (f : α → L3.D) (F : α → Option L3.D) (hi : items = xs.map f) (hT : T = S ++ [.lst []]) (hn : n = S.length) (hsrc : ∀ S', More S S' → srcOk src S') (hl : xs.length ≤ 16000000)
    (step : ∀ x S', x ∈ xs → More S S' → (g (f x) ρ S').Ok fun ρ1 S1 => (mt ρ1 S1).Ok fun k S2 => if k = true then (me ρ1 S2).Ok fun y S3 => F x = some y ∧ More S' S3 else F x = none ∧ More S' S2)
    (done : ∀ S', More S S' → lstO S' S.length = some (xs.filterMap F) → P (.ref S.length) S') : (lcL src g mt me ρ n items T).OkX X P := by
  subst hT hn hi
  refine lc_inv (fun i acc S' => acc = (xs.take i).filterMap F ∧ More S S') ⟨rfl, More.new _⟩ lstO_new (fun i acc S' _ h => hsrc S' h.2) ?_ ?_
  · rintro i d acc S' hi ⟨rfl, mo⟩ hn
    rw [List.getElem?_map] at hi
    obtain ⟨x, hx, rfl⟩ := Option.map_eq_some_iff.mp hi
    have hl' : ((xs.take i).filterMap F).length < 16777216 := by
      have := List.length_filterMap_le F (xs.take i)
      rw [List.length_take] at this
      omega
    have et : xs.take (i + 1) = xs.take i ++ [x] := by rw [List.take_succ, hx]; rfl
    refine R.Ok.imp (step x S' (List.mem_of_getElem? hx) mo) fun ρ1 S1 h1 => R.Ok.imp h1 fun k S2 h2 => ?_
    cases k with
    | true =>
      rw [if_pos rfl] at h2 ⊢
      refine R.Ok.imp h2 fun y S3 ⟨hf, m3⟩ => ⟨m3.lst hn, hl', ?_, (mo.trans m3).set (Nat.le_refl _) _⟩
      rw [et, List.filterMap_append]
      simp [hf]
    | false =>
      rw [if_neg Bool.false_ne_true] at h2 ⊢
      refine ⟨h2.2.lst hn, ?_, mo.trans h2.2⟩
      rw [et, List.filterMap_append]
      simp [h2.1]
  · rintro acc S' ⟨rfl, mo⟩ hn
    rw [List.length_map, List.take_length] at hn
    exact done S' mo hn
end L3
set_option Elab.async false
set_option linter.all false
set_option maxRecDepth 100000
set_option maxHeartbeats 4000000
namespace Fg
open PySem PySem.Spec PyProof.Rows L2 L3
def top (i : Nat) : Stmt := PySem.Challenge.pw_firmground_k57_judge_by_pasts.main.body.getD i (.Pass ⟨0, 0, 0, 0⟩)
abbrev s_stored : Stmt := top 3
abbrev N_stored : List Str := ["cells", "cell", "value"]
theorem sc_stored : FnScope N_stored ["cells", "cell", "value"] (defScope s_stored) := ⟨rfl, rfl, rfl, by decide +kernel, rfl, by decide +kernel, by decide +kernel⟩
abbrev s_run : Stmt := top 4
abbrev N_run : List Str := ["cells", "payload", "kind", "chosen", "middle", "sends", "outputs", "after", "more", "later"]
theorem sc_run : FnScope N_run ["cells", "payload"] (defScope s_run) := ⟨rfl, rfl, rfl, by decide +kernel, rfl, by decide +kernel, by decide +kernel⟩
abbrev s_Pasts___init__ : Stmt := inClass (top 6) 0
abbrev N_Pasts___init__ : List Str := ["self"]
theorem sc_Pasts___init__ : FnScope N_Pasts___init__ ["self"] (defScope s_Pasts___init__) := ⟨rfl, rfl, rfl, by decide +kernel, rfl, by decide +kernel, by decide +kernel⟩
abbrev s_Pasts_processes : Stmt := inClass (top 6) 1
abbrev N_Pasts_processes : List Str := ["self"]
theorem sc_Pasts_processes : FnScope N_Pasts_processes ["self"] (defScope s_Pasts_processes) := ⟨rfl, rfl, rfl, by decide +kernel, rfl, by decide +kernel, by decide +kernel⟩
abbrev s_Pasts_inputs : Stmt := inClass (top 6) 2
abbrev N_Pasts_inputs : List Str := ["self", "process"]
theorem sc_Pasts_inputs : FnScope N_Pasts_inputs ["self", "process"] (defScope s_Pasts_inputs) := ⟨rfl, rfl, rfl, by decide +kernel, rfl, by decide +kernel, by decide +kernel⟩
abbrev s_Pasts_note : Stmt := inClass (top 6) 3
abbrev N_Pasts_note : List Str := ["self", "event"]
theorem sc_Pasts_note : FnScope N_Pasts_note ["self", "event"] (defScope s_Pasts_note) := ⟨rfl, rfl, rfl, by decide +kernel, rfl, by decide +kernel, by decide +kernel⟩
abbrev s_Pasts_made : Stmt := inClass (top 6) 4
abbrev N_Pasts_made : List Str := ["self", "process", "cells", "sends", "outputs", "_", "payload", "more", "texts"]
theorem sc_Pasts_made : FnScope N_Pasts_made ["self", "process"] (defScope s_Pasts_made) := ⟨rfl, rfl, rfl, by decide +kernel, rfl, by decide +kernel, by decide +kernel⟩
abbrev s_take_fault : Stmt := top 7
abbrev N_take_fault : List Str := ["events", "pasts", "submitted", "event", "_", "process", "sender", "number", "payload", "taken", "row"]
theorem sc_take_fault : FnScope N_take_fault ["events"] (defScope s_take_fault) := ⟨rfl, rfl, rfl, by decide +kernel, rfl, by decide +kernel, by decide +kernel⟩
abbrev s_undo_fault : Stmt := top 8
abbrev N_undo_fault : List Str := ["events", "pasts", "event"]
theorem sc_undo_fault : FnScope N_undo_fault ["events"] (defScope s_undo_fault) := ⟨rfl, rfl, rfl, by decide +kernel, rfl, by decide +kernel, by decide +kernel⟩
abbrev s_show_fault : Stmt := top 9
abbrev N_show_fault : List Str := ["events", "pasts", "shown", "event", "texts", "outputs"]
theorem sc_show_fault : FnScope N_show_fault ["events"] (defScope s_show_fault) := ⟨rfl, rfl, rfl, by decide +kernel, rfl, by decide +kernel, by decide +kernel⟩
abbrev s_run_fault : Stmt := top 10
abbrev N_run_fault : List Str := ["events", "pasts", "event", "process", "sender", "number", "payload", "sends", "send"]
theorem sc_run_fault : FnScope N_run_fault ["events"] (defScope s_run_fault) := ⟨rfl, rfl, rfl, by decide +kernel, rfl, by decide +kernel, by decide +kernel⟩
abbrev s_judge : Stmt := top 11
abbrev N_judge : List Str := ["events", "found", "fault"]
theorem sc_judge : FnScope N_judge ["events"] (defScope s_judge) := ⟨rfl, rfl, rfl, by decide +kernel, rfl, by decide +kernel, by decide +kernel⟩
abbrev s__law_draws : Stmt := top 13
abbrev N__law_draws : List Str := ["_law_script", "_law_start", "_law_most", "_law_draws_here", "_law_cell", "_law_number", "_law_mixed", "_law_k"]
theorem sc__law_draws : FnScope N__law_draws ["_law_script", "_law_start", "_law_most"] (defScope s__law_draws) := ⟨rfl, rfl, rfl, by decide +kernel, rfl, by decide +kernel, by decide +kernel⟩
abbrev s__law_payload : Stmt := top 14
abbrev N__law_payload : List Str := ["_law_number", "_law_count", "_law_depth", "_law_kind", "_law_rest", "_law_cell"]
theorem sc__law_payload : FnScope N__law_payload ["_law_number", "_law_count", "_law_depth"] (defScope s__law_payload) := ⟨rfl, rfl, rfl, by decide +kernel, rfl, by decide +kernel, by decide +kernel⟩
abbrev s__law_run : Stmt := top 15
abbrev N__law_run : List Str := ["_law_cells", "_law_payload_here", "_law_kind", "_law_first", "_law_second"]
theorem sc__law_run : FnScope N__law_run ["_law_cells", "_law_payload_here"] (defScope s__law_run) := ⟨rfl, rfl, rfl, by decide +kernel, rfl, by decide +kernel, by decide +kernel⟩
abbrev s__law_past : Stmt := top 16
abbrev N__law_past : List Str := ["_law_events", "_law_k", "_law_process", "_law_rows", "_law_event_here"]
theorem sc__law_past : FnScope N__law_past ["_law_events", "_law_k", "_law_process"] (defScope s__law_past) := ⟨rfl, rfl, rfl, by decide +kernel, rfl, by decide +kernel, by decide +kernel⟩
abbrev s__law_made : Stmt := top 17
abbrev N__law_made : List Str := ["_law_rows", "_law_cells", "_law_sends", "_law_texts", "_law_row", "_law_told"]
theorem sc__law_made : FnScope N__law_made ["_law_rows"] (defScope s__law_made) := ⟨rfl, rfl, rfl, by decide +kernel, rfl, by decide +kernel, by decide +kernel⟩
abbrev s__law_sent : Stmt := top 18
abbrev N__law_sent : List Str := ["_law_events", "_law_k", "_law_sender", "_law_process", "_law_send"]
theorem sc__law_sent : FnScope N__law_sent ["_law_events", "_law_k", "_law_sender", "_law_process"] (defScope s__law_sent) := ⟨rfl, rfl, rfl, by decide +kernel, rfl, by decide +kernel, by decide +kernel⟩
abbrev s__law_event : Stmt := top 19
abbrev N__law_event : List Str := ["_law_events", "_law_draw", "_law_k", "_law_process", "_law_kind", "_law_rest", "_law_odd", "_law_payload_here", "_law_past_here", "_law_sender", "_law_number", "_law_found", "_law_texts", "_law_shown", "_law_one", "_law_row"]
theorem sc__law_event : FnScope N__law_event ["_law_events", "_law_draw"] (defScope s__law_event) := ⟨rfl, rfl, rfl, by decide +kernel, rfl, by decide +kernel, by decide +kernel⟩
abbrev s__law_takes : Stmt := top 20
abbrev N__law_takes : List Str := ["_law_events", "_law_k", "_law_process", "_law_sender", "_law_number", "_law_payload_here", "_law_asked", "_law_row", "_law_one"]
theorem sc__law_takes : FnScope N__law_takes ["_law_events"] (defScope s__law_takes) := ⟨rfl, rfl, rfl, by decide +kernel, rfl, by decide +kernel, by decide +kernel⟩
abbrev s__law_undos : Stmt := top 21
abbrev N__law_undos : List Str := ["_law_events", "_law_k"]
theorem sc__law_undos : FnScope N__law_undos ["_law_events"] (defScope s__law_undos) := ⟨rfl, rfl, rfl, by decide +kernel, rfl, by decide +kernel, by decide +kernel⟩
abbrev s__law_shows : Stmt := top 22
abbrev N__law_shows : List Str := ["_law_events", "_law_k", "_law_process", "_law_shown", "_law_texts", "_law_one"]
theorem sc__law_shows : FnScope N__law_shows ["_law_events"] (defScope s__law_shows) := ⟨rfl, rfl, rfl, by decide +kernel, rfl, by decide +kernel, by decide +kernel⟩
abbrev s__law_runs : Stmt := top 23
abbrev N__law_runs : List Str := ["_law_events", "_law_process", "_law_sender", "_law_number", "_law_payload_here"]
theorem sc__law_runs : FnScope N__law_runs ["_law_events"] (defScope s__law_runs) := ⟨rfl, rfl, rfl, by decide +kernel, rfl, by decide +kernel, by decide +kernel⟩
abbrev s_law : Stmt := top 24
abbrev N_law : List Str := ["_law_script", "_law_events", "_law_draw", "_law_due", "_law_handed", "_law_actual", "_law_fault"]
theorem sc_law : FnScope N_law ["_law_script"] (defScope s_law) := ⟨rfl, rfl, rfl, by decide +kernel, rfl, by decide +kernel, by decide +kernel⟩
abbrev FnP (K : PySem.W.Frag) (x q : Str) (st : Stmt) (f : Addr) (fd : FuncData) : Prop := FunD K x q (defArgs st) (defBody st) (defScope st) [] [] f fd
structure Txt (K : PySem.W.Frag) (mg : Str → Option Value) where
  a_stored : Addr
  fd_stored : FuncData
  F_stored : FnP K "stored" "stored" s_stored a_stored fd_stored
  b_stored : Binds K fd_stored ["cells", "cell", "value"] []
  g_stored : mg "stored" = some (.ref a_stored)
  a_run : Addr
  fd_run : FuncData
  F_run : FnP K "run" "run" s_run a_run fd_run
  b_run : Binds K fd_run ["cells", "payload"] []
  g_run : mg "run" = some (.ref a_run)
  a_Pasts___init__ : Addr
  fd_Pasts___init__ : FuncData
  F_Pasts___init__ : FnP K "__init__" "Pasts.__init__" s_Pasts___init__ a_Pasts___init__ fd_Pasts___init__
  b_Pasts___init__ : Binds K fd_Pasts___init__ ["self"] []
  a_Pasts_processes : Addr
  fd_Pasts_processes : FuncData
  F_Pasts_processes : FnP K "processes" "Pasts.processes" s_Pasts_processes a_Pasts_processes fd_Pasts_processes
  b_Pasts_processes : Binds K fd_Pasts_processes ["self"] []
  a_Pasts_inputs : Addr
  fd_Pasts_inputs : FuncData
  F_Pasts_inputs : FnP K "inputs" "Pasts.inputs" s_Pasts_inputs a_Pasts_inputs fd_Pasts_inputs
  b_Pasts_inputs : Binds K fd_Pasts_inputs ["self", "process"] []
  a_Pasts_note : Addr
  fd_Pasts_note : FuncData
  F_Pasts_note : FnP K "note" "Pasts.note" s_Pasts_note a_Pasts_note fd_Pasts_note
  b_Pasts_note : Binds K fd_Pasts_note ["self", "event"] []
  a_Pasts_made : Addr
  fd_Pasts_made : FuncData
  F_Pasts_made : FnP K "made" "Pasts.made" s_Pasts_made a_Pasts_made fd_Pasts_made
  b_Pasts_made : Binds K fd_Pasts_made ["self", "process"] []
  a_take_fault : Addr
  fd_take_fault : FuncData
  F_take_fault : FnP K "take_fault" "take_fault" s_take_fault a_take_fault fd_take_fault
  b_take_fault : Binds K fd_take_fault ["events"] []
  g_take_fault : mg "take_fault" = some (.ref a_take_fault)
  a_undo_fault : Addr
  fd_undo_fault : FuncData
  F_undo_fault : FnP K "undo_fault" "undo_fault" s_undo_fault a_undo_fault fd_undo_fault
  b_undo_fault : Binds K fd_undo_fault ["events"] []
  g_undo_fault : mg "undo_fault" = some (.ref a_undo_fault)
  a_show_fault : Addr
  fd_show_fault : FuncData
  F_show_fault : FnP K "show_fault" "show_fault" s_show_fault a_show_fault fd_show_fault
  b_show_fault : Binds K fd_show_fault ["events"] []
  g_show_fault : mg "show_fault" = some (.ref a_show_fault)
  a_run_fault : Addr
  fd_run_fault : FuncData
  F_run_fault : FnP K "run_fault" "run_fault" s_run_fault a_run_fault fd_run_fault
  b_run_fault : Binds K fd_run_fault ["events"] []
  g_run_fault : mg "run_fault" = some (.ref a_run_fault)
  a_judge : Addr
  fd_judge : FuncData
  F_judge : FnP K "judge" "judge" s_judge a_judge fd_judge
  b_judge : Binds K fd_judge ["events"] []
  g_judge : mg "judge" = some (.ref a_judge)
  a__law_draws : Addr
  fd__law_draws : FuncData
  F__law_draws : FnP K "_law_draws" "_law_draws" s__law_draws a__law_draws fd__law_draws
  b__law_draws : Binds K fd__law_draws ["_law_script", "_law_start", "_law_most"] []
  g__law_draws : mg "_law_draws" = some (.ref a__law_draws)
  a__law_payload : Addr
  fd__law_payload : FuncData
  F__law_payload : FnP K "_law_payload" "_law_payload" s__law_payload a__law_payload fd__law_payload
  b__law_payload : Binds K fd__law_payload ["_law_number", "_law_count", "_law_depth"] []
  g__law_payload : mg "_law_payload" = some (.ref a__law_payload)
  a__law_run : Addr
  fd__law_run : FuncData
  F__law_run : FnP K "_law_run" "_law_run" s__law_run a__law_run fd__law_run
  b__law_run : Binds K fd__law_run ["_law_cells", "_law_payload_here"] []
  g__law_run : mg "_law_run" = some (.ref a__law_run)
  a__law_past : Addr
  fd__law_past : FuncData
  F__law_past : FnP K "_law_past" "_law_past" s__law_past a__law_past fd__law_past
  b__law_past : Binds K fd__law_past ["_law_events", "_law_k", "_law_process"] []
  g__law_past : mg "_law_past" = some (.ref a__law_past)
  a__law_made : Addr
  fd__law_made : FuncData
  F__law_made : FnP K "_law_made" "_law_made" s__law_made a__law_made fd__law_made
  b__law_made : Binds K fd__law_made ["_law_rows"] []
  g__law_made : mg "_law_made" = some (.ref a__law_made)
  a__law_sent : Addr
  fd__law_sent : FuncData
  F__law_sent : FnP K "_law_sent" "_law_sent" s__law_sent a__law_sent fd__law_sent
  b__law_sent : Binds K fd__law_sent ["_law_events", "_law_k", "_law_sender", "_law_process"] []
  g__law_sent : mg "_law_sent" = some (.ref a__law_sent)
  a__law_event : Addr
  fd__law_event : FuncData
  F__law_event : FnP K "_law_event" "_law_event" s__law_event a__law_event fd__law_event
  b__law_event : Binds K fd__law_event ["_law_events", "_law_draw"] []
  g__law_event : mg "_law_event" = some (.ref a__law_event)
  a__law_takes : Addr
  fd__law_takes : FuncData
  F__law_takes : FnP K "_law_takes" "_law_takes" s__law_takes a__law_takes fd__law_takes
  b__law_takes : Binds K fd__law_takes ["_law_events"] []
  g__law_takes : mg "_law_takes" = some (.ref a__law_takes)
  a__law_undos : Addr
  fd__law_undos : FuncData
  F__law_undos : FnP K "_law_undos" "_law_undos" s__law_undos a__law_undos fd__law_undos
  b__law_undos : Binds K fd__law_undos ["_law_events"] []
  g__law_undos : mg "_law_undos" = some (.ref a__law_undos)
  a__law_shows : Addr
  fd__law_shows : FuncData
  F__law_shows : FnP K "_law_shows" "_law_shows" s__law_shows a__law_shows fd__law_shows
  b__law_shows : Binds K fd__law_shows ["_law_events"] []
  g__law_shows : mg "_law_shows" = some (.ref a__law_shows)
  a__law_runs : Addr
  fd__law_runs : FuncData
  F__law_runs : FnP K "_law_runs" "_law_runs" s__law_runs a__law_runs fd__law_runs
  b__law_runs : Binds K fd__law_runs ["_law_events"] []
  g__law_runs : mg "_law_runs" = some (.ref a__law_runs)
  a_law : Addr
  fd_law : FuncData
  F_law : FnP K "law" "law" s_law a_law fd_law
  b_law : Binds K fd_law ["_law_script"] []
  g_law : mg "law" = some (.ref a_law)
  g_Pasts : mg "Pasts" = some (.ref (He.ga K "Pasts"))
  cls_Pasts : Cls K (He.ga K "Pasts")
  na_Pasts__rows : NoAttr K (He.ga K "Pasts") "_rows"
  mk_Pasts : Mk K (He.ga K "Pasts") a_Pasts___init__
  m_Pasts_processes : Meth K (He.ga K "Pasts") "processes" a_Pasts_processes
  m_Pasts_inputs : Meth K (He.ga K "Pasts") "inputs" a_Pasts_inputs
  m_Pasts_note : Meth K (He.ga K "Pasts") "note" a_Pasts_note
  m_Pasts_made : Meth K (He.ga K "Pasts") "made" a_Pasts_made
  u_DESK : Value
  g_DESK : mg "DESK" = some u_DESK
  r_DESK : RelV (.int (-1)) u_DESK
  a_START : Addr
  g_START : mg "START" = some (.ref a_START)
  r_START : RelV (.ref a_START) (.ref a_START)
  t_START : ∀ H : Hp, SqT K H a_START [.int 0, .int 0, .int 0, .int 0]
  n_str : mg "str" = none
  n_sorted : mg "sorted" = none
  n_len : mg "len" = none
  n_abs : mg "abs" = none
  n_int : mg "int" = none
  n_range : mg "range" = none
  n_list : mg "list" = none
  n_max : mg "max" = none
  n_isinstance : mg "isinstance" = none
section
variable {P : Program} {w : World} {K : PySem.W.Frag} {mg : Str → Option Value} {base : Heap}

noncomputable def m_stored : Fn := fnM 0 (
    retM (opE addD (opE addD (slE (vE 0) noneO (someO (vE 1))) (tupE (consA (vE 2) nilA))) (slE (vE 0) (someO (opE addD (vE 1) (cE (.int 1)))) noneO)))
theorem ok_m_stored (T : Txt K mg) : FnOk P w K mg base CX0 1 T.a_stored T.fd_stored ["cells", "cell", "value"] (spM K (Cl.mk (He.ga K) w) 3 m_stored) :=
  T.F_stored.ok sc_stored (fun _ _ _ _ h => spM_len h) (fun cdv A outer s H vs Q E hr h => ⟨_, PSs.nox (fss_one (fs_ret (fe_op op_addD (fe_op op_addD (fe_slice (fe_var (pv 0)) fo_none (fo_some (fe_var (pv 1)))) (PE.imp (pe_tup (fa_cons (fe_var (pv 2)) fa_nil)) tup_im)) (fe_slice (fe_var (pv 0)) (fo_some (fe_op op_addD (fe_var (pv 1)) fe_int)) fo_none)))), body_of (N := N_stored) (n := 3) (k := 0) rfl h⟩)
noncomputable def m_run_c2 (rr : Fn) : MS := seqM (asgM (callE 2 rr (consA (vE 0) (consA (opE ixD (vE 1) (cE (.int 1))) nilA))) (tupG 3 (consG (nameG 4) (consG (nameG 5) (consG (nameG 6) nilG)))))
    (seqM (asgM (callE 2 rr (consA (vE 4) (consA (opE ixD (vE 1) (cE (.int 2))) nilA))) (tupG 3 (consG (nameG 7) (consG (nameG 8) (consG (nameG 9) nilG)))))
    (retM (tupE (consA (vE 7) (consA (opE addD (vE 5) (vE 8)) (consA (opE addD (vE 6) (vE 9)) nilA))))))
noncomputable def m_run_c1 (rr : Fn) : MS := seqM (ifM (bT (opE eqD (vE 2) (cE (.str "send")))) (retM (tupE (consA (vE 0) (consA (lstE (consA (tupE (consA (opE ixD (vE 1) (cE (.int 1))) (consA (opE ixD (vE 1) (cE (.int 2))) nilA))) nilA)) (consA (lstE nilA) nilA))))) nextM)
    (seqM (ifM (bT (opE eqD (vE 2) (cE (.str "show")))) (retM (tupE (consA (vE 0) (consA (lstE nilA) (consA (lstE (consA (bfE strF (consA (opE ixD (vE 0) (opE ixD (vE 1) (cE (.int 1)))) nilA)) nilA)) nilA))))) nextM)
    (seqM (ifM (bT (opE eqD (vE 2) (cE (.str "if")))) (seqM (setM 3 (opE ixD (vE 1) (cE (.int 3))))
    (seqM (ifM (bT (opE neD (opE ixD (vE 0) (opE ixD (vE 1) (cE (.int 1)))) (cE (.int 0)))) (setM 3 (opE ixD (vE 1) (cE (.int 2)))) nextM)
    (retM (callE 2 rr (consA (vE 0) (consA (vE 3) nilA)))))) nextM)
    (m_run_c2 rr)))
noncomputable def rec_run : Nat → Fn
  | 0 => fun _ _ => .no
  | n + 1 => fnM 8 (
    seqM (setM 2 (opE ixD (vE 1) (cE (.int 0))))
    (seqM (ifM (bT (opE eqD (vE 2) (cE (.str "set")))) (retM (tupE (consA (callE 3 m_stored (consA (vE 0) (consA (opE ixD (vE 1) (cE (.int 1))) (consA (opE ixD (vE 1) (cE (.int 2))) nilA)))) (consA (lstE nilA) (consA (lstE nilA) nilA))))) nextM)
    (seqM (ifM (bT (opE eqD (vE 2) (cE (.str "add")))) (retM (tupE (consA (callE 3 m_stored (consA (vE 0) (consA (opE ixD (vE 1) (cE (.int 1))) (consA (opE addD (opE ixD (vE 0) (opE ixD (vE 1) (cE (.int 1)))) (opE ixD (vE 1) (cE (.int 2)))) nilA)))) (consA (lstE nilA) (consA (lstE nilA) nilA))))) nextM)
    (seqM (ifM (bT (opE eqD (vE 2) (cE (.str "copy")))) (retM (tupE (consA (callE 3 m_stored (consA (vE 0) (consA (opE ixD (vE 1) (cE (.int 1))) (consA (opE ixD (vE 0) (opE ixD (vE 1) (cE (.int 2)))) nilA)))) (consA (lstE nilA) (consA (lstE nilA) nilA))))) nextM)
    (m_run_c1 (rec_run n))))))
noncomputable abbrev m_run (n : Nat) : Fn := (rec_run n)
theorem ok_rec_run (T : Txt K mg) : ∀ n : Nat, FnOk P w K mg base CX0 (n + 2) T.a_run T.fd_run ["cells", "payload"] (spM K (Cl.mk (He.ga K) w) 2 (rec_run n))
  | 0 => ok_none
  | n + 1 => by
    have ih_run := ok_rec_run T n
    · exact T.F_run.ok sc_run (fun _ _ _ _ h => spM_len h) (fun cdv A outer s H vs Q E hr h => ⟨_, PSs.nox (fss_cons (PS.imp (ps_set (i := 2) sc_run.nd rfl (Or.inl rfl) (fe_ix ix_D (fe_var (pv 1)) fe_int)) set_im)
      (fss_cons (fs_if (ft_cmp (op_eqDD hr.units) (fe_var (pv 2)) fe_str (nomark _)) (fss_one (fs_ret (PE.imp (pe_tup (fa_cons (PE.imp (pe_call (ok_m_stored T) (hr.mono (by omega)) rfl T.g_stored T.F_stored.kp T.b_stored .nil passN (fa_cons (fe_var (pv 0)) (fa_cons (fe_ix ix_D (fe_var (pv 1)) fe_int) (fa_cons (fe_ix ix_D (fe_var (pv 1)) fe_int) fa_nil)))) call_im) (fa_cons (PE.imp (pe_lst fa_nil) lst_im) (fa_cons (PE.imp (pe_lst fa_nil) lst_im) fa_nil)))) tup_im))) fss_nil)
      (fss_cons (fs_if (ft_cmp (op_eqDD hr.units) (fe_var (pv 2)) fe_str (nomark _)) (fss_one (fs_ret (PE.imp (pe_tup (fa_cons (PE.imp (pe_call (ok_m_stored T) (hr.mono (by omega)) rfl T.g_stored T.F_stored.kp T.b_stored .nil passN (fa_cons (fe_var (pv 0)) (fa_cons (fe_ix ix_D (fe_var (pv 1)) fe_int) (fa_cons (fe_op op_addD (fe_ix ix_D (fe_var (pv 0)) (fe_ix ix_D (fe_var (pv 1)) fe_int)) (fe_ix ix_D (fe_var (pv 1)) fe_int)) fa_nil)))) call_im) (fa_cons (PE.imp (pe_lst fa_nil) lst_im) (fa_cons (PE.imp (pe_lst fa_nil) lst_im) fa_nil)))) tup_im))) fss_nil)
      (fss_cons (fs_if (ft_cmp (op_eqDD hr.units) (fe_var (pv 2)) fe_str (nomark _)) (fss_one (fs_ret (PE.imp (pe_tup (fa_cons (PE.imp (pe_call (ok_m_stored T) (hr.mono (by omega)) rfl T.g_stored T.F_stored.kp T.b_stored .nil passN (fa_cons (fe_var (pv 0)) (fa_cons (fe_ix ix_D (fe_var (pv 1)) fe_int) (fa_cons (fe_ix ix_D (fe_var (pv 0)) (fe_ix ix_D (fe_var (pv 1)) fe_int)) fa_nil)))) call_im) (fa_cons (PE.imp (pe_lst fa_nil) lst_im) (fa_cons (PE.imp (pe_lst fa_nil) lst_im) fa_nil)))) tup_im))) fss_nil)
      (fss_cons (fs_if (ft_cmp (op_eqDD hr.units) (fe_var (pv 2)) fe_str (nomark _)) (fss_one (fs_ret (PE.imp (pe_tup (fa_cons (fe_var (pv 0)) (fa_cons (PE.imp (pe_lst (fa_cons (PE.imp (pe_tup (fa_cons (fe_ix ix_D (fe_var (pv 1)) fe_int) (fa_cons (fe_ix ix_D (fe_var (pv 1)) fe_int) fa_nil))) tup_im) fa_nil)) lst_im) (fa_cons (PE.imp (pe_lst fa_nil) lst_im) fa_nil)))) tup_im))) fss_nil)
      (fss_cons (fs_if (ft_cmp (op_eqDD hr.units) (fe_var (pv 2)) fe_str (nomark _)) (fss_one (fs_ret (PE.imp (pe_tup (fa_cons (fe_var (pv 0)) (fa_cons (PE.imp (pe_lst fa_nil) lst_im) (fa_cons (PE.imp (pe_lst (fa_cons (PE.imp (pe_callTy call_strF (by rfl) T.n_str (by decide +kernel) (fa_cons (fe_ix ix_D (fe_var (pv 0)) (fe_ix ix_D (fe_var (pv 1)) fe_int)) fa_nil)) bf_im) fa_nil)) lst_im) fa_nil)))) tup_im))) fss_nil)
      (fss_cons (fs_if (ft_cmp (op_eqDD hr.units) (fe_var (pv 2)) fe_str (nomark _)) (fss_cons (PS.imp (ps_set (i := 3) sc_run.nd rfl (Or.inl rfl) (fe_ix ix_D (fe_var (pv 1)) fe_int)) set_im)
      (fss_cons (fs_if (ft_cmp (op_neDD hr.units) (fe_ix ix_D (fe_var (pv 0)) (fe_ix ix_D (fe_var (pv 1)) fe_int)) fe_int (nomark _)) (fss_one (PS.imp (ps_set (i := 3) sc_run.nd rfl (Or.inl rfl) (fe_ix ix_D (fe_var (pv 1)) fe_int)) set_im)) fss_nil)
      (fss_one (fs_ret (PE.imp (pe_call ih_run (hr.mono (by omega)) rfl T.g_run T.F_run.kp T.b_run .nil passN (fa_cons (fe_var (pv 0)) (fa_cons (fe_var (pv 3)) fa_nil))) call_im))))) fss_nil)
      (fss_cons (PS.imp (ps_asg (PE.imp (pe_call ih_run (hr.mono (by omega)) rfl T.g_run T.F_run.kp T.b_run .nil passN (fa_cons (fe_var (pv 0)) (fa_cons (fe_ix ix_D (fe_var (pv 1)) fe_int) fa_nil))) call_im) (pg_tup rfl (pgs_cons (pg_name (i := 4) sc_run.nd rfl (Or.inl rfl)) (pgs_cons (pg_name (i := 5) sc_run.nd rfl (Or.inl rfl)) (pgs_cons (pg_name (i := 6) sc_run.nd rfl (Or.inl rfl)) pgs_nil))))) (asg_im (vs := [4, 5, 6]) (g := tupG 3 (consG (nameG 4) (consG (nameG 5) (consG (nameG 6) nilG)))) (tup_ig (cons_ig (name_ig (by decide)) (cons_ig (name_ig (by decide)) (cons_ig (name_ig (by decide)) nil_ig))))))
      (fss_cons (PS.imp (ps_asg (PE.imp (pe_call ih_run (hr.mono (by omega)) rfl T.g_run T.F_run.kp T.b_run .nil passN (fa_cons (fe_var (pv 4)) (fa_cons (fe_ix ix_D (fe_var (pv 1)) fe_int) fa_nil))) call_im) (pg_tup rfl (pgs_cons (pg_name (i := 7) sc_run.nd rfl (Or.inl rfl)) (pgs_cons (pg_name (i := 8) sc_run.nd rfl (Or.inl rfl)) (pgs_cons (pg_name (i := 9) sc_run.nd rfl (Or.inl rfl)) pgs_nil))))) (asg_im (vs := [7, 8, 9]) (g := tupG 3 (consG (nameG 7) (consG (nameG 8) (consG (nameG 9) nilG)))) (tup_ig (cons_ig (name_ig (by decide)) (cons_ig (name_ig (by decide)) (cons_ig (name_ig (by decide)) nil_ig))))))
      (fss_one (fs_ret (PE.imp (pe_tup (fa_cons (fe_var (pv 7)) (fa_cons (fe_op op_addD (fe_var (pv 5)) (fe_var (pv 8))) (fa_cons (fe_op op_addD (fe_var (pv 6)) (fe_var (pv 9))) fa_nil)))) tup_im)))))))))))), body_of (N := N_run) (n := 2) (k := 8) rfl h⟩)
theorem ok_m_run (T : Txt K mg) (n : Nat) : FnOk P w K mg base CX0 (n + 2) T.a_run T.fd_run ["cells", "payload"] (spM K (Cl.mk (He.ga K) w) 2 (rec_run n)) := (ok_rec_run T n)

noncomputable def m_Pasts___init__ : Fn := fnM 0 (
    fldM "Pasts" "_rows" (vE 0) dicE0)
theorem ok_m_Pasts___init__ (T : Txt K mg) : FnOk P w K mg base CX0 1 T.a_Pasts___init__ T.fd_Pasts___init__ ["self"] (spM K (Cl.mk (He.ga K) w) 1 m_Pasts___init__) :=
  T.F_Pasts___init__.ok sc_Pasts___init__ (fun _ _ _ _ h => spM_len h) (fun cdv A outer s H vs Q E hr h => ⟨_, PSs.nox (fss_one (PS.imp (ps_fld (fe_var (pv 0)) (PE.imp pe_dnewK dic0_im) rfl) (fldM_im (cl := (Cl.mk (He.ga K) w)) (C := "Pasts") T.cls_Pasts T.na_Pasts__rows))), body_of (N := N_Pasts___init__) (n := 1) (k := 0) rfl h⟩)
noncomputable def m_Pasts_processes : Fn := fnM 0 (
    retM (bfE sortDF (consA (fldE "Pasts" "_rows" (vE 0)) nilA)))
theorem ok_m_Pasts_processes (T : Txt K mg) : FnOk P w K mg base CX0 1 T.a_Pasts_processes T.fd_Pasts_processes ["self"] (spM K (Cl.mk (He.ga K) w) 1 m_Pasts_processes) :=
  T.F_Pasts_processes.ok sc_Pasts_processes (fun _ _ _ _ h => spM_len h) (fun cdv A outer s H vs Q E hr h => ⟨_, PSs.nox (fss_one (fs_ret (PE.imp (pe_callB (call_sortDF rfl) (by rfl) T.n_sorted (by decide +kernel) (fa_cons (PE.imp (pe_fld (fe_var (pv 0)) rfl) (fld_im (cl := (Cl.mk (He.ga K) w)) (C := "Pasts") T.cls_Pasts T.na_Pasts__rows)) fa_nil)) bf_im))), body_of (N := N_Pasts_processes) (n := 1) (k := 0) rfl h⟩)
noncomputable def m_Pasts_inputs : Fn := fnM 0 (
    retM (dget2E (fldE "Pasts" "_rows" (vE 0)) (vE 1) (lstE nilA)))
theorem ok_m_Pasts_inputs (T : Txt K mg) : FnOk P w K mg base CX0 1 T.a_Pasts_inputs T.fd_Pasts_inputs ["self", "process"] (spM K (Cl.mk (He.ga K) w) 2 m_Pasts_inputs) :=
  T.F_Pasts_inputs.ok sc_Pasts_inputs (fun _ _ _ _ h => spM_len h) (fun cdv A outer s H vs Q E hr h => ⟨_, PSs.nox (fss_one (fs_ret (fe_dget2 (hu_of hr) (PE.imp (pe_fld (fe_var (pv 0)) rfl) (fld_im (cl := (Cl.mk (He.ga K) w)) (C := "Pasts") T.cls_Pasts T.na_Pasts__rows)) (fe_var (pv 1)) (PE.imp (pe_lst fa_nil) lst_im) (by exact ⟨rfl, rfl, rfl, rfl⟩)))), body_of (N := N_Pasts_inputs) (n := 2) (k := 0) rfl h⟩)
noncomputable def m_Pasts_note : Fn := fnM 0 (
    seqM (ifM (bT (opE eqD (opE ixD (vE 1) (cE (.int 0))) (cE (.str "take")))) (subM (fldE "Pasts" "_rows" (vE 0)) (opE ixD (vE 1) (cE (.int 2))) (opE addD (methE "Pasts" "inputs" 2 m_Pasts_inputs (vE 0) (consA (opE ixD (vE 1) (cE (.int 2))) nilA)) (lstE (consA (tupE (consA (opE ixD (vE 1) (cE (.int 4))) (consA (opE ixD (vE 1) (cE (.int 5))) (consA (opE ixD (vE 1) (cE (.int 6))) nilA)))) nilA)))) nextM)
    (ifM (bT (opE eqD (opE ixD (vE 1) (cE (.int 0))) (cE (.str "undo")))) (subM (fldE "Pasts" "_rows" (vE 0)) (opE ixD (vE 1) (cE (.int 2))) (slE (methE "Pasts" "inputs" 2 m_Pasts_inputs (vE 0) (consA (opE ixD (vE 1) (cE (.int 2))) nilA)) noneO (someO (opE ixD (vE 1) (cE (.int 3)))))) nextM))
theorem ok_m_Pasts_note (T : Txt K mg) : FnOk P w K mg base CX0 2 T.a_Pasts_note T.fd_Pasts_note ["self", "event"] (spM K (Cl.mk (He.ga K) w) 2 m_Pasts_note) :=
  T.F_Pasts_note.ok sc_Pasts_note (fun _ _ _ _ h => spM_len h) (fun cdv A outer s H vs Q E hr h => ⟨_, PSs.nox (fss_cons (fs_if (ft_cmp (op_eqDD hr.units) (fe_ix ix_D (fe_var (pv 1)) fe_int) fe_str (nomark _)) (fss_one (PS.imp (ps_asg (fe_op op_addD (PE.imp (pe_meth (fe_var (pv 0)) T.cls_Pasts T.m_Pasts_inputs (ok_m_Pasts_inputs T) (hr.mono (by decide)) T.b_Pasts_inputs .nil passN (fa_cons (fe_ix ix_D (fe_var (pv 1)) fe_int) fa_nil)) meth_im) (PE.imp (pe_lst (fa_cons (PE.imp (pe_tup (fa_cons (fe_ix ix_D (fe_var (pv 1)) fe_int) (fa_cons (fe_ix ix_D (fe_var (pv 1)) fe_int) (fa_cons (fe_ix ix_D (fe_var (pv 1)) fe_int) fa_nil)))) tup_im) fa_nil)) lst_im)) (pg_sub (PE.imp (pe_fld (fe_var (pv 0)) rfl) (fld_im (cl := (Cl.mk (He.ga K) w)) (C := "Pasts") T.cls_Pasts T.na_Pasts__rows)) (fe_ix ix_D (fe_var (pv 1)) fe_int) (set_u (hu_of hr)))) sub_im)) fss_nil)
      (fss_one (fs_if (ft_cmp (op_eqDD hr.units) (fe_ix ix_D (fe_var (pv 1)) fe_int) fe_str (nomark _)) (fss_one (PS.imp (ps_asg (fe_slice (PE.imp (pe_meth (fe_var (pv 0)) T.cls_Pasts T.m_Pasts_inputs (ok_m_Pasts_inputs T) (hr.mono (by decide)) T.b_Pasts_inputs .nil passN (fa_cons (fe_ix ix_D (fe_var (pv 1)) fe_int) fa_nil)) meth_im) fo_none (fo_some (fe_ix ix_D (fe_var (pv 1)) fe_int))) (pg_sub (PE.imp (pe_fld (fe_var (pv 0)) rfl) (fld_im (cl := (Cl.mk (He.ga K) w)) (C := "Pasts") T.cls_Pasts T.na_Pasts__rows)) (fe_ix ix_D (fe_var (pv 1)) fe_int) (set_u (hu_of hr)))) sub_im)) fss_nil))), body_of (N := N_Pasts_note) (n := 2) (k := 0) rfl h⟩)
noncomputable def m_Pasts_made : Fn := fnM 7 (
    seqM (setM 2 (cE (.tup [.int 0, .int 0, .int 0, .int 0])))
    (seqM (setM 3 (lstE nilA))
    (seqM (setM 4 (lstE nilA))
    (seqM (forM (seqI (methE "Pasts" "inputs" 2 m_Pasts_inputs (vE 0) (consA (vE 1) nilA))) (tupG 3 (consG (nameG 5) (consG (nameG 5) (consG (nameG 6) nilG)))) (seqM (asgM (callE 2 (m_run 20) (consA (vE 2) (consA (vE 6) nilA))) (tupG 3 (consG (nameG 2) (consG (nameG 7) (consG (nameG 8) nilG)))))
    (seqM (dropM (lmE extendF (vE 3) (consA (vE 7) nilA)))
    (dropM (lmE extendF (vE 4) (consA (vE 8) nilA))))))
    (retM (tupE (consA (vE 3) (consA (vE 4) nilA))))))))
theorem ok_m_Pasts_made (T : Txt K mg) : FnOk P w K mg base CX0 23 T.a_Pasts_made T.fd_Pasts_made ["self", "process"] (spM K (Cl.mk (He.ga K) w) 2 m_Pasts_made) :=
  T.F_Pasts_made.ok sc_Pasts_made (fun _ _ _ _ h => spM_len h) (fun cdv A outer s H vs Q E hr h => ⟨_, PSs.nox (fss_cons (PS.imp (ps_set (i := 2) sc_Pasts_made.nd rfl (Or.inl rfl) (fe_c (pe_glob rfl T.g_START T.r_START) (fun _ H => .tup (T.t_START H) (.cons (.int _) (.cons (.int _) (.cons (.int _) (.cons (.int _) (.nil)))))))) set_im)
      (fss_cons (PS.imp (ps_set (i := 3) sc_Pasts_made.nd rfl (Or.inl rfl) (PE.imp (pe_lst fa_nil) lst_im)) set_im)
      (fss_cons (PS.imp (ps_set (i := 4) sc_Pasts_made.nd rfl (Or.inl rfl) (PE.imp (pe_lst fa_nil) lst_im)) set_im)
      (fss_cons (fs_for (vs := [5, 5, 6]) (g := tupG 3 (consG (nameG 5) (consG (nameG 5) (consG (nameG 6) nilG)))) (mb := seqM (asgM (callE 2 (m_run 20) (consA (vE 2) (consA (vE 6) nilA))) (tupG 3 (consG (nameG 2) (consG (nameG 7) (consG (nameG 8) nilG)))))
    (seqM (dropM (lmE extendF (vE 3) (consA (vE 7) nilA)))
    (dropM (lmE extendF (vE 4) (consA (vE 8) nilA))))) (ps_for PassesOwn.never rfl (fi_seq (PE.imp (pe_meth (fe_var (pv 0)) T.cls_Pasts T.m_Pasts_inputs (ok_m_Pasts_inputs T) (hr.mono (by decide)) T.b_Pasts_inputs .nil passN (fa_cons (fe_var (pv 1)) fa_nil)) meth_im)) (pg_tup rfl (pgs_cons (pg_name (i := 5) sc_Pasts_made.nd rfl (Or.inl rfl)) (pgs_cons (pg_name (i := 5) sc_Pasts_made.nd rfl (Or.inl rfl)) (pgs_cons (pg_name (i := 6) sc_Pasts_made.nd rfl (Or.inl rfl)) pgs_nil))))
        (fss_cons (PS.imp (ps_asg (PE.imp (pe_call (ok_m_run T 20) (hr.mono (by decide)) rfl T.g_run T.F_run.kp T.b_run .nil passN (fa_cons (fe_var (pv 2)) (fa_cons (fe_var (pv 6)) fa_nil))) call_im) (pg_tup rfl (pgs_cons (pg_name (i := 2) sc_Pasts_made.nd rfl (Or.inl rfl)) (pgs_cons (pg_name (i := 7) sc_Pasts_made.nd rfl (Or.inl rfl)) (pgs_cons (pg_name (i := 8) sc_Pasts_made.nd rfl (Or.inl rfl)) pgs_nil))))) (asg_im (vs := [2, 7, 8]) (g := tupG 3 (consG (nameG 2) (consG (nameG 7) (consG (nameG 8) nilG)))) (tup_ig (cons_ig (name_ig (by decide)) (cons_ig (name_ig (by decide)) (cons_ig (name_ig (by decide)) nil_ig))))))
      (fss_cons (PS.imp (ps_expr (PE.imp (pe_bm PySem.F.plainAttrs_list PySem.F.slot_list_extend PySem.F.type_list_extend mt_extend (fe_var (pv 3)) (fa_cons (fe_var (pv 7)) fa_nil)) (lm_im extend_r))) drop_im)
      (fss_one (PS.imp (ps_expr (PE.imp (pe_bm PySem.F.plainAttrs_list PySem.F.slot_list_extend PySem.F.type_list_extend mt_extend (fe_var (pv 4)) (fa_cons (fe_var (pv 8)) fa_nil)) (lm_im extend_r))) drop_im))))) (tup_ig (cons_ig (name_ig (by decide)) (cons_ig (name_ig (by decide)) (cons_ig (name_ig (by decide)) nil_ig)))))
      (fss_one (fs_ret (PE.imp (pe_tup (fa_cons (fe_var (pv 3)) (fa_cons (fe_var (pv 4)) fa_nil))) tup_im))))))), body_of (N := N_Pasts_made) (n := 2) (k := 7) rfl h⟩)
noncomputable def m_take_fault : Fn := fnM 10 (
    seqM (setM 1 (makeE "Pasts" 1 m_Pasts___init__ nilA))
    (seqM (setM 2 tabE0)
    (seqM (forM (seqI (vE 0)) (nameG 3) (seqM (ifM (bT (opE eqD (opE ixD (vE 3) (cE (.int 0))) (cE (.str "submit")))) (tputM (vE 2) (tupE (consA (opE ixD (vE 3) (cE (.int 2))) (consA (opE ixD (vE 3) (cE (.int 3))) (consA (opE ixD (vE 3) (cE (.int 4))) nilA)))) (cE (.bl true))) nextM)
    (seqM (ifM (bT (opE eqD (opE ixD (vE 3) (cE (.int 0))) (cE (.str "take")))) (seqM (asgM (vE 3) (tupG 7 (consG (nameG 4) (consG (nameG 4) (consG (nameG 5) (consG (nameG 4) (consG (nameG 6) (consG (nameG 7) (consG (nameG 8) nilG)))))))))
    (seqM (setM 9 (bfE lenF (consA (lcE (seqI (methE "Pasts" "inputs" 2 m_Pasts_inputs (vE 1) (consA (vE 5) nilA))) [10] (nameG 10) (bT (opE eqD (opE ixD (vE 10) (cE (.int 0))) (vE 6))) (vE 10)) nilA)))
    (seqM (ifM (bT (opE neD (vE 7) (opE addD (vE 9) (cE (.int 1))))) (retM (tupE (consA (cE (.str "number")) (consA (vE 5) (consA (vE 6) (consA (vE 7) nilA)))))) nextM)
    (ifM (andT (bT (opE eqD (vE 6) (cE (.int (-1))))) (bT (opE (tinF true) (tupE (consA (vE 5) (consA (vE 7) (consA (vE 8) nilA)))) (vE 2)))) (retM (tupE (consA (cE (.str "desk")) (consA (vE 5) (consA (vE 7) nilA))))) nextM)))) nextM)
    (dropM (methE "Pasts" "note" 2 m_Pasts_note (vE 1) (consA (vE 3) nilA))))))
    (retM (cE .non)))))
theorem ok_m_take_fault (T : Txt K mg) : FnOk P w K mg base CX0 3 T.a_take_fault T.fd_take_fault ["events"] (spM K (Cl.mk (He.ga K) w) 1 m_take_fault) :=
  T.F_take_fault.ok sc_take_fault (fun _ _ _ _ h => spM_len h) (fun cdv A outer s H vs Q E hr h => ⟨_, PSs.nox (fss_cons (PS.imp (ps_set (i := 1) sc_take_fault.nd rfl (Or.inl rfl) (PE.imp (pe_make0 T.mk_Pasts (ok_m_Pasts___init__ T) (hr.mono (by decide)) rfl T.g_Pasts T.b_Pasts___init__ .nil passN) make0_im)) set_im)
      (fss_cons (PS.imp (ps_set (i := 2) sc_take_fault.nd rfl (Or.inl rfl) fe_tnew) set_im)
      (fss_cons (fs_for (vs := [3]) (g := nameG 3) (mb := seqM (ifM (bT (opE eqD (opE ixD (vE 3) (cE (.int 0))) (cE (.str "submit")))) (tputM (vE 2) (tupE (consA (opE ixD (vE 3) (cE (.int 2))) (consA (opE ixD (vE 3) (cE (.int 3))) (consA (opE ixD (vE 3) (cE (.int 4))) nilA)))) (cE (.bl true))) nextM)
    (seqM (ifM (bT (opE eqD (opE ixD (vE 3) (cE (.int 0))) (cE (.str "take")))) (seqM (asgM (vE 3) (tupG 7 (consG (nameG 4) (consG (nameG 4) (consG (nameG 5) (consG (nameG 4) (consG (nameG 6) (consG (nameG 7) (consG (nameG 8) nilG)))))))))
    (seqM (setM 9 (bfE lenF (consA (lcE (seqI (methE "Pasts" "inputs" 2 m_Pasts_inputs (vE 1) (consA (vE 5) nilA))) [10] (nameG 10) (bT (opE eqD (opE ixD (vE 10) (cE (.int 0))) (vE 6))) (vE 10)) nilA)))
    (seqM (ifM (bT (opE neD (vE 7) (opE addD (vE 9) (cE (.int 1))))) (retM (tupE (consA (cE (.str "number")) (consA (vE 5) (consA (vE 6) (consA (vE 7) nilA)))))) nextM)
    (ifM (andT (bT (opE eqD (vE 6) (cE (.int (-1))))) (bT (opE (tinF true) (tupE (consA (vE 5) (consA (vE 7) (consA (vE 8) nilA)))) (vE 2)))) (retM (tupE (consA (cE (.str "desk")) (consA (vE 5) (consA (vE 7) nilA))))) nextM)))) nextM)
    (dropM (methE "Pasts" "note" 2 m_Pasts_note (vE 1) (consA (vE 3) nilA))))) (ps_for PassesOwn.never rfl (fi_seq (fe_var (pv 0))) (pg_name (i := 3) sc_take_fault.nd rfl (Or.inl rfl))
        (fss_cons (fs_if (ft_cmp (op_eqDD hr.units) (fe_ix ix_D (fe_var (pv 3)) fe_int) fe_str (nomark _)) (fss_one (ps_tput rfl (room65 hr) (fe_var (pv 2)) (PE.imp (pe_tup (fa_cons (fe_ix ix_D (fe_var (pv 3)) fe_int) (fa_cons (fe_ix ix_D (fe_var (pv 3)) fe_int) (fa_cons (fe_ix ix_D (fe_var (pv 3)) fe_int) fa_nil)))) tup_im) fe_bl)) fss_nil)
      (fss_cons (fs_if (ft_cmp (op_eqDD hr.units) (fe_ix ix_D (fe_var (pv 3)) fe_int) fe_str (nomark _)) (fss_cons (PS.imp (ps_asg (fe_var (pv 3)) (pg_tup rfl (pgs_cons (pg_name (i := 4) sc_take_fault.nd rfl (Or.inl rfl)) (pgs_cons (pg_name (i := 4) sc_take_fault.nd rfl (Or.inl rfl)) (pgs_cons (pg_name (i := 5) sc_take_fault.nd rfl (Or.inl rfl)) (pgs_cons (pg_name (i := 4) sc_take_fault.nd rfl (Or.inl rfl)) (pgs_cons (pg_name (i := 6) sc_take_fault.nd rfl (Or.inr rfl)) (pgs_cons (pg_name (i := 7) sc_take_fault.nd rfl (Or.inl rfl)) (pgs_cons (pg_name (i := 8) sc_take_fault.nd rfl (Or.inl rfl)) pgs_nil))))))))) (asg_im (vs := [4, 4, 5, 4, 6, 7, 8]) (g := tupG 7 (consG (nameG 4) (consG (nameG 4) (consG (nameG 5) (consG (nameG 4) (consG (nameG 6) (consG (nameG 7) (consG (nameG 8) nilG)))))))) (tup_ig (cons_ig (name_ig (by decide)) (cons_ig (name_ig (by decide)) (cons_ig (name_ig (by decide)) (cons_ig (name_ig (by decide)) (cons_ig (name_ig (by decide)) (cons_ig (name_ig (by decide)) (cons_ig (name_ig (by decide)) nil_ig))))))))))
      (fss_cons (PS.imp (ps_set (i := 9) sc_take_fault.nd rfl (Or.inl rfl) (PE.imp (pe_callB call_lenF (by rfl) T.n_len (by decide +kernel) (fa_cons (PE.imp (pe_lc (own := [("row", 10)]) (g := gName 10)  rfl sc_take_fault.nd (fi_seq (PE.imp (pe_meth (fe_var (pv 1)) T.cls_Pasts T.m_Pasts_inputs (ok_m_Pasts_inputs T) (hr.mono (by decide)) T.b_Pasts_inputs .nil passN (fa_cons (fe_var (pv 5)) fa_nil)) meth_im)) (by exact blkOk_by (N := N_take_fault) (sc := defScope s_take_fault) (by decide +kernel)) (fun _ _ _ _ _ => pg_name (i := 10) sc_take_fault.nd rfl (Or.inl rfl)) (fun _ _ _ _ _ => ft_imp (E := fun _ _ _ _ => False) (ft_cmp (op_eqDD hr.units) (fe_ix ix_D (fe_var (pv 10)) fe_int) (fe_var (pv 6)) (nomark _))) (fun _ _ _ _ _ => fe_var (pv 10))) (lc_im (E0 := fun _ _ _ _ => False) (vs := [10]) (us := [10]) (g := nameG 10) (mt := bT (opE eqD (opE ixD (vE 10) (cE (.int 0))) (vE 6))) (me := vE 10) (name_ig (by decide)) (by decide) (fun _ _ _ h => h))) fa_nil)) bf_im)) set_im)
      (fss_cons (fs_if (ft_cmp (op_neDD hr.units) (fe_var (pv 7)) (fe_op op_addD (fe_var (pv 9)) fe_int) (nomark _)) (fss_one (fs_ret (PE.imp (pe_tup (fa_cons fe_str (fa_cons (fe_var (pv 5)) (fa_cons (fe_var (pv 6)) (fa_cons (fe_var (pv 7)) fa_nil))))) tup_im))) fss_nil)
      (fss_one (fs_if (PW.pt (fw_and (ft_cmp (op_eqDD hr.units) (fe_var (pv 6)) (fe_c (pe_glob rfl T.g_DESK T.r_DESK) (fun _ _ => .int _)) (nomark _)) (fw_and1 (ft_pc (ft_tnin rfl (room65 hr) (PE.imp (pe_tup (fa_cons (fe_var (pv 5)) (fa_cons (fe_var (pv 7)) (fa_cons (fe_var (pv 8)) fa_nil)))) tup_im) (fe_var (pv 2))))))) (fss_one (fs_ret (PE.imp (pe_tup (fa_cons fe_str (fa_cons (fe_var (pv 5)) (fa_cons (fe_var (pv 7)) fa_nil)))) tup_im))) fss_nil))))) fss_nil)
      (fss_one (PS.imp (ps_expr (PE.imp (pe_meth (fe_var (pv 1)) T.cls_Pasts T.m_Pasts_note (ok_m_Pasts_note T) (hr.mono (by decide)) T.b_Pasts_note .nil passN (fa_cons (fe_var (pv 3)) fa_nil)) meth_im)) drop_im))))) (name_ig (by decide)))
      (fss_one (fs_ret fe_non))))), body_of (N := N_take_fault) (n := 1) (k := 10) rfl h⟩)
noncomputable def m_undo_fault : Fn := fnM 2 (
    seqM (setM 1 (makeE "Pasts" 1 m_Pasts___init__ nilA))
    (seqM (forM (seqI (vE 0)) (nameG 2) (seqM (ifM (andT (bT (opE eqD (opE ixD (vE 2) (cE (.int 0))) (cE (.str "undo")))) (bT (opE leD (bfE lenF (consA (methE "Pasts" "inputs" 2 m_Pasts_inputs (vE 1) (consA (opE ixD (vE 2) (cE (.int 2))) nilA)) nilA)) (opE ixD (vE 2) (cE (.int 3)))))) (retM (tupE (consA (cE (.str "undo")) (consA (opE ixD (vE 2) (cE (.int 2))) (consA (opE ixD (vE 2) (cE (.int 3))) nilA))))) nextM)
    (dropM (methE "Pasts" "note" 2 m_Pasts_note (vE 1) (consA (vE 2) nilA)))))
    (retM (cE .non))))
theorem ok_m_undo_fault (T : Txt K mg) : FnOk P w K mg base CX0 3 T.a_undo_fault T.fd_undo_fault ["events"] (spM K (Cl.mk (He.ga K) w) 1 m_undo_fault) :=
  T.F_undo_fault.ok sc_undo_fault (fun _ _ _ _ h => spM_len h) (fun cdv A outer s H vs Q E hr h => ⟨_, PSs.nox (fss_cons (PS.imp (ps_set (i := 1) sc_undo_fault.nd rfl (Or.inl rfl) (PE.imp (pe_make0 T.mk_Pasts (ok_m_Pasts___init__ T) (hr.mono (by decide)) rfl T.g_Pasts T.b_Pasts___init__ .nil passN) make0_im)) set_im)
      (fss_cons (fs_for (vs := [2]) (g := nameG 2) (mb := seqM (ifM (andT (bT (opE eqD (opE ixD (vE 2) (cE (.int 0))) (cE (.str "undo")))) (bT (opE leD (bfE lenF (consA (methE "Pasts" "inputs" 2 m_Pasts_inputs (vE 1) (consA (opE ixD (vE 2) (cE (.int 2))) nilA)) nilA)) (opE ixD (vE 2) (cE (.int 3)))))) (retM (tupE (consA (cE (.str "undo")) (consA (opE ixD (vE 2) (cE (.int 2))) (consA (opE ixD (vE 2) (cE (.int 3))) nilA))))) nextM)
    (dropM (methE "Pasts" "note" 2 m_Pasts_note (vE 1) (consA (vE 2) nilA)))) (ps_for PassesOwn.never rfl (fi_seq (fe_var (pv 0))) (pg_name (i := 2) sc_undo_fault.nd rfl (Or.inl rfl))
        (fss_cons (fs_if (PW.pt (fw_and (ft_cmp (op_eqDD hr.units) (fe_ix ix_D (fe_var (pv 2)) fe_int) fe_str (nomark _)) (fw_and1 (ft_cmp op_leD (PE.imp (pe_callB call_lenF (by rfl) T.n_len (by decide +kernel) (fa_cons (PE.imp (pe_meth (fe_var (pv 1)) T.cls_Pasts T.m_Pasts_inputs (ok_m_Pasts_inputs T) (hr.mono (by decide)) T.b_Pasts_inputs .nil passN (fa_cons (fe_ix ix_D (fe_var (pv 2)) fe_int) fa_nil)) meth_im) fa_nil)) bf_im) (fe_ix ix_D (fe_var (pv 2)) fe_int) (nomark _))))) (fss_one (fs_ret (PE.imp (pe_tup (fa_cons fe_str (fa_cons (fe_ix ix_D (fe_var (pv 2)) fe_int) (fa_cons (fe_ix ix_D (fe_var (pv 2)) fe_int) fa_nil)))) tup_im))) fss_nil)
      (fss_one (PS.imp (ps_expr (PE.imp (pe_meth (fe_var (pv 1)) T.cls_Pasts T.m_Pasts_note (ok_m_Pasts_note T) (hr.mono (by decide)) T.b_Pasts_note .nil passN (fa_cons (fe_var (pv 2)) fa_nil)) meth_im)) drop_im)))) (name_ig (by decide)))
      (fss_one (fs_ret fe_non)))), body_of (N := N_undo_fault) (n := 1) (k := 2) rfl h⟩)
noncomputable def m_show_fault : Fn := fnM 5 (
    seqM (setM 1 (makeE "Pasts" 1 m_Pasts___init__ nilA))
    (seqM (setM 2 dicE0)
    (seqM (forM (seqI (vE 0)) (nameG 3) (seqM (dropM (methE "Pasts" "note" 2 m_Pasts_note (vE 1) (consA (vE 3) nilA)))
    (seqM (setM 4 (dget2E (vE 2) (opE ixD (vE 3) (cE (.int 2))) (lstE nilA)))
    (seqM (ifM (andT (bT (opE eqD (opE ixD (vE 3) (cE (.int 0))) (cE (.str "undo")))) (bT (opE neD (slE (opE ixD (methE "Pasts" "made" 2 m_Pasts_made (vE 1) (consA (opE ixD (vE 3) (cE (.int 2))) nilA)) (cE (.int 1))) noneO (someO (bfE lenF (consA (vE 4) nilA)))) (vE 4)))) (retM (tupE (consA (cE (.str "hidden")) (consA (opE ixD (vE 3) (cE (.int 2))) (consA (opE ixD (vE 3) (cE (.int 3))) nilA))))) nextM)
    (ifM (bT (opE eqD (opE ixD (vE 3) (cE (.int 0))) (cE (.str "show")))) (seqM (ifM (bT (opE neD (opE ixD (vE 3) (cE (.int 3))) (opE addD (bfE lenF (consA (vE 4) nilA)) (cE (.int 1))))) (retM (tupE (consA (cE (.str "order")) (consA (opE ixD (vE 3) (cE (.int 2))) (consA (opE ixD (vE 3) (cE (.int 3))) nilA))))) nextM)
    (seqM (setM 5 (opE ixD (methE "Pasts" "made" 2 m_Pasts_made (vE 1) (consA (opE ixD (vE 3) (cE (.int 2))) nilA)) (cE (.int 1))))
    (seqM (ifM (orT (bT (opE ltD (bfE lenF (consA (vE 5) nilA)) (opE ixD (vE 3) (cE (.int 3))))) (bT (opE neD (opE ixD (vE 5) (opE subD (opE ixD (vE 3) (cE (.int 3))) (cE (.int 1)))) (opE ixD (vE 3) (cE (.int 4)))))) (retM (tupE (consA (cE (.str "show")) (consA (opE ixD (vE 3) (cE (.int 2))) (consA (opE ixD (vE 3) (cE (.int 3))) nilA))))) nextM)
    (subM (vE 2) (opE ixD (vE 3) (cE (.int 2))) (opE addD (vE 4) (lstE (consA (opE ixD (vE 3) (cE (.int 4))) nilA))))))) nextM)))))
    (retM (cE .non)))))
theorem ok_m_show_fault (T : Txt K mg) : FnOk P w K mg base CX0 24 T.a_show_fault T.fd_show_fault ["events"] (spM K (Cl.mk (He.ga K) w) 1 m_show_fault) :=
  T.F_show_fault.ok sc_show_fault (fun _ _ _ _ h => spM_len h) (fun cdv A outer s H vs Q E hr h => ⟨_, PSs.nox (fss_cons (PS.imp (ps_set (i := 1) sc_show_fault.nd rfl (Or.inl rfl) (PE.imp (pe_make0 T.mk_Pasts (ok_m_Pasts___init__ T) (hr.mono (by decide)) rfl T.g_Pasts T.b_Pasts___init__ .nil passN) make0_im)) set_im)
      (fss_cons (PS.imp (ps_set (i := 2) sc_show_fault.nd rfl (Or.inl rfl) (PE.imp pe_dnewK dic0_im)) set_im)
      (fss_cons (fs_for (vs := [3]) (g := nameG 3) (mb := seqM (dropM (methE "Pasts" "note" 2 m_Pasts_note (vE 1) (consA (vE 3) nilA)))
    (seqM (setM 4 (dget2E (vE 2) (opE ixD (vE 3) (cE (.int 2))) (lstE nilA)))
    (seqM (ifM (andT (bT (opE eqD (opE ixD (vE 3) (cE (.int 0))) (cE (.str "undo")))) (bT (opE neD (slE (opE ixD (methE "Pasts" "made" 2 m_Pasts_made (vE 1) (consA (opE ixD (vE 3) (cE (.int 2))) nilA)) (cE (.int 1))) noneO (someO (bfE lenF (consA (vE 4) nilA)))) (vE 4)))) (retM (tupE (consA (cE (.str "hidden")) (consA (opE ixD (vE 3) (cE (.int 2))) (consA (opE ixD (vE 3) (cE (.int 3))) nilA))))) nextM)
    (ifM (bT (opE eqD (opE ixD (vE 3) (cE (.int 0))) (cE (.str "show")))) (seqM (ifM (bT (opE neD (opE ixD (vE 3) (cE (.int 3))) (opE addD (bfE lenF (consA (vE 4) nilA)) (cE (.int 1))))) (retM (tupE (consA (cE (.str "order")) (consA (opE ixD (vE 3) (cE (.int 2))) (consA (opE ixD (vE 3) (cE (.int 3))) nilA))))) nextM)
    (seqM (setM 5 (opE ixD (methE "Pasts" "made" 2 m_Pasts_made (vE 1) (consA (opE ixD (vE 3) (cE (.int 2))) nilA)) (cE (.int 1))))
    (seqM (ifM (orT (bT (opE ltD (bfE lenF (consA (vE 5) nilA)) (opE ixD (vE 3) (cE (.int 3))))) (bT (opE neD (opE ixD (vE 5) (opE subD (opE ixD (vE 3) (cE (.int 3))) (cE (.int 1)))) (opE ixD (vE 3) (cE (.int 4)))))) (retM (tupE (consA (cE (.str "show")) (consA (opE ixD (vE 3) (cE (.int 2))) (consA (opE ixD (vE 3) (cE (.int 3))) nilA))))) nextM)
    (subM (vE 2) (opE ixD (vE 3) (cE (.int 2))) (opE addD (vE 4) (lstE (consA (opE ixD (vE 3) (cE (.int 4))) nilA))))))) nextM)))) (ps_for PassesOwn.never rfl (fi_seq (fe_var (pv 0))) (pg_name (i := 3) sc_show_fault.nd rfl (Or.inl rfl))
        (fss_cons (PS.imp (ps_expr (PE.imp (pe_meth (fe_var (pv 1)) T.cls_Pasts T.m_Pasts_note (ok_m_Pasts_note T) (hr.mono (by decide)) T.b_Pasts_note .nil passN (fa_cons (fe_var (pv 3)) fa_nil)) meth_im)) drop_im)
      (fss_cons (PS.imp (ps_set (i := 4) sc_show_fault.nd rfl (Or.inl rfl) (fe_dget2 (hu_of hr) (fe_var (pv 2)) (fe_ix ix_D (fe_var (pv 3)) fe_int) (PE.imp (pe_lst fa_nil) lst_im) (by exact ⟨rfl, rfl, rfl, rfl⟩))) set_im)
      (fss_cons (fs_if (PW.pt (fw_and (ft_cmp (op_eqDD hr.units) (fe_ix ix_D (fe_var (pv 3)) fe_int) fe_str (nomark _)) (fw_and1 (ft_cmp (op_neDD hr.units) (fe_slice (fe_ix ix_D (PE.imp (pe_meth (fe_var (pv 1)) T.cls_Pasts T.m_Pasts_made (ok_m_Pasts_made T) (hr.mono (by decide)) T.b_Pasts_made .nil passN (fa_cons (fe_ix ix_D (fe_var (pv 3)) fe_int) fa_nil)) meth_im) fe_int) fo_none (fo_some (PE.imp (pe_callB call_lenF (by rfl) T.n_len (by decide +kernel) (fa_cons (fe_var (pv 4)) fa_nil)) bf_im))) (fe_var (pv 4)) (nomark _))))) (fss_one (fs_ret (PE.imp (pe_tup (fa_cons fe_str (fa_cons (fe_ix ix_D (fe_var (pv 3)) fe_int) (fa_cons (fe_ix ix_D (fe_var (pv 3)) fe_int) fa_nil)))) tup_im))) fss_nil)
      (fss_one (fs_if (ft_cmp (op_eqDD hr.units) (fe_ix ix_D (fe_var (pv 3)) fe_int) fe_str (nomark _)) (fss_cons (fs_if (ft_cmp (op_neDD hr.units) (fe_ix ix_D (fe_var (pv 3)) fe_int) (fe_op op_addD (PE.imp (pe_callB call_lenF (by rfl) T.n_len (by decide +kernel) (fa_cons (fe_var (pv 4)) fa_nil)) bf_im) fe_int) (nomark _)) (fss_one (fs_ret (PE.imp (pe_tup (fa_cons fe_str (fa_cons (fe_ix ix_D (fe_var (pv 3)) fe_int) (fa_cons (fe_ix ix_D (fe_var (pv 3)) fe_int) fa_nil)))) tup_im))) fss_nil)
      (fss_cons (PS.imp (ps_set (i := 5) sc_show_fault.nd rfl (Or.inl rfl) (fe_ix ix_D (PE.imp (pe_meth (fe_var (pv 1)) T.cls_Pasts T.m_Pasts_made (ok_m_Pasts_made T) (hr.mono (by decide)) T.b_Pasts_made .nil passN (fa_cons (fe_ix ix_D (fe_var (pv 3)) fe_int) fa_nil)) meth_im) fe_int)) set_im)
      (fss_cons (fs_if (PW.pt (fw_or (ft_cmp op_ltD (PE.imp (pe_callB call_lenF (by rfl) T.n_len (by decide +kernel) (fa_cons (fe_var (pv 5)) fa_nil)) bf_im) (fe_ix ix_D (fe_var (pv 3)) fe_int) (nomark _)) (fw_or1 (ft_cmp (op_neDD hr.units) (fe_ix ix_D (fe_var (pv 5)) (fe_op op_subD (fe_ix ix_D (fe_var (pv 3)) fe_int) fe_int)) (fe_ix ix_D (fe_var (pv 3)) fe_int) (nomark _))))) (fss_one (fs_ret (PE.imp (pe_tup (fa_cons fe_str (fa_cons (fe_ix ix_D (fe_var (pv 3)) fe_int) (fa_cons (fe_ix ix_D (fe_var (pv 3)) fe_int) fa_nil)))) tup_im))) fss_nil)
      (fss_one (PS.imp (ps_asg (fe_op op_addD (fe_var (pv 4)) (PE.imp (pe_lst (fa_cons (fe_ix ix_D (fe_var (pv 3)) fe_int) fa_nil)) lst_im)) (pg_sub (fe_var (pv 2)) (fe_ix ix_D (fe_var (pv 3)) fe_int) (set_u (hu_of hr)))) sub_im))))) fss_nil)))))) (name_ig (by decide)))
      (fss_one (fs_ret fe_non))))), body_of (N := N_show_fault) (n := 1) (k := 5) rfl h⟩)
noncomputable def m_run_fault : Fn := fnM 8 (
    seqM (setM 1 (makeE "Pasts" 1 m_Pasts___init__ nilA))
    (seqM (forM (seqI (vE 0)) (nameG 2) (dropM (methE "Pasts" "note" 2 m_Pasts_note (vE 1) (consA (vE 2) nilA))))
    (seqM (forM (seqI (methE "Pasts" "processes" 1 m_Pasts_processes (vE 1) nilA)) (nameG 3) (forM (seqI (methE "Pasts" "inputs" 2 m_Pasts_inputs (vE 1) (consA (vE 3) nilA))) (tupG 3 (consG (nameG 4) (consG (nameG 5) (consG (nameG 6) nilG)))) (ifM (bT (opE neD (vE 4) (cE (.int (-1))))) (seqM (setM 7 (lcE (seqI (opE ixD (methE "Pasts" "made" 2 m_Pasts_made (vE 1) (consA (vE 4) nilA)) (cE (.int 0)))) [8] (nameG 8) (bT (opE eqD (opE ixD (vE 8) (cE (.int 0))) (vE 3))) (opE ixD (vE 8) (cE (.int 1)))))
    (ifM (orT (bT (opE ltD (bfE lenF (consA (vE 7) nilA)) (vE 5))) (bT (opE neD (opE ixD (vE 7) (opE subD (vE 5) (cE (.int 1)))) (vE 6)))) (retM (tupE (consA (cE (.str "run")) (consA (vE 3) (consA (vE 4) (consA (vE 5) nilA)))))) nextM)) nextM)))
    (retM (cE .non)))))
theorem ok_m_run_fault (T : Txt K mg) : FnOk P w K mg base CX0 24 T.a_run_fault T.fd_run_fault ["events"] (spM K (Cl.mk (He.ga K) w) 1 m_run_fault) :=
  T.F_run_fault.ok sc_run_fault (fun _ _ _ _ h => spM_len h) (fun cdv A outer s H vs Q E hr h => ⟨_, PSs.nox (fss_cons (PS.imp (ps_set (i := 1) sc_run_fault.nd rfl (Or.inl rfl) (PE.imp (pe_make0 T.mk_Pasts (ok_m_Pasts___init__ T) (hr.mono (by decide)) rfl T.g_Pasts T.b_Pasts___init__ .nil passN) make0_im)) set_im)
      (fss_cons (fs_for (vs := [2]) (g := nameG 2) (mb := dropM (methE "Pasts" "note" 2 m_Pasts_note (vE 1) (consA (vE 2) nilA))) (ps_for PassesOwn.never rfl (fi_seq (fe_var (pv 0))) (pg_name (i := 2) sc_run_fault.nd rfl (Or.inl rfl))
        (fss_one (PS.imp (ps_expr (PE.imp (pe_meth (fe_var (pv 1)) T.cls_Pasts T.m_Pasts_note (ok_m_Pasts_note T) (hr.mono (by decide)) T.b_Pasts_note .nil passN (fa_cons (fe_var (pv 2)) fa_nil)) meth_im)) drop_im))) (name_ig (by decide)))
      (fss_cons (fs_for (vs := [3]) (g := nameG 3) (mb := forM (seqI (methE "Pasts" "inputs" 2 m_Pasts_inputs (vE 1) (consA (vE 3) nilA))) (tupG 3 (consG (nameG 4) (consG (nameG 5) (consG (nameG 6) nilG)))) (ifM (bT (opE neD (vE 4) (cE (.int (-1))))) (seqM (setM 7 (lcE (seqI (opE ixD (methE "Pasts" "made" 2 m_Pasts_made (vE 1) (consA (vE 4) nilA)) (cE (.int 0)))) [8] (nameG 8) (bT (opE eqD (opE ixD (vE 8) (cE (.int 0))) (vE 3))) (opE ixD (vE 8) (cE (.int 1)))))
    (ifM (orT (bT (opE ltD (bfE lenF (consA (vE 7) nilA)) (vE 5))) (bT (opE neD (opE ixD (vE 7) (opE subD (vE 5) (cE (.int 1)))) (vE 6)))) (retM (tupE (consA (cE (.str "run")) (consA (vE 3) (consA (vE 4) (consA (vE 5) nilA)))))) nextM)) nextM)) (ps_for PassesOwn.never rfl (fi_seq (PE.imp (pe_meth0 (fe_var (pv 1)) T.cls_Pasts T.m_Pasts_processes (ok_m_Pasts_processes T) (hr.mono (by decide)) T.b_Pasts_processes .nil passN) meth0_im)) (pg_name (i := 3) sc_run_fault.nd rfl (Or.inr rfl))
        (fss_one (fs_for (vs := [4, 5, 6]) (g := tupG 3 (consG (nameG 4) (consG (nameG 5) (consG (nameG 6) nilG)))) (mb := ifM (bT (opE neD (vE 4) (cE (.int (-1))))) (seqM (setM 7 (lcE (seqI (opE ixD (methE "Pasts" "made" 2 m_Pasts_made (vE 1) (consA (vE 4) nilA)) (cE (.int 0)))) [8] (nameG 8) (bT (opE eqD (opE ixD (vE 8) (cE (.int 0))) (vE 3))) (opE ixD (vE 8) (cE (.int 1)))))
    (ifM (orT (bT (opE ltD (bfE lenF (consA (vE 7) nilA)) (vE 5))) (bT (opE neD (opE ixD (vE 7) (opE subD (vE 5) (cE (.int 1)))) (vE 6)))) (retM (tupE (consA (cE (.str "run")) (consA (vE 3) (consA (vE 4) (consA (vE 5) nilA)))))) nextM)) nextM) (ps_for PassesOwn.never rfl (fi_seq (PE.imp (pe_meth (fe_var (pv 1)) T.cls_Pasts T.m_Pasts_inputs (ok_m_Pasts_inputs T) (hr.mono (by decide)) T.b_Pasts_inputs .nil passN (fa_cons (fe_var (pv 3)) fa_nil)) meth_im)) (pg_tup rfl (pgs_cons (pg_name (i := 4) sc_run_fault.nd rfl (Or.inl rfl)) (pgs_cons (pg_name (i := 5) sc_run_fault.nd rfl (Or.inl rfl)) (pgs_cons (pg_name (i := 6) sc_run_fault.nd rfl (Or.inl rfl)) pgs_nil))))
        (fss_one (fs_if (ft_cmp (op_neDD hr.units) (fe_var (pv 4)) (fe_c (pe_glob rfl T.g_DESK T.r_DESK) (fun _ _ => .int _)) (nomark _)) (fss_cons (PS.imp (ps_setLc (i := 7) (own := [("send", 8)]) (g := gName 8)  rfl sc_run_fault.nd rfl rfl (sw_true rfl rfl rfl (by decide +kernel)) (fi_seq (fe_ix ix_D (PE.imp (pe_meth (fe_var (pv 1)) T.cls_Pasts T.m_Pasts_made (ok_m_Pasts_made T) (hr.mono (by decide)) T.b_Pasts_made .nil passN (fa_cons (fe_var (pv 4)) fa_nil)) meth_im) fe_int)) (by exact blkOk_by (N := N_run_fault) (sc := defScope s_run_fault) (by decide +kernel)) (fun _ _ _ _ _ => pg_name (i := 8) sc_run_fault.nd rfl (Or.inl rfl)) (fun _ _ _ _ _ => ft_imp (E := fun _ _ _ _ => False) (ft_cmp (op_eqDD hr.units) (fe_ix ix_D (fe_var (pv 8)) fe_int) (fe_var (pv 3)) (nomark _))) (fun _ _ _ _ _ => fe_ix ix_D (fe_var (pv 8)) fe_int)) (setlc_im (lc_im (E0 := fun _ _ _ _ => False) (vs := [8]) (us := [8]) (g := nameG 8) (mt := bT (opE eqD (opE ixD (vE 8) (cE (.int 0))) (vE 3))) (me := opE ixD (vE 8) (cE (.int 1))) (name_ig (by decide)) (by decide) (fun _ _ _ h => h))))
      (fss_one (fs_if (PW.pt (fw_or (ft_cmp op_ltD (PE.imp (pe_callB call_lenF (by rfl) T.n_len (by decide +kernel) (fa_cons (fe_var (pv 7)) fa_nil)) bf_im) (fe_var (pv 5)) (nomark _)) (fw_or1 (ft_cmp (op_neDD hr.units) (fe_ix ix_D (fe_var (pv 7)) (fe_op op_subD (fe_var (pv 5)) fe_int)) (fe_var (pv 6)) (nomark _))))) (fss_one (fs_ret (PE.imp (pe_tup (fa_cons fe_str (fa_cons (fe_var (pv 3)) (fa_cons (fe_var (pv 4)) (fa_cons (fe_var (pv 5)) fa_nil))))) tup_im))) fss_nil))) fss_nil))) (tup_ig (cons_ig (name_ig (by decide)) (cons_ig (name_ig (by decide)) (cons_ig (name_ig (by decide)) nil_ig))))))) (name_ig (by decide)))
      (fss_one (fs_ret fe_non))))), body_of (N := N_run_fault) (n := 1) (k := 8) rfl h⟩)
noncomputable def m_judge : Fn := fnM 2 (
    seqM (setM 1 (lstE (consA (callE 1 m_take_fault (consA (vE 0) nilA)) (consA (callE 1 m_undo_fault (consA (vE 0) nilA)) (consA (callE 1 m_show_fault (consA (vE 0) nilA)) (consA (callE 1 m_run_fault (consA (vE 0) nilA)) nilA))))))
    (retM (lcE (seqI (vE 1)) [2] (nameG 2) (bT (opE isntD (vE 2) (cE .non))) (vE 2))))
theorem ok_m_judge (T : Txt K mg) : FnOk P w K mg base CX0 25 T.a_judge T.fd_judge ["events"] (spM K (Cl.mk (He.ga K) w) 1 m_judge) :=
  T.F_judge.ok sc_judge (fun _ _ _ _ h => spM_len h) (fun cdv A outer s H vs Q E hr h => ⟨_, PSs.nox (fss_cons (PS.imp (ps_set (i := 1) sc_judge.nd rfl (Or.inl rfl) (PE.imp (pe_lst (fa_cons (PE.imp (pe_call (ok_m_take_fault T) (hr.mono (by decide)) rfl T.g_take_fault T.F_take_fault.kp T.b_take_fault .nil passN (fa_cons (fe_var (pv 0)) fa_nil)) call_im) (fa_cons (PE.imp (pe_call (ok_m_undo_fault T) (hr.mono (by decide)) rfl T.g_undo_fault T.F_undo_fault.kp T.b_undo_fault .nil passN (fa_cons (fe_var (pv 0)) fa_nil)) call_im) (fa_cons (PE.imp (pe_call (ok_m_show_fault T) (hr.mono (by decide)) rfl T.g_show_fault T.F_show_fault.kp T.b_show_fault .nil passN (fa_cons (fe_var (pv 0)) fa_nil)) call_im) (fa_cons (PE.imp (pe_call (ok_m_run_fault T) (hr.mono (by decide)) rfl T.g_run_fault T.F_run_fault.kp T.b_run_fault .nil passN (fa_cons (fe_var (pv 0)) fa_nil)) call_im) fa_nil))))) lst_im)) set_im)
      (fss_one (fs_ret (PE.imp (pe_lc (own := [("fault", 2)]) (g := gName 2)  rfl sc_judge.nd (fi_seq (fe_var (pv 1))) (by exact blkOk_by (N := N_judge) (sc := defScope s_judge) (by decide +kernel)) (fun _ _ _ _ _ => pg_name (i := 2) sc_judge.nd rfl (Or.inl rfl)) (fun _ _ _ _ _ => ft_imp (E := fun _ _ _ _ => False) (ft_cmp op_isntD (fe_var (pv 2)) fe_non (nomark _))) (fun _ _ _ _ _ => fe_var (pv 2))) (lc_im (E0 := fun _ _ _ _ => False) (vs := [2]) (us := [2]) (g := nameG 2) (mt := bT (opE isntD (vE 2) (cE .non))) (me := vE 2) (name_ig (by decide)) (by decide) (fun _ _ _ h => h)))))), body_of (N := N_judge) (n := 1) (k := 2) rfl h⟩)
noncomputable def m__law_draws_c1 : MS := seqM (setM 5 (bfE absF (consA (bfE intF (consA (vE 4) nilA)) nilA)))
    (ifM (bT (opE ltD (vE 5) (opE powD (cE (.int 10)) (cE (.int 18))))) (seqM (setM 6 (opE modD (bfE intF (consA (opE addD (opE mulD (vE 5) (cE (.int 44497))) (cE (.int 41))) nilA)) (cE (.int 2147483647))))
    (seqM (dropM (lmE appendF (vE 3) (consA (opE addD (opE mulD (vE 6) (cE (.int 2147483629))) (opE modD (bfE intF (consA (opE addD (opE mulD (vE 6) (cE (.int 16807))) (vE 5)) nilA)) (cE (.int 2147483629)))) nilA)))
    (dropM (lmE appendF (vE 3) (consA (opE addD (opE mulD (opE modD (bfE intF (consA (opE addD (opE addD (opE mulD (vE 6) (cE (.int 69621))) (opE fdivD (vE 5) (cE (.int 9)))) (cE (.int 3))) nilA)) (cE (.int 2147483399))) (cE (.int 7919))) (opE modD (vE 5) (cE (.int 7919)))) nilA))))) (forM (rangeI1 (consA (cE (.int 12)) nilA)) (nameG 7) (seqM (ifM (bT (opE gtD (vE 5) (cE (.int 0)))) (dropM (lmE appendF (vE 3) (consA (opE modD (bfE intF (consA (vE 5) nilA)) (opE powD (cE (.int 10)) (cE (.int 14)))) nilA))) nextM)
    (setM 5 (opE fdivD (vE 5) (opE powD (cE (.int 10)) (cE (.int 14))))))))
noncomputable def m__law_draws : Fn := fnM 5 (
    seqM (setM 3 (lstE nilA))
    (seqM (forM (seqI (slE (vE 0) (someO (vE 1)) noneO)) (nameG 4) m__law_draws_c1)
    (retM (slE (vE 3) noneO (someO (vE 2))))))
theorem ok_m__law_draws (T : Txt K mg) : FnOk P w K mg base CX0 1 T.a__law_draws T.fd__law_draws ["_law_script", "_law_start", "_law_most"] (spM K (Cl.mk (He.ga K) w) 3 m__law_draws) :=
  T.F__law_draws.ok sc__law_draws (fun _ _ _ _ h => spM_len h) (fun cdv A outer s H vs Q E hr h => ⟨_, PSs.nox (fss_cons (PS.imp (ps_set (i := 3) sc__law_draws.nd rfl (Or.inl rfl) (PE.imp (pe_lst fa_nil) lst_im)) set_im)
      (fss_cons (fs_for (vs := [4]) (g := nameG 4) (mb := m__law_draws_c1) (ps_for PassesOwn.never rfl (fi_seq (fe_slice (fe_var (pv 0)) (fo_some (fe_var (pv 1))) fo_none)) (pg_name (i := 4) sc__law_draws.nd rfl (Or.inl rfl))
        (fss_cons (PS.imp (ps_set (i := 5) sc__law_draws.nd rfl (Or.inl rfl) (PE.imp (pe_callB call_absF (by rfl) T.n_abs (by decide +kernel) (fa_cons (PE.imp (pe_callTy call_intF (by rfl) T.n_int (by decide +kernel) (fa_cons (fe_var (pv 4)) fa_nil)) bf_im) fa_nil)) bf_im)) set_im)
      (fss_one (fs_if (ft_cmp op_ltD (fe_var (pv 5)) (fe_op op_powD fe_int fe_int) (nomark _)) (fss_cons (PS.imp (ps_set (i := 6) sc__law_draws.nd rfl (Or.inl rfl) (fe_op op_modD (PE.imp (pe_callTy call_intF (by rfl) T.n_int (by decide +kernel) (fa_cons (fe_op op_addD (fe_op op_mulD (fe_var (pv 5)) fe_int) fe_int) fa_nil)) bf_im) fe_int)) set_im)
      (fss_cons (PS.imp (ps_expr (PE.imp (pe_bm PySem.F.plainAttrs_list PySem.F.slot_list_append PySem.F.type_list_append mt_append (fe_var (pv 3)) (fa_cons (fe_op op_addD (fe_op op_mulD (fe_var (pv 6)) fe_int) (fe_op op_modD (PE.imp (pe_callTy call_intF (by rfl) T.n_int (by decide +kernel) (fa_cons (fe_op op_addD (fe_op op_mulD (fe_var (pv 6)) fe_int) (fe_var (pv 5))) fa_nil)) bf_im) fe_int)) fa_nil)) (lm_im append_r))) drop_im)
      (fss_one (PS.imp (ps_expr (PE.imp (pe_bm PySem.F.plainAttrs_list PySem.F.slot_list_append PySem.F.type_list_append mt_append (fe_var (pv 3)) (fa_cons (fe_op op_addD (fe_op op_mulD (fe_op op_modD (PE.imp (pe_callTy call_intF (by rfl) T.n_int (by decide +kernel) (fa_cons (fe_op op_addD (fe_op op_addD (fe_op op_mulD (fe_var (pv 6)) fe_int) (fe_op op_fdivD (fe_var (pv 5)) fe_int)) fe_int) fa_nil)) bf_im) fe_int) fe_int) (fe_op op_modD (fe_var (pv 5)) fe_int)) fa_nil)) (lm_im append_r))) drop_im)))) (fss_one (fs_for (vs := [7]) (g := nameG 7) (mb := seqM (ifM (bT (opE gtD (vE 5) (cE (.int 0)))) (dropM (lmE appendF (vE 3) (consA (opE modD (bfE intF (consA (vE 5) nilA)) (opE powD (cE (.int 10)) (cE (.int 14)))) nilA))) nextM)
    (setM 5 (opE fdivD (vE 5) (opE powD (cE (.int 10)) (cE (.int 14)))))) (ps_for PassesOwn.never rfl (fi_range1 (pi_range1 rfl T.n_range (fa_cons fe_int fa_nil))) (pg_name (i := 7) sc__law_draws.nd rfl (Or.inl rfl))
        (fss_cons (fs_if (ft_cmp op_gtD (fe_var (pv 5)) fe_int (nomark _)) (fss_one (PS.imp (ps_expr (PE.imp (pe_bm PySem.F.plainAttrs_list PySem.F.slot_list_append PySem.F.type_list_append mt_append (fe_var (pv 3)) (fa_cons (fe_op op_modD (PE.imp (pe_callTy call_intF (by rfl) T.n_int (by decide +kernel) (fa_cons (fe_var (pv 5)) fa_nil)) bf_im) (fe_op op_powD fe_int fe_int)) fa_nil)) (lm_im append_r))) drop_im)) fss_nil)
      (fss_one (PS.imp (ps_set (i := 5) sc__law_draws.nd rfl (Or.inl rfl) (fe_op op_fdivD (fe_var (pv 5)) (fe_op op_powD fe_int fe_int))) set_im)))) (name_ig (by decide)))))))) (name_ig (by decide)))
      (fss_one (fs_ret (fe_slice (fe_var (pv 3)) fo_none (fo_some (fe_var (pv 2)))))))), body_of (N := N__law_draws) (n := 3) (k := 5) rfl h⟩)
noncomputable def m__law_payload_c1 (rr : Fn) : MS := seqM (ifM (andT (bT (opE gtD (vE 2) (cE (.int 0)))) (bT (opE ltD (vE 3) (cE (.int 6))))) (retM (tupE (consA (cE (.str "send")) (consA (opE modD (vE 4) (vE 1)) (consA (callE 3 rr (consA (opE fdivD (vE 4) (vE 1)) (consA (vE 1) (consA (opE subD (vE 2) (cE (.int 1))) nilA)))) nilA))))) nextM)
    (seqM (ifM (andT (bT (opE gtD (vE 2) (cE (.int 0)))) (bT (opE ltD (vE 3) (cE (.int 8))))) (retM (tupE (consA (cE (.str "both")) (consA (callE 3 rr (consA (opE modD (vE 4) (cE (.int 6561))) (consA (vE 1) (consA (opE subD (vE 2) (cE (.int 1))) nilA)))) (consA (callE 3 rr (consA (opE fdivD (vE 4) (cE (.int 6561))) (consA (vE 1) (consA (opE subD (vE 2) (cE (.int 1))) nilA)))) nilA))))) nextM)
    (seqM (ifM (bT (opE gtD (vE 2) (cE (.int 0)))) (retM (tupE (consA (cE (.str "if")) (consA (vE 5) (consA (callE 3 rr (consA (opE modD (opE fdivD (vE 4) (cE (.int 4))) (cE (.int 6561))) (consA (vE 1) (consA (opE subD (vE 2) (cE (.int 1))) nilA)))) (consA (callE 3 rr (consA (opE fdivD (vE 4) (cE (.int 26244))) (consA (vE 1) (consA (opE subD (vE 2) (cE (.int 1))) nilA)))) nilA)))))) nextM)
    (retM (tupE (consA (cE (.str "add")) (consA (vE 5) (consA (opE subD (opE modD (opE fdivD (vE 4) (cE (.int 4))) (cE (.int 21))) (cE (.int 10))) nilA)))))))
noncomputable def rec__law_payload : Nat → Fn
  | 0 => fun _ _ => .no
  | n + 1 => fnM 3 (
    seqM (setM 3 (opE modD (vE 0) (cE (.int 9))))
    (seqM (setM 4 (opE fdivD (vE 0) (cE (.int 9))))
    (seqM (setM 5 (opE modD (vE 4) (cE (.int 4))))
    (seqM (ifM (bT (opE eqD (vE 3) (cE (.int 0)))) (retM (tupE (consA (cE (.str "set")) (consA (vE 5) (consA (opE subD (opE modD (opE fdivD (vE 4) (cE (.int 4))) (cE (.int 41))) (cE (.int 20))) nilA))))) nextM)
    (seqM (ifM (bT (opE eqD (vE 3) (cE (.int 1)))) (retM (tupE (consA (cE (.str "copy")) (consA (vE 5) (consA (opE modD (opE fdivD (vE 4) (cE (.int 4))) (cE (.int 4))) nilA))))) nextM)
    (seqM (ifM (orT (bT (opE eqD (vE 3) (cE (.int 2)))) (bT (opE eqD (vE 3) (cE (.int 3))))) (retM (tupE (consA (cE (.str "show")) (consA (vE 5) nilA)))) nextM)
    (m__law_payload_c1 (rec__law_payload n))))))))
noncomputable abbrev m__law_payload (n : Nat) : Fn := (rec__law_payload n)
theorem ok_rec__law_payload (T : Txt K mg) : ∀ n : Nat, FnOk P w K mg base CX0 (n + 1) T.a__law_payload T.fd__law_payload ["_law_number", "_law_count", "_law_depth"] (spM K (Cl.mk (He.ga K) w) 3 (rec__law_payload n))
  | 0 => ok_none
  | n + 1 => by
    have ih__law_payload := ok_rec__law_payload T n
    · exact T.F__law_payload.ok sc__law_payload (fun _ _ _ _ h => spM_len h) (fun cdv A outer s H vs Q E hr h => ⟨_, PSs.nox (fss_cons (PS.imp (ps_set (i := 3) sc__law_payload.nd rfl (Or.inl rfl) (fe_op op_modD (fe_var (pv 0)) fe_int)) set_im)
      (fss_cons (PS.imp (ps_set (i := 4) sc__law_payload.nd rfl (Or.inl rfl) (fe_op op_fdivD (fe_var (pv 0)) fe_int)) set_im)
      (fss_cons (PS.imp (ps_set (i := 5) sc__law_payload.nd rfl (Or.inl rfl) (fe_op op_modD (fe_var (pv 4)) fe_int)) set_im)
      (fss_cons (fs_if (ft_cmp (op_eqDD hr.units) (fe_var (pv 3)) fe_int (nomark _)) (fss_one (fs_ret (PE.imp (pe_tup (fa_cons fe_str (fa_cons (fe_var (pv 5)) (fa_cons (fe_op op_subD (fe_op op_modD (fe_op op_fdivD (fe_var (pv 4)) fe_int) fe_int) fe_int) fa_nil)))) tup_im))) fss_nil)
      (fss_cons (fs_if (ft_cmp (op_eqDD hr.units) (fe_var (pv 3)) fe_int (nomark _)) (fss_one (fs_ret (PE.imp (pe_tup (fa_cons fe_str (fa_cons (fe_var (pv 5)) (fa_cons (fe_op op_modD (fe_op op_fdivD (fe_var (pv 4)) fe_int) fe_int) fa_nil)))) tup_im))) fss_nil)
      (fss_cons (fs_if (PW.pt (fw_or (ft_cmp (op_eqDD hr.units) (fe_var (pv 3)) fe_int (nomark _)) (fw_or1 (ft_cmp (op_eqDD hr.units) (fe_var (pv 3)) fe_int (nomark _))))) (fss_one (fs_ret (PE.imp (pe_tup (fa_cons fe_str (fa_cons (fe_var (pv 5)) fa_nil))) tup_im))) fss_nil)
      (fss_cons (fs_if (PW.pt (fw_and (ft_cmp op_gtD (fe_var (pv 2)) fe_int (nomark _)) (fw_and1 (ft_cmp op_ltD (fe_var (pv 3)) fe_int (nomark _))))) (fss_one (fs_ret (PE.imp (pe_tup (fa_cons fe_str (fa_cons (fe_op op_modD (fe_var (pv 4)) (fe_var (pv 1))) (fa_cons (PE.imp (pe_call ih__law_payload (hr.mono (by omega)) rfl T.g__law_payload T.F__law_payload.kp T.b__law_payload .nil passN (fa_cons (fe_op op_fdivD (fe_var (pv 4)) (fe_var (pv 1))) (fa_cons (fe_var (pv 1)) (fa_cons (fe_op op_subD (fe_var (pv 2)) fe_int) fa_nil)))) call_im) fa_nil)))) tup_im))) fss_nil)
      (fss_cons (fs_if (PW.pt (fw_and (ft_cmp op_gtD (fe_var (pv 2)) fe_int (nomark _)) (fw_and1 (ft_cmp op_ltD (fe_var (pv 3)) fe_int (nomark _))))) (fss_one (fs_ret (PE.imp (pe_tup (fa_cons fe_str (fa_cons (PE.imp (pe_call ih__law_payload (hr.mono (by omega)) rfl T.g__law_payload T.F__law_payload.kp T.b__law_payload .nil passN (fa_cons (fe_op op_modD (fe_var (pv 4)) fe_int) (fa_cons (fe_var (pv 1)) (fa_cons (fe_op op_subD (fe_var (pv 2)) fe_int) fa_nil)))) call_im) (fa_cons (PE.imp (pe_call ih__law_payload (hr.mono (by omega)) rfl T.g__law_payload T.F__law_payload.kp T.b__law_payload .nil passN (fa_cons (fe_op op_fdivD (fe_var (pv 4)) fe_int) (fa_cons (fe_var (pv 1)) (fa_cons (fe_op op_subD (fe_var (pv 2)) fe_int) fa_nil)))) call_im) fa_nil)))) tup_im))) fss_nil)
      (fss_cons (fs_if (ft_cmp op_gtD (fe_var (pv 2)) fe_int (nomark _)) (fss_one (fs_ret (PE.imp (pe_tup (fa_cons fe_str (fa_cons (fe_var (pv 5)) (fa_cons (PE.imp (pe_call ih__law_payload (hr.mono (by omega)) rfl T.g__law_payload T.F__law_payload.kp T.b__law_payload .nil passN (fa_cons (fe_op op_modD (fe_op op_fdivD (fe_var (pv 4)) fe_int) fe_int) (fa_cons (fe_var (pv 1)) (fa_cons (fe_op op_subD (fe_var (pv 2)) fe_int) fa_nil)))) call_im) (fa_cons (PE.imp (pe_call ih__law_payload (hr.mono (by omega)) rfl T.g__law_payload T.F__law_payload.kp T.b__law_payload .nil passN (fa_cons (fe_op op_fdivD (fe_var (pv 4)) fe_int) (fa_cons (fe_var (pv 1)) (fa_cons (fe_op op_subD (fe_var (pv 2)) fe_int) fa_nil)))) call_im) fa_nil))))) tup_im))) fss_nil)
      (fss_one (fs_ret (PE.imp (pe_tup (fa_cons fe_str (fa_cons (fe_var (pv 5)) (fa_cons (fe_op op_subD (fe_op op_modD (fe_op op_fdivD (fe_var (pv 4)) fe_int) fe_int) fe_int) fa_nil)))) tup_im)))))))))))), body_of (N := N__law_payload) (n := 3) (k := 3) rfl h⟩)
theorem ok_m__law_payload (T : Txt K mg) (n : Nat) : FnOk P w K mg base CX0 (n + 1) T.a__law_payload T.fd__law_payload ["_law_number", "_law_count", "_law_depth"] (spM K (Cl.mk (He.ga K) w) 3 (rec__law_payload n)) := (ok_rec__law_payload T n)

noncomputable def m__law_run_c3 : MS := seqM (ifM (bT (opE eqD (vE 2) (cE (.str "set")))) (subM (vE 0) (opE ixD (vE 1) (cE (.int 1))) (opE ixD (vE 1) (cE (.int 2)))) (ifM (bT (opE eqD (vE 2) (cE (.str "add")))) (subM (vE 0) (opE ixD (vE 1) (cE (.int 1))) (opE addD (opE ixD (vE 0) (opE ixD (vE 1) (cE (.int 1)))) (opE ixD (vE 1) (cE (.int 2))))) (subM (vE 0) (opE ixD (vE 1) (cE (.int 1))) (opE ixD (vE 0) (opE ixD (vE 1) (cE (.int 2)))))))
    (retM (tupE (consA (vE 0) (consA (lstE nilA) (consA (lstE nilA) nilA)))))
noncomputable def m__law_run_c2 (rr : Fn) : MS := seqM (ifM (bT (opE eqD (vE 2) (cE (.str "if")))) (retM (callE 2 rr (consA (vE 0) (consA (ifE (bT (opE neD (opE ixD (vE 0) (opE ixD (vE 1) (cE (.int 1)))) (cE (.int 0)))) (opE ixD (vE 1) (cE (.int 2))) (opE ixD (vE 1) (cE (.int 3)))) nilA)))) nextM)
    m__law_run_c3
noncomputable def m__law_run_c1 (rr : Fn) : MS := seqM (ifM (bT (opE eqD (vE 2) (cE (.str "both")))) (seqM (setM 3 (callE 2 rr (consA (vE 0) (consA (opE ixD (vE 1) (cE (.int 1))) nilA))))
    (seqM (setM 4 (callE 2 rr (consA (opE ixD (vE 3) (cE (.int 0))) (consA (opE ixD (vE 1) (cE (.int 2))) nilA))))
    (retM (tupE (consA (opE ixD (vE 4) (cE (.int 0))) (consA (opE addD (opE ixD (vE 3) (cE (.int 1))) (opE ixD (vE 4) (cE (.int 1)))) (consA (opE addD (opE ixD (vE 3) (cE (.int 2))) (opE ixD (vE 4) (cE (.int 2)))) nilA))))))) nextM)
    (m__law_run_c2 rr)
noncomputable def rec__law_run : Nat → Fn
  | 0 => fun _ _ => .no
  | n + 1 => fnM 3 (
    seqM (setM 2 (opE ixD (vE 1) (cE (.int 0))))
    (seqM (setM 0 (bfE listF (consA (vE 0) nilA)))
    (seqM (ifM (bT (opE eqD (vE 2) (cE (.str "send")))) (retM (tupE (consA (vE 0) (consA (lstE (consA (tupE (consA (opE ixD (vE 1) (cE (.int 1))) (consA (opE ixD (vE 1) (cE (.int 2))) nilA))) nilA)) (consA (lstE nilA) nilA))))) nextM)
    (seqM (ifM (bT (opE eqD (vE 2) (cE (.str "show")))) (retM (tupE (consA (vE 0) (consA (lstE nilA) (consA (lstE (consA (bfE strF (consA (opE ixD (vE 0) (opE ixD (vE 1) (cE (.int 1)))) nilA)) nilA)) nilA))))) nextM)
    (m__law_run_c1 (rec__law_run n))))))
noncomputable abbrev m__law_run (n : Nat) : Fn := (rec__law_run n)
theorem ok_rec__law_run (T : Txt K mg) : ∀ n : Nat, FnOk P w K mg base CX0 (n + 1) T.a__law_run T.fd__law_run ["_law_cells", "_law_payload_here"] (spM K (Cl.mk (He.ga K) w) 2 (rec__law_run n))
  | 0 => ok_none
  | n + 1 => by
    have ih__law_run := ok_rec__law_run T n
    · exact T.F__law_run.ok sc__law_run (fun _ _ _ _ h => spM_len h) (fun cdv A outer s H vs Q E hr h => ⟨_, PSs.nox (fss_cons (PS.imp (ps_set (i := 2) sc__law_run.nd rfl (Or.inl rfl) (fe_ix ix_D (fe_var (pv 1)) fe_int)) set_im)
      (fss_cons (PS.imp (ps_set (i := 0) sc__law_run.nd rfl (Or.inl rfl) (PE.imp (pe_callTy call_listF (by rfl) T.n_list (by decide +kernel) (fa_cons (fe_var (pv 0)) fa_nil)) bf_im)) set_im)
      (fss_cons (fs_if (ft_cmp (op_eqDD hr.units) (fe_var (pv 2)) fe_str (nomark _)) (fss_one (fs_ret (PE.imp (pe_tup (fa_cons (fe_var (pv 0)) (fa_cons (PE.imp (pe_lst (fa_cons (PE.imp (pe_tup (fa_cons (fe_ix ix_D (fe_var (pv 1)) fe_int) (fa_cons (fe_ix ix_D (fe_var (pv 1)) fe_int) fa_nil))) tup_im) fa_nil)) lst_im) (fa_cons (PE.imp (pe_lst fa_nil) lst_im) fa_nil)))) tup_im))) fss_nil)
      (fss_cons (fs_if (ft_cmp (op_eqDD hr.units) (fe_var (pv 2)) fe_str (nomark _)) (fss_one (fs_ret (PE.imp (pe_tup (fa_cons (fe_var (pv 0)) (fa_cons (PE.imp (pe_lst fa_nil) lst_im) (fa_cons (PE.imp (pe_lst (fa_cons (PE.imp (pe_callTy call_strF (by rfl) T.n_str (by decide +kernel) (fa_cons (fe_ix ix_D (fe_var (pv 0)) (fe_ix ix_D (fe_var (pv 1)) fe_int)) fa_nil)) bf_im) fa_nil)) lst_im) fa_nil)))) tup_im))) fss_nil)
      (fss_cons (fs_if (ft_cmp (op_eqDD hr.units) (fe_var (pv 2)) fe_str (nomark _)) (fss_cons (PS.imp (ps_set (i := 3) sc__law_run.nd rfl (Or.inl rfl) (PE.imp (pe_call ih__law_run (hr.mono (by omega)) rfl T.g__law_run T.F__law_run.kp T.b__law_run .nil passN (fa_cons (fe_var (pv 0)) (fa_cons (fe_ix ix_D (fe_var (pv 1)) fe_int) fa_nil))) call_im)) set_im)
      (fss_cons (PS.imp (ps_set (i := 4) sc__law_run.nd rfl (Or.inl rfl) (PE.imp (pe_call ih__law_run (hr.mono (by omega)) rfl T.g__law_run T.F__law_run.kp T.b__law_run .nil passN (fa_cons (fe_ix ix_D (fe_var (pv 3)) fe_int) (fa_cons (fe_ix ix_D (fe_var (pv 1)) fe_int) fa_nil))) call_im)) set_im)
      (fss_one (fs_ret (PE.imp (pe_tup (fa_cons (fe_ix ix_D (fe_var (pv 4)) fe_int) (fa_cons (fe_op op_addD (fe_ix ix_D (fe_var (pv 3)) fe_int) (fe_ix ix_D (fe_var (pv 4)) fe_int)) (fa_cons (fe_op op_addD (fe_ix ix_D (fe_var (pv 3)) fe_int) (fe_ix ix_D (fe_var (pv 4)) fe_int)) fa_nil)))) tup_im))))) fss_nil)
      (fss_cons (fs_if (ft_cmp (op_eqDD hr.units) (fe_var (pv 2)) fe_str (nomark _)) (fss_one (fs_ret (PE.imp (pe_call ih__law_run (hr.mono (by omega)) rfl T.g__law_run T.F__law_run.kp T.b__law_run .nil passN (fa_cons (fe_var (pv 0)) (fa_cons (fe_if (ft_cmp (op_neDD hr.units) (fe_ix ix_D (fe_var (pv 0)) (fe_ix ix_D (fe_var (pv 1)) fe_int)) fe_int (nomark _)) (fe_ix ix_D (fe_var (pv 1)) fe_int) (fe_ix ix_D (fe_var (pv 1)) fe_int)) fa_nil))) call_im))) fss_nil)
      (fss_cons (fs_if (ft_cmp (op_eqDD hr.units) (fe_var (pv 2)) fe_str (nomark _)) (fss_one (PS.imp (ps_asg (fe_ix ix_D (fe_var (pv 1)) fe_int) (pg_sub (fe_var (pv 0)) (fe_ix ix_D (fe_var (pv 1)) fe_int) (set_u (hu_of hr)))) sub_im)) (fss_one (fs_if (ft_cmp (op_eqDD hr.units) (fe_var (pv 2)) fe_str (nomark _)) (fss_one (PS.imp (ps_asg (fe_op op_addD (fe_ix ix_D (fe_var (pv 0)) (fe_ix ix_D (fe_var (pv 1)) fe_int)) (fe_ix ix_D (fe_var (pv 1)) fe_int)) (pg_sub (fe_var (pv 0)) (fe_ix ix_D (fe_var (pv 1)) fe_int) (set_u (hu_of hr)))) sub_im)) (fss_one (PS.imp (ps_asg (fe_ix ix_D (fe_var (pv 0)) (fe_ix ix_D (fe_var (pv 1)) fe_int)) (pg_sub (fe_var (pv 0)) (fe_ix ix_D (fe_var (pv 1)) fe_int) (set_u (hu_of hr)))) sub_im)))))
      (fss_one (fs_ret (PE.imp (pe_tup (fa_cons (fe_var (pv 0)) (fa_cons (PE.imp (pe_lst fa_nil) lst_im) (fa_cons (PE.imp (pe_lst fa_nil) lst_im) fa_nil)))) tup_im)))))))))), body_of (N := N__law_run) (n := 2) (k := 3) rfl h⟩)
theorem ok_m__law_run (T : Txt K mg) (n : Nat) : FnOk P w K mg base CX0 (n + 1) T.a__law_run T.fd__law_run ["_law_cells", "_law_payload_here"] (spM K (Cl.mk (He.ga K) w) 2 (rec__law_run n)) := (ok_rec__law_run T n)

noncomputable def m__law_past : Fn := fnM 2 (
    seqM (setM 3 (lstE nilA))
    (seqM (forM (seqI (slE (vE 0) noneO (someO (vE 1)))) (nameG 4) (seqM (ifM (andT (bT (opE eqD (opE ixD (vE 4) (cE (.int 0))) (cE (.str "take")))) (bT (opE eqD (opE ixD (vE 4) (cE (.int 2))) (vE 2)))) (dropM (lmE appendF (vE 3) (consA (tupE (consA (opE ixD (vE 4) (cE (.int 4))) (consA (opE ixD (vE 4) (cE (.int 5))) (consA (opE ixD (vE 4) (cE (.int 6))) nilA)))) nilA))) nextM)
    (ifM (andT (bT (opE eqD (opE ixD (vE 4) (cE (.int 0))) (cE (.str "undo")))) (bT (opE eqD (opE ixD (vE 4) (cE (.int 2))) (vE 2)))) (setM 3 (slE (vE 3) noneO (someO (opE ixD (vE 4) (cE (.int 3)))))) nextM)))
    (retM (vE 3))))
theorem ok_m__law_past (T : Txt K mg) : FnOk P w K mg base CX0 1 T.a__law_past T.fd__law_past ["_law_events", "_law_k", "_law_process"] (spM K (Cl.mk (He.ga K) w) 3 m__law_past) :=
  T.F__law_past.ok sc__law_past (fun _ _ _ _ h => spM_len h) (fun cdv A outer s H vs Q E hr h => ⟨_, PSs.nox (fss_cons (PS.imp (ps_set (i := 3) sc__law_past.nd rfl (Or.inl rfl) (PE.imp (pe_lst fa_nil) lst_im)) set_im)
      (fss_cons (fs_for (vs := [4]) (g := nameG 4) (mb := seqM (ifM (andT (bT (opE eqD (opE ixD (vE 4) (cE (.int 0))) (cE (.str "take")))) (bT (opE eqD (opE ixD (vE 4) (cE (.int 2))) (vE 2)))) (dropM (lmE appendF (vE 3) (consA (tupE (consA (opE ixD (vE 4) (cE (.int 4))) (consA (opE ixD (vE 4) (cE (.int 5))) (consA (opE ixD (vE 4) (cE (.int 6))) nilA)))) nilA))) nextM)
    (ifM (andT (bT (opE eqD (opE ixD (vE 4) (cE (.int 0))) (cE (.str "undo")))) (bT (opE eqD (opE ixD (vE 4) (cE (.int 2))) (vE 2)))) (setM 3 (slE (vE 3) noneO (someO (opE ixD (vE 4) (cE (.int 3)))))) nextM)) (ps_for PassesOwn.never rfl (fi_seq (fe_slice (fe_var (pv 0)) fo_none (fo_some (fe_var (pv 1))))) (pg_name (i := 4) sc__law_past.nd rfl (Or.inl rfl))
        (fss_cons (fs_if (PW.pt (fw_and (ft_cmp (op_eqDD hr.units) (fe_ix ix_D (fe_var (pv 4)) fe_int) fe_str (nomark _)) (fw_and1 (ft_cmp (op_eqDD hr.units) (fe_ix ix_D (fe_var (pv 4)) fe_int) (fe_var (pv 2)) (nomark _))))) (fss_one (PS.imp (ps_expr (PE.imp (pe_bm PySem.F.plainAttrs_list PySem.F.slot_list_append PySem.F.type_list_append mt_append (fe_var (pv 3)) (fa_cons (PE.imp (pe_tup (fa_cons (fe_ix ix_D (fe_var (pv 4)) fe_int) (fa_cons (fe_ix ix_D (fe_var (pv 4)) fe_int) (fa_cons (fe_ix ix_D (fe_var (pv 4)) fe_int) fa_nil)))) tup_im) fa_nil)) (lm_im append_r))) drop_im)) fss_nil)
      (fss_one (fs_if (PW.pt (fw_and (ft_cmp (op_eqDD hr.units) (fe_ix ix_D (fe_var (pv 4)) fe_int) fe_str (nomark _)) (fw_and1 (ft_cmp (op_eqDD hr.units) (fe_ix ix_D (fe_var (pv 4)) fe_int) (fe_var (pv 2)) (nomark _))))) (fss_one (PS.imp (ps_set (i := 3) sc__law_past.nd rfl (Or.inl rfl) (fe_slice (fe_var (pv 3)) fo_none (fo_some (fe_ix ix_D (fe_var (pv 4)) fe_int)))) set_im)) fss_nil)))) (name_ig (by decide)))
      (fss_one (fs_ret (fe_var (pv 3)))))), body_of (N := N__law_past) (n := 3) (k := 2) rfl h⟩)
noncomputable def m__law_made : Fn := fnM 5 (
    seqM (setM 1 (lstE (consA (cE (.int 0)) (consA (cE (.int 0)) (consA (cE (.int 0)) (consA (cE (.int 0)) nilA))))))
    (seqM (setM 2 (lstE nilA))
    (seqM (setM 3 (lstE nilA))
    (seqM (forM (seqI (vE 0)) (nameG 4) (seqM (setM 5 (callE 2 (m__law_run 20) (consA (vE 1) (consA (opE ixD (vE 4) (cE (.int 2))) nilA))))
    (seqM (setM 1 (opE ixD (vE 5) (cE (.int 0))))
    (seqM (setM 2 (opE addD (vE 2) (opE ixD (vE 5) (cE (.int 1)))))
    (setM 3 (opE addD (vE 3) (opE ixD (vE 5) (cE (.int 2)))))))))
    (retM (tupE (consA (vE 2) (consA (vE 3) nilA))))))))
theorem ok_m__law_made (T : Txt K mg) : FnOk P w K mg base CX0 22 T.a__law_made T.fd__law_made ["_law_rows"] (spM K (Cl.mk (He.ga K) w) 1 m__law_made) :=
  T.F__law_made.ok sc__law_made (fun _ _ _ _ h => spM_len h) (fun cdv A outer s H vs Q E hr h => ⟨_, PSs.nox (fss_cons (PS.imp (ps_set (i := 1) sc__law_made.nd rfl (Or.inl rfl) (PE.imp (pe_lst (fa_cons fe_int (fa_cons fe_int (fa_cons fe_int (fa_cons fe_int fa_nil))))) lst_im)) set_im)
      (fss_cons (PS.imp (ps_set (i := 2) sc__law_made.nd rfl (Or.inl rfl) (PE.imp (pe_lst fa_nil) lst_im)) set_im)
      (fss_cons (PS.imp (ps_set (i := 3) sc__law_made.nd rfl (Or.inl rfl) (PE.imp (pe_lst fa_nil) lst_im)) set_im)
      (fss_cons (fs_for (vs := [4]) (g := nameG 4) (mb := seqM (setM 5 (callE 2 (m__law_run 20) (consA (vE 1) (consA (opE ixD (vE 4) (cE (.int 2))) nilA))))
    (seqM (setM 1 (opE ixD (vE 5) (cE (.int 0))))
    (seqM (setM 2 (opE addD (vE 2) (opE ixD (vE 5) (cE (.int 1)))))
    (setM 3 (opE addD (vE 3) (opE ixD (vE 5) (cE (.int 2)))))))) (ps_for PassesOwn.never rfl (fi_seq (fe_var (pv 0))) (pg_name (i := 4) sc__law_made.nd rfl (Or.inl rfl))
        (fss_cons (PS.imp (ps_set (i := 5) sc__law_made.nd rfl (Or.inl rfl) (PE.imp (pe_call (ok_m__law_run T 20) (hr.mono (by decide)) rfl T.g__law_run T.F__law_run.kp T.b__law_run .nil passN (fa_cons (fe_var (pv 1)) (fa_cons (fe_ix ix_D (fe_var (pv 4)) fe_int) fa_nil))) call_im)) set_im)
      (fss_cons (PS.imp (ps_set (i := 1) sc__law_made.nd rfl (Or.inl rfl) (fe_ix ix_D (fe_var (pv 5)) fe_int)) set_im)
      (fss_cons (PS.imp (ps_set (i := 2) sc__law_made.nd rfl (Or.inl rfl) (fe_op op_addD (fe_var (pv 2)) (fe_ix ix_D (fe_var (pv 5)) fe_int))) set_im)
      (fss_one (PS.imp (ps_set (i := 3) sc__law_made.nd rfl (Or.inl rfl) (fe_op op_addD (fe_var (pv 3)) (fe_ix ix_D (fe_var (pv 5)) fe_int))) set_im)))))) (name_ig (by decide)))
      (fss_one (fs_ret (PE.imp (pe_tup (fa_cons (fe_var (pv 2)) (fa_cons (fe_var (pv 3)) fa_nil))) tup_im))))))), body_of (N := N__law_made) (n := 1) (k := 5) rfl h⟩)
noncomputable def m__law_sent : Fn := fnM 1 (
    retM (lcE (seqI (opE ixD (callE 1 m__law_made (consA (callE 3 m__law_past (consA (vE 0) (consA (vE 1) (consA (vE 2) nilA)))) nilA)) (cE (.int 0)))) [4] (nameG 4) (bT (opE eqD (opE ixD (vE 4) (cE (.int 0))) (vE 3))) (opE ixD (vE 4) (cE (.int 1)))))
theorem ok_m__law_sent (T : Txt K mg) : FnOk P w K mg base CX0 23 T.a__law_sent T.fd__law_sent ["_law_events", "_law_k", "_law_sender", "_law_process"] (spM K (Cl.mk (He.ga K) w) 4 m__law_sent) :=
  T.F__law_sent.ok sc__law_sent (fun _ _ _ _ h => spM_len h) (fun cdv A outer s H vs Q E hr h => ⟨_, PSs.nox (fss_one (fs_ret (PE.imp (pe_lc (own := [("_law_send", 4)]) (g := gName 4)  rfl sc__law_sent.nd (fi_seq (fe_ix ix_D (PE.imp (pe_call (ok_m__law_made T) (hr.mono (by decide)) rfl T.g__law_made T.F__law_made.kp T.b__law_made .nil passN (fa_cons (PE.imp (pe_call (ok_m__law_past T) (hr.mono (by decide)) rfl T.g__law_past T.F__law_past.kp T.b__law_past .nil passN (fa_cons (fe_var (pv 0)) (fa_cons (fe_var (pv 1)) (fa_cons (fe_var (pv 2)) fa_nil)))) call_im) fa_nil)) call_im) fe_int)) (by exact blkOk_by (N := N__law_sent) (sc := defScope s__law_sent) (by decide +kernel)) (fun _ _ _ _ _ => pg_name (i := 4) sc__law_sent.nd rfl (Or.inl rfl)) (fun _ _ _ _ _ => ft_imp (E := fun _ _ _ _ => False) (ft_cmp (op_eqDD hr.units) (fe_ix ix_D (fe_var (pv 4)) fe_int) (fe_var (pv 3)) (nomark _))) (fun _ _ _ _ _ => fe_ix ix_D (fe_var (pv 4)) fe_int)) (lc_im (E0 := fun _ _ _ _ => False) (vs := [4]) (us := [4]) (g := nameG 4) (mt := bT (opE eqD (opE ixD (vE 4) (cE (.int 0))) (vE 3))) (me := opE ixD (vE 4) (cE (.int 1))) (name_ig (by decide)) (by decide) (fun _ _ _ h => h))))), body_of (N := N__law_sent) (n := 4) (k := 1) rfl h⟩)
noncomputable def m__law_event_c4 : MS := seqM (ifM (andT (bT (opE geD (bfE lenF (consA (vE 11) nilA)) (vE 10))) (notT (bT (vE 6)))) (setM 7 (opE ixD (vE 11) (opE subD (vE 10) (cE (.int 1))))) (ifM (notT (bT (vE 6))) (retM (tupE (consA (cE (.str "crash")) (consA (vE 2) (consA (vE 3) nilA))))) nextM))
    (retM (tupE (consA (cE (.str "take")) (consA (vE 2) (consA (vE 3) (consA (opE modD (vE 5) (cE (.int 3))) (consA (vE 9) (consA (opE addD (vE 10) (opE fdivD (opE modD (vE 5) (cE (.int 9))) (cE (.int 8)))) (consA (vE 7) nilA)))))))))
noncomputable def m__law_event_c3 : MS := seqM (setM 10 (opE addD (cE (.int 1)) (bfE lenF (consA (lcE (seqI (vE 8)) [15] (nameG 15) (bT (opE eqD (opE ixD (vE 15) (cE (.int 0))) (vE 9))) (vE 15)) nilA))))
    (seqM (ifM (bT (opE ltD (vE 9) (cE (.int 0)))) (setM 11 (lcE (seqI (vE 0)) [14] (nameG 14) (andT (bT (opE eqD (opE ixD (vE 14) (cE (.int 0))) (cE (.str "submit")))) (bT (opE eqD (opE ixD (vE 14) (cE (.int 2))) (vE 3)))) (opE ixD (vE 14) (cE (.int 4))))) (setM 11 (callE 4 m__law_sent (consA (vE 0) (consA (vE 2) (consA (vE 9) (consA (vE 3) nilA)))))))
    m__law_event_c4)
noncomputable def m__law_event_c6 : MS := seqM (ifM (andT (bT (opE eqD (vE 4) (cE (.int 7)))) (bT (opE gtD (bfE lenF (consA (vE 8) nilA)) (cE (.int 0))))) (retM (tupE (consA (cE (.str "undo")) (consA (vE 2) (consA (vE 3) (consA (opE modD (vE 5) (opE addD (bfE lenF (consA (vE 8) nilA)) (bfE intF (consA (vE 6) nilA)))) nilA)))))) nextM)
    (seqM (ifM (andT (bT (opE gtD (bfE lenF (consA (vE 12) nilA)) (vE 13))) (notT (bT (vE 6)))) (retM (tupE (consA (cE (.str "show")) (consA (vE 2) (consA (vE 3) (consA (opE addD (vE 13) (cE (.int 1))) (consA (opE ixD (vE 12) (vE 13)) nilA))))))) nextM)
    (seqM (ifM (bT (vE 6)) (retM (tupE (consA (cE (.str "show")) (consA (vE 2) (consA (vE 3) (consA (bfE maxP (consA (cE (.int 1)) (consA (opE addD (vE 13) (opE modD (vE 5) (cE (.int 3)))) nilA))) (consA (opE ixD (lstE (consA (cE (.str "0")) (consA (cE (.str "1")) (consA (cE (.str "x")) nilA)))) (opE modD (vE 5) (cE (.int 3)))) nilA))))))) nextM)
    (retM (tupE (consA (cE (.str "start")) (consA (vE 2) (consA (vE 3) (consA (opE modD (vE 5) (cE (.int 4))) nilA))))))))
noncomputable def m__law_event_c5 : MS := seqM (setM 12 (opE ixD (callE 1 m__law_made (consA (vE 8) nilA)) (cE (.int 1))))
    (seqM (setM 13 (bfE lenF (consA (lcE (seqI (vE 0)) [14] (nameG 14) (andT (bT (opE eqD (opE ixD (vE 14) (cE (.int 0))) (cE (.str "show")))) (bT (opE eqD (opE ixD (vE 14) (cE (.int 2))) (vE 3)))) (vE 14)) nilA)))
    m__law_event_c6)
noncomputable def m__law_event_c2 : MS := seqM (ifM (bT (opE ltD (vE 4) (cE (.int 7)))) (seqM (setM 9 (opE ixD (lstE (consA (unE negD (cE (.int 1))) (consA (unE negD (cE (.int 1))) (consA (cE (.int 0)) (consA (cE (.int 1)) (consA (cE (.int 2)) nilA)))))) (opE subD (vE 4) (cE (.int 2)))))
    m__law_event_c3) nextM)
    m__law_event_c5
noncomputable def m__law_event_c1 : MS := seqM (ifM (bT (opE ltD (vE 4) (cE (.int 2)))) (retM (tupE (consA (cE (.str "submit")) (consA (vE 2) (consA (vE 3) (consA (opE addD (cE (.int 1)) (bfE lenF (consA (lcE (seqI (vE 0)) [14] (nameG 14) (andT (bT (opE eqD (opE ixD (vE 14) (cE (.int 0))) (cE (.str "submit")))) (bT (opE eqD (opE ixD (vE 14) (cE (.int 2))) (vE 3)))) (vE 14)) nilA))) (consA (vE 7) nilA))))))) nextM)
    m__law_event_c2
noncomputable def m__law_event : Fn := fnM 14 (
    seqM (setM 2 (bfE lenF (consA (vE 0) nilA)))
    (seqM (setM 3 (opE modD (vE 1) (cE (.int 3))))
    (seqM (setM 4 (opE modD (opE fdivD (vE 1) (cE (.int 3))) (cE (.int 10))))
    (seqM (setM 5 (opE fdivD (vE 1) (cE (.int 30))))
    (seqM (setM 6 (opE eqD (opE modD (vE 5) (cE (.int 11))) (cE (.int 0))))
    (seqM (setM 5 (opE fdivD (vE 5) (cE (.int 11))))
    (seqM (setM 7 (callE 3 (m__law_payload 20) (consA (vE 5) (consA (cE (.int 3)) (consA (cE (.int 3)) nilA)))))
    (seqM (setM 8 (callE 3 m__law_past (consA (vE 0) (consA (vE 2) (consA (vE 3) nilA)))))
    m__law_event_c1))))))))
theorem ok_m__law_event (T : Txt K mg) : FnOk P w K mg base CX0 24 T.a__law_event T.fd__law_event ["_law_events", "_law_draw"] (spM K (Cl.mk (He.ga K) w) 2 m__law_event) :=
  T.F__law_event.ok sc__law_event (fun _ _ _ _ h => spM_len h) (fun cdv A outer s H vs Q E hr h => ⟨_, PSs.nox (fss_cons (PS.imp (ps_set (i := 2) sc__law_event.nd rfl (Or.inl rfl) (PE.imp (pe_callB call_lenF (by rfl) T.n_len (by decide +kernel) (fa_cons (fe_var (pv 0)) fa_nil)) bf_im)) set_im)
      (fss_cons (PS.imp (ps_set (i := 3) sc__law_event.nd rfl (Or.inr rfl) (fe_op op_modD (fe_var (pv 1)) fe_int)) set_im)
      (fss_cons (PS.imp (ps_set (i := 4) sc__law_event.nd rfl (Or.inl rfl) (fe_op op_modD (fe_op op_fdivD (fe_var (pv 1)) fe_int) fe_int)) set_im)
      (fss_cons (PS.imp (ps_set (i := 5) sc__law_event.nd rfl (Or.inl rfl) (fe_op op_fdivD (fe_var (pv 1)) fe_int)) set_im)
      (fss_cons (PS.imp (ps_set (i := 6) sc__law_event.nd rfl (Or.inl rfl) (fe_cmp (op_eqDD hr.units) (fe_op op_modD (fe_var (pv 5)) fe_int) fe_int (nomark _))) set_im)
      (fss_cons (PS.imp (ps_set (i := 5) sc__law_event.nd rfl (Or.inl rfl) (fe_op op_fdivD (fe_var (pv 5)) fe_int)) set_im)
      (fss_cons (PS.imp (ps_set (i := 7) sc__law_event.nd rfl (Or.inl rfl) (PE.imp (pe_call (ok_m__law_payload T 20) (hr.mono (by decide)) rfl T.g__law_payload T.F__law_payload.kp T.b__law_payload .nil passN (fa_cons (fe_var (pv 5)) (fa_cons fe_int (fa_cons fe_int fa_nil)))) call_im)) set_im)
      (fss_cons (PS.imp (ps_set (i := 8) sc__law_event.nd rfl (Or.inl rfl) (PE.imp (pe_call (ok_m__law_past T) (hr.mono (by decide)) rfl T.g__law_past T.F__law_past.kp T.b__law_past .nil passN (fa_cons (fe_var (pv 0)) (fa_cons (fe_var (pv 2)) (fa_cons (fe_var (pv 3)) fa_nil)))) call_im)) set_im)
      (fss_cons (fs_if (ft_cmp op_ltD (fe_var (pv 4)) fe_int (nomark _)) (fss_one (fs_ret (PE.imp (pe_tup (fa_cons fe_str (fa_cons (fe_var (pv 2)) (fa_cons (fe_var (pv 3)) (fa_cons (fe_op op_addD fe_int (PE.imp (pe_callB call_lenF (by rfl) T.n_len (by decide +kernel) (fa_cons (PE.imp (pe_lc (own := [("_law_one", 14)]) (g := gName 14)  rfl sc__law_event.nd (fi_seq (fe_var (pv 0))) (by exact blkOk_by (N := N__law_event) (sc := defScope s__law_event) (by decide +kernel)) (fun _ _ _ _ _ => pg_name (i := 14) sc__law_event.nd rfl (Or.inl rfl)) (fun _ _ _ _ _ => ft_imp (E := fun _ _ _ _ => False) (PW.pt (fw_and (ft_cmp (op_eqDD hr.units) (fe_ix ix_D (fe_var (pv 14)) fe_int) fe_str (nomark _)) (fw_and1 (ft_cmp (op_eqDD hr.units) (fe_ix ix_D (fe_var (pv 14)) fe_int) (fe_var (pv 3)) (nomark _)))))) (fun _ _ _ _ _ => fe_var (pv 14))) (lc_im (E0 := fun _ _ _ _ => False) (vs := [14]) (us := [14]) (g := nameG 14) (mt := andT (bT (opE eqD (opE ixD (vE 14) (cE (.int 0))) (cE (.str "submit")))) (bT (opE eqD (opE ixD (vE 14) (cE (.int 2))) (vE 3)))) (me := vE 14) (name_ig (by decide)) (by decide) (fun _ _ _ h => h))) fa_nil)) bf_im)) (fa_cons (fe_var (pv 7)) fa_nil)))))) tup_im))) fss_nil)
      (fss_cons (fs_if (ft_cmp op_ltD (fe_var (pv 4)) fe_int (nomark _)) (fss_cons (PS.imp (ps_set (i := 9) sc__law_event.nd rfl (Or.inr rfl) (fe_ix ix_D (PE.imp (pe_lst (fa_cons (fe_un un_negD fe_int) (fa_cons (fe_un un_negD fe_int) (fa_cons fe_int (fa_cons fe_int (fa_cons fe_int fa_nil)))))) lst_im) (fe_op op_subD (fe_var (pv 4)) fe_int))) set_im)
      (fss_cons (PS.imp (ps_set (i := 10) sc__law_event.nd rfl (Or.inl rfl) (fe_op op_addD fe_int (PE.imp (pe_callB call_lenF (by rfl) T.n_len (by decide +kernel) (fa_cons (PE.imp (pe_lc (own := [("_law_row", 15)]) (g := gName 15)  rfl sc__law_event.nd (fi_seq (fe_var (pv 8))) (by exact blkOk_by (N := N__law_event) (sc := defScope s__law_event) (by decide +kernel)) (fun _ _ _ _ _ => pg_name (i := 15) sc__law_event.nd rfl (Or.inl rfl)) (fun _ _ _ _ _ => ft_imp (E := fun _ _ _ _ => False) (ft_cmp (op_eqDD hr.units) (fe_ix ix_D (fe_var (pv 15)) fe_int) (fe_var (pv 9)) (nomark _))) (fun _ _ _ _ _ => fe_var (pv 15))) (lc_im (E0 := fun _ _ _ _ => False) (vs := [15]) (us := [15]) (g := nameG 15) (mt := bT (opE eqD (opE ixD (vE 15) (cE (.int 0))) (vE 9))) (me := vE 15) (name_ig (by decide)) (by decide) (fun _ _ _ h => h))) fa_nil)) bf_im))) set_im)
      (fss_cons (fs_if (ft_cmp op_ltD (fe_var (pv 9)) fe_int (nomark _)) (fss_one (PS.imp (ps_setLc (i := 11) (own := [("_law_one", 14)]) (g := gName 14)  rfl sc__law_event.nd rfl rfl (sw_true rfl rfl rfl (by decide +kernel)) (fi_seq (fe_var (pv 0))) (by exact blkOk_by (N := N__law_event) (sc := defScope s__law_event) (by decide +kernel)) (fun _ _ _ _ _ => pg_name (i := 14) sc__law_event.nd rfl (Or.inl rfl)) (fun _ _ _ _ _ => ft_imp (E := fun _ _ _ _ => False) (PW.pt (fw_and (ft_cmp (op_eqDD hr.units) (fe_ix ix_D (fe_var (pv 14)) fe_int) fe_str (nomark _)) (fw_and1 (ft_cmp (op_eqDD hr.units) (fe_ix ix_D (fe_var (pv 14)) fe_int) (fe_var (pv 3)) (nomark _)))))) (fun _ _ _ _ _ => fe_ix ix_D (fe_var (pv 14)) fe_int)) (setlc_im (lc_im (E0 := fun _ _ _ _ => False) (vs := [14]) (us := [14]) (g := nameG 14) (mt := andT (bT (opE eqD (opE ixD (vE 14) (cE (.int 0))) (cE (.str "submit")))) (bT (opE eqD (opE ixD (vE 14) (cE (.int 2))) (vE 3)))) (me := opE ixD (vE 14) (cE (.int 4))) (name_ig (by decide)) (by decide) (fun _ _ _ h => h))))) (fss_one (PS.imp (ps_set (i := 11) sc__law_event.nd rfl (Or.inl rfl) (PE.imp (pe_call (ok_m__law_sent T) (hr.mono (by decide)) rfl T.g__law_sent T.F__law_sent.kp T.b__law_sent .nil passN (fa_cons (fe_var (pv 0)) (fa_cons (fe_var (pv 2)) (fa_cons (fe_var (pv 9)) (fa_cons (fe_var (pv 3)) fa_nil))))) call_im)) set_im)))
      (fss_cons (fs_if (PW.pt (fw_and (ft_cmp op_geD (PE.imp (pe_callB call_lenF (by rfl) T.n_len (by decide +kernel) (fa_cons (fe_var (pv 11)) fa_nil)) bf_im) (fe_var (pv 10)) (nomark _)) (fw_and1 (ft_not (ft_val (fe_var (pv 6))))))) (fss_one (PS.imp (ps_set (i := 7) sc__law_event.nd rfl (Or.inl rfl) (fe_ix ix_D (fe_var (pv 11)) (fe_op op_subD (fe_var (pv 10)) fe_int))) set_im)) (fss_one (fs_if (ft_not (ft_val (fe_var (pv 6)))) (fss_one (fs_ret (PE.imp (pe_tup (fa_cons fe_str (fa_cons (fe_var (pv 2)) (fa_cons (fe_var (pv 3)) fa_nil)))) tup_im))) fss_nil)))
      (fss_one (fs_ret (PE.imp (pe_tup (fa_cons fe_str (fa_cons (fe_var (pv 2)) (fa_cons (fe_var (pv 3)) (fa_cons (fe_op op_modD (fe_var (pv 5)) fe_int) (fa_cons (fe_var (pv 9)) (fa_cons (fe_op op_addD (fe_var (pv 10)) (fe_op op_fdivD (fe_op op_modD (fe_var (pv 5)) fe_int) fe_int)) (fa_cons (fe_var (pv 7)) fa_nil)))))))) tup_im))))))) fss_nil)
      (fss_cons (PS.imp (ps_set (i := 12) sc__law_event.nd rfl (Or.inl rfl) (fe_ix ix_D (PE.imp (pe_call (ok_m__law_made T) (hr.mono (by decide)) rfl T.g__law_made T.F__law_made.kp T.b__law_made .nil passN (fa_cons (fe_var (pv 8)) fa_nil)) call_im) fe_int)) set_im)
      (fss_cons (PS.imp (ps_set (i := 13) sc__law_event.nd rfl (Or.inl rfl) (PE.imp (pe_callB call_lenF (by rfl) T.n_len (by decide +kernel) (fa_cons (PE.imp (pe_lc (own := [("_law_one", 14)]) (g := gName 14)  rfl sc__law_event.nd (fi_seq (fe_var (pv 0))) (by exact blkOk_by (N := N__law_event) (sc := defScope s__law_event) (by decide +kernel)) (fun _ _ _ _ _ => pg_name (i := 14) sc__law_event.nd rfl (Or.inl rfl)) (fun _ _ _ _ _ => ft_imp (E := fun _ _ _ _ => False) (PW.pt (fw_and (ft_cmp (op_eqDD hr.units) (fe_ix ix_D (fe_var (pv 14)) fe_int) fe_str (nomark _)) (fw_and1 (ft_cmp (op_eqDD hr.units) (fe_ix ix_D (fe_var (pv 14)) fe_int) (fe_var (pv 3)) (nomark _)))))) (fun _ _ _ _ _ => fe_var (pv 14))) (lc_im (E0 := fun _ _ _ _ => False) (vs := [14]) (us := [14]) (g := nameG 14) (mt := andT (bT (opE eqD (opE ixD (vE 14) (cE (.int 0))) (cE (.str "show")))) (bT (opE eqD (opE ixD (vE 14) (cE (.int 2))) (vE 3)))) (me := vE 14) (name_ig (by decide)) (by decide) (fun _ _ _ h => h))) fa_nil)) bf_im)) set_im)
      (fss_cons (fs_if (PW.pt (fw_and (ft_cmp (op_eqDD hr.units) (fe_var (pv 4)) fe_int (nomark _)) (fw_and1 (ft_cmp op_gtD (PE.imp (pe_callB call_lenF (by rfl) T.n_len (by decide +kernel) (fa_cons (fe_var (pv 8)) fa_nil)) bf_im) fe_int (nomark _))))) (fss_one (fs_ret (PE.imp (pe_tup (fa_cons fe_str (fa_cons (fe_var (pv 2)) (fa_cons (fe_var (pv 3)) (fa_cons (fe_op op_modD (fe_var (pv 5)) (fe_op op_addD (PE.imp (pe_callB call_lenF (by rfl) T.n_len (by decide +kernel) (fa_cons (fe_var (pv 8)) fa_nil)) bf_im) (PE.imp (pe_callTy call_intF (by rfl) T.n_int (by decide +kernel) (fa_cons (fe_var (pv 6)) fa_nil)) bf_im))) fa_nil))))) tup_im))) fss_nil)
      (fss_cons (fs_if (PW.pt (fw_and (ft_cmp op_gtD (PE.imp (pe_callB call_lenF (by rfl) T.n_len (by decide +kernel) (fa_cons (fe_var (pv 12)) fa_nil)) bf_im) (fe_var (pv 13)) (nomark _)) (fw_and1 (ft_not (ft_val (fe_var (pv 6))))))) (fss_one (fs_ret (PE.imp (pe_tup (fa_cons fe_str (fa_cons (fe_var (pv 2)) (fa_cons (fe_var (pv 3)) (fa_cons (fe_op op_addD (fe_var (pv 13)) fe_int) (fa_cons (fe_ix ix_D (fe_var (pv 12)) (fe_var (pv 13))) fa_nil)))))) tup_im))) fss_nil)
      (fss_cons (fs_if (ft_val (fe_var (pv 6))) (fss_one (fs_ret (PE.imp (pe_tup (fa_cons fe_str (fa_cons (fe_var (pv 2)) (fa_cons (fe_var (pv 3)) (fa_cons (PE.imp (pe_callB (call_maxP hr.units rfl) (by rfl) T.n_max (by decide +kernel) (fa_cons fe_int (fa_cons (fe_op op_addD (fe_var (pv 13)) (fe_op op_modD (fe_var (pv 5)) fe_int)) fa_nil))) bf_im) (fa_cons (fe_ix ix_D (PE.imp (pe_lst (fa_cons fe_str (fa_cons fe_str (fa_cons fe_str fa_nil)))) lst_im) (fe_op op_modD (fe_var (pv 5)) fe_int)) fa_nil)))))) tup_im))) fss_nil)
      (fss_one (fs_ret (PE.imp (pe_tup (fa_cons fe_str (fa_cons (fe_var (pv 2)) (fa_cons (fe_var (pv 3)) (fa_cons (fe_op op_modD (fe_var (pv 5)) fe_int) fa_nil))))) tup_im)))))))))))))))))), body_of (N := N__law_event) (n := 2) (k := 14) rfl h⟩)
noncomputable def m__law_takes : Fn := fnM 8 (
    seqM (forM (rangeI1 (consA (bfE lenF (consA (vE 0) nilA)) nilA)) (nameG 1) (ifM (bT (opE eqD (opE ixD (opE ixD (vE 0) (vE 1)) (cE (.int 0))) (cE (.str "take")))) (seqM (asgM (tupE (consA (opE ixD (opE ixD (vE 0) (vE 1)) (cE (.int 2))) (consA (opE ixD (opE ixD (vE 0) (vE 1)) (cE (.int 4))) (consA (opE ixD (opE ixD (vE 0) (vE 1)) (cE (.int 5))) (consA (opE ixD (opE ixD (vE 0) (vE 1)) (cE (.int 6))) nilA))))) (tupG 4 (consG (nameG 2) (consG (nameG 3) (consG (nameG 4) (consG (nameG 5) nilG))))))
    (seqM (ifM (bT (opE neD (vE 4) (opE addD (cE (.int 1)) (bfE lenF (consA (lcE (seqI (callE 3 m__law_past (consA (vE 0) (consA (vE 1) (consA (vE 2) nilA))))) [7] (nameG 7) (bT (opE eqD (opE ixD (vE 7) (cE (.int 0))) (vE 3))) (vE 7)) nilA))))) (retM (tupE (consA (cE (.str "number")) (consA (vE 2) (consA (vE 3) (consA (vE 4) nilA)))))) nextM)
    (seqM (setM 6 (lcE (seqI (slE (vE 0) noneO (someO (vE 1)))) [8] (nameG 8) (andT (bT (opE eqD (opE ixD (vE 8) (cE (.int 0))) (cE (.str "submit")))) (bT (opE eqD (slE (vE 8) (someO (cE (.int 2))) noneO) (tupE (consA (vE 2) (consA (vE 4) (consA (vE 5) nilA))))))) (vE 8)))
    (ifM (andT (bT (opE eqD (vE 3) (unE negD (cE (.int 1))))) (bT (opE eqD (bfE lenF (consA (vE 6) nilA)) (cE (.int 0))))) (retM (tupE (consA (cE (.str "desk")) (consA (vE 2) (consA (vE 4) nilA))))) nextM)))) nextM))
    (retM (cE .non)))
theorem ok_m__law_takes (T : Txt K mg) : FnOk P w K mg base CX0 2 T.a__law_takes T.fd__law_takes ["_law_events"] (spM K (Cl.mk (He.ga K) w) 1 m__law_takes) :=
  T.F__law_takes.ok sc__law_takes (fun _ _ _ _ h => spM_len h) (fun cdv A outer s H vs Q E hr h => ⟨_, PSs.nox (fss_cons (fs_for (vs := [1]) (g := nameG 1) (mb := ifM (bT (opE eqD (opE ixD (opE ixD (vE 0) (vE 1)) (cE (.int 0))) (cE (.str "take")))) (seqM (asgM (tupE (consA (opE ixD (opE ixD (vE 0) (vE 1)) (cE (.int 2))) (consA (opE ixD (opE ixD (vE 0) (vE 1)) (cE (.int 4))) (consA (opE ixD (opE ixD (vE 0) (vE 1)) (cE (.int 5))) (consA (opE ixD (opE ixD (vE 0) (vE 1)) (cE (.int 6))) nilA))))) (tupG 4 (consG (nameG 2) (consG (nameG 3) (consG (nameG 4) (consG (nameG 5) nilG))))))
    (seqM (ifM (bT (opE neD (vE 4) (opE addD (cE (.int 1)) (bfE lenF (consA (lcE (seqI (callE 3 m__law_past (consA (vE 0) (consA (vE 1) (consA (vE 2) nilA))))) [7] (nameG 7) (bT (opE eqD (opE ixD (vE 7) (cE (.int 0))) (vE 3))) (vE 7)) nilA))))) (retM (tupE (consA (cE (.str "number")) (consA (vE 2) (consA (vE 3) (consA (vE 4) nilA)))))) nextM)
    (seqM (setM 6 (lcE (seqI (slE (vE 0) noneO (someO (vE 1)))) [8] (nameG 8) (andT (bT (opE eqD (opE ixD (vE 8) (cE (.int 0))) (cE (.str "submit")))) (bT (opE eqD (slE (vE 8) (someO (cE (.int 2))) noneO) (tupE (consA (vE 2) (consA (vE 4) (consA (vE 5) nilA))))))) (vE 8)))
    (ifM (andT (bT (opE eqD (vE 3) (unE negD (cE (.int 1))))) (bT (opE eqD (bfE lenF (consA (vE 6) nilA)) (cE (.int 0))))) (retM (tupE (consA (cE (.str "desk")) (consA (vE 2) (consA (vE 4) nilA))))) nextM)))) nextM) (ps_for PassesOwn.never rfl (fi_range1 (pi_range1 rfl T.n_range (fa_cons (PE.imp (pe_callB call_lenF (by rfl) T.n_len (by decide +kernel) (fa_cons (fe_var (pv 0)) fa_nil)) bf_im) fa_nil))) (pg_name (i := 1) sc__law_takes.nd rfl (Or.inl rfl))
        (fss_one (fs_if (ft_cmp (op_eqDD hr.units) (fe_ix ix_D (fe_ix ix_D (fe_var (pv 0)) (fe_var (pv 1))) fe_int) fe_str (nomark _)) (fss_cons (PS.imp (ps_asg (PE.imp (pe_tup (fa_cons (fe_ix ix_D (fe_ix ix_D (fe_var (pv 0)) (fe_var (pv 1))) fe_int) (fa_cons (fe_ix ix_D (fe_ix ix_D (fe_var (pv 0)) (fe_var (pv 1))) fe_int) (fa_cons (fe_ix ix_D (fe_ix ix_D (fe_var (pv 0)) (fe_var (pv 1))) fe_int) (fa_cons (fe_ix ix_D (fe_ix ix_D (fe_var (pv 0)) (fe_var (pv 1))) fe_int) fa_nil))))) tup_im) (pg_tup rfl (pgs_cons (pg_name (i := 2) sc__law_takes.nd rfl (Or.inr rfl)) (pgs_cons (pg_name (i := 3) sc__law_takes.nd rfl (Or.inr rfl)) (pgs_cons (pg_name (i := 4) sc__law_takes.nd rfl (Or.inr rfl)) (pgs_cons (pg_name (i := 5) sc__law_takes.nd rfl (Or.inr rfl)) pgs_nil)))))) (asg_im (vs := [2, 3, 4, 5]) (g := tupG 4 (consG (nameG 2) (consG (nameG 3) (consG (nameG 4) (consG (nameG 5) nilG))))) (tup_ig (cons_ig (name_ig (by decide)) (cons_ig (name_ig (by decide)) (cons_ig (name_ig (by decide)) (cons_ig (name_ig (by decide)) nil_ig)))))))
      (fss_cons (fs_if (ft_cmp (op_neDD hr.units) (fe_var (pv 4)) (fe_op op_addD fe_int (PE.imp (pe_callB call_lenF (by rfl) T.n_len (by decide +kernel) (fa_cons (PE.imp (pe_lc (own := [("_law_row", 7)]) (g := gName 7)  rfl sc__law_takes.nd (fi_seq (PE.imp (pe_call (ok_m__law_past T) (hr.mono (by decide)) rfl T.g__law_past T.F__law_past.kp T.b__law_past .nil passN (fa_cons (fe_var (pv 0)) (fa_cons (fe_var (pv 1)) (fa_cons (fe_var (pv 2)) fa_nil)))) call_im)) (by exact blkOk_by (N := N__law_takes) (sc := defScope s__law_takes) (by decide +kernel)) (fun _ _ _ _ _ => pg_name (i := 7) sc__law_takes.nd rfl (Or.inl rfl)) (fun _ _ _ _ _ => ft_imp (E := fun _ _ _ _ => False) (ft_cmp (op_eqDD hr.units) (fe_ix ix_D (fe_var (pv 7)) fe_int) (fe_var (pv 3)) (nomark _))) (fun _ _ _ _ _ => fe_var (pv 7))) (lc_im (E0 := fun _ _ _ _ => False) (vs := [7]) (us := [7]) (g := nameG 7) (mt := bT (opE eqD (opE ixD (vE 7) (cE (.int 0))) (vE 3))) (me := vE 7) (name_ig (by decide)) (by decide) (fun _ _ _ h => h))) fa_nil)) bf_im)) (nomark _)) (fss_one (fs_ret (PE.imp (pe_tup (fa_cons fe_str (fa_cons (fe_var (pv 2)) (fa_cons (fe_var (pv 3)) (fa_cons (fe_var (pv 4)) fa_nil))))) tup_im))) fss_nil)
      (fss_cons (PS.imp (ps_setLc (i := 6) (own := [("_law_one", 8)]) (g := gName 8)  rfl sc__law_takes.nd rfl rfl (sw_true rfl rfl rfl (by decide +kernel)) (fi_seq (fe_slice (fe_var (pv 0)) fo_none (fo_some (fe_var (pv 1))))) (by exact blkOk_by (N := N__law_takes) (sc := defScope s__law_takes) (by decide +kernel)) (fun _ _ _ _ _ => pg_name (i := 8) sc__law_takes.nd rfl (Or.inl rfl)) (fun _ _ _ _ _ => ft_imp (E := fun _ _ _ _ => False) (PW.pt (fw_and (ft_cmp (op_eqDD hr.units) (fe_ix ix_D (fe_var (pv 8)) fe_int) fe_str (nomark _)) (fw_and1 (ft_cmp (op_eqDD hr.units) (fe_slice (fe_var (pv 8)) (fo_some fe_int) fo_none) (PE.imp (pe_tup (fa_cons (fe_var (pv 2)) (fa_cons (fe_var (pv 4)) (fa_cons (fe_var (pv 5)) fa_nil)))) tup_im) (nomark _)))))) (fun _ _ _ _ _ => fe_var (pv 8))) (setlc_im (lc_im (E0 := fun _ _ _ _ => False) (vs := [8]) (us := [8]) (g := nameG 8) (mt := andT (bT (opE eqD (opE ixD (vE 8) (cE (.int 0))) (cE (.str "submit")))) (bT (opE eqD (slE (vE 8) (someO (cE (.int 2))) noneO) (tupE (consA (vE 2) (consA (vE 4) (consA (vE 5) nilA))))))) (me := vE 8) (name_ig (by decide)) (by decide) (fun _ _ _ h => h))))
      (fss_one (fs_if (PW.pt (fw_and (ft_cmp (op_eqDD hr.units) (fe_var (pv 3)) (fe_un un_negD fe_int) (nomark _)) (fw_and1 (ft_cmp (op_eqDD hr.units) (PE.imp (pe_callB call_lenF (by rfl) T.n_len (by decide +kernel) (fa_cons (fe_var (pv 6)) fa_nil)) bf_im) fe_int (nomark _))))) (fss_one (fs_ret (PE.imp (pe_tup (fa_cons fe_str (fa_cons (fe_var (pv 2)) (fa_cons (fe_var (pv 4)) fa_nil)))) tup_im))) fss_nil))))) fss_nil))) (name_ig (by decide)))
      (fss_one (fs_ret fe_non))), body_of (N := N__law_takes) (n := 1) (k := 8) rfl h⟩)
noncomputable def m__law_undos : Fn := fnM 1 (
    seqM (forM (rangeI1 (consA (bfE lenF (consA (vE 0) nilA)) nilA)) (nameG 1) (ifM (andT (bT (opE eqD (opE ixD (opE ixD (vE 0) (vE 1)) (cE (.int 0))) (cE (.str "undo")))) (bT (opE leD (bfE lenF (consA (callE 3 m__law_past (consA (vE 0) (consA (vE 1) (consA (opE ixD (opE ixD (vE 0) (vE 1)) (cE (.int 2))) nilA)))) nilA)) (opE ixD (opE ixD (vE 0) (vE 1)) (cE (.int 3)))))) (retM (tupE (consA (cE (.str "undo")) (consA (opE ixD (opE ixD (vE 0) (vE 1)) (cE (.int 2))) (consA (opE ixD (opE ixD (vE 0) (vE 1)) (cE (.int 3))) nilA))))) nextM))
    (retM (cE .non)))
theorem ok_m__law_undos (T : Txt K mg) : FnOk P w K mg base CX0 2 T.a__law_undos T.fd__law_undos ["_law_events"] (spM K (Cl.mk (He.ga K) w) 1 m__law_undos) :=
  T.F__law_undos.ok sc__law_undos (fun _ _ _ _ h => spM_len h) (fun cdv A outer s H vs Q E hr h => ⟨_, PSs.nox (fss_cons (fs_for (vs := [1]) (g := nameG 1) (mb := ifM (andT (bT (opE eqD (opE ixD (opE ixD (vE 0) (vE 1)) (cE (.int 0))) (cE (.str "undo")))) (bT (opE leD (bfE lenF (consA (callE 3 m__law_past (consA (vE 0) (consA (vE 1) (consA (opE ixD (opE ixD (vE 0) (vE 1)) (cE (.int 2))) nilA)))) nilA)) (opE ixD (opE ixD (vE 0) (vE 1)) (cE (.int 3)))))) (retM (tupE (consA (cE (.str "undo")) (consA (opE ixD (opE ixD (vE 0) (vE 1)) (cE (.int 2))) (consA (opE ixD (opE ixD (vE 0) (vE 1)) (cE (.int 3))) nilA))))) nextM) (ps_for PassesOwn.never rfl (fi_range1 (pi_range1 rfl T.n_range (fa_cons (PE.imp (pe_callB call_lenF (by rfl) T.n_len (by decide +kernel) (fa_cons (fe_var (pv 0)) fa_nil)) bf_im) fa_nil))) (pg_name (i := 1) sc__law_undos.nd rfl (Or.inl rfl))
        (fss_one (fs_if (PW.pt (fw_and (ft_cmp (op_eqDD hr.units) (fe_ix ix_D (fe_ix ix_D (fe_var (pv 0)) (fe_var (pv 1))) fe_int) fe_str (nomark _)) (fw_and1 (ft_cmp op_leD (PE.imp (pe_callB call_lenF (by rfl) T.n_len (by decide +kernel) (fa_cons (PE.imp (pe_call (ok_m__law_past T) (hr.mono (by decide)) rfl T.g__law_past T.F__law_past.kp T.b__law_past .nil passN (fa_cons (fe_var (pv 0)) (fa_cons (fe_var (pv 1)) (fa_cons (fe_ix ix_D (fe_ix ix_D (fe_var (pv 0)) (fe_var (pv 1))) fe_int) fa_nil)))) call_im) fa_nil)) bf_im) (fe_ix ix_D (fe_ix ix_D (fe_var (pv 0)) (fe_var (pv 1))) fe_int) (nomark _))))) (fss_one (fs_ret (PE.imp (pe_tup (fa_cons fe_str (fa_cons (fe_ix ix_D (fe_ix ix_D (fe_var (pv 0)) (fe_var (pv 1))) fe_int) (fa_cons (fe_ix ix_D (fe_ix ix_D (fe_var (pv 0)) (fe_var (pv 1))) fe_int) fa_nil)))) tup_im))) fss_nil))) (name_ig (by decide)))
      (fss_one (fs_ret fe_non))), body_of (N := N__law_undos) (n := 1) (k := 1) rfl h⟩)
noncomputable def m__law_shows : Fn := fnM 5 (
    seqM (forM (rangeI1 (consA (bfE lenF (consA (vE 0) nilA)) nilA)) (nameG 1) (seqM (setM 2 (opE ixD (opE ixD (vE 0) (vE 1)) (cE (.int 2))))
    (seqM (setM 3 (lcE (seqI (slE (vE 0) noneO (someO (vE 1)))) [5] (nameG 5) (andT (bT (opE eqD (opE ixD (vE 5) (cE (.int 0))) (cE (.str "show")))) (bT (opE eqD (opE ixD (vE 5) (cE (.int 2))) (vE 2)))) (opE ixD (vE 5) (cE (.int 4)))))
    (seqM (setM 4 (opE ixD (callE 1 m__law_made (consA (callE 3 m__law_past (consA (vE 0) (consA (opE addD (vE 1) (cE (.int 1))) (consA (vE 2) nilA)))) nilA)) (cE (.int 1))))
    (seqM (ifM (andT (bT (opE eqD (opE ixD (opE ixD (vE 0) (vE 1)) (cE (.int 0))) (cE (.str "undo")))) (bT (opE neD (slE (vE 4) noneO (someO (bfE lenF (consA (vE 3) nilA)))) (vE 3)))) (retM (tupE (consA (cE (.str "hidden")) (consA (vE 2) (consA (opE ixD (opE ixD (vE 0) (vE 1)) (cE (.int 3))) nilA))))) nextM)
    (ifM (bT (opE eqD (opE ixD (opE ixD (vE 0) (vE 1)) (cE (.int 0))) (cE (.str "show")))) (seqM (ifM (bT (opE neD (opE ixD (opE ixD (vE 0) (vE 1)) (cE (.int 3))) (opE addD (bfE lenF (consA (vE 3) nilA)) (cE (.int 1))))) (retM (tupE (consA (cE (.str "order")) (consA (vE 2) (consA (opE ixD (opE ixD (vE 0) (vE 1)) (cE (.int 3))) nilA))))) nextM)
    (ifM (bT (opE neD (slE (vE 4) (someO (opE subD (opE ixD (opE ixD (vE 0) (vE 1)) (cE (.int 3))) (cE (.int 1)))) (someO (opE ixD (opE ixD (vE 0) (vE 1)) (cE (.int 3))))) (lstE (consA (opE ixD (opE ixD (vE 0) (vE 1)) (cE (.int 4))) nilA)))) (retM (tupE (consA (cE (.str "show")) (consA (vE 2) (consA (opE ixD (opE ixD (vE 0) (vE 1)) (cE (.int 3))) nilA))))) nextM)) nextM))))))
    (retM (cE .non)))
theorem ok_m__law_shows (T : Txt K mg) : FnOk P w K mg base CX0 23 T.a__law_shows T.fd__law_shows ["_law_events"] (spM K (Cl.mk (He.ga K) w) 1 m__law_shows) :=
  T.F__law_shows.ok sc__law_shows (fun _ _ _ _ h => spM_len h) (fun cdv A outer s H vs Q E hr h => ⟨_, PSs.nox (fss_cons (fs_for (vs := [1]) (g := nameG 1) (mb := seqM (setM 2 (opE ixD (opE ixD (vE 0) (vE 1)) (cE (.int 2))))
    (seqM (setM 3 (lcE (seqI (slE (vE 0) noneO (someO (vE 1)))) [5] (nameG 5) (andT (bT (opE eqD (opE ixD (vE 5) (cE (.int 0))) (cE (.str "show")))) (bT (opE eqD (opE ixD (vE 5) (cE (.int 2))) (vE 2)))) (opE ixD (vE 5) (cE (.int 4)))))
    (seqM (setM 4 (opE ixD (callE 1 m__law_made (consA (callE 3 m__law_past (consA (vE 0) (consA (opE addD (vE 1) (cE (.int 1))) (consA (vE 2) nilA)))) nilA)) (cE (.int 1))))
    (seqM (ifM (andT (bT (opE eqD (opE ixD (opE ixD (vE 0) (vE 1)) (cE (.int 0))) (cE (.str "undo")))) (bT (opE neD (slE (vE 4) noneO (someO (bfE lenF (consA (vE 3) nilA)))) (vE 3)))) (retM (tupE (consA (cE (.str "hidden")) (consA (vE 2) (consA (opE ixD (opE ixD (vE 0) (vE 1)) (cE (.int 3))) nilA))))) nextM)
    (ifM (bT (opE eqD (opE ixD (opE ixD (vE 0) (vE 1)) (cE (.int 0))) (cE (.str "show")))) (seqM (ifM (bT (opE neD (opE ixD (opE ixD (vE 0) (vE 1)) (cE (.int 3))) (opE addD (bfE lenF (consA (vE 3) nilA)) (cE (.int 1))))) (retM (tupE (consA (cE (.str "order")) (consA (vE 2) (consA (opE ixD (opE ixD (vE 0) (vE 1)) (cE (.int 3))) nilA))))) nextM)
    (ifM (bT (opE neD (slE (vE 4) (someO (opE subD (opE ixD (opE ixD (vE 0) (vE 1)) (cE (.int 3))) (cE (.int 1)))) (someO (opE ixD (opE ixD (vE 0) (vE 1)) (cE (.int 3))))) (lstE (consA (opE ixD (opE ixD (vE 0) (vE 1)) (cE (.int 4))) nilA)))) (retM (tupE (consA (cE (.str "show")) (consA (vE 2) (consA (opE ixD (opE ixD (vE 0) (vE 1)) (cE (.int 3))) nilA))))) nextM)) nextM))))) (ps_for PassesOwn.never rfl (fi_range1 (pi_range1 rfl T.n_range (fa_cons (PE.imp (pe_callB call_lenF (by rfl) T.n_len (by decide +kernel) (fa_cons (fe_var (pv 0)) fa_nil)) bf_im) fa_nil))) (pg_name (i := 1) sc__law_shows.nd rfl (Or.inl rfl))
        (fss_cons (PS.imp (ps_set (i := 2) sc__law_shows.nd rfl (Or.inr rfl) (fe_ix ix_D (fe_ix ix_D (fe_var (pv 0)) (fe_var (pv 1))) fe_int)) set_im)
      (fss_cons (PS.imp (ps_setLc (i := 3) (own := [("_law_one", 5)]) (g := gName 5)  rfl sc__law_shows.nd rfl rfl (sw_true rfl rfl rfl (by decide +kernel)) (fi_seq (fe_slice (fe_var (pv 0)) fo_none (fo_some (fe_var (pv 1))))) (by exact blkOk_by (N := N__law_shows) (sc := defScope s__law_shows) (by decide +kernel)) (fun _ _ _ _ _ => pg_name (i := 5) sc__law_shows.nd rfl (Or.inl rfl)) (fun _ _ _ _ _ => ft_imp (E := fun _ _ _ _ => False) (PW.pt (fw_and (ft_cmp (op_eqDD hr.units) (fe_ix ix_D (fe_var (pv 5)) fe_int) fe_str (nomark _)) (fw_and1 (ft_cmp (op_eqDD hr.units) (fe_ix ix_D (fe_var (pv 5)) fe_int) (fe_var (pv 2)) (nomark _)))))) (fun _ _ _ _ _ => fe_ix ix_D (fe_var (pv 5)) fe_int)) (setlc_im (lc_im (E0 := fun _ _ _ _ => False) (vs := [5]) (us := [5]) (g := nameG 5) (mt := andT (bT (opE eqD (opE ixD (vE 5) (cE (.int 0))) (cE (.str "show")))) (bT (opE eqD (opE ixD (vE 5) (cE (.int 2))) (vE 2)))) (me := opE ixD (vE 5) (cE (.int 4))) (name_ig (by decide)) (by decide) (fun _ _ _ h => h))))
      (fss_cons (PS.imp (ps_set (i := 4) sc__law_shows.nd rfl (Or.inl rfl) (fe_ix ix_D (PE.imp (pe_call (ok_m__law_made T) (hr.mono (by decide)) rfl T.g__law_made T.F__law_made.kp T.b__law_made .nil passN (fa_cons (PE.imp (pe_call (ok_m__law_past T) (hr.mono (by decide)) rfl T.g__law_past T.F__law_past.kp T.b__law_past .nil passN (fa_cons (fe_var (pv 0)) (fa_cons (fe_op op_addD (fe_var (pv 1)) fe_int) (fa_cons (fe_var (pv 2)) fa_nil)))) call_im) fa_nil)) call_im) fe_int)) set_im)
      (fss_cons (fs_if (PW.pt (fw_and (ft_cmp (op_eqDD hr.units) (fe_ix ix_D (fe_ix ix_D (fe_var (pv 0)) (fe_var (pv 1))) fe_int) fe_str (nomark _)) (fw_and1 (ft_cmp (op_neDD hr.units) (fe_slice (fe_var (pv 4)) fo_none (fo_some (PE.imp (pe_callB call_lenF (by rfl) T.n_len (by decide +kernel) (fa_cons (fe_var (pv 3)) fa_nil)) bf_im))) (fe_var (pv 3)) (nomark _))))) (fss_one (fs_ret (PE.imp (pe_tup (fa_cons fe_str (fa_cons (fe_var (pv 2)) (fa_cons (fe_ix ix_D (fe_ix ix_D (fe_var (pv 0)) (fe_var (pv 1))) fe_int) fa_nil)))) tup_im))) fss_nil)
      (fss_one (fs_if (ft_cmp (op_eqDD hr.units) (fe_ix ix_D (fe_ix ix_D (fe_var (pv 0)) (fe_var (pv 1))) fe_int) fe_str (nomark _)) (fss_cons (fs_if (ft_cmp (op_neDD hr.units) (fe_ix ix_D (fe_ix ix_D (fe_var (pv 0)) (fe_var (pv 1))) fe_int) (fe_op op_addD (PE.imp (pe_callB call_lenF (by rfl) T.n_len (by decide +kernel) (fa_cons (fe_var (pv 3)) fa_nil)) bf_im) fe_int) (nomark _)) (fss_one (fs_ret (PE.imp (pe_tup (fa_cons fe_str (fa_cons (fe_var (pv 2)) (fa_cons (fe_ix ix_D (fe_ix ix_D (fe_var (pv 0)) (fe_var (pv 1))) fe_int) fa_nil)))) tup_im))) fss_nil)
      (fss_one (fs_if (ft_cmp (op_neDD hr.units) (fe_slice (fe_var (pv 4)) (fo_some (fe_op op_subD (fe_ix ix_D (fe_ix ix_D (fe_var (pv 0)) (fe_var (pv 1))) fe_int) fe_int)) (fo_some (fe_ix ix_D (fe_ix ix_D (fe_var (pv 0)) (fe_var (pv 1))) fe_int))) (PE.imp (pe_lst (fa_cons (fe_ix ix_D (fe_ix ix_D (fe_var (pv 0)) (fe_var (pv 1))) fe_int) fa_nil)) lst_im) (nomark _)) (fss_one (fs_ret (PE.imp (pe_tup (fa_cons fe_str (fa_cons (fe_var (pv 2)) (fa_cons (fe_ix ix_D (fe_ix ix_D (fe_var (pv 0)) (fe_var (pv 1))) fe_int) fa_nil)))) tup_im))) fss_nil))) fss_nil))))))) (name_ig (by decide)))
      (fss_one (fs_ret fe_non))), body_of (N := N__law_shows) (n := 1) (k := 5) rfl h⟩)
noncomputable def m__law_runs : Fn := fnM 4 (
    seqM (forM (rangeI1 (consA (cE (.int 3)) nilA)) (nameG 1) (forM (seqI (callE 3 m__law_past (consA (vE 0) (consA (bfE lenF (consA (vE 0) nilA)) (consA (vE 1) nilA))))) (tupG 3 (consG (nameG 2) (consG (nameG 3) (consG (nameG 4) nilG)))) (ifM (andT (bT (opE geD (vE 2) (cE (.int 0)))) (bT (opE neD (slE (callE 4 m__law_sent (consA (vE 0) (consA (bfE lenF (consA (vE 0) nilA)) (consA (vE 2) (consA (vE 1) nilA))))) (someO (opE subD (vE 3) (cE (.int 1)))) (someO (vE 3))) (lstE (consA (vE 4) nilA))))) (retM (tupE (consA (cE (.str "run")) (consA (vE 1) (consA (vE 2) (consA (vE 3) nilA)))))) nextM)))
    (retM (cE .non)))
theorem ok_m__law_runs (T : Txt K mg) : FnOk P w K mg base CX0 24 T.a__law_runs T.fd__law_runs ["_law_events"] (spM K (Cl.mk (He.ga K) w) 1 m__law_runs) :=
  T.F__law_runs.ok sc__law_runs (fun _ _ _ _ h => spM_len h) (fun cdv A outer s H vs Q E hr h => ⟨_, PSs.nox (fss_cons (fs_for (vs := [1]) (g := nameG 1) (mb := forM (seqI (callE 3 m__law_past (consA (vE 0) (consA (bfE lenF (consA (vE 0) nilA)) (consA (vE 1) nilA))))) (tupG 3 (consG (nameG 2) (consG (nameG 3) (consG (nameG 4) nilG)))) (ifM (andT (bT (opE geD (vE 2) (cE (.int 0)))) (bT (opE neD (slE (callE 4 m__law_sent (consA (vE 0) (consA (bfE lenF (consA (vE 0) nilA)) (consA (vE 2) (consA (vE 1) nilA))))) (someO (opE subD (vE 3) (cE (.int 1)))) (someO (vE 3))) (lstE (consA (vE 4) nilA))))) (retM (tupE (consA (cE (.str "run")) (consA (vE 1) (consA (vE 2) (consA (vE 3) nilA)))))) nextM)) (ps_for PassesOwn.never rfl (fi_range1 (pi_range1 rfl T.n_range (fa_cons fe_int fa_nil))) (pg_name (i := 1) sc__law_runs.nd rfl (Or.inl rfl))
        (fss_one (fs_for (vs := [2, 3, 4]) (g := tupG 3 (consG (nameG 2) (consG (nameG 3) (consG (nameG 4) nilG)))) (mb := ifM (andT (bT (opE geD (vE 2) (cE (.int 0)))) (bT (opE neD (slE (callE 4 m__law_sent (consA (vE 0) (consA (bfE lenF (consA (vE 0) nilA)) (consA (vE 2) (consA (vE 1) nilA))))) (someO (opE subD (vE 3) (cE (.int 1)))) (someO (vE 3))) (lstE (consA (vE 4) nilA))))) (retM (tupE (consA (cE (.str "run")) (consA (vE 1) (consA (vE 2) (consA (vE 3) nilA)))))) nextM) (ps_for PassesOwn.never rfl (fi_seq (PE.imp (pe_call (ok_m__law_past T) (hr.mono (by decide)) rfl T.g__law_past T.F__law_past.kp T.b__law_past .nil passN (fa_cons (fe_var (pv 0)) (fa_cons (PE.imp (pe_callB call_lenF (by rfl) T.n_len (by decide +kernel) (fa_cons (fe_var (pv 0)) fa_nil)) bf_im) (fa_cons (fe_var (pv 1)) fa_nil)))) call_im)) (pg_tup rfl (pgs_cons (pg_name (i := 2) sc__law_runs.nd rfl (Or.inl rfl)) (pgs_cons (pg_name (i := 3) sc__law_runs.nd rfl (Or.inl rfl)) (pgs_cons (pg_name (i := 4) sc__law_runs.nd rfl (Or.inl rfl)) pgs_nil))))
        (fss_one (fs_if (PW.pt (fw_and (ft_cmp op_geD (fe_var (pv 2)) fe_int (nomark _)) (fw_and1 (ft_cmp (op_neDD hr.units) (fe_slice (PE.imp (pe_call (ok_m__law_sent T) (hr.mono (by decide)) rfl T.g__law_sent T.F__law_sent.kp T.b__law_sent .nil passN (fa_cons (fe_var (pv 0)) (fa_cons (PE.imp (pe_callB call_lenF (by rfl) T.n_len (by decide +kernel) (fa_cons (fe_var (pv 0)) fa_nil)) bf_im) (fa_cons (fe_var (pv 2)) (fa_cons (fe_var (pv 1)) fa_nil))))) call_im) (fo_some (fe_op op_subD (fe_var (pv 3)) fe_int)) (fo_some (fe_var (pv 3)))) (PE.imp (pe_lst (fa_cons (fe_var (pv 4)) fa_nil)) lst_im) (nomark _))))) (fss_one (fs_ret (PE.imp (pe_tup (fa_cons fe_str (fa_cons (fe_var (pv 1)) (fa_cons (fe_var (pv 2)) (fa_cons (fe_var (pv 3)) fa_nil))))) tup_im))) fss_nil))) (tup_ig (cons_ig (name_ig (by decide)) (cons_ig (name_ig (by decide)) (cons_ig (name_ig (by decide)) nil_ig))))))) (name_ig (by decide)))
      (fss_one (fs_ret fe_non))), body_of (N := N__law_runs) (n := 1) (k := 4) rfl h⟩)
noncomputable def m_law_c2 : MS := seqM (setM 5 (callE 1 m_judge (consA (vE 4) nilA)))
    (retM (andE (isiE "list" (vE 5)) (andE (opE eqD (vE 5) (lcE (seqI (vE 3)) [6] (nameG 6) (bT (opE isntD (vE 6) (cE .non))) (vE 6))) (opE eqD (vE 4) (vE 1)))))
noncomputable def m_law_c1 : MS := seqM (setM 3 (lstE (consA (callE 1 m__law_takes (consA (vE 1) nilA)) (consA (callE 1 m__law_undos (consA (vE 1) nilA)) (consA (callE 1 m__law_shows (consA (vE 1) nilA)) (consA (callE 1 m__law_runs (consA (vE 1) nilA)) nilA))))))
    (seqM (setM 4 (bfE listF (consA (vE 1) nilA)))
    (seqM (ifM (bT (opE neD (lstE (consA (callE 1 m_take_fault (consA (vE 4) nilA)) (consA (callE 1 m_undo_fault (consA (vE 4) nilA)) (consA (callE 1 m_show_fault (consA (vE 4) nilA)) (consA (callE 1 m_run_fault (consA (vE 4) nilA)) nilA))))) (vE 3))) (retM (cE (.bl false))) nextM)
    m_law_c2))
noncomputable def m_law : Fn := fnM 6 (
    seqM (setM 1 (lstE nilA))
    (seqM (forM (seqI (callE 3 m__law_draws (consA (vE 0) (consA (cE (.int 0)) (consA (cE (.int 30)) nilA))))) (nameG 2) (dropM (lmE appendF (vE 1) (consA (callE 2 m__law_event (consA (vE 1) (consA (vE 2) nilA))) nilA))))
    m_law_c1))
theorem ok_m_law (T : Txt K mg) : FnOk P w K mg base CX0 26 T.a_law T.fd_law ["_law_script"] (spM K (Cl.mk (He.ga K) w) 1 m_law) :=
  T.F_law.ok sc_law (fun _ _ _ _ h => spM_len h) (fun cdv A outer s H vs Q E hr h => ⟨_, PSs.nox (fss_cons (PS.imp (ps_set (i := 1) sc_law.nd rfl (Or.inl rfl) (PE.imp (pe_lst fa_nil) lst_im)) set_im)
      (fss_cons (fs_for (vs := [2]) (g := nameG 2) (mb := dropM (lmE appendF (vE 1) (consA (callE 2 m__law_event (consA (vE 1) (consA (vE 2) nilA))) nilA))) (ps_for PassesOwn.never rfl (fi_seq (PE.imp (pe_call (ok_m__law_draws T) (hr.mono (by decide)) rfl T.g__law_draws T.F__law_draws.kp T.b__law_draws .nil passN (fa_cons (fe_var (pv 0)) (fa_cons fe_int (fa_cons fe_int fa_nil)))) call_im)) (pg_name (i := 2) sc_law.nd rfl (Or.inl rfl))
        (fss_one (PS.imp (ps_expr (PE.imp (pe_bm PySem.F.plainAttrs_list PySem.F.slot_list_append PySem.F.type_list_append mt_append (fe_var (pv 1)) (fa_cons (PE.imp (pe_call (ok_m__law_event T) (hr.mono (by decide)) rfl T.g__law_event T.F__law_event.kp T.b__law_event .nil passN (fa_cons (fe_var (pv 1)) (fa_cons (fe_var (pv 2)) fa_nil))) call_im) fa_nil)) (lm_im append_r))) drop_im))) (name_ig (by decide)))
      (fss_cons (PS.imp (ps_set (i := 3) sc_law.nd rfl (Or.inl rfl) (PE.imp (pe_lst (fa_cons (PE.imp (pe_call (ok_m__law_takes T) (hr.mono (by decide)) rfl T.g__law_takes T.F__law_takes.kp T.b__law_takes .nil passN (fa_cons (fe_var (pv 1)) fa_nil)) call_im) (fa_cons (PE.imp (pe_call (ok_m__law_undos T) (hr.mono (by decide)) rfl T.g__law_undos T.F__law_undos.kp T.b__law_undos .nil passN (fa_cons (fe_var (pv 1)) fa_nil)) call_im) (fa_cons (PE.imp (pe_call (ok_m__law_shows T) (hr.mono (by decide)) rfl T.g__law_shows T.F__law_shows.kp T.b__law_shows .nil passN (fa_cons (fe_var (pv 1)) fa_nil)) call_im) (fa_cons (PE.imp (pe_call (ok_m__law_runs T) (hr.mono (by decide)) rfl T.g__law_runs T.F__law_runs.kp T.b__law_runs .nil passN (fa_cons (fe_var (pv 1)) fa_nil)) call_im) fa_nil))))) lst_im)) set_im)
      (fss_cons (PS.imp (ps_set (i := 4) sc_law.nd rfl (Or.inl rfl) (PE.imp (pe_callTy call_listF (by rfl) T.n_list (by decide +kernel) (fa_cons (fe_var (pv 1)) fa_nil)) bf_im)) set_im)
      (fss_cons (fs_if (ft_cmp (op_neDD hr.units) (PE.imp (pe_lst (fa_cons (PE.imp (pe_call (ok_m_take_fault T) (hr.mono (by decide)) rfl T.g_take_fault T.F_take_fault.kp T.b_take_fault .nil passN (fa_cons (fe_var (pv 4)) fa_nil)) call_im) (fa_cons (PE.imp (pe_call (ok_m_undo_fault T) (hr.mono (by decide)) rfl T.g_undo_fault T.F_undo_fault.kp T.b_undo_fault .nil passN (fa_cons (fe_var (pv 4)) fa_nil)) call_im) (fa_cons (PE.imp (pe_call (ok_m_show_fault T) (hr.mono (by decide)) rfl T.g_show_fault T.F_show_fault.kp T.b_show_fault .nil passN (fa_cons (fe_var (pv 4)) fa_nil)) call_im) (fa_cons (PE.imp (pe_call (ok_m_run_fault T) (hr.mono (by decide)) rfl T.g_run_fault T.F_run_fault.kp T.b_run_fault .nil passN (fa_cons (fe_var (pv 4)) fa_nil)) call_im) fa_nil))))) lst_im) (fe_var (pv 3)) (nomark _)) (fss_one (fs_ret fe_bl)) fss_nil)
      (fss_cons (PS.imp (ps_set (i := 5) sc_law.nd rfl (Or.inl rfl) (PE.imp (pe_call (ok_m_judge T) (hr.mono (by decide)) rfl T.g_judge T.F_judge.kp T.b_judge .nil passN (fa_cons (fe_var (pv 4)) fa_nil)) call_im)) set_im)
      (fss_one (fs_ret (fe_and (PE.imp (pe_callB call_isi (by rfl) T.n_isinstance (by decide +kernel) (pa_cons (fe_var (pv 5)) (pa_cons (pe_bltn (v := .ty "list") (u := .type "list") rfl T.n_list (by decide +kernel) rfl) pa_nil))) (isi_im (by decide))) (fe_and (fe_cmp (op_eqDD hr.units) (fe_var (pv 5)) (PE.imp (pe_lc (own := [("_law_fault", 6)]) (g := gName 6)  rfl sc_law.nd (fi_seq (fe_var (pv 3))) (by exact blkOk_by (N := N_law) (sc := defScope s_law) (by decide +kernel)) (fun _ _ _ _ _ => pg_name (i := 6) sc_law.nd rfl (Or.inl rfl)) (fun _ _ _ _ _ => ft_imp (E := fun _ _ _ _ => False) (ft_cmp op_isntD (fe_var (pv 6)) fe_non (nomark _))) (fun _ _ _ _ _ => fe_var (pv 6))) (lc_im (E0 := fun _ _ _ _ => False) (vs := [6]) (us := [6]) (g := nameG 6) (mt := bT (opE isntD (vE 6) (cE .non))) (me := vE 6) (name_ig (by decide)) (by decide) (fun _ _ _ h => h))) (nomark _)) (fe_one (fe_cmp (op_eqDD hr.units) (fe_var (pv 4)) (fe_var (pv 1)) (nomark _))))))))))))), body_of (N := N_law) (n := 1) (k := 6) rfl h⟩)
end

def d_stored : He.DefD := ⟨("stored", none), "stored", "stored", defArgs s_stored, defBody s_stored, defScope s_stored, [], []⟩
def d_run : He.DefD := ⟨("run", none), "run", "run", defArgs s_run, defBody s_run, defScope s_run, [], []⟩
def d_Pasts___init__ : He.DefD := ⟨("Pasts", some "__init__"), "__init__", "Pasts.__init__", defArgs s_Pasts___init__, defBody s_Pasts___init__, defScope s_Pasts___init__, [], []⟩
def d_Pasts_processes : He.DefD := ⟨("Pasts", some "processes"), "processes", "Pasts.processes", defArgs s_Pasts_processes, defBody s_Pasts_processes, defScope s_Pasts_processes, [], []⟩
def d_Pasts_inputs : He.DefD := ⟨("Pasts", some "inputs"), "inputs", "Pasts.inputs", defArgs s_Pasts_inputs, defBody s_Pasts_inputs, defScope s_Pasts_inputs, [], []⟩
def d_Pasts_note : He.DefD := ⟨("Pasts", some "note"), "note", "Pasts.note", defArgs s_Pasts_note, defBody s_Pasts_note, defScope s_Pasts_note, [], []⟩
def d_Pasts_made : He.DefD := ⟨("Pasts", some "made"), "made", "Pasts.made", defArgs s_Pasts_made, defBody s_Pasts_made, defScope s_Pasts_made, [], []⟩
def d_take_fault : He.DefD := ⟨("take_fault", none), "take_fault", "take_fault", defArgs s_take_fault, defBody s_take_fault, defScope s_take_fault, [], []⟩
def d_undo_fault : He.DefD := ⟨("undo_fault", none), "undo_fault", "undo_fault", defArgs s_undo_fault, defBody s_undo_fault, defScope s_undo_fault, [], []⟩
def d_show_fault : He.DefD := ⟨("show_fault", none), "show_fault", "show_fault", defArgs s_show_fault, defBody s_show_fault, defScope s_show_fault, [], []⟩
def d_run_fault : He.DefD := ⟨("run_fault", none), "run_fault", "run_fault", defArgs s_run_fault, defBody s_run_fault, defScope s_run_fault, [], []⟩
def d_judge : He.DefD := ⟨("judge", none), "judge", "judge", defArgs s_judge, defBody s_judge, defScope s_judge, [], []⟩
def d__law_draws : He.DefD := ⟨("_law_draws", none), "_law_draws", "_law_draws", defArgs s__law_draws, defBody s__law_draws, defScope s__law_draws, [], []⟩
def d__law_payload : He.DefD := ⟨("_law_payload", none), "_law_payload", "_law_payload", defArgs s__law_payload, defBody s__law_payload, defScope s__law_payload, [], []⟩
def d__law_run : He.DefD := ⟨("_law_run", none), "_law_run", "_law_run", defArgs s__law_run, defBody s__law_run, defScope s__law_run, [], []⟩
def d__law_past : He.DefD := ⟨("_law_past", none), "_law_past", "_law_past", defArgs s__law_past, defBody s__law_past, defScope s__law_past, [], []⟩
def d__law_made : He.DefD := ⟨("_law_made", none), "_law_made", "_law_made", defArgs s__law_made, defBody s__law_made, defScope s__law_made, [], []⟩
def d__law_sent : He.DefD := ⟨("_law_sent", none), "_law_sent", "_law_sent", defArgs s__law_sent, defBody s__law_sent, defScope s__law_sent, [], []⟩
def d__law_event : He.DefD := ⟨("_law_event", none), "_law_event", "_law_event", defArgs s__law_event, defBody s__law_event, defScope s__law_event, [], []⟩
def d__law_takes : He.DefD := ⟨("_law_takes", none), "_law_takes", "_law_takes", defArgs s__law_takes, defBody s__law_takes, defScope s__law_takes, [], []⟩
def d__law_undos : He.DefD := ⟨("_law_undos", none), "_law_undos", "_law_undos", defArgs s__law_undos, defBody s__law_undos, defScope s__law_undos, [], []⟩
def d__law_shows : He.DefD := ⟨("_law_shows", none), "_law_shows", "_law_shows", defArgs s__law_shows, defBody s__law_shows, defScope s__law_shows, [], []⟩
def d__law_runs : He.DefD := ⟨("_law_runs", none), "_law_runs", "_law_runs", defArgs s__law_runs, defBody s__law_runs, defScope s__law_runs, [], []⟩
def d_law : He.DefD := ⟨("law", none), "law", "law", defArgs s_law, defBody s_law, defScope s_law, [], []⟩
def fn : List He.DefD := [d_stored, d_run, d_Pasts___init__, d_Pasts_processes, d_Pasts_inputs, d_Pasts_note, d_Pasts_made, d_take_fault, d_undo_fault, d_show_fault, d_run_fault, d_judge, d__law_draws, d__law_payload, d__law_run, d__law_past, d__law_made, d__law_sent, d__law_event, d__law_takes, d__law_undos, d__law_shows, d__law_runs, d_law]
def fa : List He.Fa := [.glo "stored", .glo "run", .glo "take_fault", .glo "undo_fault", .glo "show_fault", .glo "run_fault", .glo "judge", .glo "_law_draws", .glo "_law_payload", .glo "_law_run", .glo "_law_past", .glo "_law_made", .glo "_law_sent", .glo "_law_event", .glo "_law_takes", .glo "_law_undos", .glo "_law_shows", .glo "_law_runs", .glo "law", .glo "Pasts", .cls "Pasts", .noat "Pasts" "_rows", .mkr "Pasts", .meth "Pasts" "processes", .meth "Pasts" "inputs", .meth "Pasts" "note", .meth "Pasts" "made", .int "DESK" (-1), .glo "START", .free "str", .free "sorted", .free "len", .free "abs", .free "int", .free "range", .free "list", .free "max", .free "isinstance"]
def ts : List He.Tab := []
def exs : List (PySem.W.Frag → Bool) := [fun K => He.tupB K "START" [.int 0, .int 0, .int 0, .int 0]]
def ex (K : PySem.W.Frag) : Bool := exs.all fun f => f K
abbrev R : PySem.W.OpenRow := PySem.W.OpenLaw.row PySem.Challenge.rw_firmground_k57_judge_by_pasts
def loose : List Str := (["DESK", "START", "stored", "run", "Pasts", "take_fault", "undo_fault", "show_fault", "run_fault", "judge", "_law_draws", "_law_payload", "_law_run", "_law_past", "_law_made", "_law_sent", "_law_event", "_law_takes", "_law_undos", "_law_shows", "_law_runs"] : List Str)
abbrev hk : PySem.W.Hook := He.hookA 1000 fa fn ts ex
def ob (s : PySem.W.SharedT) : He.AlX := He.obsA 1000 fa fn ts ex (HandSHeadRun.getT s)
theorem ob_eq (s : PySem.W.SharedT) : ob s = hk.obs s.abs := He.obsA_eq (HandSHeadRun.getT_eq s)
abbrev LooksAt (w : World) : Prop := ∀ os : OsState, (HandSHeadRun.endF (HandSHeadRun.stepQ (HandSHeadRun.denQ HandSHeadRun.tabQ) R.prog w) 60000 R.prog w os).map (fun s => (HandSHeadRun.looksF R.prog (PySem.W.boot_heap w.params) s.abs, HandSHeadRun.seenQ (PySem.W.view R.prog [24]) loose (importedModules R.prog.main.body) (fun s => PySem.W.xlAt (PySem.W.view R.prog [24]) [] s && PySem.W.recOk R.toRowW.records s) s.abs)) = some (true, PySem.W.openGood (PySem.W.view R.prog [24]) loose)
abbrev FactsAt (w : World) : Prop := ∀ os : OsState, (HandSHeadRun.endF (HandSHeadRun.stepQ (HandSHeadRun.denQ HandSHeadRun.tabQ) R.prog w) 60000 R.prog w os).map ob = some (hk.val w)
set_option maxHeartbeats 0 in
theorem run1 (w : World) : LooksAt w := by
  intro os
  kernel_rfl
set_option maxHeartbeats 0 in
theorem run2 (w : World) : FactsAt w := by
  intro os
  kernel_rfl
theorem run (w : World) : HandSHeadRun.RunEq R (PySem.W.view R.prog [24]) hk ob 60000 loose w := He.run_split (run1 w) (run2 w)
theorem txt_of {w : World} {K : PySem.W.Frag} {h h2 : Heap} {mg : Str → Option Value} (X : K.In h) (G : h.Ns mainGlobals mg) (c : He.SaysX fa fn ts [] ex w h2 K) : Nonempty (PLift (mg "law" = some (.ref (He.ga K "law")))) ∧ ∃ T : Txt K mg, T.a_law = He.ga K "law" := by
  have exf : ∀ (i : Nat) {f : PySem.W.Frag → Bool}, exs[i]? = some f → f K = true := fun i f h => List.all_eq_true.mp (show (exs.all fun f => f K) = true from c.more) f (List.mem_of_getElem? h)
  obtain ⟨fd_stored, F_stored⟩ := c.t.d.def_ 0 (d := d_stored) rfl
  obtain ⟨fd_run, F_run⟩ := c.t.d.def_ 1 (d := d_run) rfl
  obtain ⟨fd_Pasts___init__, F_Pasts___init__⟩ := c.t.d.def_ 2 (d := d_Pasts___init__) rfl
  obtain ⟨fd_Pasts_processes, F_Pasts_processes⟩ := c.t.d.def_ 3 (d := d_Pasts_processes) rfl
  obtain ⟨fd_Pasts_inputs, F_Pasts_inputs⟩ := c.t.d.def_ 4 (d := d_Pasts_inputs) rfl
  obtain ⟨fd_Pasts_note, F_Pasts_note⟩ := c.t.d.def_ 5 (d := d_Pasts_note) rfl
  obtain ⟨fd_Pasts_made, F_Pasts_made⟩ := c.t.d.def_ 6 (d := d_Pasts_made) rfl
  obtain ⟨fd_take_fault, F_take_fault⟩ := c.t.d.def_ 7 (d := d_take_fault) rfl
  obtain ⟨fd_undo_fault, F_undo_fault⟩ := c.t.d.def_ 8 (d := d_undo_fault) rfl
  obtain ⟨fd_show_fault, F_show_fault⟩ := c.t.d.def_ 9 (d := d_show_fault) rfl
  obtain ⟨fd_run_fault, F_run_fault⟩ := c.t.d.def_ 10 (d := d_run_fault) rfl
  obtain ⟨fd_judge, F_judge⟩ := c.t.d.def_ 11 (d := d_judge) rfl
  obtain ⟨fd__law_draws, F__law_draws⟩ := c.t.d.def_ 12 (d := d__law_draws) rfl
  obtain ⟨fd__law_payload, F__law_payload⟩ := c.t.d.def_ 13 (d := d__law_payload) rfl
  obtain ⟨fd__law_run, F__law_run⟩ := c.t.d.def_ 14 (d := d__law_run) rfl
  obtain ⟨fd__law_past, F__law_past⟩ := c.t.d.def_ 15 (d := d__law_past) rfl
  obtain ⟨fd__law_made, F__law_made⟩ := c.t.d.def_ 16 (d := d__law_made) rfl
  obtain ⟨fd__law_sent, F__law_sent⟩ := c.t.d.def_ 17 (d := d__law_sent) rfl
  obtain ⟨fd__law_event, F__law_event⟩ := c.t.d.def_ 18 (d := d__law_event) rfl
  obtain ⟨fd__law_takes, F__law_takes⟩ := c.t.d.def_ 19 (d := d__law_takes) rfl
  obtain ⟨fd__law_undos, F__law_undos⟩ := c.t.d.def_ 20 (d := d__law_undos) rfl
  obtain ⟨fd__law_shows, F__law_shows⟩ := c.t.d.def_ 21 (d := d__law_shows) rfl
  obtain ⟨fd__law_runs, F__law_runs⟩ := c.t.d.def_ 22 (d := d__law_runs) rfl
  obtain ⟨fd_law, F_law⟩ := c.t.d.def_ 23 (d := d_law) rfl
  obtain ⟨u_DESK, g_DESK⟩ := He.int_ok X G (c.t.d.fact 27 (f := .int "DESK" (-1)) rfl)
  refine ⟨⟨⟨He.glo_ok X G (c.t.d.fact 18 (f := .glo "law") rfl)⟩⟩, ⟨{
    a_stored := He.ga K "stored"
    fd_stored := fd_stored
    F_stored := F_stored
    b_stored := FunD.bindsN (ps := ["cells", "cell", "value"]) F_stored fun _ _ _ _ _ _ us hl => match us, hl with | [_, _, _], _ => rfl
    g_stored := He.glo_ok X G (c.t.d.fact 0 (f := .glo "stored") rfl)
    a_run := He.ga K "run"
    fd_run := fd_run
    F_run := F_run
    b_run := FunD.bindsN (ps := ["cells", "payload"]) F_run fun _ _ _ _ _ _ us hl => match us, hl with | [_, _], _ => rfl
    g_run := He.glo_ok X G (c.t.d.fact 1 (f := .glo "run") rfl)
    a_Pasts___init__ := He.ma K (He.ga K "Pasts") "__init__"
    fd_Pasts___init__ := fd_Pasts___init__
    F_Pasts___init__ := F_Pasts___init__
    b_Pasts___init__ := FunD.bindsN (ps := ["self"]) F_Pasts___init__ fun _ _ _ _ _ _ us hl => match us, hl with | [_], _ => rfl
    a_Pasts_processes := He.ma K (He.ga K "Pasts") "processes"
    fd_Pasts_processes := fd_Pasts_processes
    F_Pasts_processes := F_Pasts_processes
    b_Pasts_processes := FunD.bindsN (ps := ["self"]) F_Pasts_processes fun _ _ _ _ _ _ us hl => match us, hl with | [_], _ => rfl
    a_Pasts_inputs := He.ma K (He.ga K "Pasts") "inputs"
    fd_Pasts_inputs := fd_Pasts_inputs
    F_Pasts_inputs := F_Pasts_inputs
    b_Pasts_inputs := FunD.bindsN (ps := ["self", "process"]) F_Pasts_inputs fun _ _ _ _ _ _ us hl => match us, hl with | [_, _], _ => rfl
    a_Pasts_note := He.ma K (He.ga K "Pasts") "note"
    fd_Pasts_note := fd_Pasts_note
    F_Pasts_note := F_Pasts_note
    b_Pasts_note := FunD.bindsN (ps := ["self", "event"]) F_Pasts_note fun _ _ _ _ _ _ us hl => match us, hl with | [_, _], _ => rfl
    a_Pasts_made := He.ma K (He.ga K "Pasts") "made"
    fd_Pasts_made := fd_Pasts_made
    F_Pasts_made := F_Pasts_made
    b_Pasts_made := FunD.bindsN (ps := ["self", "process"]) F_Pasts_made fun _ _ _ _ _ _ us hl => match us, hl with | [_, _], _ => rfl
    a_take_fault := He.ga K "take_fault"
    fd_take_fault := fd_take_fault
    F_take_fault := F_take_fault
    b_take_fault := FunD.bindsN (ps := ["events"]) F_take_fault fun _ _ _ _ _ _ us hl => match us, hl with | [_], _ => rfl
    g_take_fault := He.glo_ok X G (c.t.d.fact 2 (f := .glo "take_fault") rfl)
    a_undo_fault := He.ga K "undo_fault"
    fd_undo_fault := fd_undo_fault
    F_undo_fault := F_undo_fault
    b_undo_fault := FunD.bindsN (ps := ["events"]) F_undo_fault fun _ _ _ _ _ _ us hl => match us, hl with | [_], _ => rfl
    g_undo_fault := He.glo_ok X G (c.t.d.fact 3 (f := .glo "undo_fault") rfl)
    a_show_fault := He.ga K "show_fault"
    fd_show_fault := fd_show_fault
    F_show_fault := F_show_fault
    b_show_fault := FunD.bindsN (ps := ["events"]) F_show_fault fun _ _ _ _ _ _ us hl => match us, hl with | [_], _ => rfl
    g_show_fault := He.glo_ok X G (c.t.d.fact 4 (f := .glo "show_fault") rfl)
    a_run_fault := He.ga K "run_fault"
    fd_run_fault := fd_run_fault
    F_run_fault := F_run_fault
    b_run_fault := FunD.bindsN (ps := ["events"]) F_run_fault fun _ _ _ _ _ _ us hl => match us, hl with | [_], _ => rfl
    g_run_fault := He.glo_ok X G (c.t.d.fact 5 (f := .glo "run_fault") rfl)
    a_judge := He.ga K "judge"
    fd_judge := fd_judge
    F_judge := F_judge
    b_judge := FunD.bindsN (ps := ["events"]) F_judge fun _ _ _ _ _ _ us hl => match us, hl with | [_], _ => rfl
    g_judge := He.glo_ok X G (c.t.d.fact 6 (f := .glo "judge") rfl)
    a__law_draws := He.ga K "_law_draws"
    fd__law_draws := fd__law_draws
    F__law_draws := F__law_draws
    b__law_draws := FunD.bindsN (ps := ["_law_script", "_law_start", "_law_most"]) F__law_draws fun _ _ _ _ _ _ us hl => match us, hl with | [_, _, _], _ => rfl
    g__law_draws := He.glo_ok X G (c.t.d.fact 7 (f := .glo "_law_draws") rfl)
    a__law_payload := He.ga K "_law_payload"
    fd__law_payload := fd__law_payload
    F__law_payload := F__law_payload
    b__law_payload := FunD.bindsN (ps := ["_law_number", "_law_count", "_law_depth"]) F__law_payload fun _ _ _ _ _ _ us hl => match us, hl with | [_, _, _], _ => rfl
    g__law_payload := He.glo_ok X G (c.t.d.fact 8 (f := .glo "_law_payload") rfl)
    a__law_run := He.ga K "_law_run"
    fd__law_run := fd__law_run
    F__law_run := F__law_run
    b__law_run := FunD.bindsN (ps := ["_law_cells", "_law_payload_here"]) F__law_run fun _ _ _ _ _ _ us hl => match us, hl with | [_, _], _ => rfl
    g__law_run := He.glo_ok X G (c.t.d.fact 9 (f := .glo "_law_run") rfl)
    a__law_past := He.ga K "_law_past"
    fd__law_past := fd__law_past
    F__law_past := F__law_past
    b__law_past := FunD.bindsN (ps := ["_law_events", "_law_k", "_law_process"]) F__law_past fun _ _ _ _ _ _ us hl => match us, hl with | [_, _, _], _ => rfl
    g__law_past := He.glo_ok X G (c.t.d.fact 10 (f := .glo "_law_past") rfl)
    a__law_made := He.ga K "_law_made"
    fd__law_made := fd__law_made
    F__law_made := F__law_made
    b__law_made := FunD.bindsN (ps := ["_law_rows"]) F__law_made fun _ _ _ _ _ _ us hl => match us, hl with | [_], _ => rfl
    g__law_made := He.glo_ok X G (c.t.d.fact 11 (f := .glo "_law_made") rfl)
    a__law_sent := He.ga K "_law_sent"
    fd__law_sent := fd__law_sent
    F__law_sent := F__law_sent
    b__law_sent := FunD.bindsN (ps := ["_law_events", "_law_k", "_law_sender", "_law_process"]) F__law_sent fun _ _ _ _ _ _ us hl => match us, hl with | [_, _, _, _], _ => rfl
    g__law_sent := He.glo_ok X G (c.t.d.fact 12 (f := .glo "_law_sent") rfl)
    a__law_event := He.ga K "_law_event"
    fd__law_event := fd__law_event
    F__law_event := F__law_event
    b__law_event := FunD.bindsN (ps := ["_law_events", "_law_draw"]) F__law_event fun _ _ _ _ _ _ us hl => match us, hl with | [_, _], _ => rfl
    g__law_event := He.glo_ok X G (c.t.d.fact 13 (f := .glo "_law_event") rfl)
    a__law_takes := He.ga K "_law_takes"
    fd__law_takes := fd__law_takes
    F__law_takes := F__law_takes
    b__law_takes := FunD.bindsN (ps := ["_law_events"]) F__law_takes fun _ _ _ _ _ _ us hl => match us, hl with | [_], _ => rfl
    g__law_takes := He.glo_ok X G (c.t.d.fact 14 (f := .glo "_law_takes") rfl)
    a__law_undos := He.ga K "_law_undos"
    fd__law_undos := fd__law_undos
    F__law_undos := F__law_undos
    b__law_undos := FunD.bindsN (ps := ["_law_events"]) F__law_undos fun _ _ _ _ _ _ us hl => match us, hl with | [_], _ => rfl
    g__law_undos := He.glo_ok X G (c.t.d.fact 15 (f := .glo "_law_undos") rfl)
    a__law_shows := He.ga K "_law_shows"
    fd__law_shows := fd__law_shows
    F__law_shows := F__law_shows
    b__law_shows := FunD.bindsN (ps := ["_law_events"]) F__law_shows fun _ _ _ _ _ _ us hl => match us, hl with | [_], _ => rfl
    g__law_shows := He.glo_ok X G (c.t.d.fact 16 (f := .glo "_law_shows") rfl)
    a__law_runs := He.ga K "_law_runs"
    fd__law_runs := fd__law_runs
    F__law_runs := F__law_runs
    b__law_runs := FunD.bindsN (ps := ["_law_events"]) F__law_runs fun _ _ _ _ _ _ us hl => match us, hl with | [_], _ => rfl
    g__law_runs := He.glo_ok X G (c.t.d.fact 17 (f := .glo "_law_runs") rfl)
    a_law := He.ga K "law"
    fd_law := fd_law
    F_law := F_law
    b_law := FunD.bindsN (ps := ["_law_script"]) F_law fun _ _ _ _ _ _ us hl => match us, hl with | [_], _ => rfl
    g_law := He.glo_ok X G (c.t.d.fact 18 (f := .glo "law") rfl)
    
    g_Pasts := He.glo_ok X G (c.t.d.fact 19 (f := .glo "Pasts") rfl)
    cls_Pasts := He.cls_ok (c.t.d.fact 20 (f := .cls "Pasts") rfl)
    na_Pasts__rows := He.noat_ok (c.t.d.fact 21 (f := .noat "Pasts" "_rows") rfl)
    mk_Pasts := He.mkr_ok (c.t.d.fact 22 (f := .mkr "Pasts") rfl)
    m_Pasts_processes := He.meth_ok (c.t.d.fact 23 (f := .meth "Pasts" "processes") rfl)
    m_Pasts_inputs := He.meth_ok (c.t.d.fact 24 (f := .meth "Pasts" "inputs") rfl)
    m_Pasts_note := He.meth_ok (c.t.d.fact 25 (f := .meth "Pasts" "note") rfl)
    m_Pasts_made := He.meth_ok (c.t.d.fact 26 (f := .meth "Pasts" "made") rfl)
    u_DESK := Value.int ((-1)) u_DESK
    g_DESK := g_DESK
    r_DESK := ⟨_, rfl⟩
    a_START := He.ga K "START"
    g_START := He.glo_ok X G (c.t.d.fact 28 (f := .glo "START") rfl)
    r_START := rfl
    t_START := fun H => He.tupB_ok (vs := [.int 0, .int 0, .int 0, .int 0]) (exf 0 rfl) H
    n_str := He.free_ok X G (c.t.d.fact 29 (f := .free "str") rfl)
    n_sorted := He.free_ok X G (c.t.d.fact 30 (f := .free "sorted") rfl)
    n_len := He.free_ok X G (c.t.d.fact 31 (f := .free "len") rfl)
    n_abs := He.free_ok X G (c.t.d.fact 32 (f := .free "abs") rfl)
    n_int := He.free_ok X G (c.t.d.fact 33 (f := .free "int") rfl)
    n_range := He.free_ok X G (c.t.d.fact 34 (f := .free "range") rfl)
    n_list := He.free_ok X G (c.t.d.fact 35 (f := .free "list") rfl)
    n_max := He.free_ok X G (c.t.d.fact 36 (f := .free "max") rfl)
    n_isinstance := He.free_ok X G (c.t.d.fact 37 (f := .free "isinstance") rfl) }, rfl⟩⟩
end Fg
set_option Elab.async false
set_option linter.all false
set_option maxRecDepth 100000
set_option maxHeartbeats 1000000
namespace Fg
open PySem PySem.Spec PyProof.Rows L2 L3
variable {S : Store} {P : L3.D → Store → Prop}
theorem at_cell {cs : List Int} {a : Int} (h : cs.length = 4) (a0 : 0 ≤ a) (a1 : a ≤ 3) : atI (cs.map L3.D.int) a = some (.int (cs.getD (cellN (.int a)) 0)) := by
  obtain ⟨k, rfl⟩ := Int.eq_ofNat_of_zero_le a0
  have hk : k < cs.length := by omega
  have e : cellN (.int (k : Int)) = k := by simp [cellN, intG]
  rw [e, List.getD_eq_getElem?_getD, List.getElem?_eq_getElem hk]
  exact atI_nat (by rw [List.getElem?_map, List.getElem?_eq_getElem hk]; rfl)
theorem stored_ok {cs : List Int} {a v : Int} (h4 : cs.length = 4) (a0 : 0 ≤ a) (a1 : a ≤ 3) (h : P (.tup ((cs.set (cellN (.int a)) v).map .int)) S) : (m_stored [.tup (cs.map .int), .int a, .int v] S).Ok P := by
  obtain ⟨k, rfl⟩ := Int.eq_ofNat_of_zero_le a0
  have e : cellN (.int (k : Int)) = k := by simp [cellN, intG]
  rw [e] at h
  have e1 : (k : Int) + 1 = ((k + 1 : Nat) : Int) := by omega
  have hk : k < (cs.map L3.D.int).length := by rw [List.length_map]; omega
  have e2 := set_cut (v := .int v) hk
  have e3 : (cs.set k v).map L3.D.int = (cs.map L3.D.int).set k (.int v) := by rw [List.map_set]
  rw [e3, ← e2] at h
  simp [m_stored, cutD_to]
  rw [e1]
  simp only [cutD_from]
  refine ⟨by omega, by rw [List.length_drop, List.length_map]; omega, ?_⟩
  simpa using h
theorem log_cell {i : Int} (h0 : -1000000000000 ≤ i) (h1 : i ≤ 1000000000000) : i.natAbs.log2 < 1920 := by
  by_cases z : i.natAbs = 0
  · rw [z]; decide
  · have : i.natAbs.log2 < 60 := (Nat.log2_lt z).mpr (by omega)
    omega
/-- what run gives -/
def RanD (S : Store) (r : Ran) (P : L3.D → Store → Prop) : Prop := ∀ S' a b, S.length ≤ a → a < b → More S S' → lstO S' a = some r.2.1 → lstO S' b = some (r.2.2.map .str) → P (.tup [.tup (r.1.map .int), .ref a, .ref b]) S'
theorem run_ok {c : L3.D} : ∀ (n f : Nat), n ≤ f → n ≤ 7 → ∀ (S : Store) (cs : List Int) (d : L3.D) (B : Int) (P : L3.D → Store → Prop), payD c n d = true → CB B cs → 1000000 ≤ B → B + 2 ^ n * 1000000 ≤ 1000000000000 → RanD S (runP n cs d) P → (rec_run f [.tup (cs.map .int), d] S).Ok P := by
  intro n
  induction n with
  | zero => intro f _ _ S cs d B P h; cases h
  | succ n ih =>
    intro f hf h7 S cs d B P hd hc hB hU h
    obtain ⟨f, rfl⟩ : ∃ k, f = k + 1 := ⟨f - 1, by omega⟩
    have p1 : (1 : Int) ≤ 2 ^ n := Int.le_of_lt_add_one (by have := Int.pow_pos (n := 2) (m := n) (by decide); omega)
    have e2 : (2 : Int) ^ (n + 1) = 2 * 2 ^ n := by rw [Int.pow_succ, Int.mul_comm]
    rw [e2] at hU
    have h4 := hc.1
    rcases pay_cases hd with ⟨a, v, rfl, a0, a1, v0, v1⟩ | ⟨a, v, rfl, a0, a1, v0, v1⟩ | ⟨a, b, rfl, a0, a1, b0, b1⟩ | ⟨q, e, rfl, q0, q1, he, _⟩ | ⟨a, rfl, a0, a1⟩ | ⟨e, f', rfl, he, hf'⟩ | ⟨a, e, f', rfl, a0, a1, he, hf'⟩
    · simp [rec_run]
      refine stored_ok h4 a0 a1 ?_
      have := h (S ++ [.lst [], .lst []]) S.length (S.length + 1) (Nat.le_refl _) (by omega) (More.app _) (lstO_off (i := 0) rfl) (lstO_off (i := 1) rfl)
      simpa [runP, intG] using this
    · simp [rec_run, at_cell h4 a0 a1]
      refine stored_ok h4 a0 a1 ?_
      have := h (S ++ [.lst [], .lst []]) S.length (S.length + 1) (Nat.le_refl _) (by omega) (More.app _) (lstO_off (i := 0) rfl) (lstO_off (i := 1) rfl)
      simpa [runP, intG] using this
    · simp [rec_run, at_cell h4 b0 b1]
      refine stored_ok h4 a0 a1 ?_
      have := h (S ++ [.lst [], .lst []]) S.length (S.length + 1) (Nat.le_refl _) (by omega) (More.app _) (lstO_off (i := 0) rfl) (lstO_off (i := 1) rfl)
      simpa [runP, intG] using this
    · simp [rec_run, m_run_c1]
      have := h (S ++ [.lst [.tup [.int q, e]], .lst []]) S.length (S.length + 1) (Nat.le_refl _) (by omega) (More.app _) (lstO_off (i := 0) (by simp [runP])) (lstO_off (i := 1) (by simp [runP]))
      simpa [runP, intG] using this
    · have hg := hc.get (i := cellN (.int a)) (by simp [cellN, intG]; omega)
      simp [rec_run, m_run_c1, at_cell h4 a0 a1]
      refine ⟨log_cell (by rw [List.getD_eq_getElem?_getD] at hg; omega) (by rw [List.getD_eq_getElem?_getD] at hg; omega), ?_⟩
      have := h (S ++ [.lst [], .lst [.str (Str.ofString (cs.getD (cellN (.int a)) 0).repr)]]) S.length (S.length + 1) (Nat.le_refl _) (by omega) (More.app _) (lstO_off (i := 0) (by simp [runP])) (lstO_off (i := 1) (by simp [runP]))
      simpa [runP, intG] using this
    · have g1 := run_fit n cs e B he hc hB (by omega)
      have g2 := run_fit n (runP n cs e).1 f' (B + 2 ^ n * 1000000) hf' g1.1 (by omega) (by omega)
      simp [rec_run, m_run_c1, m_run_c2]
      refine ih f (by omega) (by omega) S cs e B _ he hc hB (by omega) ?_
      intro S1 a1 b1 _ _ m1 ha1 hb1
      simp
      refine ih f (by omega) (by omega) S1 _ f' _ _ hf' g1.1 (by omega) (by omega) ?_
      intro S2 a2 b2 _ _ m2 ha2 hb2
      simp
      have pw : (2 : Nat) ^ n ≤ 2 ^ 7 := Nat.pow_le_pow_right (by decide) (by omega)
      have l1 := g1.2.2.2.1
      have l2 := g2.2.2.2.1
      have l3 := g1.2.2.2.2
      have l4 := g2.2.2.2.2
      refine (addD_ref (m2.lst ha1) ha2).mpr ⟨by omega, ?_⟩
      refine (addD_ref (lstO_old (m2.lst hb1)) (lstO_old hb2)).mpr ⟨by rw [List.length_map, List.length_map]; omega, ?_⟩
      have := h (S2 ++ [.lst ((runP n cs e).2.1 ++ (runP n (runP n cs e).1 f').2.1)] ++ [.lst ((runP n cs e).2.2.map .str ++ (runP n (runP n cs e).1 f').2.2.map .str)]) S2.length (S2.length + 1) (by have := m1.len; have := m2.len; omega) (by omega) (((m1.trans m2).trans (More.new _)).trans (More.new _)) (by simp [runP, lstO]) (by simp [runP, lstO])
      simpa [runP] using this
    · simp [rec_run, m_run_c1, at_cell h4 a0 a1]
      have er : runP (n + 1) cs (.tup [.str "if", .int a, e, f']) = runP n cs (if cs.getD (cellN (.int a)) 0 = 0 then f' else e) := by simp [runP]
      rw [er] at h
      by_cases z : cs.getD (cellN (.int a)) 0 = 0
      · rw [if_pos z] at h
        refine .inl ⟨by simpa using z, ?_⟩
        exact ih f (by omega) (by omega) S cs f' B P hf' hc hB (by omega) h
      · rw [if_neg z] at h
        refine .inr ⟨by simpa using z, ?_⟩
        exact ih f (by omega) (by omega) S cs e B P he hc hB (by omega) h
theorem near_dec {i : Int} (h0 : -1000000000000 ≤ i) (h1 : i ≤ 1000000000000) : near (Str.ofString i.repr) ∧ (Str.ofString i.repr).length ≤ 1000 := by
  have e : (Str.ofString i.repr).cps.toList = decS i := dec_cps i
  have key : ∀ x, 48 ≤ x ∧ x ≤ 57 → signOk x = true := fun x h => by simp [signOk]; omega
  refine ⟨fun c m => .inl ?_, ?_⟩
  · rw [e] at m
    unfold decS at m
    split at m
    · rcases List.mem_cons.mp m with rfl | m
      · decide
      · exact key c (digs_all _ c m)
    · exact key c (digs_all _ c m)
  · rw [len_cps, e]
    have := decS_len (i := i) (k := 12) (by omega)
    omega
theorem cells_gd {cs : List Int} {B : Int} (h : CB B cs) : Gd 30 S 7 (.tup (cs.map .int)) := Gd.tup (by rw [List.length_map, h.1]; decide) fun e m => by
  obtain ⟨i, _, rfl⟩ := List.mem_map.mp m
  exact Gd.int
/-! events, pasts, faults (k57) -/
inductive Ev where
  | sub (k p n : Int) (d : L3.D)
  | tak (k p v s n : Int) (d : L3.D)
  | und (k p c : Int)
  | shw (k p n : Int) (x : Str)
  | crs (k p : Int)
  | sta (k p v : Int)
def Ev.d : Ev → L3.D
  | .sub k p n d => .tup [.str "submit", .int k, .int p, .int n, d]
  | .tak k p v s n d => .tup [.str "take", .int k, .int p, .int v, .int s, .int n, d]
  | .und k p c => .tup [.str "undo", .int k, .int p, .int c]
  | .shw k p n x => .tup [.str "show", .int k, .int p, .int n, .str x]
  | .crs k p => .tup [.str "crash", .int k, .int p]
  | .sta k p v => .tup [.str "start", .int k, .int p, .int v]
def Ev.p : Ev → Int
  | .sub _ p _ _ | .tak _ p _ _ _ _ | .und _ p _ | .shw _ p _ _ | .crs _ p | .sta _ p _ => p
def pay4 (d : L3.D) : Prop := payD (.int 3) 4 d = true
def EvOk (e : Ev) : Prop := (0 ≤ e.p ∧ e.p < 3) ∧ match e with
  | .sub _ _ _ d => pay4 d
  | .tak _ _ _ s n d => (-1 ≤ s ∧ s < 3) ∧ (1 ≤ n ∧ n ≤ 100000) ∧ pay4 d
  | .und _ _ c => 0 ≤ c ∧ c ≤ 100000
  | .shw _ _ n x => (1 ≤ n ∧ n ≤ 100000) ∧ near x ∧ x.length ≤ 1000
  | _ => True
abbrev Row := Int × Int × L3.D
def rowD (r : Row) : L3.D := .tup [.int r.1, .int r.2.1, r.2.2]
def noteP (p : Int) (r : List Row) : Ev → List Row
  | .tak _ q _ s n d => if q = p then r ++ [(s, n, d)] else r
  | .und _ q c => if q = p then r.take c.toNat else r
  | _ => r
def pastP (es : List Ev) (p : Int) : List Row := es.foldl (noteP p) []
theorem past_snoc {es : List Ev} {e : Ev} {p : Int} : pastP (es ++ [e]) p = noteP p (pastP es p) e := by simp [pastP, List.foldl_append]
theorem past_nil {p : Int} : pastP [] p = [] := rfl
/-- rows of right payloads -/
def RowOk (r : Row) : Prop := (-1 ≤ r.1 ∧ r.1 < 3) ∧ (1 ≤ r.2.1 ∧ r.2.1 ≤ 100000) ∧ pay4 r.2.2
theorem note_tak {p q k v s n : Int} {d : L3.D} {r : List Row} : noteP p r (.tak k q v s n d) = if q = p then r ++ [(s, n, d)] else r := rfl
theorem note_und {p q k c : Int} {r : List Row} : noteP p r (.und k q c) = if q = p then r.take c.toNat else r := rfl
theorem note_ok {p : Int} {r : List Row} {e : Ev} (he : EvOk e) (h : ∀ x ∈ r, RowOk x) : (∀ x ∈ noteP p r e, RowOk x) ∧ (noteP p r e).length ≤ r.length + 1 := by
  cases e with
  | tak k q v s n d =>
    rw [note_tak]
    by_cases c : q = p
    · rw [if_pos c]
      refine ⟨fun x m => ?_, by simp⟩
      rcases List.mem_append.mp m with m | m
      · exact h x m
      · rw [List.mem_singleton.mp m]; exact he.2
    · rw [if_neg c]
      exact ⟨h, by omega⟩
  | und k q c =>
    rw [note_und]
    by_cases c : q = p
    · rw [if_pos c]
      exact ⟨fun x m => h x (List.mem_of_mem_take m), by simp; omega⟩
    · rw [if_neg c]
      exact ⟨h, by omega⟩
  | _ => exact ⟨h, by simp [noteP]⟩
theorem past_ok {p : Int} {es : List Ev} : (∀ e ∈ es, EvOk e) → (∀ x ∈ pastP es p, RowOk x) ∧ (pastP es p).length ≤ es.length := by
  refine rev_ind (Q := fun es => (∀ e ∈ es, EvOk e) → (∀ x ∈ pastP es p, RowOk x) ∧ (pastP es p).length ≤ es.length) ?_ ?_ es
  · intro _; exact ⟨fun x m => (by cases m), Nat.le_refl _⟩
  · intro es e ih h
    have g := ih fun x m => h x (by simp [m])
    have k := note_ok (p := p) (h e (by simp)) g.1
    rw [past_snoc]
    exact ⟨k.1, by have := k.2; simp; omega⟩
abbrev Made := List Int × List L3.D × List Str
def stepM (m : Made) (r : Row) : Made := ((runP 4 m.1 r.2.2).1, m.2.1 ++ (runP 4 m.1 r.2.2).2.1, m.2.2 ++ (runP 4 m.1 r.2.2).2.2)
def madeP (rs : List Row) : Made := rs.foldl stepM ([0, 0, 0, 0], [], [])
theorem made_snoc {rs : List Row} {r : Row} : madeP (rs ++ [r]) = stepM (madeP rs) r := by simp [madeP, List.foldl_append]
structure MadeOk (n : Nat) (m : Made) : Prop where
  cb : CB (1000000 + n * 16000000) m.1
  snd : ∀ e ∈ m.2.1, SendOk 4 e
  out : ∀ x ∈ m.2.2, OutOk x
  ls : m.2.1.length ≤ 16 * n
  lo : m.2.2.length ≤ 16 * n
theorem made_ok {rs : List Row} : (∀ r ∈ rs, RowOk r) → rs.length ≤ 1000 → MadeOk rs.length (madeP rs) := by
  refine rev_ind (Q := fun rs => (∀ r ∈ rs, RowOk r) → rs.length ≤ 1000 → MadeOk rs.length (madeP rs)) ?_ ?_ rs
  · exact fun _ _ => ⟨⟨rfl, fun x m => by simp [madeP] at m; subst m; constructor <;> decide⟩, fun _ m => (by cases m), fun _ m => (by cases m), Nat.le_refl _, Nat.le_refl _⟩
  · intro rs r ih h hl
    rw [List.length_append, List.length_singleton] at hl ⊢
    have g := ih (fun x m => h x (by simp [m])) (by omega)
    have k := run_fit 4 (madeP rs).1 r.2.2 _ (h r (by simp)).2.2 g.cb (by omega) (by omega)
    rw [made_snoc]
    refine ⟨k.1.mono (by omega), fun e m => ?_, fun e m => ?_, ?_, ?_⟩
    · rcases List.mem_append.mp m with m | m
      · exact g.snd e m
      · exact k.2.1 e m
    · rcases List.mem_append.mp m with m | m
      · exact g.out e m
      · exact k.2.2.1 e m
    · have := g.ls
      have := k.2.2.2.1
      show ((madeP rs).2.1 ++ _).length ≤ _
      rw [List.length_append]
      omega
    · have := g.lo
      have := k.2.2.2.2
      show ((madeP rs).2.2 ++ _).length ≤ _
      rw [List.length_append]
      omega
theorem OutOk.pb {x : Str} (h : OutOk x) : near x ∧ x.length ≤ 1000 := by
  obtain ⟨i, rfl, i0, i1⟩ := h
  exact near_dec i0 i1
/-- the first that F tells -/
def firstD (F : Nat → Option L3.D) (n : Nat) : L3.D := ((List.range n).findSome? F).getD .non
theorem first_some {F : Nat → Option L3.D} {n i : Nat} {d : L3.D} (hi : i < n) (h : ∀ j < i, F j = none) (e : F i = some d) : firstD F n = d := by
  have : (List.range n).findSome? F = some d := by
    rw [show n = i + (1 + (n - i - 1)) by omega, List.range_add, List.findSome?_append]
    have e1 : (List.range i).findSome? F = none := List.findSome?_eq_none_iff.mpr fun j m => h j (List.mem_range.mp m)
    rw [e1, List.range_add, List.map_append, List.findSome?_append]
    simp [e]
  unfold firstD
  rw [this]
  rfl
theorem first_none {F : Nat → Option L3.D} {n : Nat} (h : ∀ j < n, F j = none) : firstD F n = .non := by
  unfold firstD
  rw [List.findSome?_eq_none_iff.mpr fun j m => h j (List.mem_range.mp m)]
  rfl
theorem for_first {nx bk ct : DE → Store → Prop} {rt : L3.D → Store → Prop} {src : List (Nat × O)} {g : MG} {body : MS} {items : List L3.D} {ρ : DE} {Y : YT} {RR : Store → Prop} (F : Nat → Option L3.D) (I : Nat → DE → Store → Prop) (h0 : I 0 ρ S) (hs : ∀ i ρ S, i ≤ items.length → I i ρ S → srcOk src S)
    (step : ∀ i d ρ S, items[i]? = some d → I i ρ S → (g d ρ S).Ok fun ρ1 S1 => (body ρ1 S1).OkX Y (fun ρ S => F i = none ∧ I (i + 1) ρ S) (fun v S => F i = some v ∧ RR S) (fun _ _ => False) (fun ρ S => F i = none ∧ I (i + 1) ρ S))
    (done : ∀ ρ S, (∀ j < items.length, F j = none) → I items.length ρ S → nx ρ S) (ret : ∀ i v S, i < items.length → (∀ j < i, F j = none) → F i = some v → RR S → rt v S) : (forL src g body items ρ S).OkX Y nx rt bk ct := by
  refine for_inv (fun i ρ S => (∀ j < i, F j = none) ∧ I i ρ S) ⟨fun j hj => absurd hj (Nat.not_lt_zero j), h0⟩ (fun i ρ S hi h => hs i ρ S hi h.2) ?_ (fun ρ S h => done ρ S h.1 h.2)
  rintro i d ρ S hi ⟨hF, h⟩
  have il := (List.getElem?_eq_some_iff.mp hi).1
  have key : ∀ ρ S, F i = none ∧ I (i + 1) ρ S → (∀ j < i + 1, F j = none) ∧ I (i + 1) ρ S := fun ρ S h => ⟨fun j hj => by
    by_cases q : j = i
    · rw [q]; exact h.1
    · exact hF j (by omega), h.2⟩
  refine R.Ok.imp (step i d ρ S hi h) fun ρ1 S1 h1 => SR.Ok.imp h1 key (fun v S h => ret i v S il hF h.1 h.2) (fun _ _ h => h.elim) key
end Fg
set_option Elab.async false
set_option linter.all false
set_option maxRecDepth 100000
set_option maxHeartbeats 1000000
namespace Fg
open PySem PySem.Spec PyProof.Rows L2 L3
variable {S : Store} {P : L3.D → Store → Prop}
/-! the object Pasts -/
theorem intKeys_put {kvs : List (Key × L3.D)} {ks : List Int} {p : Int} {v : L3.D} (h : intKeys kvs = some ks) : intKeys (putD kvs (.inl p) v) = some (if p ∈ ks then ks else ks ++ [p]) := by
  have hm : ∀ {kvs : List (Key × L3.D)} {ks : List Int}, intKeys kvs = some ks → (kvs.any fun kv => decide (kv.1 = .inl p)) = decide (p ∈ ks) := by
    intro kvs
    induction kvs with
    | nil => intro ks h; cases h; simp
    | cons q r ih =>
      intro ks h
      obtain ⟨k, d⟩ := q
      cases k with
      | inr x => cases h
      | inl i =>
        unfold intKeys at h
        cases e : intKeys r with
        | none => rw [e] at h; cases h
        | some l =>
          rw [e] at h
          cases h
          rw [List.any_cons, ih e]
          by_cases c : i = p
          · simp [c]
          · have c' : ¬ p = i := fun z => c z.symm
            simp [c, c']
  have h1 : ∀ {kvs : List (Key × L3.D)} {ks : List Int}, intKeys kvs = some ks → intKeys (kvs.map fun kv => if kv.1 = .inl p then (kv.1, v) else kv) = some ks := by
    intro kvs
    induction kvs with
    | nil => intro ks h; exact h
    | cons q r ih =>
      intro ks h
      obtain ⟨k, d⟩ := q
      cases k with
      | inr x => cases h
      | inl i =>
        unfold intKeys at h
        cases e : intKeys r with
        | none => rw [e] at h; cases h
        | some l =>
          rw [e] at h
          cases h
          rw [List.map_cons]
          by_cases c : (Sum.inl i : Key) = .inl p
          · rw [if_pos c]; unfold intKeys; rw [ih e]; rfl
          · rw [if_neg c]; unfold intKeys; rw [ih e]; rfl
  have h2 : ∀ {kvs : List (Key × L3.D)} {ks : List Int}, intKeys kvs = some ks → intKeys (kvs ++ [((.inl p : Key), v)]) = some (ks ++ [p]) := by
    intro kvs
    induction kvs with
    | nil => intro ks h; cases h; rfl
    | cons q r ih =>
      intro ks h
      obtain ⟨k, d⟩ := q
      cases k with
      | inr x => cases h
      | inl i =>
        unfold intKeys at h
        cases e : intKeys r with
        | none => rw [e] at h; cases h
        | some l =>
          rw [e] at h
          cases h
          rw [List.cons_append]
          unfold intKeys
          rw [ih e]
          rfl
  unfold putD
  rw [hm h]
  by_cases c : p ∈ ks
  · rw [if_pos (decide_eq_true c), if_pos c]; exact h1 h
  · rw [if_neg (by simpa using c), if_neg c]; exact h2 h
theorem valD_put {κ : Type} [DecidableEq κ] {kvs : List (κ × L3.D)} {k j : κ} {v : L3.D} : valD (putD kvs k v) j = if j = k then some v else valD kvs j := by
  have h1 : ∀ kvs : List (κ × L3.D), (kvs.any fun kv => decide (kv.1 = k)) = true → valD (kvs.map fun kv => if kv.1 = k then (kv.1, v) else kv) j = if j = k then some v else valD kvs j := by
    intro kvs
    induction kvs with
    | nil => intro h; simp at h
    | cons q r ih =>
      intro h
      obtain ⟨a, d⟩ := q
      unfold valD at ih ⊢
      rw [List.map_cons, List.find?_cons, List.find?_cons]
      by_cases c : a = k
      · subst c
        by_cases e : j = a
        · subst e; simp
        · have e' : ¬ a = j := fun z => e z.symm
          simp only [if_true, e', decide_false, if_neg e]
          by_cases g : (r.any fun kv => decide (kv.1 = a)) = true
          · have := ih g; rw [if_neg e] at this; exact this
          · have hr : r.map (fun kv : κ × L3.D => if kv.1 = a then (kv.1, v) else kv) = r := by
              conv => rhs; rw [← List.map_id r]
              refine List.map_congr_left fun kv m => ?_
              rw [if_neg]; rfl
              intro z
              exact g (List.any_eq_true.mpr ⟨kv, m, by simpa using z⟩)
            rw [hr]
      · have g : (r.any fun kv => decide (kv.1 = k)) = true := by
          rw [List.any_cons] at h
          simpa [c] using h
        simp only [if_neg c]
        by_cases e : a = j
        · subst e; simp [c]
        · simp only [e, decide_false]
          exact ih g
  have h2 : ∀ kvs : List (κ × L3.D), (kvs.any fun kv => decide (kv.1 = k)) ≠ true → valD (kvs ++ [(k, v)]) j = if j = k then some v else valD kvs j := by
    intro kvs
    induction kvs with
    | nil =>
      intro _
      unfold valD
      by_cases e : j = k
      · simp [e]
      · have e' : ¬ k = j := fun z => e z.symm
        simp [e, e']
    | cons q r ih =>
      intro h
      obtain ⟨a, d⟩ := q
      unfold valD at ih ⊢
      rw [List.any_cons] at h
      have ha : ¬ a = k := fun z => h (by simp [z])
      have hr : (r.any fun kv => decide (kv.1 = k)) ≠ true := fun z => h (by rw [z]; simp)
      rw [List.cons_append, List.find?_cons, List.find?_cons]
      by_cases e : a = j
      · subst e; simp [ha]
      · simp only [e, decide_false]
        exact ih hr
  unfold putD
  split
  · rename_i c; exact h1 kvs c
  · rename_i c; exact h2 kvs c
theorem valD_keys {kvs : List (Key × L3.D)} {ks : List Int} (h : intKeys kvs = some ks) {p : Int} : p ∉ ks ↔ valD kvs (.inl p) = none := by
  induction kvs generalizing ks with
  | nil => cases h; simp [valD]
  | cons q r ih =>
    obtain ⟨k, d⟩ := q
    cases k with
    | inr x => cases h
    | inl i =>
      unfold intKeys at h
      cases e : intKeys r with
      | none => rw [e] at h; cases h
      | some l =>
        rw [e] at h
        cases h
        have := ih e
        unfold valD at this ⊢
        rw [List.find?_cons]
        by_cases c : i = p
        · subst c; simp
        · have c' : ¬ p = i := fun z => c z.symm
          have c2 : ¬ (Sum.inl i : Key) = .inl p := fun z => c (Sum.inl.inj z)
          simp only [c2, decide_false, List.mem_cons, c', false_or]
          exact this
theorem keys_len {kvs : List (Key × L3.D)} {ks : List Int} (h : intKeys kvs = some ks) : kvs.length = ks.length := by
  induction kvs generalizing ks with
  | nil => cases h; rfl
  | cons q r ih =>
    obtain ⟨k, d⟩ := q
    cases k with
    | inr x => cases h
    | inl i =>
      unfold intKeys at h
      cases e : intKeys r with
      | none => rw [e] at h; cases h
      | some l =>
        rw [e] at h
        cases h
        simp [ih e]
def rowsF (m : Nat) : List (Str × L3.D) := [("_rows", .ref m)]
@[simp] theorem look_rows {m : Nat} : List.lookup (Str.ofString "_rows") (rowsF m) = some (.ref m) := by simp [rowsF, List.lookup]
@[simp] theorem look_inputs {m : Nat} : List.lookup (Str.ofString "inputs") (rowsF m) = none := by simp [rowsF, List.lookup]
@[simp] theorem look_made {m : Nat} : List.lookup (Str.ofString "made") (rowsF m) = none := by simp [rowsF, List.lookup]
@[simp] theorem look_note {m : Nat} : List.lookup (Str.ofString "note") (rowsF m) = none := by simp [rowsF, List.lookup]
@[simp] theorem look_processes {m : Nat} : List.lookup (Str.ofString "processes") (rowsF m) = none := by simp [rowsF, List.lookup]
/-- the pasts of the events es, at n, its dict at m -/
structure PastsAt (S : Store) (n m : Nat) (es : List Ev) : Prop where
  ins : S[n]? = some (.ins "Pasts" (rowsF m))
  ne : n ≠ m
  dic : ∃ kvs ks, S[m]? = some (.dic kvs) ∧ intKeys kvs = some ks ∧ ks.Nodup ∧ (∀ k ∈ ks, 0 ≤ k ∧ k < 3) ∧ ks.length ≤ es.length ∧
    ∀ p, (∃ r, valD kvs (.inl p) = some (.ref r) ∧ lstO S r = some ((pastP es p).map rowD)) ∨ (valD kvs (.inl p) = none ∧ pastP es p = [])
section
variable {n m : Nat} {es : List Ev} {S' : Store}
theorem PastsAt.insO (h : PastsAt S n m es) : insO S "Pasts" (.ref n) = some (rowsF m) := insO_at h.ins
theorem PastsAt.more (h : PastsAt S n m es) (mo : More S S') : PastsAt S' n m es := by
  obtain ⟨kvs, ks, e1, e2, e3, e4, e6, e5⟩ := h.dic
  exact ⟨mo _ _ h.ins, h.ne, kvs, ks, mo _ _ e1, e2, e3, e4, e6, fun p => (e5 p).imp (fun ⟨r, a, b⟩ => ⟨r, a, mo.lst b⟩) id⟩
/-- the rows of a process, given in a store that holds the pasts: an old list or a new empty one -/
theorem inputsj_ok {S0 : Store} {p : Int} (h : PastsAt S0 n m es) (mo : More S0 S) (hq : ∀ r S', More S S' → S'.length ≤ S.length + 1 → (r < S0.length ∨ r = S.length) → lstO S' r = some ((pastP es p).map rowD) → P (.ref r) S') : (m_Pasts_inputs [.ref n, .int p] S).Ok P := by
  have h1 := h.more mo
  obtain ⟨kvs, ks, e1, e2, e3, e4, e6, e5⟩ := h.dic
  have d1 : dicD S (.ref m) = some kvs := dicO_of (mo _ _ e1)
  have mo2 : More S (S ++ [.lst []]) := More.new _
  have d2 : dicD (S ++ [.lst []]) (.ref m) = some kvs := dicO_of (mo2 _ _ (mo _ _ e1))
  simp [m_Pasts_inputs, h1.insO, d1, d2, keyO]
  rcases e5 p with ⟨r, a, b⟩ | ⟨a, b⟩
  · rw [a]
    exact hq r _ mo2 (by simp) (.inl (lst_lt b)) (mo2.lst (mo.lst b))
  · rw [a]
    exact hq _ _ mo2 (by simp) (.inr rfl) (by rw [b]; exact lstO_new)
theorem putPast (h : PastsAt S n m es) {S1 : Store} (hes : es.length ≤ 1000) (mo : More S S1) {e : Ev} {r : Nat} (hp : 0 ≤ e.p ∧ e.p < 3) (hr : lstO S1 r = some ((noteP e.p (pastP es e.p) e).map rowD)) (hn : ∀ q, q ≠ e.p → noteP q (pastP es q) e = pastP es q) :
    ∃ S2, putO (.ref m) (.int e.p) (.ref r) S1 = some S2 ∧ PastsAt S2 n m (es ++ [e]) ∧ Fr (fun k => k = m) S S2 := by
  obtain ⟨kvs, ks, e1, e2, e3, e4, e6, e5⟩ := h.dic
  have e1' := mo _ _ e1
  have hm : m < S1.length := lt_of_at e1'
  refine ⟨S1.set m (.dic (putD kvs (.inl e.p) (.ref r))), ?_, ⟨?_, h.ne, _, _, List.getElem?_set_self hm, intKeys_put e2, ?_, ?_, ?_, fun q => ?_⟩, (Fr.of mo).set (.inl rfl)⟩
  · unfold putO
    dsimp only
    rw [e1']
    dsimp only
    have := keys_len e2
    rw [show keyO (.int e.p) = some (.inl e.p) from rfl, Option.bind_some, if_pos (by rw [PySem.sizeLine_eq]; omega)]
  · rw [List.getElem?_set_ne (Ne.symm h.ne)]
    exact mo _ _ h.ins
  · split
    · exact e3
    · rename_i c
      rw [List.nodup_append]
      exact ⟨e3, by simp, fun a ma b mb z => c (by rw [← List.mem_singleton.mp mb, ← z]; exact ma)⟩
  · intro k mk
    split at mk
    · exact e4 k mk
    · rcases List.mem_append.mp mk with mk | mk
      · exact e4 k mk
      · rw [List.mem_singleton.mp mk]; exact hp
  · rw [List.length_append, List.length_singleton]
    split
    · omega
    · simp; omega
  · have keep : ∀ {k xs}, lstO S1 k = some xs → lstO (S1.set m (.dic (putD kvs (.inl e.p) (.ref r)))) k = some xs := fun {k xs} hk => by
      have ne : m ≠ k := fun z => by
        rw [← z] at hk
        have := lstO_at hk
        rw [e1'] at this
        cases this
      unfold lstO
      rw [List.getElem?_set_ne ne, lstO_at hk]
    rw [valD_put, past_snoc]
    by_cases c : q = e.p
    · subst c
      rw [if_pos rfl]
      exact .inl ⟨r, rfl, keep hr⟩
    · have c2 : ¬ (Sum.inl q : Key) = .inl e.p := fun z => c (Sum.inl.inj z)
      rw [if_neg c2, hn q c]
      exact (e5 q).imp (fun ⟨r, a, b⟩ => ⟨r, a, keep (mo.lst b)⟩) id
theorem past_same {e : Ev} (h : PastsAt S n m es) (hn : ∀ q, noteP q (pastP es q) e = pastP es q) : PastsAt S n m (es ++ [e]) := by
  obtain ⟨kvs, ks, e1, e2, e3, e4, e6, e5⟩ := h.dic
  exact ⟨h.ins, h.ne, kvs, ks, e1, e2, e3, e4, by simp; omega, fun p => by rw [past_snoc, hn]; exact e5 p⟩
theorem notej_ok {e : Ev} (h : PastsAt S n m es) (he : EvOk e) (hes : es.length ≤ 1000) (hl : (pastP es e.p).length ≤ 1000) (hq : ∀ S', Fr (fun k => k = m) S S' → PastsAt S' n m (es ++ [e]) → P .non S') : (m_Pasts_note [.ref n, e.d] S).Ok P := by
  cases e with
  | tak k p v s c d =>
    simp [-List.lookup_eq_none_iff, m_Pasts_note, Ev.d, h.insO]
    refine inputsj_ok h (More.refl S) fun r S1 mo ln ro hr => ?_
    have hl' : (pastP es p).length ≤ 1000 := hl
    have mo2 : More S1 (S1 ++ [.lst [.tup [.int s, .int c, d]]]) := More.new _
    have mo3 : More (S1 ++ [.lst [.tup [.int s, .int c, d]]]) (S1 ++ [.lst [.tup [.int s, .int c, d]]] ++ [.lst ((pastP es p).map rowD ++ [.tup [.int s, .int c, d]])]) := More.new _
    have mo4 := mo.trans (mo2.trans mo3)
    have ek : noteP (Ev.tak k p v s c d).p (pastP es (Ev.tak k p v s c d).p) (.tak k p v s c d) = pastP es p ++ [(s, c, d)] := by rw [note_tak]; exact if_pos rfl
    refine (addD_ref (mo2.lst hr) lstO_new).mpr ⟨by simp; omega, ?_⟩
    obtain ⟨S2, q1, q2, q3⟩ := putPast (e := .tak k p v s c d) (r := (S1 ++ [O.lst [.tup [.int s, .int c, d]]]).length) h hes mo4 he.1 (by rw [ek, List.map_append]; exact lstO_new) (fun q hq => by rw [note_tak]; exact if_neg fun z => hq z.symm)
    have i4 := (h.more mo4).insO
    simp only [List.append_assoc, List.cons_append, List.nil_append, List.length_append, List.length_singleton] at q1 i4 ⊢
    rw [i4]
    refine ⟨_, rfl, _, look_rows, ?_⟩
    refine ⟨S2, ?_, ?_⟩
    · exact q1
    · exact hq S2 q3 q2
  | und k p c =>
    simp [-List.lookup_eq_none_iff, m_Pasts_note, Ev.d, h.insO]
    refine inputsj_ok h (More.refl S) fun r S1 mo ln ro hr => ?_
    obtain ⟨c', rfl⟩ := Int.eq_ofNat_of_zero_le he.2.1
    have ek : noteP (Ev.und k p c').p (pastP es (Ev.und k p c').p) (.und k p c') = (pastP es p).take c' := by rw [note_und]; exact if_pos rfl
    have hs : slD (.ref r) none (some (c' : Int)) S1 = some (.ref S1.length, S1 ++ [.lst (((pastP es p).map rowD).take c')]) := by
      simp [slD, hr, cutD_to]
    rw [hs, okO_some]
    have mo4 : More S (S1 ++ [.lst (((pastP es p).map rowD).take c')]) := mo.trans (More.new _)
    obtain ⟨S2, q1, q2, q3⟩ := putPast (e := .und k p c') (r := S1.length) h hes mo4 he.1 (by rw [ek, List.map_take]; exact lstO_new) (fun q hq => by rw [note_und]; exact if_neg fun z => hq z.symm)
    rw [(h.more mo4).insO]
    exact ⟨_, rfl, _, look_rows, S2, q1, hq S2 q3 q2⟩
  | sub k p c d =>
    simp [m_Pasts_note, Ev.d]
    exact hq S Fr.refl (past_same h fun q => rfl)
  | shw k p c d =>
    simp [m_Pasts_note, Ev.d]
    exact hq S Fr.refl (past_same h fun q => rfl)
  | crs k p =>
    simp [m_Pasts_note, Ev.d]
    exact hq S Fr.refl (past_same h fun q => rfl)
  | sta k p v =>
    simp [m_Pasts_note, Ev.d]
    exact hq S Fr.refl (past_same h fun q => rfl)
end
end Fg
set_option Elab.async false
set_option linter.all false
set_option maxRecDepth 100000
set_option maxHeartbeats 1000000
namespace Fg
open PySem PySem.Spec PyProof.Rows L2 L3
variable {S : Store} {P : L3.D → Store → Prop}
theorem extF_ref {n a : Nat} {xs ys : List L3.D} (h1 : lstO S a = some ys) (h2 : xs.length + ys.length ≤ 16777216) : extendF n xs [.ref a] S = some (.non, S.set n (.lst (xs ++ ys))) := by
  unfold extendF
  simp only [h1, Option.bind_some, PySem.sizeLine_eq]
  rw [if_pos h2]
def MadeD (S : Store) (m : Made) (P : L3.D → Store → Prop) : Prop := ∀ S' a b, S.length ≤ a → a < b → More S S' → lstO S' a = some m.2.1 → lstO S' b = some (m.2.2.map .str) → P (.tup [.ref a, .ref b]) S'
theorem take_snoc {α : Type} {xs : List α} {i : Nat} {x : α} (h : xs[i]? = some x) : xs.take (i + 1) = xs.take i ++ [x] := by rw [List.take_succ, h]; rfl
section
variable {n m : Nat} {es : List Ev} {S' : Store}
def MInv (n a b : Nat) (p : Int) (mk : Made) (S1 : Store) (ρ : DE) (S' : Store) : Prop := (∃ x5 x6 x7 x8, ρ = [some (.ref n), some (.int p), some (.tup (mk.1.map .int)), some (.ref a), some (.ref b), x5, x6, x7, x8]) ∧ Fr (fun k => k = a ∨ k = b) S1 S' ∧ lstO S' a = some mk.2.1 ∧ lstO S' b = some (mk.2.2.map .str)
theorem madej_ok {p : Int} (h : PastsAt S n m es) (hr : ∀ r ∈ pastP es p, RowOk r) (hl : (pastP es p).length ≤ 1000) (q : MadeD S (madeP (pastP es p)) P) : (m_Pasts_made [.ref n, .int p] S).Ok P := by
  have mo0 : More S (S ++ [.lst [], .lst []]) := More.app _
  simp [-List.lookup_eq_none_iff, m_Pasts_made, (h.more mo0).insO]
  refine inputsj_ok h mo0 fun r S1 mo ln ro hrr => ?_
  refine ⟨_, itO_ref hrr, ?_⟩
  have hrn : r ≠ S.length ∧ r ≠ S.length + 1 := by
    have : (S ++ [O.lst [], O.lst []]).length = S.length + 2 := by simp
    omega
  have g1 : lstO S1 S.length = some [] := mo.lst (lstO_off (i := 0) rfl)
  have g2 : lstO S1 (S.length + 1) = some [] := mo.lst (lstO_off (i := 1) rfl)
  refine for_inv (fun i ρ S' => MInv n S.length (S.length + 1) p (madeP ((pastP es p).take i)) S1 ρ S') ⟨⟨none, none, none, none, rfl⟩, Fr.refl, g1, g2⟩ (fun i ρ S' _ hI => ?_) ?_ ?_
  · intro z hz
    rw [List.mem_singleton.mp hz]
    exact hI.2.1.old _ _ (by omega) (lstO_at hrr)
  · rintro i d ρ S' hi ⟨⟨x5, x6, x7, x8, rfl⟩, fr, l1, l2⟩
    rw [List.getElem?_map] at hi
    obtain ⟨⟨s, c, y⟩, hx, rfl⟩ := Option.map_eq_some_iff.mp hi
    have mem := List.mem_of_getElem? hx
    have hy := (hr _ mem).2.2
    have hlt := (List.getElem?_eq_some_iff.mp hx).1
    have mk := made_ok (rs := (pastP es p).take i) (fun x mx => hr x (List.mem_of_mem_take mx)) (by simp; omega)
    have hti : ((pastP es p).take i).length = i := by rw [List.length_take]; omega
    rw [hti] at mk
    simp [rowD]
    refine run_ok 4 20 (by omega) (by omega) S' _ _ _ _ hy mk.cb (by omega) (by omega) ?_
    intro S2 a b la lab m2 ha hb
    have k1 := m2.lst l1
    have k2 := m2.lst l2
    have ll := run_fit 4 (madeP ((pastP es p).take i)).1 y _ hy mk.cb (by omega) (by omega)
    have k3 := ll.2.2.2.1
    have k4 := ll.2.2.2.2
    have k5 := mk.ls
    have k6 := mk.lo
    simp [k1, k2]
    rw [extF_ref ha (by omega), okO_some]
    have l3 : lstO (S2.set S.length (.lst ((madeP ((pastP es p).take i)).2.1 ++ (runP 4 (madeP ((pastP es p).take i)).1 y).2.1))) (S.length + 1) = some ((madeP ((pastP es p).take i)).2.2.map .str) := by
      unfold lstO
      rw [List.getElem?_set_ne (by omega), lstO_at k2]
    have hb' : lstO (S2.set S.length (.lst ((madeP ((pastP es p).take i)).2.1 ++ (runP 4 (madeP ((pastP es p).take i)).1 y).2.1))) b = some ((runP 4 (madeP ((pastP es p).take i)).1 y).2.2.map .str) := by
      unfold lstO
      have := lst_lt l1
      rw [List.getElem?_set_ne (by omega), lstO_at hb]
    simp [l3]
    rw [extF_ref hb' (by simp; omega), okO_some]
    rw [take_snoc hx, made_snoc]
    refine ⟨⟨_, _, _, _, rfl⟩, ?_, ?_, ?_⟩
    · exact ((fr.more m2).set (.inl (.inl rfl))).set (.inl (.inr rfl))
    · unfold lstO
      rw [List.getElem?_set_ne (by omega), List.getElem?_set_self (lst_lt k1)]
      rfl
    · rw [lstO_set l3]
      simp [stepM]
  · rintro ρ S' ⟨⟨x5, x6, x7, x8, rfl⟩, fr, l1, l2⟩
    rw [List.length_map, List.take_length] at l1 l2
    simp
    refine q S' S.length (S.length + 1) (Nat.le_refl _) (by omega) ?_ l1 l2
    have f0 : Fr (fun k => k = S.length ∨ k = S.length + 1) S S' := ((Fr.of (mo0.trans mo)).trans fr)
    exact fun k o e => f0.old k o (by have := lt_of_at e; omega) e
theorem initj_ok (hn : S[n]? = some (.ins "Pasts" [])) (q : ∀ S' m, S.length ≤ m → Fr (fun k => k = n) S S' → PastsAt S' n m [] → P .non S') : (m_Pasts___init__ [.ref n] S).Ok P := by
  have e : insO (S ++ [.dic []]) "Pasts" (.ref n) = some [] := insO_at (by rw [List.getElem?_append_left (lt_of_at hn)]; exact hn)
  simp [m_Pasts___init__, e, putFD]
  refine q _ S.length (Nat.le_refl _) ((Fr.of (More.new _)).set (.inl rfl)) ⟨List.getElem?_set_self (by simp; have := lt_of_at hn; omega), by have := lt_of_at hn; omega, [], [], ?_, rfl, List.nodup_nil, fun k mk => (by cases mk), Nat.le_refl _, fun p => .inr ⟨rfl, rfl⟩⟩
  rw [List.getElem?_set_ne (by have := lt_of_at hn; omega)]
  simp
/-- a new object -/
theorem newj_ok {ρ : DE} (q : ∀ S' n m, S.length ≤ n → S.length ≤ m → More S S' → PastsAt S' n m [] → P (.ref n) S') : (makeE "Pasts" 1 m_Pasts___init__ nilA ρ S).Ok P := by
  simp
  refine initj_ok (List.getElem?_concat_length) fun S' m lm fr hp => ⟨rfl, q S' S.length m (Nat.le_refl _) (by simp at lm; omega) ?_ hp⟩
  exact fun k o e => fr.old k o (by have := lt_of_at e; omega) (More.new _ _ _ e)
/-- the processes that took something, ascending -/
def procsP (ks : List Int) : List Int := ks.mergeSort fun a b => decide (a ≤ b)
theorem processesj_ok (h : PastsAt S n m es) (hl : es.length ≤ 60) (q : ∀ (ks : List Int) S', (∀ k ∈ ks, 0 ≤ k ∧ k < 3) → ks.Pairwise (· < ·) → (∀ p, p ∉ ks → pastP es p = []) → More S S' → lstO S' S.length = some (ks.map .int) → P (.ref S.length) S') : (m_Pasts_processes [.ref n] S).Ok P := by
  obtain ⟨kvs, ks, e1, e2, e3, e4, e6, e5⟩ := h.dic
  simp [-List.lookup_eq_none_iff, m_Pasts_processes, h.insO]
  refine sortD_ok e1 e2 (by omega) ?_
  have pm := List.mergeSort_perm ks fun a b => decide (a ≤ b)
  refine q (ks.mergeSort fun a b => decide (a ≤ b)) _ (fun k mk => e4 k (pm.mem_iff.mp mk)) ?_ (fun p hp => ?_) (More.new _) lstO_new
  · have h1 := merge_sorted ks
    have h2 : (ks.mergeSort fun a b => decide (a ≤ b)).Nodup := pm.nodup_iff.mpr e3
    exact (List.pairwise_and_iff.mpr ⟨h1, h2⟩).imp fun ⟨a, b⟩ => by omega
  · have hp' : p ∉ ks := fun mk => hp (pm.mem_iff.mpr mk)
    rcases e5 p with ⟨r, a, _⟩ | ⟨_, b⟩
    · rw [(valD_keys e2).mp hp'] at a; cases a
    · exact b
end
end Fg
set_option Elab.async false
set_option linter.all false
set_option maxRecDepth 100000
set_option maxHeartbeats 1000000
namespace Fg
open PySem PySem.Spec PyProof.Rows L2 L3
variable {S : Store} {P : L3.D → Store → Prop}
def countS (rs : List Row) (s : Int) : Nat := (rs.filterMap fun r => if r.1 = s then some (rowD r) else none).length
def subsP (es : List Ev) : List L3.D := es.filterMap fun e => match e with
  | .sub _ p n d => some (.tup [.int p, .int n, d])
  | _ => none
open Classical in
noncomputable def takeF (es : List Ev) : Ev → Option L3.D
  | .tak _ p _ s n d => if n ≠ (countS (pastP es p) s : Int) + 1 then some (.tup [.str "number", .int p, .int s, .int n]) else if s = -1 ∧ L3.D.tup [.int p, .int n, d] ∉ subsP es then some (.tup [.str "desk", .int p, .int n]) else none
  | _ => none
open Classical in
theorem take_tak {es : List Ev} {k p v s n : Int} {d : L3.D} : takeF es (.tak k p v s n d) = if n ≠ (countS (pastP es p) s : Int) + 1 then some (.tup [.str "number", .int p, .int s, .int n]) else if s = -1 ∧ L3.D.tup [.int p, .int n, d] ∉ subsP es then some (.tup [.str "desk", .int p, .int n]) else none := rfl
/-- the faults along the events -/
def alongD (F : List Ev → Ev → Option L3.D) (es : List Ev) : L3.D := firstD (fun i => (es[i]?).bind (F (es.take i))) es.length
theorem along_at {F : List Ev → Ev → Option L3.D} {es : List Ev} {i : Nat} {e : Ev} (h : es[i]? = some e) : (es[i]?).bind (F (es.take i)) = F (es.take i) e := by rw [h]; rfl
section
variable {n m : Nat} {es : List Ev} {S' : Store}
theorem PastsAt.put (h : PastsAt S n m es) {t : Nat} {o : O} (h1 : t ≠ n) (h2 : t ≠ m) (h3 : lstO S t = none) : PastsAt (S.set t o) n m es := by
  obtain ⟨kvs, ks, e1, e2, e3, e4, e6, e5⟩ := h.dic
  refine ⟨by rw [List.getElem?_set_ne h1]; exact h.ins, h.ne, kvs, ks, by rw [List.getElem?_set_ne h2]; exact e1, e2, e3, e4, e6, fun p => (e5 p).imp (fun ⟨r, a, b⟩ => ⟨r, a, ?_⟩) id⟩
  have ne : t ≠ r := fun z => by rw [z, b] at h3; cases h3
  unfold lstO
  rw [List.getElem?_set_ne ne, lstO_at b]
theorem sub_pl {es : List Ev} (ho : ∀ e ∈ es, EvOk e) : ∀ d ∈ subsP es, Pl 8 d := fun d md => by
  unfold subsP at md
  obtain ⟨e, me, h⟩ := List.mem_filterMap.mp md
  cases e with
  | sub k p n d' =>
    cases h
    refine ⟨by simp, fun x mx => ?_⟩
    simp at mx
    rcases mx with rfl | rfl | rfl
    · exact Pl.int
    · exact Pl.int
    · exact pay_pl 7 _ (pay_up (by omega) (ho _ me).2)
  | _ => cases h
theorem sub_snoc {e : Ev} : subsP (es ++ [e]) = subsP es ++ subsP [e] := by simp [subsP]
theorem ev_get {F : List Ev → Ev → Option L3.D} {i : Nat} {d : L3.D} (h : (es.map Ev.d)[i]? = some d) : ∃ e, es[i]? = some e ∧ d = e.d ∧ es.take (i + 1) = es.take i ++ [e] := by
  rw [List.getElem?_map] at h
  obtain ⟨e, he, rfl⟩ := Option.map_eq_some_iff.mp h
  exact ⟨e, he, rfl, take_snoc he⟩
def TInv (S : Store) (q n m t : Nat) (es : List Ev) (ρ : DE) (S' : Store) : Prop := (∃ x3 x4 x5 x6 x7 x8 x9 x10, ρ = [some (.ref q), some (.ref n), some (.ref t), x3, x4, x5, x6, x7, x8, x9, x10]) ∧ More S S' ∧ PastsAt S' n m es ∧ TabAt S' t (subsP es)
theorem rows_count {P : L3.D → Store → Prop} {g : MG} {ρ : DE} {mt : MT} {me : ME} {r : Nat} {rs : List Row} {s : Int} (hr : lstO S r = some (rs.map rowD)) (hl : rs.length ≤ 100000)
    (step : ∀ x S', x ∈ rs → (g (rowD x) ρ S').Ok fun ρ1 S1 => (mt ρ1 S1).Ok fun k S2 => S2 = S' ∧ k = decide (x.1 = s) ∧ (me ρ1 S2).Ok fun y S3 => y = rowD x ∧ S3 = S')
    (q : ∀ S', More S S' → lstO S' S.length = some (rs.filterMap fun r => if r.1 = s then some (rowD r) else none) → P (.ref S.length) S') : (lcL [(r, .lst (rs.map rowD))] g mt me ρ S.length (rs.map rowD) (S ++ [.lst []])).Ok P := by
  refine lc_xs (S := S) rs rowD (fun r => if r.1 = s then some (rowD r) else none) rfl rfl rfl (fun S' mo z mz => ?_) (by omega) (fun x S' mx mo => ?_) q
  · rw [List.mem_singleton.mp mz]
    exact mo _ _ (lstO_at hr)
  · refine R.Ok.imp (step x S' mx) fun ρ1 S1 h1 => R.Ok.imp h1 fun k S2 h2 => ?_
    obtain ⟨rfl, rfl, h3⟩ := h2
    by_cases c : x.1 = s
    · rw [if_pos (decide_eq_true c), if_pos c]
      refine R.Ok.imp h3 fun y S3 h4 => ?_
      obtain ⟨rfl, rfl⟩ := h4
      exact ⟨rfl, More.refl _⟩
    · rw [if_neg (by simpa using c), if_neg c]
      exact ⟨rfl, More.refl _⟩
theorem note_step {L : List Ev} {e : Ev} {S2 : Store} {t : Nat} {K : List L3.D} (p2 : PastsAt S2 n m L) (hok : EvOk e) (hL : ∀ x ∈ L, EvOk x) (hl : L.length ≤ 1000) (t2 : TabAt S2 t K) (m2 : More S S2) (lm : S.length ≤ m) (k : ∀ S3, More S S3 → PastsAt S3 n m (L ++ [e]) → TabAt S3 t K → P .non S3) : (m_Pasts_note [.ref n, e.d] S2).Ok P := by
  have po := past_ok (p := e.p) hL
  refine notej_ok p2 hok (by omega) (by omega) fun S3 fr p3 => k S3 ?_ p3 ?_
  · exact fun a o ea => fr.old a o (by have := lt_of_at ea; omega) (m2 a o ea)
  · obtain ⟨kvs, a1, a2⟩ := t2
    obtain ⟨kvs', ks, e1, _⟩ := p2.dic
    exact ⟨kvs, fr.old _ _ (fun z => by rw [z, e1] at a1; cases a1) a1, a2⟩
theorem tab_put {L : List Ev} {S2 : Store} {t : Nat} {K : List L3.D} {o : O} (p2 : PastsAt S2 n m L) (t2 : TabAt S2 t K) : PastsAt (S2.set t o) n m L := by
  obtain ⟨kvs, a1, a2⟩ := t2
  obtain ⟨kvs', ks, e1, _⟩ := p2.dic
  refine p2.put (fun z => by rw [z, p2.ins] at a1; cases a1) (fun z => by rw [z, e1] at a1; cases a1) ?_
  unfold lstO
  rw [a1]
theorem takej_ok {q : Nat} (hq : lstO S q = some (es.map Ev.d)) (ho : ∀ e ∈ es, EvOk e) (hl : es.length ≤ 50) (h : ∀ S', More S S' → P (alongD takeF es) S') : (m_take_fault [.ref q] S).Ok P := by
  unfold m_take_fault
  simp only [ok_fn, sok_seq, sok_set]
  refine newj_ok fun S1 n m ln lm mo1 hp => ?_
  have lt := lst_lt hq
  have lm1 : m < S1.length := by
    obtain ⟨kvs, ks, e1, _⟩ := hp.dic
    exact lt_of_at e1
  have ln1 : n < S1.length := lt_of_at hp.ins
  have mo2 := mo1.trans (More.new (S := S1) (.tab []))
  simp
  refine ⟨_, itO_ref (mo2.lst hq), ?_⟩
  refine for_first (RR := More S) (fun i => (es[i]?).bind (takeF (es.take i))) (fun i ρ S' => TInv S q n m S1.length (es.take i) ρ S') ⟨⟨_, _, _, _, _, _, _, _, rfl⟩, mo2, hp.more (More.new _), TabAt.of (by simp)⟩ (fun i ρ S' _ hI => ?_) ?_ ?_ ?_
  · intro z hz
    rw [List.mem_singleton.mp hz]
    exact hI.2.1 _ _ (lstO_at hq)
  · rintro i d ρ S' hi ⟨⟨x3, x4, x5, x6, x7, x8, x9, x10, rfl⟩, mo, pa, ta⟩
    obtain ⟨e, he, rfl, et⟩ := ev_get (F := takeF) hi
    rw [along_at he, et]
    have mem := List.mem_of_getElem? he
    have hok := ho e mem
    have hlt := (List.getElem?_eq_some_iff.mp he).1
    have sub : ∀ x ∈ es.take i, EvOk x := fun x mx => ho x (List.mem_of_mem_take mx)
    have lte : (es.take i).length ≤ 50 := by simp; omega
    have po := past_ok (p := e.p) sub
    cases e with
    | sub k p c d =>
      have hp8 : Pl 8 (.tup [.int p, .int c, d]) := sub_pl (es := [.sub k p c d]) (fun x mx => by rw [List.mem_singleton.mp mx]; exact hok) _ (by simp [subsP])
      have sl : (subsP (es.take i)).length ≤ 50 := Nat.le_trans (List.length_filterMap_le _ _) lte
      obtain ⟨S2, q1, q2, o, q3⟩ := tput_ok (v := .bl true) ta (by omega) hp8 (by omega)
      have q4 : PastsAt S2 n m (es.take i) := by rw [q3]; exact tab_put pa ta
      have q5 : More S S2 := fun a u ea => by rw [q3, List.getElem?_set_ne (by have := lt_of_at ea; have := lt_of_at hp.ins; have := mo1.len; omega)]; exact mo a u ea
      simp [-List.lookup_eq_none_iff, Ev.d, q1, q4.insO]
      refine note_step (e := .sub k p c d) q4 hok sub (by omega) q2 q5 lm fun S3 m3 p3 t3 => ⟨rfl, ⟨_, _, _, _, _, _, _, _, rfl⟩, m3, p3, ?_⟩
      rw [sub_snoc]
      exact t3
    | tak k p v s c d =>
      simp [-List.lookup_eq_none_iff, Ev.d, pa.insO]
      have po' : (pastP (es.take i) p).length ≤ 50 := Nat.le_trans po.2 lte
      refine inputsj_ok pa (More.refl S') fun r S2 m2 l2 _ hr => ?_
      refine ⟨_, itO_ref hr, rows_count hr (by omega) (s := s) ?_ ?_⟩
      · intro x S3 mx
        simp [rowD]
        exact (Classical.em _).symm
      · intro S3 m3 h3
        have e3 : lenF [.ref S2.length] S3 = some (.int (countS (pastP (es.take i) p) s : Int), S3) := lenF_ref h3
        have m4 : More S' S3 := m2.trans m3
        have p4 := pa.more m4
        have t4 := ta.more m4
        have fin : takeF (es.take i) (.tak k p v s c d) = none → ∀ x4 x5 x6 x7 x8 x9 x10, (m_Pasts_note [.ref n, (Ev.tak k p v s c d).d] S3).Ok fun _ S4 => takeF (es.take i) (.tak k p v s c d) = none ∧ TInv S q n m S1.length (es.take i ++ [.tak k p v s c d]) [some (.ref q), some (.ref n), some (.ref S1.length), some (Ev.tak k p v s c d).d, x4, x5, x6, x7, x8, x9, x10] S4 := fun hn x4 x5 x6 x7 x8 x9 x10 => by
          refine note_step (e := .tak k p v s c d) p4 hok sub (by omega) t4 (mo.trans m4) lm fun S4 m5 p5 t5 => ⟨hn, ⟨_, _, _, _, _, _, _, _, rfl⟩, m5, p5, ?_⟩
          rw [sub_snoc]
          simpa [subsP] using t5
        have mS := mo.trans m4
        rw [e3, okO_some]
        simp [-List.lookup_eq_none_iff, p4.insO]
        by_cases c1 : c = (countS (pastP (es.take i) p) s : Int) + 1
        · refine .inl ⟨c1, ?_⟩
          by_cases c2 : s = -1
          · refine .inr ⟨c2, ?_⟩
            have hp8 : Pl 8 (.tup [.int p, .int c, d]) := ⟨by simp, fun x mx => by
              simp at mx
              rcases mx with rfl | rfl | rfl
              · exact Pl.int
              · exact Pl.int
              · exact pay_pl 7 _ (pay_up (by omega) hok.2.2.2)⟩
            refine tnin_ok t4 (by omega) hp8 (sub_pl sub) fun b hb => ?_
            cases b with
            | false =>
              refine .inl ⟨rfl, ?_⟩
              rw [p4.insO]
              refine ⟨_, rfl, look_note, fin ?_ _ _ _ _ _ _ _⟩
              rw [take_tak]
              rw [if_neg (fun z => z c1), if_neg (fun z => z.2 (hb.mp rfl))]
            | true =>
              refine .inr ⟨rfl, ?_, mS⟩
              rw [take_tak]
              rw [if_neg (fun z => z c1), if_pos ⟨c2, fun z => by have := hb.mpr z; cases this⟩]
          · refine .inl ⟨c2, fin ?_ _ _ _ _ _ _ _⟩
            rw [take_tak]
            rw [if_neg (fun z => z c1), if_neg (fun z => c2 z.1)]
        · refine .inr ⟨c1, ?_, mS⟩
          rw [take_tak]
          rw [if_pos c1]
    | und k p c =>
      simp [-List.lookup_eq_none_iff, Ev.d, pa.insO]
      refine note_step (e := .und k p c) pa hok sub (by omega) ta mo lm fun S3 m3 p3 t3 => ⟨rfl, ⟨_, _, _, _, _, _, _, _, rfl⟩, m3, p3, ?_⟩
      rw [sub_snoc]
      simpa [subsP] using t3
    | shw k p c d =>
      simp [-List.lookup_eq_none_iff, Ev.d, pa.insO]
      refine note_step (e := .shw k p c d) pa hok sub (by omega) ta mo lm fun S3 m3 p3 t3 => ⟨rfl, ⟨_, _, _, _, _, _, _, _, rfl⟩, m3, p3, ?_⟩
      rw [sub_snoc]
      simpa [subsP] using t3
    | crs k p =>
      simp [-List.lookup_eq_none_iff, Ev.d, pa.insO]
      refine note_step (e := .crs k p) pa hok sub (by omega) ta mo lm fun S3 m3 p3 t3 => ⟨rfl, ⟨_, _, _, _, _, _, _, _, rfl⟩, m3, p3, ?_⟩
      rw [sub_snoc]
      simpa [subsP] using t3
    | sta k p c =>
      simp [-List.lookup_eq_none_iff, Ev.d, pa.insO]
      refine note_step (e := .sta k p c) pa hok sub (by omega) ta mo lm fun S3 m3 p3 t3 => ⟨rfl, ⟨_, _, _, _, _, _, _, _, rfl⟩, m3, p3, ?_⟩
      rw [sub_snoc]
      simpa [subsP] using t3
  · rintro ρ S' hF ⟨_, mo, _, _⟩
    rw [← show alongD takeF es = .non from first_none (by simpa using hF)]
    exact h S' mo
  · intro i v S' hi hF hv mo
    rw [← show alongD takeF es = v from first_some (by simpa using hi) hF hv]
    exact h S' mo
end
end Fg
set_option Elab.async false
set_option linter.all false
set_option maxRecDepth 100000
set_option maxHeartbeats 1000000
namespace Fg
open PySem PySem.Spec PyProof.Rows L2 L3
variable {S : Store} {P : L3.D → Store → Prop}
def Ev.kind : Ev → Str
  | .sub _ _ _ _ => "submit"
  | .tak _ _ _ _ _ _ => "take"
  | .und _ _ _ => "undo"
  | .shw _ _ _ _ => "show"
  | .crs _ _ => "crash"
  | .sta _ _ _ => "start"
theorem ev_ix0 {e : Ev} : ixD e.d (.int 0) S = some (.str e.kind, S) := by cases e <;> simp [Ev.d, Ev.kind]
theorem ev_ix2 {e : Ev} : ixD e.d (.int 2) S = some (.int e.p, S) := by cases e <;> simp [Ev.d, Ev.p]
def undoF (es : List Ev) : Ev → Option L3.D
  | .und _ p c => if (pastP es p).length ≤ c.toNat then some (.tup [.str "undo", .int p, .int c]) else none
  | _ => none
def shownP (es : List Ev) (p : Int) : List Str := es.filterMap fun e => match e with
  | .shw _ q _ x => if q = p then some x else none
  | _ => none
def textsP (es : List Ev) (p : Int) : List Str := (madeP (pastP es p)).2.2
def showF (es : List Ev) (e : Ev) : Option L3.D := match e with
  | .und _ p c => if (textsP (es ++ [e]) p).take (shownP es p).length ≠ shownP es p then some (.tup [.str "hidden", .int p, .int c]) else none
  | .shw _ p n x => if n ≠ (shownP es p).length + 1 then some (.tup [.str "order", .int p, .int n]) else if (textsP (es ++ [e]) p)[(n - 1).toNat]? ≠ some x then some (.tup [.str "show", .int p, .int n]) else none
  | _ => none
section
variable {n m : Nat} {es : List Ev} {S' : Store}
def UInv (S : Store) (q n m : Nat) (es : List Ev) (ρ : DE) (S' : Store) : Prop := (∃ x2, ρ = [some (.ref q), some (.ref n), x2]) ∧ More S S' ∧ PastsAt S' n m es
theorem note_more {L : List Ev} {e : Ev} {S2 : Store} (p2 : PastsAt S2 n m L) (hok : EvOk e) (hL : ∀ x ∈ L, EvOk x) (hl : L.length ≤ 1000) (m2 : More S S2) (lm : S.length ≤ m) (k : ∀ S3, More S S3 → Fr (fun k => k = m) S2 S3 → PastsAt S3 n m (L ++ [e]) → P .non S3) : (m_Pasts_note [.ref n, e.d] S2).Ok P := by
  have po := past_ok (p := e.p) hL
  exact notej_ok p2 hok (by omega) (by omega) fun S3 fr p3 => k S3 (fun a o ea => fr.old a o (by have := lt_of_at ea; omega) (m2 a o ea)) fr p3
theorem undoj_ok {q : Nat} (hq : lstO S q = some (es.map Ev.d)) (ho : ∀ e ∈ es, EvOk e) (hl : es.length ≤ 50) (h : ∀ S', More S S' → P (alongD undoF es) S') : (m_undo_fault [.ref q] S).Ok P := by
  unfold m_undo_fault
  simp only [ok_fn, sok_seq, sok_set]
  refine newj_ok fun S1 n m ln lm mo1 hp => ?_
  simp
  refine ⟨_, itO_ref (mo1.lst hq), ?_⟩
  refine for_first (RR := More S) (fun i => (es[i]?).bind (undoF (es.take i))) (fun i ρ S' => UInv S q n m (es.take i) ρ S') ⟨⟨_, rfl⟩, mo1, hp⟩ (fun i ρ S' _ hI => ?_) ?_ ?_ ?_
  · intro z hz
    rw [List.mem_singleton.mp hz]
    exact hI.2.1 _ _ (lstO_at hq)
  · rintro i d ρ S' hi ⟨⟨x2, rfl⟩, mo, pa⟩
    obtain ⟨e, he, rfl, et⟩ := ev_get (F := undoF) hi
    rw [along_at he, et]
    have hok := ho e (List.mem_of_getElem? he)
    have sub : ∀ x ∈ es.take i, EvOk x := fun x mx => ho x (List.mem_of_mem_take mx)
    have lte : (es.take i).length ≤ 50 := by simp; omega
    have hn : ∀ {S2}, More S' S2 → undoF (es.take i) e = none → ∀ x2, (m_Pasts_note [.ref n, e.d] S2).Ok fun _ S3 => undoF (es.take i) e = none ∧ UInv S q n m (es.take i ++ [e]) [some (.ref q), some (.ref n), x2] S3 := fun {S2} m2 k x2 =>
      note_more (pa.more m2) hok sub (by omega) (mo.trans m2) lm fun S3 m3 _ p3 => ⟨k, ⟨_, rfl⟩, m3, p3⟩
    simp [-List.lookup_eq_none_iff, ev_ix0]
    by_cases ck : e.kind = "undo"
    · refine .inr ⟨ck, ?_⟩
      cases e with
      | und k p c =>
        have po := past_ok (p := p) sub
        simp [-List.lookup_eq_none_iff, Ev.d, pa.insO]
        refine inputsj_ok pa (More.refl S') fun r S2 m2 l2 _ hr => ?_
        rw [lenF_ref hr, okO_some]
        have p2 := pa.more m2
        simp [-List.lookup_eq_none_iff, p2.insO]
        have hc := hok.2.1
        by_cases g : (pastP (es.take i) p).length ≤ c.toNat
        · refine .inr ⟨by omega, ?_, mo.trans m2⟩
          simp [undoF, g]
        · refine .inl ⟨by omega, hn m2 ?_ _⟩
          simp [undoF]; omega
      | _ => simp [Ev.kind] at ck
    · refine .inl ⟨ck, ?_⟩
      simp [-List.lookup_eq_none_iff, pa.insO]
      refine hn (More.refl S') ?_ _
      cases e <;> first | rfl | (exact absurd rfl ck)
  · rintro ρ S' hF ⟨_, mo, _⟩
    rw [← show alongD undoF es = .non from first_none (by simpa using hF)]
    exact h S' mo
  · intro i v S' hi hF hv mo
    rw [← show alongD undoF es = v from first_some (by simpa using hi) hF hv]
    exact h S' mo
/-- the dict of what was shown -/
def ShownAt (S : Store) (c : Nat) (L : List Ev) : Prop := ∃ kvs, S[c]? = some (.dic kvs) ∧ kvs.length ≤ L.length ∧ ∀ p, (∃ r, valD kvs (.inl p) = some (.ref r) ∧ lstO S r = some ((shownP L p).map .str)) ∨ (valD kvs (.inl p) = none ∧ shownP L p = [])
theorem shown_snoc {L : List Ev} {e : Ev} {p : Int} : shownP (L ++ [e]) p = shownP L p ++ shownP [e] p := by simp [shownP]
theorem ShownAt.fr {c : Nat} {L : List Ev} {S S' : Store} {A : Nat → Prop} (h : ShownAt S c L) (f : Fr A S S') (hc : ¬ A c) (hA : ∀ k, A k → lstO S k = none) : ShownAt S' c L := by
  obtain ⟨kvs, e1, e2, e3⟩ := h
  refine ⟨kvs, f.old _ _ hc e1, e2, fun p => (e3 p).imp (fun ⟨r, a, b⟩ => ⟨r, a, f.lst (fun z => ?_) b⟩) id⟩
  rw [hA r z] at b
  cases b
theorem ShownAt.same {c : Nat} {L : List Ev} {e : Ev} (h : ShownAt S c L) (he : ∀ p, shownP [e] p = []) : ShownAt S c (L ++ [e]) := by
  obtain ⟨kvs, e1, e2, e3⟩ := h
  exact ⟨kvs, e1, by simp; omega, fun p => by rw [shown_snoc, he, List.append_nil]; exact e3 p⟩
def SInv (S : Store) (q n m c : Nat) (es : List Ev) (ρ : DE) (S' : Store) : Prop := (∃ x3 x4 x5, ρ = [some (.ref q), some (.ref n), some (.ref c), x3, x4, x5]) ∧ More S S' ∧ PastsAt S' n m es ∧ ShownAt S' c es
theorem dic_lst {m : Nat} {kvs : List (Key × L3.D)} (h : S[m]? = some (.dic kvs)) : lstO S m = none := by unfold lstO; rw [h]
theorem strs_inj : ∀ {a b : List Str}, a.map L3.D.str = b.map .str ↔ a = b
  | [], [] => by simp
  | [], _ :: _ => by simp
  | _ :: _, [] => by simp
  | a :: as, b :: bs => by simp [strs_inj (a := as) (b := bs)]
theorem shows_ok {L : List Ev} {p : Int} (h : ∀ e ∈ L, EvOk e) : (∀ x ∈ shownP L p, near x ∧ x.length ≤ 1000) ∧ (shownP L p).length ≤ L.length := by
  refine ⟨fun x m => ?_, List.length_filterMap_le _ _⟩
  obtain ⟨e, me, q⟩ := List.mem_filterMap.mp m
  have := h e me
  cases e with
  | shw k p' n y =>
    simp at q
    obtain ⟨_, rfl⟩ := q
    exact this.2.2
  | _ => cases q
theorem showj_ok {q : Nat} (hq : lstO S q = some (es.map Ev.d)) (ho : ∀ e ∈ es, EvOk e) (hl : es.length ≤ 50) (h : ∀ S', More S S' → P (alongD showF es) S') : (m_show_fault [.ref q] S).Ok P := by
  unfold m_show_fault
  simp only [ok_fn, sok_seq, sok_set]
  refine newj_ok fun S1 n m ln lm mo1 hp => ?_
  have mo2 := mo1.trans (More.new (S := S1) (.dic []))
  have lm1 : m < S1.length := by
    obtain ⟨kvs, ks, e1, _⟩ := hp.dic
    exact lt_of_at e1
  have ln1 : n < S1.length := lt_of_at hp.ins
  simp
  refine ⟨_, itO_ref (mo2.lst hq), ?_⟩
  refine for_first (RR := More S) (fun i => (es[i]?).bind (showF (es.take i))) (fun i ρ S' => SInv S q n m S1.length (es.take i) ρ S') ⟨⟨_, _, _, rfl⟩, mo2, hp.more (More.new _), [], by simp, Nat.le_refl _, fun p => .inr ⟨rfl, rfl⟩⟩ (fun i ρ S' _ hI => ?_) ?_ ?_ ?_
  · intro z hz
    rw [List.mem_singleton.mp hz]
    exact hI.2.1 _ _ (lstO_at hq)
  · rintro i d ρ S' hi ⟨⟨x3, x4, x5, rfl⟩, mo, pa, sh⟩
    obtain ⟨e, he, rfl, et⟩ := ev_get (F := showF) hi
    rw [along_at he, et]
    have hok := ho e (List.mem_of_getElem? he)
    have sub : ∀ x ∈ es.take i, EvOk x := fun x mx => ho x (List.mem_of_mem_take mx)
    have sub2 : ∀ x ∈ es.take i ++ [e], EvOk x := fun x mx => by
      rw [← et] at mx
      exact ho x (List.mem_of_mem_take mx)
    have lte : (es.take i).length ≤ 50 := by simp; omega
    simp [-List.lookup_eq_none_iff, pa.insO]
    refine note_more pa hok sub (by omega) mo lm fun S2 m2 f2 p2 => ?_
    have mdic : lstO S' m = none := by
      obtain ⟨kvs, ks, e1, _⟩ := pa.dic
      exact dic_lst e1
    have s2 : ShownAt S2 S1.length (es.take i) := sh.fr f2 (by omega) fun k hk => by rw [hk]; exact mdic
    obtain ⟨kvs, e1, e2, e3⟩ := id s2
    have d1 : dicD S2 (.ref S1.length) = some kvs := dicO_of e1
    have m3 : More S2 (S2 ++ [.lst []]) := More.new _
    have d2 : dicD (S2 ++ [.lst []]) (.ref S1.length) = some kvs := dicO_of (m3 _ _ e1)
    have p3 := p2.more m3
    have s3 : ShownAt (S2 ++ [.lst []]) S1.length (es.take i) := s2.fr (A := fun _ => False) (Fr.of m3) (fun z => z) (fun _ z => z.elim)
    have mS := m2.trans m3
    obtain ⟨r, er, hr⟩ : ∃ r, (valD kvs (.inl e.p)).getD (.ref S2.length) = .ref r ∧ lstO (S2 ++ [.lst []]) r = some ((shownP (es.take i) e.p).map .str) := by
      rcases e3 e.p with ⟨r, a, b⟩ | ⟨a, b⟩
      · exact ⟨r, by rw [a]; rfl, m3.lst b⟩
      · exact ⟨_, by rw [a]; rfl, by rw [b]; exact lstO_new⟩
    simp [-List.lookup_eq_none_iff, d1, d2, ev_ix0, ev_ix2, keyO, er]
    generalize S2 ++ [O.lst []] = S3 at m3 d2 p3 s3 mS hr
    clear d1 e1 e2 e3 s2 p2 f2
    have so := shows_ok (p := e.p) sub
    have po := past_ok (p := e.p) sub2
    have mk := made_ok po.1 (by simp at po; omega)
    by_cases ck : e.kind = "undo"
    · refine .inr ⟨ck, ?_⟩
      cases e with
      | und k p c =>
        simp [-List.lookup_eq_none_iff, Ev.d, Ev.kind, p3.insO]
        refine madej_ok p3 po.1 (by have := po.2; simp at this; omega) fun S4 a b la lab m4 ha hb => ?_
        have hr4 := m4.lst hr
        simp
        rw [lenF_ref hr4, okO_some]
        have hs : slD (.ref b) none (some (((shownP (es.take i) p).map L3.D.str).length : Int)) S4 = some (.ref S4.length, S4 ++ [.lst (((textsP (es.take i ++ [.und k p c]) p).map .str).take ((shownP (es.take i) p).map L3.D.str).length)]) := by
          have hb' : lstO S4 b = some ((textsP (es.take i ++ [.und k p c]) p).map .str) := hb
          simp only [slD, hb', Option.map_some, cutD_to]
        have m5 : More S4 (S4 ++ [.lst (((textsP (es.take i ++ [.und k p c]) p).map L3.D.str).take ((shownP (es.take i) p).map L3.D.str).length)]) := More.new _
        rw [show (Ev.und k p c).p = p from rfl] at *
        refine ⟨_, rfl, ?_⟩
        rw [hs, okO_some]
        refine neD_lists (n := 0) (m := 0) (by omega) (by omega) lstO_new (m5.lst hr4) (fun x mx => ?_) (fun x mx => ?_) fun bb hb2 => ?_
        · obtain ⟨y, my, rfl⟩ := List.mem_map.mp (List.mem_of_mem_take mx)
          have := OutOk.pb (mk.out y my)
          exact Pb.str this.1 this.2
        · obtain ⟨y, my, rfl⟩ := List.mem_map.mp mx
          have := so.1 y my
          exact Pb.str this.1 this.2
        · rw [List.length_map, ← List.map_take, strs_inj] at hb2
          have mS5 := mS.trans (m4.trans m5)
          have f5 := Fr.of (A := fun _ => False) (m4.trans m5)
          cases bb with
          | false =>
            refine .inl ⟨rfl, ?_, ⟨_, _, _, rfl⟩, mS5, p3.more (m4.trans m5), (s3.fr f5 (fun z => z) (fun _ z => z.elim)).same fun p => rfl⟩
            unfold showF
            exact if_neg (fun z => z (hb2.mp rfl))
          | true =>
            refine .inr ⟨rfl, ?_, mS5⟩
            unfold showF
            exact if_pos (fun z => by have := hb2.mpr z; cases this)
      | _ => simp [Ev.kind] at ck
    · refine .inl ⟨ck, ?_⟩
      by_cases cs : e.kind = "show"
      · refine .inr ⟨cs, ?_⟩
        cases e with
        | shw k p c x =>
          rw [show (Ev.shw k p c x).p = p from rfl] at *
          have hx := hok.2
          simp [-List.lookup_eq_none_iff, Ev.d, p3.insO, lenF_ref hr]
          by_cases g : c = ((shownP (es.take i) p).length : Int) + 1
          · refine .inl ⟨g, ?_⟩
            refine madej_ok p3 po.1 (by have := po.2; simp at this; omega) fun S4 a b la lab m4 ha hb => ?_
            have hr4 := m4.lst hr
            have hb' : lstO S4 b = some ((textsP (es.take i ++ [.shw k p c x]) p).map .str) := hb
            have mS4 := mS.trans m4
            have eF : showF (es.take i) (.shw k p c x) = if (textsP (es.take i ++ [.shw k p c x]) p)[(c - 1).toNat]? ≠ some x then some (.tup [.str "show", .int p, .int c]) else none := if_neg (fun z => z g)
            rw [eF]
            generalize textsP (es.take i ++ [.shw k p c x]) p = ts at *
            obtain ⟨j, rfl⟩ : ∃ j : Nat, c = (j : Int) + 1 := ⟨(c - 1).toNat, by omega⟩
            have ej : ((j : Int) + 1 - 1).toNat = j := by omega
            have ej2 : (j : Int) + 1 - 1 = (j : Int) := by omega
            simp [lenF_ref hb', hb', ej]
            by_cases gl : ts.length ≤ j
            · refine .inr ⟨by omega, ?_, mS4⟩
              rw [List.getElem?_eq_none gl]
              simp
            · refine .inl ⟨by omega, ?_⟩
              have gj : j < ts.length := by omega
              have eat : atI (ts.map L3.D.str) (j : Int) = some (.str ts[j]) := atI_nat (by rw [List.getElem?_map, List.getElem?_eq_getElem gj]; rfl)
              rw [List.getElem?_eq_getElem gj]
              simp [eat]
              by_cases gx : ts[j] = x
              · refine .inl ⟨gx, ?_⟩
                have m5 : More S4 (S4 ++ [.lst [.str x]]) := More.new _
                refine (addD_ref (m5.lst hr4) lstO_new).mpr ⟨by simp; omega, ?_⟩
                have m6 : More (S4 ++ [.lst [.str x]]) (S4 ++ [.lst [.str x]] ++ [.lst ((shownP (es.take i) p).map .str ++ [.str x])]) := More.new _
                have m7 := m4.trans (m5.trans m6)
                have f7 := Fr.of (A := fun _ => False) m7
                have p7 := p3.more m7
                obtain ⟨kws, a1, a2, a3⟩ := s3.fr f7 (fun z => z) (fun _ z => z.elim)
                have hnew : lstO (S4 ++ [.lst [.str x]] ++ [.lst ((shownP (es.take i) p).map .str ++ [.str x])]) (S4 ++ [O.lst [.str x]]).length = some ((shownP (es.take i) p).map .str ++ [.str x]) := lstO_new
                generalize (S4 ++ [O.lst [.str x]]).length = w at *
                generalize S4 ++ [.lst [.str x]] ++ [.lst ((shownP (es.take i) p).map L3.D.str ++ [.str x])] = S7 at *
                have hw1 : S1.length < S7.length := lt_of_at a1
                refine ⟨_, by unfold putO; dsimp only; rw [a1]; dsimp only; rw [show keyO (.int p) = some (.inl p) from rfl, Option.bind_some, if_pos (by rw [PySem.sizeLine_eq]; omega)], by simpa using gx, ⟨_, _, _, rfl⟩, ?_, p7.put (by omega) (by omega) (dic_lst a1), _, List.getElem?_set_self hw1, ?_, fun t => ?_⟩
                · exact fun a o ea => by rw [List.getElem?_set_ne (by have := lt_of_at ea; have := mo1.len; omega)]; exact (mS.trans m7) a o ea
                · have : (putD kws (.inl p) (.ref w)).length ≤ kws.length + 1 := by
                    unfold putD
                    split <;> simp
                  simp at a2 ⊢
                  omega
                · have keep : ∀ {k xs}, lstO S7 k = some xs → lstO (S7.set S1.length (.dic (putD kws (.inl p) (.ref w)))) k = some xs := fun {k xs} hk => by
                    have ne : S1.length ≠ k := fun z => by
                      rw [← z, dic_lst a1] at hk
                      cases hk
                    unfold lstO
                    rw [List.getElem?_set_ne ne, lstO_at hk]
                  rw [valD_put, shown_snoc]
                  by_cases ct : t = p
                  · subst ct
                    rw [if_pos rfl]
                    refine .inl ⟨w, rfl, ?_⟩
                    rw [keep hnew]
                    simp [shownP]
                  · have c2 : ¬ (Sum.inl t : Key) = .inl p := fun z => ct (Sum.inl.inj z)
                    have c3 : ¬ p = t := fun z => ct z.symm
                    rw [if_neg c2]
                    have e4 : shownP [Ev.shw k p ((j : Int) + 1) x] t = [] := by simp [shownP, c3]
                    rw [e4, List.append_nil]
                    exact (a3 t).imp (fun ⟨r, a, b⟩ => ⟨r, a, keep b⟩) id
              · exact .inr ⟨gx, mS4⟩
          · refine .inr ⟨g, ?_, mS⟩
            unfold showF
            exact if_pos g
        | _ => simp [Ev.kind] at cs
      · refine .inl ⟨cs, ?_, ⟨_, _, _, rfl⟩, mS, p3, s3.same fun p => ?_⟩
        · cases e <;> first | rfl | (exact absurd rfl ck) | (exact absurd rfl cs)
        · cases e <;> first | rfl | (exact absurd rfl ck) | (exact absurd rfl cs)
  · rintro ρ S' hF ⟨_, mo, _⟩
    rw [← show alongD showF es = .non from first_none (by simpa using hF)]
    exact h S' mo
  · intro i v S' hi hF hv mo
    rw [← show alongD showF es = v from first_some (by simpa using hi) hF hv]
    exact h S' mo
end
end Fg
set_option Elab.async false
set_option linter.all false
set_option maxRecDepth 100000
set_option maxHeartbeats 1000000
namespace Fg
open PySem PySem.Spec PyProof.Rows L2 L3
variable {S : Store} {P : L3.D → Store → Prop}
def sentD (p : Int) (e : L3.D) : Option L3.D := match e with
  | .tup [.int q, d] => if q = p then some d else none
  | _ => none
def sentP (es : List Ev) (s p : Int) : List L3.D := (madeP (pastP es s)).2.1.filterMap (sentD p)
open Classical in
noncomputable def runRow (es : List Ev) (p : Int) (r : Row) : Option L3.D := if r.1 ≠ -1 ∧ (sentP es r.1 p)[(r.2.1 - 1).toNat]? ≠ some r.2.2 then some (.tup [.str "run", .int p, .int r.1, .int r.2.1]) else none
theorem runRow_none {es : List Ev} {s p : Int} {k : Nat} {y : L3.D} (h : (sentP es s p)[k]? = some y) : runRow es p (s, (k : Int) + 1, y) = none := by
  unfold runRow
  have ej : ((k : Int) + 1 - 1).toNat = k := by omega
  exact if_neg fun z => z.2 (by simpa [ej] using h)
theorem runRow_some {es : List Ev} {s p : Int} {k : Nat} {y : L3.D} (c1 : ¬ s = -1) (h : (sentP es s p)[k]? ≠ some y) : runRow es p (s, (k : Int) + 1, y) = some (.tup [.str "run", .int p, .int s, .int ((k : Int) + 1)]) := by
  unfold runRow
  have ej : ((k : Int) + 1 - 1).toNat = k := by omega
  exact if_pos ⟨c1, by simpa [ej] using h⟩
noncomputable def runOne (es : List Ev) (p : Int) : Option L3.D := (pastP es p).findSome? (runRow es p)
noncomputable def runsD (es : List Ev) : L3.D := (([0, 1, 2] : List Int).findSome? (runOne es)).getD .non
theorem find_none {α : Type} {G : α → Option L3.D} : ∀ {xs : List α}, (∀ j < xs.length, (xs[j]?).bind G = none) → xs.findSome? G = none
  | [], _ => rfl
  | x :: xs, h => by
    have h0 := h 0 (by simp)
    simp at h0
    rw [List.findSome?_cons, h0]
    exact find_none fun j hj => by simpa using h (j + 1) (by simp; omega)
theorem find_some {α : Type} {G : α → Option L3.D} {v : L3.D} : ∀ {xs : List α} {i : Nat}, (∀ j < i, (xs[j]?).bind G = none) → (xs[i]?).bind G = some v → xs.findSome? G = some v
  | [], _, _, e => by simp at e
  | x :: xs, 0, _, e => by
    simp at e
    rw [List.findSome?_cons, e]
  | x :: xs, i + 1, h, e => by
    have h0 := h 0 (by omega)
    simp at h0
    rw [List.findSome?_cons, h0]
    exact find_some (i := i) (fun j hj => by simpa using h (j + 1) (by omega)) (by simpa using e)
theorem find_keys {G : Int → Option L3.D} {ks : List Int} (h1 : ∀ k ∈ ks, 0 ≤ k ∧ k < 3) (h2 : ks.Pairwise (· < ·)) (h3 : ∀ p, p ∉ ks → G p = none) : ks.findSome? G = ([0, 1, 2] : List Int).findSome? G := by
  have e : ks = ([0, 1, 2] : List Int).filter fun k => decide (k ∈ ks) := by
    have : ∀ {a b : List Int}, a.Pairwise (· < ·) → b.Pairwise (· < ·) → (∀ x, x ∈ a ↔ x ∈ b) → a = b := by
      intro a
      induction a with
      | nil => intro b _ _ h; cases b with
        | nil => rfl
        | cons y b => exact absurd ((h y).mpr (by simp)) (by simp)
      | cons x a ih =>
        intro b ha hb h
        cases b with
        | nil => exact absurd ((h x).mp (by simp)) (by simp)
        | cons y b =>
          rw [List.pairwise_cons] at ha hb
          have hxy : x = y := by
            rcases List.mem_cons.mp ((h x).mp (by simp)) with e | m
            · exact e
            · rcases List.mem_cons.mp ((h y).mpr (by simp)) with e | m2
              · exact e.symm
              · have := hb.1 x m; have := ha.1 y m2; omega
          subst hxy
          rw [ih ha.2 hb.2 fun z => ?_]
          have hz := h z
          constructor
          · intro mz
            rcases List.mem_cons.mp (hz.mp (by simp [mz])) with e | m
            · have := ha.1 z mz; omega
            · exact m
          · intro mz
            rcases List.mem_cons.mp (hz.mpr (by simp [mz])) with e | m
            · have := hb.1 z mz; omega
            · exact m
    refine this h2 (List.Pairwise.filter _ (by decide)) fun x => ?_
    rw [List.mem_filter]
    constructor
    · intro m
      have := h1 x m
      exact ⟨by simp; omega, by simpa using m⟩
    · rintro ⟨_, m⟩
      simpa using m
  have key : ∀ l : List Int, (l.filter fun k => decide (k ∈ ks)).findSome? G = l.findSome? G := by
    intro l
    induction l with
    | nil => rfl
    | cons x l ih =>
      rw [List.filter_cons, List.findSome?_cons]
      by_cases c : x ∈ ks
      · rw [if_pos (by simpa using c), List.findSome?_cons, ih]
      · rw [if_neg (by simpa using c), h3 x c, ih]
  conv => lhs; rw [e]
  exact key _
section
variable {n m : Nat} {es : List Ev} {S' : Store}
theorem sent_pay {es : List Ev} {s p : Int} (h : ∀ e ∈ es, EvOk e) (hl : es.length ≤ 100) : (∀ d ∈ sentP es s p, pay4 d ∨ True) := fun _ _ => .inr trivial
def RInv (S : Store) (q n m : Nat) (es : List Ev) (ρ : DE) (S' : Store) : Prop := (∃ x2 x3 x4 x5 x6 x7 x8, ρ = [some (.ref q), some (.ref n), x2, x3, x4, x5, x6, x7, x8]) ∧ More S S' ∧ PastsAt S' n m es
def RInw (q n : Nat) (p : Int) (S2 : Store) (ρ : DE) (S' : Store) : Prop := (∃ x2 x4 x5 x6 x7 x8, ρ = [some (.ref q), some (.ref n), x2, some (.int p), x4, x5, x6, x7, x8]) ∧ More S2 S'
theorem runj_ok {q : Nat} (hq : lstO S q = some (es.map Ev.d)) (ho : ∀ e ∈ es, EvOk e) (hl : es.length ≤ 50) (h : ∀ S', More S S' → P (runsD es) S') : (m_run_fault [.ref q] S).Ok P := by
  unfold m_run_fault
  simp only [ok_fn, sok_seq, sok_set]
  refine newj_ok fun S1 n m ln lm mo1 hp => ?_
  simp [-List.lookup_eq_none_iff]
  refine ⟨_, itO_ref (mo1.lst hq), ?_⟩
  refine for_inv (fun i ρ S' => RInv S q n m (es.take i) ρ S') ⟨⟨_, _, _, _, _, _, _, rfl⟩, mo1, hp⟩ (fun i ρ S' _ hI => ?_) ?_ ?_
  · intro z hz
    rw [List.mem_singleton.mp hz]
    exact hI.2.1 _ _ (lstO_at hq)
  · rintro i d ρ S' hi ⟨⟨x2, x3, x4, x5, x6, x7, x8, rfl⟩, mo, pa⟩
    obtain ⟨e, he, rfl, et⟩ := ev_get (F := takeF) hi
    rw [et]
    simp [-List.lookup_eq_none_iff, pa.insO]
    refine note_more pa (ho e (List.mem_of_getElem? he)) (fun x mx => ho x (List.mem_of_mem_take mx)) (by simp; omega) mo lm fun S3 m3 _ p3 => ⟨⟨_, _, _, _, _, _, _, rfl⟩, m3, p3⟩
  · rintro ρ S' ⟨⟨x2, x3, x4, x5, x6, x7, x8, rfl⟩, mo, pa⟩
    rw [List.length_map, List.take_length] at pa
    simp [-List.lookup_eq_none_iff, pa.insO]
    refine processesj_ok pa (by omega) fun ks S2 k1 k2 k3 m2 hks => ?_
    refine ⟨_, itO_ref hks, ?_⟩
    have fk := find_keys (G := runOne es) k1 k2 fun p hp => by unfold runOne; rw [k3 p hp]; rfl
    have pk := pa.more m2
    refine for_first (RR := More S) (fun i => (ks[i]?).bind (runOne es)) (fun i ρ S3 => (RInv S q n m es ρ S3) ∧ More S2 S3) ⟨⟨⟨_, _, _, _, _, _, _, rfl⟩, mo.trans m2, pk⟩, More.refl _⟩ (fun i ρ S' _ hI => ?_) ?_ ?_ ?_
    · intro z hz
      rw [List.mem_singleton.mp hz]
      exact hI.2 _ _ (lstO_at hks)
    · rintro i d ρ S3 hi ⟨⟨⟨x2, x3, x4, x5, x6, x7, x8, rfl⟩, mo3, pa3⟩, m3⟩
      rw [List.getElem?_map] at hi
      obtain ⟨p, hp, rfl⟩ := Option.map_eq_some_iff.mp hi
      rw [hp, Option.bind_some]
      have po := past_ok (p := p) ho
      simp [-List.lookup_eq_none_iff, pa3.insO]
      refine inputsj_ok pa3 (More.refl S3) fun r S4 m4 _ _ hr => ?_
      refine ⟨_, itO_ref hr, ?_⟩
      refine for_first (RR := More S) (fun j => ((pastP es p)[j]?).bind (runRow es p)) (fun j ρ S5 => RInw q n p S4 ρ S5) ⟨⟨_, _, _, _, _, _, rfl⟩, More.refl _⟩ (fun i ρ S' _ hI => ?_) ?_ ?_ ?_
      · intro z hz
        rw [List.mem_singleton.mp hz]
        exact hI.2 _ _ (lstO_at hr)
      · rintro j d ρ S5 hj ⟨⟨x2, x4, x5, x6, x7, x8, rfl⟩, m5⟩
        rw [List.getElem?_map] at hj
        obtain ⟨⟨s, c, y⟩, hx, rfl⟩ := Option.map_eq_some_iff.mp hj
        rw [hx, Option.bind_some]
        have hrow := po.1 _ (List.mem_of_getElem? hx)
        have pa5 := pa3.more (m4.trans m5)
        have mS5 := mo3.trans (m4.trans m5)
        simp [-List.lookup_eq_none_iff, rowD, pa5.insO]
        by_cases c1 : s = -1
        · refine .inl ⟨c1, ?_, ⟨_, _, _, _, _, _, rfl⟩, m5⟩
          unfold runRow
          exact if_neg (fun z => z.1 c1)
        · refine .inr ⟨c1, ?_⟩
          have po2 := past_ok (p := s) ho
          have mk := made_ok po2.1 (by omega)
          refine madej_ok pa5 po2.1 (by omega) fun S6 a b la lab m6 ha hb => ?_
          simp
          refine ⟨_, itO_ref ha, ?_⟩
          have ls := mk.ls
          refine lc_xs (S := S6) (madeP (pastP es s)).2.1 id (sentD p) (by simp) rfl rfl (fun S' mo z mz => ?_) (by omega) (fun x S' mx mo => ?_) fun S7 m7 h7 => ?_
          · rw [List.mem_singleton.mp mz]
            exact mo _ _ (lstO_at ha)
          · obtain ⟨q', c', d', rfl, hd'⟩ := mk.snd x mx
            simp [sentD]
            by_cases e : q' = p <;> simp [e] <;> exact More.refl _
          · have h7' : lstO S7 S6.length = some (sentP es s p) := h7
            have mS7 := mS5.trans (m6.trans m7)
            have m57 := m5.trans (m6.trans m7)
            obtain ⟨k, rfl⟩ : ∃ k : Nat, c = (k : Int) + 1 := ⟨(c - 1).toNat, by have := hrow.2.1.1; simp at this; omega⟩
            have ej : ((k : Int) + 1 - 1).toNat = k := by omega
            have ej2 : (k : Int) + 1 - 1 = (k : Int) := by omega
            simp [lenF_ref h7', h7', ej2]
            by_cases gl : (sentP es s p).length ≤ k
            · refine .inr ⟨by omega, ?_, mS7⟩
              refine runRow_some c1 ?_
              rw [List.getElem?_eq_none gl]
              simp
            · refine .inl ⟨by omega, ?_⟩
              have gj : k < (sentP es s p).length := by omega
              have eat : atI (sentP es s p) (k : Int) = some (sentP es s p)[k] := atI_nat (List.getElem?_eq_getElem gj)
              have mem := List.getElem_mem gj
              have egj := List.getElem?_eq_getElem gj
              simp [eat]
              generalize (sentP es s p)[k] = w at *
              obtain ⟨e', me', q'⟩ := List.mem_filterMap.mp mem
              obtain ⟨q1, c1', d1, rfl, hd1⟩ := mk.snd e' me'
              have hw : w = d1 := by
                unfold sentD at q'
                simp at q'
                exact q'.2.symm
              subst hw
              refine neD_plain (n := 4) (m := 4) (by omega) (by omega) (pay_pb hd1) (pay_pb hrow.2.2) fun bb hb2 => ?_
              cases bb with
              | false => exact .inl ⟨rfl, runRow_none (by rw [egj, hb2.mp rfl]), ⟨_, _, _, _, _, _, rfl⟩, m57⟩
              | true => exact .inr ⟨rfl, runRow_some c1 (by rw [egj]; exact fun z => by have := hb2.mpr (Option.some.inj z); cases this), mS7⟩
      · rintro ρ S5 hF ⟨⟨x2, x4, x5, x6, x7, x8, rfl⟩, m5⟩
        have m45 := m4.trans m5
        refine ⟨?_, ⟨⟨_, _, _, _, _, _, _, rfl⟩, mo3.trans m45, pa3.more m45⟩, m3.trans m45⟩
        exact find_none (by simpa using hF)
      · intro j v S5 hj hF hv mo5
        exact ⟨find_some hF hv, mo5⟩
    · rintro ρ S3 hF ⟨⟨_, mo3, _⟩, _⟩
      have : runsD es = .non := by
        unfold runsD
        rw [← fk, find_none (by simpa using hF)]
        rfl
      rw [← this]
      exact h S3 mo3
    · intro i v S3 hi hF hv mo3
      have : runsD es = v := by
        unfold runsD
        rw [← fk, find_some hF hv]
        rfl
      rw [← this]
      exact h S3 mo3
end
end Fg
set_option Elab.async false
set_option linter.all false
set_option maxRecDepth 100000
set_option maxHeartbeats 1000000
namespace Fg
open PySem PySem.Spec PyProof.Rows L2 L3
variable {S : Store} {P : L3.D → Store → Prop}
/-- cells as a tuple or a list -/
def InC (S : Store) (x : L3.D) (cs : List Int) : Prop := x = .tup (cs.map .int) ∨ ∃ q, x = .ref q ∧ lstO S q = some (cs.map .int)
theorem InC.list {x : L3.D} {cs : List Int} (h : InC S x cs) : listF [x] S = some (.ref S.length, S ++ [.lst (cs.map .int)]) := by
  rcases h with rfl | ⟨q, rfl, h⟩
  · exact listF_tup
  · exact listF_ref h
def LRan (S : Store) (r : Ran) (P : L3.D → Store → Prop) : Prop := ∀ S' u a b, (S.length ≤ u ∧ S.length ≤ a ∧ S.length ≤ b) → More S S' → lstO S' u = some (r.1.map .int) → lstO S' a = some r.2.1 → lstO S' b = some (r.2.2.map .str) → P (.tup [.ref u, .ref a, .ref b]) S'
theorem lrun_ok {c : L3.D} : ∀ (n f : Nat), n ≤ f → n ≤ 7 → ∀ (S : Store) (x : L3.D) (cs : List Int) (d : L3.D) (B : Int) (P : L3.D → Store → Prop), InC S x cs → payD c n d = true → CB B cs → 1000000 ≤ B → B + 2 ^ n * 1000000 ≤ 1000000000000 → LRan S (runP n cs d) P → (rec__law_run f [x, d] S).Ok P := by
  intro n
  induction n with
  | zero => intro f _ _ S x cs d B P _ h; cases h
  | succ n ih =>
    intro f hf h7 S x cs d B P hx hd hc hB hU h
    obtain ⟨f, rfl⟩ : ∃ k, f = k + 1 := ⟨f - 1, by omega⟩
    have p1 : (1 : Int) ≤ 2 ^ n := Int.le_of_lt_add_one (by have := Int.pow_pos (n := 2) (m := n) (by decide); omega)
    have e2 : (2 : Int) ^ (n + 1) = 2 * 2 ^ n := by rw [Int.pow_succ, Int.mul_comm]
    rw [e2] at hU
    have h4 := hc.1
    have hl := hx.list
    have hn : lstO (S ++ [.lst (cs.map .int)]) S.length = some (cs.map .int) := lstO_new
    have put : ∀ {S' : Store} {a : Int} {v : Int}, lstO S' S.length = some (cs.map .int) → 0 ≤ a → a ≤ 3 → putO (.ref S.length) (.int a) (.int v) S' = some (S'.set S.length (.lst ((cs.set (cellN (.int a)) v).map .int))) := fun {S' a v} e a0 a1 => by
      obtain ⟨k, rfl⟩ := Int.eq_ofNat_of_zero_le a0
      have e0 : cellN (.int (k : Int)) = k := by simp [cellN, intG]
      rw [putO_lst e, e0, List.map_set]
      have : ixN (cs.map L3.D.int).length (k : Int) = some k := by
        rw [List.length_map, h4]
        have hk : k ≤ 3 := by omega
        match k, hk with
        | 0, _ => rfl
        | 1, _ => rfl
        | 2, _ => rfl
        | 3, _ => rfl
        | k + 4, hk => omega
      rw [this]
      rfl
    rcases pay_cases hd with ⟨a, v, rfl, a0, a1, v0, v1⟩ | ⟨a, v, rfl, a0, a1, v0, v1⟩ | ⟨a, b, rfl, a0, a1, b0, b1⟩ | ⟨q, e, rfl, q0, q1, he, _⟩ | ⟨a, rfl, a0, a1⟩ | ⟨e, f', rfl, he, hf'⟩ | ⟨a, e, f', rfl, a0, a1, he, hf'⟩
    · simp [rec__law_run, m__law_run_c1, m__law_run_c2, m__law_run_c3, hl]
      refine ⟨_, put hn a0 a1, ?_⟩
      have := h ((S ++ [O.lst (cs.map .int)]).set S.length (.lst ((cs.set (cellN (.int a)) v).map .int)) ++ [.lst [], .lst []]) S.length (S.length + 1) (S.length + 2) ⟨by omega, by omega, by omega⟩ (((More.new _).set (Nat.le_refl _) _).trans (More.app _)) (by simp [runP, intG, lstO]) (by simp [runP, lstO]) (by simp [runP, lstO])
      simpa using this
    · simp [rec__law_run, m__law_run_c1, m__law_run_c2, m__law_run_c3, hl]
      refine ⟨_, hn, _, at_cell h4 a0 a1, ?_⟩
      simp
      refine ⟨_, put hn a0 a1, ?_⟩
      have := h ((S ++ [O.lst (cs.map .int)]).set S.length (.lst ((cs.set (cellN (.int a)) (cs.getD (cellN (.int a)) 0 + v)).map .int)) ++ [.lst [], .lst []]) S.length (S.length + 1) (S.length + 2) ⟨by omega, by omega, by omega⟩ (((More.new _).set (Nat.le_refl _) _).trans (More.app _)) (by simp [runP, intG, lstO]) (by simp [runP, lstO]) (by simp [runP, lstO])
      simpa using this
    · simp [rec__law_run, m__law_run_c1, m__law_run_c2, m__law_run_c3, hl]
      refine ⟨_, hn, _, at_cell h4 b0 b1, ?_⟩
      simp
      refine ⟨_, put hn a0 a1, ?_⟩
      have := h ((S ++ [O.lst (cs.map .int)]).set S.length (.lst ((cs.set (cellN (.int a)) (cs.getD (cellN (.int b)) 0)).map .int)) ++ [.lst [], .lst []]) S.length (S.length + 1) (S.length + 2) ⟨by omega, by omega, by omega⟩ (((More.new _).set (Nat.le_refl _) _).trans (More.app _)) (by simp [runP, lstO]) (by simp [runP, lstO]) (by simp [runP, lstO])
      simpa using this
    · simp [rec__law_run, hl]
      have := h (S ++ [.lst (cs.map .int), .lst [.tup [.int q, e]], .lst []]) S.length (S.length + 1) (S.length + 2) ⟨by omega, by omega, by omega⟩ (More.app _) (by simp [runP, lstO]) (by simp [runP, lstO]) (by simp [runP, lstO])
      simpa using this
    · have hg := hc.get (i := cellN (.int a)) (by simp [cellN, intG]; omega)
      simp [rec__law_run, hl]
      have hn2 : lstO (S ++ [.lst (cs.map .int), .lst []]) S.length = some (cs.map .int) := lstO_off (i := 0) rfl
      refine ⟨_, hn2, _, at_cell h4 a0 a1, ?_⟩
      simp
      refine ⟨log_cell (by rw [List.getD_eq_getElem?_getD] at hg; omega) (by rw [List.getD_eq_getElem?_getD] at hg; omega), ?_⟩
      have := h (S ++ [.lst (cs.map .int), .lst [], .lst [.str (Str.ofString (cs.getD (cellN (.int a)) 0).repr)]]) S.length (S.length + 1) (S.length + 2) ⟨by omega, by omega, by omega⟩ (More.app _) (by simp [runP, lstO]) (by simp [runP, lstO]) (by simp [runP, lstO])
      simpa using this
    · have g1 := run_fit n cs e B he hc hB (by omega)
      have g2 := run_fit n (runP n cs e).1 f' (B + 2 ^ n * 1000000) hf' g1.1 (by omega) (by omega)
      simp [rec__law_run, m__law_run_c1, hl]
      refine ih f (by omega) (by omega) _ _ cs e B _ (.inr ⟨_, rfl, hn⟩) he hc hB (by omega) ?_
      intro S1 u1 a1 b1 ⟨g1u, g1a, g1b⟩ m1 hu1 ha1 hb1
      simp
      refine ih f (by omega) (by omega) S1 _ _ f' _ _ (.inr ⟨_, rfl, hu1⟩) hf' g1.1 (by omega) (by omega) ?_
      intro S2 u2 a2 b2 ⟨g2u, g2a, g2b⟩ m2 hu2 ha2 hb2
      simp
      have pw : (2 : Nat) ^ n ≤ 2 ^ 7 := Nat.pow_le_pow_right (by decide) (by omega)
      have l1 := g1.2.2.2.1
      have l2 := g2.2.2.2.1
      have l3 := g1.2.2.2.2
      have l4 := g2.2.2.2.2
      have m0 := (More.new (S := S) (O.lst (cs.map .int))).trans m1
      refine (addD_ref (m2.lst ha1) ha2).mpr ⟨by omega, ?_⟩
      refine (addD_ref (lstO_old (m2.lst hb1)) (lstO_old hb2)).mpr ⟨by rw [List.length_map, List.length_map]; omega, ?_⟩
      have := h (S2 ++ [.lst ((runP n cs e).2.1 ++ (runP n (runP n cs e).1 f').2.1)] ++ [.lst ((runP n cs e).2.2.map .str ++ (runP n (runP n cs e).1 f').2.2.map .str)]) u2 S2.length (S2.length + 1) ⟨by have := m1.len; rw [List.length_append] at this; omega, by have := m1.len; have := m2.len; rw [List.length_append] at *; omega, by have := m1.len; have := m2.len; rw [List.length_append] at *; omega⟩ (((m0.trans m2).trans (More.new _)).trans (More.new _)) (by simpa [runP] using lstO_old (lstO_old hu2)) (by simp [runP, lstO]) (by simp [runP, lstO])
      simpa [runP] using this
    · simp [rec__law_run, m__law_run_c1, m__law_run_c2, hl]
      refine ⟨_, hn, _, at_cell h4 a0 a1, ?_⟩
      simp
      have er : runP (n + 1) cs (.tup [.str "if", .int a, e, f']) = runP n cs (if cs.getD (cellN (.int a)) 0 = 0 then f' else e) := by simp [runP]
      rw [er] at h
      by_cases z : cs.getD (cellN (.int a)) 0 = 0
      · rw [if_pos z] at h
        refine .inl ⟨by simpa using z, ?_⟩
        exact ih f (by omega) (by omega) _ _ cs f' B P (.inr ⟨_, rfl, hn⟩) hf' hc hB (by omega) fun S' u a b g m => h S' u a b ⟨by have := g.1; rw [List.length_append] at this; omega, by have := g.2.1; rw [List.length_append] at this; omega, by have := g.2.2; rw [List.length_append] at this; omega⟩ ((More.new _).trans m)
      · rw [if_neg z] at h
        refine .inr ⟨by simpa using z, ?_⟩
        exact ih f (by omega) (by omega) _ _ cs e B P (.inr ⟨_, rfl, hn⟩) he hc hB (by omega) fun S' u a b g m => h S' u a b ⟨by have := g.1; rw [List.length_append] at this; omega, by have := g.2.1; rw [List.length_append] at this; omega, by have := g.2.2; rw [List.length_append] at this; omega⟩ ((More.new _).trans m)
section
variable {n m : Nat} {es : List Ev} {S' : Store}
noncomputable def faultsD (es : List Ev) : List L3.D := [alongD takeF es, alongD undoF es, alongD showF es, runsD es]
def someD (d : L3.D) : Option L3.D := if isnon d = true then none else some d
theorem judgej_ok {q : Nat} (hq : lstO S q = some (es.map Ev.d)) (ho : ∀ e ∈ es, EvOk e) (hl : es.length ≤ 50) (h : ∀ S' r, S.length ≤ r → More S S' → lstO S' r = some ((faultsD es).filterMap someD) → P (.ref r) S') : (m_judge [.ref q] S).Ok P := by
  simp [m_judge]
  refine takej_ok hq ho hl fun S1 m1 => ?_
  refine undoj_ok (m1.lst hq) ho hl fun S2 m2 => ?_
  have m12 := m1.trans m2
  refine showj_ok (m12.lst hq) ho hl fun S3 m3 => ?_
  have m13 := m12.trans m3
  refine runj_ok (m13.lst hq) ho hl fun S4 m4 => ?_
  have m14 := m13.trans m4
  refine ⟨_, itO_ref lstO_new, ?_⟩
  refine lc_xs (S := S4 ++ [.lst (faultsD es)]) (faultsD es) id someD (by simp [faultsD]) (by simp [faultsD]) (by simp) (fun S' mo z mz => ?_) (by simp [faultsD]) (fun x S' mx mo => ?_) fun S7 m7 h7 => ?_
  · rw [List.mem_singleton.mp mz]
    exact mo _ _ (by simp [faultsD])
  · simp [someD]
    by_cases c : isnon x = true <;> simp [c] <;> exact More.refl _
  · exact h S7 _ (by simp; have := m14.len; omega) (m14.trans ((More.new _).trans m7)) h7
def PInv7 (q k : Nat) (p : Int) (S : Store) (rs : List Row) (ρ : DE) (S' : Store) : Prop := ∃ r x4, ρ = [some (.ref q), some (.int (k : Int)), some (.int p), some (.ref r), x4] ∧ More S S' ∧ (S.length ≤ r ∧ r ≠ S.length + 1) ∧ lstO S' r = some (rs.map rowD) ∧ lstO S' (S.length + 1) = some ((es.take k).map Ev.d)
theorem lpast_ok {q k : Nat} {p : Int} (hq : lstO S q = some (es.map Ev.d)) (ho : ∀ e ∈ es, EvOk e) (hl : es.length ≤ 50) (h : ∀ S' r, S.length ≤ r → More S S' → lstO S' r = some ((pastP (es.take k) p).map rowD) → P (.ref r) S') : (m__law_past [.ref q, .int (k : Int), .int p] S).Ok P := by
  have m0 : More S (S ++ [.lst []]) := More.new _
  have hs : slD (.ref q) none (some (k : Int)) (S ++ [.lst []]) = some (.ref (S ++ [O.lst []]).length, S ++ [.lst []] ++ [.lst ((es.map Ev.d).take k)]) := by
    simp only [slD, m0.lst hq, Option.map_some, cutD_to]
  simp [m__law_past]
  rw [hs, okO_some]
  refine ⟨_, itO_ref lstO_new, ?_⟩
  have m1 : More S (S ++ [.lst []] ++ [.lst ((es.map Ev.d).take k)]) := m0.trans (More.new _)
  have g0 : lstO (S ++ [.lst []] ++ [.lst ((es.map Ev.d).take k)]) S.length = some [] := (More.new _).lst lstO_new
  have g1 : lstO (S ++ [.lst []] ++ [.lst ((es.map Ev.d).take k)]) (S.length + 1) = some ((es.take k).map Ev.d) := by
    have := lstO_new (S := S ++ [.lst []]) (x := (es.map Ev.d).take k)
    rw [List.length_append, List.length_singleton] at this
    rw [this, List.map_take]
  rw [show (S ++ [O.lst []]).length = S.length + 1 by simp]
  refine for_inv (fun i ρ S' => PInv7 (es := es) q k p S (pastP ((es.take k).take i) p) ρ S') ⟨S.length, _, rfl, m1, by omega, g0, g1⟩ (fun i ρ S' _ hI => ?_) ?_ ?_
  · obtain ⟨r, x4, _, _, _, _, e⟩ := hI
    intro z hz
    rw [List.mem_singleton.mp hz]
    rw [List.map_take] at e
    exact lstO_at e
  · rintro i d ρ S' hi ⟨r, x4, rfl, mo, hr, l1, l2⟩
    dsimp only at hi
    rw [← List.map_take] at hi
    obtain ⟨e, he, rfl, et⟩ := ev_get (F := takeF) hi
    rw [et, past_snoc]
    have hok := ho e (List.mem_of_mem_take (List.mem_of_getElem? he))
    have po := past_ok (p := p) (es := (es.take k).take i) fun x mx => ho x (List.mem_of_mem_take (List.mem_of_mem_take mx))
    have pl : (pastP ((es.take k).take i) p).length ≤ 50 := by have := po.2; simp at this; omega
    generalize pastP ((es.take k).take i) p = rs at *
    cases e with
    | tak k' p' v s c d =>
      simp [Ev.d]
      by_cases cp : p' = p
      · refine .inr ⟨cp, by rw [l1]; rfl, _, l1, ?_⟩
        rw [note_tak, if_pos cp]
        unfold appendF
        dsimp only
        rw [PySem.sizeLine_eq, if_pos (by rw [List.length_map]; omega), okO_some]
        refine ⟨r, _, rfl, mo.set hr.1 _, hr, ?_, ?_⟩
        · rw [lstO_set l1]; simp [rowD]
        · unfold lstO
          rw [List.getElem?_set_ne hr.2, lstO_at l2]
      · rw [note_tak, if_neg cp]
        exact .inl ⟨cp, r, _, rfl, mo, hr, l1, l2⟩
    | und k' p' c =>
      simp [Ev.d]
      by_cases cp : p' = p
      · refine .inr ⟨cp, ?_⟩
        obtain ⟨c', rfl⟩ := Int.eq_ofNat_of_zero_le hok.2.1
        have hs2 : slD (.ref r) none (some (c' : Int)) S' = some (.ref S'.length, S' ++ [.lst ((rs.map rowD).take c')]) := by
          simp only [slD, l1, Option.map_some, cutD_to]
        rw [hs2, okO_some]
        have m2 : More S' (S' ++ [.lst ((rs.map rowD).take c')]) := More.new _
        refine ⟨S'.length, _, rfl, mo.trans m2, ⟨mo.len, by have := lst_lt l2; omega⟩, ?_, m2.lst l2⟩
        rw [note_und, if_pos cp, Int.toNat_natCast, List.map_take]
        exact lstO_new
      · rw [note_und, if_neg cp]
        exact .inl ⟨cp, r, _, rfl, mo, hr, l1, l2⟩
    | sub k' p' c d => simp [Ev.d]; exact ⟨r, _, rfl, mo, hr, l1, l2⟩
    | shw k' p' c x => simp [Ev.d]; exact ⟨r, _, rfl, mo, hr, l1, l2⟩
    | crs k' p' => simp [Ev.d]; exact ⟨r, _, rfl, mo, hr, l1, l2⟩
    | sta k' p' c => simp [Ev.d]; exact ⟨r, _, rfl, mo, hr, l1, l2⟩
  · rintro ρ S' ⟨r, x4, rfl, mo, hr, l1, l2⟩
    simp
    rw [← List.map_take, List.length_map, List.take_length] at l1
    exact h S' r hr.1 mo l1
def MInv7 (q : Nat) (S : Store) (mk : Made) (ρ : DE) (S' : Store) : Prop := ∃ x a b x4 x5, ρ = [some (.ref q), some x, some (.ref a), some (.ref b), x4, x5] ∧ More S S' ∧ (S.length ≤ a ∧ S.length ≤ b) ∧ InC S' x mk.1 ∧ lstO S' a = some mk.2.1 ∧ lstO S' b = some (mk.2.2.map .str)
theorem lmade_ok {q : Nat} {rs : List Row} (hq : lstO S q = some (rs.map rowD)) (ho : ∀ r ∈ rs, RowOk r) (hl : rs.length ≤ 1000) (h : ∀ S' a b, S.length ≤ a → S.length ≤ b → More S S' → lstO S' a = some (madeP rs).2.1 → lstO S' b = some ((madeP rs).2.2.map .str) → P (.tup [.ref a, .ref b]) S') : (m__law_made [.ref q] S).Ok P := by
  have m0 : More S (S ++ [.lst [.int 0, .int 0, .int 0, .int 0], .lst [], .lst []]) := More.app _
  simp [m__law_made]
  refine ⟨_, itO_ref (m0.lst hq), ?_⟩
  refine for_inv (fun i ρ S' => MInv7 q S (madeP (rs.take i)) ρ S') ⟨.ref S.length, S.length + 1, S.length + 2, _, _, rfl, m0, by omega, .inr ⟨_, rfl, lstO_off (i := 0) rfl⟩, lstO_off (i := 1) rfl, lstO_off (i := 2) rfl⟩ (fun i ρ S' _ hI => ?_) ?_ ?_
  · obtain ⟨x, a, b, x4, x5, _, mo, _⟩ := hI
    intro z hz
    rw [List.mem_singleton.mp hz]
    exact mo _ _ (lstO_at hq)
  · rintro i d ρ S' hi ⟨x, a, b, x4, x5, rfl, mo, hab, hx, l1, l2⟩
    rw [List.getElem?_map] at hi
    obtain ⟨⟨s, c, y⟩, hr, rfl⟩ := Option.map_eq_some_iff.mp hi
    have mem := List.mem_of_getElem? hr
    have hlt := (List.getElem?_eq_some_iff.mp hr).1
    have mk := made_ok (rs := rs.take i) (fun x mx => ho x (List.mem_of_mem_take mx)) (by simp; omega)
    rw [take_snoc hr, made_snoc]
    have hti : (rs.take i).length = i := by rw [List.length_take]; omega
    rw [hti] at mk
    generalize madeP (rs.take i) = md at *
    have ll := run_fit 4 md.1 y _ (ho _ mem).2.2 mk.cb (by omega) (by omega)
    have k3 := ll.2.2.2.1
    have k4 := ll.2.2.2.2
    have k5 := mk.ls
    have k6 := mk.lo
    simp [rowD]
    refine lrun_ok 4 20 (by omega) (by omega) S' x md.1 y _ _ hx (ho _ mem).2.2 mk.cb (by omega) (by omega) ?_
    intro S2 u a2 b2 hg m2 hu ha2 hb2
    simp
    refine (addD_ref (m2.lst l1) ha2).mpr ⟨by omega, ?_⟩
    have m3 : More S2 (S2 ++ [.lst (md.2.1 ++ (runP 4 md.1 y).2.1)]) := More.new _
    refine (addD_ref (m3.lst (m2.lst l2)) (m3.lst hb2)).mpr ⟨by rw [List.length_map, List.length_map]; omega, ?_⟩
    have m4 : More (S2 ++ [.lst (md.2.1 ++ (runP 4 md.1 y).2.1)]) (S2 ++ [.lst (md.2.1 ++ (runP 4 md.1 y).2.1)] ++ [.lst (md.2.2.map .str ++ (runP 4 md.1 y).2.2.map .str)]) := More.new _
    have ml := m2.len
    have ml2 := mo.len
    refine ⟨_, _, _, _, _, rfl, mo.trans (m2.trans (m3.trans m4)), by simp; omega, .inr ⟨_, rfl, (m3.trans m4).lst hu⟩, m4.lst lstO_new, ?_⟩
    rw [lstO_new]
    simp [stepM]
  · rintro ρ S' ⟨x, a, b, x4, x5, rfl, mo, hab, hx, l1, l2⟩
    rw [List.length_map, List.take_length] at l1 l2
    simp
    exact h S' a b hab.1 hab.2 mo l1 l2
theorem lsent_ok {q k : Nat} {s p : Int} (hq : lstO S q = some (es.map Ev.d)) (ho : ∀ e ∈ es, EvOk e) (hl : es.length ≤ 50) (h : ∀ S' r, S.length ≤ r → More S S' → lstO S' r = some (sentP (es.take k) s p) → P (.ref r) S') : (m__law_sent [.ref q, .int (k : Int), .int s, .int p] S).Ok P := by
  have po := past_ok (p := s) (es := es.take k) fun x mx => ho x (List.mem_of_mem_take mx)
  have pl : (pastP (es.take k) s).length ≤ 50 := by have := po.2; simp at this; omega
  have mk := made_ok po.1 (by omega)
  simp [m__law_sent]
  refine lpast_ok hq ho hl fun S1 r lr m1 h1 => ?_
  refine lmade_ok h1 po.1 (by omega) fun S2 a b la lb m2 ha hb => ?_
  simp
  refine ⟨_, itO_ref ha, ?_⟩
  have ls := mk.ls
  refine lc_xs (S := S2) (madeP (pastP (es.take k) s)).2.1 id (sentD p) (by simp) rfl rfl (fun S' mo z mz => ?_) (by omega) (fun x S' mx mo => ?_) fun S7 m7 h7 => ?_
  · rw [List.mem_singleton.mp mz]
    exact mo _ _ (lstO_at ha)
  · obtain ⟨q', c', d', rfl, hd'⟩ := mk.snd x mx
    simp [sentD]
    by_cases e : q' = p <;> simp [e] <;> exact More.refl _
  · exact h S7 _ (by have := m1.len; have := m2.len; omega) (m1.trans (m2.trans m7)) h7
end
end Fg
set_option Elab.async false
set_option linter.all false
set_option maxRecDepth 100000
set_option maxHeartbeats 1000000
namespace Fg
open PySem PySem.Spec PyProof.Rows L2 L3
variable {S : Store} {P : L3.D → Store → Prop}
section
variable {n m : Nat} {es : List Ev} {S' : Store}
open Classical in
noncomputable def askF (t : L3.D) (e : Ev) : Option L3.D := match e with
  | .sub _ p n d => if L3.D.tup [.int p, .int n, d] = t then some e.d else none
  | _ => none
theorem ask_len {t : L3.D} {L : List Ev} : (L.filterMap (askF t)).length = 0 ↔ t ∉ subsP L := by
  rw [List.length_eq_zero_iff, List.filterMap_eq_nil_iff]
  unfold subsP
  rw [List.mem_filterMap]
  constructor
  · rintro h ⟨e, me, q⟩
    have := h e me
    cases e with
    | sub k p n d =>
      simp at q
      unfold askF at this
      dsimp only at this
      rw [if_pos q] at this
      cases this
    | _ => cases q
  · intro h e me
    cases e with
    | sub k p n d =>
      unfold askF
      dsimp only
      rw [if_neg]
      intro z
      exact h ⟨_, me, by simpa using z⟩
    | _ => rfl
theorem ask_some {k p n : Int} {d t : L3.D} (h : L3.D.tup [.int p, .int n, d] = t) : askF t (.sub k p n d) = some (Ev.sub k p n d).d := by
  unfold askF
  exact if_pos h
theorem ask_none {k p n : Int} {d t : L3.D} (h : L3.D.tup [.int p, .int n, d] ≠ t) : askF t (.sub k p n d) = none := by
  unfold askF
  exact if_neg h
def LT (q : Nat) (S : Store) (ρ : DE) (S' : Store) : Prop := (∃ x1 x2 x3 x4 x5 x6 x7 x8, ρ = [some (.ref q), x1, x2, x3, x4, x5, x6, x7, x8]) ∧ More S S'
def LU (q : Nat) (S : Store) (ρ : DE) (S' : Store) : Prop := (∃ x1, ρ = [some (.ref q), x1]) ∧ More S S'
theorem ltakes_ok {q : Nat} (hq : lstO S q = some (es.map Ev.d)) (ho : ∀ e ∈ es, EvOk e) (hl : es.length ≤ 50) (h : ∀ S', More S S' → P (alongD takeF es) S') : (m__law_takes [.ref q] S).Ok P := by
  simp [m__law_takes, lenF_ref hq]
  refine ⟨by omega, ?_⟩
  refine for_first (RR := More S) (fun i => (es[i]?).bind (takeF (es.take i))) (fun i ρ S' => LT q S ρ S') ⟨⟨_, _, _, _, _, _, _, _, rfl⟩, More.refl _⟩ (fun i ρ S' _ hI => srcOk_nil) ?_ ?_ ?_
  · rintro i d ρ S' hi ⟨⟨x1, x2, x3, x4, x5, x6, x7, x8, rfl⟩, mo⟩
    have hlt := (List.getElem?_eq_some_iff.mp hi).1
    rw [List.length_map, List.length_range] at hlt
    rw [List.getElem?_map, List.getElem?_range hlt] at hi
    cases hi
    have he := List.getElem?_eq_getElem hlt
    generalize es[i] = e at he
    rw [along_at he]
    have hok := ho e (List.mem_of_getElem? he)
    have sub : ∀ x ∈ es.take i, EvOk x := fun x mx => ho x (List.mem_of_mem_take mx)
    have lte : (es.take i).length ≤ 50 := by simp; omega
    have ai : atI (es.map Ev.d) (i : Int) = some e.d := atI_nat (by rw [List.getElem?_map, he]; rfl)
    simp [mo.lst hq, ai, ev_ix0]
    by_cases ck : e.kind = "take"
    · refine .inr ⟨ck, ?_⟩
      cases e with
      | tak k p v s c d =>
        simp [Ev.d, mo.lst hq, ai]
        have po := past_ok (p := p) sub
        refine lpast_ok (mo.lst hq) ho hl fun S2 r lr m2 hr => ?_
        refine ⟨_, itO_ref hr, rows_count hr (by omega) (s := s) ?_ ?_⟩
        · intro x S3 mx
          simp [rowD]
          exact (Classical.em _).symm
        · intro S3 m3 h3
          have e3 : lenF [.ref S2.length] S3 = some (.int (countS (pastP (es.take i) p) s : Int), S3) := lenF_ref h3
          have mS3 := mo.trans (m2.trans m3)
          rw [e3, okO_some]
          have comm : (1 : Int) + (countS (pastP (es.take i) p) s : Int) = (countS (pastP (es.take i) p) s : Int) + 1 := by omega
          simp
          by_cases c1 : c = (countS (pastP (es.take i) p) s : Int) + 1
          · refine .inl ⟨by omega, ?_⟩
            have hs : slD (.ref q) none (some (i : Int)) S3 = some (.ref S3.length, S3 ++ [.lst ((es.take i).map Ev.d)]) := by
              simp only [slD, mS3.lst hq, Option.map_some, cutD_to, List.map_take]
            rw [hs, okO_some]
            refine ⟨_, itO_ref lstO_new, ?_⟩
            refine lc_xs (S := S3 ++ [.lst ((es.take i).map Ev.d)]) (es.take i) Ev.d (askF (.tup [.int p, .int c, d])) rfl rfl rfl (fun S' mo z mz => ?_) (by omega) (fun x S' mx mo => ?_) fun S7 m7 h7 => ?_
            · rw [List.mem_singleton.mp mz]
              exact mo _ _ (by simp)
            · have hx := sub x mx
              simp [ev_ix0]
              by_cases cx : x.kind = "submit"
              · refine .inr ⟨cx, ?_⟩
                cases x with
                | sub k' p' c' d' =>
                  have hc : L3.cutD [L3.D.str "submit", .int k', .int p', .int c', d'] (some 2) none = [.int p', .int c', d'] := cutD_from (a := 2)
                  simp [Ev.d, hc]
                  have pb : ∀ {a b : Int} {d : L3.D}, pay4 d → Pb 5 (.tup [.int a, .int b, d]) := fun {a b d} hd => Pb.tup (by simp) fun x mx => by
                    simp at mx
                    rcases mx with rfl | rfl | rfl
                    · exact Pb.int
                    · exact Pb.int
                    · exact pay_pb hd
                  refine eqD_plain (n := 5) (m := 5) (by omega) (by omega) (pb hx.2) (pb hok.2.2.2) fun bb hb => ?_
                  cases bb with
                  | false => exact .inl ⟨rfl, ask_none (fun z => by have := hb.mpr z; cases this), More.refl _⟩
                  | true => exact .inr ⟨rfl, ask_some (hb.mp rfl), More.refl _⟩
                | _ => simp [Ev.kind] at cx
              · refine .inl ⟨cx, ?_, More.refl _⟩
                cases x <;> first | rfl | (exact absurd rfl cx)
            · have e7 : lenF [.ref (S3 ++ [O.lst ((es.take i).map Ev.d)]).length] S7 = some (.int (((es.take i).filterMap (askF (.tup [.int p, .int c, d]))).length : Int), S7) := lenF_ref h7
              have mS7 := mS3.trans ((More.new _).trans m7)
              have al := ask_len (t := .tup [.int p, .int c, d]) (L := es.take i)
              generalize ((es.take i).filterMap (askF (.tup [.int p, .int c, d]))).length = w at *
              simp
              by_cases c2 : s = -1
              · refine .inr ⟨c2, ?_⟩
                simp at e7
                rw [e7, okO_some]
                simp
                by_cases cw : w = 0
                · refine .inr ⟨cw, ?_, mS7⟩
                  rw [take_tak, if_neg (fun z => z c1), if_pos ⟨c2, al.mp cw⟩]
                · refine .inl ⟨cw, ?_, ⟨_, _, _, _, _, _, _, _, rfl⟩, mS7⟩
                  rw [take_tak, if_neg (fun z => z c1), if_neg (fun z => cw (al.mpr z.2))]
              · refine .inl ⟨c2, ?_, ⟨_, _, _, _, _, _, _, _, rfl⟩, mS7⟩
                rw [take_tak, if_neg (fun z => z c1), if_neg (fun z => c2 z.1)]
          · refine .inr ⟨by omega, ?_, mS3⟩
            rw [take_tak, if_pos c1]
      | _ => simp [Ev.kind] at ck
    · refine .inl ⟨ck, ?_, ⟨_, _, _, _, _, _, _, _, rfl⟩, mo⟩
      cases e <;> first | rfl | (exact absurd rfl ck)
  · rintro ρ S' hF ⟨_, mo⟩
    rw [← show alongD takeF es = .non from first_none (by simpa using hF)]
    exact h S' mo
  · intro i v S' hi hF hv mo
    rw [← show alongD takeF es = v from first_some (by simpa using hi) hF hv]
    exact h S' mo
theorem lundos_ok {q : Nat} (hq : lstO S q = some (es.map Ev.d)) (ho : ∀ e ∈ es, EvOk e) (hl : es.length ≤ 50) (h : ∀ S', More S S' → P (alongD undoF es) S') : (m__law_undos [.ref q] S).Ok P := by
  simp [m__law_undos, lenF_ref hq]
  refine ⟨by omega, ?_⟩
  refine for_first (RR := More S) (fun i => (es[i]?).bind (undoF (es.take i))) (fun i ρ S' => LU q S ρ S') ⟨⟨_, rfl⟩, More.refl _⟩ (fun i ρ S' _ hI => srcOk_nil) ?_ ?_ ?_
  · rintro i d ρ S' hi ⟨⟨x1, rfl⟩, mo⟩
    have hlt := (List.getElem?_eq_some_iff.mp hi).1
    rw [List.length_map, List.length_range] at hlt
    rw [List.getElem?_map, List.getElem?_range hlt] at hi
    cases hi
    have he := List.getElem?_eq_getElem hlt
    generalize es[i] = e at he
    rw [along_at he]
    have hok := ho e (List.mem_of_getElem? he)
    have ai : atI (es.map Ev.d) (i : Int) = some e.d := atI_nat (by rw [List.getElem?_map, he]; rfl)
    simp [mo.lst hq, ai, ev_ix0, ev_ix2]
    by_cases ck : e.kind = "undo"
    · refine .inr ⟨ck, ?_⟩
      cases e with
      | und k p c =>
        refine lpast_ok (mo.lst hq) ho hl fun S2 r lr m2 hr => ?_
        have hc := hok.2.1
        rw [lenF_ref hr, okO_some]
        simp [m2.lst (mo.lst hq), ai, Ev.d]
        by_cases g : (pastP (es.take i) p).length ≤ c.toNat
        · exact .inr ⟨by show ((pastP (es.take i) p).length : Int) ≤ c; omega, by simp [undoF, Ev.p, g], mo.trans m2⟩
        · exact .inl ⟨by show c < ((pastP (es.take i) p).length : Int); omega, by simp [undoF]; omega, ⟨_, rfl⟩, mo.trans m2⟩
      | _ => simp [Ev.kind] at ck
    · refine .inl ⟨ck, ?_, ⟨_, rfl⟩, mo⟩
      cases e <;> first | rfl | (exact absurd rfl ck)
  · rintro ρ S' hF ⟨_, mo⟩
    rw [← show alongD undoF es = .non from first_none (by simpa using hF)]
    exact h S' mo
  · intro i v S' hi hF hv mo
    rw [← show alongD undoF es = v from first_some (by simpa using hi) hF hv]
    exact h S' mo
def LS (q : Nat) (S : Store) (ρ : DE) (S' : Store) : Prop := (∃ x1 x2 x3 x4 x5, ρ = [some (.ref q), x1, x2, x3, x4, x5]) ∧ More S S'
def showG (p : Int) (e : Ev) : Option L3.D := match e with
  | .shw _ q _ x => if q = p then some (.str x) else none
  | _ => none
theorem shown_map {p : Int} {L : List Ev} : L.filterMap (showG p) = (shownP L p).map .str := by
  unfold shownP
  rw [List.map_filterMap]
  congr 1
  funext e
  cases e with
  | shw k q c x =>
    by_cases g : q = p
    · simp [showG, g]
    · simp [showG, g]
  | _ => rfl
theorem one_str {ts : List Str} {j : Nat} {x : Str} : ((ts.map L3.D.str).drop j).take 1 = [.str x] ↔ ts[j]? = some x := by
  rw [← List.map_drop, ← List.map_take, List.take_one]
  rw [List.head?_drop]
  cases ts[j]? with
  | none => simp
  | some y => simp
theorem one_any {ts : List L3.D} {j : Nat} {x : L3.D} : (ts.drop j).take 1 = [x] ↔ ts[j]? = some x := by
  rw [List.take_one, List.head?_drop]
  cases ts[j]? with
  | none => simp
  | some y => simp
theorem cut_one {xs : List L3.D} {j : Nat} : L3.cutD xs (some (j : Int)) (some ((j : Int) + 1)) = (xs.drop j).take 1 := by
  unfold L3.cutD
  rw [show (j : Int) + 1 = ((j + 1 : Nat) : Int) by omega, HT.sIx_nat, HT.sIx_nat]
  by_cases h : j < xs.length
  · rw [Nat.min_eq_left (by omega), Nat.min_eq_left (by omega)]
    congr 1
    omega
  · rw [Nat.min_eq_right (by omega), Nat.min_eq_right (by omega), List.drop_eq_nil_of_le (by omega), List.drop_eq_nil_of_le (by omega)]
    simp
theorem lshows_ok {q : Nat} (hq : lstO S q = some (es.map Ev.d)) (ho : ∀ e ∈ es, EvOk e) (hl : es.length ≤ 50) (h : ∀ S', More S S' → P (alongD showF es) S') : (m__law_shows [.ref q] S).Ok P := by
  simp [m__law_shows, lenF_ref hq]
  refine ⟨by omega, ?_⟩
  refine for_first (RR := More S) (fun i => (es[i]?).bind (showF (es.take i))) (fun i ρ S' => LS q S ρ S') ⟨⟨_, _, _, _, _, rfl⟩, More.refl _⟩ (fun i ρ S' _ hI => srcOk_nil) ?_ ?_ ?_
  · rintro i d ρ S' hi ⟨⟨x1, x2, x3, x4, x5, rfl⟩, mo⟩
    have hlt := (List.getElem?_eq_some_iff.mp hi).1
    rw [List.length_map, List.length_range] at hlt
    rw [List.getElem?_map, List.getElem?_range hlt] at hi
    cases hi
    have he := List.getElem?_eq_getElem hlt
    have et := take_snoc he
    generalize es[i] = e at he et
    rw [along_at he]
    have hok := ho e (List.mem_of_getElem? he)
    have sub : ∀ x ∈ es.take i, EvOk x := fun x mx => ho x (List.mem_of_mem_take mx)
    have sub2 : ∀ x ∈ es.take (i + 1), EvOk x := fun x mx => ho x (List.mem_of_mem_take mx)
    have ai : atI (es.map Ev.d) (i : Int) = some e.d := atI_nat (by rw [List.getElem?_map, he]; rfl)
    have hq1 := mo.lst hq
    simp [hq1, ai, ev_ix2]
    have hs : slD (.ref q) none (some (i : Int)) S' = some (.ref S'.length, S' ++ [.lst ((es.take i).map Ev.d)]) := by
      simp only [slD, hq1, Option.map_some, cutD_to, List.map_take]
    rw [hs, okO_some]
    refine ⟨_, itO_ref lstO_new, ?_⟩
    refine lc_xs (S := S' ++ [.lst ((es.take i).map Ev.d)]) (es.take i) Ev.d (showG e.p) rfl rfl rfl (fun S' mo z mz => ?_) (by simp; omega) (fun x S' mx mo => ?_) fun S2 m2 h2 => ?_
    · rw [List.mem_singleton.mp mz]
      exact mo _ _ (by simp)
    · simp [ev_ix0, ev_ix2]
      by_cases cx : x.kind = "show"
      · refine .inr ⟨cx, ?_⟩
        cases x with
        | shw k' p' c' x' =>
          simp [Ev.d, showG]
          by_cases g : p' = e.p
          · exact .inr ⟨g, g, More.refl _⟩
          · exact .inl ⟨g, g, More.refl _⟩
        | _ => simp [Ev.kind] at cx
      · refine .inl ⟨cx, ?_, More.refl _⟩
        cases x <;> first | rfl | (exact absurd rfl cx)
    · rw [shown_map] at h2
      have m02 : More S' S2 := (More.new _).trans m2
      have hq2 := m02.lst hq1
      generalize (S' ++ [O.lst ((es.take i).map Ev.d)]).length = r at h2
      have so := shows_ok (p := e.p) sub
      have po := past_ok (p := e.p) sub2
      have pl : (pastP (es.take (i + 1)) e.p).length ≤ 1000 := by
        have := po.2
        rw [List.length_take] at this
        omega
      have mk := made_ok po.1 pl
      rw [show (i : Int) + 1 = ((i + 1 : Nat) : Int) by omega]
      simp
      refine lpast_ok hq2 ho hl fun S3 r3 _ m3 h3 => ?_
      refine lmade_ok h3 po.1 pl fun S4 a b la lab m4 ha hb => ?_
      have m24 := m3.trans m4
      have mS4 := mo.trans (m02.trans m24)
      have hq4 := m24.lst hq2
      have hr4 := m24.lst h2
      have hb' : lstO S4 b = some ((textsP (es.take (i + 1)) e.p).map .str) := hb
      rw [et] at hb'
      have hT : ∀ y ∈ textsP (es.take i ++ [e]) e.p, near y ∧ y.length ≤ 1000 := fun y my => OutOk.pb (mk.out y (by rw [et]; exact my))
      simp [hq4, ai, ev_ix0]
      by_cases ck : e.kind = "undo"
      · refine .inr ⟨ck, ?_⟩
        cases e with
        | und k p c =>
          rw [show (Ev.und k p c).p = p from rfl] at *
          rw [lenF_ref hr4, okO_some]
          have hs : slD (.ref b) none (some (((shownP (es.take i) p).map L3.D.str).length : Int)) S4 = some (.ref S4.length, S4 ++ [.lst (((textsP (es.take i ++ [.und k p c]) p).map .str).take ((shownP (es.take i) p).map L3.D.str).length)]) := by
            simp only [slD, hb', Option.map_some, cutD_to]
          have m5 : More S4 (S4 ++ [.lst (((textsP (es.take i ++ [.und k p c]) p).map L3.D.str).take ((shownP (es.take i) p).map L3.D.str).length)]) := More.new _
          have hq5 := m5.lst hq4
          refine ⟨_, rfl, ?_⟩
          rw [hs, okO_some]
          refine neD_lists (n := 0) (m := 0) (by omega) (by omega) lstO_new (m5.lst hr4) (fun x mx => ?_) (fun x mx => ?_) fun bb hb2 => ?_
          · obtain ⟨y, my, rfl⟩ := List.mem_map.mp (List.mem_of_mem_take mx)
            have := hT y my
            exact Pb.str this.1 this.2
          · obtain ⟨y, my, rfl⟩ := List.mem_map.mp mx
            have := so.1 y my
            exact Pb.str this.1 this.2
          · rw [List.length_map, ← List.map_take, strs_inj] at hb2
            have mS5 := mS4.trans m5
            generalize S4 ++ [O.lst (((textsP (es.take i ++ [.und k p c]) p).map L3.D.str).take ((shownP (es.take i) p).map L3.D.str).length)] = S5 at *
            cases bb with
            | false =>
              simp [Ev.kind, hq5, ai, ev_ix0]
              refine ⟨?_, ⟨_, _, _, _, _, rfl⟩, mS5⟩
              unfold showF
              exact if_neg (fun z => z (hb2.mp rfl))
            | true =>
              simp [hq5, ai, Ev.d]
              refine ⟨?_, mS5⟩
              unfold showF
              exact if_pos (fun z => by have := hb2.mpr z; cases this)
        | _ => simp [Ev.kind] at ck
      · refine .inl ⟨ck, ?_⟩
        by_cases cs : e.kind = "show"
        · refine .inr ⟨cs, ?_⟩
          cases e with
          | shw k p c x =>
            rw [show (Ev.shw k p c x).p = p from rfl] at *
            have hx := hok.2
            simp [hq4, ai, Ev.d, lenF_ref hr4]
            by_cases g : c = ((shownP (es.take i) p).length : Int) + 1
            · refine .inl ⟨g, ?_⟩
              have eF : showF (es.take i) (.shw k p c x) = if (textsP (es.take i ++ [.shw k p c x]) p)[(c - 1).toNat]? ≠ some x then some (.tup [.str "show", .int p, .int c]) else none := if_neg (fun z => z g)
              rw [eF]
              generalize textsP (es.take i ++ [.shw k p c x]) p = ts at *
              obtain ⟨j, rfl⟩ : ∃ j : Nat, c = (j : Int) + 1 := ⟨(c - 1).toNat, by omega⟩
              have ej : ((j : Int) + 1 - 1).toNat = j := by omega
              have ej2 : (j : Int) + 1 - 1 = (j : Int) := by omega
              have hs : slD (.ref b) (some (j : Int)) (some ((j : Int) + 1)) S4 = some (.ref S4.length, S4 ++ [.lst (((ts.map L3.D.str).drop j).take 1)]) := by
                simp only [slD, hb', Option.map_some, cut_one]
              rw [ej2, hs, okO_some]
              have m5 : More S4 (S4 ++ [.lst (((ts.map L3.D.str).drop j).take 1)]) := More.new _
              have hq5 := m5.lst hq4
              have hq6 := (More.new (.lst [.str x])).lst hq5
              have mS5 := mS4.trans m5
              simp [hq5, ai, Ev.d]
              have n5 : lstO (S4 ++ [.lst (((ts.map L3.D.str).drop j).take 1)]) S4.length = some (((ts.map L3.D.str).drop j).take 1) := lstO_new
              have hq7 : lstO (S4 ++ [.lst (((ts.map L3.D.str).drop j).take 1), .lst [.str x]]) q = some (es.map Ev.d) := by
                have := hq6
                rw [List.append_assoc] at this
                exact this
              have n6 : lstO (S4 ++ [.lst (((ts.map L3.D.str).drop j).take 1), .lst [.str x]]) S4.length = some (((ts.map L3.D.str).drop j).take 1) := lstO_off (i := 0) rfl
              have n7 : lstO (S4 ++ [.lst (((ts.map L3.D.str).drop j).take 1), .lst [.str x]]) (S4.length + 1) = some [.str x] := lstO_off (i := 1) rfl
              have m7 : More S4 (S4 ++ [.lst (((ts.map L3.D.str).drop j).take 1), .lst [.str x]]) := More.app _
              have mS7 := mS4.trans m7
              refine neD_lists (n := 0) (m := 0) (by omega) (by omega) n6 n7 (fun y my => ?_) (fun y my => ?_) fun bb hb2 => ?_
              · obtain ⟨z, mz, rfl⟩ := List.mem_map.mp (List.mem_of_mem_drop (List.mem_of_mem_take my))
                have := hT z mz
                exact Pb.str this.1 this.2
              · rw [List.mem_singleton.mp my]
                exact Pb.str hx.2.1 hx.2.2
              · rw [one_str] at hb2
                cases bb with
                | false =>
                  simp
                  refine ⟨by simpa [ej] using hb2.mp rfl, ⟨_, _, _, _, _, rfl⟩, mS7⟩
                | true =>
                  simp [hq7, ai, Ev.d]
                  refine ⟨?_, mS7⟩
                  intro z
                  have := hb2.mpr z
                  cases this
            · refine .inr ⟨g, ?_, mS4⟩
              unfold showF
              exact if_pos g
          | _ => simp [Ev.kind] at cs
        · refine .inl ⟨cs, ?_, ⟨_, _, _, _, _, rfl⟩, mS4⟩
          cases e <;> first | rfl | (exact absurd rfl ck) | (exact absurd rfl cs)
  · rintro ρ S' hF ⟨_, mo⟩
    rw [← show alongD showF es = .non from first_none (by simpa using hF)]
    exact h S' mo
  · intro i v S' hi hF hv mo
    rw [← show alongD showF es = v from first_some (by simpa using hi) hF hv]
    exact h S' mo
end
end Fg
set_option Elab.async false
set_option linter.all false
set_option maxRecDepth 100000
set_option maxHeartbeats 1000000
namespace Fg
open PySem PySem.Spec PyProof.Rows L2 L3
variable {S : Store} {P : L3.D → Store → Prop}
theorem cdw (z m : Int) (h0 : 0 < m) (h1 : m.natAbs.log2 < 9000) : CDivW z m := ⟨h0, h1⟩
theorem lpay_ok {c : Nat} (c1 : 1 ≤ c) (c10 : c ≤ 10) : ∀ (n f : Nat), n + 1 ≤ f → ∀ (S : Store) (P : L3.D → Store → Prop) (z : Int), (∀ d, payD (.int (c : Int)) (n + 1) d = true → P d S) → (rec__law_payload f [.int z, .int (c : Int), .int (n : Int)] S).Ok P := by
  have d4 : ∀ z : Int, CDivW z 4 := fun z => ⟨by decide, by decide +kernel⟩
  have d9 : ∀ z : Int, CDivW z 9 := fun z => ⟨by decide, by decide +kernel⟩
  have d1 : ∀ z : Int, CDivW z 6561 := fun z => ⟨by decide, by decide +kernel⟩
  have d2 : ∀ z : Int, CDivW z 26244 := fun z => ⟨by decide, by decide +kernel⟩
  have m4 : ∀ z : Int, 0 ≤ z % 4 ∧ z % 4 < 4 := fun z => ⟨Int.emod_nonneg _ (by decide), Int.emod_lt_of_pos _ (by decide)⟩
  have m9 : ∀ z : Int, 0 ≤ z % 9 ∧ z % 9 < 9 := fun z => ⟨Int.emod_nonneg _ (by decide), Int.emod_lt_of_pos _ (by decide)⟩
  have m41 : ∀ z : Int, 0 ≤ z % 41 ∧ z % 41 < 41 := fun z => ⟨Int.emod_nonneg _ (by decide), Int.emod_lt_of_pos _ (by decide)⟩
  have m21 : ∀ z : Int, 0 ≤ z % 21 ∧ z % 21 < 21 := fun z => ⟨Int.emod_nonneg _ (by decide), Int.emod_lt_of_pos _ (by decide)⟩
  have dc : ∀ z : Int, CDivW z (c : Int) := fun z => ⟨by omega, log_sm (by omega) (by omega)⟩
  have mc : ∀ z : Int, 0 ≤ z % (c : Int) ∧ z % (c : Int) < c := fun z => ⟨Int.emod_nonneg _ (by omega), Int.emod_lt_of_pos _ (by omega)⟩
  have c0 : 0 < (c : Int) := by omega
  intro n
  induction n with
  | zero =>
    intro f hf S P z h
    obtain ⟨f, rfl⟩ : ∃ k, f = k + 1 := ⟨f - 1, by omega⟩
    simp [rec__law_payload, m__law_payload_c1, d4, d9]
    have q := m9 z
    have q4 := m4 (z / 9)
    have q44 := m4 (z / 9 / 4)
    have q41 := m41 (z / 9 / 4)
    have q21 := m21 (z / 9 / 4)
    by_cases c0 : z % 9 = 0
    · exact .inr ⟨c0, h _ (pay_set q4.1 q4.2 (by omega) (by omega))⟩
    refine .inl ⟨c0, ?_⟩
    by_cases c1 : z % 9 = 1
    · exact .inr ⟨c1, h _ (pay_copy q4.1 q4.2 q44.1 q44.2)⟩
    refine .inl ⟨c1, ?_⟩
    by_cases c2 : z % 9 = 2
    · exact .inr ⟨c2, h _ (pay_show q4.1 q4.2)⟩
    refine .inl ⟨c2, ?_⟩
    by_cases c3 : z % 9 = 3
    · exact .inr ⟨c3, h _ (pay_show q4.1 q4.2)⟩
    exact .inl ⟨c3, h _ (pay_add q4.1 q4.2 (by omega) (by omega))⟩
  | succ n ih =>
    intro f hf S P z h
    obtain ⟨f, rfl⟩ : ∃ k, f = k + 1 := ⟨f - 1, by omega⟩
    simp [rec__law_payload, m__law_payload_c1, d4, d9, d1, d2, dc, (by omega : 0 < c)]
    have q := m9 z
    have q4 := m4 (z / 9)
    have q44 := m4 (z / 9 / 4)
    have q41 := m41 (z / 9 / 4)
    have q21 := m21 (z / 9 / 4)
    by_cases c0 : z % 9 = 0
    · exact .inr ⟨c0, h _ (pay_set q4.1 q4.2 (by omega) (by omega))⟩
    refine .inl ⟨c0, ?_⟩
    by_cases c1 : z % 9 = 1
    · exact .inr ⟨c1, h _ (pay_copy q4.1 q4.2 q44.1 q44.2)⟩
    refine .inl ⟨c1, ?_⟩
    by_cases c2 : z % 9 = 2
    · exact .inr ⟨c2, h _ (pay_show q4.1 q4.2)⟩
    refine .inl ⟨c2, ?_⟩
    by_cases c3 : z % 9 = 3
    · exact .inr ⟨c3, h _ (pay_show q4.1 q4.2)⟩
    refine .inl ⟨c3, ?_⟩
    by_cases c6 : z % 9 < 6
    · exact .inr ⟨c6, ih f (by omega) S _ _ fun d hd => h _ (pay_send (by omega) (by omega) (mc _).1 (mc _).2 hd)⟩
    refine .inl ⟨by omega, ?_⟩
    by_cases c8 : z % 9 < 8
    · exact .inr ⟨c8, ih f (by omega) S _ _ fun d hd => ih f (by omega) S _ _ fun e he => h _ (pay_both hd he)⟩
    · exact .inl ⟨by omega, ih f (by omega) S _ _ fun d hd => ih f (by omega) S _ _ fun e he => h _ (pay_if q4.1 q4.2 hd he)⟩
def SendIn (c n : Nat) (e : L3.D) : Prop := ∃ (q : Nat) (d : L3.D), e = .tup [.int (q : Int), d] ∧ q < c ∧ payD (.int (c : Int)) n d = true
theorem run_in {c : Nat} : ∀ (n : Nat) (cs : List Int) (d : L3.D), payD (.int (c : Int)) n d = true → ∀ e ∈ (runP n cs d).2.1, SendIn c n e
  | 0, cs, d, h => by cases h
  | n + 1, cs, d, h => by
    have up : ∀ e, SendIn c n e → SendIn c (n + 1) e := fun e ⟨q, d, e1, e2, e3⟩ => ⟨q, d, e1, e2, pay_up (by omega) e3⟩
    rcases pay_cases h with ⟨a, v, rfl, a0, a1, v0, v1⟩ | ⟨a, v, rfl, a0, a1, v0, v1⟩ | ⟨a, b, rfl, a0, a1, b0, b1⟩ | ⟨q, e, rfl, q0, q1, he, hp⟩ | ⟨a, rfl, a0, a1⟩ | ⟨e, f, rfl, he, hf⟩ | ⟨a, e, f, rfl, a0, a1, he, hf⟩
    · simp [runP]
    · simp [runP]
    · simp [runP]
    · obtain ⟨q, rfl⟩ := Int.eq_ofNat_of_zero_le q0
      simp [isProcD, isIntD] at hp
      simp [runP]
      exact ⟨q, e, rfl, by omega, pay_up (by omega) he⟩
    · simp [runP]
    · have er : (runP (n + 1) cs (.tup [.str "both", e, f])).2.1 = (runP n cs e).2.1 ++ (runP n (runP n cs e).1 f).2.1 := by simp [runP]
      rw [er]
      intro x m
      rcases List.mem_append.mp m with m | m
      · exact up _ (run_in n _ _ he x m)
      · exact up _ (run_in n _ _ hf x m)
    · have er : runP (n + 1) cs (.tup [.str "if", .int a, e, f]) = runP n cs (if cs.getD (cellN (.int a)) 0 = 0 then f else e) := by simp [runP]
      rw [er]
      intro x m
      split at m
      · exact up _ (run_in n _ _ hf x m)
      · exact up _ (run_in n _ _ he x m)
section
variable {n m : Nat} {es : List Ev} {S' : Store}
def LR (q : Nat) (S : Store) (ρ : DE) (S' : Store) : Prop := (∃ x1 x2 x3 x4, ρ = [some (.ref q), x1, x2, x3, x4]) ∧ More S S'
def LRi (q : Nat) (p : Int) (S : Store) (ρ : DE) (S' : Store) : Prop := (∃ x2 x3 x4, ρ = [some (.ref q), some (.int p), x2, x3, x4]) ∧ More S S'
theorem lruns_ok {q : Nat} (hq : lstO S q = some (es.map Ev.d)) (ho : ∀ e ∈ es, EvOk e) (hl : es.length ≤ 50) (h : ∀ S', More S S' → P (runsD es) S') : (m__law_runs [.ref q] S).Ok P := by
  simp [m__law_runs]
  refine for_first (RR := More S) (fun i => (([0, 1, 2] : List Int)[i]?).bind (runOne es)) (fun i ρ S' => LR q S ρ S') ⟨⟨_, _, _, _, rfl⟩, More.refl _⟩ (fun i ρ S' _ hI => srcOk_nil) ?_ ?_ ?_
  · rintro i d ρ S3 hi ⟨⟨x1, x2, x3, x4, rfl⟩, mo3⟩
    obtain ⟨p, hp, rfl⟩ : ∃ p : Int, (([0, 1, 2] : List Int)[i]?) = some p ∧ d = .int p := by
      match i, hi with
      | 0, hi => cases hi; exact ⟨_, rfl, rfl⟩
      | 1, hi => cases hi; exact ⟨_, rfl, rfl⟩
      | 2, hi => cases hi; exact ⟨_, rfl, rfl⟩
      | i + 3, hi => cases hi
    rw [hp, Option.bind_some]
    have po := past_ok (p := p) ho
    have hq3 := mo3.lst hq
    simp [lenF_ref hq3]
    refine lpast_ok hq3 ho hl fun S4 r lr m4 hr => ?_
    rw [List.take_length] at hr
    refine ⟨_, itO_ref hr, ?_⟩
    refine for_first (RR := More S) (fun j => ((pastP es p)[j]?).bind (runRow es p)) (fun j ρ S5 => LRi q p S4 ρ S5) ⟨⟨_, _, _, rfl⟩, More.refl _⟩ (fun i ρ S' _ hI => ?_) ?_ ?_ ?_
    · intro z hz
      rw [List.mem_singleton.mp hz]
      exact hI.2 _ _ (lstO_at hr)
    · rintro j d ρ S5 hj ⟨⟨x2, x3, x4, rfl⟩, m5⟩
      rw [List.getElem?_map] at hj
      obtain ⟨⟨s, c, y⟩, hx, rfl⟩ := Option.map_eq_some_iff.mp hj
      rw [hx, Option.bind_some]
      have hrow := po.1 _ (List.mem_of_getElem? hx)
      have mS5 := mo3.trans (m4.trans m5)
      have hq5 := mS5.lst hq
      have hs1 := hrow.1.1
      simp [rowD]
      by_cases c1 : s = -1
      · refine .inl ⟨by omega, ?_, ⟨_, _, _, rfl⟩, m5⟩
        unfold runRow
        exact if_neg (fun z => z.1 c1)
      · refine .inr ⟨by simp at hs1; omega, ?_⟩
        have po2 := past_ok (p := s) ho
        have mk := made_ok po2.1 (by omega)
        rw [lenF_ref hq5, okO_some]
        simp
        refine lsent_ok hq5 ho hl fun S6 r6 _ m6 h6 => ?_
        rw [List.take_length] at h6
        obtain ⟨k, rfl⟩ : ∃ k : Nat, c = (k : Int) + 1 := ⟨(c - 1).toNat, by have := hrow.2.1.1; simp at this; omega⟩
        have ej2 : (k : Int) + 1 - 1 = (k : Int) := by omega
        have hs : slD (.ref r6) (some (k : Int)) (some ((k : Int) + 1)) S6 = some (.ref S6.length, S6 ++ [.lst (((sentP es s p).drop k).take 1)]) := by
          simp only [slD, h6, Option.map_some, cut_one]
        rw [ej2, hs, okO_some]
        have n6 : lstO (S6 ++ [.lst (((sentP es s p).drop k).take 1), .lst [y]]) S6.length = some (((sentP es s p).drop k).take 1) := lstO_off (i := 0) rfl
        have n7 : lstO (S6 ++ [.lst (((sentP es s p).drop k).take 1), .lst [y]]) (S6.length + 1) = some [y] := lstO_off (i := 1) rfl
        have m7 : More S6 (S6 ++ [.lst (((sentP es s p).drop k).take 1), .lst [y]]) := More.app _
        have m57 := m5.trans (m6.trans m7)
        have mS7 := mS5.trans (m6.trans m7)
        simp
        refine neD_lists (n := 4) (m := 4) (by omega) (by omega) n6 n7 (fun w mw => ?_) (fun w mw => ?_) fun bb hb2 => ?_
        · have mw := List.mem_of_mem_drop (List.mem_of_mem_take mw)
          obtain ⟨e', me', q'⟩ := List.mem_filterMap.mp mw
          obtain ⟨q1, c1', d1, rfl, hd1⟩ := mk.snd e' me'
          have hw : w = d1 := by
            unfold sentD at q'
            simp at q'
            exact q'.2.symm
          subst hw
          exact pay_pb hd1
        · rw [List.mem_singleton.mp mw]
          exact pay_pb hrow.2.2
        · rw [one_any] at hb2
          cases bb with
          | false => exact .inl ⟨rfl, runRow_none (hb2.mp rfl), ⟨_, _, _, rfl⟩, m57⟩
          | true => exact .inr ⟨rfl, runRow_some c1 (fun z => by have := hb2.mpr z; cases this), mS7⟩
    · rintro ρ S5 hF ⟨⟨x2, x3, x4, rfl⟩, m5⟩
      exact ⟨find_none (by simpa using hF), ⟨_, _, _, _, rfl⟩, mo3.trans (m4.trans m5)⟩
    · intro j v S5 hj hF hv mo5
      exact ⟨find_some hF hv, mo5⟩
  · rintro ρ S3 hF ⟨_, mo3⟩
    have : runsD es = .non := by
      unfold runsD
      rw [find_none (by simpa using hF)]
      rfl
    rw [← this]
    exact h S3 mo3
  · intro i v S3 hi hF hv mo3
    have : runsD es = v := by
      unfold runsD
      rw [find_some hF hv]
      rfl
    rw [← this]
    exact h S3 mo3
open Classical in
/-- events of a kind and a process -/
noncomputable def kindF (k : Str) (p : Int) (f : Ev → L3.D) (e : Ev) : Option L3.D := if e.kind = k ∧ e.p = p then some (f e) else none
theorem kind_some {k : Str} {p : Int} {f : Ev → L3.D} {e : Ev} (h : e.kind = k ∧ e.p = p) : kindF k p f e = some (f e) := if_pos h
theorem kind_none {k : Str} {p : Int} {f : Ev → L3.D} {e : Ev} (h : ¬(e.kind = k ∧ e.p = p)) : kindF k p f e = none := if_neg h
theorem kinds_ok {Q : L3.D → Store → Prop} {q : Nat} {k : Str} {p : Int} {ρ : DE} {mt : MT} {me : ME} {g : MG} (f : Ev → L3.D) (hq : lstO S q = some (es.map Ev.d)) (hl : es.length ≤ 50)
    (step : ∀ e S', e ∈ es → (g e.d ρ S').Ok fun ρ1 S1 => (mt ρ1 S1).Ok fun b S2 => S2 = S' ∧ (b = true ↔ e.kind = k ∧ e.p = p) ∧ (b = true → (me ρ1 S2).Ok fun y S3 => y = f e ∧ S3 = S'))
    (h : ∀ S' r, More S S' → lstO S' r = some (es.filterMap (kindF k p f)) → Q (.ref r) S') : (lcL [(q, .lst (es.map Ev.d))] g mt me ρ S.length (es.map Ev.d) (S ++ [.lst []])).Ok Q := by
  refine lc_xs (S := S) es Ev.d (kindF k p f) rfl rfl rfl (fun S' mo z mz => ?_) (by omega) (fun x S' mx mo => ?_) fun S7 m7 h7 => h S7 _ m7 h7
  · rw [List.mem_singleton.mp mz]
    exact mo _ _ (lstO_at hq)
  · refine R.Ok.imp (step x S' mx) fun ρ1 S1 h1 => R.Ok.imp h1 fun b S2 ⟨e2, hb, h3⟩ => ?_
    subst e2
    cases b with
    | true =>
      rw [if_pos rfl]
      refine R.Ok.imp (h3 rfl) fun y S3 ⟨e3, e4⟩ => ?_
      subst e3 e4
      exact ⟨kind_some (hb.mp rfl), More.refl _⟩
    | false =>
      rw [if_neg Bool.false_ne_true]
      exact ⟨kind_none (fun z => by have := hb.mpr z; cases this), More.refl _⟩
section
variable {q r : Nat} {p kd w s N : Int} {od : Bool} {pl : L3.D} {x1 x9 x10 x11 x12 x13 x14 x15 : Option L3.D} {S1 : Store} {nx bk ct : DE → Store → Prop}
theorem d3' : ∀ z : Int, CDivW z 3 := fun z => ⟨by decide, by decide +kernel⟩
theorem d4' : ∀ z : Int, CDivW z 4 := fun z => ⟨by decide, by decide +kernel⟩
theorem d8' : ∀ z : Int, CDivW z 8 := fun z => ⟨by decide, by decide +kernel⟩
theorem d9' : ∀ z : Int, CDivW z 9 := fun z => ⟨by decide, by decide +kernel⟩
theorem ev_c4 {rf : Nat} {fs : List L3.D} (hf : lstO S1 rf = some fs) (hfs : ∀ d ∈ fs, pay4 d) (hl : es.length ≤ 40) (hfl : fs.length ≤ 1000) (p0 : 0 ≤ p ∧ p < 3) (s0 : -1 ≤ s ∧ s < 3) (n0 : 1 ≤ N ∧ N ≤ 1000) (hpl : pay4 pl) (mo : More S S1) (h : ∀ e S', EvOk e → More S S' → P e.d S') :
    (m__law_event_c4 [some (.ref q), x1, some (.int (es.length : Int)), some (.int p), some (.int kd), some (.int w), some (.bl od), some pl, some (.ref r), some (.int s), some (.int N), some (.ref rf), x12, x13, x14, x15] S1).Ok nx P bk ct := by
  have fin : ∀ pl, pay4 pl → ∀ a, P (.tup [.str "take", .int (es.length : Int), .int p, .int a, .int s, .int (N + w % 9 / 8), pl]) S1 := fun pl hp a => h (.tak _ p a s (N + w % 9 / 8) pl) S1 ⟨p0, s0, by omega, hp⟩ mo
  simp [m__law_event_c4, lenF_ref hf, d3', d9', d8']
  cases od with
  | true =>
    simp
    by_cases c : N ≤ fs.length
    · exact .inr ⟨c, fin _ hpl _⟩
    · exact .inl ⟨by omega, fin _ hpl _⟩
  | false =>
    simp
    by_cases c : N ≤ fs.length
    · obtain ⟨k, rfl⟩ : ∃ k : Nat, N = (k : Int) + 1 := ⟨(N - 1).toNat, by omega⟩
      have hk : k < fs.length := by omega
      have ea : atI fs (k : Int) = some fs[k] := atI_nat (List.getElem?_eq_getElem hk)
      have ej : (k : Int) + 1 - 1 = (k : Int) := by omega
      simp [c, hf, ej, ea]
      exact .inr (fin _ (hfs _ (List.getElem_mem hk)) _)
    · have c' : (fs.length : Int) < N := by omega
      simp [c, c']
      exact h (.crs _ p) S1 ⟨p0, trivial⟩ mo
theorem ev_c6 {ts : List Str} {rt : Nat} {sh : Nat} (hr : lstO S1 r = some ((pastP es p).map rowD)) (hpl : (pastP es p).length ≤ 50) (ht : lstO S1 rt = some (ts.map .str)) (hts : ∀ x ∈ ts, near x ∧ x.length ≤ 1000) (hsh : sh ≤ 50) (p0 : 0 ≤ p ∧ p < 3) (mo : More S S1) (h : ∀ e S', EvOk e → More S S' → P e.d S') :
    (m__law_event_c6 [some (.ref q), x1, some (.int (es.length : Int)), some (.int p), some (.int kd), some (.int w), some (.bl od), some pl, some (.ref r), x9, x10, x11, some (.ref rt), some (.int (sh : Int)), x14, x15] S1).Ok nx P bk ct := by
  have hrl := lenF_ref hr
  have w3 : 0 ≤ w % 3 ∧ w % 3 < 3 := by omega
  have ho : (1 : Int) ≤ (sh : Int) + w % 3 ∨ (sh : Int) + w % 3 < 1 := by omega
  simp [m__law_event_c6, hrl, lenF_ref ht, d3', d4']
  have tail : (if od = true then 1 else 0 : Int) = 0 ∨ (if od = true then 1 else 0 : Int) = 1 := by cases od <;> simp
  generalize eo : (if od = true then 1 else 0 : Int) = oi at tail
  have key : ∀ {A B C : Prop}, (kd = 7 → 0 < (pastP es p).length → B ∧ C) → A → (¬kd = 7 ∧ A ∨ kd = 7 ∧ (pastP es p = [] ∧ A ∨ 0 < (pastP es p).length ∧ B ∧ C)) := fun {A B C} hbc ha => by
    by_cases c1 : kd = 7
    · refine .inr ⟨c1, ?_⟩
      by_cases c2 : pastP es p = []
      · exact .inl ⟨c2, ha⟩
      · have := List.length_pos_iff.mpr c2
        exact .inr ⟨this, hbc c1 this⟩
    · exact .inl ⟨c1, ha⟩
  refine key (fun c1 c2 => ?_) ?_
  · have g : (0 : Int) < (pastP es p).length + oi := by omega
    have g1 := Int.emod_nonneg w (b := ((pastP es p).length : Int) + oi) (by omega)
    have g2 := Int.emod_lt_of_pos w g
    exact ⟨g, h (.und _ p (w % (((pastP es p).length : Int) + oi))) S1 ⟨p0, g1, by omega⟩ mo⟩
  · have at3 : ∃ x : Str, (near x ∧ x.length ≤ 1000) ∧ atI [L3.D.str "0", .str "1", .str "x"] (w % 3) = some (.str x) := by
      have : w % 3 = 0 ∨ w % 3 = 1 ∨ w % 3 = 2 := by omega
      rcases this with e | e | e <;> rw [e]
      · exact ⟨"0", ⟨by unfold near; decide +kernel, by decide +kernel⟩, atI_0⟩
      · exact ⟨"1", ⟨by unfold near; decide +kernel, by decide +kernel⟩, atI_1⟩
      · exact ⟨"x", ⟨by unfold near; decide +kernel, by decide +kernel⟩, atI_2⟩
    obtain ⟨x, hx, hat⟩ := at3
    have hm : 1 ≤ (if 1 < (sh : Int) + w % 3 then (sh : Int) + w % 3 else 1) ∧ (if 1 < (sh : Int) + w % 3 then (sh : Int) + w % 3 else 1) ≤ 1000 := by split <;> omega
    have shw : ∀ {n : Int}, 1 ≤ n ∧ n ≤ 1000 → P (.tup [.str "show", .int (es.length : Int), .int p, .int n, .str x]) (S1 ++ [.lst [.str "0", .str "1", .str "x"]]) := fun {n} hn => h (.shw _ p n x) _ ⟨p0, ⟨hn.1, by omega⟩, hx⟩ (mo.trans (More.new _))
    by_cases c3 : ts.length ≤ sh
    · refine .inl ⟨c3, ?_⟩
      cases od with
      | false => exact .inl ⟨rfl, h (.sta _ p (w % 4)) S1 ⟨p0, trivial⟩ mo⟩
      | true => exact .inr ⟨rfl, _, lstO_new, _, hat, shw hm⟩
    · have c4 : sh < ts.length := by omega
      refine .inr ⟨c4, ?_⟩
      cases od with
      | false =>
        have ha : atI (ts.map L3.D.str) (sh : Int) = some (.str ts[sh]) := atI_nat (by rw [List.getElem?_map, List.getElem?_eq_getElem c4]; rfl)
        exact .inl ⟨rfl, _, ht, _, ha, h (.shw _ p ((sh : Int) + 1) ts[sh]) S1 ⟨p0, ⟨by omega, by omega⟩, hts _ (List.getElem_mem c4)⟩ mo⟩
      | true => exact .inr ⟨rfl, .inr ⟨rfl, _, lstO_new, _, hat, shw hm⟩⟩
end
theorem kind_step {A B : Prop} : ¬A ∧ (A → ¬B) ∨ A ∧ (¬B ∧ (A → ¬B) ∨ B ∧ A ∧ B) := by
  by_cases a : A <;> by_cases b : B <;> simp [a, b]
theorem made_in {rs : List Row} : (∀ r ∈ rs, RowOk r) → ∀ e ∈ (madeP rs).2.1, ∃ (q : Int) (d : L3.D), e = .tup [.int q, d] ∧ pay4 d := by
  refine rev_ind (Q := fun rs => (∀ r ∈ rs, RowOk r) → ∀ e ∈ (madeP rs).2.1, ∃ (q : Int) (d : L3.D), e = .tup [.int q, d] ∧ pay4 d) ?_ ?_ rs
  · intro _ e m; cases m
  · intro rs r ih h e m
    rw [made_snoc] at m
    rcases List.mem_append.mp m with m | m
    · exact ih (fun x mx => h x (by simp [mx])) e m
    · obtain ⟨q, d, e1, e2, e3⟩ := run_in (c := 3) 4 _ _ (h r (by simp)).2.2 e m
      exact ⟨_, d, e1, e3⟩
theorem levent_ok {q : Nat} {z : Int} (hq : lstO S q = some (es.map Ev.d)) (ho : ∀ e ∈ es, EvOk e) (hl : es.length ≤ 40) (h : ∀ e S', EvOk e → More S S' → P e.d S') : (m__law_event [.ref q, .int z] S).Ok P := by
  have d3 : ∀ z : Int, CDivW z 3 := fun z => ⟨by decide, by decide +kernel⟩
  have d10 : ∀ z : Int, CDivW z 10 := fun z => ⟨by decide, by decide +kernel⟩
  have d30 : ∀ z : Int, CDivW z 30 := fun z => ⟨by decide, by decide +kernel⟩
  have d11 : ∀ z : Int, CDivW z 11 := fun z => ⟨by decide, by decide +kernel⟩
  have p0 : 0 ≤ z % 3 ∧ z % 3 < 3 := by omega
  have k0 : 0 ≤ z / 3 % 10 ∧ z / 3 % 10 < 10 := by omega
  have pt : ∀ {p : Int}, pastP (es.take es.length) p = pastP es p := fun {p} => by rw [List.take_length]
  simp [m__law_event, lenF_ref hq, d3, d10, d30, d11]
  generalize z % 3 = p at p0
  generalize z / 3 % 10 = kd at k0
  generalize z / 30 / 11 = w
  generalize decide (z / 30 % 11 = 0) = od
  refine lpay_ok (c := 3) (by omega) (by omega) 3 20 (by omega) S _ w fun pl hpl => ?_
  have hpl' : pay4 pl := hpl
  refine lpast_ok hq ho (by omega) fun S1 r1 lr1 m1 h1 => ?_
  rw [pt] at h1
  have po := past_ok (p := p) ho
  have hq1 := m1.lst hq
  have cnt : ∀ (k : Str), (es.filterMap (kindF k p Ev.d)).length ≤ 40 := fun k => Nat.le_trans (List.length_filterMap_le _ _) hl
  simp [m__law_event_c1]
  by_cases c2 : kd < 2
  · refine .inr ⟨c2, _, itO_ref hq1, kinds_ok (k := "submit") (p := p) Ev.d hq1 (by omega) ?_ ?_⟩
    · intro e S' me
      simp [ev_ix0, ev_ix2]
      exact kind_step
    · intro S2 r2 m2 h2
      rw [lenF_ref h2, okO_some]
      simp
      exact h (.sub _ p _ pl) S2 ⟨p0, hpl'⟩ (m1.trans m2)
  · refine .inl ⟨by omega, ?_⟩
    have c5 : (m__law_event_c5 [some (.ref q), some (.int z), some (.int (es.length : Int)), some (.int p), some (.int kd), some (.int w), some (.bl od), some pl, some (.ref r1), none, none, none, none, none, none, none] S1).Ok (fun _ S => P .non S) P (fun _ _ => False) fun _ _ => False := by
      simp [m__law_event_c5]
      have mk := made_ok po.1 (by omega)
      refine lmade_ok h1 po.1 (by omega) fun S2 a b la lb m2 ha hb => ?_
      have hq2 := m2.lst hq1
      simp
      refine ⟨_, itO_ref hq2, kinds_ok (k := "show") (p := p) Ev.d hq2 (by omega) ?_ ?_⟩
      · intro e S' me
        simp [ev_ix0, ev_ix2]
        exact kind_step
      · intro S3 r3 m3 h3
        rw [lenF_ref h3, okO_some]
        exact ev_c6 (m3.lst (m2.lst h1)) (by omega) (m3.lst hb) (fun x mx => OutOk.pb (mk.out x mx)) (by have := cnt "show"; omega) p0 (m1.trans (m2.trans m3)) h
    simp [m__law_event_c2]
    by_cases c7 : 7 ≤ kd
    · exact .inl ⟨c7, c5⟩
    · refine .inr ⟨by omega, _, lstO_new, ?_⟩
      obtain ⟨s, hs, s0⟩ : ∃ s : Int, atI [L3.D.int (-1), .int (-1), .int 0, .int 1, .int 2] (kd - 2) = some (.int s) ∧ -1 ≤ s ∧ s < 3 := by
        have : kd - 2 = 0 ∨ kd - 2 = 1 ∨ kd - 2 = 2 ∨ kd - 2 = 3 ∨ kd - 2 = 4 := by omega
        rcases this with e | e | e | e | e <;> rw [e]
        · exact ⟨-1, atI_0, by decide⟩
        · exact ⟨-1, atI_1, by decide⟩
        · exact ⟨0, atI_2, by decide⟩
        · exact ⟨1, atI_3, by decide⟩
        · exact ⟨2, atI_4, by decide⟩
      refine ⟨_, hs, ?_⟩
      have m2 : More S1 (S1 ++ [.lst [.int (-1), .int (-1), .int 0, .int 1, .int 2]]) := More.new _
      have h2 := m2.lst h1
      have hq2 := m2.lst hq1
      have m02 := m1.trans m2
      generalize S1 ++ [O.lst [.int (-1), .int (-1), .int 0, .int 1, .int 2]] = S2 at *
      simp [m__law_event_c3]
      refine ⟨_, itO_ref h2, rows_count h2 (by omega) (s := s) ?_ ?_⟩
      · intro x S3 mx
        simp [rowD]
        exact (Classical.em _).symm
      · intro S3 m3 h3
        have e3 : lenF [.ref S2.length] S3 = some (.int (countS (pastP es p) s : Int), S3) := lenF_ref h3
        have hc : countS (pastP es p) s ≤ 50 := Nat.le_trans (List.length_filterMap_le _ _) (by omega)
        rw [e3, okO_some]
        simp
        have hq3 := m3.lst hq2
        have m03 := m02.trans m3
        by_cases c8 : s < 0
        · refine .inr ⟨c8, ?_⟩
          refine ⟨_, itO_ref hq3, kinds_ok (k := "submit") (p := p) (fun e => match e with
            | .sub _ _ _ d => d
            | _ => .non) hq3 (by omega) ?_ ?_⟩
          · intro e S' me
            simp [ev_ix0, ev_ix2]
            by_cases ck : e.kind = "submit"
            · cases e with
              | sub k' p' n' d' =>
                by_cases cp : p' = p
                · simp [Ev.kind, Ev.p, cp, Ev.d]
                · simp [Ev.kind, Ev.p, cp, Ev.d]
              | _ => simp [Ev.kind] at ck
            · simp [ck]
          · intro S4 r4 m4 h4
            refine SR.Ok.imp (ev_c4 (nx := fun _ _ => False) h4 (fun d md => ?_) hl (Nat.le_trans (List.length_filterMap_le _ _) (by omega)) p0 s0 (by omega) hpl' (m03.trans m4) h) (fun _ _ z => z.elim) (fun _ _ z => z) (fun _ _ z => z) (fun _ _ z => z)
            obtain ⟨e, me, q'⟩ := List.mem_filterMap.mp md
            have hok := ho e me
            unfold kindF at q'
            split at q'
            · rename_i ce
              cases q'
              cases e with
              | sub k' p' n' d' => exact hok.2
              | _ => simp [Ev.kind] at ce
            · cases q'
        · refine .inl ⟨by omega, ?_⟩
          refine lsent_ok hq3 ho (by omega) fun S4 r4 _ m4 h4 => ?_
          rw [List.take_length] at h4
          have po2 := past_ok (p := s) ho
          have mk := made_ok po2.1 (by omega)
          have ml := mk.ls
          refine SR.Ok.imp (ev_c4 (nx := fun _ _ => False) h4 (fun d md => ?_) hl (Nat.le_trans (List.length_filterMap_le _ _) (by omega)) p0 s0 (by omega) hpl' (m03.trans m4) h) (fun _ _ z => z.elim) (fun _ _ z => z) (fun _ _ z => z) (fun _ _ z => z)
          obtain ⟨e', me, q'⟩ := List.mem_filterMap.mp md
          obtain ⟨q1, d1, rfl, hd1⟩ := made_in po2.1 e' me
          have hw : d = d1 := by
            unfold sentD at q'
            simp at q'
            exact q'.2.symm
          subst hw
          exact hd1
end
end Fg
set_option Elab.async false
set_option linter.all false
set_option maxRecDepth 100000
set_option maxHeartbeats 1000000
namespace Fg
open PySem PySem.Spec PyProof.Rows L2 L3
variable {S : Store} {P : L3.D → Store → Prop}
/-- all but the object q stays -/
def Only (q : Nat) (A B : Store) : Prop := ∀ m o, m ≠ q → A[m]? = some o → B[m]? = some o
theorem Only.refl {q : Nat} {A : Store} : Only q A A := fun _ _ _ h => h
theorem Only.trans {q : Nat} {A B C : Store} (h : Only q A B) (g : Only q B C) : Only q A C := fun m o n e => g m o n (h m o n e)
theorem Only.set {q : Nat} {A : Store} {o : O} : Only q A (A.set q o) := fun m u n e => by rw [List.getElem?_set_ne (fun z => n z.symm)]; exact e
section
variable {x0 x1 x2 x5 x6 x7 : Option L3.D} {q : Nat} {nx bk ct : DE → Store → Prop} {rt : L3.D → Store → Prop}
theorem app_int {ms : List Int} {i : Int} (hq : lstO S q = some (ms.map .int)) (hm : ms.length ≤ 10000000) (h : ∀ S', lstO S' q = some ((ms ++ [i]).map .int) → Only q S S' → P .non S') : okO (appendF q (ms.map .int) [.int i] S) P := by
  unfold appendF
  dsimp only
  rw [PySem.sizeLine_eq, if_pos (by rw [List.length_map]; omega), okO_some]
  have e : ms.map L3.D.int ++ [.int i] = (ms ++ [i]).map .int := by simp
  rw [e]
  exact h _ (lstO_set hq) Only.set
theorem draws_c1 {ms : List Int} {c : Int} (hq : lstO S q = some (ms.map .int)) (hm : ms.length ≤ 1000000) (h : ∀ (ms' : List Int) a b d S', lstO S' q = some (ms'.map .int) → ms'.length ≤ ms.length + 12 → Only q S S' → nx [x0, x1, x2, some (.ref q), some (.int c), a, b, d] S') : (m__law_draws_c1 [x0, x1, x2, some (.ref q), some (.int c), x5, x6, x7] S).Ok nx rt bk ct := by
  have c18 : CPow 10 18 := by decide +kernel
  have c14 : CPow 10 14 := by decide +kernel
  simp [m__law_draws_c1, c18, c14]
  generalize (if c < 0 then -c else c) = n
  by_cases c0 : n < 1000000000000000000
  · refine .inr ⟨c0, CMulA.r (by decide), by rw [hq]; rfl, CMulA.r (by decide), CMulA.r (by decide), _, hq, app_int hq (by omega) fun S1 h1 o1 => ?_⟩
    refine ⟨by rw [h1]; rfl, CMulA.r (by decide), ⟨by decide, by decide +kernel⟩, CMulA.r (by decide), _, h1, app_int h1 (by simp; omega) fun S2 h2 o2 => ?_⟩
    exact h _ _ _ _ S2 h2 (by simp) (o1.trans o2)
  · refine .inl ⟨by omega, ?_⟩
    refine for_inv (fun i ρ S' => ∃ (ms' : List Int) (m : Int) (k : Option L3.D), ρ = [x0, x1, x2, some (.ref q), some (.int c), some (.int m), x6, k] ∧ lstO S' q = some (ms'.map .int) ∧ ms'.length ≤ ms.length + i ∧ Only q S S') ⟨ms, n, _, rfl, hq, by omega, Only.refl⟩ (fun _ _ _ _ _ => srcOk_nil) ?_ ?_
    · rintro i v ρ S' hi ⟨ms', m, k, rfl, h1, hl, ho⟩
      have hi1 := (List.getElem?_eq_some_iff.mp hi).1
      rw [List.length_map, List.length_range] at hi1
      simp only [ok_nameG, List.set_cons_succ, List.set_cons_zero]
      have cd : ∀ z : Int, CDivW z 100000000000000 := fun z => ⟨by decide, by decide +kernel⟩
      simp [c14]
      by_cases c1 : 0 < m
      · refine .inr ⟨c1, by rw [h1]; rfl, _, h1, app_int h1 (by omega) fun S2 h2 o2 => ?_⟩
        exact ⟨cd _, _, h2, by simp; omega, ho.trans o2⟩
      · exact .inl ⟨by omega, cd _, _, h1, by omega, ho⟩
    · rintro ρ S' ⟨ms', m, k, rfl, h1, hl, ho⟩
      simp at hl
      exact h ms' _ _ _ S' h1 hl ho
end
theorem draws_ok {ns : List Int} {k : Nat} (hn : ns.length ≤ 63) (h : ∀ (ms : List Int) (q : Nat) S', ms.length ≤ k → S.length ≤ q → More S S' → lstO S' q = some (ms.map .int) → P (.ref q) S') : (m__law_draws [.lis (ns.map .int), .int 0, .int (k : Int)] S).Ok P := by
  simp [m__law_draws]
  have hs : ∀ S' : Store, slD (.lis (ns.map .int)) (some 0) none S' = some (.ref S'.length, S' ++ [.lst (L3.cutD (ns.map .int) (some 0) none)]) := fun _ => rfl
  rw [hs]
  obtain ⟨L, hL⟩ : ∃ L, L = L3.cutD (ns.map L3.D.int) (some 0) none := ⟨_, rfl⟩
  rw [← hL]
  have hint : ∀ e ∈ L, ∃ i, e = .int i := fun e m => by
    rw [hL] at m
    obtain ⟨i, _, rfl⟩ := List.mem_map.mp (cutD_sub m)
    exact ⟨i, rfl⟩
  have hlen : L.length ≤ 63 := by
    have := cutD_len (xs := ns.map L3.D.int) (lo := some 0) (hi := none)
    rw [← hL, List.length_map] at this
    omega
  simp
  refine ⟨_, itO_ref (lstO_off (l := [.lst [], .lst L]) (i := 1) rfl), ?_⟩
  refine for_inv (fun i ρ S' => ∃ (ms : List Int) (a b c d : Option L3.D), ρ = [some (.lis (ns.map .int)), some (.int 0), some (.int (k : Int)), some (.ref S.length), a, b, c, d] ∧ lstO S' S.length = some (ms.map .int) ∧ ms.length ≤ 12 * i ∧ Only S.length (S ++ [.lst [], .lst L]) S') ⟨[], _, _, _, _, rfl, lstO_off (i := 0) rfl, by simp, Only.refl⟩ (fun i ρ S' _ hI => ?_) ?_ ?_
  · obtain ⟨ms, a, b, c, d, rfl, h1, hl, ho⟩ := hI
    intro p hp
    rw [List.mem_singleton.mp hp]
    exact ho _ _ (by simp) (lstO_at (lstO_off (l := [.lst [], .lst L]) (i := 1) rfl))
  · rintro i v ρ S' hi ⟨ms, a, b, c, d, rfl, h1, hl, ho⟩
    have hi1 := (List.getElem?_eq_some_iff.mp hi).1
    obtain ⟨z, rfl⟩ := hint v (List.mem_of_getElem? hi)
    have hi2 : i < L.length := hi1
    simp only [ok_nameG, List.set_cons_succ, List.set_cons_zero]
    exact draws_c1 h1 (by omega) fun ms' x y w S2 h2 hl2 o2 => ⟨ms', _, _, _, _, rfl, h2, by omega, ho.trans o2⟩
  · rintro ρ S' ⟨ms, a, b, c, d, rfl, h1, hl, ho⟩
    simp
    have hs2 : slD (.ref S.length) none (some (k : Int)) S' = some (.ref S'.length, S' ++ [.lst ((ms.map L3.D.int).take k)]) := by
      unfold slD
      simp only [h1, Option.map_some]
      rw [cutD_to]
    rw [hs2]
    rw [← List.map_take]
    have hmo : More S S' := fun m o e => by
      have hm := (List.getElem?_eq_some_iff.mp e).1
      exact ho m o (by omega) (by rw [List.getElem?_append_left hm]; exact e)
    exact h (ms.take k) S'.length _ (by rw [List.length_take]; omega) (by have := (List.getElem?_eq_some_iff.mp (lstO_at h1)).1; omega) (hmo.trans (More.new _)) lstO_new
theorem first_prop {Q : L3.D → Prop} {F : Nat → Option L3.D} {n : Nat} (h0 : Q .non) (h : ∀ i d, F i = some d → Q d) : Q (firstD F n) := by
  unfold firstD
  cases e : (List.range n).findSome? F with
  | none => exact h0
  | some d =>
    obtain ⟨i, _, hi⟩ := List.exists_of_findSome?_eq_some e
    exact h i d hi
/-- faults are plain -/
def FaultOk (d : L3.D) : Prop := ∀ S, Gd 30 S 1 d
theorem fault3 {k : Str} {a b : Int} (hk : near k ∧ k.length ≤ 1000) : FaultOk (.tup [.str k, .int a, .int b]) := fun S => ⟨by simp, fun x m => by
  simp at m
  rcases m with rfl | rfl | rfl
  · exact hk
  · trivial
  · trivial⟩
theorem fault4 {k : Str} {a b c : Int} (hk : near k ∧ k.length ≤ 1000) : FaultOk (.tup [.str k, .int a, .int b, .int c]) := fun S => ⟨by simp, fun x m => by
  simp at m
  rcases m with rfl | rfl | rfl | rfl
  · exact hk
  · trivial
  · trivial
  · trivial⟩
theorem along_fault {F : List Ev → Ev → Option L3.D} {es : List Ev} (h : ∀ L e d, F L e = some d → FaultOk d) : FaultOk (alongD F es) := first_prop (fun S => trivial) fun i d e => by
  cases q : es[i]? with
  | none => rw [q] at e; cases e
  | some x => rw [q] at e; exact h _ _ _ e
theorem faults_gd {es : List Ev} : ∀ e ∈ faultsD es, ∀ S, Gd 30 S 1 e := by
  intro e m
  unfold faultsD at m
  simp only [List.mem_cons, List.mem_nil_iff, or_false] at m
  rcases m with rfl | rfl | rfl | rfl
  · refine along_fault fun L e d h => ?_
    cases e with
    | tak k p v s n y =>
      rw [take_tak] at h
      split at h
      · cases h; exact fault4 ⟨by unfold near; decide +kernel, by decide +kernel⟩
      · split at h
        · cases h; exact fault3 ⟨by unfold near; decide +kernel, by decide +kernel⟩
        · cases h
    | _ => cases h
  · refine along_fault fun L e d h => ?_
    cases e with
    | und k p c =>
      unfold undoF at h
      dsimp only at h
      split at h
      · cases h; exact fault3 ⟨by unfold near; decide +kernel, by decide +kernel⟩
      · cases h
    | _ => cases h
  · refine along_fault fun L e d h => ?_
    cases e with
    | und k p c =>
      unfold showF at h
      dsimp only at h
      split at h
      · cases h; exact fault3 ⟨by unfold near; decide +kernel, by decide +kernel⟩
      · cases h
    | shw k p n x =>
      unfold showF at h
      dsimp only at h
      split at h
      · cases h; exact fault3 ⟨by unfold near; decide +kernel, by decide +kernel⟩
      · split at h
        · cases h; exact fault3 ⟨by unfold near; decide +kernel, by decide +kernel⟩
        · cases h
    | _ => cases h
  · intro S
    unfold runsD
    cases e : ([0, 1, 2] : List Int).findSome? (runOne es) with
    | none => trivial
    | some d =>
      obtain ⟨p, _, hp⟩ := List.exists_of_findSome?_eq_some e
      obtain ⟨r, _, hr⟩ := List.exists_of_findSome?_eq_some hp
      unfold runRow at hr
      split at hr
      · cases hr; exact fault4 ⟨by unfold near; decide +kernel, by decide +kernel⟩ S
      · cases hr
theorem ev_gd {e : Ev} (h : EvOk e) : ∀ S, Gd 30 S 6 e.d := by
  intro S
  have kd : ∀ k ∈ (["submit", "take", "undo", "show", "crash", "start"] : List Str), near k ∧ k.length ≤ 1000 := fun k m => by
    simp only [List.mem_cons, List.mem_nil_iff, or_false] at m
    rcases m with rfl | rfl | rfl | rfl | rfl | rfl <;> exact ⟨by unfold near; decide +kernel, by decide +kernel⟩
  have ks : ∀ k ∈ (["submit", "take", "undo", "show", "crash", "start"] : List Str), Gd 30 S 5 (.str k) := fun k m => kd k m
  have py : ∀ {d}, pay4 d → Gd 30 S 5 d := fun {d} hd => (pay_gd (L := 30) (by omega) hd).mono (by omega) (by omega)
  cases e with
  | sub k p n d =>
    refine ⟨by simp, fun x m => ?_⟩
    simp at m
    rcases m with rfl | rfl | rfl | rfl | rfl
    · exact ks _ (by simp)
    · trivial
    · trivial
    · trivial
    · exact py h.2
  | tak k p v s n d =>
    refine ⟨by simp, fun x m => ?_⟩
    simp at m
    rcases m with rfl | rfl | rfl | rfl | rfl | rfl | rfl
    · exact ks _ (by simp)
    · trivial
    · trivial
    · trivial
    · trivial
    · trivial
    · exact py h.2.2.2
  | und k p c =>
    refine ⟨by simp, fun x m => ?_⟩
    simp at m
    rcases m with rfl | rfl | rfl | rfl
    · exact ks _ (by simp)
    · trivial
    · trivial
    · trivial
  | shw k p n y =>
    refine ⟨by simp, fun x m => ?_⟩
    simp at m
    rcases m with rfl | rfl | rfl | rfl | rfl
    · exact ks _ (by simp)
    · trivial
    · trivial
    · trivial
    · exact h.2.2
  | crs k p =>
    refine ⟨by simp, fun x m => ?_⟩
    simp at m
    rcases m with rfl | rfl | rfl
    · exact ks _ (by simp)
    · trivial
    · trivial
  | sta k p v =>
    refine ⟨by simp, fun x m => ?_⟩
    simp at m
    rcases m with rfl | rfl | rfl | rfl
    · exact ks _ (by simp)
    · trivial
    · trivial
    · trivial
section
variable {es : List Ev} {nx bk ct : DE → Store → Prop}
theorem law_c1_ok {q : Nat} {x0 x2 : Option L3.D} (hq : lstO S q = some (es.map Ev.d)) (ho : ∀ e ∈ es, EvOk e) (hl : es.length ≤ 40) : (m_law_c1 [x0, some (.ref q), x2, none, none, none, none] S).Ok nx (fun d _ => d = .bl true) bk ct := by
  simp only [m_law_c1, sok_seq, sok_set, ok_lstE, ok_consA, ok_nilA, ok_callE]
  simp
  refine ltakes_ok hq ho (by omega) fun S1 m1 => ?_
  refine lundos_ok (m1.lst hq) ho (by omega) fun S2 m2 => ?_
  have m02 := m1.trans m2
  refine lshows_ok (m02.lst hq) ho (by omega) fun S3 m3 => ?_
  have m03 := m02.trans m3
  refine lruns_ok (m03.lst hq) ho (by omega) fun S4 m4 => ?_
  have m04 := m03.trans m4
  have m5 : More S4 (S4 ++ [.lst (faultsD es)]) := More.new _
  have hd : lstO (S4 ++ [.lst (faultsD es)]) S4.length = some (faultsD es) := lstO_new
  have hq5 := (m04.trans m5).lst hq
  rw [show [alongD takeF es, alongD undoF es, alongD showF es, runsD es] = faultsD es from rfl]
  generalize S4.length = r at *
  generalize S4 ++ [O.lst (faultsD es)] = S5 at *
  rw [listF_ref hq5, okO_some]
  have m6 : More S5 (S5 ++ [.lst (es.map Ev.d)]) := More.new _
  have hh : lstO (S5 ++ [.lst (es.map Ev.d)]) S5.length = some (es.map Ev.d) := lstO_new
  have hd6 := m6.lst hd
  have hq6 := m6.lst hq5
  generalize S5.length = w at *
  generalize S5 ++ [O.lst (es.map Ev.d)] = S6 at *
  refine takej_ok hh ho (by omega) fun S7 m7 => ?_
  refine undoj_ok (m7.lst hh) ho (by omega) fun S8 m8 => ?_
  have m68 := m7.trans m8
  refine showj_ok (m68.lst hh) ho (by omega) fun S9 m9 => ?_
  have m69 := m68.trans m9
  refine runj_ok (m69.lst hh) ho (by omega) fun S10 m10 => ?_
  have m610 := m69.trans m10
  have m11 : More S10 (S10 ++ [.lst (faultsD es)]) := More.new _
  have hn : lstO (S10 ++ [.lst (faultsD es)]) S10.length = some (faultsD es) := lstO_new
  have mm := m610.trans m11
  rw [show [alongD takeF es, alongD undoF es, alongD showF es, runsD es] = faultsD es from rfl]
  generalize S10.length = v at *
  generalize S10 ++ [O.lst (faultsD es)] = S11 at *
  rw [neq_lst (L := 30) (n := 1) (by omega) hn (mm.lst hd6) (fun e m => faults_gd e m _), okO_some]
  simp [m_law_c2]
  refine judgej_ok (mm.lst hh) ho (by omega) fun S12 r2 _ m12 h12 => ?_
  have hd12 := m12.lst (mm.lst hd6)
  have hh12 := m12.lst (mm.lst hh)
  have hq12 := m12.lst (mm.lst hq6)
  refine ⟨_, kind_ref h12, ?_⟩
  have il : isT "list" "list" = true := by decide +kernel
  simp [il]
  refine ⟨_, itO_ref hd12, ?_⟩
  refine lc_xs (S := S12) (faultsD es) id someD (by simp) rfl rfl (fun S' mo z mz => ?_) (by simp [faultsD]) (fun x S' mx mo => ?_) fun S13 m13 h13 => ?_
  · rw [List.mem_singleton.mp mz]
    exact mo _ _ (lstO_at hd12)
  · simp [someD]
    by_cases c : isnon x = true <;> simp [c] <;> exact More.refl _
  · have gd : ∀ e ∈ (faultsD es).filterMap someD, ∀ S, Gd 30 S 1 e := fun e m => by
      obtain ⟨x, mx, hx⟩ := List.mem_filterMap.mp m
      unfold someD at hx
      split at hx
      · cases hx
      · cases hx; exact faults_gd _ mx
    rw [eq_lst (L := 30) (n := 1) (by omega) (m13.lst h12) h13 (fun e m => gd e m _), okO_some]
    simp
    rw [eq_lst (L := 30) (n := 6) (by omega) (m13.lst hh12) (m13.lst hq12) (fun e m => by
      obtain ⟨x, mx, rfl⟩ := List.mem_map.mp m
      exact ev_gd (ho x mx) _), okO_some]
end
def LawI (ns : List Int) (q r i : Nat) (ms : List Int) (ρ : DE) (S : Store) : Prop := ∃ es : List Ev, (∃ x2, ρ = [some (.lis (ns.map .int)), some (.ref q), x2, none, none, none, none]) ∧ lstO S q = some (es.map Ev.d) ∧ (∀ e ∈ es, EvOk e) ∧ es.length = i ∧ lstO S r = some (ms.map .int) ∧ q ≠ r
theorem law_ok (ns : List Int) (hn : ns.length ≤ 63) : (m_law [.lis (ns.map .int)] []).Ok fun d _ => d = .bl true := by
  simp [m_law]
  refine draws_ok (k := 30) hn fun ms r S1 hl lr m1 h1 => ?_
  have h0 : lstO S1 0 = some [] := m1.lst rfl
  refine ⟨_, itO_ref h1, ?_⟩
  refine for_inv (fun i ρ S' => LawI ns 0 r i ms ρ S') ⟨[], ⟨_, rfl⟩, h0, fun _ m => (by cases m), rfl, h1, by simp at lr; omega⟩ (fun i ρ S' _ hI => ?_) ?_ ?_
  · obtain ⟨es, _, _, _, _, e, _⟩ := hI
    intro z hz
    rw [List.mem_singleton.mp hz]
    exact lstO_at e
  · rintro i d ρ S' hi ⟨es, ⟨x2, rfl⟩, hq, ho, he, hr, ne⟩
    have hi' := (List.getElem?_eq_some_iff.mp hi).1
    rw [List.length_map] at hi'
    rw [List.getElem?_map] at hi
    obtain ⟨z, hz, rfl⟩ := Option.map_eq_some_iff.mp hi
    simp
    refine ⟨by rw [hq]; rfl, levent_ok hq ho (by omega) fun e S2 hok m2 => ?_⟩
    refine ⟨_, m2.lst hq, ?_⟩
    unfold appendF
    dsimp only
    rw [PySem.sizeLine_eq, if_pos (by rw [List.length_map]; omega), okO_some]
    refine ⟨es ++ [e], ⟨_, rfl⟩, ?_, fun x mx => ?_, by simp [he], ?_, ne⟩
    · rw [lstO_set (m2.lst hq)]; simp
    · rcases List.mem_append.mp mx with mx | mx
      · exact ho x mx
      · rw [List.mem_singleton.mp mx]; exact hok
    · unfold lstO
      rw [List.getElem?_set_ne ne, lstO_at (m2.lst hr)]
  · rintro ρ S' ⟨es, ⟨x2, rfl⟩, hq, ho, he, _⟩
    rw [List.length_map] at he
    exact law_c1_ok hq ho (by omega)
end Fg
set_option Elab.async false
set_option linter.all false
set_option maxRecDepth 100000
set_option maxHeartbeats 4000000
namespace Fg
open PySem PySem.Spec PyProof.Rows L2 L3
section
variable {P : Program} {w : World} {K : PySem.W.Frag} {mg : Str → Option Value} {base : Heap}
noncomputable def spLaw (w : World) (K : PySem.W.Frag) : Sp := spM K (Cl.mk (He.ga K) w) 1 m_law
theorem sp_in (H : Hp) (a : Addr) (ns : List Int) (hl : ns.length ≤ 63) (hS : SqL K H a (ns.map V.int)) : spLaw w K [.ref a] H (fun v _ => v = .bl true) fun _ _ _ => False := sp_law law_ok H a ns hl hS
theorem ok_law (T : Txt K mg) : FnOk P w K mg base CX0 26 T.a_law T.fd_law ["_law_script"] (spLaw w K) := ok_m_law T
end
end Fg
open PySem PySem.W PySem.Calls PyProof.Rows
set_option maxRecDepth 100000 in
set_option maxHeartbeats 0 in
theorem PySem.Challenge.cw_firmground_k57_judge_by_pasts_holds : PySem.Challenge.rw_firmground_k57_judge_by_pasts.Holds := by
  w_on; o_law
  refine HandSHeadRun.head_any (r := OpenLaw.row PySem.Challenge.rw_firmground_k57_judge_by_pasts) (q := view (OpenLaw.row PySem.Challenge.rw_firmground_k57_judge_by_pasts).prog [24]) (H := Fg.hk) (ob := Fg.ob) (M := 60000) (loose := Fg.loose) (d := HandSHeadRun.topDef (OpenLaw.row PySem.Challenge.rw_firmground_k57_judge_by_pasts).prog 24) (kwd := []) Fg.ob_eq
    (by kernel_rfl) (fun s => by kernel_rfl) Fg.run (by kernel_rfl) (by kernel_rfl) (by kernel_rfl) (by rfl) (by first | assumption | decide +kernel) (by decide +kernel) ⟨rfl, rfl, rfl, rfl, rfl, by decide +kernel⟩ ?hw ?hc
  case hw => w_witness2
  case hc =>
    refine L2.walk_ofE (l := PySem.Challenge.rw_firmground_k57_judge_by_pasts) (n := 63) (k := 26) (x := "_law_script") (CX := L2.CX0) rfl (by decide) (by kernel_rfl) ⟨rfl, by decide, by decide⟩ ?F (fun _ _ _ _ z => z)
    intro w mg fa h Y G hmg0
    obtain ⟨K, KX, c⟩ := Y
    have hmg : mg ("law" : PySem.Str) = some (.ref fa) := by
      have e : (HandSHeadRun.topDef (OpenLaw.row PySem.Challenge.rw_firmground_k57_judge_by_pasts).prog 24).name = ("law" : PySem.Str) := by kernel_rfl
      rw [← e]
      exact hmg0
    obtain ⟨⟨⟨e0⟩⟩, T, eT⟩ := Fg.txt_of KX G c
    have e1 : fa = T.a_law := (L3.ref_inj hmg e0).trans eT.symm
    refine ⟨K, T.fd_law, Fg.spLaw w K, KX, fun s v => L2.FunD.bindsA (ps := ["_law_script"]) T.F_law (fun _ _ _ _ _ _ us hl => match us, hl with | [_], _ => rfl) s [v] rfl, fun H a ns hl _ hS => Fg.sp_in H a ns hl hS, fun base _ _ => ?_⟩
    rw [e1]
    exact Fg.ok_law T
#print axioms PySem.Challenge.cw_firmground_k57_judge_by_pasts_holds
