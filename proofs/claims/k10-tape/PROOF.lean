import PyProof.Rows.All
import Wide.All
import OpenK.AllK
import Wide.FinOn
import KE.KStateDown
import Lean
import HandS.ForMost
import HandS.ForExc
import HandS.Defaults
import HandS.More
import HandS.Small
import HandS.ExcInit
import HandS.ExcField
import HandS.IsInst
import HandS.Flow
import HandS.Style
import HandS.Steps
import HandS.Evl
import HandS.Wide
import HandS.TupAny
import HandS.TupMul
import HandS.TupLe
import HandS.Walk
import HandS.Zip
import HandS.StrMore
import HandS.StrSplit
import HandS.Deep
import HandS.DictComp
import HandS.SortInts
import HandS.TryMany
import HandS.Head0
import HandS.Head1
import HandS.Head2
import HandS.HeadEnd
import HandS.HeadHook1
import HandS.HeadHook2
import HandS.HeadHook3
import HandS.HeadHook4
import PySem.Challenge.RW_firmground_k10_tape
set_option Elab.async false
set_option linter.all false
set_option maxRecDepth 100000
set_option maxHeartbeats 4000000
/-! Words shared by the proofs about the given program. -/
namespace L2
open PySem PySem.Spec PyProof.Rows

/-! ### raise C() of an own class without arguments -/
section
variable {X : Cx} {C : Addr} {bmB : List Value} {B newId initId : String}
theorem pmk_own0 {x : Str} {p pos : Pos} (F : ExcBaseFacts B newId initId bmB) (q : PySem.W.excIn X.K C bmB newId = true) (gC : X.mg x = some (.ref C)) (kC : PySem.W.keepIn X.K (.ref C) = true) (r : Raises X (.ref C)) (hg : Gl X x)
    (hdb : (x == ("__debug__" : Str)) = false := by decide) : PMk X (.Call (.Name x p) [] [] pos) (fun _ H Q => Q (.ref C) none H) := by
  intro pins s σ H Q I h
  refine wpAny_Call_Name_kw (ld_glob I hg gC ?_ hdb)
  refine PySem.W.callWith_K0 I.kIn kC ?_
  obtain ⟨hp, g, dd0, tk, os⟩ := s
  obtain ⟨bm, N, nm, qn, bs, hdct, sn, sub, ab, col, dd, k0, k1, k2, k3, k5, mN, hC, hN, hni, T⟩ := exc_obj I.kIn q
  refine wpAny_call_exc_subT F T hC hN hni (fun h' e hm => ?_) (Nat.zero_le _)
  exact mk_of I hm r h (I.hok.gone hm.new)
end

/-! ### an own class over ValueError with an __init__ of its own: a check -/
def oexB (K : PySem.W.Frag) (C : Addr) : Bool := (match K.lookup C with
  | some ⟨.type "type", _, .cls cd, sl⟩ => (match cd.mro, sl.toList with
    | .ref C' :: bm, [_, _, _, _, some (.builtin n), _] => C' == C && n == "ValueError.__new__" && !cd.hasDel && cd.hasDict && PySem.HandSPX.refsVE bm
    | _, _ => false)
  | _ => false) && decide (PySem.W.findIn K (.ref C) "__setattr__" = some (some (.builtin "object.__setattr__"))) && decide (PySem.W.subIn K (.ref C) (.type "BaseException") = some true) &&
    decide (PySem.W.typeIn K (.ref C) = some (.type "type")) && PySem.W.keepIn K (.ref C)
theorem oexB_ok {K : PySem.W.Frag} {C : Addr} (h : oexB K C = true) : OexC K C := by
  unfold oexB at h
  simp only [Bool.and_eq_true] at h
  obtain ⟨⟨⟨⟨h, h1⟩, h2⟩, h3⟩, h4⟩ := h
  refine ⟨?_, of_decide_eq_true h1, of_decide_eq_true h2, of_decide_eq_true h3, h4⟩
  split at h
  · rename_i dd cd sl ho
    split at h
    · rename_i C' bm k0 k1 k2 k3 n k5 hm hs
      simp only [Bool.and_eq_true, beq_iff_eq, Bool.not_eq_true'] at h
      obtain ⟨⟨⟨⟨rfl, rfl⟩, hdel⟩, hdi⟩, hr⟩ := h
      obtain ⟨nm, bs, mro, ns, qn, hd, sn, sub, ab, col, del⟩ := cd
      dsimp only at hm hdel hdi
      subst hm hdel hdi
      have hsl : sl = #[k0, k1, k2, k3, some (.builtin "ValueError.__new__"), k5] := by
        obtain ⟨l⟩ := sl
        simp only at hs
        rw [hs]
      subst hsl
      exact ⟨nm, qn, ns, bs, bm, sn, sub, ab, col, dd, k0, k1, k2, k3, k5, ho, hr⟩
    · cases h
  · cases h
/-! ### methods and makers that may raise, within a try: the wish at the caller's slots -/
def tMethE (C : Addr) (m : Str) (sp : Sp) (E : St → XK) (ta : TE) (t : TA) : TE := fun σ H Q => ta σ H fun x H1 => ∃ a dx fs, x = .ref a ∧ H1 a = some (.ins C dx fs) ∧ fs.lookup m = none ∧ t σ H1 fun vs H2 => sp (x :: vs) H2 Q (E σ)
def tMakeE (C : Addr) (sp : Sp) (E : St → XK) (t : TA) : TE := fun σ H Q => t σ H fun vs H1 => ∀ x dx, H1 x = none → H1 dx = none → dx ≠ x →
  sp (.ref x :: vs) (upd (upd H1 dx (.own x)) x (.ins C dx [])) (fun v H2 => v = .non ∧ Q (.ref x) H2) (E σ)
section
variable {X : Cx} {CX : CXT} {k : Nat} {f C : Addr} {fd : FuncData} {ps : List Str} {sp : Sp} {E : St → XK} {x m : Str} {p pos apos : Pos} {e o : Expr} {es : List Expr} {ta : TE} {t : TA}
theorem pe_methE {pl : Sem Bool} (F : FnOk X.prog X.w X.K X.mg X.base CX k f fd ps sp) (cC : Cls X.K C) (mM : Meth X.K C m f) (rm : Room k X.A) (bs : Binds X.K fd ps []) (pass : ∀ σ, PassesAt CX X σ (E σ)) (ho : PE X o ta) (ha : PA X (e :: es) t)
    (h1 : starEach (e :: es) X.env = (false, eval e X.env) :: starEach es X.env := by rfl) (h2 : (backTo pos (starEach es X.env)).any (·.1) = false := by rfl)
    (h3 : eval (.Call (.Attribute o m apos) (e :: es) [] pos) X.env = (do let ov ← eval o X.env; standAt apos.atName; let (f, first) ← holding [ov] (getMethod ov m pl); callWith pos f first (backTo pos (starEach (e :: es) X.env)) (backToKw pos (keywordEach [] X.env))) := by rfl) :
    PE X (.Call (.Attribute o m apos) (e :: es) [] pos) (tMethE C m sp E ta t) := by
  constructor
  intro pins s σ H Q I hq
  apply PySem.W.methodCall_KW (pl := pl) _ h3
  apply thn (ho.run pins s σ H _ I hq)
  intro u s1 z
  obtain ⟨y, H1, J, ry, a, dx, fs, ey, ia, nl, q⟩ := z
  subst ey
  cases (show u = Value.ref a from ry)
  apply getmeth_ok J ia cC mM nl
  apply PySem.W.callWith_K (first := [.ref a]) (h₀ := X.base) I.ok.mod.kin mM.kp _ h1 h2
  apply thn (ha.run pos pins s1 σ H1 _ J q)
  intro us s2 z
  obtain ⟨vs, H2, J2, rv, q2⟩ := z
  exact ⟨J2.kIn, run_fnS (us := .ref a :: us) (vs := .ref a :: vs) F rm bs (pass σ) J2 (.cons rfl rv) q2⟩
theorem pe_meth0E {pl : Sem Bool} (F : FnOk X.prog X.w X.K X.mg X.base CX k f fd ps sp) (cC : Cls X.K C) (mM : Meth X.K C m f) (rm : Room k X.A) (bs : Binds X.K fd ps []) (pass : ∀ σ, PassesAt CX X σ (E σ)) (ho : PE X o ta)
    (h3 : eval (.Call (.Attribute o m apos) [] [] pos) X.env = (do let ov ← eval o X.env; standAt apos.atName; let (f, first) ← holding [ov] (getMethod ov m pl); callWith pos f first (backTo pos (starEach [] X.env)) (backToKw pos (keywordEach [] X.env))) := by rfl) :
    PE X (.Call (.Attribute o m apos) [] [] pos) (tMethE C m sp E ta tNil) := by
  constructor
  intro pins s σ H Q I hq
  apply PySem.W.methodCall_KW (pl := pl) _ h3
  apply thn (ho.run pins s σ H _ I hq)
  intro u s1 z
  obtain ⟨y, H1, J, ry, a, dx, fs, ey, ia, nl, q⟩ := z
  subst ey
  cases (show u = Value.ref a from ry)
  apply getmeth_ok J ia cC mM nl
  exact PySem.W.callWith_K0 (first := [.ref a]) J.kIn mM.kp (run_fnS (us := [.ref a]) (vs := [.ref a]) F rm bs (pass σ) J (.cons rfl .nil) q)
theorem run_makeE {pins : List (Addr × Obj)} {σ : St} {H : Hp} {s : Shared} {Q : VK} {us : List Value} {vs : List V} (M : Mk X.K C f) (F : FnOk X.prog X.w X.K X.mg X.base CX k f fd ps sp) (rm : Room (k + 1) X.A) (bs : Binds X.K fd ps [])
    (pass : ∀ H0 s0 e s', Inv X pins σ H0 s0 → CX X.stack H0 s0 (E σ) e s' → X.xe e s') (I : Inv X pins σ H s) (r : Vals vs us)
    (h : ∀ x dx, H x = none → H dx = none → dx ≠ x → sp (.ref x :: vs) (upd (upd H dx (.own x)) x (.ins C dx [])) (fun v H2 => v = .non ∧ Q (.ref x) H2) (E σ)) :
    wpAny (model X.prog X.w) X.A (call (.ref C) us) (EP X pins σ Q) X.xe s := by
  have hq := h (s.heap.objs.size + 1) s.heap.objs.size (I.hok.fresh (Nat.le_succ _)) (I.hok.fresh (Nat.le_refl _)) (Nat.ne_of_lt (Nat.lt_succ_self _))
  have J := Inv.made (C := C) I
  have rr : Vals (V.ref (s.heap.objs.size + 1) :: vs) (Value.ref (s.heap.objs.size + 1) :: us) := .cons rfl r
  have hl : (Value.ref (s.heap.objs.size + 1) :: us).length = ps.length := by rw [← rr.length]; exact F.len _ _ _ _ hq
  have hb := bs _ (Value.ref (s.heap.objs.size + 1) :: us) J.kIn (by rw [List.append_nil]; exact hl)
  rw [List.append_nil] at hb
  apply wpAny_call
  apply make_map (f := f) I.kIn M.makes M.init (beq_iff_eq.mp M.fn)
  apply codeAny_mono (F.run _ X.stack _ _ ⟨Value.ref (s.heap.objs.size + 1) :: us, []⟩ (Value.ref (s.heap.objs.size + 1) :: us) _ _ (E σ) (rm.make C us []) (J.env0.make C us []) hb rr hq)
  intro res s' z
  match res, z with
  | .error e, z => exact pass _ _ e s' J z
  | .ok (.ret u), z =>
    obtain ⟨v, H', I3, rv, ev, q3⟩ := J.after z
    subst ev
    exact ⟨rv, ⟨V.ref (s.heap.objs.size + 1), H', I3, rfl, q3⟩⟩
  | .ok .next, z => exact z.elim
  | .ok .brk, z => exact z.elim
  | .ok .cont, z => exact z.elim
theorem pe_makeE (M : Mk X.K C f) (F : FnOk X.prog X.w X.K X.mg X.base CX k f fd ps sp) (rm : Room (k + 1) X.A) (hg : Gl X x) (hm : X.mg x = some (.ref C)) (bs : Binds X.K fd ps []) (pass : ∀ σ, PassesAt CX X σ (E σ)) (ha : PA X (e :: es) t)
    (h0 : (x == ("__debug__" : Str)) = false := by decide) (h1 : starEach (e :: es) X.env = (false, eval e X.env) :: starEach es X.env := by rfl) (h2 : (backTo pos (starEach es X.env)).any (·.1) = false := by rfl) :
    PE X (.Call (.Name x p) (e :: es) [] pos) (tMakeE C sp E t) := by
  constructor
  intro pins s σ H Q I hq
  apply wpAny_Call_Name_kw
  apply ld_glob I hg hm _ h0
  apply PySem.W.callWith_K (h₀ := X.base) I.ok.mod.kin M.kp _ h1 h2
  apply thn (ha.run pos pins s σ H _ I hq)
  intro us s1 z
  obtain ⟨vs, H1, J, rv, q⟩ := z
  exact ⟨J.kIn, run_makeE M F rm bs (fun H0 s0 e s' => pass σ pins H0 s0 e s') J rv q⟩
end
/-- nothing leaves a callee -/
theorem pass0f {X : Cx} : Passes CX0 X (fun _ _ _ => False) := pass0

/-- len and list() of a list, a tuple, by the written part -/
def rLenQ (K : PySem.W.Frag) : List V → Hp → VK → Prop := fun xs H Q => ∃ p ys, xs = [.ref p] ∧ (SqL K H p ys ∨ SqT K H p ys) ∧ Q (.int ys.length) H
def rListQ (K : PySem.W.Frag) : List V → Hp → VK → Prop := fun xs H Q => ∃ p ys, xs = [.ref p] ∧ (SqL K H p ys ∨ SqT K H p ys) ∧ ∀ l, H l = none → Q (.ref l) (upd H l (.lst ys))
/-! ### raise of an own class with two fields -/
theorem del_back {H H2 : Hp} {a d : Addr} {o : HO} (n : H a = none) (k : ∀ b, b ≠ a → b ≠ d → H2 b = H b) : upd (del H2 a) d o = upd H d o := by
  funext b
  by_cases hb : b = d
  · rw [hb, upd_same, upd_same]
  · rw [upd_ne hb, upd_ne hb]
    by_cases ha : b = a
    · rw [ha, del_same, n]
    · rw [del_ne ha, k b ha hb]

/-! ### attributes by place -/
theorem lk0 (f : Str) (v : V) (r : List (Str × V)) : List.lookup f ((f, v) :: r) = some v := by simp [List.lookup]
theorem lk1 {f g : Str} {v : V} {r : List (Str × V)} {o : Option V} (h : (f == g) = false) (k : List.lookup f r = o) : List.lookup f ((g, v) :: r) = o := by simp [List.lookup, h, k]
theorem lkn (f : Str) : List.lookup f ([] : List (Str × V)) = none := rfl
theorem pf0 (f : Str) (v x : V) (r : List (Str × V)) : putF f v ((f, x) :: r) = (f, v) :: r := if_pos rfl
theorem pf1 {f g : Str} {v x : V} {r s : List (Str × V)} (h : (g == f) = false) (k : putF f v r = s) : putF f v ((g, x) :: r) = (g, x) :: s := by
  have e : ¬ g = f := by simpa using h
  show (if g = f then (g, v) :: r else (g, x) :: putF f v r) = (g, x) :: s
  rw [if_neg e, k]
theorem pfn (f : Str) (v : V) : putF f v [] = [(f, v)] := rfl

/-! ### heaps -/
/-- all tracked objects stay, but for those at W -/
def Kp (W : List Addr) (H H' : Hp) : Prop := ∀ b o, H b = some o → b ∉ W → H' b = some o
theorem Kp.refl (W : List Addr) (H : Hp) : Kp W H H := fun _ _ e _ => e
theorem Kp.trans {W : List Addr} {H H1 H2 : Hp} (a : Kp W H H1) (b : Kp W H1 H2) : Kp W H H2 := fun c o e h => b c o (a c o e h) h
theorem Kp.mono {W V : List Addr} {H H1 : Hp} (a : Kp W H H1) (s : ∀ x ∈ W, x ∈ V) : Kp V H H1 := fun c o e h => a c o e fun m => h (s c m)
theorem Kp.new {W : List Addr} {H H1 : Hp} (a : Kp W H H1) {p : Addr} {o : HO} (n : H1 p = none) : Kp W H (upd H1 p o) := fun c u e h => by
  have z := a c u e h
  rw [upd_ne (ne_of_none z n)]
  exact z
/-- a store to what was free ahead -/
theorem Kp.own {W : List Addr} {H H1 : Hp} (a : Kp W H H1) {p : Addr} {o : HO} (n : H p = none) : Kp W H (upd H1 p o) := fun c u e h => by
  rw [upd_ne (ne_of_none e n)]
  exact a c u e h
theorem Kp.at {H H1 : Hp} (a : Kp [] H H1) {p : Addr} {o : HO} (e : H p = some o) : H1 p = some o := a p o e (by simp)
theorem Kp.put {W : List Addr} {H H1 : Hp} (a : Kp W H H1) {p : Addr} {o : HO} (n : p ∈ W) : Kp W H (upd H1 p o) := fun c u e h => by
  rw [upd_ne (show c ≠ p from fun z => h (by rw [z]; exact n))]
  exact a c u e h
theorem Kp.free {H H1 : Hp} (a : Kp [] H H1) {p : Addr} (n : H1 p = none) : H p = none := by
  cases e : H p with
  | none => rfl
  | some o =>
    rw [a p o e (by simp)] at n
    cases n
/-- what was free and is not at W stays free where it is free behind -/
theorem Kp.freeW {W : List Addr} {H H1 : Hp} (a : Kp W H H1) {p : Addr} (n : H1 p = none) (h : ∀ q ∈ W, ∃ o, H1 q = some o) : H p = none := by
  cases e : H p with
  | none => rfl
  | some o =>
    by_cases m : p ∈ W
    · obtain ⟨u, hu⟩ := h p m
      rw [n] at hu
      cases hu
    · rw [a p o e m] at n
      cases n

/-! ### tuples stay -/
/-- every tuple stays -/
def KTu (K : PySem.W.Frag) (H H' : Hp) : Prop := ∀ a xs, SqT K H a xs → SqT K H' a xs
theorem KTu.refl (K : PySem.W.Frag) (H : Hp) : KTu K H H := fun _ _ h => h
theorem KTu.trans {K : PySem.W.Frag} {H H1 H2 : Hp} (a : KTu K H H1) (b : KTu K H1 H2) : KTu K H H2 := fun c xs h => b c xs (a c xs h)
theorem KTu.of_rd {K : PySem.W.Frag} {H H' : Hp} (h : ∀ a xs, Rd H a (.tup xs) → Rd H' a (.tup xs)) : KTu K H H' := fun a xs z => z.elim (fun r => .inl (h a xs r)) .inr
theorem KTu.upd {K : PySem.W.Frag} {H : Hp} {p : Addr} {o : HO} (h : ∀ xs, ¬ Rd H p (.tup xs)) : KTu K H (upd H p o) := KTu.of_rd fun a xs r => by
  have ne : a ≠ p := fun z => h xs (z ▸ r)
  rcases r with r | ⟨u, r⟩
  · exact .inl (by rw [upd_ne ne]; exact r)
  · exact .inr ⟨u, by rw [upd_ne ne]; exact r⟩
theorem KTu.new {K : PySem.W.Frag} {H : Hp} {p : Addr} {o : HO} (n : H p = none) : KTu K H (L2.upd H p o) := KTu.upd fun xs r => by
  rcases r with r | ⟨u, r⟩ <;> (rw [n] at r; cases r)
theorem KTu.lst {K : PySem.W.Frag} {H : Hp} {p : Addr} {o : HO} {xs : List V} (n : H p = some (.lst xs)) : KTu K H (L2.upd H p o) := KTu.upd fun ys r => by
  rcases r with r | ⟨u, r⟩ <;> (rw [n] at r; cases r)
theorem KTu.dic {K : PySem.W.Frag} {H : Hp} {p : Addr} {o : HO} {xs : List (Key × V)} (n : H p = some (.dK xs)) : KTu K H (L2.upd H p o) := KTu.upd fun ys r => by
  rcases r with r | ⟨u, r⟩ <;> (rw [n] at r; cases r)
theorem KTu.ins {K : PySem.W.Frag} {H : Hp} {p C dx : Addr} {o : HO} {xs : List (Str × V)} (n : H p = some (.ins C dx xs)) : KTu K H (L2.upd H p o) := KTu.upd fun ys r => by
  rcases r with r | ⟨u, r⟩ <;> (rw [n] at r; cases r)
theorem KTu.kp {K : PySem.W.Frag} {W : List Addr} {H H' : Hp} (k : Kp W H H') (h : ∀ p ∈ W, ∀ xs, ¬ Rd H p (.tup xs)) : KTu K H H' := KTu.of_rd fun a xs r => by
  have ne : a ∉ W := fun z => h a z xs r
  rcases r with r | ⟨u, r⟩
  · exact .inl (k a _ r ne)
  · exact .inr ⟨u, k a _ r ne⟩

theorem Kp.kt {K : PySem.W.Frag} {H H1 : Hp} (a : Kp [] H H1) : KTu K H H1 := KTu.kp a fun p hp => by cases hp
theorem Kp.seq {K : PySem.W.Frag} {H H1 : Hp} (e : Kp [] H H1) {a : Addr} {xs : List V} (h : SqL K H a xs) : SqL K H1 a xs := by
  rcases h with (h | ⟨o, h⟩) | h
  · exact .inl (.inl (e.at h))
  · exact .inl (.inr ⟨o, e.at h⟩)
  · exact .inr h
theorem Kp.seqW {K : PySem.W.Frag} {W : List Addr} {H H1 : Hp} (e : Kp W H H1) {a : Addr} {xs : List V} (h : SqL K H a xs) (n : a ∉ W) : SqL K H1 a xs := by
  rcases h with (h | ⟨o, h⟩) | h
  · exact .inl (.inl (e a _ h n))
  · exact .inl (.inr ⟨o, e a _ h n⟩)
  · exact .inr h
theorem Kp.thru {W : List Addr} {H H1 H2 : Hp} (a : Kp [] H H1) (b : Kp W H1 H2) (n : ∀ p ∈ W, H p = none) : Kp [] H H2 := fun c o e _ =>
  b c o (a.at e) fun m => by rw [n c m] at e; cases e

/-! ### data of scalars and tuples -/
mutual
def noL : PyData → Bool
  | .none => true
  | .bool _ => true
  | .int _ => true
  | .str _ => true
  | .tuple xs => noLs xs
  | .list _ => false
  | .dict _ => false
def noLs : List PyData → Bool
  | [] => true
  | x :: xs => noL x && noLs xs
end
section
variable {K : PySem.W.Frag} {H H' : Hp}
mutual
theorem Dp.kt (k : KTu K H H') : ∀ (d : PyData) (v : V), noL d = true → Dp K H v d → Dp K H' v d
  | .none, _, _, h => by cases h; exact .non
  | .bool b, _, _, h => by cases h; exact .bl b
  | .int i, _, _, h => by cases h; exact .int i
  | .str x, _, _, h => by cases h; exact .str x
  | .list ds, _, n, _ => by simp [noL] at n
  | .tuple ds, _, n, h => by
    cases h with
    | tup hs ha => exact .tup (k _ _ hs) (DpAll.kt k ds _ (by simpa [noL] using n) ha)
  | .dict _, _, _, h => by cases h
theorem DpAll.kt (k : KTu K H H') : ∀ (ds : List PyData) (vs : List V), noLs ds = true → DpAll K H vs ds → DpAll K H' vs ds
  | [], _, _, h => by cases h; exact .nil
  | d :: ds, _, n, h => by
    have n' : noL d = true ∧ noLs ds = true := by simpa [noLs] using n
    cases h with
    | cons h1 h2 => exact .cons (Dp.kt k d _ n'.1 h1) (DpAll.kt k ds _ n'.2 h2)
end
mutual
/-- data of any kind, where all that is tracked stays -/
theorem Dp.ex (k : Kp [] H H') : ∀ (d : PyData) (v : V), Dp K H v d → Dp K H' v d
  | .none, _, h => by cases h; exact .non
  | .bool b, _, h => by cases h; exact .bl b
  | .int i, _, h => by cases h; exact .int i
  | .str x, _, h => by cases h; exact .str x
  | .list ds, _, h => by
    cases h with
    | lst hs ha =>
      refine .lst ?_ (DpAll.ex k ds _ ha)
      rcases hs with (r | ⟨u, r⟩) | r
      · exact .inl (.inl (k _ _ r (by simp)))
      · exact .inl (.inr ⟨u, k _ _ r (by simp)⟩)
      · exact .inr r
  | .tuple ds, _, h => by
    cases h with
    | tup hs ha =>
      refine .tup ?_ (DpAll.ex k ds _ ha)
      rcases hs with (r | ⟨u, r⟩) | r
      · exact .inl (.inl (k _ _ r (by simp)))
      · exact .inl (.inr ⟨u, k _ _ r (by simp)⟩)
      · exact .inr r
  | .dict _, _, h => by cases h
theorem DpAll.ex (k : Kp [] H H') : ∀ (ds : List PyData) (vs : List V), DpAll K H vs ds → DpAll K H' vs ds
  | [], _, h => by cases h; exact .nil
  | d :: ds, _, h => by
    cases h with
    | cons h1 h2 => exact .cons (Dp.ex k d _ h1) (DpAll.ex k ds _ h2)
end
theorem DpAll.len : ∀ {vs : List V} {ds : List PyData}, DpAll K H vs ds → vs.length = ds.length
  | _, _, .nil => rfl
  | _, _, .cons _ t => congrArg Nat.succ (DpAll.len t)
theorem DpAll.get : ∀ {vs : List V} {ds : List PyData} {i : Nat} {v : V}, DpAll K H vs ds → vs[i]? = some v → ∃ d, ds[i]? = some d ∧ Dp K H v d
  | _, _, _, _, .nil, e => by simp at e
  | _, _, 0, _, .cons h _, e => by simp at e; subst e; exact ⟨_, rfl, h⟩
  | _, _, i + 1, v, .cons _ t, e => by
    obtain ⟨d, h1, h2⟩ := DpAll.get (i := i) (v := v) t (by simpa using e)
    exact ⟨d, by simpa using h1, h2⟩
theorem DpAll.getD : ∀ {vs : List V} {ds : List PyData} {i : Nat} {d : PyData}, DpAll K H vs ds → ds[i]? = some d → ∃ v, vs[i]? = some v ∧ Dp K H v d
  | _, _, _, _, .nil, e => by simp at e
  | _, _, 0, _, .cons h _, e => by simp at e; subst e; exact ⟨_, rfl, h⟩
  | _, _, i + 1, d, .cons _ t, e => by
    obtain ⟨v, h1, h2⟩ := DpAll.getD (i := i) (d := d) t (by simpa using e)
    exact ⟨v, by simpa using h1, h2⟩
theorem DpAll.app : ∀ {vs ws : List V} {ds es : List PyData}, DpAll K H vs ds → DpAll K H ws es → DpAll K H (vs ++ ws) (ds ++ es)
  | _, _, _, _, .nil, s => s
  | _, _, _, _, .cons h t, s => .cons h (DpAll.app t s)
theorem DpAll.erase : ∀ {vs : List V} {ds : List PyData} (i : Nat), DpAll K H vs ds → DpAll K H (vs.eraseIdx i) (ds.eraseIdx i)
  | _, _, _, .nil => .nil
  | _, _, 0, .cons _ t => t
  | _, _, i + 1, .cons h t => .cons h (DpAll.erase i t)
theorem DpAll.take : ∀ {vs : List V} {ds : List PyData} (i : Nat), DpAll K H vs ds → DpAll K H (vs.take i) (ds.take i)
  | _, _, 0, _ => .nil
  | _, _, _ + 1, .nil => .nil
  | _, _, i + 1, .cons h t => .cons h (DpAll.take i t)
theorem DpAll.drop : ∀ {vs : List V} {ds : List PyData} (i : Nat), DpAll K H vs ds → DpAll K H (vs.drop i) (ds.drop i)
  | _, _, 0, h => h
  | _, _, _ + 1, .nil => .nil
  | _, _, i + 1, .cons _ t => DpAll.drop i t
theorem noLs_iff : ∀ {ds : List PyData}, noLs ds = true ↔ ∀ d ∈ ds, noL d = true
  | [] => by simp [noLs]
  | d :: ds => by simp [noLs, noLs_iff (ds := ds)]
end

/-! ### what == may look at -/
structure Sh (n : Nat) (d : PyData) : Prop where
  can : d.canLay0 = true
  dep : d.depth ≤ n
theorem Sh.shaped {n : Nat} {d : PyData} (h : Sh n d) (hn : n ≤ 64 := by decide) : SeqAt.shaped d = true := by
  show (d.canLay0 && decide (d.depth ≤ 64)) = true
  rw [h.can, decide_eq_true (Nat.le_trans h.dep hn)]
  rfl
theorem Sh.mono {n m : Nat} {d : PyData} (h : Sh n d) (hn : n ≤ m) : Sh m d := ⟨h.can, Nat.le_trans h.dep hn⟩
theorem Sh.refl {n : Nat} {d : PyData} (h : Sh n d) : PyData.eqv d d = true := SeqAt.eqv_refl d h.can
theorem sh_non {n : Nat} : Sh n .none := ⟨by simp [PyData.canLay0], by simp [PyData.depth]⟩
theorem sh_bl {n : Nat} (b : Bool) : Sh n (.bool b) := ⟨by simp [PyData.canLay0], by simp [PyData.depth]⟩
theorem sh_int {n : Nat} (i : Int) : Sh n (.int i) := ⟨by simp [PyData.canLay0], by simp [PyData.depth]⟩
theorem sh_str {n : Nat} {x : Str} (h : PyData.strOk x = true) : Sh n (.str x) := ⟨by simp [PyData.canLay0, h], by simp [PyData.depth]⟩
theorem can_all : ∀ {ds : List PyData}, (∀ d ∈ ds, d.canLay0 = true) → PyData.canLayAll0 ds = true
  | [], _ => by simp [PyData.canLayAll0]
  | d :: ds, h => by
    rw [PyData.canLayAll0, h d (by simp), can_all fun e m => h e (by simp [m])]
    rfl
theorem dep_all : ∀ {ds : List PyData} {n : Nat}, (∀ d ∈ ds, d.depth ≤ n) → PyData.depthAll ds ≤ n
  | [], _, _ => by simp [PyData.depthAll]
  | d :: ds, n, h => by
    rw [PyData.depthAll]
    exact Nat.max_le.mpr ⟨h d (by simp), dep_all fun e m => h e (by simp [m])⟩
theorem sh_list {n : Nat} {ds : List PyData} (h : ∀ d ∈ ds, Sh n d) : Sh (n + 1) (.list ds) :=
  ⟨by rw [PyData.canLay0]; exact can_all fun d m => (h d m).can, by rw [PyData.depth]; exact Nat.succ_le_succ (dep_all fun d m => (h d m).dep)⟩
theorem sh_tup {n : Nat} {ds : List PyData} (h : ∀ d ∈ ds, Sh n d) : Sh (n + 1) (.tuple ds) :=
  ⟨by rw [PyData.canLay0]; exact can_all fun d m => (h d m).can, by rw [PyData.depth]; exact Nat.succ_le_succ (dep_all fun d m => (h d m).dep)⟩
theorem all_nil {n : Nat} : ∀ d ∈ ([] : List PyData), Sh n d := fun _ h => by cases h
theorem all_cons {n : Nat} {d : PyData} {ds : List PyData} (h : Sh n d) (t : ∀ e ∈ ds, Sh n e) : ∀ e ∈ d :: ds, Sh n e := fun e m => by
  rcases List.mem_cons.mp m with rfl | m
  · exact h
  · exact t e m
/-! ### a store in a dict by a key that is there -/
theorem put_is {κ : Type} [DecidableEq κ] {kvs kvs' : List (κ × V)} {k : κ} {v : V} (h1 : (kvs.any fun p => decide (p.1 = k)) = true) (h2 : (kvs.map fun p => if p.1 = k then (p.1, v) else p) = kvs') : putK kvs k v = kvs' := by
  unfold putK
  rw [if_pos h1]
  exact h2
/-! ### tests -/
theorem iteD {p A B : Prop} [Decidable p] (h1 : p → A) (h2 : ¬ p → B) : if decide p = true then A else B := by
  by_cases h : p
  · rw [if_pos (decide_eq_true h)]; exact h1 h
  · rw [if_neg (by simp [h])]; exact h2 h
theorem iteN {p A B : Prop} [Decidable p] (h1 : ¬ p → A) (h2 : p → B) : if (!decide p) = true then A else B := by
  by_cases h : p
  · rw [if_neg (by simp [h])]; exact h2 h
  · rw [if_pos (by simp [h])]; exact h1 h
theorem iteB {b : Bool} {A B : Prop} (h1 : b = true → A) (h2 : b = false → B) : if b = true then A else B := by
  cases b
  · rw [if_neg Bool.false_ne_true]; exact h2 rfl
  · rw [if_pos rfl]; exact h1 rfl
theorem iteNB {b : Bool} {A B : Prop} (h1 : b = false → A) (h2 : b = true → B) : if (!b) = true then A else B := by
  cases b
  · exact (if_pos (by simp : (!false) = true)).mpr (h1 rfl)
  · exact (if_neg (by simp : ¬ (!true) = true)).mpr (h2 rfl)
theorem vstr {a b : Str} (h : V.str a = V.str b) : a = b := by injection h
theorem vint {a b : Int} (h : V.int a = V.int b) : a = b := by injection h
theorem vstr_ne {a b : Str} (h : ¬ V.str a = V.str b) : ¬ a = b := fun e => h (by rw [e])
theorem vint_ne {a b : Int} (h : ¬ V.int a = V.int b) : ¬ a = b := fun e => h (by rw [e])
theorem small {n : Nat} (h : n ≤ 100000) : n ≤ sizeLine := Nat.le_trans h (by decide)
theorem smallL {n : Nat} (h : n ≤ 100000) : n < sizeLine := Nat.lt_of_le_of_lt h (by decide)
/-! ### values by their kind -/
theorem ty_tup {K : PySem.W.Frag} {H : Hp} {a : Addr} {xs : List V} (h : SqT K H a xs) : TyX K H (.ref a) (.type "tuple") := by
  rcases h with (r | ⟨o, r⟩) | ⟨o, its, n, e, c, _⟩
  · exact .base (.tup r)
  · exact .fTuple r
  · exact .kTuple e c
theorem ty_lst {K : PySem.W.Frag} {H : Hp} {a : Addr} {xs : List V} (h : SqL K H a xs) : TyX K H (.ref a) (.type "list") := by
  rcases h with (r | ⟨o, r⟩) | ⟨o, its, n, e, c, _⟩
  · exact .base (.lst r)
  · exact .base (.frz r)
  · exact .kList e c
/-- the built-in type of data -/
def tyD : PyData → String
  | .none => "NoneType"
  | .bool _ => "bool"
  | .int _ => "int"
  | .str _ => "str"
  | .list _ => "list"
  | .tuple _ => "tuple"
  | .dict _ => "dict"
theorem ty_of {K : PySem.W.Frag} {H : Hp} {v : V} {d : PyData} (h : Dp K H v d) : TyX K H v (.type (tyD d)) := by
  cases h with
  | non => exact .base .non
  | bl b => exact .base (.bl b)
  | int i => exact .base (.int i)
  | str x => exact .base (.str x)
  | lst hs _ => exact ty_lst hs
  | tup hs _ => exact ty_tup hs
end L2
set_option Elab.async false
set_option linter.all false
set_option maxRecDepth 100000
set_option maxHeartbeats 4000000
namespace Fg
open PySem PySem.Spec PyProof.Rows L2
local macro_rules | `(tactic| walk_at "lk") => `(tactic| first | exact lk0 _ _ _ | (refine lk1 (by decide +kernel) ?_; walk_at "lk") | exact lkn _)
def top (i : Nat) : Stmt := PySem.Challenge.pw_firmground_k10_tape.main.body.getD i (.Pass ⟨0, 0, 0, 0⟩)
abbrev s_Tape___init__ : Stmt := inClass (top 4) 0
abbrev N_Tape___init__ : List Str := ["self"]
theorem sc_Tape___init__ : FnScope N_Tape___init__ ["self"] (defScope s_Tape___init__) := ⟨rfl, rfl, rfl, by decide +kernel, rfl, by decide +kernel, by decide +kernel⟩
abbrev s_Tape_append : Stmt := inClass (top 4) 1
abbrev N_Tape_append : List Str := ["self", "record"]
theorem sc_Tape_append : FnScope N_Tape_append ["self", "record"] (defScope s_Tape_append) := ⟨rfl, rfl, rfl, by decide +kernel, rfl, by decide +kernel, by decide +kernel⟩
abbrev s_Tape_sync : Stmt := inClass (top 4) 2
abbrev N_Tape_sync : List Str := ["self"]
theorem sc_Tape_sync : FnScope N_Tape_sync ["self"] (defScope s_Tape_sync) := ⟨rfl, rfl, rfl, by decide +kernel, rfl, by decide +kernel, by decide +kernel⟩
abbrev s_Tape_records : Stmt := inClass (top 4) 3
abbrev N_Tape_records : List Str := ["self"]
theorem sc_Tape_records : FnScope N_Tape_records ["self"] (defScope s_Tape_records) := ⟨rfl, rfl, rfl, by decide +kernel, rfl, by decide +kernel, by decide +kernel⟩
abbrev s_Tape_pending : Stmt := inClass (top 4) 4
abbrev N_Tape_pending : List Str := ["self"]
theorem sc_Tape_pending : FnScope N_Tape_pending ["self"] (defScope s_Tape_pending) := ⟨rfl, rfl, rfl, by decide +kernel, rfl, by decide +kernel, by decide +kernel⟩
abbrev s_Tape_arm : Stmt := inClass (top 4) 5
abbrev N_Tape_arm : List Str := ["self", "count"]
theorem sc_Tape_arm : FnScope N_Tape_arm ["self", "count"] (defScope s_Tape_arm) := ⟨rfl, rfl, rfl, by decide +kernel, rfl, by decide +kernel, by decide +kernel⟩
abbrev s_Tape_crash : Stmt := inClass (top 4) 6
abbrev N_Tape_crash : List Str := ["self", "keep"]
theorem sc_Tape_crash : FnScope N_Tape_crash ["self", "keep"] (defScope s_Tape_crash) := ⟨rfl, rfl, rfl, by decide +kernel, rfl, by decide +kernel, by decide +kernel⟩
abbrev s_Tape__operate : Stmt := inClass (top 4) 7
abbrev N_Tape__operate : List Str := ["self"]
theorem sc_Tape__operate : FnScope N_Tape__operate ["self"] (defScope s_Tape__operate) := ⟨rfl, rfl, rfl, by decide +kernel, rfl, by decide +kernel, by decide +kernel⟩
abbrev s__law_act : Stmt := top 6
abbrev N__law_act : List Str := ["_law_tape", "_law_deed"]
theorem sc__law_act : FnScope N__law_act ["_law_tape", "_law_deed"] (defScope s__law_act) := ⟨rfl, rfl, rfl, by decide +kernel, rfl, by decide +kernel, by decide +kernel⟩
abbrev s__law_expect : Stmt := top 7
abbrev N__law_expect : List Str := ["_law_state", "_law_deed"]
theorem sc__law_expect : FnScope N__law_expect ["_law_state", "_law_deed"] (defScope s__law_expect) := ⟨rfl, rfl, rfl, by decide +kernel, rfl, by decide +kernel, by decide +kernel⟩
abbrev s__law_read : Stmt := top 8
abbrev N__law_read : List Str := ["_law_tape"]
theorem sc__law_read : FnScope N__law_read ["_law_tape"] (defScope s__law_read) := ⟨rfl, rfl, rfl, by decide +kernel, rfl, by decide +kernel, by decide +kernel⟩
abbrev s_law : Stmt := top 9
abbrev N_law : List Str := ["_law_script", "_law_tape", "_law_state", "_law_k", "_law_cell", "_law_kind", "_law_deed", "_law_records"]
theorem sc_law : FnScope N_law ["_law_script"] (defScope s_law) := ⟨rfl, rfl, rfl, by decide +kernel, rfl, by decide +kernel, by decide +kernel⟩
abbrev FnP (K : PySem.W.Frag) (x q : Str) (st : Stmt) (f : Addr) (fd : FuncData) : Prop := FunD K x q (defArgs st) (defBody st) (defScope st) [] [] f fd
structure Txt (K : PySem.W.Frag) (mg : Str → Option Value) where
  a_Tape___init__ : Addr
  fd_Tape___init__ : FuncData
  F_Tape___init__ : FnP K "__init__" "Tape.__init__" s_Tape___init__ a_Tape___init__ fd_Tape___init__
  b_Tape___init__ : Binds K fd_Tape___init__ ["self"] []
  a_Tape_append : Addr
  fd_Tape_append : FuncData
  F_Tape_append : FnP K "append" "Tape.append" s_Tape_append a_Tape_append fd_Tape_append
  b_Tape_append : Binds K fd_Tape_append ["self", "record"] []
  a_Tape_sync : Addr
  fd_Tape_sync : FuncData
  F_Tape_sync : FnP K "sync" "Tape.sync" s_Tape_sync a_Tape_sync fd_Tape_sync
  b_Tape_sync : Binds K fd_Tape_sync ["self"] []
  a_Tape_records : Addr
  fd_Tape_records : FuncData
  F_Tape_records : FnP K "records" "Tape.records" s_Tape_records a_Tape_records fd_Tape_records
  b_Tape_records : Binds K fd_Tape_records ["self"] []
  a_Tape_pending : Addr
  fd_Tape_pending : FuncData
  F_Tape_pending : FnP K "pending" "Tape.pending" s_Tape_pending a_Tape_pending fd_Tape_pending
  b_Tape_pending : Binds K fd_Tape_pending ["self"] []
  a_Tape_arm : Addr
  fd_Tape_arm : FuncData
  F_Tape_arm : FnP K "arm" "Tape.arm" s_Tape_arm a_Tape_arm fd_Tape_arm
  b_Tape_arm : Binds K fd_Tape_arm ["self", "count"] []
  a_Tape_crash : Addr
  fd_Tape_crash : FuncData
  F_Tape_crash : FnP K "crash" "Tape.crash" s_Tape_crash a_Tape_crash fd_Tape_crash
  b_Tape_crash : Binds K fd_Tape_crash ["self", "keep"] []
  a_Tape__operate : Addr
  fd_Tape__operate : FuncData
  F_Tape__operate : FnP K "_operate" "Tape._operate" s_Tape__operate a_Tape__operate fd_Tape__operate
  b_Tape__operate : Binds K fd_Tape__operate ["self"] []
  a__law_act : Addr
  fd__law_act : FuncData
  F__law_act : FnP K "_law_act" "_law_act" s__law_act a__law_act fd__law_act
  b__law_act : Binds K fd__law_act ["_law_tape", "_law_deed"] []
  g__law_act : mg "_law_act" = some (.ref a__law_act)
  a__law_expect : Addr
  fd__law_expect : FuncData
  F__law_expect : FnP K "_law_expect" "_law_expect" s__law_expect a__law_expect fd__law_expect
  b__law_expect : Binds K fd__law_expect ["_law_state", "_law_deed"] []
  g__law_expect : mg "_law_expect" = some (.ref a__law_expect)
  a__law_read : Addr
  fd__law_read : FuncData
  F__law_read : FnP K "_law_read" "_law_read" s__law_read a__law_read fd__law_read
  b__law_read : Binds K fd__law_read ["_law_tape"] []
  g__law_read : mg "_law_read" = some (.ref a__law_read)
  a_law : Addr
  fd_law : FuncData
  F_law : FnP K "law" "law" s_law a_law fd_law
  b_law : Binds K fd_law ["_law_script"] []
  g_law : mg "law" = some (.ref a_law)
  a_GroundError : Addr
  g_GroundError : mg "GroundError" = some (.ref a_GroundError)
  x_GroundError : PySem.W.excIn K a_GroundError He.veBase "ValueError.__new__" = true
  k_GroundError : PySem.W.keepIn K (.ref a_GroundError) = true
  xb_GroundError : PySem.W.subIn K (.ref a_GroundError) (.type "BaseException") = some true
  xt_GroundError : PySem.W.typeIn K (.ref a_GroundError) = some (.type "type")
  a_TapeCrashed : Addr
  g_TapeCrashed : mg "TapeCrashed" = some (.ref a_TapeCrashed)
  x_TapeCrashed : PySem.W.excIn K a_TapeCrashed He.veBase "ValueError.__new__" = true
  k_TapeCrashed : PySem.W.keepIn K (.ref a_TapeCrashed) = true
  xb_TapeCrashed : PySem.W.subIn K (.ref a_TapeCrashed) (.type "BaseException") = some true
  xt_TapeCrashed : PySem.W.typeIn K (.ref a_TapeCrashed) = some (.type "type")
  a_Tape : Addr
  g_Tape : mg "Tape" = some (.ref a_Tape)
  cls_Tape : Cls K a_Tape
  na_Tape__durable : NoAttr K a_Tape "_durable"
  na_Tape__pending : NoAttr K a_Tape "_pending"
  na_Tape__left : NoAttr K a_Tape "_left"
  na_Tape__crashed : NoAttr K a_Tape "_crashed"
  mk_Tape : Mk K a_Tape a_Tape___init__
  m_Tape_append : Meth K a_Tape "append" a_Tape_append
  m_Tape_sync : Meth K a_Tape "sync" a_Tape_sync
  m_Tape_records : Meth K a_Tape "records" a_Tape_records
  m_Tape_pending : Meth K a_Tape "pending" a_Tape_pending
  m_Tape_arm : Meth K a_Tape "arm" a_Tape_arm
  m_Tape_crash : Meth K a_Tape "crash" a_Tape_crash
  m_Tape__operate : Meth K a_Tape "_operate" a_Tape__operate
  e_TapeCrashed_TapeCrashed : PySem.W.exmOne K (.ref a_TapeCrashed) (.ref a_TapeCrashed) = some true
  n_len : mg "len" = none
  n_range : mg "range" = none
  n_int : mg "int" = none
  n_isinstance : mg "isinstance" = none
  n_bool : mg "bool" = none
  n_list : mg "list" = none

/-! ### a tape as data -/
structure TS where
  xs : List V
  ys : List V
  left : Option Int
  dead : Bool
def lV : Option Int → V
  | none => .non
  | some i => .int i
def tapeF (d q : Addr) (l : Option Int) (c : Bool) : List (Str × V) := [("_durable", .ref d), ("_pending", .ref q), ("_left", lV l), ("_crashed", .bl c)]
theorem n1 : (("_pending" : Str) == "_durable") = false := by decide +kernel
theorem n2 : (("_left" : Str) == "_durable") = false := by decide +kernel
theorem n3 : (("_left" : Str) == "_pending") = false := by decide +kernel
theorem n4 : (("_crashed" : Str) == "_durable") = false := by decide +kernel
theorem n5 : (("_crashed" : Str) == "_pending") = false := by decide +kernel
theorem n6 : (("_crashed" : Str) == "_left") = false := by decide +kernel
theorem m1 : (("_durable" : Str) == "_pending") = false := by decide +kernel
theorem m2 : (("_durable" : Str) == "_left") = false := by decide +kernel
theorem m3 : (("_pending" : Str) == "_left") = false := by decide +kernel
theorem m4 : (("_durable" : Str) == "_crashed") = false := by decide +kernel
theorem m5 : (("_pending" : Str) == "_crashed") = false := by decide +kernel
theorem m6 : (("_left" : Str) == "_crashed") = false := by decide +kernel
section
variable {d q q2 : Addr} {l l2 : Option Int} {c c2 : Bool}
theorem lD : (tapeF d q l c).lookup ("_durable" : Str) = some (.ref d) := lk0 _ _ _
theorem lP : (tapeF d q l c).lookup ("_pending" : Str) = some (.ref q) := lk1 n1 (lk0 _ _ _)
theorem lL : (tapeF d q l c).lookup ("_left" : Str) = some (lV l) := lk1 n2 (lk1 n3 (lk0 _ _ _))
theorem lC : (tapeF d q l c).lookup ("_crashed" : Str) = some (.bl c) := lk1 n4 (lk1 n5 (lk1 n6 (lk0 _ _ _)))
theorem pP : putF "_pending" (.ref q2) (tapeF d q l c) = tapeF d q2 l c := pf1 m1 (pf0 _ _ _ _)
theorem pL : putF "_left" (lV l2) (tapeF d q l c) = tapeF d q l2 c := pf1 m2 (pf1 m3 (pf0 _ _ _ _))
theorem pC : putF "_crashed" (.bl c2) (tapeF d q l c) = tapeF d q l c2 := pf1 m4 (pf1 m5 (pf1 m6 (pf0 _ _ _ _)))
theorem pI : putF "_crashed" (.bl false) (putF "_left" .non (putF "_pending" (.ref q) (putF "_durable" (.ref d) []))) = tapeF d q none false := by
  rw [pfn, pf1 m1 (pfn _ _), pf1 m2 (pf1 m3 (pfn _ _)), pf1 m4 (pf1 m5 (pf1 m6 (pfn _ _)))]
  rfl
end
theorem lV_zero {l : Option Int} : (lV l = V.int 0) ↔ l = some 0 := by
  cases l with
  | none => simp [lV]
  | some i => simp [lV]
theorem lV_non {l : Option Int} : (lV l = V.non) ↔ l = none := by
  cases l with
  | none => simp [lV]
  | some i => simp [lV]
theorem lV_scal (l : Option Int) : scal (lV l) (.int 0) = true := by cases l <;> rfl
structure TapeAt (C : Addr) (H : Hp) (p d q : Addr) (t : TS) : Prop where
  ob : ∃ dx, H p = some (.ins C dx (tapeF d q t.left t.dead))
  du : H d = some (.lst t.xs)
  pe : H q = some (.lst t.ys)
  ne : d ≠ q
/-- an operation of a tape that goes -/
def TS.goes (t : TS) : Prop := t.dead = false ∧ t.left ≠ some 0
def TS.op (t : TS) : TS := { t with left := t.left.map fun i => i - 1 }
section
variable {P : Program} {w : World} {K : PySem.W.Frag} {mg : Str → Option Value} {base : Heap}
def spTinit (C : Addr) : Sp := fun vs H Q _ => ∃ (p dx : Addr), vs = [.ref p] ∧ H p = some (.ins C dx []) ∧ ∀ d q H', Kp [p] H H' → H d = none → H q = none → TapeAt C H' p d q ⟨[], [], none, false⟩ → Q .non H'
theorem ok_Tape___init__ (T : Txt K mg) : FnOk P w K mg base CX0 1 T.a_Tape___init__ T.fd_Tape___init__ ["self"] (spTinit T.a_Tape) := by
  refine T.F_Tape___init__.ok sc_Tape___init__ (fun vs H Q E h => ?_) (fun cdv A outer s H vs Q E hr h => ?_)
  · obtain ⟨p, dx, rfl, _⟩ := h
    rfl
  · obtain ⟨p, dx, rfl, hp, k⟩ := h
    refine ⟨_, PSs.nox (pss_cons (ps_fld (pv 0) (pe_lst pa_nil) rfl)
      (pss_cons (ps_fld (pv 0) (pe_lst pa_nil) rfl)
      (pss_cons (ps_fld (pv 0) pe_non rfl)
      (pss_one (ps_fld (pv 0) pe_bl rfl))))), ?_⟩
    refine ⟨by decide, fun d hd => ⟨_, rfl, p, T.a_Tape, dx, [], rfl, by rw [upd_ne (ne_of_none hp hd)]; exact hp, T.cls_Tape, T.na_Tape__durable, by show 0 < 1000; decide, ?_⟩⟩
    refine ⟨by decide, fun q hq => ⟨_, rfl, p, T.a_Tape, dx, putF "_durable" (.ref d) [], rfl, ?_, T.cls_Tape, T.na_Tape__pending, by show 1 < 1000; decide, ?_⟩⟩
    · have : p ≠ q := fun z => by rw [← z, upd_same] at hq; cases hq
      rw [upd_ne this]
      exact upd_same
    have pd : d ≠ p := (ne_of_none hp hd).symm
    have pq : q ≠ p := fun z => by rw [z, upd_same] at hq; cases hq
    have qd : d ≠ q := fun z => by rw [← z, upd_ne pd, upd_same] at hq; cases hq
    refine ⟨_, rfl, p, T.a_Tape, dx, _, rfl, upd_same, T.cls_Tape, T.na_Tape__left, by show 2 < 1000; decide, ?_⟩
    refine ⟨_, rfl, p, T.a_Tape, dx, _, rfl, upd_same, T.cls_Tape, T.na_Tape__crashed, by show 3 < 1000; decide, ?_⟩
    have hq0 : H q = none := by rw [upd_ne pq, upd_ne qd.symm] at hq; exact hq
    refine k d q _ ((((((Kp.refl [p] H).own hd).put (by simp)).own hq0).put (by simp)).put (by simp) |>.put (by simp)) hd hq0 ⟨⟨dx, ?_⟩, ?_, ?_, qd⟩
    · rw [upd_same]
      exact congrArg (fun z => some (HO.ins T.a_Tape dx z)) pI
    · rw [upd_ne pd, upd_ne pd, upd_ne pd, upd_ne qd, upd_ne pd]
      exact upd_same
    · rw [upd_ne pq, upd_ne pq, upd_ne pq]
      exact upd_same
/-- the new state of a tape at p, all else as it was -/
def Turn (C : Addr) (W : List Addr) (H H' : Hp) (p d q : Addr) (t : TS) : Prop := Kp W H H' ∧ TapeAt C H' p d q t
def spOp (C B : Addr) : Sp := fun vs H Q E => ∃ (p d q : Addr) (t : TS), vs = [.ref p] ∧ TapeAt C H p d q t ∧ (∀ H', t.goes → Turn C [p] H H' p d q t.op → Q .non H') ∧
  (∀ H', ¬ t.goes → Turn C [p] H H' p d q { t with dead := true } → E (.ref B) none H')
theorem ok_Tape__operate (T : Txt K mg) : FnOk P w K mg base (L2.CX P w) 1 T.a_Tape__operate T.fd_Tape__operate ["self"] (spOp T.a_Tape T.a_TapeCrashed) := by
  refine T.F_Tape__operate.ok sc_Tape__operate (fun vs H Q E h => ?_) (fun cdv A outer s H vs Q E hr h => ?_)
  · obtain ⟨p, d, q, t, rfl, _⟩ := h
    rfl
  · obtain ⟨p, d, q, t, rfl, N, kg, kb⟩ := h
    obtain ⟨⟨dx, hp⟩, hd, hq, ne⟩ := id N
    refine ⟨_, pss_cons (ps_if (pt_val (pe_fld (pv 0) rfl)) (pss_one (ps_raise rfl (takes_of rfl rfl rfl rfl) (pmk_own0 PySem.F.excBase_ValueError T.x_TapeCrashed T.g_TapeCrashed T.k_TapeCrashed (raises_own T.xb_TapeCrashed T.xt_TapeCrashed) (by rfl)))) pss_nil)
      (pss_cons (ps_if (pt_cmpR op_eq (pe_fld (pv 0) rfl) pe_int (nomark _)) (pss_cons (ps_fld (pv 0) pe_bl rfl)
      (pss_one (ps_raise rfl (takes_of rfl rfl rfl rfl) (pmk_own0 PySem.F.excBase_ValueError T.x_TapeCrashed T.g_TapeCrashed T.k_TapeCrashed (raises_own T.xb_TapeCrashed T.xt_TapeCrashed) (by rfl))))) pss_nil)
      (pss_one (ps_if (pt_cmpR op_notN (pe_fld (pv 0) rfl) pe_non (nomark _)) (pss_one (ps_fldaug (pv 0) pe_int in_sub)) pss_nil))), ?_⟩
    have pd : d ≠ p := ne_of hd hp (by intro z; cases z)
    have pq : q ≠ p := ne_of hq hp (by intro z; cases z)
    refine ⟨_, rfl, p, T.a_Tape, dx, _, _, rfl, hp, T.cls_Tape, T.na_Tape__crashed, lC, _, rfl, ?_⟩
    refine iteB (fun c => ?_) (fun c => ?_)
    · refine kb H (fun z => by rw [z.1] at c; cases c) ⟨Kp.refl _ _, ?_⟩
      obtain ⟨a1, a2, a3, a4⟩ := t
      cases (show a4 = true from c)
      exact N
    refine ⟨_, rfl, p, T.a_Tape, dx, _, _, rfl, hp, T.cls_Tape, T.na_Tape__left, lL, lV_scal _, _, rfl, ?_⟩
    refine iteD (fun c2 => ?_) (fun c2 => ?_)
    · refine ⟨_, rfl, p, T.a_Tape, dx, _, rfl, hp, T.cls_Tape, T.na_Tape__crashed, by show 4 < 1000; decide, ?_⟩
      rw [pC]
      exact kb _ (fun z => z.2 (lV_zero.mp c2)) ⟨(Kp.refl _ _).put (by simp), ⟨dx, upd_same⟩, by rw [upd_ne pd]; exact hd, by rw [upd_ne pq]; exact hq, ne⟩
    · have go : t.goes := ⟨c, fun z => c2 (lV_zero.mpr z)⟩
      refine ⟨_, rfl, p, T.a_Tape, dx, _, _, rfl, hp, T.cls_Tape, T.na_Tape__left, lL, rfl, _, rfl, ?_⟩
      refine iteN (fun c3 => ?_) (fun c3 => ?_)
      · obtain ⟨a1, a2, a3, a4⟩ := t
        cases a3 with
        | none => exact absurd rfl c3
        | some i =>
          refine ⟨_, rfl, p, T.a_Tape, dx, _, _, rfl, hp, T.cls_Tape, T.na_Tape__left, lL, _, _, rfl, rfl, dx, _, hp, by show 4 < 1000; decide, ?_⟩
          have e : putF "_left" (.int (i - 1)) (tapeF d q (some i) a4) = tapeF d q (some (i - 1)) a4 := pL (l2 := some (i - 1))
          rw [e]
          exact kg _ go ⟨(Kp.refl _ _).put (by simp), ⟨dx, upd_same⟩, by rw [upd_ne pd]; exact hd, by rw [upd_ne pq]; exact hq, ne⟩
      · refine kg H go ⟨Kp.refl _ _, ?_⟩
        obtain ⟨a1, a2, a3, a4⟩ := t
        cases (show a3 = none from lV_non.mp c3)
        exact N
def spAppend (C B : Addr) : Sp := fun vs H Q E => ∃ (p d q : Addr) (t : TS) (r : V), vs = [.ref p, r] ∧ TapeAt C H p d q t ∧ t.ys.length ≤ 1000 ∧ (∀ H', t.goes → Turn C [p, q] H H' p d q { t.op with ys := t.ys ++ [r] } → Q .non H') ∧
  (∀ H', ¬ t.goes → Turn C [p] H H' p d q { t with dead := true } → E (.ref B) none H')
theorem ok_Tape_append (T : Txt K mg) : FnOk P w K mg base (L2.CX P w) 2 T.a_Tape_append T.fd_Tape_append ["self", "record"] (spAppend T.a_Tape T.a_TapeCrashed) := by
  refine T.F_Tape_append.ok sc_Tape_append (fun vs H Q E h => ?_) (fun cdv A outer s H vs Q E hr h => ?_)
  · obtain ⟨p, d, q, t, r, rfl, _⟩ := h
    rfl
  · obtain ⟨p, d, q, t, r, rfl, N, hz, kg, kb⟩ := h
    refine ⟨_, pss_cons (ps_expr (pe_meth0 (pv 0) T.cls_Tape T.m_Tape__operate (ok_Tape__operate T) (hr.mono (by decide)) T.b_Tape__operate .nil (passes_call (takes_of rfl rfl rfl rfl) (fun _ _ _ _ h => h))))
      (pss_one (ps_expr (pe_bm PySem.F.plainAttrs_list PySem.F.slot_list_append PySem.F.type_list_append mt_append (pe_fld (pv 0) rfl) (pa_cons (pv 1) pa_nil)))), ?_⟩
    obtain ⟨dx, hp⟩ := N.ob
    refine ⟨_, rfl, p, dx, _, rfl, hp, by walk_at "lk", p, d, q, t, rfl, N, fun H' go ⟨k', N'⟩ => ?_, kb⟩
    obtain ⟨⟨dx', hp'⟩, hd', hq', ne⟩ := id N'
    have pq : p ≠ q := ne_of hp' hq' (by intro z; cases z)
    refine ⟨_, rfl, p, T.a_Tape, dx', _, _, rfl, hp', T.cls_Tape, T.na_Tape__pending, lP, Or.inl ⟨rfl, _, SqL.of hq'⟩, _, rfl, q, _, r, rfl, rfl, hq', small1000 hz, ?_⟩
    exact kg _ go ⟨(k'.mono (by simp)).put (by simp), ⟨dx', by rw [upd_ne pq]; exact hp'⟩, by rw [upd_ne ne]; exact hd', upd_same, ne⟩
def spSync (C B : Addr) : Sp := fun vs H Q E => ∃ (p d q : Addr) (t : TS), vs = [.ref p] ∧ TapeAt C H p d q t ∧ t.xs.length + t.ys.length ≤ 1000 ∧ (∀ H' q', t.goes → H q' = none → Turn C [p, d] H H' p d q' { t.op with xs := t.xs ++ t.ys, ys := [] } → Q .non H') ∧
  (∀ H', ¬ t.goes → Turn C [p] H H' p d q { t with dead := true } → E (.ref B) none H')
theorem Kp.free1 {C : Addr} {p q : Addr} {H H1 : Hp} {W : List Addr} (a : Kp W H H1) (n : H1 q = none) (h : ∀ x ∈ W, ∃ o, H1 x = some o) : H q = none := a.freeW n h
theorem ok_Tape_sync (T : Txt K mg) : FnOk P w K mg base (L2.CX P w) 2 T.a_Tape_sync T.fd_Tape_sync ["self"] (spSync T.a_Tape T.a_TapeCrashed) := by
  refine T.F_Tape_sync.ok sc_Tape_sync (fun vs H Q E h => ?_) (fun cdv A outer s H vs Q E hr h => ?_)
  · obtain ⟨p, d, q, t, rfl, _⟩ := h
    rfl
  · obtain ⟨p, d, q, t, rfl, N, hz, kg, kb⟩ := h
    refine ⟨_, pss_cons (ps_expr (pe_meth0 (pv 0) T.cls_Tape T.m_Tape__operate (ok_Tape__operate T) (hr.mono (by decide)) T.b_Tape__operate .nil (passes_call (takes_of rfl rfl rfl rfl) (fun _ _ _ _ h => h))))
      (pss_cons (ps_expr (pe_bm PySem.F.plainAttrs_list PySem.F.slot_list_extend PySem.F.type_list_extend mt_extend (pe_fld (pv 0) rfl) (pa_cons (pe_fld (pv 0) rfl) pa_nil)))
      (pss_one (ps_fld (pv 0) (pe_lst pa_nil) rfl))), ?_⟩
    obtain ⟨dx, hp⟩ := N.ob
    refine ⟨_, rfl, p, dx, _, rfl, hp, by walk_at "lk", p, d, q, t, rfl, N, fun H' go ⟨k', N'⟩ => ?_, kb⟩
    obtain ⟨⟨dx', hp'⟩, hd', hq', ne⟩ := id N'
    have pq : p ≠ q := ne_of hp' hq' (by intro z; cases z)
    have pd : p ≠ d := ne_of hp' hd' (by intro z; cases z)
    refine ⟨_, rfl, p, T.a_Tape, dx', _, _, rfl, hp', T.cls_Tape, T.na_Tape__durable, lD, Or.inl ⟨rfl, _, SqL.of hd'⟩, _, rfl, p, T.a_Tape, dx', _, _, rfl, hp', T.cls_Tape, T.na_Tape__pending, lP, d, q, t.xs, t.ys, rfl, rfl, hd', hq', small (by omega), ?_⟩
    refine ⟨by show 0 ≤ sizeLine; decide, fun q' hq2 => ?_⟩
    have qd : d ≠ q' := fun z => by rw [← z, upd_same] at hq2; cases hq2
    have hq3 : H' q' = none := by rw [upd_ne qd.symm] at hq2; exact hq2
    have pq' : p ≠ q' := ne_of_none hp' hq3
    refine ⟨_, rfl, p, T.a_Tape, dx', _, rfl, by rw [upd_ne pq', upd_ne pd]; exact hp', T.cls_Tape, T.na_Tape__pending, by show 4 < 1000; decide, ?_⟩
    rw [pP]
    refine kg _ q' go (k'.freeW hq3 fun x hx => by rw [List.mem_singleton.mp hx]; exact ⟨_, hp'⟩) ⟨?_, ⟨dx', upd_same⟩, ?_, ?_, qd⟩
    · exact ((((k'.mono (V := [p, d]) (by simp)).put (by simp)).new hq2).put (by simp))
    · rw [upd_ne pd.symm, upd_ne qd]
      exact upd_same
    · rw [upd_ne pq'.symm]
      exact upd_same
def spRecords (C B : Addr) : Sp := fun vs H Q E => ∃ (p d q : Addr) (t : TS), vs = [.ref p] ∧ TapeAt C H p d q t ∧ t.xs.length + t.ys.length ≤ 1000 ∧ (t.dead = false → ∀ l, H l = none → Q (.ref l) (upd H l (.lst (t.xs ++ t.ys)))) ∧ (t.dead = true → E (.ref B) none H)
theorem ok_Tape_records (T : Txt K mg) : FnOk P w K mg base (L2.CX P w) 1 T.a_Tape_records T.fd_Tape_records ["self"] (spRecords T.a_Tape T.a_TapeCrashed) := by
  refine T.F_Tape_records.ok sc_Tape_records (fun vs H Q E h => ?_) (fun cdv A outer s H vs Q E hr h => ?_)
  · obtain ⟨p, d, q, t, rfl, _⟩ := h
    rfl
  · obtain ⟨p, d, q, t, rfl, N, hz, kg, kb⟩ := h
    refine ⟨_, pss_cons (ps_if (pt_val (pe_fld (pv 0) rfl)) (pss_one (ps_raise rfl (takes_of rfl rfl rfl rfl) (pmk_own0 PySem.F.excBase_ValueError T.x_TapeCrashed T.g_TapeCrashed T.k_TapeCrashed (raises_own T.xb_TapeCrashed T.xt_TapeCrashed) (by rfl)))) pss_nil)
      (pss_one (ps_ret (pe_op op_cat (pe_fld (pv 0) rfl) (pe_fld (pv 0) rfl)))), ?_⟩
    obtain ⟨⟨dx, hp⟩, hd, hq, ne⟩ := id N
    refine ⟨_, rfl, p, T.a_Tape, dx, _, _, rfl, hp, T.cls_Tape, T.na_Tape__crashed, lC, _, rfl, ?_⟩
    refine iteB (fun c => kb c) (fun c => ?_)
    exact ⟨_, rfl, p, T.a_Tape, dx, _, _, rfl, hp, T.cls_Tape, T.na_Tape__durable, lD, _, rfl, p, T.a_Tape, dx, _, _, rfl, hp, T.cls_Tape, T.na_Tape__pending, lP, d, q, t.xs, t.ys, rfl, rfl, hd, hq, small (by omega), kg c⟩
def spPending (C : Addr) : Sp := fun vs H Q _ => ∃ (p d q : Addr) (t : TS), vs = [.ref p] ∧ TapeAt C H p d q t ∧ Q (.int t.ys.length) H
theorem ok_Tape_pending (T : Txt K mg) : FnOk P w K mg base CX0 1 T.a_Tape_pending T.fd_Tape_pending ["self"] (spPending T.a_Tape) := by
  refine T.F_Tape_pending.ok sc_Tape_pending (fun vs H Q E h => ?_) (fun cdv A outer s H vs Q E hr h => ?_)
  · obtain ⟨p, d, q, t, rfl, _⟩ := h
    rfl
  · obtain ⟨p, d, q, t, rfl, N, k⟩ := h
    refine ⟨_, PSs.nox (pss_one (ps_ret (pe_callB call_len_seq (by rfl) T.n_len PySem.boot_len (pa_cons (pe_fld (pv 0) rfl) pa_nil)))), ?_⟩
    obtain ⟨⟨dx, hp⟩, hd, hq, ne⟩ := id N
    exact ⟨_, rfl, p, T.a_Tape, dx, _, _, rfl, hp, T.cls_Tape, T.na_Tape__pending, lP, q, _, rfl, .inl (SqL.of hq), k⟩
def spArm (C : Addr) : Sp := fun vs H Q _ => ∃ (p d q : Addr) (t : TS) (c : Int), vs = [.ref p, .int c] ∧ TapeAt C H p d q t ∧ ∀ H', Turn C [p] H H' p d q { t with left := some c } → Q .non H'
theorem ok_Tape_arm (T : Txt K mg) : FnOk P w K mg base CX0 1 T.a_Tape_arm T.fd_Tape_arm ["self", "count"] (spArm T.a_Tape) := by
  refine T.F_Tape_arm.ok sc_Tape_arm (fun vs H Q E h => ?_) (fun cdv A outer s H vs Q E hr h => ?_)
  · obtain ⟨p, d, q, t, c, rfl, _⟩ := h
    rfl
  · obtain ⟨p, d, q, t, c, rfl, N, k⟩ := h
    refine ⟨_, PSs.nox (pss_one (ps_fld (pv 0) (pv 1) rfl)), ?_⟩
    obtain ⟨⟨dx, hp⟩, hd, hq, ne⟩ := id N
    have pd : d ≠ p := ne_of hd hp (by intro z; cases z)
    have pq : q ≠ p := ne_of hq hp (by intro z; cases z)
    refine ⟨_, rfl, _, rfl, p, T.a_Tape, dx, _, rfl, hp, T.cls_Tape, T.na_Tape__left, by show 4 < 1000; decide, ?_⟩
    have e : putF "_left" (.int c) (tapeF d q t.left t.dead) = tapeF d q (some c) t.dead := pL (l2 := some c)
    rw [e]
    exact k _ ⟨(Kp.refl _ _).put (by simp), ⟨dx, upd_same⟩, by rw [upd_ne pd]; exact hd, by rw [upd_ne pq]; exact hq, ne⟩
def spCrash (C : Addr) : Sp := fun vs H Q _ => ∃ (p d q : Addr) (t : TS) (c : Nat), vs = [.ref p, .int c] ∧ TapeAt C H p d q t ∧ t.xs.length + t.ys.length ≤ 1000 ∧ ∀ H' q', H q' = none → Turn C [p, d] H H' p d q' ⟨t.xs ++ t.ys.take c, [], none, false⟩ → Q .non H'
theorem cut_take (xs : List V) (c : Nat) : cutV xs none (some (c : Int)) = xs.take c := by
  show (xs.drop (HT.sIx xs.length 0 none)).take (HT.sIx xs.length xs.length (some (c : Int)) - HT.sIx xs.length 0 none) = xs.take c
  rw [HT.sIx_none, HT.sIx_nat, List.drop_zero, Nat.sub_zero]
  by_cases h : c ≤ xs.length
  · rw [Nat.min_eq_left h]
  · rw [Nat.min_eq_right (by omega), List.take_length, List.take_of_length_le (by omega)]
theorem ok_Tape_crash (T : Txt K mg) : FnOk P w K mg base CX0 1 T.a_Tape_crash T.fd_Tape_crash ["self", "keep"] (spCrash T.a_Tape) := by
  refine T.F_Tape_crash.ok sc_Tape_crash (fun vs H Q E h => ?_) (fun cdv A outer s H vs Q E hr h => ?_)
  · obtain ⟨p, d, q, t, c, rfl, _⟩ := h
    rfl
  · obtain ⟨p, d, q, t, c, rfl, N, hz, k⟩ := h
    refine ⟨_, PSs.nox (pss_cons (ps_expr (pe_bm PySem.F.plainAttrs_list PySem.F.slot_list_extend PySem.F.type_list_extend mt_extend (pe_fld (pv 0) rfl) (pa_cons (pe_slice sl_list (pe_fld (pv 0) rfl) po_none (po_some (pv 1))) pa_nil)))
      (pss_cons (ps_fld (pv 0) (pe_lst pa_nil) rfl)
      (pss_cons (ps_fld (pv 0) pe_non rfl)
      (pss_one (ps_fld (pv 0) pe_bl rfl))))), ?_⟩
    obtain ⟨⟨dx, hp⟩, hd, hq, ne⟩ := id N
    have pd : d ≠ p := ne_of hd hp (by intro z; cases z)
    have pq : q ≠ p := ne_of hq hp (by intro z; cases z)
    have hl : (t.ys.take c).length ≤ t.ys.length := by rw [List.length_take]; omega
    refine ⟨_, rfl, p, T.a_Tape, dx, _, _, rfl, hp, T.cls_Tape, T.na_Tape__durable, lD, Or.inl ⟨rfl, _, SqL.of hd⟩, _, rfl, p, T.a_Tape, dx, _, _, rfl, hp, T.cls_Tape, T.na_Tape__pending, lP, _, rfl, _, rfl, q, t.ys, rfl, SqL.of hq, fun z hz1 => ?_⟩
    rw [cut_take]
    have dz : d ≠ z := ne_of_none hd hz1
    have pz : p ≠ z := ne_of_none hp hz1
    refine ⟨d, z, t.xs, t.ys.take c, rfl, rfl, by rw [upd_ne dz]; exact hd, upd_same, small (by omega), ?_⟩
    refine ⟨by show 0 ≤ sizeLine; decide, fun q' hq2 => ?_⟩
    have qd : d ≠ q' := fun x => by rw [← x, upd_same] at hq2; cases hq2
    have hq2' : (upd H z (.lst (t.ys.take c))) q' = none := by rw [upd_ne qd.symm] at hq2; exact hq2
    have zq : z ≠ q' := fun x => by rw [← x, upd_same] at hq2'; cases hq2'
    have hq3 : H q' = none := by rw [upd_ne zq.symm] at hq2'; exact hq2'
    have pq' : p ≠ q' := ne_of_none hp hq3
    refine ⟨_, rfl, p, T.a_Tape, dx, _, rfl, by rw [upd_ne pq', upd_ne pd.symm, upd_ne pz]; exact hp, T.cls_Tape, T.na_Tape__pending, by show 4 < 1000; decide, ?_⟩
    rw [pP]
    refine ⟨_, rfl, p, T.a_Tape, dx, _, rfl, upd_same, T.cls_Tape, T.na_Tape__left, by show 4 < 1000; decide, ?_⟩
    have e : putF "_left" V.non (tapeF d q' t.left t.dead) = tapeF d q' none t.dead := pL (l2 := none)
    rw [e, upd_upd]
    refine ⟨_, rfl, p, T.a_Tape, dx, _, rfl, upd_same, T.cls_Tape, T.na_Tape__crashed, by show 4 < 1000; decide, ?_⟩
    rw [pC, upd_upd]
    refine k _ q' hq3 ⟨?_, ⟨dx, upd_same⟩, ?_, ?_, qd⟩
    · exact (((((Kp.refl [p, d] H).new hz1).put (by simp)).new hq2).put (by simp))
    · rw [upd_ne pd, upd_ne qd]
      exact upd_same
    · rw [upd_ne pq'.symm]
      exact upd_same

/-! ### a deed -/
inductive Deed where
  | app (r : V) | sync | arm (c : Nat) | crash (c : Nat)
def Deed.items : Deed → List V
  | .app r => [.str "append", r]
  | .sync => [.str "sync"]
  | .arm c => [.str "arm", .int c]
  | .crash c => [.str "crash", .int c]
/-- the state behind it; was it done -/
def after : Deed → TS → TS
  | .arm c, t => { t with left := some c }
  | .crash c, t => ⟨t.xs ++ t.ys.take c, [], none, false⟩
  | .app r, t => if t.dead = false ∧ t.left ≠ some 0 then { t.op with ys := t.ys ++ [r] } else { t with dead := true }
  | .sync, t => if t.dead = false ∧ t.left ≠ some 0 then { t.op with xs := t.xs ++ t.ys, ys := [] } else { t with dead := true }
def word : Deed → TS → Str
  | .arm _, _ => "done"
  | .crash _, _ => "done"
  | .app _, t => if t.dead = false ∧ t.left ≠ some 0 then "done" else "crashed"
  | .sync, t => if t.dead = false ∧ t.left ≠ some 0 then "done" else "crashed"
theorem word_ok (de : Deed) (t : TS) : PyData.strOk (word de t) = true := by
  have h1 : PyData.strOk "done" = true := by decide +kernel
  have h2 : PyData.strOk "crashed" = true := by decide +kernel
  cases de with
  | arm c => exact h1
  | crash c => exact h1
  | app r =>
    show PyData.strOk (if _ then _ else _) = true
    split
    · exact h1
    · exact h2
  | sync =>
    show PyData.strOk (if _ then _ else _) = true
    split
    · exact h1
    · exact h2
theorem a_s : ¬ (("append" : Str) = "sync") := by decide +kernel
theorem s_a : ¬ (("sync" : Str) = "append") := by decide +kernel
theorem r_a : ¬ (("arm" : Str) = "append") := by decide +kernel
theorem r_s : ¬ (("arm" : Str) = "sync") := by decide +kernel
theorem c_a : ¬ (("crash" : Str) = "append") := by decide +kernel
theorem c_s : ¬ (("crash" : Str) = "sync") := by decide +kernel
theorem c_r : ¬ (("crash" : Str) = "arm") := by decide +kernel
theorem a_r : ¬ (("append" : Str) = "arm") := by decide +kernel
theorem a_c : ¬ (("append" : Str) = "crash") := by decide +kernel
theorem s_r : ¬ (("sync" : Str) = "arm") := by decide +kernel
theorem s_c : ¬ (("sync" : Str) = "crash") := by decide +kernel
def spAct (K : PySem.W.Frag) (C : Addr) : Sp := fun vs H Q _ => ∃ (p d q t : Addr) (s : TS) (de : Deed), vs = [.ref p, .ref t] ∧ TapeAt C H p d q s ∧ H t = some (.tup de.items) ∧ s.xs.length + s.ys.length ≤ 900 ∧
  ∀ H' q' r, (q' = q ∨ H q' = none) → Turn C [p, d, q] H H' p d q' (after de s) → H' r = some (.tup [.str (word de s), .non]) → Q (.ref r) H'
theorem af_app {t : TS} {r : V} (h : t.goes) : after (.app r) t = { t.op with ys := t.ys ++ [r] } := if_pos h
theorem af_appN {t : TS} {r : V} (h : ¬ t.goes) : after (.app r) t = { t with dead := true } := if_neg h
theorem af_sync {t : TS} (h : t.goes) : after .sync t = { t.op with xs := t.xs ++ t.ys, ys := [] } := if_pos h
theorem af_syncN {t : TS} (h : ¬ t.goes) : after .sync t = { t with dead := true } := if_neg h
theorem ok__law_act (T : Txt K mg) : FnOk P w K mg base CX0 4 T.a__law_act T.fd__law_act ["_law_tape", "_law_deed"] (spAct K T.a_Tape) := by
  refine T.F__law_act.ok sc__law_act (fun vs H Q E h => ?_) (fun cdv A outer s H vs Q E hr h => ?_)
  · obtain ⟨p, d, q, t, s, de, rfl, _⟩ := h
    rfl
  · obtain ⟨p, d, q, t, s, de, rfl, N, ht, hz, k⟩ := h
    refine ⟨_, PSs.nox (pss_one (ps_try_only rfl rfl ⟨rfl, by decide, .inl T.g_TapeCrashed⟩ takes0 (fun W pn xe tk pown => by exact (pss_cons (ps_if (pt_cmpR op_eq (pe_ix (show IxR _ (rIxT K) from ix_tup) (pv 1) pe_int (fun _ _ => rfl)) pe_str (nomark _)) (pss_one (ps_ret (pe_tup (pa_cons pe_str (pa_cons (pe_methE (ok_Tape_append T) T.cls_Tape T.m_Tape_append (hr.mono (by decide)) T.b_Tape_append (fun s => passAt tk s) (pv 0) (pa_cons (pe_ix (show IxR _ (rIxT K) from ix_tup) (pv 1) pe_int (fun _ _ => rfl)) pa_nil)) pa_nil))))) pss_nil)
      (pss_cons (ps_if (pt_cmpR op_eq (pe_ix (show IxR _ (rIxT K) from ix_tup) (pv 1) pe_int (fun _ _ => rfl)) pe_str (nomark _)) (pss_one (ps_ret (pe_tup (pa_cons pe_str (pa_cons (pe_meth0E (ok_Tape_sync T) T.cls_Tape T.m_Tape_sync (hr.mono (by decide)) T.b_Tape_sync (fun s => passAt tk s) (pv 0)) pa_nil))))) pss_nil)
      (pss_cons (ps_if (pt_cmpR op_eq (pe_ix (show IxR _ (rIxT K) from ix_tup) (pv 1) pe_int (fun _ _ => rfl)) pe_str (nomark _)) (pss_one (ps_ret (pe_tup (pa_cons pe_str (pa_cons (pe_meth (pv 0) T.cls_Tape T.m_Tape_arm (ok_Tape_arm T) (hr.mono (by decide)) T.b_Tape_arm .nil pass0 (pa_cons (pe_ix (show IxR _ (rIxT K) from ix_tup) (pv 1) pe_int (fun _ _ => rfl)) pa_nil)) pa_nil))))) pss_nil)
      (pss_one (ps_ret (pe_tup (pa_cons pe_str (pa_cons (pe_meth (pv 0) T.cls_Tape T.m_Tape_crash (ok_Tape_crash T) (hr.mono (by decide)) T.b_Tape_crash .nil pass0 (pa_cons (pe_ix (show IxR _ (rIxT K) from ix_tup) (pv 1) pe_int (fun _ _ => rfl)) pa_nil)) pa_nil))))))))) (fun a oe cls d pn hz hf => by exact (pss_one (ps_ret (pe_tup (pa_cons pe_str (pa_cons pe_non pa_nil)))))))), ?_⟩
    obtain ⟨dx, hp⟩ := N.ob
    -- the two ends
    have yes : ∀ H' q' r, word de s = "done" → (q' = q ∨ H q' = none) → Turn T.a_Tape [p, d, q] H H' p d q' (after de s) → H' r = none → Q (.ref r) (upd H' r (.tup [.str "done", .non])) := fun H' q' r e hq ⟨tk, tn⟩ hr => by
      have kk : Kp [] H' (upd H' r (.tup [.str "done", .non])) := (Kp.refl _ _).new hr
      obtain ⟨⟨dx', o1⟩, o2, o3, o4⟩ := tn
      exact k _ q' r hq ⟨tk.trans (kk.mono (by simp)), ⟨⟨dx', kk.at o1⟩, kk.at o2, kk.at o3, o4⟩⟩ (by rw [upd_same, e])
    have no : ∀ H' r, word de s = "crashed" → Turn T.a_Tape [p, d, q] H H' p d q (after de s) → H' r = none → Q (.ref r) (upd H' r (.tup [.str "crashed", .non])) := fun H' r e ⟨tk, tn⟩ hr => by
      have kk : Kp [] H' (upd H' r (.tup [.str "crashed", .non])) := (Kp.refl _ _).new hr
      obtain ⟨⟨dx', o1⟩, o2, o3, o4⟩ := tn
      exact k _ q r (.inl rfl) ⟨tk.trans (kk.mono (by simp)), ⟨⟨dx', kk.at o1⟩, kk.at o2, kk.at o3, o4⟩⟩ (by rw [upd_same, e])
    cases de with
    | app r =>
      refine ⟨_, rfl, t, _, _, _, rfl, rfl, SqT.of ht, rfl, rfl, _, rfl, iteT ?_⟩
      refine ⟨_, rfl, p, dx, _, rfl, hp, by walk_at "lk", _, rfl, t, _, _, _, rfl, rfl, SqT.of ht, rfl, p, d, q, s, r, rfl, N, by omega, fun H' go ⟨tk, tn⟩ => ⟨by show 2 ≤ sizeLine; decide, fun z hz => ?_⟩, fun H' go ⟨tk, tn⟩ => ?_⟩
      · exact yes H' q z (if_pos go) (.inl rfl) ⟨tk.mono (by simp), by rw [af_app go]; exact tn⟩ hz
      · exact ⟨true, T.e_TapeCrashed_TapeCrashed, fun _ a0 _ => ⟨by show 2 ≤ sizeLine; decide, fun z hz => no H' z (if_neg go) ⟨tk.mono (by simp), by rw [af_appN go]; exact tn⟩ hz⟩, fun q => Bool.noConfusion q⟩
    | sync =>
      refine ⟨_, rfl, t, _, _, _, rfl, rfl, SqT.of ht, rfl, rfl, _, rfl, ?_⟩
      refine iteD (fun c => absurd (vstr c) s_a) (fun _ => ?_)
      refine ⟨_, rfl, t, _, _, _, rfl, rfl, SqT.of ht, rfl, rfl, _, rfl, iteT ?_⟩
      refine ⟨_, rfl, p, dx, _, rfl, hp, by walk_at "lk", p, d, q, s, rfl, N, by omega, fun H' q' go hq' ⟨tk, tn⟩ => ⟨by show 2 ≤ sizeLine; decide, fun z hz => ?_⟩, fun H' go ⟨tk, tn⟩ => ?_⟩
      · exact yes H' q' z (if_pos go) (.inr hq') ⟨tk.mono (by simp), by rw [af_sync go]; exact tn⟩ hz
      · exact ⟨true, T.e_TapeCrashed_TapeCrashed, fun _ a0 _ => ⟨by show 2 ≤ sizeLine; decide, fun z hz => no H' z (if_neg go) ⟨tk.mono (by simp), by rw [af_syncN go]; exact tn⟩ hz⟩, fun q => Bool.noConfusion q⟩
    | arm c =>
      refine ⟨_, rfl, t, _, _, _, rfl, rfl, SqT.of ht, rfl, rfl, _, rfl, ?_⟩
      refine iteD (fun c => absurd (vstr c) r_a) (fun _ => ?_)
      refine ⟨_, rfl, t, _, _, _, rfl, rfl, SqT.of ht, rfl, rfl, _, rfl, ?_⟩
      refine iteD (fun c => absurd (vstr c) r_s) (fun _ => ?_)
      refine ⟨_, rfl, t, _, _, _, rfl, rfl, SqT.of ht, rfl, rfl, _, rfl, iteT ?_⟩
      refine ⟨_, rfl, p, dx, _, rfl, hp, by walk_at "lk", _, rfl, t, _, _, _, rfl, rfl, SqT.of ht, rfl, p, d, q, s, c, rfl, N, fun H' ⟨tk, tn⟩ => ⟨by show 2 ≤ sizeLine; decide, fun z hz => ?_⟩⟩
      exact yes H' q z rfl (.inl rfl) ⟨tk.mono (by simp), tn⟩ hz
    | crash c =>
      refine ⟨_, rfl, t, _, _, _, rfl, rfl, SqT.of ht, rfl, rfl, _, rfl, ?_⟩
      refine iteD (fun c => absurd (vstr c) c_a) (fun _ => ?_)
      refine ⟨_, rfl, t, _, _, _, rfl, rfl, SqT.of ht, rfl, rfl, _, rfl, ?_⟩
      refine iteD (fun c => absurd (vstr c) c_s) (fun _ => ?_)
      refine ⟨_, rfl, t, _, _, _, rfl, rfl, SqT.of ht, rfl, rfl, _, rfl, ?_⟩
      refine iteD (fun c => absurd (vstr c) c_r) (fun _ => ?_)
      refine ⟨_, rfl, p, dx, _, rfl, hp, by walk_at "lk", _, rfl, t, _, _, _, rfl, rfl, SqT.of ht, rfl, p, d, q, s, c, rfl, N, by omega, fun H' q' hq' ⟨tk, tn⟩ => ⟨by show 2 ≤ sizeLine; decide, fun z hz => ?_⟩⟩
      exact yes H' q' z rfl (.inr hq') ⟨tk.mono (by simp), tn⟩ hz
/-! ### the model -/
def modK (md mp : Addr) (l : Option Int) (c : Bool) : List (Key × V) := [(.inr "durable", .ref md), (.inr "pending", .ref mp), (.inr "left", lV l), (.inr "dead", .bl c)]
structure ModAt (H : Hp) (st md mp : Addr) (s : TS) : Prop where
  dc : H st = some (.dK (modK md mp s.left s.dead))
  du : H md = some (.lst s.xs)
  pe : H mp = some (.lst s.ys)
theorem k1 : ¬ ((Sum.inr ("durable" : Str) : Key) = Sum.inr ("pending" : Str)) := by decide +kernel
theorem k2 : ¬ ((Sum.inr ("durable" : Str) : Key) = Sum.inr ("left" : Str)) := by decide +kernel
theorem k3 : ¬ ((Sum.inr ("durable" : Str) : Key) = Sum.inr ("dead" : Str)) := by decide +kernel
theorem k4 : ¬ ((Sum.inr ("pending" : Str) : Key) = Sum.inr ("left" : Str)) := by decide +kernel
theorem k5 : ¬ ((Sum.inr ("pending" : Str) : Key) = Sum.inr ("dead" : Str)) := by decide +kernel
theorem k6 : ¬ ((Sum.inr ("left" : Str) : Key) = Sum.inr ("dead" : Str)) := by decide +kernel
section
variable {md mp x : Addr} {l l2 : Option Int} {c c2 : Bool}
theorem vD : valV (modK md mp l c) (Sum.inr ("durable" : Str)) = some (.ref md) := valV_pos rfl
theorem vP : valV (modK md mp l c) (Sum.inr ("pending" : Str)) = some (.ref mp) := (valV_neg k1).trans (valV_pos rfl)
theorem vL : valV (modK md mp l c) (Sum.inr ("left" : Str)) = some (lV l) := (valV_neg k2).trans ((valV_neg k4).trans (valV_pos rfl))
theorem vC : valV (modK md mp l c) (Sum.inr ("dead" : Str)) = some (.bl c) := (valV_neg k3).trans ((valV_neg k5).trans ((valV_neg k6).trans (valV_pos rfl)))
theorem s_durable_pending : ¬ (("durable" : Str) = "pending") := by decide +kernel
theorem s_durable_left : ¬ (("durable" : Str) = "left") := by decide +kernel
theorem s_durable_dead : ¬ (("durable" : Str) = "dead") := by decide +kernel
theorem s_pending_durable : ¬ (("pending" : Str) = "durable") := by decide +kernel
theorem s_pending_left : ¬ (("pending" : Str) = "left") := by decide +kernel
theorem s_pending_dead : ¬ (("pending" : Str) = "dead") := by decide +kernel
theorem s_left_durable : ¬ (("left" : Str) = "durable") := by decide +kernel
theorem s_left_pending : ¬ (("left" : Str) = "pending") := by decide +kernel
theorem s_left_dead : ¬ (("left" : Str) = "dead") := by decide +kernel
theorem s_dead_durable : ¬ (("dead" : Str) = "durable") := by decide +kernel
theorem s_dead_pending : ¬ (("dead" : Str) = "pending") := by decide +kernel
theorem s_dead_left : ¬ (("dead" : Str) = "left") := by decide +kernel
theorem uD {v : Addr} : putK (modK md mp l c) (Sum.inr ("durable" : Str)) (.ref v) = modK v mp l c := by simp [modK, putK, s_durable_pending, s_durable_left, s_durable_dead, s_pending_durable, s_pending_left, s_pending_dead, s_left_durable, s_left_pending, s_left_dead, s_dead_durable, s_dead_pending, s_dead_left]
theorem uP {v : Addr} : putK (modK md mp l c) (Sum.inr ("pending" : Str)) (.ref v) = modK md v l c := by simp [modK, putK, s_durable_pending, s_durable_left, s_durable_dead, s_pending_durable, s_pending_left, s_pending_dead, s_left_durable, s_left_pending, s_left_dead, s_dead_durable, s_dead_pending, s_dead_left]
theorem uL : putK (modK md mp l c) (Sum.inr ("left" : Str)) (lV l2) = modK md mp l2 c := by simp [modK, putK, s_durable_pending, s_durable_left, s_durable_dead, s_pending_durable, s_pending_left, s_pending_dead, s_left_durable, s_left_pending, s_left_dead, s_dead_durable, s_dead_pending, s_dead_left]
theorem uC : putK (modK md mp l c) (Sum.inr ("dead" : Str)) (.bl c2) = modK md mp l c2 := by simp [modK, putK, s_durable_pending, s_durable_left, s_durable_dead, s_pending_durable, s_pending_left, s_pending_dead, s_left_durable, s_left_pending, s_left_dead, s_dead_durable, s_dead_pending, s_dead_left]
theorem dg {H : Hp} {a : Addr} {kvs : List (Key × V)} {z : Str} {v : V} (e : H a = some (.dK kvs)) (h : valV kvs (Sum.inr z) = some v) : DGet H a (.str z) (some v) := by
  have q := DGet.k (k := (Sum.inr z : Key)) e
  rw [h] at q
  exact q
end
def spExp : Sp := fun vs H Q _ => ∃ (st md mp t : Addr) (s : TS) (de : Deed), vs = [.ref st, .ref t] ∧ ModAt H st md mp s ∧ H t = some (.tup de.items) ∧ s.xs.length + s.ys.length ≤ 900 ∧
  ∀ H' md' mp', (md' = md ∨ H md' = none) → (mp' = mp ∨ H mp' = none) → Kp [st] H H' → ModAt H' st md' mp' (after de s) → Q (.str (word de s)) H'
theorem ok__law_expect (T : Txt K mg) : FnOk P w K mg base CX0 4 T.a__law_expect T.fd__law_expect ["_law_state", "_law_deed"] spExp := by
  refine T.F__law_expect.ok sc__law_expect (fun vs H Q E h => ?_) (fun cdv A outer s H vs Q E hr h => ?_)
  · obtain ⟨st, md, mp, t, s, de, rfl, _⟩ := h
    rfl
  · obtain ⟨st, md, mp, t, s, de, rfl, ⟨hd, hx, hy⟩, ht, hz, k⟩ := h
    have hu := hu_of hr
    refine ⟨_, PSs.nox (pss_cons (ps_if (pt_cmpR op_eq (pe_ix ix_tup (pv 1) pe_int (fun _ _ => rfl)) pe_str (nomark _)) (pss_cons (ps_dput hu (pv 0) pe_str (pe_ix ix_tup (pv 1) pe_int (fun _ _ => rfl)) rfl)
      (pss_one (ps_ret pe_str))) pss_nil)
      (pss_cons (ps_if (pt_cmpR op_eq (pe_ix ix_tup (pv 1) pe_int (fun _ _ => rfl)) pe_str (nomark _)) (pss_cons (ps_dput hu (pv 0) pe_str (pe_op op_cat (pe_dget hu (pv 0) pe_str (fun _ _ => rfl)) (pe_slice sl_list (pe_dget hu (pv 0) pe_str (fun _ _ => rfl)) po_none (po_some (pe_ix ix_tup (pv 1) pe_int (fun _ _ => rfl))))) rfl)
      (pss_cons (ps_dput hu (pv 0) pe_str (pe_lst pa_nil) rfl)
      (pss_cons (ps_dput hu (pv 0) pe_str pe_non rfl)
      (pss_cons (ps_dput hu (pv 0) pe_str pe_bl rfl)
      (pss_one (ps_ret pe_str)))))) pss_nil)
      (pss_cons (ps_if (PW.pt (pw_or (pt_val (pe_dget hu (pv 0) pe_str (fun _ _ => rfl))) (pw_or1 (pt_cmpR op_eq (pe_dget hu (pv 0) pe_str (fun _ _ => rfl)) pe_int (nomark _))))) (pss_cons (ps_dput hu (pv 0) pe_str pe_bl rfl)
      (pss_one (ps_ret pe_str))) pss_nil)
      (Evl.pss_cut (ps_if (pt_cmpR op_notN (pe_dget hu (pv 0) pe_str (fun _ _ => rfl)) pe_non (nomark _)) (pss_one (ps_dput hu (pv 0) pe_str (pe_op op_sub (pe_dget hu (pv 0) pe_str (fun _ _ => rfl)) pe_int) rfl)) pss_nil)
      (pss_cons (ps_if (pt_cmpR op_eq (pe_ix ix_tup (pv 1) pe_int (fun _ _ => rfl)) pe_str (nomark _)) (pss_one (ps_dput hu (pv 0) pe_str (pe_op op_cat (pe_dget hu (pv 0) pe_str (fun _ _ => rfl)) (pe_lst (pa_cons (pe_ix ix_tup (pv 1) pe_int (fun _ _ => rfl)) pa_nil))) rfl)) (pss_cons (ps_dput hu (pv 0) pe_str (pe_op op_cat (pe_dget hu (pv 0) pe_str (fun _ _ => rfl)) (pe_dget hu (pv 0) pe_str (fun _ _ => rfl))) rfl)
      (pss_one (ps_dput hu (pv 0) pe_str (pe_lst pa_nil) rfl))))
      (pss_one (ps_ret pe_str))))))), ?_⟩
    have sz : ∀ a b l c, (modK a b l c).length < sizeLine := fun _ _ _ _ => by show 4 < sizeLine; decide
    have sx : st ≠ md := ne_of hd hx (by intro z; cases z)
    have sy : st ≠ mp := ne_of hd hy (by intro z; cases z)
    have st_t : st ≠ t := ne_of hd ht (by intro z; cases z)
    -- an operation refused
    have bad : ¬ s.goes → after de s = { s with dead := true } → word de s = "crashed" → Q (.str "crashed") (upd H st (.dK (modK md mp s.left true))) := fun g a w => by
      have q := k (upd H st (.dK (modK md mp s.left true))) md mp (.inl rfl) (.inl rfl) ((Kp.refl _ _).put (by simp)) (by rw [a]; exact ⟨upd_same, by rw [upd_ne sx.symm]; exact hx, by rw [upd_ne sy.symm]; exact hy⟩)
      rw [w] at q
      exact q
    cases de with
    | arm c =>
      refine ⟨_, rfl, t, _, _, _, rfl, rfl, SqT.of ht, rfl, rfl, _, rfl, iteT ?_⟩
      refine ⟨_, rfl, t, _, _, _, rfl, rfl, SqT.of ht, rfl, _, rfl, st, _, rfl, DPut.k (k := Sum.inr "left") hd (sz _ _ _ _), ?_⟩
      have e : putK (modK md mp s.left s.dead) (Sum.inr "left") (.int c) = modK md mp (some c) s.dead := uL (l2 := some c)
      rw [e]
      exact k _ md mp (.inl rfl) (.inl rfl) ((Kp.refl _ _).put (by simp)) ⟨upd_same, by rw [upd_ne sx.symm]; exact hx, by rw [upd_ne sy.symm]; exact hy⟩
    | crash c =>
      refine ⟨_, rfl, t, _, _, _, rfl, rfl, SqT.of ht, rfl, rfl, _, rfl, ?_⟩
      refine iteD (fun c => absurd (vstr c) c_r) (fun _ => ?_)
      refine ⟨_, rfl, t, _, _, _, rfl, rfl, SqT.of ht, rfl, rfl, _, rfl, iteT ?_⟩
      refine ⟨_, rfl, st, _, rfl, dg hd vD, _, rfl, st, _, rfl, dg hd vP, _, rfl, t, _, _, _, rfl, rfl, SqT.of ht, rfl, _, rfl, mp, s.ys, rfl, SqL.of hy, fun z hz1 => ?_⟩
      rw [cut_take]
      have hl : (s.ys.take c).length ≤ s.ys.length := by rw [List.length_take]; omega
      have zx : md ≠ z := ne_of_none hx hz1
      have zd : st ≠ z := ne_of_none hd hz1
      refine ⟨md, z, s.xs, s.ys.take c, rfl, rfl, by rw [upd_ne zx]; exact hx, upd_same, small (by omega), fun z2 hz2 => ?_⟩
      have zz : z ≠ z2 := fun x => by rw [← x, upd_same] at hz2; cases hz2
      have hz3 : H z2 = none := by rw [upd_ne zz.symm] at hz2; exact hz2
      have zd2 : st ≠ z2 := ne_of_none hd hz3
      refine ⟨_, rfl, st, _, rfl, DPut.k (k := Sum.inr "durable") (by rw [upd_ne zd2, upd_ne zd]; exact hd) (sz _ _ _ _), ?_⟩
      rw [uD]
      refine ⟨by show 0 ≤ sizeLine; decide, fun z4 hz4 => ⟨_, rfl, st, _, rfl, DPut.k (k := Sum.inr "pending") (by rw [upd_ne fun x => by rw [← x, upd_same] at hz4; cases hz4]; exact upd_same) (sz _ _ _ _), ?_⟩⟩
      have d4 : st ≠ z4 := fun x => by rw [← x, upd_same] at hz4; cases hz4
      have z24 : z2 ≠ z4 := fun x => by rw [← x, upd_ne zd2.symm, upd_same] at hz4; cases hz4
      rw [uP]
      refine ⟨_, rfl, st, _, rfl, DPut.k (k := Sum.inr "left") upd_same (sz _ _ _ _), ?_⟩
      rw [upd_upd, show putK (modK z2 z4 s.left s.dead) (Sum.inr "left") V.non = modK z2 z4 none s.dead from uL (l2 := none)]
      refine ⟨_, rfl, st, _, rfl, DPut.k (k := Sum.inr "dead") upd_same (sz _ _ _ _), ?_⟩
      rw [upd_upd, uC]
      have hz4' : H z4 = none := by
        rw [upd_ne d4.symm, upd_ne z24.symm] at hz4
        exact ((Kp.refl [] H).new hz1).free hz4
      refine k _ z2 z4 (.inr hz3) (.inr hz4') ?_ ⟨upd_same, by rw [upd_ne zd2.symm, upd_ne z24, upd_ne zd2.symm]; exact upd_same, by rw [upd_ne d4.symm]; exact upd_same⟩
      exact ((((((Kp.refl [st] H).new hz1).new hz2).put (by simp)).own hz4').put (by simp))
    | app r =>
      refine ⟨_, rfl, t, _, _, _, rfl, rfl, SqT.of ht, rfl, rfl, _, rfl, ?_⟩
      refine iteD (fun c => absurd (vstr c) a_r) (fun _ => ?_)
      refine ⟨_, rfl, t, _, _, _, rfl, rfl, SqT.of ht, rfl, rfl, _, rfl, ?_⟩
      refine iteD (fun c => absurd (vstr c) a_c) (fun _ => ?_)
      refine ⟨_, rfl, st, _, rfl, dg hd vC, _, rfl, ?_⟩
      refine iteB (fun c => iteT ?_) (fun c => ?_)
      · refine ⟨_, rfl, st, _, rfl, DPut.k (k := Sum.inr "dead") hd (sz _ _ _ _), ?_⟩
        rw [uC]
        have g : ¬ s.goes := fun z => by rw [z.1] at c; cases c
        exact bad g (af_appN g) (if_neg g)
      refine ⟨_, rfl, st, _, rfl, dg hd vL, lV_scal _, _, rfl, ?_⟩
      refine iteD (fun c2 => ?_) (fun c2 => ?_)
      · refine ⟨_, rfl, st, _, rfl, DPut.k (k := Sum.inr "dead") hd (sz _ _ _ _), ?_⟩
        rw [uC]
        have g : ¬ s.goes := fun z => z.2 (lV_zero.mp c2)
        exact bad g (af_appN g) (if_neg g)
      have g : s.goes := ⟨c, fun z => c2 (lV_zero.mpr z)⟩
      refine ⟨fun σ' H' => σ' = [some (.ref st), some (.ref t)] ∧ Kp [st] H H' ∧ H' st = some (.dK (modK md mp (s.left.map fun i => i - 1) s.dead)), ?_, ?_⟩
      · refine ⟨_, rfl, st, _, rfl, dg hd vL, rfl, _, rfl, ?_⟩
        refine iteN (fun c3 => ?_) (fun c3 => ?_)
        · obtain ⟨i, e⟩ : ∃ i, s.left = some i := by
            cases e : s.left with
            | none => exact absurd (lV_non.mpr e) c3
            | some i => exact ⟨i, rfl⟩
          have el : lV s.left = .int i := by rw [e]; rfl
          refine ⟨_, rfl, st, _, rfl, dg hd vL, i, 1, el, rfl, _, rfl, st, _, rfl, DPut.k (k := Sum.inr "left") hd (sz _ _ _ _), ?_⟩
          rw [show putK (modK md mp s.left s.dead) (Sum.inr "left") (V.int (i - 1)) = modK md mp (some (i - 1)) s.dead from uL (l2 := some (i - 1)), e]
          exact ⟨rfl, (Kp.refl _ _).put (by simp), upd_same⟩
        · have e := lV_non.mp c3
          exact ⟨rfl, Kp.refl _ _, by rw [e, ← e]; rw [hd, e]; rfl⟩
      · rintro σ' H1 ⟨rfl, q1, hd1⟩
        have hx1 : H1 md = _ := q1 _ _ hx (by simp only [List.mem_singleton]; exact sx.symm)
        have hy1 : H1 mp = _ := q1 _ _ hy (by simp only [List.mem_singleton]; exact sy.symm)
        have ht1 : H1 t = _ := q1 _ _ ht (by simp only [List.mem_singleton]; exact st_t.symm)
        refine ⟨_, rfl, t, _, _, _, rfl, rfl, SqT.of ht1, rfl, rfl, _, rfl, iteT ?_⟩
        refine ⟨_, rfl, st, _, rfl, dg hd1 vP, _, rfl, t, _, _, _, rfl, rfl, SqT.of ht1, rfl, by show 1 ≤ sizeLine; decide, fun z hz1 => ?_⟩
        have zy : mp ≠ z := ne_of_none hy1 hz1
        have zd : st ≠ z := ne_of_none hd1 hz1
        refine ⟨mp, z, s.ys, [r], rfl, rfl, by rw [upd_ne zy]; exact hy1, upd_same, small (by show _ + 1 ≤ _; omega), fun z2 hz2 => ?_⟩
        have zz : z ≠ z2 := fun x => by rw [← x, upd_same] at hz2; cases hz2
        have hz3 : H1 z2 = none := by rw [upd_ne zz.symm] at hz2; exact hz2
        have zd2 : st ≠ z2 := ne_of_none hd1 hz3
        have zx : md ≠ z := ne_of_none hx1 hz1
        have zx2 : md ≠ z2 := ne_of_none hx1 hz3
        refine ⟨_, rfl, st, _, rfl, DPut.k (k := Sum.inr "pending") (by rw [upd_ne zd2, upd_ne zd]; exact hd1) (sz _ _ _ _), ?_⟩
        rw [uP]
        have hz4 : H z2 = none := q1.freeW hz3 fun x hx => by rw [List.mem_singleton.mp hx]; exact ⟨_, hd1⟩
        have ew : word (.app r) s = "done" := if_pos g
        show Q (.str "done") _
        rw [← ew]
        exact k _ md z2 (.inl rfl) (.inr hz4) (((q1.new hz1).new hz2).put (by simp)) (by rw [af_app g]; exact ⟨upd_same, by rw [upd_ne sx.symm, upd_ne zx2, upd_ne zx]; exact hx1, by rw [upd_ne zd2.symm]; exact upd_same⟩)
    | sync =>
      refine ⟨_, rfl, t, _, _, _, rfl, rfl, SqT.of ht, rfl, rfl, _, rfl, ?_⟩
      refine iteD (fun c => absurd (vstr c) s_r) (fun _ => ?_)
      refine ⟨_, rfl, t, _, _, _, rfl, rfl, SqT.of ht, rfl, rfl, _, rfl, ?_⟩
      refine iteD (fun c => absurd (vstr c) s_c) (fun _ => ?_)
      refine ⟨_, rfl, st, _, rfl, dg hd vC, _, rfl, ?_⟩
      refine iteB (fun c => iteT ?_) (fun c => ?_)
      · refine ⟨_, rfl, st, _, rfl, DPut.k (k := Sum.inr "dead") hd (sz _ _ _ _), ?_⟩
        rw [uC]
        have g : ¬ s.goes := fun z => by rw [z.1] at c; cases c
        exact bad g (af_syncN g) (if_neg g)
      refine ⟨_, rfl, st, _, rfl, dg hd vL, lV_scal _, _, rfl, ?_⟩
      refine iteD (fun c2 => ?_) (fun c2 => ?_)
      · refine ⟨_, rfl, st, _, rfl, DPut.k (k := Sum.inr "dead") hd (sz _ _ _ _), ?_⟩
        rw [uC]
        have g : ¬ s.goes := fun z => z.2 (lV_zero.mp c2)
        exact bad g (af_syncN g) (if_neg g)
      have g : s.goes := ⟨c, fun z => c2 (lV_zero.mpr z)⟩
      refine ⟨fun σ' H' => σ' = [some (.ref st), some (.ref t)] ∧ Kp [st] H H' ∧ H' st = some (.dK (modK md mp (s.left.map fun i => i - 1) s.dead)), ?_, ?_⟩
      · refine ⟨_, rfl, st, _, rfl, dg hd vL, rfl, _, rfl, ?_⟩
        refine iteN (fun c3 => ?_) (fun c3 => ?_)
        · obtain ⟨i, e⟩ : ∃ i, s.left = some i := by
            cases e : s.left with
            | none => exact absurd (lV_non.mpr e) c3
            | some i => exact ⟨i, rfl⟩
          have el : lV s.left = .int i := by rw [e]; rfl
          refine ⟨_, rfl, st, _, rfl, dg hd vL, i, 1, el, rfl, _, rfl, st, _, rfl, DPut.k (k := Sum.inr "left") hd (sz _ _ _ _), ?_⟩
          rw [show putK (modK md mp s.left s.dead) (Sum.inr "left") (V.int (i - 1)) = modK md mp (some (i - 1)) s.dead from uL (l2 := some (i - 1)), e]
          exact ⟨rfl, (Kp.refl _ _).put (by simp), upd_same⟩
        · have e := lV_non.mp c3
          exact ⟨rfl, Kp.refl _ _, by rw [e, ← e]; rw [hd, e]; rfl⟩
      · rintro σ' H1 ⟨rfl, q1, hd1⟩
        have hx1 : H1 md = _ := q1 _ _ hx (by simp only [List.mem_singleton]; exact sx.symm)
        have hy1 : H1 mp = _ := q1 _ _ hy (by simp only [List.mem_singleton]; exact sy.symm)
        have ht1 : H1 t = _ := q1 _ _ ht (by simp only [List.mem_singleton]; exact st_t.symm)
        refine ⟨_, rfl, t, _, _, _, rfl, rfl, SqT.of ht1, rfl, rfl, _, rfl, ?_⟩
        refine iteD (fun c => absurd (vstr c) s_a) (fun _ => ?_)
        refine ⟨_, rfl, st, _, rfl, dg hd1 vD, _, rfl, st, _, rfl, dg hd1 vP, md, mp, s.xs, s.ys, rfl, rfl, hx1, hy1, small (by omega), fun z hz1 => ?_⟩
        have zd : st ≠ z := ne_of_none hd1 hz1
        refine ⟨_, rfl, st, _, rfl, DPut.k (k := Sum.inr "durable") (by rw [upd_ne zd]; exact hd1) (sz _ _ _ _), ?_⟩
        rw [uD]
        refine ⟨by show 0 ≤ sizeLine; decide, fun z4 hz4 => ⟨_, rfl, st, _, rfl, DPut.k (k := Sum.inr "pending") (by rw [upd_ne fun x => by rw [← x, upd_same] at hz4; cases hz4]; exact upd_same) (sz _ _ _ _), ?_⟩⟩
        have d4 : st ≠ z4 := fun x => by rw [← x, upd_same] at hz4; cases hz4
        have z24 : z ≠ z4 := fun x => by rw [← x, upd_ne zd.symm, upd_same] at hz4; cases hz4
        rw [uP]
        have at_ : ∃ o, H1 st = some o := ⟨_, hd1⟩
        have hz3 : H z = none := q1.freeW hz1 fun x hx => by rw [List.mem_singleton.mp hx]; exact at_
        have hz4' : H1 z4 = none := by rw [upd_ne d4.symm, upd_ne z24.symm] at hz4; exact hz4
        have hz5 : H z4 = none := q1.freeW hz4' fun x hx => by rw [List.mem_singleton.mp hx]; exact at_
        have ew : word .sync s = "done" := if_pos g
        show Q (.str "done") _
        rw [← ew]
        exact k _ z z4 (.inr hz3) (.inr hz5) (((((q1.new hz1).put (by simp)).new hz4)).put (by simp)) (by rw [af_sync g]; exact ⟨upd_same, by rw [upd_ne zd.symm, upd_ne z24, upd_ne zd.symm]; exact upd_same, by rw [upd_ne d4.symm]; exact upd_same⟩)
/-! ### reading a tape -/
def spRead (K : PySem.W.Frag) (C : Addr) : Sp := fun vs H Q _ => ∃ (p d q : Addr) (t : TS), vs = [.ref p] ∧ TapeAt C H p d q t ∧ t.xs.length + t.ys.length ≤ 900 ∧ (t.dead = false → ∀ l, H l = none → Q (.ref l) (upd H l (.lst (t.xs ++ t.ys)))) ∧ (t.dead = true → Q .non H)
theorem ok__law_read (T : Txt K mg) : FnOk P w K mg base CX0 4 T.a__law_read T.fd__law_read ["_law_tape"] (spRead K T.a_Tape) := by
  refine T.F__law_read.ok sc__law_read (fun vs H Q E h => ?_) (fun cdv A outer s H vs Q E hr h => ?_)
  · obtain ⟨p, d, q, t, rfl, _⟩ := h
    rfl
  · obtain ⟨p, d, q, t, rfl, N, hz, kg, kb⟩ := h
    refine ⟨_, PSs.nox (pss_one (ps_try_only rfl rfl ⟨rfl, by decide, .inl T.g_TapeCrashed⟩ takes0 (fun W pn xe tk pown => by exact (pss_one (ps_ret (pe_meth0E (ok_Tape_records T) T.cls_Tape T.m_Tape_records (hr.mono (by decide)) T.b_Tape_records (fun s => passAt tk s) (pv 0))))) (fun a oe cls d pn hz hf => by exact (pss_one (ps_ret pe_non))))), ?_⟩
    obtain ⟨dx, hp⟩ := N.ob
    exact ⟨_, rfl, p, dx, _, rfl, hp, by walk_at "lk", p, d, q, t, rfl, N, by omega, kg, fun c => ⟨true, T.e_TapeCrashed_TapeCrashed, fun _ a0 _ => kb c, fun q => Bool.noConfusion q⟩⟩
/-! ### the law -/
def GoodV (K : PySem.W.Frag) (H : Hp) (v : V) : Prop := ∃ d, Dp K H v d ∧ noL d = true ∧ Sh 4 d
theorem GoodV.kt {H H' : Hp} {v : V} (g : GoodV K H v) (k : KTu K H H') : GoodV K H' v := let ⟨d, h1, h2, h3⟩ := g; ⟨d, Dp.kt k _ _ h2 h1, h2, h3⟩
theorem good_all {H : Hp} : ∀ {vs : List V}, (∀ v ∈ vs, GoodV K H v) → ∃ ds, DpAll K H vs ds ∧ noLs ds = true ∧ ∀ d ∈ ds, Sh 4 d
  | [], _ => ⟨[], .nil, rfl, all_nil⟩
  | v :: vs, g => by
    obtain ⟨d, h1, h2, h3⟩ := g v (by simp)
    obtain ⟨ds, k1, k2, k3⟩ := good_all (vs := vs) fun u m => g u (List.mem_cons_of_mem _ m)
    exact ⟨d :: ds, .cons h1 k1, by simp [noLs, h2, k2], all_cons h3 k3⟩
def Deed.good (K : PySem.W.Frag) (H : Hp) : Deed → Prop
  | .app r => GoodV K H r
  | _ => True
theorem Deed.good.kt {H H' : Hp} {de : Deed} (g : de.good K H) (k : KTu K H H') : de.good K H' := by
  cases de with
  | app r => exact GoodV.kt g k
  | _ => trivial
theorem after_good {H : Hp} {de : Deed} {s : TS} (g : ∀ v ∈ s.xs ++ s.ys, GoodV K H v) (gd : de.good K H) : ∀ v ∈ (after de s).xs ++ (after de s).ys, GoodV K H v := by
  intro v hv
  cases de with
  | arm c => exact g v hv
  | crash c =>
    have hv' : v ∈ (s.xs ++ s.ys.take c) ++ [] := hv
    rw [List.append_nil] at hv'
    rcases List.mem_append.mp hv' with h | h
    · exact g v (List.mem_append_left _ h)
    · exact g v (List.mem_append_right _ (List.mem_of_mem_take h))
  | app r =>
    by_cases c : s.goes
    · rw [af_app c] at hv
      have hv' : v ∈ s.xs ++ (s.ys ++ [r]) := hv
      rw [← List.append_assoc] at hv'
      rcases List.mem_append.mp hv' with h | h
      · exact g v h
      · rw [List.mem_singleton.mp h]; exact gd
    · rw [af_appN c] at hv
      exact g v hv
  | sync =>
    by_cases c : s.goes
    · rw [af_sync c] at hv
      have hv' : v ∈ (s.xs ++ s.ys) ++ [] := hv
      rw [List.append_nil] at hv'
      exact g v hv'
    · rw [af_syncN c] at hv
      exact g v hv
theorem after_len {de : Deed} {s : TS} {i : Nat} (h : s.xs.length + s.ys.length ≤ i) : (after de s).xs.length + (after de s).ys.length ≤ i + 1 := by
  cases de with
  | arm c => exact Nat.le_succ_of_le h
  | crash c =>
    show (s.xs ++ s.ys.take c).length + 0 ≤ i + 1
    rw [List.length_append, List.length_take]
    omega
  | app r =>
    by_cases c : s.goes
    · rw [af_app c]
      show s.xs.length + (s.ys ++ [r]).length ≤ i + 1
      rw [List.length_append]
      show s.xs.length + (s.ys.length + 1) ≤ i + 1
      omega
    · rw [af_appN c]
      exact Nat.le_succ_of_le h
  | sync =>
    by_cases c : s.goes
    · rw [af_sync c]
      show (s.xs ++ s.ys).length + 0 ≤ i + 1
      rw [List.length_append]
      omega
    · rw [af_syncN c]
      exact Nat.le_succ_of_le h
structure LInv (K : PySem.W.Frag) (C : Addr) (H0 : Hp) (p d q st md mp : Addr) (s : TS) (i : Nat) (H : Hp) : Prop where
  kept : Kp [] H0 H
  tape : TapeAt C H p d q s
  mod : ModAt H st md mp s
  a1 : d ≠ md
  a2 : d ≠ mp
  a3 : q ≠ md
  a4 : q ≠ mp
  len : s.xs.length + s.ys.length ≤ i
  good : ∀ v ∈ s.xs ++ s.ys, GoodV K H v
  f1 : H0 p = none
  f2 : H0 d = none
  f3 : H0 q = none
  f4 : H0 st = none
theorem TapeAt.kp {C : Addr} {W : List Addr} {H H' : Hp} {p d q : Addr} {s : TS} (t : TapeAt C H p d q s) (k : Kp W H H') (h1 : p ∉ W) (h2 : d ∉ W) (h3 : q ∉ W) : TapeAt C H' p d q s :=
  let ⟨⟨dx, o⟩, a, b, n⟩ := t; ⟨⟨dx, k _ _ o h1⟩, k _ _ a h2, k _ _ b h3, n⟩
theorem ModAt.kp {W : List Addr} {H H' : Hp} {st md mp : Addr} {s : TS} (t : ModAt H st md mp s) (k : Kp W H H') (h1 : st ∉ W) (h2 : md ∉ W) (h3 : mp ∉ W) : ModAt H' st md mp s :=
  let ⟨o, a, b⟩ := t; ⟨k _ _ o h1, k _ _ a h2, k _ _ b h3⟩
theorem LInv.ex {K : PySem.W.Frag} {C : Addr} {H0 H H' : Hp} {p d q st md mp : Addr} {s : TS} {i : Nat} (J : LInv K C H0 p d q st md mp s i H) (k : Kp [] H H') : LInv K C H0 p d q st md mp s i H' :=
  ⟨J.kept.trans k, J.tape.kp k (by simp) (by simp) (by simp), J.mod.kp k (by simp) (by simp) (by simp), J.a1, J.a2, J.a3, J.a4, J.len, fun v hv => (J.good v hv).kt k.kt, J.f1, J.f2, J.f3, J.f4⟩
def spLaw (K : PySem.W.Frag) : Sp := fun vs H Q _ => ∃ (a : Addr) (ns : List Int), vs = [.ref a] ∧ SqL K H a (ns.map V.int) ∧ ns.length ≤ 63 ∧ ∀ H', Q (.bl true) H'
theorem sp_in (H : Hp) (a : Addr) (ns : List Int) (hl : ns.length ≤ 63) (hS : SqL K H a (ns.map V.int)) : spLaw K [.ref a] H (fun v _ => v = .bl true) fun _ _ _ => False := ⟨a, ns, rfl, hS, hl, fun _ => rfl⟩
theorem ok_law (T : Txt K mg) : FnOk P w K mg base CX0 8 T.a_law T.fd_law ["_law_script"] (spLaw K) := by
  refine T.F_law.ok sc_law (fun vs H Q E h => ?_) (fun cdv A outer s H vs Q E hr h => ?_)
  · obtain ⟨a, ns, rfl, _⟩ := h
    rfl
  · obtain ⟨a, ns, rfl, hS, hlen, k⟩ := h
    have hu := hu_of hr
    refine ⟨_, PSs.nox (pss_cons (ps_set (i := 1) sc_law.nd rfl (Or.inl rfl) (pe_make0 T.mk_Tape (ok_Tape___init__ T) (hr.mono (by decide)) rfl T.g_Tape T.b_Tape___init__ .nil pass0))
      (pss_cons (ps_set (i := 2) sc_law.nd rfl (Or.inl rfl) (pe_disp (pps_cons pe_str (pe_lst pa_nil) (pps_cons pe_str (pe_lst pa_nil) (pps_cons pe_str pe_non (pps_cons pe_str pe_bl pps_nil)))) (by rfl) (by rfl) (fun z => by cases z) (by decide)))
      (pss_cons (ps_for PassesOwn.never rfl (pi_range1 rfl T.n_range (pa_cons (pe_callB call_len_seq (by rfl) T.n_len PySem.boot_len (pa_cons (pv 0) pa_nil)) pa_nil)) (pg_name (i := 3) sc_law.nd rfl (Or.inl rfl))
        (pss_cons (ps_set (i := 4) sc_law.nd rfl (Or.inl rfl) (pe_callTy call_int1 (by rfl) T.n_int (by decide +kernel) (pa_cons (pe_ix ix_list (pv 0) (pv 3) (fun _ _ => rfl)) pa_nil)))
      (pss_cons (ps_set (i := 5) sc_law.nd rfl (Or.inl rfl) (pe_op op_mod (pv 4) pe_int))
      (pss_cons (ps_set (i := 6) sc_law.nd rfl (Or.inl rfl) (pe_tup (pa_cons pe_str (pa_cons (pe_ix ix_list (pe_lst (pa_cons (pe_tup (pa_cons pe_str pa_nil)) (pa_cons (pe_tup (pa_cons pe_str (pa_cons (pv 3) (pa_cons (pe_op op_mod (pv 4) pe_int) pa_nil)))) (pa_cons (pe_tup (pa_cons pe_str (pa_cons (pe_un un_neg pe_int) (pa_cons (pv 3) (pa_cons (pe_tup (pa_cons pe_str (pa_cons pe_int pa_nil))) (pa_cons (pe_tup pa_nil) pa_nil)))))) (pa_cons pe_str (pa_cons (pv 3) pa_nil)))))) (pe_op op_mod (pe_op op_fdivW (pv 4) pe_int) pe_int) (fun _ _ => rfl)) pa_nil))))
      (Evl.pss_cut (ps_if (PW.pt (pw_or (pt_cmpR op_eq (pv 5) pe_int (nomark _)) (pw_or1 (pt_cmpR op_eq (pv 5) pe_int (nomark _))))) (pss_one (ps_set (i := 6) sc_law.nd rfl (Or.inl rfl) (pe_tup (pa_cons pe_str pa_nil)))) pss_nil)
      (Evl.pss_cut (ps_if (pt_cmpR op_eq (pv 5) pe_int (nomark _)) (pss_one (ps_set (i := 6) sc_law.nd rfl (Or.inl rfl) (pe_tup (pa_cons pe_str (pa_cons (pe_op op_mod (pe_op op_fdivW (pv 4) pe_int) pe_int) pa_nil))))) pss_nil)
      (Evl.pss_cut (ps_if (pt_cmpR op_eq (pv 5) pe_int (nomark _)) (pss_one (ps_set (i := 6) sc_law.nd rfl (Or.inl rfl) (pe_tup (pa_cons pe_str (pa_cons (pe_op op_mod (pe_op op_fdivW (pv 4) pe_int) pe_int) pa_nil))))) pss_nil)
      (pss_cons (ps_if (pt_cmpR (op_neD hr.units) (pe_call (ok__law_act T) (hr.mono (by decide)) rfl T.g__law_act T.F__law_act.kp T.b__law_act .nil pass0 (pa_cons (pv 1) (pa_cons (pv 6) pa_nil))) (pe_tup (pa_cons (pe_call (ok__law_expect T) (hr.mono (by decide)) rfl T.g__law_expect T.F__law_expect.kp T.b__law_expect .nil pass0 (pa_cons (pv 2) (pa_cons (pv 6) pa_nil))) (pa_cons pe_non pa_nil))) (nomark _)) (pss_one (ps_ret pe_bl)) pss_nil)
      (pss_cons (ps_set (i := 7) sc_law.nd rfl (Or.inl rfl) (pe_call (ok__law_read T) (hr.mono (by decide)) rfl T.g__law_read T.F__law_read.kp T.b__law_read .nil pass0 (pa_cons (pv 1) pa_nil)))
      (pss_cons (ps_if (PW.pt (pw_or (pt_cmpR op_ne (pe_cmpR op_isN (pv 7) pe_non (nomark _)) (pe_dget hu (pv 2) pe_str (fun _ _ => rfl)) (nomark _)) (pw_or (pt_val (pe_callB call_isi (by rfl) T.n_isinstance (by decide +kernel) (pa_cons (pe_meth0 (pv 1) T.cls_Tape T.m_Tape_pending (ok_Tape_pending T) (hr.mono (by decide)) T.b_Tape_pending .nil pass0) (pa_cons (pe_bltn (v := .ty "bool") (u := .type "bool") rfl T.n_bool (by decide +kernel) rfl) pa_nil)))) (pw_or1 (pt_cmpR op_ne (pe_meth0 (pv 1) T.cls_Tape T.m_Tape_pending (ok_Tape_pending T) (hr.mono (by decide)) T.b_Tape_pending .nil pass0) (pe_callB call_len_seq (by rfl) T.n_len PySem.boot_len (pa_cons (pe_dget hu (pv 2) pe_str (fun _ _ => rfl)) pa_nil)) (nomark _)))))) (pss_one (ps_ret pe_bl)) pss_nil)
      (pss_one (ps_if (pt_cmpR op_notN (pv 7) pe_non (nomark _)) (pss_cons (ps_if (PW.pt (pw_or (pt_not (pt_val (pe_callB call_isi (by rfl) T.n_isinstance (by decide +kernel) (pa_cons (pv 7) (pa_cons (pe_bltn (v := .ty "list") (u := .type "list") rfl T.n_list (by decide +kernel) rfl) pa_nil))))) (pw_or1 (pt_cmpR (op_neD hr.units) (pv 7) (pe_op op_cat (pe_dget hu (pv 2) pe_str (fun _ _ => rfl)) (pe_dget hu (pv 2) pe_str (fun _ _ => rfl))) (nomark _))))) (pss_one (ps_ret pe_bl)) pss_nil)
      (pss_one (ps_expr (pe_bm PySem.F.plainAttrs_list PySem.F.slot_list_append PySem.F.type_list_append mt_append (pv 7) (pa_cons pe_str pa_nil))))) pss_nil))))))))))))
      (pss_one (ps_ret pe_bl))))), ?_⟩
    intro p dx np nd ne
    refine ⟨p, dx, rfl, upd_same, fun d q H1 k1 hd hq N => ⟨rfl, ?_⟩⟩
    have kp0 : Kp [] H (upd (upd H dx (.own p)) p (.ins T.a_Tape dx [])) := ((Kp.refl [] H).own nd).own np
    have k0 : Kp [] H H1 := fun c o e _ => k1 c o (kp0.at e) fun m => by rw [List.mem_singleton.mp m, np] at e; cases e
    have fd : H d = none := kp0.free hd
    have fq : H q = none := kp0.free hq
    intro st hst
    have est : st ≠ d := (ne_of_none N.du hst).symm
    have esq : st ≠ q := (ne_of_none N.pe hst).symm
    obtain ⟨dx1, o1⟩ := N.ob
    have esp : st ≠ p := (ne_of_none o1 hst).symm
    refine ⟨by show 0 ≤ sizeLine; decide, fun md hmd => ⟨by show 0 ≤ sizeLine; decide, fun mp hmp => ?_⟩⟩
    have e1 : st ≠ md := fun z => by rw [← z, upd_same] at hmd; cases hmd
    have e2 : md ≠ mp := fun z => by rw [← z, upd_same] at hmp; cases hmp
    have e3 : st ≠ mp := fun z => by rw [← z, upd_ne e1, upd_same] at hmp; cases hmp
    refine ⟨by rw [upd_ne e3, upd_ne e1]; exact upd_same, modK md mp none false, rfl, by show 4 ≤ 15; decide, ?_⟩
    have em : mergeK [] (modK md mp none false) = modK md mp none false := by
      simp [mergeK, modK, putK, s_durable_pending, s_durable_left, s_durable_dead, s_pending_left, s_pending_dead, s_left_dead, s_pending_durable, s_left_durable, s_dead_durable, s_left_pending, s_dead_pending, s_dead_left]
    rw [em]
    have u1 : Kp [] H1 (upd H1 st (.dK [])) := (Kp.refl _ _).new hst
    have u2 := u1.new (o := .lst []) hmd
    have u3 := u2.new (o := .lst []) hmp
    have u4 : Kp [] H1 (upd (upd (upd (upd H1 st (.dK [])) md (.lst [])) mp (.lst [])) st (.dK (modK md mp none false))) := u3.own hst
    have J : LInv K T.a_Tape H p d q st md mp ⟨[], [], none, false⟩ 0 (upd (upd (upd (upd H1 st (.dK [])) md (.lst [])) mp (.lst [])) st (.dK (modK md mp none false))) := by
      refine ⟨k0.trans u4, N.kp u4 (by simp) (by simp) (by simp), ⟨upd_same, by rw [upd_ne e1.symm, upd_ne e2]; exact upd_same, by rw [upd_ne e3.symm]; exact upd_same⟩,
        ne_of_none (u1.at N.du) hmd, ne_of_none (u2.at N.du) hmp, ne_of_none (u1.at N.pe) hmd, ne_of_none (u2.at N.pe) hmp, Nat.le_refl _, fun v h => (by cases h), np, fd, fq, k0.free hst⟩
    generalize (upd (upd (upd (upd H1 st (.dK [])) md (.lst [])) mp (.lst [])) st (.dK (modK md mp none false))) = H2 at *
    refine ⟨_, rfl, a, _, rfl, .inl (J.kept.seq hS), _, rfl, by rw [List.length_map]; omega, by rw [List.length_map]; omega, ?_⟩
    refine for_range (lo := 0) (n := _) (fun i σ H' => (∃ v3 v4 v5 v6 v7 : Option V, σ = [some (.ref a), some (.ref p), some (.ref st), v3, v4, v5, v6, v7]) ∧ ∃ d q md mp s, LInv K T.a_Tape H p d q st md mp s i H')
      ⟨⟨_, _, _, _, _, rfl⟩, ⟨_, _, _, _, _, J⟩⟩ ?_ (fun σ H' _ => k H')
    clear J e1 e2 e3 est esq hmd hmp fd fq hd hq N u1 u2 u3 u4 k1
    rintro i σ H3 hi ⟨⟨v3, v4, v5, v6, v7, rfl⟩, d, q, md, mp, s, J⟩
    rw [List.length_map, Int.toNat_natCast] at hi
    have hcell : atI (ns.map V.int) (0 + (i : Int)) = some (.int ns[i]) := by
      rw [Int.zero_add]
      exact atI_nat (by rw [List.getElem?_map, List.getElem?_eq_getElem hi]; rfl)
    refine ⟨_, rfl, _, rfl, a, _, _, _, rfl, rfl, J.kept.seq hS, hcell, .inl ⟨_, rfl, ?_⟩⟩
    generalize ns[i] = cell
    refine ⟨_, rfl, _, _, rfl, rfl, by show (0 : Int) < 7; decide, ?_⟩
    -- the record
    have w0 : Kp [] H3 H3 := Kp.refl _ _
    refine ⟨by show 1 ≤ sizeLine; decide, fun t1 ht1 => ?_⟩
    obtain ⟨w1, g1⟩ : Kp [] H3 (upd H3 t1 (.tup [.str "start"])) ∧ (upd H3 t1 (.tup [.str "start"])) t1 = some (.tup [.str "start"]) := ⟨w0.new ht1, upd_same⟩
    generalize upd H3 t1 (.tup [.str "start"]) = Ha at *
    refine ⟨_, rfl, _, rfl, _, _, rfl, rfl, by show (0 : Int) < 50; decide, by show 3 ≤ sizeLine; decide, fun t2 ht2 => ?_⟩
    obtain ⟨w2, g1, g2⟩ : Kp [] H3 (upd Ha t2 (.tup [.str "end", .int (0 + i), .int (cell % 50)])) ∧ (upd Ha t2 (.tup [.str "end", .int (0 + i), .int (cell % 50)])) t1 = some (.tup [.str "start"]) ∧ (upd Ha t2 (.tup [.str "end", .int (0 + i), .int (cell % 50)])) t2 = some (.tup [.str "end", .int (0 + i), .int (cell % 50)]) :=
      ⟨w1.new ht2, ((Kp.refl [] Ha).new ht2).at g1, upd_same⟩
    generalize upd Ha t2 (.tup [.str "end", .int (0 + i), .int (cell % 50)]) = Hb at *
    refine ⟨_, rfl, _, rfl, by show 2 ≤ sizeLine; decide, fun t3 ht3 => ?_⟩
    obtain ⟨w3, g1, g2, g3⟩ : Kp [] H3 (upd Hb t3 (.tup [.str "show", .int 1])) ∧ (upd Hb t3 (.tup [.str "show", .int 1])) t1 = some (.tup [.str "start"]) ∧ (upd Hb t3 (.tup [.str "show", .int 1])) t2 = some (.tup [.str "end", .int (0 + i), .int (cell % 50)]) ∧ (upd Hb t3 (.tup [.str "show", .int 1])) t3 = some (.tup [.str "show", .int 1]) :=
      ⟨w2.new ht3, ((Kp.refl [] Hb).new ht3).at g1, ((Kp.refl [] Hb).new ht3).at g2, upd_same⟩
    generalize upd Hb t3 (.tup [.str "show", .int 1]) = Hc at *
    refine ⟨by show 0 ≤ sizeLine; decide, fun t4 ht4 => ?_⟩
    have v4' := (Kp.refl [] Hc).new (o := .tup []) ht4
    have g4 : (upd Hc t4 (.tup [])) t4 = some (.tup []) := upd_same
    replace g1 := v4'.at g1
    replace g2 := v4'.at g2
    replace g3 := v4'.at g3
    have w4 := w3.trans v4'
    clear v4'
    generalize upd Hc t4 (.tup []) = Hd at *
    refine ⟨by show 5 ≤ sizeLine; decide, fun t5 ht5 => ?_⟩
    have v5' := (Kp.refl [] Hd).new (o := .tup [.str "input", .int (-1), .int (0 + i), .ref t3, .ref t4]) ht5
    have g5 : (upd Hd t5 (.tup [.str "input", .int (-1), .int (0 + i), .ref t3, .ref t4])) t5 = some (.tup [.str "input", .int (-1), .int (0 + i), .ref t3, .ref t4]) := upd_same
    replace g1 := v5'.at g1
    replace g2 := v5'.at g2
    replace g3 := v5'.at g3
    replace g4 := v5'.at g4
    have w5 := w4.trans v5'
    clear v5'
    generalize upd Hd t5 (.tup [.str "input", .int (-1), .int (0 + i), .ref t3, .ref t4]) = He at *
    refine ⟨_, rfl, by show 5 ≤ sizeLine; decide, fun t6 ht6 => ?_⟩
    have v6' := (Kp.refl [] He).new (o := .lst [.ref t1, .ref t2, .ref t5, .str "text", .int (0 + i)]) ht6
    have g6 : (upd He t6 (.lst [.ref t1, .ref t2, .ref t5, .str "text", .int (0 + i)])) t6 = some (.lst [.ref t1, .ref t2, .ref t5, .str "text", .int (0 + i)]) := upd_same
    replace g1 := v6'.at g1
    replace g2 := v6'.at g2
    replace g3 := v6'.at g3
    replace g4 := v6'.at g4
    replace g5 := v6'.at g5
    have w6 := w5.trans v6'
    clear v6' w1 w2 w3 w4 w5
    generalize upd He t6 (.lst [.ref t1, .ref t2, .ref t5, .str "text", .int (0 + i)]) = Hf at *
    have hc0 : 0 ≤ cell / 7 % 5 := Int.emod_nonneg _ (by decide)
    have hc1 : cell / 7 % 5 < 5 := Int.emod_lt_of_pos _ (by decide)
    have o1 : PyData.strOk "start" = true := by decide +kernel
    have o2 : PyData.strOk "end" = true := by decide +kernel
    have o3 : PyData.strOk "input" = true := by decide +kernel
    have o4 : PyData.strOk "show" = true := by decide +kernel
    have o5 : PyData.strOk "text" = true := by decide +kernel
    have hv : ∃ r, atI [V.ref t1, .ref t2, .ref t5, .str "text", .int (0 + i)] (cell / 7 % 5) = some r ∧ GoodV K Hf r := by
      obtain ⟨j, ej⟩ := Int.eq_ofNat_of_zero_le hc0
      rw [ej] at hc1 ⊢
      match j, hc1 with
      | 0, _ => exact ⟨_, rfl, .tuple [.str "start"], .tup (SqT.of g1) (.cons (.str _) .nil), rfl, (sh_tup (n := 0) (all_cons (sh_str o1) all_nil)).mono (by decide)⟩
      | 1, _ => exact ⟨_, rfl, .tuple [.str "end", .int (0 + i), .int (cell % 50)], .tup (SqT.of g2) (.cons (.str _) (.cons (.int _) (.cons (.int _) .nil))), rfl, (sh_tup (n := 0) (all_cons (sh_str o2) (all_cons (sh_int _) (all_cons (sh_int _) all_nil)))).mono (by decide)⟩
      | 2, _ => exact ⟨_, rfl, .tuple [.str "input", .int (-1), .int (0 + i), .tuple [.str "show", .int 1], .tuple []], .tup (SqT.of g5) (.cons (.str _) (.cons (.int _) (.cons (.int _) (.cons (.tup (SqT.of g3) (.cons (.str _) (.cons (.int _) .nil))) (.cons (.tup (SqT.of g4) .nil) .nil))))), rfl,
          (sh_tup (n := 1) (all_cons (sh_str o3) (all_cons (sh_int _) (all_cons (sh_int _) (all_cons (sh_tup (n := 0) (all_cons (sh_str o4) (all_cons (sh_int _) all_nil))) (all_cons (sh_tup (n := 0) all_nil) all_nil)))))).mono (by decide)⟩
      | 3, _ => exact ⟨_, rfl, .str "text", .str _, rfl, sh_str o5⟩
      | 4, _ => exact ⟨_, rfl, .int (0 + i), .int _, rfl, sh_int _⟩
      | j + 5, h => exact absurd h (by omega)
    obtain ⟨r, hr1, hr2⟩ := hv
    refine ⟨_, rfl, _, _, rfl, rfl, ⟨by decide, by decide⟩, _, _, rfl, rfl, by show (0 : Int) < 5; decide, t6, _, _, r, rfl, rfl, SqL.of g6, hr1, ?_⟩
    refine ⟨by show 2 ≤ sizeLine; decide, fun t7 ht7 => ?_⟩
    have v7' := (Kp.refl [] Hf).new (o := .tup [.str "append", r]) ht7
    have g7 : (upd Hf t7 (.tup [.str "append", r])) t7 = some (.tup [.str "append", r]) := upd_same
    replace hr2 := hr2.kt (v7'.kt (K := K))
    have w7 := w6.trans v7'
    clear v7' g1 g2 g3 g4 g5 g6 w6
    generalize upd Hf t7 (.tup [.str "append", r]) = Hg at *
    clear ht1 ht2 ht3 ht4 ht5 ht6 ht7 hr1
    -- the deed
    have Mid : ∀ (σ' : L2.St) (H' : Hp), Prop := fun _ _ => True
    refine ⟨fun σ' H' => ∃ (t : Addr) (de : Deed), σ' = [some (.ref a), some (.ref p), some (.ref st), some (.int (0 + i)), some (.int cell), some (.int (cell % 7)), some (.ref t), v7] ∧ Kp [] H3 H' ∧ H' t = some (.tup de.items) ∧ de.good K H', ?_, ?_⟩
    · refine ⟨_, rfl, rfl, _, rfl, ?_⟩
      refine iteD (fun c => iteT ?_) (fun c => ⟨_, rfl, rfl, _, rfl, iteD (fun c => ?_) (fun c => ?_)⟩)
      · exact ⟨by show 1 ≤ sizeLine; decide, fun t8 ht8 => ⟨t8, .sync, rfl, w7.new ht8, upd_same, trivial⟩⟩
      · exact ⟨by show 1 ≤ sizeLine; decide, fun t8 ht8 => ⟨t8, .sync, rfl, w7.new ht8, upd_same, trivial⟩⟩
      · exact ⟨t7, .app r, rfl, w7, g7, hr2⟩
    rintro σ' H5 ⟨t, de, rfl, w8, ht, gde⟩
    refine ⟨fun σ' H' => ∃ (t : Addr) (de : Deed), σ' = [some (.ref a), some (.ref p), some (.ref st), some (.int (0 + i)), some (.int cell), some (.int (cell % 7)), some (.ref t), v7] ∧ Kp [] H3 H' ∧ H' t = some (.tup de.items) ∧ de.good K H', ?_, ?_⟩
    · refine ⟨_, rfl, rfl, _, rfl, ?_⟩
      refine iteD (fun c => ?_) (fun c => ⟨t, de, rfl, w8, ht, gde⟩)
      refine ⟨_, rfl, _, _, rfl, rfl, ⟨by decide, by decide⟩, _, _, rfl, rfl, by show (0 : Int) < 4; decide, by show 2 ≤ sizeLine; decide, fun t8 ht8 => ?_⟩
      obtain ⟨c, hc⟩ := Int.eq_ofNat_of_zero_le (Int.emod_nonneg (cell / 7) (by decide : (4 : Int) ≠ 0))
      exact ⟨t8, .arm c, rfl, w8.new ht8, by rw [upd_same]; show some (HO.tup [V.str "arm", V.int (cell / 7 % 4)]) = _; rw [hc]; rfl, trivial⟩
    clear w8 ht gde t de H5
    rintro σ' H5 ⟨t, de, rfl, w8, ht, gde⟩
    refine ⟨fun σ' H' => ∃ (t : Addr) (de : Deed), σ' = [some (.ref a), some (.ref p), some (.ref st), some (.int (0 + i)), some (.int cell), some (.int (cell % 7)), some (.ref t), v7] ∧ Kp [] H3 H' ∧ H' t = some (.tup de.items) ∧ de.good K H', ?_, ?_⟩
    · refine ⟨_, rfl, rfl, _, rfl, ?_⟩
      refine iteD (fun c => ?_) (fun c => ⟨t, de, rfl, w8, ht, gde⟩)
      refine ⟨_, rfl, _, _, rfl, rfl, ⟨by decide, by decide⟩, _, _, rfl, rfl, by show (0 : Int) < 5; decide, by show 2 ≤ sizeLine; decide, fun t8 ht8 => ?_⟩
      obtain ⟨c, hc⟩ := Int.eq_ofNat_of_zero_le (Int.emod_nonneg (cell / 7) (by decide : (5 : Int) ≠ 0))
      exact ⟨t8, .crash c, rfl, w8.new ht8, by rw [upd_same]; show some (HO.tup [V.str "crash", V.int (cell / 7 % 5)]) = _; rw [hc]; rfl, trivial⟩
    clear w8 ht gde t de H5
    rintro σ' H5 ⟨t, de, rfl, w8, ht, gde⟩
    -- both do it
    have J5 : LInv K T.a_Tape H p d q st md mp s i H5 :=
      ⟨J.kept.trans w8, J.tape.kp w8 (by simp) (by simp) (by simp), J.mod.kp w8 (by simp) (by simp) (by simp), J.a1, J.a2, J.a3, J.a4, J.len, fun v hv => (J.good v hv).kt w8.kt, J.f1, J.f2, J.f3, J.f4⟩
    clear w8 w7 J
    obtain ⟨j0, jt, jm, a1, a2, a3, a4, jl, jg, f1, f2, f3, f4⟩ := J5
    obtain ⟨⟨dx5, tp⟩, td, tq, tn⟩ := id jt
    obtain ⟨ms, mx, my⟩ := id jm
    refine ⟨_, rfl, _, rfl, p, d, q, t, s, de, rfl, jt, ht, by omega, fun H6 q' rr hq' ⟨tk, tn6⟩ hrr => ?_⟩
    have n_p : ∀ {x : Addr} {ys : List V}, H5 x = some (.lst ys) → x ≠ p := fun e => ne_of e tp (by intro z; cases z)
    have st_out : st ∉ [p, d, q] := by
      simp only [List.mem_cons, List.mem_nil_iff, or_false, not_or]
      exact ⟨ne_of ms tp (by intro z; cases z), ne_of ms td (by intro z; cases z), ne_of ms tq (by intro z; cases z)⟩
    have md_out : md ∉ [p, d, q] := by
      simp only [List.mem_cons, List.mem_nil_iff, or_false, not_or]
      exact ⟨n_p mx, a1.symm, a3.symm⟩
    have mp_out : mp ∉ [p, d, q] := by
      simp only [List.mem_cons, List.mem_nil_iff, or_false, not_or]
      exact ⟨n_p my, a2.symm, a4.symm⟩
    have t_out : t ∉ [p, d, q] := by
      simp only [List.mem_cons, List.mem_nil_iff, or_false, not_or]
      exact ⟨ne_of ht tp (by intro z; cases z), ne_of ht td (by intro z; cases z), ne_of ht tq (by intro z; cases z)⟩
    have kt6 : KTu K H5 H6 := KTu.kp tk fun x hx zs z => by
      rcases List.mem_cons.mp hx with e | hx
      · rw [e] at z; rcases z with z | ⟨u, z⟩ <;> (rw [tp] at z; cases z)
      · rcases List.mem_cons.mp hx with e | hx
        · rw [e] at z; rcases z with z | ⟨u, z⟩ <;> (rw [td] at z; cases z)
        · rw [List.mem_singleton.mp hx] at z; rcases z with z | ⟨u, z⟩ <;> (rw [tq] at z; cases z)
    have jm6 := jm.kp tk st_out md_out mp_out
    have ht6 := tk _ _ ht t_out
    obtain ⟨⟨dx6, tp6⟩, td6, tq6, tn6'⟩ := id tn6
    refine ⟨_, rfl, _, rfl, st, md, mp, t, s, de, rfl, jm6, ht6, by omega, fun H7 md' mp' hmd hmp k7 jm7 => ?_⟩
    refine ⟨by show 2 ≤ sizeLine; decide, fun r2 hr2' => ?_⟩
    -- the answers are alike
    have st6 : H6 st = _ := jm6.dc
    have rr_st : rr ∉ [st] := by
      simp only [List.mem_singleton]
      exact ne_of hrr st6 (by intro z; cases z)
    have hrr8 := ((Kp.refl [] H7).new (o := .tup [.str (word de s), .non]) hr2').at (k7 _ _ hrr rr_st)
    have e8 : Kp [] H7 (upd H7 r2 (.tup [.str (word de s), .non])) := (Kp.refl [] H7).new hr2'
    have g8 : (upd H7 r2 (.tup [.str (word de s), .non])) r2 = some (.tup [.str (word de s), .non]) := upd_same
    have k8 : Kp [st] H6 (upd H7 r2 (.tup [.str (word de s), .non])) := k7.trans (e8.mono (by simp))
    have jm8 : ModAt (upd H7 r2 (.tup [.str (word de s), .non])) st md' mp' (after de s) := jm7.kp e8 (by simp) (by simp) (by simp)
    have n6 : ∀ {x : Addr} {o : HO}, H6 x = some o → (∀ z, o ≠ .dK z) → x ∉ [st] := fun e h => by
      simp only [List.mem_singleton]
      exact ne_of e st6 (h _)
    have jt8 : TapeAt T.a_Tape (upd H7 r2 (.tup [.str (word de s), .non])) p d q' (after de s) :=
      tn6.kp k8 (n6 tp6 (by intro z y; cases y)) (n6 td6 (by intro z y; cases y)) (n6 tq6 (by intro z y; cases y))
    generalize upd H7 r2 (.tup [.str (word de s), .non]) = H8 at *
    have hw : PyData.strOk (word de s) = true := word_ok de s
    have dsh : SeqAt.shaped (.tuple [.str (word de s), .none]) = true := (sh_tup (n := 0) (all_cons (sh_str hw) (all_cons sh_non all_nil))).shaped
    have dq : PyData.eqv (.tuple [.str (word de s), .none]) (.tuple [.str (word de s), .none]) = true := (sh_tup (n := 0) (all_cons (sh_str hw) (all_cons sh_non all_nil))).refl
    refine ⟨_, _, .tup (SqT.of hrr8) (.cons (.str _) (.cons .non .nil)), .tup (SqT.of g8) (.cons (.str _) (.cons .non .nil)), dsh, dsh, _, rfl, ?_⟩
    rw [dq]
    refine iteF ?_
    -- what holds at the end of the round
    have k6A : Kp [] H H6 := fun x o e _ => by
      refine tk _ _ (j0.at e) ?_
      simp only [List.mem_cons, List.mem_nil_iff, or_false, not_or]
      exact ⟨fun z => (by rw [z, f1] at e; cases e), fun z => (by rw [z, f2] at e; cases e), fun z => (by rw [z, f3] at e; cases e)⟩
    have kA : Kp [] H H8 := fun x o e _ => by
      refine k8 _ _ (k6A.at e) ?_
      simp only [List.mem_singleton]
      exact fun z => (by rw [z, f4] at e; cases e)
    have kt8 : KTu K H5 H8 := kt6.trans (KTu.kp k8 fun x hx xs z => by
        rw [List.mem_singleton.mp hx] at z
        rcases z with z | ⟨u, z⟩ <;> (rw [st6] at z; cases z))
    have J : LInv K T.a_Tape H p d q' st md' mp' (after de s) (i + 1) H8 := by
      refine ⟨kA, jt8, jm8, ?_, ?_, ?_, ?_, after_len jl, after_good (fun v hv => (jg v hv).kt kt8) (gde.kt kt8), f1, f2, ?_, f4⟩
      · rcases hmd with h | h
        · rw [h]; exact a1
        · exact ne_of_none td6 h
      · rcases hmp with h | h
        · rw [h]; exact a2
        · exact ne_of_none td6 h
      · rcases hmd with h | h
        · rcases hq' with g | g
          · rw [h, g]; exact a3
          · rw [h]; exact (ne_of_none mx g).symm
        · exact ne_of_none tq6 h
      · rcases hmp with h | h
        · rcases hq' with g | g
          · rw [h, g]; exact a4
          · rw [h]; exact (ne_of_none my g).symm
        · exact ne_of_none tq6 h
      · rcases hq' with g | g
        · rw [g]; exact f3
        · exact j0.free g
    clear k0 kp0 hcell w0 g7 hr2 ht jt jm a1 a2 a3 a4 jl jg td tq tn tp ms mx my hq' hrr tk tn6 st_out md_out mp_out t_out kt6 jm6 ht6 td6 tq6 tn6' tp6 hmd hmp k7 jm7 hr2' st6 rr_st n6 hrr8 e8 g8 k8 k6A kt8 n_p gde
    have hl : (after de s).xs.length + (after de s).ys.length ≤ 100 := by have := J.len; omega
    obtain ⟨ds, dp, dn, dc⟩ := good_all J.good
    obtain ⟨⟨dx8, tp⟩, td, tq, tn⟩ := id jt8
    obtain ⟨ms, mx, my⟩ := id jm8
    generalize after de s = s' at *
    refine ⟨_, rfl, p, d, q', s', rfl, jt8, by omega, fun c l hl => ?_, fun c => ?_⟩
    · have e9 : Kp [] H8 (upd H8 l (.lst (s'.xs ++ s'.ys))) := (Kp.refl [] H8).new hl
      have gl : (upd H8 l (.lst (s'.xs ++ s'.ys))) l = some (.lst (s'.xs ++ s'.ys)) := upd_same
      replace dp := DpAll.ex e9 _ _ dp
      have N := jt8.kp e9 (by simp) (by simp) (by simp)
      replace ms := e9.at ms
      replace mx := e9.at mx
      replace my := e9.at my
      replace tp := e9.at tp
      have kl : ∀ o, Kp [] H8 (upd (upd H8 l (.lst (s'.xs ++ s'.ys))) l o) := fun o => by
        rw [upd_upd]
        exact (Kp.refl [] H8).new hl
      generalize upd H8 l (.lst (s'.xs ++ s'.ys)) = H9 at *
      refine ⟨_, rfl, rfl, _, rfl, st, _, rfl, dg ms vC, rfl, _, rfl, ?_⟩
      rw [c]
      refine iteF ?_
      refine ⟨_, rfl, p, dx8, _, rfl, tp, by walk_at "lk", p, d, q', s', rfl, N, _, _, _, _, false, rfl, .ty _, .base (.int _), kit_ty (by decide +kernel), false, rfl, iteF ?_⟩
      refine ⟨_, rfl, p, dx8, _, rfl, tp, by walk_at "lk", p, d, q', s', rfl, N, _, rfl, st, _, rfl, dg ms vP, mp', _, rfl, .inl (SqL.of my), rfl, _, rfl, ?_⟩
      refine iteN (fun c => absurd rfl c) (fun _ => ?_)
      refine ⟨_, rfl, rfl, _, rfl, ?_⟩
      refine iteN (fun _ => ?_) (fun c => by cases c)
      refine ⟨_, rfl, _, _, _, _, true, rfl, .ty _, ty_lst (SqL.of gl), kit_ty (by decide +kernel), true, rfl, iteF ?_⟩
      refine ⟨_, rfl, _, rfl, st, _, rfl, dg ms vD, _, rfl, st, _, rfl, dg ms vP, md', mp', s'.xs, s'.ys, rfl, rfl, mx, my, small (by omega), fun l2 hl2 => ?_⟩
      have e10 : Kp [] H9 (upd H9 l2 (.lst (s'.xs ++ s'.ys))) := (Kp.refl [] H9).new hl2
      have dsh := (sh_list dc).shaped
      have dq := (sh_list dc).refl
      refine ⟨.list ds, .list ds, .lst (SqL.of (e10.at gl)) (DpAll.ex e10 _ _ dp), .lst (SqL.of upd_same) (DpAll.ex e10 _ _ dp), dsh, dsh, _, rfl, ?_⟩
      rw [dq]
      refine iteF ?_
      refine ⟨_, rfl, Or.inl ⟨rfl, _, SqL.of (e10.at gl)⟩, l, _, _, rfl, rfl, e10.at gl, small1000 (by rw [List.length_append]; omega), ?_⟩
      exact ⟨⟨_, _, _, _, _, rfl⟩, d, q', md', mp', s', J.ex ((e9.trans e10).own hl)⟩
    · refine ⟨_, rfl, rfl, _, rfl, st, _, rfl, dg ms vC, rfl, _, rfl, ?_⟩
      rw [c]
      refine iteF ?_
      refine ⟨_, rfl, p, dx8, _, rfl, tp, by walk_at "lk", p, d, q', s', rfl, jt8, _, _, _, _, false, rfl, .ty _, .base (.int _), kit_ty (by decide +kernel), false, rfl, iteF ?_⟩
      refine ⟨_, rfl, p, dx8, _, rfl, tp, by walk_at "lk", p, d, q', s', rfl, jt8, _, rfl, st, _, rfl, dg ms vP, mp', _, rfl, .inl (SqL.of my), rfl, _, rfl, ?_⟩
      refine iteN (fun c => absurd rfl c) (fun _ => ?_)
      refine ⟨_, rfl, rfl, _, rfl, ?_⟩
      refine iteN (fun c => absurd rfl c) (fun _ => ?_)
      exact ⟨⟨_, _, _, _, _, rfl⟩, d, q', md', mp', s', J⟩
end
def d_Tape___init__ : He.DefD := ⟨("Tape", some "__init__"), "__init__", "Tape.__init__", defArgs s_Tape___init__, defBody s_Tape___init__, defScope s_Tape___init__, [], []⟩
def d_Tape_append : He.DefD := ⟨("Tape", some "append"), "append", "Tape.append", defArgs s_Tape_append, defBody s_Tape_append, defScope s_Tape_append, [], []⟩
def d_Tape_sync : He.DefD := ⟨("Tape", some "sync"), "sync", "Tape.sync", defArgs s_Tape_sync, defBody s_Tape_sync, defScope s_Tape_sync, [], []⟩
def d_Tape_records : He.DefD := ⟨("Tape", some "records"), "records", "Tape.records", defArgs s_Tape_records, defBody s_Tape_records, defScope s_Tape_records, [], []⟩
def d_Tape_pending : He.DefD := ⟨("Tape", some "pending"), "pending", "Tape.pending", defArgs s_Tape_pending, defBody s_Tape_pending, defScope s_Tape_pending, [], []⟩
def d_Tape_arm : He.DefD := ⟨("Tape", some "arm"), "arm", "Tape.arm", defArgs s_Tape_arm, defBody s_Tape_arm, defScope s_Tape_arm, [], []⟩
def d_Tape_crash : He.DefD := ⟨("Tape", some "crash"), "crash", "Tape.crash", defArgs s_Tape_crash, defBody s_Tape_crash, defScope s_Tape_crash, [], []⟩
def d_Tape__operate : He.DefD := ⟨("Tape", some "_operate"), "_operate", "Tape._operate", defArgs s_Tape__operate, defBody s_Tape__operate, defScope s_Tape__operate, [], []⟩
def d__law_act : He.DefD := ⟨("_law_act", none), "_law_act", "_law_act", defArgs s__law_act, defBody s__law_act, defScope s__law_act, [], []⟩
def d__law_expect : He.DefD := ⟨("_law_expect", none), "_law_expect", "_law_expect", defArgs s__law_expect, defBody s__law_expect, defScope s__law_expect, [], []⟩
def d__law_read : He.DefD := ⟨("_law_read", none), "_law_read", "_law_read", defArgs s__law_read, defBody s__law_read, defScope s__law_read, [], []⟩
def d_law : He.DefD := ⟨("law", none), "law", "law", defArgs s_law, defBody s_law, defScope s_law, [], []⟩
def fn : List He.DefD := [d_Tape___init__, d_Tape_append, d_Tape_sync, d_Tape_records, d_Tape_pending, d_Tape_arm, d_Tape_crash, d_Tape__operate, d__law_act, d__law_expect, d__law_read, d_law]
def fa : List He.Fa := [.glo "_law_act", .glo "_law_expect", .glo "_law_read", .glo "law", .glo "GroundError", .exc "GroundError", .glo "TapeCrashed", .exc "TapeCrashed", .glo "Tape", .cls "Tape", .noat "Tape" "_durable", .noat "Tape" "_pending", .noat "Tape" "_left", .noat "Tape" "_crashed", .mkr "Tape", .meth "Tape" "append", .meth "Tape" "sync", .meth "Tape" "records", .meth "Tape" "pending", .meth "Tape" "arm", .meth "Tape" "crash", .meth "Tape" "_operate", .exm "TapeCrashed" "TapeCrashed" true, .free "len", .free "range", .free "int", .free "isinstance", .free "bool", .free "list"]
def exs : List (PySem.W.Frag → Bool) := []
def ex (K : PySem.W.Frag) : Bool := exs.all fun f => f K
abbrev R : PySem.W.OpenRow := PySem.W.OpenLaw.row PySem.Challenge.rw_firmground_k10_tape
def loose : List Str := (["GroundError", "TapeCrashed", "Tape", "_law_act", "_law_expect", "_law_read"] : List Str)
abbrev hk : PySem.W.Hook := He.hookX 5 fa fn [] [] ex
def ob (s : PySem.W.SharedT) : He.AlX := He.obsX 5 fa fn [] [] ex (HandSHeadRun.getT s)
theorem ob_eq (s : PySem.W.SharedT) : ob s = hk.obs s.abs := He.obsX_eq (HandSHeadRun.getT_eq s)
set_option maxHeartbeats 0 in
theorem run (w : World) : HandSHeadRun.RunEq R (PySem.W.view R.prog [9]) hk ob 60000 loose w := by
  intro os
  kernel_rfl
theorem txt_of {w : World} {K : PySem.W.Frag} {h h2 : Heap} {mg : Str → Option Value} (X : K.In h) (G : h.Ns mainGlobals mg) (c : He.SaysX fa fn [] [] ex w h2 K) : Nonempty (PLift (mg "law" = some (.ref (He.ga K "law")))) ∧ ∃ T : Txt K mg, T.a_law = He.ga K "law" := by
  have exf : ∀ (i : Nat) {f : PySem.W.Frag → Bool}, exs[i]? = some f → f K = true := fun i f h => List.all_eq_true.mp (show (exs.all fun f => f K) = true from c.more) f (List.mem_of_getElem? h)
  obtain ⟨fd_Tape___init__, F_Tape___init__⟩ := c.t.d.def_ 0 (d := d_Tape___init__) rfl
  obtain ⟨fd_Tape_append, F_Tape_append⟩ := c.t.d.def_ 1 (d := d_Tape_append) rfl
  obtain ⟨fd_Tape_sync, F_Tape_sync⟩ := c.t.d.def_ 2 (d := d_Tape_sync) rfl
  obtain ⟨fd_Tape_records, F_Tape_records⟩ := c.t.d.def_ 3 (d := d_Tape_records) rfl
  obtain ⟨fd_Tape_pending, F_Tape_pending⟩ := c.t.d.def_ 4 (d := d_Tape_pending) rfl
  obtain ⟨fd_Tape_arm, F_Tape_arm⟩ := c.t.d.def_ 5 (d := d_Tape_arm) rfl
  obtain ⟨fd_Tape_crash, F_Tape_crash⟩ := c.t.d.def_ 6 (d := d_Tape_crash) rfl
  obtain ⟨fd_Tape__operate, F_Tape__operate⟩ := c.t.d.def_ 7 (d := d_Tape__operate) rfl
  obtain ⟨fd__law_act, F__law_act⟩ := c.t.d.def_ 8 (d := d__law_act) rfl
  obtain ⟨fd__law_expect, F__law_expect⟩ := c.t.d.def_ 9 (d := d__law_expect) rfl
  obtain ⟨fd__law_read, F__law_read⟩ := c.t.d.def_ 10 (d := d__law_read) rfl
  obtain ⟨fd_law, F_law⟩ := c.t.d.def_ 11 (d := d_law) rfl
  refine ⟨⟨⟨He.glo_ok X G (c.t.d.fact 3 (f := .glo "law") rfl)⟩⟩, ⟨{
    a_Tape___init__ := He.ma K (He.ga K "Tape") "__init__"
    fd_Tape___init__ := fd_Tape___init__
    F_Tape___init__ := F_Tape___init__
    b_Tape___init__ := FunD.bindsN (ps := ["self"]) F_Tape___init__ fun _ _ _ _ _ _ us hl => match us, hl with | [_], _ => rfl
    a_Tape_append := He.ma K (He.ga K "Tape") "append"
    fd_Tape_append := fd_Tape_append
    F_Tape_append := F_Tape_append
    b_Tape_append := FunD.bindsN (ps := ["self", "record"]) F_Tape_append fun _ _ _ _ _ _ us hl => match us, hl with | [_, _], _ => rfl
    a_Tape_sync := He.ma K (He.ga K "Tape") "sync"
    fd_Tape_sync := fd_Tape_sync
    F_Tape_sync := F_Tape_sync
    b_Tape_sync := FunD.bindsN (ps := ["self"]) F_Tape_sync fun _ _ _ _ _ _ us hl => match us, hl with | [_], _ => rfl
    a_Tape_records := He.ma K (He.ga K "Tape") "records"
    fd_Tape_records := fd_Tape_records
    F_Tape_records := F_Tape_records
    b_Tape_records := FunD.bindsN (ps := ["self"]) F_Tape_records fun _ _ _ _ _ _ us hl => match us, hl with | [_], _ => rfl
    a_Tape_pending := He.ma K (He.ga K "Tape") "pending"
    fd_Tape_pending := fd_Tape_pending
    F_Tape_pending := F_Tape_pending
    b_Tape_pending := FunD.bindsN (ps := ["self"]) F_Tape_pending fun _ _ _ _ _ _ us hl => match us, hl with | [_], _ => rfl
    a_Tape_arm := He.ma K (He.ga K "Tape") "arm"
    fd_Tape_arm := fd_Tape_arm
    F_Tape_arm := F_Tape_arm
    b_Tape_arm := FunD.bindsN (ps := ["self", "count"]) F_Tape_arm fun _ _ _ _ _ _ us hl => match us, hl with | [_, _], _ => rfl
    a_Tape_crash := He.ma K (He.ga K "Tape") "crash"
    fd_Tape_crash := fd_Tape_crash
    F_Tape_crash := F_Tape_crash
    b_Tape_crash := FunD.bindsN (ps := ["self", "keep"]) F_Tape_crash fun _ _ _ _ _ _ us hl => match us, hl with | [_, _], _ => rfl
    a_Tape__operate := He.ma K (He.ga K "Tape") "_operate"
    fd_Tape__operate := fd_Tape__operate
    F_Tape__operate := F_Tape__operate
    b_Tape__operate := FunD.bindsN (ps := ["self"]) F_Tape__operate fun _ _ _ _ _ _ us hl => match us, hl with | [_], _ => rfl
    a__law_act := He.ga K "_law_act"
    fd__law_act := fd__law_act
    F__law_act := F__law_act
    b__law_act := FunD.bindsN (ps := ["_law_tape", "_law_deed"]) F__law_act fun _ _ _ _ _ _ us hl => match us, hl with | [_, _], _ => rfl
    g__law_act := He.glo_ok X G (c.t.d.fact 0 (f := .glo "_law_act") rfl)
    a__law_expect := He.ga K "_law_expect"
    fd__law_expect := fd__law_expect
    F__law_expect := F__law_expect
    b__law_expect := FunD.bindsN (ps := ["_law_state", "_law_deed"]) F__law_expect fun _ _ _ _ _ _ us hl => match us, hl with | [_, _], _ => rfl
    g__law_expect := He.glo_ok X G (c.t.d.fact 1 (f := .glo "_law_expect") rfl)
    a__law_read := He.ga K "_law_read"
    fd__law_read := fd__law_read
    F__law_read := F__law_read
    b__law_read := FunD.bindsN (ps := ["_law_tape"]) F__law_read fun _ _ _ _ _ _ us hl => match us, hl with | [_], _ => rfl
    g__law_read := He.glo_ok X G (c.t.d.fact 2 (f := .glo "_law_read") rfl)
    a_law := He.ga K "law"
    fd_law := fd_law
    F_law := F_law
    b_law := FunD.bindsN (ps := ["_law_script"]) F_law fun _ _ _ _ _ _ us hl => match us, hl with | [_], _ => rfl
    g_law := He.glo_ok X G (c.t.d.fact 3 (f := .glo "law") rfl)
    a_GroundError := He.ga K "GroundError"
    g_GroundError := He.glo_ok X G (c.t.d.fact 4 (f := .glo "GroundError") rfl)
    x_GroundError := (He.exc_ok (c.t.d.fact 5 (f := .exc "GroundError") rfl)).1
    k_GroundError := (He.exc_ok (c.t.d.fact 5 (f := .exc "GroundError") rfl)).2.1
    xb_GroundError := (He.exc_ok (c.t.d.fact 5 (f := .exc "GroundError") rfl)).2.2.1
    xt_GroundError := (He.exc_ok (c.t.d.fact 5 (f := .exc "GroundError") rfl)).2.2.2
    a_TapeCrashed := He.ga K "TapeCrashed"
    g_TapeCrashed := He.glo_ok X G (c.t.d.fact 6 (f := .glo "TapeCrashed") rfl)
    x_TapeCrashed := (He.exc_ok (c.t.d.fact 7 (f := .exc "TapeCrashed") rfl)).1
    k_TapeCrashed := (He.exc_ok (c.t.d.fact 7 (f := .exc "TapeCrashed") rfl)).2.1
    xb_TapeCrashed := (He.exc_ok (c.t.d.fact 7 (f := .exc "TapeCrashed") rfl)).2.2.1
    xt_TapeCrashed := (He.exc_ok (c.t.d.fact 7 (f := .exc "TapeCrashed") rfl)).2.2.2
    a_Tape := He.ga K "Tape"
    g_Tape := He.glo_ok X G (c.t.d.fact 8 (f := .glo "Tape") rfl)
    cls_Tape := He.cls_ok (c.t.d.fact 9 (f := .cls "Tape") rfl)
    na_Tape__durable := He.noat_ok (c.t.d.fact 10 (f := .noat "Tape" "_durable") rfl)
    na_Tape__pending := He.noat_ok (c.t.d.fact 11 (f := .noat "Tape" "_pending") rfl)
    na_Tape__left := He.noat_ok (c.t.d.fact 12 (f := .noat "Tape" "_left") rfl)
    na_Tape__crashed := He.noat_ok (c.t.d.fact 13 (f := .noat "Tape" "_crashed") rfl)
    mk_Tape := He.mkr_ok (c.t.d.fact 14 (f := .mkr "Tape") rfl)
    m_Tape_append := He.meth_ok (c.t.d.fact 15 (f := .meth "Tape" "append") rfl)
    m_Tape_sync := He.meth_ok (c.t.d.fact 16 (f := .meth "Tape" "sync") rfl)
    m_Tape_records := He.meth_ok (c.t.d.fact 17 (f := .meth "Tape" "records") rfl)
    m_Tape_pending := He.meth_ok (c.t.d.fact 18 (f := .meth "Tape" "pending") rfl)
    m_Tape_arm := He.meth_ok (c.t.d.fact 19 (f := .meth "Tape" "arm") rfl)
    m_Tape_crash := He.meth_ok (c.t.d.fact 20 (f := .meth "Tape" "crash") rfl)
    m_Tape__operate := He.meth_ok (c.t.d.fact 21 (f := .meth "Tape" "_operate") rfl)
    e_TapeCrashed_TapeCrashed := He.exm_ok (c.t.d.fact 22 (f := .exm "TapeCrashed" "TapeCrashed" true) rfl)
    n_len := He.free_ok X G (c.t.d.fact 23 (f := .free "len") rfl)
    n_range := He.free_ok X G (c.t.d.fact 24 (f := .free "range") rfl)
    n_int := He.free_ok X G (c.t.d.fact 25 (f := .free "int") rfl)
    n_isinstance := He.free_ok X G (c.t.d.fact 26 (f := .free "isinstance") rfl)
    n_bool := He.free_ok X G (c.t.d.fact 27 (f := .free "bool") rfl)
    n_list := He.free_ok X G (c.t.d.fact 28 (f := .free "list") rfl) }, rfl⟩⟩
end Fg
open PySem PySem.W PySem.Calls PyProof.Rows
set_option maxRecDepth 100000 in
set_option maxHeartbeats 0 in
theorem PySem.Challenge.cw_firmground_k10_tape_holds : PySem.Challenge.rw_firmground_k10_tape.Holds := by
  w_on; o_law
  refine HandSHeadRun.head_any (r := OpenLaw.row PySem.Challenge.rw_firmground_k10_tape) (q := view (OpenLaw.row PySem.Challenge.rw_firmground_k10_tape).prog [9]) (H := Fg.hk) (ob := Fg.ob) (M := 60000) (loose := Fg.loose) (d := HandSHeadRun.topDef (OpenLaw.row PySem.Challenge.rw_firmground_k10_tape).prog 9) (kwd := []) Fg.ob_eq
    (by kernel_rfl) (fun s => by kernel_rfl) Fg.run (by kernel_rfl) (by kernel_rfl) (by kernel_rfl) (by rfl) (by first | assumption | decide +kernel) (by decide +kernel) ⟨rfl, rfl, rfl, rfl, rfl, by decide +kernel⟩ ?hw ?hc
  case hw => w_witness2
  case hc =>
    refine L2.walk_ofE (l := PySem.Challenge.rw_firmground_k10_tape) (n := 63) (k := 8) (x := "_law_script") (CX := L2.CX0) rfl (by decide) (by kernel_rfl) ⟨rfl, by decide, by decide⟩ ?F (fun _ _ _ _ z => z)
    intro w mg fa h Y G hmg0
    obtain ⟨K, KX, c⟩ := Y
    have hmg : mg ("law" : PySem.Str) = some (.ref fa) := by
      have e : (HandSHeadRun.topDef (OpenLaw.row PySem.Challenge.rw_firmground_k10_tape).prog 9).name = ("law" : PySem.Str) := by kernel_rfl
      rw [← e]
      exact hmg0
    obtain ⟨⟨⟨e0⟩⟩, T, eT⟩ := Fg.txt_of KX G c
    have e1 : fa = T.a_law := by
      rw [e0] at hmg
      rw [eT]
      injection hmg with hmg
      injection hmg with hmg
      exact hmg.symm
    refine ⟨K, T.fd_law, Fg.spLaw K, KX, fun s v => L2.FunD.bindsA (ps := ["_law_script"]) T.F_law (fun _ _ _ _ _ _ us hl => match us, hl with | [_], _ => rfl) s [v] rfl, fun H a ns hl _ hS => Fg.sp_in H a ns hl hS, fun base _ _ => ?_⟩
    rw [e1]
    exact Fg.ok_law T
#print axioms PySem.Challenge.cw_firmground_k10_tape_holds
