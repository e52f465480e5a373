import PyProof.Rows.All
import Wide.All
import OpenK.AllK
import Wide.FinOn
import KE.KStateDown
import Lean
import HandS.ForMost
import HandS.ForExc
import HandS.Defaults
import HandS.More
import HandS.Small
import HandS.ExcInit
import HandS.ExcField
import HandS.IsInst
import HandS.Flow
import HandS.Style
import HandS.Steps
import HandS.Evl
import HandS.Wide
import HandS.TupAny
import HandS.TupMul
import HandS.TupLe
import HandS.Walk
import HandS.Zip
import HandS.StrMore
import HandS.StrSplit
import HandS.Deep
import HandS.DictComp
import HandS.SortInts
import HandS.TryMany
import HandS.Head0
import HandS.Head1
import HandS.Head2
import HandS.HeadEnd
import HandS.HeadHook1
import HandS.HeadHook2
import HandS.HeadHook3
import HandS.HeadHook4
import PySem.Challenge.RW_firmground_k02_payloads
set_option Elab.async false
set_option linter.all false
set_option maxRecDepth 100000
set_option maxHeartbeats 4000000
/-! Words shared by the proofs about the given program. -/
namespace L2
open PySem PySem.Spec PyProof.Rows

/-! ### raise C() of an own class without arguments -/
section
variable {X : Cx} {C : Addr} {bmB : List Value} {B newId initId : String}
theorem pmk_own0 {x : Str} {p pos : Pos} (F : ExcBaseFacts B newId initId bmB) (q : PySem.W.excIn X.K C bmB newId = true) (gC : X.mg x = some (.ref C)) (kC : PySem.W.keepIn X.K (.ref C) = true) (r : Raises X (.ref C)) (hg : Gl X x)
    (hdb : (x == ("__debug__" : Str)) = false := by decide) : PMk X (.Call (.Name x p) [] [] pos) (fun _ H Q => Q (.ref C) none H) := by
  intro pins s σ H Q I h
  refine wpAny_Call_Name_kw (ld_glob I hg gC ?_ hdb)
  refine PySem.W.callWith_K0 I.kIn kC ?_
  obtain ⟨hp, g, dd0, tk, os⟩ := s
  obtain ⟨bm, N, nm, qn, bs, hdct, sn, sub, ab, col, dd, k0, k1, k2, k3, k5, mN, hC, hN, hni, T⟩ := exc_obj I.kIn q
  refine wpAny_call_exc_subT F T hC hN hni (fun h' e hm => ?_) (Nat.zero_le _)
  exact mk_of I hm r h (I.hok.gone hm.new)
end

/-! ### an own class over ValueError with an __init__ of its own: a check -/
def oexB (K : PySem.W.Frag) (C : Addr) : Bool := (match K.lookup C with
  | some ⟨.type "type", _, .cls cd, sl⟩ => (match cd.mro, sl.toList with
    | .ref C' :: bm, [_, _, _, _, some (.builtin n), _] => C' == C && n == "ValueError.__new__" && !cd.hasDel && cd.hasDict && PySem.HandSPX.refsVE bm
    | _, _ => false)
  | _ => false) && decide (PySem.W.findIn K (.ref C) "__setattr__" = some (some (.builtin "object.__setattr__"))) && decide (PySem.W.subIn K (.ref C) (.type "BaseException") = some true) &&
    decide (PySem.W.typeIn K (.ref C) = some (.type "type")) && PySem.W.keepIn K (.ref C)
theorem oexB_ok {K : PySem.W.Frag} {C : Addr} (h : oexB K C = true) : OexC K C := by
  unfold oexB at h
  simp only [Bool.and_eq_true] at h
  obtain ⟨⟨⟨⟨h, h1⟩, h2⟩, h3⟩, h4⟩ := h
  refine ⟨?_, of_decide_eq_true h1, of_decide_eq_true h2, of_decide_eq_true h3, h4⟩
  split at h
  · rename_i dd cd sl ho
    split at h
    · rename_i C' bm k0 k1 k2 k3 n k5 hm hs
      simp only [Bool.and_eq_true, beq_iff_eq, Bool.not_eq_true'] at h
      obtain ⟨⟨⟨⟨rfl, rfl⟩, hdel⟩, hdi⟩, hr⟩ := h
      obtain ⟨nm, bs, mro, ns, qn, hd, sn, sub, ab, col, del⟩ := cd
      dsimp only at hm hdel hdi
      subst hm hdel hdi
      have hsl : sl = #[k0, k1, k2, k3, some (.builtin "ValueError.__new__"), k5] := by
        obtain ⟨l⟩ := sl
        simp only at hs
        rw [hs]
      subst hsl
      exact ⟨nm, qn, ns, bs, bm, sn, sub, ab, col, dd, k0, k1, k2, k3, k5, ho, hr⟩
    · cases h
  · cases h
/-! ### methods and makers that may raise, within a try: the wish at the caller's slots -/
def tMethE (C : Addr) (m : Str) (sp : Sp) (E : St → XK) (ta : TE) (t : TA) : TE := fun σ H Q => ta σ H fun x H1 => ∃ a dx fs, x = .ref a ∧ H1 a = some (.ins C dx fs) ∧ fs.lookup m = none ∧ t σ H1 fun vs H2 => sp (x :: vs) H2 Q (E σ)
def tMakeE (C : Addr) (sp : Sp) (E : St → XK) (t : TA) : TE := fun σ H Q => t σ H fun vs H1 => ∀ x dx, H1 x = none → H1 dx = none → dx ≠ x →
  sp (.ref x :: vs) (upd (upd H1 dx (.own x)) x (.ins C dx [])) (fun v H2 => v = .non ∧ Q (.ref x) H2) (E σ)
section
variable {X : Cx} {CX : CXT} {k : Nat} {f C : Addr} {fd : FuncData} {ps : List Str} {sp : Sp} {E : St → XK} {x m : Str} {p pos apos : Pos} {e o : Expr} {es : List Expr} {ta : TE} {t : TA}
theorem pe_methE {pl : Sem Bool} (F : FnOk X.prog X.w X.K X.mg X.base CX k f fd ps sp) (cC : Cls X.K C) (mM : Meth X.K C m f) (rm : Room k X.A) (bs : Binds X.K fd ps []) (pass : ∀ σ, PassesAt CX X σ (E σ)) (ho : PE X o ta) (ha : PA X (e :: es) t)
    (h1 : starEach (e :: es) X.env = (false, eval e X.env) :: starEach es X.env := by rfl) (h2 : (backTo pos (starEach es X.env)).any (·.1) = false := by rfl)
    (h3 : eval (.Call (.Attribute o m apos) (e :: es) [] pos) X.env = (do let ov ← eval o X.env; standAt apos.atName; let (f, first) ← holding [ov] (getMethod ov m pl); callWith pos f first (backTo pos (starEach (e :: es) X.env)) (backToKw pos (keywordEach [] X.env))) := by rfl) :
    PE X (.Call (.Attribute o m apos) (e :: es) [] pos) (tMethE C m sp E ta t) := by
  constructor
  intro pins s σ H Q I hq
  apply PySem.W.methodCall_KW (pl := pl) _ h3
  apply thn (ho.run pins s σ H _ I hq)
  intro u s1 z
  obtain ⟨y, H1, J, ry, a, dx, fs, ey, ia, nl, q⟩ := z
  subst ey
  cases (show u = Value.ref a from ry)
  apply getmeth_ok J ia cC mM nl
  apply PySem.W.callWith_K (first := [.ref a]) (h₀ := X.base) I.ok.mod.kin mM.kp _ h1 h2
  apply thn (ha.run pos pins s1 σ H1 _ J q)
  intro us s2 z
  obtain ⟨vs, H2, J2, rv, q2⟩ := z
  exact ⟨J2.kIn, run_fnS (us := .ref a :: us) (vs := .ref a :: vs) F rm bs (pass σ) J2 (.cons rfl rv) q2⟩
theorem pe_meth0E {pl : Sem Bool} (F : FnOk X.prog X.w X.K X.mg X.base CX k f fd ps sp) (cC : Cls X.K C) (mM : Meth X.K C m f) (rm : Room k X.A) (bs : Binds X.K fd ps []) (pass : ∀ σ, PassesAt CX X σ (E σ)) (ho : PE X o ta)
    (h3 : eval (.Call (.Attribute o m apos) [] [] pos) X.env = (do let ov ← eval o X.env; standAt apos.atName; let (f, first) ← holding [ov] (getMethod ov m pl); callWith pos f first (backTo pos (starEach [] X.env)) (backToKw pos (keywordEach [] X.env))) := by rfl) :
    PE X (.Call (.Attribute o m apos) [] [] pos) (tMethE C m sp E ta tNil) := by
  constructor
  intro pins s σ H Q I hq
  apply PySem.W.methodCall_KW (pl := pl) _ h3
  apply thn (ho.run pins s σ H _ I hq)
  intro u s1 z
  obtain ⟨y, H1, J, ry, a, dx, fs, ey, ia, nl, q⟩ := z
  subst ey
  cases (show u = Value.ref a from ry)
  apply getmeth_ok J ia cC mM nl
  exact PySem.W.callWith_K0 (first := [.ref a]) J.kIn mM.kp (run_fnS (us := [.ref a]) (vs := [.ref a]) F rm bs (pass σ) J (.cons rfl .nil) q)
theorem run_makeE {pins : List (Addr × Obj)} {σ : St} {H : Hp} {s : Shared} {Q : VK} {us : List Value} {vs : List V} (M : Mk X.K C f) (F : FnOk X.prog X.w X.K X.mg X.base CX k f fd ps sp) (rm : Room (k + 1) X.A) (bs : Binds X.K fd ps [])
    (pass : ∀ H0 s0 e s', Inv X pins σ H0 s0 → CX X.stack H0 s0 (E σ) e s' → X.xe e s') (I : Inv X pins σ H s) (r : Vals vs us)
    (h : ∀ x dx, H x = none → H dx = none → dx ≠ x → sp (.ref x :: vs) (upd (upd H dx (.own x)) x (.ins C dx [])) (fun v H2 => v = .non ∧ Q (.ref x) H2) (E σ)) :
    wpAny (model X.prog X.w) X.A (call (.ref C) us) (EP X pins σ Q) X.xe s := by
  have hq := h (s.heap.objs.size + 1) s.heap.objs.size (I.hok.fresh (Nat.le_succ _)) (I.hok.fresh (Nat.le_refl _)) (Nat.ne_of_lt (Nat.lt_succ_self _))
  have J := Inv.made (C := C) I
  have rr : Vals (V.ref (s.heap.objs.size + 1) :: vs) (Value.ref (s.heap.objs.size + 1) :: us) := .cons rfl r
  have hl : (Value.ref (s.heap.objs.size + 1) :: us).length = ps.length := by rw [← rr.length]; exact F.len _ _ _ _ hq
  have hb := bs _ (Value.ref (s.heap.objs.size + 1) :: us) J.kIn (by rw [List.append_nil]; exact hl)
  rw [List.append_nil] at hb
  apply wpAny_call
  apply make_map (f := f) I.kIn M.makes M.init (beq_iff_eq.mp M.fn)
  apply codeAny_mono (F.run _ X.stack _ _ ⟨Value.ref (s.heap.objs.size + 1) :: us, []⟩ (Value.ref (s.heap.objs.size + 1) :: us) _ _ (E σ) (rm.make C us []) (J.env0.make C us []) hb rr hq)
  intro res s' z
  match res, z with
  | .error e, z => exact pass _ _ e s' J z
  | .ok (.ret u), z =>
    obtain ⟨v, H', I3, rv, ev, q3⟩ := J.after z
    subst ev
    exact ⟨rv, ⟨V.ref (s.heap.objs.size + 1), H', I3, rfl, q3⟩⟩
  | .ok .next, z => exact z.elim
  | .ok .brk, z => exact z.elim
  | .ok .cont, z => exact z.elim
theorem pe_makeE (M : Mk X.K C f) (F : FnOk X.prog X.w X.K X.mg X.base CX k f fd ps sp) (rm : Room (k + 1) X.A) (hg : Gl X x) (hm : X.mg x = some (.ref C)) (bs : Binds X.K fd ps []) (pass : ∀ σ, PassesAt CX X σ (E σ)) (ha : PA X (e :: es) t)
    (h0 : (x == ("__debug__" : Str)) = false := by decide) (h1 : starEach (e :: es) X.env = (false, eval e X.env) :: starEach es X.env := by rfl) (h2 : (backTo pos (starEach es X.env)).any (·.1) = false := by rfl) :
    PE X (.Call (.Name x p) (e :: es) [] pos) (tMakeE C sp E t) := by
  constructor
  intro pins s σ H Q I hq
  apply wpAny_Call_Name_kw
  apply ld_glob I hg hm _ h0
  apply PySem.W.callWith_K (h₀ := X.base) I.ok.mod.kin M.kp _ h1 h2
  apply thn (ha.run pos pins s σ H _ I hq)
  intro us s1 z
  obtain ⟨vs, H1, J, rv, q⟩ := z
  exact ⟨J.kIn, run_makeE M F rm bs (fun H0 s0 e s' => pass σ pins H0 s0 e s') J rv q⟩
end
/-- nothing leaves a callee -/
theorem pass0f {X : Cx} : Passes CX0 X (fun _ _ _ => False) := pass0

/-- len and list() of a list, a tuple, by the written part -/
def rLenQ (K : PySem.W.Frag) : List V → Hp → VK → Prop := fun xs H Q => ∃ p ys, xs = [.ref p] ∧ (SqL K H p ys ∨ SqT K H p ys) ∧ Q (.int ys.length) H
def rListQ (K : PySem.W.Frag) : List V → Hp → VK → Prop := fun xs H Q => ∃ p ys, xs = [.ref p] ∧ (SqL K H p ys ∨ SqT K H p ys) ∧ ∀ l, H l = none → Q (.ref l) (upd H l (.lst ys))
/-! ### raise of an own class with two fields -/
theorem del_back {H H2 : Hp} {a d : Addr} {o : HO} (n : H a = none) (k : ∀ b, b ≠ a → b ≠ d → H2 b = H b) : upd (del H2 a) d o = upd H d o := by
  funext b
  by_cases hb : b = d
  · rw [hb, upd_same, upd_same]
  · rw [upd_ne hb, upd_ne hb]
    by_cases ha : b = a
    · rw [ha, del_same, n]
    · rw [del_ne ha, k b ha hb]

/-! ### attributes by place -/
theorem lk0 (f : Str) (v : V) (r : List (Str × V)) : List.lookup f ((f, v) :: r) = some v := by simp [List.lookup]
theorem lk1 {f g : Str} {v : V} {r : List (Str × V)} {o : Option V} (h : (f == g) = false) (k : List.lookup f r = o) : List.lookup f ((g, v) :: r) = o := by simp [List.lookup, h, k]
theorem lkn (f : Str) : List.lookup f ([] : List (Str × V)) = none := rfl
theorem pf0 (f : Str) (v x : V) (r : List (Str × V)) : putF f v ((f, x) :: r) = (f, v) :: r := if_pos rfl
theorem pf1 {f g : Str} {v x : V} {r s : List (Str × V)} (h : (g == f) = false) (k : putF f v r = s) : putF f v ((g, x) :: r) = (g, x) :: s := by
  have e : ¬ g = f := by simpa using h
  show (if g = f then (g, v) :: r else (g, x) :: putF f v r) = (g, x) :: s
  rw [if_neg e, k]
theorem pfn (f : Str) (v : V) : putF f v [] = [(f, v)] := rfl

/-! ### heaps -/
/-- all tracked objects stay, but for those at W -/
def Kp (W : List Addr) (H H' : Hp) : Prop := ∀ b o, H b = some o → b ∉ W → H' b = some o
theorem Kp.refl (W : List Addr) (H : Hp) : Kp W H H := fun _ _ e _ => e
theorem Kp.trans {W : List Addr} {H H1 H2 : Hp} (a : Kp W H H1) (b : Kp W H1 H2) : Kp W H H2 := fun c o e h => b c o (a c o e h) h
theorem Kp.mono {W V : List Addr} {H H1 : Hp} (a : Kp W H H1) (s : ∀ x ∈ W, x ∈ V) : Kp V H H1 := fun c o e h => a c o e fun m => h (s c m)
theorem Kp.new {W : List Addr} {H H1 : Hp} (a : Kp W H H1) {p : Addr} {o : HO} (n : H1 p = none) : Kp W H (upd H1 p o) := fun c u e h => by
  have z := a c u e h
  rw [upd_ne (ne_of_none z n)]
  exact z
/-- a store to what was free ahead -/
theorem Kp.own {W : List Addr} {H H1 : Hp} (a : Kp W H H1) {p : Addr} {o : HO} (n : H p = none) : Kp W H (upd H1 p o) := fun c u e h => by
  rw [upd_ne (ne_of_none e n)]
  exact a c u e h
theorem Kp.at {H H1 : Hp} (a : Kp [] H H1) {p : Addr} {o : HO} (e : H p = some o) : H1 p = some o := a p o e (by simp)
theorem Kp.put {W : List Addr} {H H1 : Hp} (a : Kp W H H1) {p : Addr} {o : HO} (n : p ∈ W) : Kp W H (upd H1 p o) := fun c u e h => by
  rw [upd_ne (show c ≠ p from fun z => h (by rw [z]; exact n))]
  exact a c u e h
theorem Kp.free {H H1 : Hp} (a : Kp [] H H1) {p : Addr} (n : H1 p = none) : H p = none := by
  cases e : H p with
  | none => rfl
  | some o =>
    rw [a p o e (by simp)] at n
    cases n
/-- what was free and is not at W stays free where it is free behind -/
theorem Kp.freeW {W : List Addr} {H H1 : Hp} (a : Kp W H H1) {p : Addr} (n : H1 p = none) (h : ∀ q ∈ W, ∃ o, H1 q = some o) : H p = none := by
  cases e : H p with
  | none => rfl
  | some o =>
    by_cases m : p ∈ W
    · obtain ⟨u, hu⟩ := h p m
      rw [n] at hu
      cases hu
    · rw [a p o e m] at n
      cases n

/-! ### tuples stay -/
/-- every tuple stays -/
def KTu (K : PySem.W.Frag) (H H' : Hp) : Prop := ∀ a xs, SqT K H a xs → SqT K H' a xs
theorem KTu.refl (K : PySem.W.Frag) (H : Hp) : KTu K H H := fun _ _ h => h
theorem KTu.trans {K : PySem.W.Frag} {H H1 H2 : Hp} (a : KTu K H H1) (b : KTu K H1 H2) : KTu K H H2 := fun c xs h => b c xs (a c xs h)
theorem KTu.of_rd {K : PySem.W.Frag} {H H' : Hp} (h : ∀ a xs, Rd H a (.tup xs) → Rd H' a (.tup xs)) : KTu K H H' := fun a xs z => z.elim (fun r => .inl (h a xs r)) .inr
theorem KTu.upd {K : PySem.W.Frag} {H : Hp} {p : Addr} {o : HO} (h : ∀ xs, ¬ Rd H p (.tup xs)) : KTu K H (upd H p o) := KTu.of_rd fun a xs r => by
  have ne : a ≠ p := fun z => h xs (z ▸ r)
  rcases r with r | ⟨u, r⟩
  · exact .inl (by rw [upd_ne ne]; exact r)
  · exact .inr ⟨u, by rw [upd_ne ne]; exact r⟩
theorem KTu.new {K : PySem.W.Frag} {H : Hp} {p : Addr} {o : HO} (n : H p = none) : KTu K H (L2.upd H p o) := KTu.upd fun xs r => by
  rcases r with r | ⟨u, r⟩ <;> (rw [n] at r; cases r)
theorem KTu.lst {K : PySem.W.Frag} {H : Hp} {p : Addr} {o : HO} {xs : List V} (n : H p = some (.lst xs)) : KTu K H (L2.upd H p o) := KTu.upd fun ys r => by
  rcases r with r | ⟨u, r⟩ <;> (rw [n] at r; cases r)
theorem KTu.dic {K : PySem.W.Frag} {H : Hp} {p : Addr} {o : HO} {xs : List (Key × V)} (n : H p = some (.dK xs)) : KTu K H (L2.upd H p o) := KTu.upd fun ys r => by
  rcases r with r | ⟨u, r⟩ <;> (rw [n] at r; cases r)
theorem KTu.ins {K : PySem.W.Frag} {H : Hp} {p C dx : Addr} {o : HO} {xs : List (Str × V)} (n : H p = some (.ins C dx xs)) : KTu K H (L2.upd H p o) := KTu.upd fun ys r => by
  rcases r with r | ⟨u, r⟩ <;> (rw [n] at r; cases r)
theorem KTu.kp {K : PySem.W.Frag} {W : List Addr} {H H' : Hp} (k : Kp W H H') (h : ∀ p ∈ W, ∀ xs, ¬ Rd H p (.tup xs)) : KTu K H H' := KTu.of_rd fun a xs r => by
  have ne : a ∉ W := fun z => h a z xs r
  rcases r with r | ⟨u, r⟩
  · exact .inl (k a _ r ne)
  · exact .inr ⟨u, k a _ r ne⟩

theorem Kp.kt {K : PySem.W.Frag} {H H1 : Hp} (a : Kp [] H H1) : KTu K H H1 := KTu.kp a fun p hp => by cases hp
theorem Kp.seq {K : PySem.W.Frag} {H H1 : Hp} (e : Kp [] H H1) {a : Addr} {xs : List V} (h : SqL K H a xs) : SqL K H1 a xs := by
  rcases h with (h | ⟨o, h⟩) | h
  · exact .inl (.inl (e.at h))
  · exact .inl (.inr ⟨o, e.at h⟩)
  · exact .inr h
theorem Kp.seqW {K : PySem.W.Frag} {W : List Addr} {H H1 : Hp} (e : Kp W H H1) {a : Addr} {xs : List V} (h : SqL K H a xs) (n : a ∉ W) : SqL K H1 a xs := by
  rcases h with (h | ⟨o, h⟩) | h
  · exact .inl (.inl (e a _ h n))
  · exact .inl (.inr ⟨o, e a _ h n⟩)
  · exact .inr h
theorem Kp.thru {W : List Addr} {H H1 H2 : Hp} (a : Kp [] H H1) (b : Kp W H1 H2) (n : ∀ p ∈ W, H p = none) : Kp [] H H2 := fun c o e _ =>
  b c o (a.at e) fun m => by rw [n c m] at e; cases e

/-! ### data of scalars and tuples -/
mutual
def noL : PyData → Bool
  | .none => true
  | .bool _ => true
  | .int _ => true
  | .str _ => true
  | .tuple xs => noLs xs
  | .list _ => false
  | .dict _ => false
def noLs : List PyData → Bool
  | [] => true
  | x :: xs => noL x && noLs xs
end
section
variable {K : PySem.W.Frag} {H H' : Hp}
mutual
theorem Dp.kt (k : KTu K H H') : ∀ (d : PyData) (v : V), noL d = true → Dp K H v d → Dp K H' v d
  | .none, _, _, h => by cases h; exact .non
  | .bool b, _, _, h => by cases h; exact .bl b
  | .int i, _, _, h => by cases h; exact .int i
  | .str x, _, _, h => by cases h; exact .str x
  | .list ds, _, n, _ => by simp [noL] at n
  | .tuple ds, _, n, h => by
    cases h with
    | tup hs ha => exact .tup (k _ _ hs) (DpAll.kt k ds _ (by simpa [noL] using n) ha)
  | .dict _, _, _, h => by cases h
theorem DpAll.kt (k : KTu K H H') : ∀ (ds : List PyData) (vs : List V), noLs ds = true → DpAll K H vs ds → DpAll K H' vs ds
  | [], _, _, h => by cases h; exact .nil
  | d :: ds, _, n, h => by
    have n' : noL d = true ∧ noLs ds = true := by simpa [noLs] using n
    cases h with
    | cons h1 h2 => exact .cons (Dp.kt k d _ n'.1 h1) (DpAll.kt k ds _ n'.2 h2)
end
mutual
/-- data of any kind, where all that is tracked stays -/
theorem Dp.ex (k : Kp [] H H') : ∀ (d : PyData) (v : V), Dp K H v d → Dp K H' v d
  | .none, _, h => by cases h; exact .non
  | .bool b, _, h => by cases h; exact .bl b
  | .int i, _, h => by cases h; exact .int i
  | .str x, _, h => by cases h; exact .str x
  | .list ds, _, h => by
    cases h with
    | lst hs ha =>
      refine .lst ?_ (DpAll.ex k ds _ ha)
      rcases hs with (r | ⟨u, r⟩) | r
      · exact .inl (.inl (k _ _ r (by simp)))
      · exact .inl (.inr ⟨u, k _ _ r (by simp)⟩)
      · exact .inr r
  | .tuple ds, _, h => by
    cases h with
    | tup hs ha =>
      refine .tup ?_ (DpAll.ex k ds _ ha)
      rcases hs with (r | ⟨u, r⟩) | r
      · exact .inl (.inl (k _ _ r (by simp)))
      · exact .inl (.inr ⟨u, k _ _ r (by simp)⟩)
      · exact .inr r
  | .dict _, _, h => by cases h
theorem DpAll.ex (k : Kp [] H H') : ∀ (ds : List PyData) (vs : List V), DpAll K H vs ds → DpAll K H' vs ds
  | [], _, h => by cases h; exact .nil
  | d :: ds, _, h => by
    cases h with
    | cons h1 h2 => exact .cons (Dp.ex k d _ h1) (DpAll.ex k ds _ h2)
end
theorem DpAll.len : ∀ {vs : List V} {ds : List PyData}, DpAll K H vs ds → vs.length = ds.length
  | _, _, .nil => rfl
  | _, _, .cons _ t => congrArg Nat.succ (DpAll.len t)
theorem DpAll.get : ∀ {vs : List V} {ds : List PyData} {i : Nat} {v : V}, DpAll K H vs ds → vs[i]? = some v → ∃ d, ds[i]? = some d ∧ Dp K H v d
  | _, _, _, _, .nil, e => by simp at e
  | _, _, 0, _, .cons h _, e => by simp at e; subst e; exact ⟨_, rfl, h⟩
  | _, _, i + 1, v, .cons _ t, e => by
    obtain ⟨d, h1, h2⟩ := DpAll.get (i := i) (v := v) t (by simpa using e)
    exact ⟨d, by simpa using h1, h2⟩
theorem DpAll.getD : ∀ {vs : List V} {ds : List PyData} {i : Nat} {d : PyData}, DpAll K H vs ds → ds[i]? = some d → ∃ v, vs[i]? = some v ∧ Dp K H v d
  | _, _, _, _, .nil, e => by simp at e
  | _, _, 0, _, .cons h _, e => by simp at e; subst e; exact ⟨_, rfl, h⟩
  | _, _, i + 1, d, .cons _ t, e => by
    obtain ⟨v, h1, h2⟩ := DpAll.getD (i := i) (d := d) t (by simpa using e)
    exact ⟨v, by simpa using h1, h2⟩
theorem DpAll.app : ∀ {vs ws : List V} {ds es : List PyData}, DpAll K H vs ds → DpAll K H ws es → DpAll K H (vs ++ ws) (ds ++ es)
  | _, _, _, _, .nil, s => s
  | _, _, _, _, .cons h t, s => .cons h (DpAll.app t s)
theorem DpAll.erase : ∀ {vs : List V} {ds : List PyData} (i : Nat), DpAll K H vs ds → DpAll K H (vs.eraseIdx i) (ds.eraseIdx i)
  | _, _, _, .nil => .nil
  | _, _, 0, .cons _ t => t
  | _, _, i + 1, .cons h t => .cons h (DpAll.erase i t)
theorem DpAll.take : ∀ {vs : List V} {ds : List PyData} (i : Nat), DpAll K H vs ds → DpAll K H (vs.take i) (ds.take i)
  | _, _, 0, _ => .nil
  | _, _, _ + 1, .nil => .nil
  | _, _, i + 1, .cons h t => .cons h (DpAll.take i t)
theorem DpAll.drop : ∀ {vs : List V} {ds : List PyData} (i : Nat), DpAll K H vs ds → DpAll K H (vs.drop i) (ds.drop i)
  | _, _, 0, h => h
  | _, _, _ + 1, .nil => .nil
  | _, _, i + 1, .cons _ t => DpAll.drop i t
theorem noLs_iff : ∀ {ds : List PyData}, noLs ds = true ↔ ∀ d ∈ ds, noL d = true
  | [] => by simp [noLs]
  | d :: ds => by simp [noLs, noLs_iff (ds := ds)]
end

/-! ### what == may look at -/
structure Sh (n : Nat) (d : PyData) : Prop where
  can : d.canLay0 = true
  dep : d.depth ≤ n
theorem Sh.shaped {n : Nat} {d : PyData} (h : Sh n d) (hn : n ≤ 64 := by decide) : SeqAt.shaped d = true := by
  show (d.canLay0 && decide (d.depth ≤ 64)) = true
  rw [h.can, decide_eq_true (Nat.le_trans h.dep hn)]
  rfl
theorem Sh.mono {n m : Nat} {d : PyData} (h : Sh n d) (hn : n ≤ m) : Sh m d := ⟨h.can, Nat.le_trans h.dep hn⟩
theorem Sh.refl {n : Nat} {d : PyData} (h : Sh n d) : PyData.eqv d d = true := SeqAt.eqv_refl d h.can
theorem sh_non {n : Nat} : Sh n .none := ⟨by simp [PyData.canLay0], by simp [PyData.depth]⟩
theorem sh_bl {n : Nat} (b : Bool) : Sh n (.bool b) := ⟨by simp [PyData.canLay0], by simp [PyData.depth]⟩
theorem sh_int {n : Nat} (i : Int) : Sh n (.int i) := ⟨by simp [PyData.canLay0], by simp [PyData.depth]⟩
theorem sh_str {n : Nat} {x : Str} (h : PyData.strOk x = true) : Sh n (.str x) := ⟨by simp [PyData.canLay0, h], by simp [PyData.depth]⟩
theorem can_all : ∀ {ds : List PyData}, (∀ d ∈ ds, d.canLay0 = true) → PyData.canLayAll0 ds = true
  | [], _ => by simp [PyData.canLayAll0]
  | d :: ds, h => by
    rw [PyData.canLayAll0, h d (by simp), can_all fun e m => h e (by simp [m])]
    rfl
theorem dep_all : ∀ {ds : List PyData} {n : Nat}, (∀ d ∈ ds, d.depth ≤ n) → PyData.depthAll ds ≤ n
  | [], _, _ => by simp [PyData.depthAll]
  | d :: ds, n, h => by
    rw [PyData.depthAll]
    exact Nat.max_le.mpr ⟨h d (by simp), dep_all fun e m => h e (by simp [m])⟩
theorem sh_list {n : Nat} {ds : List PyData} (h : ∀ d ∈ ds, Sh n d) : Sh (n + 1) (.list ds) :=
  ⟨by rw [PyData.canLay0]; exact can_all fun d m => (h d m).can, by rw [PyData.depth]; exact Nat.succ_le_succ (dep_all fun d m => (h d m).dep)⟩
theorem sh_tup {n : Nat} {ds : List PyData} (h : ∀ d ∈ ds, Sh n d) : Sh (n + 1) (.tuple ds) :=
  ⟨by rw [PyData.canLay0]; exact can_all fun d m => (h d m).can, by rw [PyData.depth]; exact Nat.succ_le_succ (dep_all fun d m => (h d m).dep)⟩
theorem all_nil {n : Nat} : ∀ d ∈ ([] : List PyData), Sh n d := fun _ h => by cases h
theorem all_cons {n : Nat} {d : PyData} {ds : List PyData} (h : Sh n d) (t : ∀ e ∈ ds, Sh n e) : ∀ e ∈ d :: ds, Sh n e := fun e m => by
  rcases List.mem_cons.mp m with rfl | m
  · exact h
  · exact t e m
/-! ### a store in a dict by a key that is there -/
theorem put_is {κ : Type} [DecidableEq κ] {kvs kvs' : List (κ × V)} {k : κ} {v : V} (h1 : (kvs.any fun p => decide (p.1 = k)) = true) (h2 : (kvs.map fun p => if p.1 = k then (p.1, v) else p) = kvs') : putK kvs k v = kvs' := by
  unfold putK
  rw [if_pos h1]
  exact h2
/-! ### tests -/
theorem iteD {p A B : Prop} [Decidable p] (h1 : p → A) (h2 : ¬ p → B) : if decide p = true then A else B := by
  by_cases h : p
  · rw [if_pos (decide_eq_true h)]; exact h1 h
  · rw [if_neg (by simp [h])]; exact h2 h
theorem iteN {p A B : Prop} [Decidable p] (h1 : ¬ p → A) (h2 : p → B) : if (!decide p) = true then A else B := by
  by_cases h : p
  · rw [if_neg (by simp [h])]; exact h2 h
  · rw [if_pos (by simp [h])]; exact h1 h
theorem iteB {b : Bool} {A B : Prop} (h1 : b = true → A) (h2 : b = false → B) : if b = true then A else B := by
  cases b
  · rw [if_neg Bool.false_ne_true]; exact h2 rfl
  · rw [if_pos rfl]; exact h1 rfl
theorem iteNB {b : Bool} {A B : Prop} (h1 : b = false → A) (h2 : b = true → B) : if (!b) = true then A else B := by
  cases b
  · exact (if_pos (by simp : (!false) = true)).mpr (h1 rfl)
  · exact (if_neg (by simp : ¬ (!true) = true)).mpr (h2 rfl)
theorem vstr {a b : Str} (h : V.str a = V.str b) : a = b := by injection h
theorem vint {a b : Int} (h : V.int a = V.int b) : a = b := by injection h
theorem vstr_ne {a b : Str} (h : ¬ V.str a = V.str b) : ¬ a = b := fun e => h (by rw [e])
theorem vint_ne {a b : Int} (h : ¬ V.int a = V.int b) : ¬ a = b := fun e => h (by rw [e])
theorem small {n : Nat} (h : n ≤ 100000) : n ≤ sizeLine := Nat.le_trans h (by decide)
theorem smallL {n : Nat} (h : n ≤ 100000) : n < sizeLine := Nat.lt_of_le_of_lt h (by decide)
/-! ### values by their kind -/
theorem ty_tup {K : PySem.W.Frag} {H : Hp} {a : Addr} {xs : List V} (h : SqT K H a xs) : TyX K H (.ref a) (.type "tuple") := by
  rcases h with (r | ⟨o, r⟩) | ⟨o, its, n, e, c, _⟩
  · exact .base (.tup r)
  · exact .fTuple r
  · exact .kTuple e c
theorem ty_lst {K : PySem.W.Frag} {H : Hp} {a : Addr} {xs : List V} (h : SqL K H a xs) : TyX K H (.ref a) (.type "list") := by
  rcases h with (r | ⟨o, r⟩) | ⟨o, its, n, e, c, _⟩
  · exact .base (.lst r)
  · exact .base (.frz r)
  · exact .kList e c
/-- the built-in type of data -/
def tyD : PyData → String
  | .none => "NoneType"
  | .bool _ => "bool"
  | .int _ => "int"
  | .str _ => "str"
  | .list _ => "list"
  | .tuple _ => "tuple"
  | .dict _ => "dict"
theorem ty_of {K : PySem.W.Frag} {H : Hp} {v : V} {d : PyData} (h : Dp K H v d) : TyX K H v (.type (tyD d)) := by
  cases h with
  | non => exact .base .non
  | bl b => exact .base (.bl b)
  | int i => exact .base (.int i)
  | str x => exact .base (.str x)
  | lst hs _ => exact ty_lst hs
  | tup hs _ => exact ty_tup hs
/-! ### data that does not reach the objects at W -/
def out (W : List Addr) (H : Hp) : Hp := fun a => if a ∈ W then none else H a
theorem out_in {W : List Addr} {H : Hp} {a : Addr} (h : a ∈ W) : out W H a = none := if_pos h
theorem out_ne {W : List Addr} {H : Hp} {a : Addr} (h : a ∉ W) : out W H a = H a := if_neg h
theorem out_nil {H : Hp} : out [] H = H := by funext a; exact if_neg (by simp)
theorem Kp.out {W : List Addr} {H H' : Hp} (k : Kp W H H') : Kp [] (out W H) (L2.out W H') := fun a o e _ => by
  by_cases h : a ∈ W
  · rw [out_in h] at e; cases e
  · rw [out_ne h] at e ⊢
    exact k _ _ e h
theorem out_back (W : List Addr) (H : Hp) : Kp [] (out W H) H := fun a o e _ => by
  by_cases h : a ∈ W
  · rw [out_in h] at e; cases e
  · rw [out_ne h] at e; exact e
/-- all that W names is there -/
def Al (W : List Addr) (H : Hp) : Prop := ∀ a ∈ W, ∃ o, H a = some o
theorem Al.not {W : List Addr} {H : Hp} {p : Addr} (h : Al W H) (n : H p = none) : p ∉ W := fun m => by
  obtain ⟨o, e⟩ := h p m
  rw [n] at e
  cases e
theorem Al.nil {H : Hp} : Al [] H := fun _ m => by cases m
theorem Al.ex {W : List Addr} {H H' : Hp} (h : Al W H) (k : Kp [] H H') : Al W H' := fun a m => let ⟨o, e⟩ := h a m; ⟨o, k.at e⟩
theorem Al.one {H : Hp} {p : Addr} {o : HO} (e : H p = some o) : Al [p] H := fun a m => by rw [List.mem_singleton.mp m]; exact ⟨o, e⟩
section
variable {K : PySem.W.Frag} {W : List Addr} {H H' : Hp} {v : V} {d : PyData} {vs : List V} {ds : List PyData}
abbrev DW (K : PySem.W.Frag) (W : List Addr) (H : Hp) (v : V) (d : PyData) : Prop := Dp K (out W H) v d
abbrev DWs (K : PySem.W.Frag) (W : List Addr) (H : Hp) (vs : List V) (ds : List PyData) : Prop := DpAll K (out W H) vs ds
theorem DW.kp (h : DW K W H v d) (k : Kp W H H') : DW K W H' v d := Dp.ex k.out _ _ h
theorem DWs.kp (h : DWs K W H vs ds) (k : Kp W H H') : DWs K W H' vs ds := DpAll.ex k.out _ _ h
theorem DW.dp (h : DW K W H v d) : Dp K H v d := Dp.ex (out_back W H) _ _ h
theorem DWs.dp (h : DWs K W H vs ds) : DpAll K H vs ds := DpAll.ex (out_back W H) _ _ h
theorem DW.of (h : Dp K H v d) : DW K [] H v d := by rw [DW, out_nil]; exact h
theorem DWs.of (h : DpAll K H vs ds) : DWs K [] H vs ds := by rw [DWs, out_nil]; exact h
theorem out_fresh {p : Addr} (n : H p = none) : Kp [] H (out [p] H) := fun a o e _ => by
  rw [out_ne fun m => by rw [List.mem_singleton.mp m, n] at e; cases e]
  exact e
theorem out_wide {W V : List Addr} {H : Hp} (h : ∀ a ∈ V, a ∈ W ∨ H a = none) : Kp [] (out W H) (out V H) := fun a o e _ => by
  by_cases m : a ∈ W
  · rw [out_in m] at e; cases e
  · rw [out_ne m] at e
    rw [out_ne fun z => by
      rcases h a z with c | c
      · exact m c
      · rw [c] at e; cases e]
    exact e
theorem DW.wide {V : List Addr} (h : DW K W H v d) (k : ∀ a ∈ V, a ∈ W ∨ H a = none) : DW K V H v d := Dp.ex (out_wide k) _ _ h
theorem DWs.wide {V : List Addr} (h : DWs K W H vs ds) (k : ∀ a ∈ V, a ∈ W ∨ H a = none) : DWs K V H vs ds := DpAll.ex (out_wide k) _ _ h
theorem DW.less {V : List Addr} (h : DW K V H v d) (k : ∀ a ∈ W, a ∈ V) : DW K W H v d := h.wide fun a m => .inl (k a m)
/-- a new object -/
theorem out_new (al : Al W H) {p : Addr} {o : HO} (n : H p = none) : out W (upd H p o) = upd (out W H) p o := by
  funext a
  by_cases e : a = p
  · rw [e, out_ne (al.not n), upd_same, upd_same]
  · rw [upd_ne e]
    by_cases m : a ∈ W
    · rw [out_in m, out_in m]
    · rw [out_ne m, out_ne m, upd_ne e]
theorem out_none (al : Al W H) {p : Addr} (n : H p = none) : out W H p = none := by rw [out_ne (al.not n)]; exact n
theorem DWs.tup (h : DWs K W H vs ds) (al : Al W H) {p : Addr} (n : H p = none) : DW K W (upd H p (.tup vs)) (.ref p) (.tuple ds) := by
  show Dp K _ _ _
  rw [out_new al n]
  exact .tup (SqT.of upd_same) (DpAll.ex ((Kp.refl [] _).new (out_none al n)) _ _ h)
theorem DWs.lst (h : DWs K W H vs ds) (al : Al W H) {p : Addr} (n : H p = none) : DW K W (upd H p (.lst vs)) (.ref p) (.list ds) := by
  show Dp K _ _ _
  rw [out_new al n]
  exact .lst (SqL.of upd_same) (DpAll.ex ((Kp.refl [] _).new (out_none al n)) _ _ h)
theorem SqT.out (h : SqT K (out W H) p xs) : SqT K H p xs := (out_back W H).kt (K := K) _ _ h
theorem SqL.out (h : SqL K (out W H) p xs) : SqL K H p xs := (out_back W H).seq h
end
/-! ### operators on such data -/
theorem atI_data {K : PySem.W.Frag} {H : Hp} {vs : List V} {ds : List PyData} {i : Nat} {d : PyData} (h : DpAll K H vs ds) (e : ds[i]? = some d) : ∃ v, atI vs (i : Int) = some v ∧ Dp K H v d := by
  obtain ⟨v, h1, h2⟩ := DpAll.getD h e
  exact ⟨v, atI_nat h1, h2⟩
/-- x[i], x a tuple or a list -/
def rIxP (K : PySem.W.Frag) : R2 := fun x y H Q => ∃ (W : List Addr) (ds : List PyData) (i : Nat) (d : PyData), (DW K W H x (.tuple ds) ∨ DW K W H x (.list ds)) ∧ y = .int i ∧ ds[i]? = some d ∧ ∀ v, DW K W H v d → Q v H
theorem ix_data {X : Cx} : IxR X (rIxP X.K) := by
  intro value slice pins s σ H x y v u Q I rx ry h hs
  obtain ⟨W, ds, i, d, hx, rfl, e, q⟩ := h
  rcases hx with hx | hx
  · cases hx with
    | tup hq ha =>
      obtain ⟨w, e1, e2⟩ := atI_data ha e
      exact ix_tup value slice pins s σ H _ _ v u Q I rx ry ⟨_, _, _, w, rfl, rfl, SqT.out hq, e1, q w e2⟩ hs
  · cases hx with
    | lst hq ha =>
      obtain ⟨w, e1, e2⟩ := atI_data ha e
      exact ix_list value slice pins s σ H _ _ v u Q I rx ry ⟨_, _, _, w, rfl, rfl, SqL.out hq, e1, q w e2⟩ hs
/-- x + y, tuples -/
def rCatD (K : PySem.W.Frag) : R2 := fun x y H Q => ∃ (W : List Addr) (ds es : List PyData), Al W H ∧ DW K W H x (.tuple ds) ∧ DW K W H y (.tuple es) ∧ ds.length + es.length ≤ sizeLine ∧ ∀ v H', Kp [] H H' → DW K W H' v (.tuple (ds ++ es)) → Q v H'
theorem op_catD {X : Cx} : OpR X (binaryOp .Add) (rCatD X.K) := by
  intro pins s σ H x y v u Q I rx ry h
  obtain ⟨W, ds, es, al, hx, hy, hz, q⟩ := h
  have hx0 := hx
  have hy0 := hy
  cases hx with
  | tup hq ha =>
    cases hy with
    | tup hq2 hb =>
      refine op_catA pins s σ H _ _ v u Q I rx ry ⟨_, _, _, _, rfl, rfl, SqT.out hq, SqT.out hq2, by rw [ha.len, hb.len]; exact hz, fun e => ?_, fun _ e => ?_, fun _ _ p np => ?_⟩
      · subst e
        cases ha
        exact q _ _ (Kp.refl _ _) hy0
      · subst e
        cases hb
        rw [List.append_nil] at q
        exact q _ _ (Kp.refl _ _) hx0
      · exact q _ _ ((Kp.refl _ _).new np) (DWs.tup (DpAll.app ha hb) al np)
/-- x[lo:hi], x a tuple -/
def rSlD (K : PySem.W.Frag) : V → Option Int → Option Int → Hp → VK → Prop := fun x lo hi H Q => ∃ (W : List Addr) (ds : List PyData), Al W H ∧ DW K W H x (.tuple ds) ∧ ∀ v H', Kp [] H H' → DW K W H' v (.tuple ((ds.drop (HT.sIx ds.length 0 lo)).take (HT.sIx ds.length ds.length hi - HT.sIx ds.length 0 lo))) → Q v H'
theorem sl_tupD {X : Cx} : SlR X (rSlD X.K) := by
  intro pins s σ H x v vl vu lo hi sl Q I rx hs pl pu h
  obtain ⟨W, ds, al, hx, q⟩ := h
  have hx0 := hx
  cases hx with
  | tup hq ha =>
    have hl := ha.len
    refine sl_tupA pins s σ H _ v vl vu lo hi sl Q I rx hs pl pu ⟨_, _, rfl, SqT.out hq, fun ⟨e1, e2⟩ => ?_, fun _ p np => ?_⟩
    · rw [hl] at e1 e2
      rw [e1, e2] at q
      rw [List.drop_zero, Nat.sub_zero, List.take_length] at q
      exact q _ _ (Kp.refl _ _) hx0
    · refine q _ _ ((Kp.refl _ _).new np) (DWs.tup ?_ al np)
      unfold cutV
      rw [hl]
      exact DpAll.take _ (DpAll.drop _ ha)
/-! ### isinstance of data -/
def intB : PyData → Bool
  | .int _ => true
  | .bool _ => true
  | _ => false
def bolB : PyData → Bool
  | .bool _ => true
  | _ => false
def strB : PyData → Bool
  | .str _ => true
  | _ => false
def tupB : PyData → Bool
  | .tuple _ => true
  | _ => false
def lstB : PyData → Bool
  | .list _ => true
  | _ => false
theorem kit_int : ∀ d : PyData, kitB (tyD d) "int" = some (intB d)
  | .none => (by decide +kernel : kitB "NoneType" "int" = some false)
  | .bool _ => (by decide +kernel : kitB "bool" "int" = some true)
  | .int _ => (by decide +kernel : kitB "int" "int" = some true)
  | .str _ => (by decide +kernel : kitB "str" "int" = some false)
  | .list _ => (by decide +kernel : kitB "list" "int" = some false)
  | .tuple _ => (by decide +kernel : kitB "tuple" "int" = some false)
  | .dict _ => (by decide +kernel : kitB "dict" "int" = some false)
theorem kit_bol : ∀ d : PyData, kitB (tyD d) "bool" = some (bolB d)
  | .none => (by decide +kernel : kitB "NoneType" "bool" = some false)
  | .bool _ => (by decide +kernel : kitB "bool" "bool" = some true)
  | .int _ => (by decide +kernel : kitB "int" "bool" = some false)
  | .str _ => (by decide +kernel : kitB "str" "bool" = some false)
  | .list _ => (by decide +kernel : kitB "list" "bool" = some false)
  | .tuple _ => (by decide +kernel : kitB "tuple" "bool" = some false)
  | .dict _ => (by decide +kernel : kitB "dict" "bool" = some false)
theorem kit_str : ∀ d : PyData, kitB (tyD d) "str" = some (strB d)
  | .none => (by decide +kernel : kitB "NoneType" "str" = some false)
  | .bool _ => (by decide +kernel : kitB "bool" "str" = some false)
  | .int _ => (by decide +kernel : kitB "int" "str" = some false)
  | .str _ => (by decide +kernel : kitB "str" "str" = some true)
  | .list _ => (by decide +kernel : kitB "list" "str" = some false)
  | .tuple _ => (by decide +kernel : kitB "tuple" "str" = some false)
  | .dict _ => (by decide +kernel : kitB "dict" "str" = some false)
theorem kit_tup : ∀ d : PyData, kitB (tyD d) "tuple" = some (tupB d)
  | .none => (by decide +kernel : kitB "NoneType" "tuple" = some false)
  | .bool _ => (by decide +kernel : kitB "bool" "tuple" = some false)
  | .int _ => (by decide +kernel : kitB "int" "tuple" = some false)
  | .str _ => (by decide +kernel : kitB "str" "tuple" = some false)
  | .list _ => (by decide +kernel : kitB "list" "tuple" = some false)
  | .tuple _ => (by decide +kernel : kitB "tuple" "tuple" = some true)
  | .dict _ => (by decide +kernel : kitB "dict" "tuple" = some false)
theorem kit_lst : ∀ d : PyData, kitB (tyD d) "list" = some (lstB d)
  | .none => (by decide +kernel : kitB "NoneType" "list" = some false)
  | .bool _ => (by decide +kernel : kitB "bool" "list" = some false)
  | .int _ => (by decide +kernel : kitB "int" "list" = some false)
  | .str _ => (by decide +kernel : kitB "str" "list" = some false)
  | .list _ => (by decide +kernel : kitB "list" "list" = some true)
  | .tuple _ => (by decide +kernel : kitB "tuple" "list" = some false)
  | .dict _ => (by decide +kernel : kitB "dict" "list" = some false)
/-- an integer from lo to hi -/
def intIn (d : PyData) (lo hi : Int) : Bool := match d with
  | .int i => decide (lo ≤ i) && decide (i ≤ hi)
  | _ => false
/-! ### a bag of draws -/
def Bag (H : Hp) (p : Addr) : Prop := ∃ x y k : Int, H p = some (.lst [.int x, .int y, .int k])
/-- all stays but the bag -/
def Stp (p : Addr) (H H' : Hp) : Prop := Kp [p] H H' ∧ Bag H' p
section
variable {p q : Addr} {H H1 H2 : Hp} {o : HO}
theorem Stp.refl (b : Bag H p) : Stp p H H := ⟨Kp.refl _ _, b⟩
theorem Stp.trans (a : Stp p H H1) (b : Stp p H1 H2) : Stp p H H2 := ⟨a.1.trans b.1, b.2⟩
theorem Bag.ex (b : Bag H p) (k : Kp [] H H1) : Bag H1 p := let ⟨x, y, z, e⟩ := b; ⟨x, y, z, k.at e⟩
theorem Stp.ex (a : Stp p H H1) (k : Kp [] H1 H2) : Stp p H H2 := ⟨a.1.trans (k.mono (by simp)), a.2.ex k⟩
theorem Stp.new (a : Stp p H H1) (n : H1 q = none) : Stp p H (upd H1 q o) := a.ex ((Kp.refl _ _).new n)
theorem Bag.al (b : Bag H p) : Al [p] H := let ⟨_, _, _, e⟩ := b; Al.one e
theorem Bag.kt {K : PySem.W.Frag} (b : Bag H p) (a : Stp p H H1) : KTu K H H1 := KTu.kp a.1 fun x hx xs z => by
  obtain ⟨_, _, _, e⟩ := b
  rw [List.mem_singleton.mp hx] at z
  rcases z with z | ⟨u, z⟩ <;> (rw [e] at z; cases z)
theorem Bag.free (b : Bag H p) (a : Stp p H H1) (n : H1 q = none) : H q = none := a.1.freeW n fun x hx => by
  obtain ⟨_, _, _, e⟩ := a.2
  rw [List.mem_singleton.mp hx]
  exact ⟨_, e⟩
end
theorem log_small {n : Int} (h0 : 0 ≤ n) (h1 : n ≤ 100000) : n.natAbs.log2 < 9000 := by
  have h : n.natAbs ≤ 100000 := by omega
  have h2 : n.natAbs.log2 ≤ n.natAbs := Nat.log2_le_self _
  by_cases z : n.natAbs = 0
  · rw [z]; decide
  · exact Nat.lt_of_lt_of_le ((Nat.log2_lt z).mpr (Nat.lt_of_le_of_lt h (by decide : 100000 < 2 ^ 17))) (by decide)
/-- len of a tuple or a list, by its data -/
def rLenP (K : PySem.W.Frag) : List V → Hp → VK → Prop := fun xs H Q => ∃ (v : V) (W : List Addr) (ds : List PyData), xs = [v] ∧ (DW K W H v (.tuple ds) ∨ DW K W H v (.list ds)) ∧ Q (.int ds.length) H
theorem call_lenP {X : Cx} : CallR X (.builtin "len") (rLenP X.K) := by
  intro pins s σ H xs us Q I r h
  obtain ⟨v, W, ds, rfl, hv, q⟩ := h
  rcases hv with hv | hv
  · cases hv with
    | tup hq ha => exact call_len_seq pins s σ H _ us Q I r ⟨_, _, rfl, .inr (SqT.out hq), by rw [ha.len]; exact q⟩
  · cases hv with
    | lst hq ha => exact call_len_seq pins s σ H _ us Q I r ⟨_, _, rfl, .inl (SqL.out hq), by rw [ha.len]; exact q⟩
theorem DW.tupOf {K : PySem.W.Frag} {W : List Addr} {H : Hp} {v : V} {ds : List PyData} (h : DW K W H v (.tuple ds)) : ∃ a vs, v = .ref a ∧ SqT K H a vs ∧ DWs K W H vs ds := by
  cases h with
  | tup hq ha => exact ⟨_, _, rfl, SqT.out hq, ha⟩
theorem Stp.alW {W : List Addr} {p : Addr} {H H1 : Hp} (a : Stp p H H1) (al : Al W H) : Al W H1 := fun x m => by
  by_cases e : x = p
  · obtain ⟨_, _, _, h⟩ := a.2
    exact ⟨_, by rw [e]; exact h⟩
  · obtain ⟨o, h⟩ := al x m
    exact ⟨o, a.1 _ _ h (by simpa using e)⟩
theorem Stp.w {W : List Addr} {p : Addr} {H H1 : Hp} (a : Stp p H H1) (m : p ∈ W) : Kp W H H1 := a.1.mono fun x hx => by rw [List.mem_singleton.mp hx]; exact m
/-! ### a written value: new, apart from all that was there -/
def tLit (K : PySem.W.Frag) (d : PyData) : TE := fun _ H Q => ∀ v H', Kp [] H H' → (∀ W, Al W H → DW K W H' v d) → Q v H'
def tLits (K : PySem.W.Frag) (ds : List PyData) : TA := fun _ H Q => ∀ vs H', Kp [] H H' → (∀ W, Al W H → DWs K W H' vs ds) → Q vs H'
def tLitL (K : PySem.W.Frag) (ds : List PyData) : TE := fun _ H Q => ∀ a xs H', Kp [] H H' → H a = none → H' a = some (.lst xs) → (∀ W, Al W H → DWs K (a :: W) H' xs ds) → Q (.ref a) H'
def LitE (K : PySem.W.Frag) (t : TE) (d : PyData) : Prop := ∀ σ H Q, tLit K d σ H Q → t σ H Q
def LitA (K : PySem.W.Frag) (t : TA) (ds : List PyData) : Prop := ∀ σ H Q, tLits K ds σ H Q → t σ H Q
def LitL (K : PySem.W.Frag) (t : TE) (ds : List PyData) : Prop := ∀ σ H Q, tLitL K ds σ H Q → t σ H Q
section
variable {K : PySem.W.Frag}
theorem PE.lit {X : Cx} {e : Expr} {t : TE} {d : PyData} (h : PE X e t) (l : LitE K t d) : PE X e (tLit K d) := ⟨fun pins s σ H Q I q => h.run pins s σ H Q I (l σ H Q q)⟩
theorem PE.litL {X : Cx} {e : Expr} {t : TE} {ds : List PyData} (h : PE X e t) (l : LitL K t ds) : PE X e (tLitL K ds) := ⟨fun pins s σ H Q I q => h.run pins s σ H Q I (l σ H Q q)⟩
theorem lit_int (i : Int) : LitE K (tC (.int i)) (.int i) := fun _ H _ q => q _ H (Kp.refl _ _) fun _ _ => .int i
theorem lit_bl (b : Bool) : LitE K (tC (.bl b)) (.bool b) := fun _ H _ q => q _ H (Kp.refl _ _) fun _ _ => .bl b
theorem lit_str (x : Str) : LitE K (tC (.str x)) (.str x) := fun _ H _ q => q _ H (Kp.refl _ _) fun _ _ => .str x
theorem lit_non : LitE K (tC .non) .none := fun _ H _ q => q _ H (Kp.refl _ _) fun _ _ => .non
theorem lit_neg {t : TE} {i : Int} (h : LitE K t (.int i)) : LitE K (tUn (rU fun i => .int (-i)) t) (.int (-i)) := fun σ H Q q => h σ H _ fun v H1 k hv => by
  have e := hv [] Al.nil
  cases e
  exact ⟨i, rfl, q _ H1 k fun _ _ => .int _⟩
theorem lit_add {ta tb : TE} {i j : Int} (ha : LitE K ta (.int i)) (hb : LitE K tb (.int j)) : LitE K (tOp (rI0 fun i j => .int (i + j)) ta tb) (.int (i + j)) := fun σ H Q q => ha σ H _ fun v H1 k hv => hb σ H1 _ fun v2 H2 k2 hv2 => by
  have e := hv [] Al.nil
  have e2 := hv2 [] Al.nil
  cases e
  cases e2
  exact ⟨i, j, rfl, rfl, q _ H2 (k.trans k2) fun _ _ => .int _⟩
theorem lit_sub {ta tb : TE} {i j : Int} (ha : LitE K ta (.int i)) (hb : LitE K tb (.int j)) : LitE K (tOp (rI0 fun i j => .int (i - j)) ta tb) (.int (i - j)) := fun σ H Q q => ha σ H _ fun v H1 k hv => hb σ H1 _ fun v2 H2 k2 hv2 => by
  have e := hv [] Al.nil
  have e2 := hv2 [] Al.nil
  cases e
  cases e2
  exact ⟨i, j, rfl, rfl, q _ H2 (k.trans k2) fun _ _ => .int _⟩
theorem lit_pow {ta tb : TE} {i j : Int} (ha : LitE K ta (.int i)) (hb : LitE K tb (.int j)) (c : CPow i j) : LitE K (tOp (rI CPow fun i j => .int (i ^ j.toNat)) ta tb) (.int (i ^ j.toNat)) := fun σ H Q q => ha σ H _ fun v H1 k hv => hb σ H1 _ fun v2 H2 k2 hv2 => by
  have e := hv [] Al.nil
  have e2 := hv2 [] Al.nil
  cases e
  cases e2
  exact ⟨i, j, rfl, rfl, c, q _ H2 (k.trans k2) fun _ _ => .int _⟩
theorem lit_nil : LitA K tNil [] := fun _ H _ q => q [] H (Kp.refl _ _) fun _ _ => .nil
theorem lit_cons {te : TE} {ta : TA} {d : PyData} {ds : List PyData} (he : LitE K te d) (ha : LitA K ta ds) : LitA K (tCons te ta) (d :: ds) := fun σ H Q q => he σ H _ fun v H1 k hv => ha σ H1 _ fun vs H2 k2 hvs =>
  q _ H2 (k.trans k2) fun W al => .cons (DW.kp (hv W al) (k2.mono (by simp))) (hvs W (al.ex k))
theorem lit_tup {t : TA} {ds : List PyData} (h : LitA K t ds) (z : ds.length ≤ sizeLine) : LitE K (tTup t) (.tuple ds) := fun σ H Q q => h σ H _ fun vs H1 k hvs =>
  ⟨by rw [(hvs [] Al.nil).len]; exact z, fun p n => q _ _ (k.new n) fun W al => DWs.tup (hvs W al) (al.ex k) n⟩
theorem lit_lst {t : TA} {ds : List PyData} (h : LitA K t ds) (z : ds.length ≤ sizeLine) : LitE K (tLst t) (.list ds) := fun σ H Q q => h σ H _ fun vs H1 k hvs =>
  ⟨by rw [(hvs [] Al.nil).len]; exact z, fun p n => q _ _ (k.new n) fun W al => DWs.lst (hvs W al) (al.ex k) n⟩
theorem lit_lstL {t : TA} {ds : List PyData} (h : LitA K t ds) (z : ds.length ≤ sizeLine) : LitL K (tLst t) ds := fun σ H Q q => h σ H _ fun vs H1 k hvs =>
  ⟨by rw [(hvs [] Al.nil).len]; exact z, fun p n => q p vs _ (k.new n) (k.free n) upd_same fun W al => by
    have b := (hvs W al).wide (V := p :: W) fun a m => by
      rcases List.mem_cons.mp m with e | e
      · rw [e]; exact .inr n
      · exact .inl e
    exact DpAll.ex (fun x o e _ => by
      by_cases m : x ∈ p :: W
      · rw [out_in m] at e; cases e
      · rw [out_ne m] at e ⊢
        rw [upd_ne (fun z => m (by rw [z]; exact List.mem_cons_self))]
        exact e) _ _ b⟩
/-- the list that holds such data -/
theorem DWs.ref {W : List Addr} {H : Hp} {a : Addr} {xs : List V} {ds : List PyData} (h : DWs K W H xs ds) (e : H a = some (.lst xs)) (n : a ∉ W) : DW K W H (.ref a) (.list ds) := .lst (SqL.of (by rw [out_ne n]; exact e)) h
end
/-! ### a comprehension that draws from a bag -/
section
variable {K : PySem.W.Frag} {lo : Int} {n : Nat} {g : TG} {te : TE} {vs : List Nat} {σ : St} {H1 : Hp} {D p : Addr} {Qd : Hp → Prop} {W : List Addr}
theorem lc_bag (G : PyData → Prop) (hz : n < sizeLine) (nD : H1 D = none) (b : Bag H1 p) (al : Al W H1) (pW : p ∈ W)
    (hs : ∀ (i : Nat) H (Post : V → Hp → Prop), i < n → Stp p H1 H → Al (D :: W) H → (∀ y d H4, G d → Stp p H H4 → DW K (D :: W) H4 y d → Post y H4) → g (.int (lo + i)) (wipe σ vs) H fun σ2 H2 => wipe σ2 vs = wipe σ vs ∧ te σ2 H2 Post)
    (hd : ∀ H acc ds, Stp p H1 H → Al (D :: W) H → H D = some (.lst acc) → DWs K (D :: W) H acc ds → ds.length = n → (∀ d ∈ ds, G d) → Qd H) :
    ∃ W : Nat → Nat → Hp → Prop, (∃ m, W 0 m (upd H1 D (.lst []))) ∧ ∀ i m H, W i m H →
      ((Itr lo n).stop i H ∧ Qd H) ∨ ((Itr lo n).go i H ∧ ∃ Nx : Hp → Prop, (∀ H', Nx H' → ∃ m', m' < m ∧ W (i + 1) m' H') ∧ ∀ x H', (Itr lo n).yld i H x H' → g x (wipe σ vs) H' fun σ2 H2 => wipe σ2 vs = wipe σ vs ∧ tYes σ2 H2 fun b H3 =>
        if b = true then te σ2 H3 fun y H4 => ∃ acc, H4 D = some (.lst acc) ∧ acc.length < sizeLine ∧ Nx (upd H4 D (.lst (acc ++ [y]))) else Nx H3) := by
  have D_p : D ≠ p := fun e => by obtain ⟨_, _, _, h⟩ := b; rw [← e, nD] at h; cases h
  refine lc_range (fun i H => ∃ acc ds, Stp p H1 H ∧ Al (D :: W) H ∧ H D = some (.lst acc) ∧ DWs K (D :: W) H acc ds ∧ ds.length = i ∧ ∀ d ∈ ds, G d) ?_ ?_ ?_
  · refine ⟨[], [], (Stp.refl b).new nD, fun x m => ?_, upd_same, .nil, rfl, fun _ m => by cases m⟩
    rcases List.mem_cons.mp m with e | e
    · exact ⟨_, by rw [e]; exact upd_same⟩
    · exact (al.ex ((Kp.refl [] H1).new nD)) x e
  · rintro i H hi ⟨acc, ds, s, a, e, h, l, gd⟩
    refine hs i H _ hi s a fun y d H4 gy s4 hy => ?_
    have e4 : H4 D = some (.lst acc) := s4.1 _ _ e (by simpa using D_p)
    have kD : Kp (D :: W) H4 (upd H4 D (.lst (acc ++ [y]))) := (Kp.refl _ _).put (by simp)
    refine ⟨acc, e4, by rw [h.len, l]; omega, acc ++ [y], ds ++ [d], ⟨fun x o z m => ?_, ?_⟩, fun x m => ?_, upd_same, DpAll.app ?_ (.cons (hy.kp kD) .nil), by simp [l], fun z m => ?_⟩
    · rw [upd_ne (fun z2 => by rw [z2, nD] at z; cases z)]
      exact s4.1 _ _ (s.1 _ _ z m) m
    · obtain ⟨_, _, _, h4⟩ := s4.2
      exact ⟨_, _, _, by rw [upd_ne D_p.symm]; exact h4⟩
    · by_cases z : x = D
      · exact ⟨_, by rw [z]; exact upd_same⟩
      · rw [upd_ne z]
        exact (s4.alW a) x m
    · exact (h.kp (s4.w (List.mem_cons_of_mem _ pW))).kp kD
    · rcases List.mem_append.mp m with m | m
      · exact gd z m
      · rw [List.mem_singleton.mp m]; exact gy
  · rintro H ⟨acc, ds, s, a, e, h, l, gd⟩
    exact hd H acc ds s a e h l gd
end
/-! ### data of a bounded depth and width -/
def Tame (L : Nat) : Nat → PyData → Prop
  | 0, d => tupB d = false
  | n + 1, d => match d with
    | .tuple ds => ds.length ≤ L ∧ ∀ e ∈ ds, Tame L n e
    | _ => True
theorem Tame.of {L n : Nat} {d : PyData} (h : tupB d = false) : Tame L n d := by
  cases n with
  | zero => exact h
  | succ n => cases d <;> first | trivial | cases h
theorem Tame.mono {L M : Nat} (hL : L ≤ M) : ∀ {n m : Nat} {d : PyData}, n ≤ m → Tame L n d → Tame M m d
  | 0, m, d, _, h => Tame.of h
  | n + 1, 0, _, e, _ => absurd e (by omega)
  | n + 1, m + 1, d, e, h => by
    cases d with
    | tuple ds => exact ⟨Nat.le_trans h.1 hL, fun x m => Tame.mono hL (Nat.le_of_succ_le_succ e) (h.2 x m)⟩
    | _ => trivial
/-- no more than what ds holds -/
def Part (ds es : List PyData) : Prop := (∀ e ∈ es, e ∈ ds) ∧ es.length ≤ ds.length
theorem part_cut (ds : List PyData) (a b : Nat) : Part ds ((ds.drop a).take b) :=
  ⟨fun _ m => List.mem_of_mem_drop (List.mem_of_mem_take m), by rw [List.length_take, List.length_drop]; omega⟩
theorem DW.ex {K : PySem.W.Frag} {W : List Addr} {H H' : Hp} {v : V} {d : PyData} (h : DW K W H v d) (k : Kp [] H H') : DW K W H' v d := h.kp (k.mono (by simp))
theorem DWs.ex {K : PySem.W.Frag} {W : List Addr} {H H' : Hp} {v : List V} {d : List PyData} (h : DWs K W H v d) (k : Kp [] H H') : DWs K W H' v d := h.kp (k.mono (by simp))
def tameB (L : Nat) : Nat → PyData → Bool
  | 0, d => !tupB d
  | n + 1, d => match d with
    | .tuple ds => decide (ds.length ≤ L) && ds.all (tameB L n)
    | _ => true
theorem Tame.ofB {L : Nat} : ∀ {n : Nat} {d : PyData}, tameB L n d = true → Tame L n d
  | 0, d, h => by
    show tupB d = false
    simpa [tameB] using h
  | n + 1, d, h => by
    cases d with
    | tuple ds =>
      have h' : (decide (ds.length ≤ L) && ds.all (tameB L n)) = true := h
      simp only [Bool.and_eq_true, decide_eq_true_eq, List.all_eq_true] at h'
      exact ⟨h'.1, fun e m => Tame.ofB (h'.2 e m)⟩
    | _ => trivial
theorem DpAll.rep {K : PySem.W.Frag} {H : Hp} {v : V} {d : PyData} (h : Dp K H v d) : ∀ n : Nat, DpAll K H (List.replicate n v) (List.replicate n d)
  | 0 => .nil
  | n + 1 => .cons h (DpAll.rep h n)
theorem flat_rep {α : Type} (z : α) : ∀ n : Nat, (List.replicate n [z]).flatten = List.replicate n z
  | 0 => rfl
  | n + 1 => by rw [List.replicate_succ, List.flatten_cons, flat_rep z n]; rfl
/-! ### written data of the top: tuples within tuples, dicts by texts -/
mutual
def dataB (K : PySem.W.Frag) : PyData → Value → Bool
  | .none, u => He.relB .non u
  | .bool b, u => He.relB (.bl b) u
  | .int i, u => He.relB (.int i) u
  | .str x, u => He.relB (.str x) u
  | .tuple ds, u => (match u with
    | .ref a => (match K.lookup a with
      | some ⟨.type c, _, .seq its _, _⟩ => decide (c = "tuple") && (decide (its.size ≤ sizeLine) && datasB K ds its.toList)
      | _ => false)
    | _ => false)
  | .list _, _ => false
  | .dict _, _ => false
def datasB (K : PySem.W.Frag) : List PyData → List Value → Bool
  | [], us => us.isEmpty
  | d :: ds, us => (match us with
    | u :: us => dataB K d u && datasB K ds us
    | [] => false)
end
mutual
theorem dataB_ok {K : PySem.W.Frag} : ∀ (d : PyData) (u : Value), dataB K d u = true → ∃ v, RelV v u ∧ ∀ H, Dp K H v d
  | .none, u, h => ⟨.non, He.relB_ok (by simpa [dataB] using h), fun _ => .non⟩
  | .bool b, u, h => ⟨.bl b, He.relB_ok (by simpa [dataB] using h), fun _ => .bl b⟩
  | .int i, u, h => ⟨.int i, He.relB_ok (by simpa [dataB] using h), fun _ => .int i⟩
  | .str x, u, h => ⟨.str x, He.relB_ok (by simpa [dataB] using h), fun _ => .str x⟩
  | .tuple ds, u, h => by
    simp only [dataB] at h
    cases u with
    | ref a =>
      replace h : (match K.lookup a with
        | some ⟨.type c, _, .seq its _, _⟩ => decide (c = "tuple") && (decide (its.size ≤ sizeLine) && datasB K ds its.toList)
        | _ => false) = true := h
      cases q : K.lookup a with
      | none =>
        rw [q] at h
        cases h
      | some o =>
        obtain ⟨oc, od, dt, osl⟩ := o
        rw [q] at h
        cases oc with
        | type c =>
          cases dt with
          | seq its n =>
            have h' : (decide (c = "tuple") && (decide (its.size ≤ sizeLine) && datasB K ds its.toList)) = true := h
            simp only [Bool.and_eq_true, decide_eq_true_eq] at h'
            obtain ⟨rfl, h2, h3⟩ := h'
            obtain ⟨vs, r, k⟩ := datasB_ok ds its.toList h3
            exact ⟨.ref a, rfl, fun H => .tup (.inr ⟨_, its, n, q, rfl, rfl, h2, r⟩) (k H)⟩
          | _ => cases h
        | _ => cases dt <;> cases h
    | _ => cases h
  | .list _, u, h => by simp [dataB] at h
  | .dict _, u, h => by simp [dataB] at h
theorem datasB_ok {K : PySem.W.Frag} : ∀ (ds : List PyData) (us : List Value), datasB K ds us = true → ∃ vs, Vals vs us ∧ ∀ H, DpAll K H vs ds
  | [], us, h => by
    have e : us = [] := by simpa [datasB] using h
    subst e
    exact ⟨[], .nil, fun _ => .nil⟩
  | d :: ds, [], h => by simp [datasB] at h
  | d :: ds, u :: us, h => by
    have h' : dataB K d u = true ∧ datasB K ds us = true := by simpa [datasB] using h
    obtain ⟨v, r, k⟩ := dataB_ok d u h'.1
    obtain ⟨vs, rs, ks⟩ := datasB_ok ds us h'.2
    exact ⟨v :: vs, .cons r rs, fun H => .cons (k H) (ks H)⟩
end
def entB (K : PySem.W.Frag) : List (Str × PyData) → List DictEntry → Bool
  | [], es => es.isEmpty
  | p :: r, es => (match es with
    | e :: es => (match e.key with
      | .str x _ => decide (x = p.1)
      | _ => false) && (dataB K p.2 e.val && entB K r es)
    | [] => false)
theorem entB_ok {K : PySem.W.Frag} {z : Str} : ∀ (kvs : List (Str × PyData)) (es : List DictEntry), entB K kvs es = true → es.any (·.refKey) = false ∧
    (match kvs.lookup z with
    | some d => ∃ e, es.find? (·.key.isStr z) = some e ∧ dataB K d e.val = true
    | none => es.find? (·.key.isStr z) = none)
  | [], es, h => by
    have e : es = [] := by simpa [entB] using h
    subst e
    exact ⟨rfl, rfl⟩
  | p :: r, [], h => by simp [entB] at h
  | (k, d) :: r, e :: es, h => by
    obtain ⟨ha, ky, vl⟩ := e
    simp only [entB, Bool.and_eq_true] at h
    obtain ⟨h1, h2, h3⟩ := h
    cases ky with
    | str x t =>
      have hx : x = k := of_decide_eq_true h1
      subst hx
      obtain ⟨i1, i2⟩ := entB_ok (z := z) r es h3
      refine ⟨by simp only [List.any_cons, i1]; rfl, ?_⟩
      by_cases c : z = x
      · subst c
        have e1 : List.lookup z ((z, d) :: r) = some d := by simp [List.lookup]
        rw [e1]
        refine ⟨_, List.find?_cons_of_pos ?_, h2⟩
        show (z == z) = true
        simp
      · have e1 : (z == x) = false := by simpa using c
        have e3 : (x == z) = false := by simpa using (fun e => c e.symm : ¬ x = z)
        have e2 : List.lookup z ((x, d) :: r) = List.lookup z r := by simp [List.lookup, e1]
        rw [e2, List.find?_cons_of_neg (by show ¬ (x == z) = true; rw [e3]; simp)]
        exact i2
    | _ => cases h1
def dictB (K : PySem.W.Frag) (a : Addr) (kvs : List (Str × PyData)) : Bool := match K.lookup a with
  | some ⟨_, _, .dict es _, _⟩ => entB K kvs es.toList
  | _ => false
/-- a dict of the top, its data by text -/
def CDict (K : PySem.W.Frag) (w : World) (a : Addr) (kvs : List (Str × PyData)) : Prop := (∃ es n, KDict K w a es n) ∧ dictB K a kvs = true
theorem CDict.ns {K : PySem.W.Frag} {w : World} {a : Addr} {kvs : List (Str × PyData)} (D : CDict K w a kvs) (z : Str) : match kvs.lookup z with
    | some d => ∃ u, PySem.W.nsIn K a z = some (some u) ∧ dataB K d u = true
    | none => PySem.W.nsIn K a z = some none := by
  obtain ⟨⟨es, n, k⟩, h⟩ := D
  have hl := k.at_
  unfold dictB at h
  rw [hl] at h
  obtain ⟨h1, h2⟩ := entB_ok (z := z) kvs es.toList h
  unfold PySem.W.nsIn
  rw [hl]
  cases e : kvs.lookup z with
  | none =>
    rw [e] at h2
    show (match es.toList.find? (·.key.isStr z) with
      | some e => some (some e.val)
      | none => if es.toList.any (·.refKey) then none else some none) = some none
    rw [h2]
    show (if es.toList.any (·.refKey) then none else some none) = some none
    rw [h1]
    rfl
  | some d =>
    rw [e] at h2
    obtain ⟨e, h3, h4⟩ := h2
    refine ⟨e.val, ?_, h4⟩
    show (match es.toList.find? (·.key.isStr z) with
      | some e => some (some e.val)
      | none => if es.toList.any (·.refKey) then none else some none) = some (some e.val)
    rw [h3]
def rInCD (d : Addr) (kvs : List (Str × PyData)) (b : Bool) : R2 := fun x y H Q => ∃ z : Str, x = .str z ∧ y = .ref d ∧ Q (.bl ((kvs.lookup z).isSome != b)) H
def rIxCD (K : PySem.W.Frag) (d : Addr) (kvs : List (Str × PyData)) : R2 := fun x y H Q => ∃ (z : Str) (c : PyData), x = .ref d ∧ y = .str z ∧ kvs.lookup z = some c ∧ ∀ v, (∀ H', Dp K H' v c) → Q v H
section
variable {X : Cx} {d : Addr} {kvs : List (Str × PyData)}
theorem op_inCD (D : CDict X.K X.w d kvs) : OpR X (compareOp .In) (rInCD d kvs false) := by
  intro pins s σ H x y v u Q I rx ry h
  obtain ⟨z, hx, hy, q⟩ := h
  have hn := D.ns z
  obtain ⟨⟨es, n, k⟩, _⟩ := D
  cases e : kvs.lookup z with
  | none =>
    rw [e] at hn q
    exact op_in_kd k pins s σ H x y v u Q I rx ry ⟨z, _, hx, hy, hn, q⟩
  | some c =>
    rw [e] at hn q
    obtain ⟨w1, h1, _⟩ := hn
    exact op_in_kd k pins s σ H x y v u Q I rx ry ⟨z, _, hx, hy, h1, q⟩
theorem op_notInCD (D : CDict X.K X.w d kvs) : OpR X (compareOp .NotIn) (rInCD d kvs true) := by
  intro pins s σ H x y v u Q I rx ry h
  obtain ⟨z, hx, hy, q⟩ := h
  have hn := D.ns z
  obtain ⟨⟨es, n, k⟩, _⟩ := D
  cases e : kvs.lookup z with
  | none =>
    rw [e] at hn q
    exact op_notIn_kd k pins s σ H x y v u Q I rx ry ⟨z, _, hx, hy, hn, q⟩
  | some c =>
    rw [e] at hn q
    obtain ⟨w1, h1, _⟩ := hn
    exact op_notIn_kd k pins s σ H x y v u Q I rx ry ⟨z, _, hx, hy, h1, q⟩
theorem ix_cdict (D : CDict X.K X.w d kvs) : IxR X (rIxCD X.K d kvs) := by
  intro value slice pins s σ H x y v u Q I rx ry h hs
  obtain ⟨z, c, rfl, rfl, e, q⟩ := h
  have hn := D.ns z
  rw [e] at hn
  obtain ⟨u0, h1, h2⟩ := hn
  obtain ⟨v0, h3, h4⟩ := dataB_ok c u0 h2
  obtain ⟨⟨es, n, k⟩, _⟩ := D
  exact ix_kdict value slice pins s σ H _ _ v u Q I rx ry ⟨_, z, v0, rfl, rfl, ⟨es, n, u0, k.at_, k.lit, h1, h3⟩, q v0 h4⟩ hs
end
/-! ### data with one part spoilt -/
def Mix (od : PyData) : Nat → PyData → PyData → Prop
  | 0, d, e => e = od ∨ e = d
  | n + 1, d, e => e = od ∨ e = d ∨ ∃ ds es, d = .tuple ds ∧ e = .tuple es ∧ es.length ≤ 4 * ds.length + 1 ∧ ∀ x ∈ es, x ∈ ds ∨ x = od ∨ ∃ y ∈ ds, Mix od n y x
theorem Mix.odd {od : PyData} : ∀ {n : Nat} {d : PyData}, Mix od n d od
  | 0, _ => .inl rfl
  | _ + 1, _ => .inl rfl
theorem Mix.same {od : PyData} : ∀ {n : Nat} {d : PyData}, Mix od n d d
  | 0, _ => .inr rfl
  | _ + 1, _ => .inr (.inl rfl)
theorem sh_part {n : Nat} {ds : List PyData} (h : Sh (n + 1) (.tuple ds)) : ∀ d ∈ ds, Sh n d := by
  have hc : PyData.canLayAll0 ds = true := by have := h.can; rwa [PyData.canLay0] at this
  have hd : PyData.depthAll ds ≤ n := by have := h.dep; rw [PyData.depth] at this; omega
  clear h
  induction ds with
  | nil => intro d m; cases m
  | cons e ds ih =>
    rw [PyData.canLayAll0, Bool.and_eq_true] at hc
    rw [PyData.depthAll, Nat.max_le] at hd
    intro d m
    rcases List.mem_cons.mp m with rfl | m
    · exact ⟨hc.1, hd.1⟩
    · exact ih hc.2 hd.2 d m
theorem sh_part0 {n : Nat} {ds : List PyData} (h : Sh n (.tuple ds)) : ∀ d ∈ ds, Sh n d := fun d m => (sh_part (h.mono (Nat.le_succ n)) d m)
theorem Mix.sh {od : PyData} {a b : Nat} (ho : Sh b od) : ∀ {n : Nat} {d e : PyData}, Sh a d → Mix od n d e → Sh (a + b + n) e
  | 0, d, e, h, m => by
    rcases m with rfl | rfl
    · exact ho.mono (by omega)
    · exact h.mono (by omega)
  | n + 1, d, e, h, m => by
    rcases m with rfl | rfl | ⟨ds, es, rfl, rfl, _, hm⟩
    · exact ho.mono (by omega)
    · exact h.mono (by omega)
    · refine sh_tup (n := a + b + n) fun x mx => ?_
      rcases hm x mx with h1 | rfl | ⟨y, my, hy⟩
      · exact (sh_part0 h x h1).mono (by omega)
      · exact ho.mono (by omega)
      · exact Mix.sh ho (sh_part0 h y my) hy
theorem cut_tail {α : Type} (x : α) (es : List α) : (((x :: es).drop (HT.sIx (x :: es).length 0 (some 1))).take (HT.sIx (x :: es).length (x :: es).length none - HT.sIx (x :: es).length 0 (some 1))) = es := by
  have e : HT.sIx (x :: es).length 0 (some 1) = 1 := (HT.sIx_nat (x :: es).length 0 1).trans (Nat.min_eq_left (by rw [List.length_cons]; omega))
  rw [e, HT.sIx_none]
  show (es.take ((es.length + 1) - 1)) = es
  rw [Nat.add_sub_cancel, List.take_length]
theorem strs_eq {K : PySem.W.Frag} {H : Hp} : ∀ {ss : List Str} {xs : List V}, DpAll K H xs (ss.map PyData.str) → xs = ss.map V.str
  | [], _, h => by cases h; rfl
  | s :: ss, _, h => by
    cases h with
    | cons h1 h2 =>
      cases h1
      rw [strs_eq h2]
      rfl
/-! ### a written display with one int variable -/
def LitES (K : PySem.W.Frag) (σ : St) (t : TE) (d : PyData) : Prop := ∀ H Q, tLit K d σ H Q → t σ H Q
def LitAS (K : PySem.W.Frag) (σ : St) (t : TA) (ds : List PyData) : Prop := ∀ H Q, tLits K ds σ H Q → t σ H Q
def LitLS (K : PySem.W.Frag) (σ : St) (t : TE) (ds : List PyData) : Prop := ∀ H Q, tLitL K ds σ H Q → t σ H Q
def tLitV (K : PySem.W.Frag) (i : Nat) (f : Int → List PyData) : TE := fun σ H Q => ∃ n : Int, σ[i]? = some (some (.int n)) ∧ tLitL K (f n) σ H Q
section
variable {K : PySem.W.Frag} {σ : St}
theorem PE.litV {X : Cx} {e : Expr} {t : TE} {i : Nat} {f : Int → List PyData} (h : PE X e t) (l : ∀ σ n, σ[i]? = some (some (.int n)) → LitLS K σ t (f n)) : PE X e (tLitV K i f) :=
  ⟨fun pins s σ H Q I q => let ⟨n, e, q⟩ := q; h.run pins s σ H Q I (l σ n e H Q q)⟩
theorem les_of {t : TE} {d : PyData} (h : LitE K t d) : LitES K σ t d := h σ
theorem les_var {i : Nat} {n : Int} (h : σ[i]? = some (some (.int n))) : LitES K σ (tVar i) (.int n) := fun H Q q => ⟨_, h, q _ H (Kp.refl _ _) fun _ _ => .int n⟩
theorem les_add {ta tb : TE} {i j : Int} (ha : LitES K σ ta (.int i)) (hb : LitES K σ tb (.int j)) : LitES K σ (tOp (rI0 fun i j => .int (i + j)) ta tb) (.int (i + j)) := fun H Q q => ha H _ fun v H1 k hv => hb H1 _ fun v2 H2 k2 hv2 => by
  have e := hv [] Al.nil
  have e2 := hv2 [] Al.nil
  cases e
  cases e2
  exact ⟨i, j, rfl, rfl, q _ H2 (k.trans k2) fun _ _ => .int _⟩
theorem les_sub {ta tb : TE} {i j : Int} (ha : LitES K σ ta (.int i)) (hb : LitES K σ tb (.int j)) : LitES K σ (tOp (rI0 fun i j => .int (i - j)) ta tb) (.int (i - j)) := fun H Q q => ha H _ fun v H1 k hv => hb H1 _ fun v2 H2 k2 hv2 => by
  have e := hv [] Al.nil
  have e2 := hv2 [] Al.nil
  cases e
  cases e2
  exact ⟨i, j, rfl, rfl, q _ H2 (k.trans k2) fun _ _ => .int _⟩
theorem les_nil : LitAS K σ tNil [] := fun H _ q => q [] H (Kp.refl _ _) fun _ _ => .nil
theorem les_cons {te : TE} {ta : TA} {d : PyData} {ds : List PyData} (he : LitES K σ te d) (ha : LitAS K σ ta ds) : LitAS K σ (tCons te ta) (d :: ds) := fun H Q q => he H _ fun v H1 k hv => ha H1 _ fun vs H2 k2 hvs =>
  q _ H2 (k.trans k2) fun W al => .cons (DW.kp (hv W al) (k2.mono (by simp))) (hvs W (al.ex k))
theorem les_tup {t : TA} {ds : List PyData} (h : LitAS K σ t ds) (z : ds.length ≤ sizeLine) : LitES K σ (tTup t) (.tuple ds) := fun H Q q => h H _ fun vs H1 k hvs =>
  ⟨by rw [(hvs [] Al.nil).len]; exact z, fun p n => q _ _ (k.new n) fun W al => DWs.tup (hvs W al) (al.ex k) n⟩
theorem les_lst {t : TA} {ds : List PyData} (h : LitAS K σ t ds) (z : ds.length ≤ sizeLine) : LitES K σ (tLst t) (.list ds) := fun H Q q => h H _ fun vs H1 k hvs =>
  ⟨by rw [(hvs [] Al.nil).len]; exact z, fun p n => q _ _ (k.new n) fun W al => DWs.lst (hvs W al) (al.ex k) n⟩
theorem les_lstL {t : TA} {ds : List PyData} (h : LitAS K σ t ds) (z : ds.length ≤ sizeLine) : LitLS K σ (tLst t) ds := fun H Q q => h H _ fun vs H1 k hvs =>
  ⟨by rw [(hvs [] Al.nil).len]; exact z, fun p n => q p vs _ (k.new n) (k.free n) upd_same fun W al => by
    have b := (hvs W al).wide (V := p :: W) fun a m => by
      rcases List.mem_cons.mp m with e | e
      · rw [e]; exact .inr n
      · exact .inl e
    exact DpAll.ex (fun x o e _ => by
      by_cases m : x ∈ p :: W
      · rw [out_in m] at e; cases e
      · rw [out_ne m] at e ⊢
        rw [upd_ne (fun z => m (by rw [z]; exact List.mem_cons_self))]
        exact e) _ _ b⟩
end
theorem Al.cons {W : List Addr} {H : Hp} {a : Addr} {o : HO} (e : H a = some o) (al : Al W H) : Al (a :: W) H := fun x m => by
  rcases List.mem_cons.mp m with z | z
  · exact ⟨o, by rw [z]; exact e⟩
  · exact al x z
def shB : Nat → PyData → Bool
  | 0, d => match d with
    | .str x => PyData.strOk x
    | .tuple _ => false
    | .list _ => false
    | .dict _ => false
    | _ => true
  | n + 1, d => match d with
    | .str x => PyData.strOk x
    | .tuple ds => ds.all (shB n)
    | .list ds => ds.all (shB n)
    | .dict _ => false
    | _ => true
theorem Sh.ofB : ∀ {n : Nat} {d : PyData}, shB n d = true → Sh n d
  | 0, d, h => by
    cases d with
    | none => exact sh_non
    | bool b => exact sh_bl b
    | int i => exact sh_int i
    | str x => exact sh_str h
    | _ => cases h
  | n + 1, d, h => by
    cases d with
    | none => exact sh_non
    | bool b => exact sh_bl b
    | int i => exact sh_int i
    | str x => exact sh_str h
    | tuple ds => exact sh_tup fun e m => Sh.ofB (List.all_eq_true.mp (show ds.all (shB n) = true from h) e m)
    | list ds => exact sh_list fun e m => Sh.ofB (List.all_eq_true.mp (show ds.all (shB n) = true from h) e m)
    | dict _ => cases h
end L2
set_option Elab.async false
set_option linter.all false
set_option maxRecDepth 100000
set_option maxHeartbeats 4000000
namespace Fg
open PySem PySem.Spec PyProof.Rows L2
local macro_rules | `(tactic| walk_at "lk") => `(tactic| first | exact lk0 _ _ _ | (refine lk1 (by decide +kernel) ?_; walk_at "lk") | exact lkn _)
def top (i : Nat) : Stmt := PySem.Challenge.pw_firmground_k02_payloads.main.body.getD i (.Pass ⟨0, 0, 0, 0⟩)
abbrev s_is_integer : Stmt := top 5
abbrev N_is_integer : List Str := ["value", "least", "greatest"]
theorem sc_is_integer : FnScope N_is_integer ["value", "least", "greatest"] (defScope s_is_integer) := ⟨rfl, rfl, rfl, by decide +kernel, rfl, by decide +kernel, by decide +kernel⟩
abbrev s_is_process : Stmt := top 8
abbrev N_is_process : List Str := ["count", "value"]
theorem sc_is_process : FnScope N_is_process ["count", "value"] (defScope s_is_process) := ⟨rfl, rfl, rfl, by decide +kernel, rfl, by decide +kernel, by decide +kernel⟩
abbrev s__is_item : Stmt := top 9
abbrev N__is_item : List Str := ["count", "part", "value", "depth"]
theorem sc__is_item : FnScope N__is_item ["count", "part", "value", "depth"] (defScope s__is_item) := ⟨rfl, rfl, rfl, by decide +kernel, rfl, by decide +kernel, by decide +kernel⟩
abbrev s__is_nested : Stmt := top 10
abbrev N__is_nested : List Str := ["count", "value", "depth", "shape", "part", "item"]
theorem sc__is_nested : FnScope N__is_nested ["count", "value", "depth"] (defScope s__is_nested) := ⟨rfl, rfl, rfl, by decide +kernel, rfl, by decide +kernel, by decide +kernel⟩
abbrev s_is_payload : Stmt := top 11
abbrev N_is_payload : List Str := ["count", "value"]
theorem sc_is_payload : FnScope N_is_payload ["count", "value"] (defScope s_is_payload) := ⟨rfl, rfl, rfl, by decide +kernel, rfl, by decide +kernel, by decide +kernel⟩
abbrev s__law_bag : Stmt := top 13
abbrev N__law_bag : List Str := ["_law_script", "_law_k", "_law_cell"]
theorem sc__law_bag : FnScope N__law_bag ["_law_script", "_law_k"] (defScope s__law_bag) := ⟨rfl, rfl, rfl, by decide +kernel, rfl, by decide +kernel, by decide +kernel⟩
abbrev s__law_draw : Stmt := top 14
abbrev N__law_draw : List Str := ["_law_bag_here", "_law_many", "_law_seed", "_law_rest"]
theorem sc__law_draw : FnScope N__law_draw ["_law_bag_here", "_law_many"] (defScope s__law_draw) := ⟨rfl, rfl, rfl, by decide +kernel, rfl, by decide +kernel, by decide +kernel⟩
abbrev s__law_is_int : Stmt := top 15
abbrev N__law_is_int : List Str := ["_law_value_here", "_law_least", "_law_most"]
theorem sc__law_is_int : FnScope N__law_is_int ["_law_value_here", "_law_least", "_law_most"] (defScope s__law_is_int) := ⟨rfl, rfl, rfl, by decide +kernel, rfl, by decide +kernel, by decide +kernel⟩
abbrev s__law_value : Stmt := top 16
abbrev N__law_value : List Str := ["_law_bag_here", "_law_pick"]
theorem sc__law_value : FnScope N__law_value ["_law_bag_here"] (defScope s__law_value) := ⟨rfl, rfl, rfl, by decide +kernel, rfl, by decide +kernel, by decide +kernel⟩
abbrev s__law_payload : Stmt := top 17
abbrev N__law_payload : List Str := ["_law_bag_here", "_law_count", "_law_depth", "_law_kind", "_law_cell", "_law_first", "_law_second"]
theorem sc__law_payload : FnScope N__law_payload ["_law_bag_here", "_law_count", "_law_depth"] (defScope s__law_payload) := ⟨rfl, rfl, rfl, by decide +kernel, rfl, by decide +kernel, by decide +kernel⟩
abbrev s__law_shape : Stmt := top 18
abbrev N__law_shape : List Str := ["_law_kind", "_law_rows", "_law_one", "_law_shape_here"]
theorem sc__law_shape : FnScope N__law_shape ["_law_kind"] (defScope s__law_shape) := ⟨rfl, rfl, rfl, by decide +kernel, rfl, by decide +kernel, by decide +kernel⟩
abbrev s__law_is_item : Stmt := top 19
abbrev N__law_is_item : List Str := ["_law_count", "_law_form", "_law_value_here", "_law_depth"]
theorem sc__law_is_item : FnScope N__law_is_item ["_law_count", "_law_form", "_law_value_here", "_law_depth"] (defScope s__law_is_item) := ⟨rfl, rfl, rfl, by decide +kernel, rfl, by decide +kernel, by decide +kernel⟩
abbrev s__law_is_payload : Stmt := top 20
abbrev N__law_is_payload : List Str := ["_law_count", "_law_value_here", "_law_depth", "_law_shape_here", "_law_k"]
theorem sc__law_is_payload : FnScope N__law_is_payload ["_law_count", "_law_value_here", "_law_depth"] (defScope s__law_is_payload) := ⟨rfl, rfl, rfl, by decide +kernel, rfl, by decide +kernel, by decide +kernel⟩
abbrev s__law_spoilt : Stmt := top 21
abbrev N__law_spoilt : List Str := ["_law_bag_here", "_law_value_here", "_law_odd_here", "_law_at", "_law_choice"]
theorem sc__law_spoilt : FnScope N__law_spoilt ["_law_bag_here", "_law_value_here", "_law_odd_here"] (defScope s__law_spoilt) := ⟨rfl, rfl, rfl, by decide +kernel, rfl, by decide +kernel, by decide +kernel⟩
abbrev s__law_odd : Stmt := top 22
abbrev N__law_odd : List Str := ["_law_bag_here", "_law_count", "_law_odd_here"]
theorem sc__law_odd : FnScope N__law_odd ["_law_bag_here", "_law_count"] (defScope s__law_odd) := ⟨rfl, rfl, rfl, by decide +kernel, rfl, by decide +kernel, by decide +kernel⟩
abbrev s__law_wrapped : Stmt := top 23
abbrev N__law_wrapped : List Str := ["_law_bag_here", "_law_value_here", "_law_k", "_law_choice"]
theorem sc__law_wrapped : FnScope N__law_wrapped ["_law_bag_here", "_law_value_here"] (defScope s__law_wrapped) := ⟨rfl, rfl, rfl, by decide +kernel, rfl, by decide +kernel, by decide +kernel⟩
abbrev s__law_built : Stmt := top 24
abbrev N__law_built : List Str := ["_law_bag_here", "_law_count", "_law_value_here", "_law_choice"]
theorem sc__law_built : FnScope N__law_built ["_law_bag_here", "_law_count"] (defScope s__law_built) := ⟨rfl, rfl, rfl, by decide +kernel, rfl, by decide +kernel, by decide +kernel⟩
abbrev s_law : Stmt := top 25
abbrev N_law : List Str := ["_law_script", "_law_k", "_law_bag_here", "_law_count", "_law_value_here", "_law_process", "_law_actual", "_law_due"]
theorem sc_law : FnScope N_law ["_law_script"] (defScope s_law) := ⟨rfl, rfl, rfl, by decide +kernel, rfl, by decide +kernel, by decide +kernel⟩
abbrev FnP (K : PySem.W.Frag) (x q : Str) (st : Stmt) (f : Addr) (fd : FuncData) : Prop := FunD K x q (defArgs st) (defBody st) (defScope st) [] [] f fd
def c_SHAPES : List (Str × PyData) := [("set", .tuple [.str "cell", .str "value"]), ("add", .tuple [.str "cell", .str "value"]), ("copy", .tuple [.str "cell", .str "cell"]), ("send", .tuple [.str "process", .str "payload"]), ("show", .tuple [.str "cell"]), ("both", .tuple [.str "payload", .str "payload"]), ("if", .tuple [.str "cell", .str "payload", .str "payload"])]
structure Txt (w : World) (K : PySem.W.Frag) (mg : Str → Option Value) where
  a_is_integer : Addr
  fd_is_integer : FuncData
  F_is_integer : FnP K "is_integer" "is_integer" s_is_integer a_is_integer fd_is_integer
  b_is_integer : Binds K fd_is_integer ["value", "least", "greatest"] []
  g_is_integer : mg "is_integer" = some (.ref a_is_integer)
  a_is_process : Addr
  fd_is_process : FuncData
  F_is_process : FnP K "is_process" "is_process" s_is_process a_is_process fd_is_process
  b_is_process : Binds K fd_is_process ["count", "value"] []
  g_is_process : mg "is_process" = some (.ref a_is_process)
  a__is_item : Addr
  fd__is_item : FuncData
  F__is_item : FnP K "_is_item" "_is_item" s__is_item a__is_item fd__is_item
  b__is_item : Binds K fd__is_item ["count", "part", "value", "depth"] []
  g__is_item : mg "_is_item" = some (.ref a__is_item)
  a__is_nested : Addr
  fd__is_nested : FuncData
  F__is_nested : FnP K "_is_nested" "_is_nested" s__is_nested a__is_nested fd__is_nested
  b__is_nested : Binds K fd__is_nested ["count", "value", "depth"] []
  g__is_nested : mg "_is_nested" = some (.ref a__is_nested)
  a_is_payload : Addr
  fd_is_payload : FuncData
  F_is_payload : FnP K "is_payload" "is_payload" s_is_payload a_is_payload fd_is_payload
  b_is_payload : Binds K fd_is_payload ["count", "value"] []
  g_is_payload : mg "is_payload" = some (.ref a_is_payload)
  a__law_bag : Addr
  fd__law_bag : FuncData
  F__law_bag : FnP K "_law_bag" "_law_bag" s__law_bag a__law_bag fd__law_bag
  b__law_bag : Binds K fd__law_bag ["_law_script", "_law_k"] []
  g__law_bag : mg "_law_bag" = some (.ref a__law_bag)
  a__law_draw : Addr
  fd__law_draw : FuncData
  F__law_draw : FnP K "_law_draw" "_law_draw" s__law_draw a__law_draw fd__law_draw
  b__law_draw : Binds K fd__law_draw ["_law_bag_here", "_law_many"] []
  g__law_draw : mg "_law_draw" = some (.ref a__law_draw)
  a__law_is_int : Addr
  fd__law_is_int : FuncData
  F__law_is_int : FnP K "_law_is_int" "_law_is_int" s__law_is_int a__law_is_int fd__law_is_int
  b__law_is_int : Binds K fd__law_is_int ["_law_value_here", "_law_least", "_law_most"] []
  g__law_is_int : mg "_law_is_int" = some (.ref a__law_is_int)
  a__law_value : Addr
  fd__law_value : FuncData
  F__law_value : FnP K "_law_value" "_law_value" s__law_value a__law_value fd__law_value
  b__law_value : Binds K fd__law_value ["_law_bag_here"] []
  g__law_value : mg "_law_value" = some (.ref a__law_value)
  a__law_payload : Addr
  fd__law_payload : FuncData
  F__law_payload : FnP K "_law_payload" "_law_payload" s__law_payload a__law_payload fd__law_payload
  b__law_payload : Binds K fd__law_payload ["_law_bag_here", "_law_count", "_law_depth"] []
  g__law_payload : mg "_law_payload" = some (.ref a__law_payload)
  a__law_shape : Addr
  fd__law_shape : FuncData
  F__law_shape : FnP K "_law_shape" "_law_shape" s__law_shape a__law_shape fd__law_shape
  b__law_shape : Binds K fd__law_shape ["_law_kind"] []
  g__law_shape : mg "_law_shape" = some (.ref a__law_shape)
  a__law_is_item : Addr
  fd__law_is_item : FuncData
  F__law_is_item : FnP K "_law_is_item" "_law_is_item" s__law_is_item a__law_is_item fd__law_is_item
  b__law_is_item : Binds K fd__law_is_item ["_law_count", "_law_form", "_law_value_here", "_law_depth"] []
  g__law_is_item : mg "_law_is_item" = some (.ref a__law_is_item)
  a__law_is_payload : Addr
  fd__law_is_payload : FuncData
  F__law_is_payload : FnP K "_law_is_payload" "_law_is_payload" s__law_is_payload a__law_is_payload fd__law_is_payload
  b__law_is_payload : Binds K fd__law_is_payload ["_law_count", "_law_value_here", "_law_depth"] []
  g__law_is_payload : mg "_law_is_payload" = some (.ref a__law_is_payload)
  a__law_spoilt : Addr
  fd__law_spoilt : FuncData
  F__law_spoilt : FnP K "_law_spoilt" "_law_spoilt" s__law_spoilt a__law_spoilt fd__law_spoilt
  b__law_spoilt : Binds K fd__law_spoilt ["_law_bag_here", "_law_value_here", "_law_odd_here"] []
  g__law_spoilt : mg "_law_spoilt" = some (.ref a__law_spoilt)
  a__law_odd : Addr
  fd__law_odd : FuncData
  F__law_odd : FnP K "_law_odd" "_law_odd" s__law_odd a__law_odd fd__law_odd
  b__law_odd : Binds K fd__law_odd ["_law_bag_here", "_law_count"] []
  g__law_odd : mg "_law_odd" = some (.ref a__law_odd)
  a__law_wrapped : Addr
  fd__law_wrapped : FuncData
  F__law_wrapped : FnP K "_law_wrapped" "_law_wrapped" s__law_wrapped a__law_wrapped fd__law_wrapped
  b__law_wrapped : Binds K fd__law_wrapped ["_law_bag_here", "_law_value_here"] []
  g__law_wrapped : mg "_law_wrapped" = some (.ref a__law_wrapped)
  a__law_built : Addr
  fd__law_built : FuncData
  F__law_built : FnP K "_law_built" "_law_built" s__law_built a__law_built fd__law_built
  b__law_built : Binds K fd__law_built ["_law_bag_here", "_law_count"] []
  g__law_built : mg "_law_built" = some (.ref a__law_built)
  a_law : Addr
  fd_law : FuncData
  F_law : FnP K "law" "law" s_law a_law fd_law
  b_law : Binds K fd_law ["_law_script"] []
  g_law : mg "law" = some (.ref a_law)
  u_MOST_PROCESSES : Value
  g_MOST_PROCESSES : mg "MOST_PROCESSES" = some u_MOST_PROCESSES
  r_MOST_PROCESSES : RelV (.int 10) u_MOST_PROCESSES
  u_CELLS : Value
  g_CELLS : mg "CELLS" = some u_CELLS
  r_CELLS : RelV (.int 4) u_CELLS
  u_MOST_VALUE : Value
  g_MOST_VALUE : mg "MOST_VALUE" = some u_MOST_VALUE
  r_MOST_VALUE : RelV (.int (1000000)) u_MOST_VALUE
  u_MOST_NESTING : Value
  g_MOST_NESTING : mg "MOST_NESTING" = some u_MOST_NESTING
  r_MOST_NESTING : RelV (.int 6) u_MOST_NESTING
  a_SHAPES : Addr
  g_SHAPES : mg "SHAPES" = some (.ref a_SHAPES)
  r_SHAPES : RelV (.ref a_SHAPES) (.ref a_SHAPES)
  kd_SHAPES : CDict K w a_SHAPES c_SHAPES
  n_isinstance : mg "isinstance" = none
  n_int : mg "int" = none
  n_bool : mg "bool" = none
  n_tuple : mg "tuple" = none
  n_str : mg "str" = none
  n_len : mg "len" = none
  n_zip : mg "zip" = none
  n_range : mg "range" = none
  n_max : mg "max" = none
  n_min : mg "min" = none
section
variable {P : Program} {w : World} {K : PySem.W.Frag} {mg : Str → Option Value} {base : Heap}

/-! ### drawing -/
def spBag (K : PySem.W.Frag) : Sp := fun vs H Q _ => ∃ (a : Addr) (ns : List Int) (k : Int), vs = [.ref a, .int k] ∧ SqL K H a (ns.map V.int) ∧ 0 ≤ k ∧ ∀ (p : Addr) (x y : Int), H p = none → Q (.ref p) (upd H p (.lst [.int x, .int y, .int k]))
theorem ok__law_bag (T : Txt w K mg) : FnOk P w K mg base CX0 1 T.a__law_bag T.fd__law_bag ["_law_script", "_law_k"] (spBag K) := by
  refine T.F__law_bag.ok sc__law_bag (fun vs H Q E h => ?_) (fun cdv A outer s H vs Q E hr h => ?_)
  · obtain ⟨a, ns, k, rfl, _⟩ := h
    rfl
  · obtain ⟨a, ns, k, rfl, hS, h0, kq⟩ := h
    refine ⟨_, PSs.nox (pss_cons (ps_set (i := 2) sc__law_bag.nd rfl (Or.inl rfl) pe_int)
      (pss_cons (ps_if (pt_cmpR op_lt (pv 1) (pe_callB call_len_seq (by rfl) T.n_len PySem.boot_len (pa_cons (pv 0) pa_nil)) (nomark _)) (pss_one (ps_set (i := 2) sc__law_bag.nd rfl (Or.inl rfl) (pe_callTy call_int1 (by rfl) T.n_int (by decide +kernel) (pa_cons (pe_ix ix_list (pv 0) (pv 1) (fun _ _ => rfl)) pa_nil)))) pss_nil)
      (pss_cons (ps_if (pt_cmpR op_ge (pv 2) (pe_op op_pow pe_int pe_int) (nomark _)) (pss_one (ps_ret (pe_lst (pa_cons (pv 2) (pa_cons (pv 2) (pa_cons (pv 1) pa_nil)))))) pss_nil)
      (pss_one (ps_ret (pe_lst (pa_cons pe_int (pa_cons (pv 2) (pa_cons (pv 1) pa_nil))))))))), ?_⟩
    have fin : ∀ (c : Int), (tSeq (tIfS (tTest (tOp (rI0 fun i j => .bl (decide (j ≤ i))) (tVar 2) (tOp (rI CPow fun i j => .int (i ^ j.toNat)) (tC (.int 10)) (tC (.int 18)))))
        (tRet (tLst (tCons (tVar 2) (tCons (tVar 2) (tCons (tVar 1) tNil))))) tNext) (tRet (tLst (tCons (tC (.int 0)) (tCons (tVar 2) (tCons (tVar 1) tNil)))))) { nx := fun _ H' => Q .non H', rt := Q } [some (.ref a), some (.int k), some (.int c)] H := by
      intro c
      refine ⟨_, rfl, _, _, rfl, rfl, ⟨by decide, by decide, by decide⟩, _, _, rfl, rfl, _, rfl, ?_⟩
      refine iteD (fun _ => ?_) (fun _ => ?_)
      · exact ⟨_, rfl, _, rfl, _, rfl, by show 3 ≤ sizeLine; decide, fun p hp => kq p _ _ hp⟩
      · exact ⟨_, rfl, _, rfl, by show 3 ≤ sizeLine; decide, fun p hp => kq p _ _ hp⟩
    refine ⟨_, rfl, _, rfl, a, _, rfl, .inl hS, _, _, rfl, rfl, _, rfl, ?_⟩
    refine iteD (fun c => ?_) (fun c => fin 0)
    rw [List.length_map] at c
    obtain ⟨j, rfl⟩ := Int.eq_ofNat_of_zero_le h0
    have hj : j < ns.length := by omega
    refine ⟨_, rfl, _, rfl, a, _, _, .int ns[j], rfl, rfl, hS, atI_nat (by rw [List.getElem?_map, List.getElem?_eq_getElem hj]; rfl), .inl ⟨_, rfl, ?_⟩⟩
    exact fin _
def spDraw : Sp := fun vs H Q _ => ∃ (p : Addr) (m : Int), vs = [.ref p, .int m] ∧ Bag H p ∧ 0 < m ∧ m.natAbs.log2 < 9000 ∧ ∀ (H' : Hp) (r : Int), 0 ≤ r → r < m → Stp p H H' → Q (.int r) H'
theorem ok__law_draw (T : Txt w K mg) : FnOk P w K mg base CX0 1 T.a__law_draw T.fd__law_draw ["_law_bag_here", "_law_many"] spDraw := by
  refine T.F__law_draw.ok sc__law_draw (fun vs H Q E h => ?_) (fun cdv A outer s H vs Q E hr h => ?_)
  · obtain ⟨p, m, rfl, _⟩ := h
    rfl
  · obtain ⟨p, m, rfl, ⟨x, y, k, hp⟩, h0, h1, kq0⟩ := h
    have kq : ∀ (x' y' r : Int), 0 ≤ r → r < m → Q (.int r) (upd H p (.lst [.int x', .int y', .int k])) := fun x' y' r r0 r1 => kq0 _ r r0 r1 ⟨(Kp.refl _ _).put (by simp), _, _, _, upd_same⟩
    clear kq0
    refine ⟨_, PSs.nox (pss_cons (ps_if (pt_cmpR op_eq (pe_ix ix_list (pv 0) pe_int (fun _ _ => rfl)) pe_int (nomark _)) (pss_cons (ps_set (i := 2) sc__law_draw.nd rfl (Or.inl rfl) (pe_op op_mod (pe_callTy call_int1 (by rfl) T.n_int (by decide +kernel) (pa_cons (pe_op op_add (pe_op op_add (pe_op op_mul (pe_ix ix_list (pv 0) pe_int (fun _ _ => rfl)) pe_int) (pe_op op_mul (pe_ix ix_list (pv 0) pe_int (fun _ _ => rfl)) pe_int)) pe_int) pa_nil)) pe_int))
      (pss_cons (ps_asg (pe_op op_add (pe_op op_mul (pv 2) pe_int) (pe_op op_mod (pe_callTy call_int1 (by rfl) T.n_int (by decide +kernel) (pa_cons (pe_op op_add (pe_op op_mul (pv 2) (pv 2)) (pe_op op_mul (pe_ix ix_list (pv 0) pe_int (fun _ _ => rfl)) pe_int)) pa_nil)) pe_int)) (pg_sub (pv 0) pe_int set_list))
      (pss_one (ps_asg (pv 2) (pg_sub (pv 0) pe_int set_list))))) pss_nil)
      (pss_cons (ps_set (i := 3) sc__law_draw.nd rfl (Or.inl rfl) (pe_ix ix_list (pv 0) pe_int (fun _ _ => rfl)))
      (pss_cons (ps_asg (pe_op op_fdivW (pv 3) (pv 1)) (pg_sub (pv 0) pe_int set_list))
      (pss_one (ps_ret (pe_op op_mod (pe_callTy call_int1 (by rfl) T.n_int (by decide +kernel) (pa_cons (pv 3) pa_nil)) (pv 1))))))), ?_⟩
    have i0 : ∀ (a b c : V), atI [a, b, c] 0 = some a := fun _ _ _ => rfl
    have i1 : ∀ (a b c : V), atI [a, b, c] 1 = some b := fun _ _ _ => rfl
    have i2 : ∀ (a b c : V), atI [a, b, c] 2 = some c := fun _ _ _ => rfl
    refine ⟨_, rfl, p, _, _, _, rfl, rfl, SqL.of hp, i0 _ _ _, rfl, _, rfl, ?_⟩
    refine iteD (fun c => ?_) (fun c => ?_)
    · have hs : (0 : Int) ≤ (y * 48271 + k * 69621 + 11) % 2147483647 := Int.emod_nonneg _ (by decide)
      have hs2 : (y * 48271 + k * 69621 + 11) % 2147483647 < 2147483647 := Int.emod_lt_of_pos _ (by decide)
      refine ⟨_, rfl, p, _, _, _, rfl, rfl, SqL.of hp, i1 _ _ _, _, _, rfl, rfl, .inr ⟨by decide, by decide⟩, _, rfl, p, _, _, _, rfl, rfl, SqL.of hp, i2 _ _ _, _, _, rfl, rfl, .inr ⟨by decide, by decide⟩, _, _, rfl, rfl, _, _, rfl, rfl, .inl ⟨_, rfl, _, _, rfl, rfl, by show (0 : Int) < 2147483647; decide, ?_⟩⟩
      refine ⟨_, rfl, _, _, rfl, rfl, .inl ⟨by omega, by omega⟩, _, rfl, _, rfl, _, _, rfl, rfl, .inl ⟨by omega, by omega⟩, _, rfl, p, _, _, _, rfl, rfl, SqL.of hp, i2 _ _ _, _, _, rfl, rfl, .inr ⟨by decide, by decide⟩, _, _, rfl, rfl, .inl ⟨_, rfl, _, _, rfl, rfl, by show (0 : Int) < 2147483629; decide, _, _, rfl, rfl, _, rfl, p, _, _, 0, rfl, rfl, hp, rfl, ?_⟩⟩
      refine ⟨_, rfl, _, rfl, p, _, _, 1, rfl, rfl, upd_same, rfl, ?_⟩
      rw [upd_upd]
      refine ⟨_, rfl, p, _, _, _, rfl, rfl, SqL.of upd_same, i0 _ _ _, ?_⟩
      refine ⟨_, rfl, _, rfl, _, _, rfl, rfl, ⟨h0, h1⟩, _, rfl, p, _, _, 0, rfl, rfl, upd_same, rfl, ?_⟩
      rw [upd_upd]
      refine ⟨_, rfl, .inl ⟨_, rfl, _, rfl, _, _, rfl, rfl, h0, ?_⟩⟩
      exact kq _ _ _ (Int.emod_nonneg _ (by omega)) (Int.emod_lt_of_pos _ h0)
    · refine ⟨_, rfl, p, _, _, _, rfl, rfl, SqL.of hp, i0 _ _ _, ?_⟩
      refine ⟨_, rfl, _, rfl, _, _, rfl, rfl, ⟨h0, h1⟩, _, rfl, p, _, _, 0, rfl, rfl, hp, rfl, ?_⟩
      refine ⟨_, rfl, .inl ⟨_, rfl, _, rfl, _, _, rfl, rfl, h0, ?_⟩⟩
      exact kq _ _ _ (Int.emod_nonneg _ (by omega)) (Int.emod_lt_of_pos _ h0)

def spIsInteger (K : PySem.W.Frag) : Sp := fun vs H Q _ => ∃ (v : V) (d : PyData) (lo hi : Int), vs = [v, .int lo, .int hi] ∧ Dp K H v d ∧ Q (.bl (intIn d lo hi)) H
theorem ok_is_integer (T : Txt w K mg) : FnOk P w K mg base CX0 1 T.a_is_integer T.fd_is_integer ["value", "least", "greatest"] (spIsInteger K) := by
  refine T.F_is_integer.ok sc_is_integer (fun vs H Q E h => ?_) (fun cdv A outer s H vs Q E hr h => ?_)
  · obtain ⟨v, d, lo, hi, rfl, _⟩ := h
    rfl
  · obtain ⟨v, d, lo, hi, rfl, hd, k⟩ := h
    refine ⟨_, PSs.nox (pss_cons (ps_if (PW.pt (pw_or (pt_not (pt_val (pe_callB call_isi (by rfl) T.n_isinstance (by decide +kernel) (pa_cons (pv 0) (pa_cons (pe_bltn (v := .ty "int") (u := .type "int") rfl T.n_int (by decide +kernel) rfl) pa_nil))))) (pw_or1 (pt_val (pe_callB call_isi (by rfl) T.n_isinstance (by decide +kernel) (pa_cons (pv 0) (pa_cons (pe_bltn (v := .ty "bool") (u := .type "bool") rfl T.n_bool (by decide +kernel) rfl) pa_nil))))))) (pss_one (ps_ret pe_bl)) pss_nil)
      (pss_one (ps_ret (pe_and (pe_cmpR op_le (pv 1) (pv 0) (nomark _)) (pe_one (pe_cmpR op_le (pv 0) (pv 2) (nomark _))))))), ?_⟩
    refine ⟨_, rfl, _, _, _, _, _, rfl, .ty _, ty_of hd, kit_ty (kit_int d), _, rfl, ?_⟩
    cases d with
    | int i =>
      cases hd
      refine ⟨_, rfl, _, _, _, _, _, rfl, .ty _, .base (.int i), kit_ty (kit_bol (.int i)), _, rfl, ?_⟩
      refine ⟨_, rfl, _, rfl, _, _, rfl, rfl, _, rfl, ?_⟩
      refine iteD (fun c => ?_) (fun c => ?_)
      · refine ⟨_, rfl, _, rfl, _, _, rfl, rfl, ?_⟩
        simpa [intIn, c] using k
      · simpa [intIn, c] using k
    | bool b =>
      cases hd
      exact ⟨_, rfl, _, _, _, _, _, rfl, .ty _, .base (.bl b), kit_ty (kit_bol (.bool b)), _, rfl, k⟩
    | _ => exact k

def isProc (c d : PyData) : Bool := match c with
  | .int n => decide (1 ≤ n) && decide (n ≤ 10) && intIn d 0 (n - 1)
  | _ => false
def spIsProcess (K : PySem.W.Frag) : Sp := fun vs H Q _ => ∃ (u v : V) (c d : PyData), vs = [u, v] ∧ Dp K H u c ∧ Dp K H v d ∧ Q (.bl (isProc c d)) H
theorem ok_is_process (T : Txt w K mg) : FnOk P w K mg base CX0 2 T.a_is_process T.fd_is_process ["count", "value"] (spIsProcess K) := by
  refine T.F_is_process.ok sc_is_process (fun vs H Q E h => ?_) (fun cdv A outer s H vs Q E hr h => ?_)
  · obtain ⟨u, v, c, d, rfl, _⟩ := h
    rfl
  · obtain ⟨u, v, c, d, rfl, hc, hd, k⟩ := h
    refine ⟨_, PSs.nox (pss_one (ps_ret (pe_and (pe_call (ok_is_integer T) (hr.mono (by decide)) rfl T.g_is_integer T.F_is_integer.kp T.b_is_integer .nil pass0 (pa_cons (pv 0) (pa_cons pe_int (pa_cons (pe_glob rfl T.g_MOST_PROCESSES T.r_MOST_PROCESSES) pa_nil)))) (pe_one (pe_call (ok_is_integer T) (hr.mono (by decide)) rfl T.g_is_integer T.F_is_integer.kp T.b_is_integer .nil pass0 (pa_cons (pv 1) (pa_cons pe_int (pa_cons (pe_op op_sub (pv 0) pe_int) pa_nil)))))))), ?_⟩
    refine ⟨_, rfl, _, c, 1, 10, rfl, hc, _, rfl, ?_⟩
    cases c with
    | int n =>
      cases hc
      refine iteB (fun e => ?_) (fun e => ?_)
      · refine ⟨_, rfl, _, rfl, _, _, rfl, rfl, _, d, 0, n - 1, rfl, hd, ?_⟩
        have e' : (decide (1 ≤ n) && decide (n ≤ 10)) = true := e
        simpa [isProc, e'] using k
      · have e' : (decide (1 ≤ n) && decide (n ≤ 10)) = false := e
        simpa [isProc, e'] using k
    | _ => exact k

/-! ### payloads -/
def itemIn (c : PyData) (nest : PyData → Bool) (p d : PyData) : Bool := match p with
  | .str s => if s = "cell" then intIn d 0 3 else if s = "value" then intIn d (-1000000) 1000000 else if s = "process" then isProc c d else nest d
  | _ => false
theorem item_str {c : PyData} {nest : PyData → Bool} {s : Str} {d : PyData} : itemIn c nest (.str s) d = if s = "cell" then intIn d 0 3 else if s = "value" then intIn d (-1000000) 1000000 else if s = "process" then isProc c d else nest d := rfl
def allIn (f : PyData → PyData → Bool) : List PyData → List PyData → Bool
  | p :: ps, d :: ds => f p d && allIn f ps ds
  | _, _ => true
theorem allIn_step {f : PyData → PyData → Bool} {p q : PyData} : ∀ {ps es : List PyData} {i : Nat}, ps[i]? = some p → es[i]? = some q → allIn f (ps.take i) (es.take i) = true → allIn f (ps.take (i + 1)) (es.take (i + 1)) = f p q
  | [], _, _, h, _, _ => by simp at h
  | _ :: _, [], _, _, h, _ => by simp at h
  | a :: ps, b :: es, 0, h1, h2, _ => by
    have e1 : a = p := by simpa using h1
    have e2 : b = q := by simpa using h2
    subst e1 e2
    show (f a b && true) = f a b
    simp
  | a :: ps, b :: es, i + 1, h1, h2, h3 => by
    have h3' : (f a b && allIn f (ps.take i) (es.take i)) = true := h3
    rw [Bool.and_eq_true] at h3'
    show (f a b && allIn f (ps.take (i + 1)) (es.take (i + 1))) = f p q
    rw [h3'.1, Bool.true_and]
    exact allIn_step (by simpa using h1) (by simpa using h2) h3'.2
theorem allIn_no {f : PyData → PyData → Bool} {p q : PyData} : ∀ {ps es : List PyData} {i : Nat}, ps[i]? = some p → es[i]? = some q → f p q = false → allIn f ps es = false
  | [], _, _, h, _, _ => by simp at h
  | _ :: _, [], _, _, h, _ => by simp at h
  | a :: ps, b :: es, 0, h1, h2, h3 => by
    have e1 : a = p := by simpa using h1
    have e2 : b = q := by simpa using h2
    subst e1 e2
    show (f a b && _) = false
    rw [h3, Bool.false_and]
  | a :: ps, b :: es, i + 1, h1, h2, h3 => by
    show (f a b && allIn f ps es) = false
    rw [allIn_no (by simpa using h1) (by simpa using h2) h3, Bool.and_false]
def payIn (c : PyData) : Nat → PyData → Bool
  | 0, _ => false
  | n + 1, d => match d with
    | .tuple (.str k :: ds) => (match c_SHAPES.lookup k with
      | some (.tuple ps) => decide (ds.length = ps.length) && allIn (itemIn c (payIn c n)) ps ds
      | _ => false)
    | _ => false
def isPay (c d : PyData) : Bool := intIn c 1 10 && payIn c 6 d
def spItem (K : PySem.W.Frag) : Nat → Sp
  | 0 => fun _ _ _ _ => False
  | n + 1 => fun vs H Q _ => ∃ (u v : V) (c d : PyData) (s : Str) (dep : Int), vs = [u, .str s, v, .int dep] ∧ dep + ((n + 1 : Nat) : Int) = 7 ∧ Dp K H u c ∧ Dp K H v d ∧ Sh 60 d ∧ ∀ H', Kp [] H H' → Q (.bl (itemIn c (payIn c n) (.str s) d)) H'
def spNested (K : PySem.W.Frag) (n : Nat) : Sp := fun vs H Q _ => ∃ (u v : V) (c d : PyData) (dep : Int), vs = [u, v, .int dep] ∧ dep + (n : Int) = 7 ∧ Dp K H u c ∧ Dp K H v d ∧ Sh 60 d ∧ ∀ H', Kp [] H H' → Q (.bl (payIn c n d)) H'
theorem item_of (T : Txt w K mg) (n : Nat) (ih : FnOk P w K mg base CX0 (2 * n + 3) T.a__is_nested T.fd__is_nested ["count", "value", "depth"] (spNested K n)) :
    FnOk P w K mg base CX0 (2 * n + 4) T.a__is_item T.fd__is_item ["count", "part", "value", "depth"] (spItem K (n + 1)) := by
  refine T.F__is_item.ok sc__is_item (fun vs H Q E h => ?_) (fun cdv A outer s H vs Q E hr h => ?_)
  · obtain ⟨u, v, c, d, s, dep, rfl, _⟩ := h
    rfl
  · obtain ⟨u, v, c, d, s, dep, rfl, hdep, hc, hd, sd, k⟩ := h
    refine ⟨_, PSs.nox (pss_cons (ps_if (pt_cmpR op_eq (pv 1) pe_str (nomark _)) (pss_one (ps_ret (pe_call (ok_is_integer T) (hr.mono (by omega)) rfl T.g_is_integer T.F_is_integer.kp T.b_is_integer .nil pass0 (pa_cons (pv 2) (pa_cons pe_int (pa_cons (pe_op op_sub (pe_glob rfl T.g_CELLS T.r_CELLS) pe_int) pa_nil)))))) pss_nil)
      (pss_cons (ps_if (pt_cmpR op_eq (pv 1) pe_str (nomark _)) (pss_one (ps_ret (pe_call (ok_is_integer T) (hr.mono (by omega)) rfl T.g_is_integer T.F_is_integer.kp T.b_is_integer .nil pass0 (pa_cons (pv 2) (pa_cons (pe_un un_neg (pe_glob rfl T.g_MOST_VALUE T.r_MOST_VALUE)) (pa_cons (pe_glob rfl T.g_MOST_VALUE T.r_MOST_VALUE) pa_nil)))))) pss_nil)
      (pss_cons (ps_if (pt_cmpR op_eq (pv 1) pe_str (nomark _)) (pss_one (ps_ret (pe_call (ok_is_process T) (hr.mono (by omega)) rfl T.g_is_process T.F_is_process.kp T.b_is_process .nil pass0 (pa_cons (pv 0) (pa_cons (pv 2) pa_nil))))) pss_nil)
      (pss_one (ps_ret (pe_call ih (hr.mono (by omega)) rfl T.g__is_nested T.F__is_nested.kp T.b__is_nested .nil pass0 (pa_cons (pv 0) (pa_cons (pv 2) (pa_cons (pe_op op_add (pv 3) pe_int) pa_nil))))))))), ?_⟩
    refine ⟨_, rfl, rfl, _, rfl, iteD (fun e => ?_) (fun e => ?_)⟩
    · have e' := vstr e
      refine ⟨_, rfl, _, _, rfl, rfl, v, d, 0, 4 - 1, rfl, hd, ?_⟩
      have := k H (Kp.refl _ _)
      rw [item_str, if_pos e'] at this
      exact this
    have e1 := vstr_ne e
    refine ⟨_, rfl, rfl, _, rfl, iteD (fun e => ?_) (fun e => ?_)⟩
    · have e' := vstr e
      refine ⟨_, rfl, _, rfl, v, d, -1000000, 1000000, rfl, hd, ?_⟩
      have := k H (Kp.refl _ _)
      rw [item_str, if_neg e1, if_pos e'] at this
      exact this
    have e2 := vstr_ne e
    refine ⟨_, rfl, rfl, _, rfl, iteD (fun e => ?_) (fun e => ?_)⟩
    · have e' := vstr e
      refine ⟨_, rfl, _, rfl, u, v, c, d, rfl, hc, hd, ?_⟩
      have := k H (Kp.refl _ _)
      rw [item_str, if_neg e1, if_neg e2, if_pos e'] at this
      exact this
    have e3 := vstr_ne e
    refine ⟨_, rfl, _, rfl, _, rfl, _, _, rfl, rfl, u, v, c, d, dep + 1, rfl, by omega, hc, hd, sd, fun H' k' => ?_⟩
    have := k H' k'
    rw [item_str, if_neg e1, if_neg e2, if_neg e3] at this
    exact this
theorem item0 (T : Txt w K mg) (l : Nat) : FnOk P w K mg base CX0 (l + 1) T.a__is_item T.fd__is_item ["count", "part", "value", "depth"] (spItem K 0) :=
  T.F__is_item.ok sc__is_item (fun vs H Q E (h : False) => h.elim) (fun cdv A outer s H vs Q E hr (h : False) => h.elim)
theorem shape_ok {k : Str} {c : PyData} (h : c_SHAPES.lookup k = some c) : ∃ ps, c = .tuple ps ∧ ∀ p ∈ ps, ∃ s, p = .str s := by
  have m : (k, c) ∈ c_SHAPES := PySem.mem_of_lookup h
  have a : c_SHAPES.all (fun p => match p.2 with
    | .tuple ps => ps.all strB
    | _ => false) = true := by decide
  have b := List.all_eq_true.mp a _ m
  cases c with
  | tuple ps =>
    refine ⟨ps, rfl, fun p mp => ?_⟩
    have q := List.all_eq_true.mp b p mp
    cases p with
    | str s => exact ⟨s, rfl⟩
    | _ => cases q
  | _ => cases b
theorem nested_of (T : Txt w K mg) (n l : Nat) (ih : FnOk P w K mg base CX0 l T.a__is_item T.fd__is_item ["count", "part", "value", "depth"] (spItem K n)) :
    FnOk P w K mg base CX0 (l + 1) T.a__is_nested T.fd__is_nested ["count", "value", "depth"] (spNested K n) := by
  refine T.F__is_nested.ok sc__is_nested (fun vs H Q E h => ?_) (fun cdv A outer s H vs Q E hr h => ?_)
  · obtain ⟨u, v, c, d, dep, rfl, _⟩ := h
    rfl
  · obtain ⟨u, v, c, d, dep, rfl, hdep, hc, hd, sd, k⟩ := h
    have hu := hu_of hr
    refine ⟨_, PSs.nox (pss_cons (ps_if (PW.pt (pw_or (pt_cmpR op_gt (pv 2) (pe_glob rfl T.g_MOST_NESTING T.r_MOST_NESTING) (nomark _)) (pw_or (pt_not (pt_val (pe_callB call_isi (by rfl) T.n_isinstance (by decide +kernel) (pa_cons (pv 1) (pa_cons (pe_bltn (v := .ty "tuple") (u := .type "tuple") rfl T.n_tuple (by decide +kernel) rfl) pa_nil))))) (pw_or (pt_cmpR (op_eqD hr.units) (pv 1) (PE.lit (K := K) (pe_tup pa_nil) (lit_tup lit_nil (by decide))) (nomark _)) (pw_or1 (pt_not (pt_val (pe_callB call_isi (by rfl) T.n_isinstance (by decide +kernel) (pa_cons (pe_ix ix_data (pv 1) pe_int (fun _ _ => rfl)) (pa_cons (pe_bltn (v := .ty "str") (u := .type "str") rfl T.n_str (by decide +kernel) rfl) pa_nil)))))))))) (pss_one (ps_ret pe_bl)) pss_nil)
      (pss_cons (ps_if (pt_cmpR (op_notInCD T.kd_SHAPES) (pe_ix ix_data (pv 1) pe_int (fun _ _ => rfl)) (pe_glob rfl T.g_SHAPES T.r_SHAPES) rfl) (pss_one (ps_ret pe_bl)) pss_nil)
      (pss_cons (ps_set (i := 3) sc__is_nested.nd rfl (Or.inl rfl) (pe_ix (ix_cdict T.kd_SHAPES) (pe_glob rfl T.g_SHAPES T.r_SHAPES) (pe_ix ix_data (pv 1) pe_int (fun _ _ => rfl)) (fun _ _ => rfl)))
      (pss_cons (ps_if (pt_cmpR op_ne (pe_callB call_lenP (by rfl) T.n_len PySem.boot_len (pa_cons (pv 1) pa_nil)) (pe_op op_add (pe_callB call_lenP (by rfl) T.n_len PySem.boot_len (pa_cons (pv 3) pa_nil)) pe_int) (nomark _)) (pss_one (ps_ret pe_bl)) pss_nil)
      (pss_cons (ps_for PassesOwn.never rfl (RZ.pi_zipA (by rfl) T.n_zip (pa_cons (pv 3) (pa_cons (pe_slice sl_tupD (pv 1) (po_some pe_int) po_none) pa_nil))) (pg_tup rfl (pgs_cons (pg_name (i := 4) sc__is_nested.nd rfl (Or.inl rfl)) (pgs_cons (pg_name (i := 5) sc__is_nested.nd rfl (Or.inl rfl)) pgs_nil)))
        (pss_one (ps_if (pt_not (pt_val (pe_call ih (hr.mono (by omega)) rfl T.g__is_item T.F__is_item.kp T.b__is_item .nil pass0 (pa_cons (pv 0) (pa_cons (pv 4) (pa_cons (pv 5) (pa_cons (pv 2) pa_nil))))))) (pss_one (ps_ret pe_bl)) pss_nil)))
      (pss_one (ps_ret pe_bl))))))), ?_⟩
    refine ⟨_, rfl, _, _, rfl, rfl, _, rfl, ?_⟩
    have no : payIn c n d = false → Q (.bl false) H := fun e => by rw [← e]; exact k H (Kp.refl _ _)
    refine iteD (fun e => iteT ?_) (fun e => ?_)
    · exact no (by rw [show n = 0 by omega]; rfl)
    obtain ⟨m, rfl⟩ : ∃ m, n = m + 1 := ⟨n - 1, by omega⟩
    refine ⟨_, rfl, _, _, _, _, _, rfl, .ty _, ty_of hd, kit_ty (kit_tup d), _, rfl, ?_⟩
    cases d with
    | tuple ds =>
      refine iteF ⟨_, rfl, fun v1 H1 k1 h1 => ⟨.tuple ds, .tuple [], Dp.ex k1 _ _ hd, (h1 [] Al.nil).dp, sd.shaped, (sh_tup (n := 0) all_nil).shaped, _, rfl, ?_⟩⟩
      replace no : payIn c (m + 1) (.tuple ds) = false → Q (.bl false) H1 := fun e => by rw [← e]; exact k H1 k1
      replace k : ∀ H', Kp [] H1 H' → Q (.bl (payIn c (m + 1) (.tuple ds))) H' := fun H' k' => k H' (k1.trans k')
      replace hd := DW.of (Dp.ex k1 _ _ hd)
      replace hc := Dp.ex k1 _ _ hc
      clear h1 k1
      cases ds with
      | nil =>
        rw [show PyData.eqv (.tuple []) (.tuple []) = true by simp [PyData.eqv, PyData.eqvAll]]
        exact iteT (iteT (no rfl))
      | cons x es =>
        rw [show PyData.eqv (.tuple (x :: es)) (.tuple []) = false by simp [PyData.eqv, PyData.eqvAll]]
        refine iteF ⟨_, rfl, [], _, (0 : Nat), x, .inl hd, rfl, rfl, fun v2 h2 => ⟨_, _, _, _, _, rfl, .ty _, ty_of h2.dp, kit_ty (kit_str x), _, rfl, ?_⟩⟩
        cases x with
        | str key =>
          refine iteF ⟨_, rfl, [], _, (0 : Nat), .str key, .inl hd, rfl, rfl, fun v3 h3 => ?_⟩
          cases h3
          refine ⟨key, rfl, rfl, _, rfl, ?_⟩
          cases ek : c_SHAPES.lookup key with
          | none =>
            refine iteT (no ?_)
            show (match c_SHAPES.lookup key with
              | some (.tuple ps) => decide (es.length = ps.length) && allIn (itemIn c (payIn c m)) ps es
              | _ => false) = false
            rw [ek]
          | some sh =>
            obtain ⟨ps, rfl, hps⟩ := shape_ok ek
            have en : payIn c (m + 1) (.tuple (.str key :: es)) = (decide (es.length = ps.length) && allIn (itemIn c (payIn c m)) ps es) := by
              show (match c_SHAPES.lookup key with
                | some (.tuple ps) => decide (es.length = ps.length) && allIn (itemIn c (payIn c m)) ps es
                | _ => false) = _
              rw [ek]
            refine iteF ⟨_, rfl, [], _, (0 : Nat), .str key, .inl hd, rfl, rfl, fun v3 h3 => ?_⟩
            cases h3
            refine ⟨key, _, rfl, rfl, ek, fun vs hs => ?_⟩
            refine ⟨_, rfl, _, [], _, rfl, .inl hd, _, rfl, _, [], _, rfl, .inl (DW.of (hs H1)), _, _, rfl, rfl, rfl, _, rfl, ?_⟩
            refine iteN (fun e => no ?_) (fun e => ?_)
            · rw [en, decide_eq_false, Bool.false_and]
              intro z
              exact e (by rw [List.length_cons, z]; rfl)
            have el : es.length = ps.length := by
              have := vint e
              rw [List.length_cons] at this
              omega
            rw [en, decide_eq_true el, Bool.true_and] at k
            refine ⟨_, rfl, _, rfl, _, rfl, [], _, Al.nil, hd, fun v4 H2 k2 h4 => ?_⟩
            rw [cut_tail] at h4
            obtain ⟨a, xs, rfl, ha, hxs⟩ := (DW.of (hs H2)).tupOf
            obtain ⟨b, ys, rfl, hb, hys⟩ := h4.tupOf
            replace hxs := hxs.dp
            replace hys := hys.dp
            replace hc := Dp.ex k2 _ _ hc
            replace k : ∀ H', Kp [] H2 H' → Q (.bl (allIn (itemIn c (payIn c m)) ps es)) H' := fun H' k' => k H' (k2.trans k')
            clear hs h4 h2 hd no k2 en e
            refine ⟨a, b, xs, ys, rfl, .inr ⟨ha, hb, ?_⟩⟩
            refine RZ.for_zipT (xs := xs) (ys := ys) (by have := hxs.len; have := hys.len; omega) (fun i σ H' => (∃ v4 v5, σ = [some u, some v, some (.int dep), some (.ref a), v4, v5]) ∧ Kp [] H2 H' ∧ allIn (itemIn c (payIn c m)) (ps.take i) (es.take i) = true) ⟨⟨_, _, rfl⟩, Kp.refl _ _, rfl⟩ ?_ ?_ ?_
            · rintro i σ H' ⟨_, k', _⟩
              exact ⟨k'.kt _ _ ha, k'.kt _ _ hb⟩
            · rintro i x y t σ H' hx hy ⟨⟨v4, v5, rfl⟩, k', hi⟩ nt
              obtain ⟨p, p1, p2⟩ := DpAll.get hxs hx
              obtain ⟨q, q1, q2⟩ := DpAll.get hys hy
              obtain ⟨ss, rfl⟩ := hps p (List.mem_of_getElem? p1)
              cases p2
              have kt := k'.trans ((Kp.refl [] H').new (o := .tup [.str ss, y]) nt)
              refine ⟨t, _, rfl, SqT.of upd_same, rfl, _, _, rfl, _, _, rfl, rfl, ?_⟩
              generalize upd H' t (.tup [.str ss, y]) = H'' at *
              refine ⟨_, rfl, _, rfl, _, rfl, _, rfl, u, y, c, q, ss, dep, rfl, hdep, Dp.ex kt _ _ hc, Dp.ex kt _ _ q2, sh_part0 sd _ (List.mem_cons_of_mem _ (List.mem_of_getElem? q1)), fun H3 k3 => ⟨_, rfl, ?_⟩⟩
              refine iteNB (fun e => ?_) (fun e => ?_)
              · have := k H3 (kt.trans k3)
                rw [allIn_no p1 q1 e] at this
                exact this
              · refine ⟨⟨_, _, rfl⟩, kt.trans k3, ?_⟩
                rw [allIn_step p1 q1 hi]
                exact e
            · rintro σ H' ⟨_, k', hi⟩
              rw [hxs.len, List.take_length, ← el, List.take_length] at hi
              have := k H' k'
              rw [hi] at this
              exact this
        | _ => exact iteT (no rfl)
    | _ => exact iteT (no rfl)
theorem ok__is_nested (T : Txt w K mg) : ∀ n, FnOk P w K mg base CX0 (2 * n + 3) T.a__is_nested T.fd__is_nested ["count", "value", "depth"] (spNested K n)
  | 0 => nested_of T 0 2 (item0 T 1)
  | n + 1 => nested_of T (n + 1) (2 * n + 4) (item_of T n (ok__is_nested T n))
def spPayload (K : PySem.W.Frag) : Sp := fun vs H Q _ => ∃ (u v : V) (c d : PyData), vs = [u, v] ∧ Dp K H u c ∧ Dp K H v d ∧ Sh 60 d ∧ ∀ H', Kp [] H H' → Q (.bl (isPay c d)) H'
theorem ok_is_payload (T : Txt w K mg) : FnOk P w K mg base CX0 16 T.a_is_payload T.fd_is_payload ["count", "value"] (spPayload K) := by
  refine T.F_is_payload.ok sc_is_payload (fun vs H Q E h => ?_) (fun cdv A outer s H vs Q E hr h => ?_)
  · obtain ⟨u, v, c, d, rfl, _⟩ := h
    rfl
  · obtain ⟨u, v, c, d, rfl, hc, hd, sd, k⟩ := h
    refine ⟨_, PSs.nox (pss_one (ps_ret (pe_and (pe_call (ok_is_integer T) (hr.mono (by decide)) rfl T.g_is_integer T.F_is_integer.kp T.b_is_integer .nil pass0 (pa_cons (pv 0) (pa_cons pe_int (pa_cons (pe_glob rfl T.g_MOST_PROCESSES T.r_MOST_PROCESSES) pa_nil)))) (pe_one (pe_call (ok__is_nested T 6) (hr.mono (by decide)) rfl T.g__is_nested T.F__is_nested.kp T.b__is_nested .nil pass0 (pa_cons (pv 0) (pa_cons (pv 1) (pa_cons pe_int pa_nil)))))))), ?_⟩
    refine ⟨_, rfl, u, c, 1, 10, rfl, hc, _, rfl, ?_⟩
    refine iteB (fun e => ?_) (fun e => ?_)
    · refine ⟨_, rfl, _, rfl, u, v, c, d, 1, rfl, by decide, hc, hd, sd, fun H' k' => ?_⟩
      have := k H' k'
      rw [isPay, e, Bool.true_and] at this
      exact this
    · have := k H (Kp.refl _ _)
      rw [isPay, e, Bool.false_and] at this
      exact this

def spLawInt (K : PySem.W.Frag) : Sp := fun vs H Q _ => ∃ (v : V) (d : PyData) (lo hi : Int), vs = [v, .int lo, .int hi] ∧ Dp K H v d ∧ Q (.bl (intIn d lo hi)) H
theorem ok__law_is_int (T : Txt w K mg) : FnOk P w K mg base CX0 1 T.a__law_is_int T.fd__law_is_int ["_law_value_here", "_law_least", "_law_most"] (spLawInt K) := by
  refine T.F__law_is_int.ok sc__law_is_int (fun vs H Q E h => ?_) (fun cdv A outer s H vs Q E hr h => ?_)
  · obtain ⟨v, d, lo, hi, rfl, _⟩ := h
    rfl
  · obtain ⟨v, d, lo, hi, rfl, hd, k⟩ := h
    refine ⟨_, PSs.nox (pss_one (ps_ret (pe_and (pe_callB call_isi (by rfl) T.n_isinstance (by decide +kernel) (pa_cons (pv 0) (pa_cons (pe_bltn (v := .ty "int") (u := .type "int") rfl T.n_int (by decide +kernel) rfl) pa_nil))) (pe_and (pe_not (pe_callB call_isi (by rfl) T.n_isinstance (by decide +kernel) (pa_cons (pv 0) (pa_cons (pe_bltn (v := .ty "bool") (u := .type "bool") rfl T.n_bool (by decide +kernel) rfl) pa_nil)))) (pe_and (pe_cmpR op_le (pv 1) (pv 0) (nomark _)) (pe_one (pe_cmpR op_le (pv 0) (pv 2) (nomark _)))))))), ?_⟩
    refine ⟨_, rfl, _, _, _, _, _, rfl, .ty _, ty_of hd, kit_ty (kit_int d), _, rfl, ?_⟩
    cases d with
    | int i =>
      cases hd
      refine ⟨_, rfl, _, _, _, _, _, rfl, .ty _, .base (.int i), kit_ty (kit_bol (.int i)), _, rfl, _, rfl, ?_⟩
      refine ⟨_, rfl, _, rfl, _, _, rfl, rfl, _, rfl, ?_⟩
      refine iteD (fun c => ?_) (fun c => ?_)
      · refine ⟨_, rfl, _, rfl, _, _, rfl, rfl, ?_⟩
        simpa [intIn, c] using k
      · simpa [intIn, c] using k
    | bool b =>
      cases hd
      exact ⟨_, rfl, _, _, _, _, _, rfl, .ty _, .base (.bl b), kit_ty (kit_bol (.bool b)), _, rfl, _, rfl, k⟩
    | _ => exact k

def lawRows : List (Str × Str) := [("set", "cv"), ("add", "cv"), ("copy", "cc"), ("send", "sp"), ("show", "c"), ("both", "pp"), ("if", "cpp")]
def shapeS (k : Str) : Str := (lawRows.lookup k).getD ""
def spShape : Sp := fun vs H Q _ => ∃ k : Str, vs = [.str k] ∧ ∀ H', Kp [] H H' → Q (.str (shapeS k)) H'
theorem look_app {α : Type} {k : Str} {p : Str × α} : ∀ {l : List (Str × α)} {r : List (Str × α)}, l.lookup k = none → (l ++ p :: r).lookup k = if k = p.1 then some p.2 else r.lookup k
  | [], r, _ => by
    by_cases h : k = p.1
    · rw [if_pos h]
      simp [List.lookup, h]
    · rw [if_neg h]
      have e : (k == p.1) = false := by simpa using h
      simp [List.lookup, e]
  | q :: l, r, h => by
    obtain ⟨a, b⟩ := q
    cases e : (k == a) with
    | true => simp [List.lookup, e] at h
    | false =>
      have h' : l.lookup k = none := by simpa [List.lookup, e] using h
      have := look_app (p := p) (r := r) h'
      simpa [List.lookup, e] using this
theorem ok__law_shape (T : Txt w K mg) : FnOk P w K mg base CX0 1 T.a__law_shape T.fd__law_shape ["_law_kind"] spShape := by
  refine T.F__law_shape.ok sc__law_shape (fun vs H Q E h => ?_) (fun cdv A outer s H vs Q E hr h => ?_)
  · obtain ⟨k, rfl, _⟩ := h
    rfl
  · obtain ⟨k, rfl, q⟩ := h
    refine ⟨_, PSs.nox (pss_cons (ps_set (i := 1) sc__law_shape.nd rfl (Or.inl rfl) (PE.litL (K := K) (pe_lst (pa_cons (pe_tup (pa_cons pe_str (pa_cons pe_str pa_nil))) (pa_cons (pe_tup (pa_cons pe_str (pa_cons pe_str pa_nil))) (pa_cons (pe_tup (pa_cons pe_str (pa_cons pe_str pa_nil))) (pa_cons (pe_tup (pa_cons pe_str (pa_cons pe_str pa_nil))) (pa_cons (pe_tup (pa_cons pe_str (pa_cons pe_str pa_nil))) (pa_cons (pe_tup (pa_cons pe_str (pa_cons pe_str pa_nil))) (pa_cons (pe_tup (pa_cons pe_str (pa_cons pe_str pa_nil))) pa_nil)))))))) (lit_lstL (lit_cons (lit_tup (lit_cons (lit_str _) (lit_cons (lit_str _) lit_nil)) (by decide)) (lit_cons (lit_tup (lit_cons (lit_str _) (lit_cons (lit_str _) lit_nil)) (by decide)) (lit_cons (lit_tup (lit_cons (lit_str _) (lit_cons (lit_str _) lit_nil)) (by decide)) (lit_cons (lit_tup (lit_cons (lit_str _) (lit_cons (lit_str _) lit_nil)) (by decide)) (lit_cons (lit_tup (lit_cons (lit_str _) (lit_cons (lit_str _) lit_nil)) (by decide)) (lit_cons (lit_tup (lit_cons (lit_str _) (lit_cons (lit_str _) lit_nil)) (by decide)) (lit_cons (lit_tup (lit_cons (lit_str _) (lit_cons (lit_str _) lit_nil)) (by decide)) lit_nil))))))) (by decide))))
      (pss_cons (ps_for PassesOwn.never rfl (pi_list (pv 1)) (pg_tup rfl (pgs_cons (pg_name (i := 2) sc__law_shape.nd rfl (Or.inl rfl)) (pgs_cons (pg_name (i := 3) sc__law_shape.nd rfl (Or.inl rfl)) pgs_nil)))
        (pss_one (ps_if (pt_cmpR op_eq (pv 2) (pv 0) (nomark _)) (pss_one (ps_ret (pv 3))) pss_nil)))
      (pss_one (ps_ret pe_str)))), ?_⟩
    refine fun a xs H1 k1 n1 e1 h1 => ?_
    have g1 : DpAll K H1 xs (lawRows.map fun p => .tuple [.str p.1, .str p.2]) := (h1 [] Al.nil).dp
    clear h1
    refine ⟨_, rfl, a, rfl, ⟨xs, SqL.of e1⟩, ?_⟩
    refine for_list (fun i σ H' => H' = H1 ∧ (∃ v2 v3, σ = [some (.str k), some (.ref a), v2, v3]) ∧ (lawRows.take i).lookup k = none) ⟨rfl, ⟨_, _, rfl⟩, rfl⟩ (fun i σ H' _ e => by rw [e.1]; exact SqL.of e1) ?_ ?_
    · rintro i x σ H' hx ⟨rfl, ⟨v2, v3, rfl⟩, hi⟩
      obtain ⟨d, p1, p2⟩ := DpAll.get g1 hx
      rw [List.getElem?_map] at p1
      cases er : lawRows[i]? with
      | none => rw [er] at p1; cases p1
      | some p =>
        rw [er] at p1
        cases p1
        obtain ⟨t, zs, rfl, hz, hzs⟩ := (DW.of p2).tupOf
        replace hzs := hzs.dp
        cases hzs with
        | cons z1 hzs => cases hzs with
          | cons z2 hzs =>
            cases hzs
            cases z1
            cases z2
            have hl : i < lawRows.length := (List.getElem?_eq_some_iff.mp er).1
            have cut : lawRows = lawRows.take i ++ p :: lawRows.drop (i + 1) := by
              have e := (List.getElem?_eq_some_iff.mp er).2
              rw [← e, List.getElem_cons_drop, List.take_append_drop]
            refine ⟨t, _, rfl, hz, rfl, _, _, rfl, _, _, rfl, rfl, ?_⟩
            refine ⟨_, rfl, _, rfl, rfl, _, rfl, iteD (fun e => ?_) (fun e => ?_)⟩
            · have e' := vstr e
              refine ⟨_, rfl, ?_⟩
              have := q H' k1
              rw [show shapeS k = p.2 by
                unfold shapeS
                rw [cut, look_app hi, if_pos e'.symm]
                rfl] at this
              exact this
            · refine ⟨rfl, ⟨_, _, rfl⟩, ?_⟩
              have e' : ¬ k = p.1 := fun z => e (by rw [z])
              rw [List.take_succ, er]
              show ((lawRows.take i) ++ [p]).lookup k = none
              rw [look_app hi, if_neg e']
              rfl
    · rintro σ H' ⟨rfl, _, hi⟩
      have hl : xs.length = lawRows.length := by rw [g1.len, List.length_map]
      rw [hl, List.take_length] at hi
      have := q H' k1
      rw [show shapeS k = "" by unfold shapeS; rw [hi]; rfl] at this
      exact this
/-! ### the law's own reading of payloads -/
def partC : PyData → Option Nat
  | .str s => if s = "cell" then some 99 else if s = "value" then some 118 else if s = "process" then some 115 else some 112
  | _ => none
def lawItem (c : PyData) (nest : PyData → Bool) (f : Str) (d : PyData) : Bool := if f = "c" then intIn d 0 3 else if f = "v" then intIn d (-1000000) 1000000 else if f = "s" then isProc c d else nest d
theorem lawItem_eq {c d : PyData} {nest : PyData → Bool} {p : PyData} {ch : Nat} (h : partC p = some ch) : lawItem c nest ⟨#[ch]⟩ d = itemIn c nest p d := by
  have a1 : (⟨#[99]⟩ : Str) = "c" := by decide +kernel
  have a2 : ¬ (⟨#[118]⟩ : Str) = "c" := by decide +kernel
  have a3 : (⟨#[118]⟩ : Str) = "v" := by decide +kernel
  have a4 : ¬ (⟨#[115]⟩ : Str) = "c" := by decide +kernel
  have a5 : ¬ (⟨#[115]⟩ : Str) = "v" := by decide +kernel
  have a6 : (⟨#[115]⟩ : Str) = "s" := by decide +kernel
  have a7 : ¬ (⟨#[112]⟩ : Str) = "c" := by decide +kernel
  have a8 : ¬ (⟨#[112]⟩ : Str) = "v" := by decide +kernel
  have a9 : ¬ (⟨#[112]⟩ : Str) = "s" := by decide +kernel
  cases p with
  | str s =>
    rw [item_str]
    unfold lawItem
    simp only [partC] at h
    by_cases e1 : s = "cell"
    · rw [if_pos e1] at h ⊢
      cases h
      rw [if_pos a1]
    · rw [if_neg e1] at h ⊢
      by_cases e2 : s = "value"
      · rw [if_pos e2] at h ⊢
        cases h
        rw [if_neg a2, if_pos a3]
      · rw [if_neg e2] at h ⊢
        by_cases e3 : s = "process"
        · rw [if_pos e3] at h ⊢
          cases h
          rw [if_neg a4, if_neg a5, if_pos a6]
        · rw [if_neg e3] at h ⊢
          cases h
          rw [if_neg a7, if_neg a8, if_neg a9]
  | _ => cases h
theorem shapes_no {k : Str} (h : c_SHAPES.lookup k = none) : shapeS k = "" := by
  have e : lawRows.lookup k = none := by
    rw [List.lookup_eq_none_iff] at h ⊢
    intro p m
    have a : lawRows.all (fun p => (c_SHAPES.map (·.1)).contains p.1) = true := by decide +kernel
    have b := List.all_eq_true.mp a p m
    rw [List.contains_iff_mem] at b
    obtain ⟨q, q1, q2⟩ := List.mem_map.mp b
    rw [← q2]
    exact h q q1
  unfold shapeS
  rw [e]
  rfl
theorem shapes_yes {k : Str} {ps : List PyData} (h : c_SHAPES.lookup k = some (.tuple ps)) : ps.map partC = (shapeS k).cps.toList.map some ∧ ps ≠ [] := by
  have m : (k, .tuple ps) ∈ c_SHAPES := PySem.mem_of_lookup h
  have a : c_SHAPES.all (fun p => match p.2 with
    | .tuple ps => decide (ps.map partC = (shapeS p.1).cps.toList.map some) && !ps.isEmpty
    | _ => false) = true := by decide +kernel
  have b : (decide (ps.map partC = (shapeS k).cps.toList.map some) && !ps.isEmpty) = true := List.all_eq_true.mp a _ m
  rw [Bool.and_eq_true, decide_eq_true_eq] at b
  exact ⟨b.1, by simpa using b.2⟩
def spLawItem (K : PySem.W.Frag) : Nat → Sp
  | 0 => fun _ _ _ _ => False
  | n + 1 => fun vs H Q _ => ∃ (v : V) (m : Int) (d : PyData) (f : Str) (dep : Int), vs = [.int m, .str f, v, .int dep] ∧ dep + ((n + 1 : Nat) : Int) = 7 ∧ 1 ≤ m ∧ m ≤ 10 ∧ Dp K H v d ∧ ∀ H', Kp [] H H' → Q (.bl (lawItem (.int m) (payIn (.int m) n) f d)) H'
def spLawPay (K : PySem.W.Frag) (n : Nat) : Sp := fun vs H Q _ => ∃ (u v : V) (c d : PyData) (dep : Int), vs = [u, v, .int dep] ∧ dep + (n : Int) = 7 ∧ Dp K H u c ∧ Dp K H v d ∧ ∀ H', Kp [] H H' → Q (.bl (intIn c 1 10 && payIn c n d)) H'
theorem lawItem0 (T : Txt w K mg) (l : Nat) : FnOk P w K mg base CX0 (l + 1) T.a__law_is_item T.fd__law_is_item ["_law_count", "_law_form", "_law_value_here", "_law_depth"] (spLawItem K 0) :=
  T.F__law_is_item.ok sc__law_is_item (fun vs H Q E (h : False) => h.elim) (fun cdv A outer s H vs Q E hr (h : False) => h.elim)
theorem lawItem_of (T : Txt w K mg) (n : Nat) (ih : FnOk P w K mg base CX0 (2 * n + 3) T.a__law_is_payload T.fd__law_is_payload ["_law_count", "_law_value_here", "_law_depth"] (spLawPay K n)) :
    FnOk P w K mg base CX0 (2 * n + 4) T.a__law_is_item T.fd__law_is_item ["_law_count", "_law_form", "_law_value_here", "_law_depth"] (spLawItem K (n + 1)) := by
  refine T.F__law_is_item.ok sc__law_is_item (fun vs H Q E h => ?_) (fun cdv A outer s H vs Q E hr h => ?_)
  · obtain ⟨v, m, d, f, dep, rfl, _⟩ := h
    rfl
  · obtain ⟨v, m, d, f, dep, rfl, hdep, m1, m2, hd, k⟩ := h
    refine ⟨_, PSs.nox (pss_cons (ps_if (pt_cmpR op_eq (pv 1) pe_str (nomark _)) (pss_one (ps_ret (pe_call (ok__law_is_int T) (hr.mono (by omega)) rfl T.g__law_is_int T.F__law_is_int.kp T.b__law_is_int .nil pass0 (pa_cons (pv 2) (pa_cons pe_int (pa_cons pe_int pa_nil)))))) pss_nil)
      (pss_cons (ps_if (pt_cmpR op_eq (pv 1) pe_str (nomark _)) (pss_one (ps_ret (pe_call (ok__law_is_int T) (hr.mono (by omega)) rfl T.g__law_is_int T.F__law_is_int.kp T.b__law_is_int .nil pass0 (pa_cons (pv 2) (pa_cons (pe_un un_neg (pe_op op_pow pe_int pe_int)) (pa_cons (pe_op op_pow pe_int pe_int) pa_nil)))))) pss_nil)
      (pss_cons (ps_if (pt_cmpR op_eq (pv 1) pe_str (nomark _)) (pss_one (ps_ret (pe_call (ok__law_is_int T) (hr.mono (by omega)) rfl T.g__law_is_int T.F__law_is_int.kp T.b__law_is_int .nil pass0 (pa_cons (pv 2) (pa_cons pe_int (pa_cons (pe_op op_sub (pv 0) pe_int) pa_nil)))))) pss_nil)
      (pss_one (ps_ret (pe_call ih (hr.mono (by omega)) rfl T.g__law_is_payload T.F__law_is_payload.kp T.b__law_is_payload .nil pass0 (pa_cons (pv 0) (pa_cons (pv 2) (pa_cons (pe_op op_add (pv 3) pe_int) pa_nil))))))))), ?_⟩
    refine ⟨_, rfl, rfl, _, rfl, iteD (fun e => ?_) (fun e => ?_)⟩
    · have e' := vstr e
      refine ⟨_, rfl, v, d, 0, 3, rfl, hd, ?_⟩
      have := k H (Kp.refl _ _)
      rw [lawItem, if_pos e'] at this
      exact this
    have e1 := vstr_ne e
    refine ⟨_, rfl, rfl, _, rfl, iteD (fun e => ?_) (fun e => ?_)⟩
    · have e' := vstr e
      refine ⟨_, rfl, _, _, rfl, rfl, ⟨by decide, by decide, by decide⟩, _, rfl, _, _, rfl, rfl, ⟨by decide, by decide, by decide⟩, v, d, -1000000, 1000000, rfl, hd, ?_⟩
      have := k H (Kp.refl _ _)
      rw [lawItem, if_neg e1, if_pos e'] at this
      exact this
    have e2 := vstr_ne e
    refine ⟨_, rfl, rfl, _, rfl, iteD (fun e => ?_) (fun e => ?_)⟩
    · have e' := vstr e
      refine ⟨_, rfl, _, rfl, _, _, rfl, rfl, v, d, 0, m - 1, rfl, hd, ?_⟩
      have := k H (Kp.refl _ _)
      rw [lawItem, if_neg e1, if_neg e2, if_pos e', show isProc (.int m) d = intIn d 0 (m - 1) by
        show (decide (1 ≤ m) && decide (m ≤ 10) && intIn d 0 (m - 1)) = _
        rw [decide_eq_true m1, decide_eq_true m2]
        rfl] at this
      exact this
    have e3 := vstr_ne e
    refine ⟨_, rfl, _, rfl, _, rfl, _, _, rfl, rfl, .int m, v, .int m, d, dep + 1, rfl, by omega, .int m, hd, fun H' k' => ?_⟩
    have := k H' k'
    rw [lawItem, if_neg e1, if_neg e2, if_neg e3] at this
    rw [show intIn (.int m) 1 10 = true by
      show (decide (1 ≤ m) && decide (m ≤ 10)) = true
      rw [decide_eq_true m1, decide_eq_true m2]
      rfl, Bool.true_and]
    exact this
theorem lawPay_of (T : Txt w K mg) (n l : Nat) (ih : FnOk P w K mg base CX0 (l + 1) T.a__law_is_item T.fd__law_is_item ["_law_count", "_law_form", "_law_value_here", "_law_depth"] (spLawItem K n)) :
    FnOk P w K mg base CX0 (l + 2) T.a__law_is_payload T.fd__law_is_payload ["_law_count", "_law_value_here", "_law_depth"] (spLawPay K n) := by
  refine T.F__law_is_payload.ok sc__law_is_payload (fun vs H Q E h => ?_) (fun cdv A outer s H vs Q E hr h => ?_)
  · obtain ⟨u, v, c, d, dep, rfl, _⟩ := h
    rfl
  · obtain ⟨u, v, c, d, dep, rfl, hdep, hc, hd, k⟩ := h
    refine ⟨_, PSs.nox (pss_cons (ps_if (PW.pt (pw_or (pt_not (pt_val (pe_call (ok__law_is_int T) (hr.mono (by omega)) rfl T.g__law_is_int T.F__law_is_int.kp T.b__law_is_int .nil pass0 (pa_cons (pv 0) (pa_cons pe_int (pa_cons pe_int pa_nil)))))) (pw_or (pt_cmpR op_gt (pv 2) pe_int (nomark _)) (pw_or (pt_not (pt_val (pe_callB call_isi (by rfl) T.n_isinstance (by decide +kernel) (pa_cons (pv 1) (pa_cons (pe_bltn (v := .ty "tuple") (u := .type "tuple") rfl T.n_tuple (by decide +kernel) rfl) pa_nil))))) (pw_or1 (pt_cmpR op_eq (pe_callB call_lenP (by rfl) T.n_len PySem.boot_len (pa_cons (pv 1) pa_nil)) pe_int (nomark _))))))) (pss_one (ps_ret pe_bl)) pss_nil)
      (pss_cons (ps_if (PW.pt (pw_or (pt_not (pt_val (pe_callB call_isi (by rfl) T.n_isinstance (by decide +kernel) (pa_cons (pe_ix ix_data (pv 1) pe_int (fun _ _ => rfl)) (pa_cons (pe_bltn (v := .ty "str") (u := .type "str") rfl T.n_str (by decide +kernel) rfl) pa_nil))))) (pw_or (pt_cmpR op_ne (pe_callB call_lenP (by rfl) T.n_len PySem.boot_len (pa_cons (pv 1) pa_nil)) (pe_op op_add (pe_callB call_len_str (by rfl) T.n_len PySem.boot_len (pa_cons (pe_call (ok__law_shape T) (hr.mono (by omega)) rfl T.g__law_shape T.F__law_shape.kp T.b__law_shape .nil pass0 (pa_cons (pe_ix ix_data (pv 1) pe_int (fun _ _ => rfl)) pa_nil)) pa_nil)) pe_int) (nomark _)) (pw_or1 (pt_cmpR op_eq (pe_call (ok__law_shape T) (hr.mono (by omega)) rfl T.g__law_shape T.F__law_shape.kp T.b__law_shape .nil pass0 (pa_cons (pe_ix ix_data (pv 1) pe_int (fun _ _ => rfl)) pa_nil)) pe_str (nomark _)))))) (pss_one (ps_ret pe_bl)) pss_nil)
      (pss_cons (ps_set (i := 3) sc__law_is_payload.nd rfl (Or.inl rfl) (pe_call (ok__law_shape T) (hr.mono (by omega)) rfl T.g__law_shape T.F__law_shape.kp T.b__law_shape .nil pass0 (pa_cons (pe_ix ix_data (pv 1) pe_int (fun _ _ => rfl)) pa_nil)))
      (pss_cons (ps_for PassesOwn.never rfl (pi_range1 rfl T.n_range (pa_cons (pe_callB call_len_str (by rfl) T.n_len PySem.boot_len (pa_cons (pv 3) pa_nil)) pa_nil)) (pg_name (i := 4) sc__law_is_payload.nd rfl (Or.inl rfl))
        (pss_one (ps_if (pt_not (pt_val (pe_call ih (hr.mono (by omega)) rfl T.g__law_is_item T.F__law_is_item.kp T.b__law_is_item .nil pass0 (pa_cons (pv 0) (pa_cons (pe_ix ix_str (pv 3) (pv 4) (fun _ _ => rfl)) (pa_cons (pe_ix ix_data (pv 1) (pe_op op_add (pv 4) pe_int) (fun _ _ => rfl)) (pa_cons (pv 2) pa_nil))))))) (pss_one (ps_ret pe_bl)) pss_nil)))
      (pss_one (ps_ret pe_bl)))))), ?_⟩
    refine ⟨_, rfl, u, c, 1, 10, rfl, hc, _, rfl, ?_⟩
    refine iteNB (fun e => ?_) (fun e => ?_)
    · refine iteT ?_
      have := k H (Kp.refl _ _)
      rw [e, Bool.false_and] at this
      exact this
    rw [e, Bool.true_and] at k
    have ec := e
    have no : payIn c n d = false → Q (.bl false) H := fun e => by rw [← e]; exact k H (Kp.refl _ _)
    refine ⟨_, rfl, _, _, rfl, rfl, _, rfl, ?_⟩
    refine iteD (fun e => iteT ?_) (fun e => ?_)
    · exact no (by rw [show n = 0 by omega]; rfl)
    obtain ⟨m, rfl⟩ : ∃ m, n = m + 1 := ⟨n - 1, by omega⟩
    refine ⟨_, rfl, _, _, _, _, _, rfl, .ty _, ty_of hd, kit_ty (kit_tup d), _, rfl, ?_⟩
    cases d with
    | tuple ds =>
      refine iteF ⟨_, rfl, _, [], ds, rfl, .inl (DW.of hd), rfl, _, rfl, ?_⟩
      cases ds with
      | nil => exact iteT (no rfl)
      | cons x es =>
        refine iteD (fun e => absurd (vint e) (by rw [List.length_cons]; omega)) (fun _ => ?_)
        refine ⟨_, rfl, [], _, (0 : Nat), x, .inl (DW.of hd), rfl, rfl, fun v2 h2 => ⟨_, _, _, _, _, rfl, .ty _, ty_of h2.dp, kit_ty (kit_str x), _, rfl, ?_⟩⟩
        cases x with
        | str key =>
          refine iteF ⟨_, rfl, _, [], _, rfl, .inl (DW.of hd), ?_⟩
          refine ⟨_, rfl, [], _, (0 : Nat), .str key, .inl (DW.of hd), rfl, rfl, fun v3 h3 => ?_⟩
          cases h3
          refine ⟨key, rfl, fun H1 k1 => ?_⟩
          replace no : payIn c (m + 1) (.tuple (.str key :: es)) = false → Q (.bl false) H1 := fun e => by rw [← e]; exact k H1 k1
          replace k : ∀ H', Kp [] H1 H' → Q (.bl (payIn c (m + 1) (.tuple (.str key :: es)))) H' := fun H' k' => k H' (k1.trans k')
          replace hd := Dp.ex k1 _ _ hd
          replace hc := Dp.ex k1 _ _ hc
          cases ek : c_SHAPES.lookup key with
          | none =>
            have e0 := shapes_no ek
            have en : payIn c (m + 1) (.tuple (.str key :: es)) = false := by
              show (match c_SHAPES.lookup key with
                | some (.tuple ps) => decide (es.length = ps.length) && allIn (itemIn c (payIn c m)) ps es
                | _ => false) = false
              rw [ek]
            refine ⟨_, rfl, by rw [e0]; decide, _, _, rfl, rfl, rfl, _, rfl, ?_⟩
            refine iteN (fun e => iteT (no en)) (fun e => ?_)
            refine ⟨_, rfl, [], _, (0 : Nat), .str key, .inl (DW.of hd), rfl, rfl, fun v3 h3 => ?_⟩
            cases h3
            refine ⟨key, rfl, fun H2 k2 => ⟨rfl, _, rfl, ?_⟩⟩
            rw [e0]
            refine iteT ?_
            have := k H2 k2
            rw [en] at this
            exact this
          | some sh =>
            obtain ⟨ps, rfl, _⟩ := shape_ok ek
            have en : payIn c (m + 1) (.tuple (.str key :: es)) = (decide (es.length = ps.length) && allIn (itemIn c (payIn c m)) ps es) := by
              show (match c_SHAPES.lookup key with
                | some (.tuple ps) => decide (es.length = ps.length) && allIn (itemIn c (payIn c m)) ps es
                | _ => false) = _
              rw [ek]
            obtain ⟨sm, sn⟩ := shapes_yes ek
            have sl : (shapeS key).length = ps.length := by
              have := congrArg List.length sm
              rw [List.length_map, List.length_map] at this
              rw [this]
              exact (Array.length_toList (xs := (shapeS key).cps)).symm
            have s3 : ps.length ≤ 3 := by
              have a : c_SHAPES.all (fun p => match p.2 with
                | .tuple ps => decide (ps.length ≤ 3)
                | _ => false) = true := by decide +kernel
              have b : decide (ps.length ≤ 3) = true := List.all_eq_true.mp a _ (PySem.mem_of_lookup ek)
              exact of_decide_eq_true b
            have sp : 0 < ps.length := List.length_pos_iff.mpr sn
            have big : (shapeS key).length ≤ sizeLine := small (by omega)
            refine ⟨_, rfl, big, _, _, rfl, rfl, rfl, _, rfl, ?_⟩
            refine iteN (fun e => iteT (no ?_)) (fun e => ?_)
            · rw [en, decide_eq_false, Bool.false_and]
              intro z
              exact e (by rw [List.length_cons, z, sl]; rfl)
            have el : es.length = ps.length := by
              have := vint e
              rw [List.length_cons, sl] at this
              omega
            rw [en, decide_eq_true el, Bool.true_and] at k
            refine ⟨_, rfl, [], _, (0 : Nat), .str key, .inl (DW.of hd), rfl, rfl, fun v3 h3 => ?_⟩
            cases h3
            refine ⟨key, rfl, fun H2 k2 => ⟨rfl, _, rfl, ?_⟩⟩
            refine iteD (fun e => ?_) (fun _ => ?_)
            · have e' := vstr e
              rw [e'] at sl
              have : (("" : Str)).length = 0 := rfl
              omega
            refine ⟨_, rfl, [], _, (0 : Nat), .str key, .inl (DW.of (Dp.ex k2 _ _ hd)), rfl, rfl, fun v3 h3 => ?_⟩
            cases h3
            refine ⟨key, rfl, fun H3 k3 => ?_⟩
            replace hd := Dp.ex (k2.trans k3) _ _ hd
            replace hc := Dp.ex (k2.trans k3) _ _ hc
            replace k : ∀ H', Kp [] H3 H' → Q (.bl (allIn (itemIn c (payIn c m)) ps es)) H' := fun H' k' => k H' ((k2.trans k3).trans k')
            refine ⟨_, rfl, _, rfl, big, _, rfl, by omega, by omega, ?_⟩
            cases c with
            | int mm =>
              cases hc
              have em : (decide (1 ≤ mm) && decide (mm ≤ 10)) = true := ec
              rw [Bool.and_eq_true, decide_eq_true_eq, decide_eq_true_eq] at em
              refine for_range (lo := 0) (fun i σ H' => (∃ v4, σ = [some (.int mm), some v, some (.int dep), some (.str (shapeS key)), v4]) ∧ Kp [] H3 H' ∧ allIn (itemIn (.int mm) (payIn (.int mm) m)) (ps.take i) (es.take i) = true) ⟨⟨_, rfl⟩, Kp.refl _ _, rfl⟩ ?_ ?_
              · rintro i σ H' hi ⟨⟨v4, rfl⟩, k', hia⟩
                rw [Int.zero_add]
                rw [sl, Int.toNat_natCast] at hi
                have p1 : ps[i]? = some ps[i] := List.getElem?_eq_getElem hi
                have q1 : es[i]? = some es[i] := List.getElem?_eq_getElem (by omega)
                have hch : ∃ ch, (shapeS key).cps.toList[i]? = some ch ∧ partC ps[i] = some ch := by
                  have z : (ps.map partC)[i]? = ((shapeS key).cps.toList.map some)[i]? := by rw [sm]
                  rw [List.getElem?_map, List.getElem?_map, p1] at z
                  cases w : (shapeS key).cps.toList[i]? with
                  | none => rw [w] at z; cases z
                  | some ch =>
                    rw [w] at z
                    exact ⟨ch, rfl, by simpa using z⟩
                obtain ⟨ch, c1, c2⟩ := hch
                have hd' := Dp.ex k' _ _ hd
                refine ⟨_, rfl, _, rfl, _, rfl, _, _, ch, rfl, rfl, big, atI_nat c1, ?_⟩
                refine ⟨_, rfl, _, rfl, _, _, rfl, rfl, [], _, i + 1, es[i], .inl (DW.of hd'), rfl, q1, fun v5 h5 => ?_⟩
                refine ⟨_, rfl, v5, mm, es[i], _, dep, rfl, hdep, em.1, em.2, h5.dp, fun H4 k4 => ⟨_, rfl, ?_⟩⟩
                rw [lawItem_eq c2]
                refine iteNB (fun e => ?_) (fun e => ?_)
                · have := k H4 (k'.trans k4)
                  rw [allIn_no p1 q1 e] at this
                  exact this
                · refine ⟨⟨_, rfl⟩, k'.trans k4, ?_⟩
                  rw [allIn_step p1 q1 hia]
                  exact e
              · rintro σ H' ⟨_, k', hia⟩
                rw [sl, Int.toNat_natCast, List.take_length, ← el, List.take_length] at hia
                have := k H' k'
                rw [hia] at this
                exact this
            | _ => cases ec
        | _ => exact iteT (no rfl)
    | _ => exact iteT (iteT (no rfl))
theorem ok__law_is_payload (T : Txt w K mg) : ∀ n, FnOk P w K mg base CX0 (2 * n + 3) T.a__law_is_payload T.fd__law_is_payload ["_law_count", "_law_value_here", "_law_depth"] (spLawPay K n)
  | 0 => lawPay_of T 0 1 (lawItem0 T 1)
  | n + 1 => lawPay_of T (n + 1) (2 * n + 3) (lawItem_of T n (ok__law_is_payload T n))

/-! ### drawn payloads -/
theorem payIn_eq {c : PyData} {n : Nat} {k : Str} {ps es : List PyData} (h : c_SHAPES.lookup k = some (.tuple ps)) (l : es.length = ps.length) (a : allIn (itemIn c (payIn c n)) ps es = true) : payIn c (n + 1) (.tuple (.str k :: es)) = true := by
  show (match c_SHAPES.lookup k with
    | some (.tuple ps) => decide (es.length = ps.length) && allIn (itemIn c (payIn c n)) ps es
    | _ => false) = true
  rw [h]
  show (decide (es.length = ps.length) && allIn (itemIn c (payIn c n)) ps es) = true
  rw [a, decide_eq_true l]
  rfl
theorem item_cell {c : PyData} {f : PyData → Bool} {i : Int} (h : 0 ≤ i) (h2 : i < 4) : itemIn c f (.str "cell") (.int i) = true := by
  rw [item_str, if_pos rfl]
  show (decide (0 ≤ i) && decide (i ≤ 3)) = true
  rw [decide_eq_true h, decide_eq_true (by omega : i ≤ 3)]
  rfl
theorem nq1 : ¬ ("value" : Str) = "cell" := by decide +kernel
theorem nq2 : ¬ ("process" : Str) = "cell" := by decide +kernel
theorem nq3 : ¬ ("process" : Str) = "value" := by decide +kernel
theorem nq4 : ¬ ("payload" : Str) = "cell" := by decide +kernel
theorem nq5 : ¬ ("payload" : Str) = "value" := by decide +kernel
theorem nq6 : ¬ ("payload" : Str) = "process" := by decide +kernel
theorem item_value {c : PyData} {f : PyData → Bool} {i : Int} (h : -1000000 ≤ i) (h2 : i ≤ 1000000) : itemIn c f (.str "value") (.int i) = true := by
  rw [item_str, if_neg nq1, if_pos rfl]
  show (decide (-1000000 ≤ i) && decide (i ≤ 1000000)) = true
  rw [decide_eq_true h, decide_eq_true h2]
  rfl
theorem item_proc {f : PyData → Bool} {n i : Int} (h1 : 1 ≤ n) (h2 : n ≤ 10) (h : 0 ≤ i) (h3 : i < n) : itemIn (.int n) f (.str "process") (.int i) = true := by
  rw [item_str, if_neg nq2, if_neg nq3, if_pos rfl]
  show (decide (1 ≤ n) && decide (n ≤ 10) && (decide (0 ≤ i) && decide (i ≤ n - 1))) = true
  rw [decide_eq_true h1, decide_eq_true h2, decide_eq_true h, decide_eq_true (by omega : i ≤ n - 1)]
  rfl
theorem item_pay {c d : PyData} {f : PyData → Bool} (h : f d = true) : itemIn c f (.str "payload") d = true := by
  rw [item_str, if_neg nq4, if_neg nq5, if_neg nq6]
  exact h
theorem all1 {f : PyData → PyData → Bool} {p d : PyData} (h : f p d = true) : allIn f [p] [d] = true := by
  show (f p d && true) = true
  rw [h]; rfl
theorem all2 {f : PyData → PyData → Bool} {p d p2 d2 : PyData} (h : f p d = true) (h2 : f p2 d2 = true) : allIn f [p, p2] [d, d2] = true := by
  show (f p d && (f p2 d2 && true)) = true
  rw [h, h2]; rfl
theorem all3 {f : PyData → PyData → Bool} {p d p2 d2 p3 d3 : PyData} (h : f p d = true) (h2 : f p2 d2 = true) (h3 : f p3 d3 = true) : allIn f [p, p2, p3] [d, d2, d3] = true := by
  show (f p d && (f p2 d2 && (f p3 d3 && true))) = true
  rw [h, h2, h3]; rfl
/-- what a payload is as data: no deeper than its nesting, no wider than four -/
theorem pay_tame {c : PyData} : ∀ {n : Nat} {d : PyData}, payIn c n d = true → Tame 4 n d ∧ Sh n d
  | 0, d, h => by cases h
  | n + 1, d, h => by
    cases d with
    | tuple ds =>
      cases ds with
      | nil => cases h
      | cons x es =>
        cases x with
        | str k =>
          have h' : (match c_SHAPES.lookup k with
            | some (.tuple ps) => decide (es.length = ps.length) && allIn (itemIn c (payIn c n)) ps es
            | _ => false) = true := h
          cases ek : c_SHAPES.lookup k with
          | none => rw [ek] at h'; cases h'
          | some sh =>
            obtain ⟨ps, rfl, hps⟩ := shape_ok ek
            rw [ek] at h'
            replace h' : (decide (es.length = ps.length) && allIn (itemIn c (payIn c n)) ps es) = true := h'
            rw [Bool.and_eq_true, decide_eq_true_eq] at h'
            have s3 : ps.length ≤ 3 ∧ PyData.strOk k = true := by
              have a : c_SHAPES.all (fun p => (match p.2 with
                | .tuple ps => decide (ps.length ≤ 3)
                | _ => false) && PyData.strOk p.1) = true := by decide +kernel
              have b : (decide (ps.length ≤ 3) && PyData.strOk k) = true := List.all_eq_true.mp a _ (PySem.mem_of_lookup ek)
              rw [Bool.and_eq_true, decide_eq_true_eq] at b
              exact b
            have it : ∀ e ∈ es, Tame 4 n e ∧ Sh n e := by
              have g : ∀ (ps es : List PyData), es.length = ps.length → (∀ p ∈ ps, ∃ s, p = .str s) → allIn (itemIn c (payIn c n)) ps es = true → ∀ e ∈ es, Tame 4 n e ∧ Sh n e := by
                intro ps
                induction ps with
                | nil =>
                  intro es l _ _ e m
                  cases es with
                  | nil => cases m
                  | cons _ _ => cases l
                | cons p ps ih =>
                  intro es l hp a e m
                  cases es with
                  | nil => cases m
                  | cons b es =>
                    have a' : (itemIn c (payIn c n) p b && allIn (itemIn c (payIn c n)) ps es) = true := a
                    rw [Bool.and_eq_true] at a'
                    rcases List.mem_cons.mp m with rfl | m
                    · obtain ⟨s, rfl⟩ := hp p (by simp)
                      have a1 := a'.1
                      rw [item_str] at a1
                      have inI : ∀ lo hi, intIn e lo hi = true → Tame 4 n e ∧ Sh n e := fun lo hi q => by
                        cases e with
                        | int i => exact ⟨Tame.of rfl, sh_int i⟩
                        | _ => cases q
                      split at a1
                      · exact inI _ _ a1
                      · split at a1
                        · exact inI _ _ a1
                        · split at a1
                          · cases c with
                            | int z =>
                              have : (decide (1 ≤ z) && decide (z ≤ 10) && intIn e 0 (z - 1)) = true := a1
                              rw [Bool.and_eq_true] at this
                              exact inI _ _ this.2
                            | _ => cases a1
                          · exact pay_tame a1
                    · exact ih es (by simpa using l) (fun q mq => hp q (List.mem_cons_of_mem _ mq)) a'.2 e m
              exact g ps es h'.1 hps h'.2
            refine ⟨⟨by rw [List.length_cons, h'.1]; omega, fun e m => ?_⟩, sh_tup fun e m => ?_⟩
            · rcases List.mem_cons.mp m with rfl | m
              · exact Tame.of rfl
              · exact (it e m).1
            · rcases List.mem_cons.mp m with rfl | m
              · exact sh_str s3.2
              · exact (it e m).2
        | _ => cases h
    | _ => cases h
def spValue : Sp := fun vs H Q _ => ∃ p : Addr, vs = [.ref p] ∧ Bag H p ∧ ∀ (H' : Hp) (r : Int), Stp p H H' → -1000000 ≤ r → r ≤ 1000000 → Q (.int r) H'
theorem ok__law_value (T : Txt w K mg) : FnOk P w K mg base CX0 2 T.a__law_value T.fd__law_value ["_law_bag_here"] spValue := by
  refine T.F__law_value.ok sc__law_value (fun vs H Q E h => ?_) (fun cdv A outer s H vs Q E hr h => ?_)
  · obtain ⟨p, rfl, _⟩ := h
    rfl
  · obtain ⟨p, rfl, b, k⟩ := h
    refine ⟨_, PSs.nox (pss_cons (ps_set (i := 1) sc__law_value.nd rfl (Or.inl rfl) (pe_call (ok__law_draw T) (hr.mono (by decide)) rfl T.g__law_draw T.F__law_draw.kp T.b__law_draw .nil pass0 (pa_cons (pv 0) (pa_cons pe_int pa_nil))))
      (pss_cons (ps_if (pt_cmpR op_eq (pv 1) pe_int (nomark _)) (pss_one (ps_ret (pe_op op_sub (pe_call (ok__law_draw T) (hr.mono (by decide)) rfl T.g__law_draw T.F__law_draw.kp T.b__law_draw .nil pass0 (pa_cons (pv 0) (pa_cons pe_int pa_nil))) pe_int))) pss_nil)
      (pss_one (ps_ret (pe_ix ix_data (PE.litL (K := K) (pe_lst (pa_cons pe_int (pa_cons pe_int (pa_cons (pe_un un_neg pe_int) (pa_cons pe_int (pa_cons (pe_op op_pow pe_int pe_int) (pa_cons (pe_un un_neg (pe_op op_pow pe_int pe_int)) pa_nil))))))) (lit_lstL (lit_cons (lit_int _) (lit_cons (lit_int _) (lit_cons (lit_neg (lit_int _)) (lit_cons (lit_int _) (lit_cons (lit_pow (lit_int _) (lit_int _) (by show _ ∧ _ ∧ _; decide)) (lit_cons (lit_neg (lit_pow (lit_int _) (lit_int _) (by show _ ∧ _ ∧ _; decide))) lit_nil)))))) (by decide))) (pv 1) (fun _ _ => rfl)))))), ?_⟩
    refine ⟨_, rfl, p, 7, rfl, b, by decide, by decide +kernel, fun H1 r r0 r1 s1 => ⟨_, rfl, rfl, _, rfl, ?_⟩⟩
    refine iteD (fun c => ?_) (fun c => ?_)
    · exact ⟨_, rfl, p, 2000001, rfl, s1.2, by decide, by decide +kernel, fun H2 r2 a1 a2 s2 => ⟨_, _, rfl, rfl, k H2 _ (s1.trans s2) (by omega) (by omega)⟩⟩
    · have c' := vint_ne c
      obtain ⟨j, rfl⟩ := Int.eq_ofNat_of_zero_le r0
      refine fun a xs H2 k2 n2 e2 h2 => ?_
      have hl := DWs.ref (DWs.wide (V := [p]) (h2 [p] s1.2.al) fun x m => .inl (List.mem_cons_of_mem _ m)) e2 (s1.2.al.not n2)
      have hd : ∃ i : Int, ([PyData.int 0, .int 1, .int (-1), .int 5, .int (10 ^ (6 : Int).toNat), .int (-(10 ^ (6 : Int).toNat))] : List PyData)[j]? = some (.int i) ∧ -1000000 ≤ i ∧ i ≤ 1000000 := by
        match j, r1, c' with
        | 0, _, _ => exact ⟨_, rfl, by decide, by decide⟩
        | 1, _, _ => exact ⟨_, rfl, by decide, by decide⟩
        | 2, _, _ => exact ⟨_, rfl, by decide, by decide⟩
        | 3, _, _ => exact ⟨_, rfl, by decide, by decide⟩
        | 4, _, _ => exact ⟨_, rfl, by decide, by decide⟩
        | 5, _, _ => exact ⟨_, rfl, by decide, by decide⟩
        | 6, _, c => exact absurd rfl c
        | j + 7, h, _ => exact absurd h (by omega)
      obtain ⟨i, e, i1, i2⟩ := hd
      refine ⟨_, rfl, [p], _, j, _, .inr hl, rfl, e, fun v hv => ?_⟩
      cases hv
      exact k H2 i (s1.ex k2) i1 i2
def kinds8 : List PyData := [.str "set", .str "add", .str "copy", .str "show", .str "send", .str "both", .str "if", .str "both"]
def spLawPayload (K : PySem.W.Frag) : Nat → Sp
  | 0 => fun _ _ _ _ => False
  | n + 1 => fun vs H Q _ => ∃ (p : Addr) (m : Int) (W : List Addr) (g : Nat), vs = [.ref p, .int m, .int ((g + 1 : Nat) : Int)] ∧ g ≤ n ∧ Bag H p ∧ 1 ≤ m ∧ m ≤ 10 ∧ p ∈ W ∧ Al W H ∧
    ∀ (H' : Hp) (v : V) (d : PyData), Stp p H H' → DW K W H' v d → payIn (.int m) (g + 1) d = true → Q v H'
theorem ok__law_payload (T : Txt w K mg) : ∀ n, FnOk P w K mg base CX0 (n + 3) T.a__law_payload T.fd__law_payload ["_law_bag_here", "_law_count", "_law_depth"] (spLawPayload K n)
  | 0 => T.F__law_payload.ok sc__law_payload (fun vs H Q E (h : False) => h.elim) (fun cdv A outer s H vs Q E hr (h : False) => h.elim)
  | n + 1 => by
    have ih := ok__law_payload T n
    refine T.F__law_payload.ok sc__law_payload (fun vs H Q E h => ?_) (fun cdv A outer s H vs Q E hr h => ?_)
    · obtain ⟨p, m, W, g, rfl, _⟩ := h
      rfl
    · obtain ⟨p, m, W, g, rfl, hg, b, m1, m2, hw, al, k⟩ := h
      refine ⟨_, PSs.nox (pss_cons (ps_set (i := 3) sc__law_payload.nd rfl (Or.inl rfl) (pe_ix ix_data (PE.litL (K := K) (pe_lst (pa_cons pe_str (pa_cons pe_str (pa_cons pe_str (pa_cons pe_str (pa_cons pe_str (pa_cons pe_str (pa_cons pe_str (pa_cons pe_str pa_nil))))))))) (lit_lstL (lit_cons (lit_str _) (lit_cons (lit_str _) (lit_cons (lit_str _) (lit_cons (lit_str _) (lit_cons (lit_str _) (lit_cons (lit_str _) (lit_cons (lit_str _) (lit_cons (lit_str _) lit_nil)))))))) (by decide))) (pe_call (ok__law_draw T) (hr.mono (by omega)) rfl T.g__law_draw T.F__law_draw.kp T.b__law_draw .nil pass0 (pa_cons (pv 0) (pa_cons pe_int pa_nil))) (fun _ _ => rfl)))
      (pss_cons (ps_set (i := 4) sc__law_payload.nd rfl (Or.inl rfl) (pe_call (ok__law_draw T) (hr.mono (by omega)) rfl T.g__law_draw T.F__law_draw.kp T.b__law_draw .nil pass0 (pa_cons (pv 0) (pa_cons pe_int pa_nil))))
      (Evl.pss_cut (ps_if (PW.pt (pw_and (pt_cmpR op_eq (pv 2) pe_int (nomark _)) (pw_and1 (pt_cmpR op_in_seq (pv 3) (PE.litL (K := K) (pe_lst (pa_cons pe_str (pa_cons pe_str (pa_cons pe_str pa_nil)))) (lit_lstL (lit_cons (lit_str _) (lit_cons (lit_str _) (lit_cons (lit_str _) lit_nil))) (by decide))) rfl)))) (pss_one (ps_set (i := 3) sc__law_payload.nd rfl (Or.inl rfl) pe_str)) pss_nil)
      (pss_cons (ps_if (pt_cmpR op_eq (pv 3) pe_str (nomark _)) (pss_one (ps_ret (pe_tup (pa_cons (pv 3) (pa_cons (pv 4) pa_nil))))) pss_nil)
      (pss_cons (ps_if (PW.pt (pw_or (pt_cmpR op_eq (pv 3) pe_str (nomark _)) (pw_or1 (pt_cmpR op_eq (pv 3) pe_str (nomark _))))) (pss_one (ps_ret (pe_tup (pa_cons (pv 3) (pa_cons (pv 4) (pa_cons (pe_call (ok__law_value T) (hr.mono (by omega)) rfl T.g__law_value T.F__law_value.kp T.b__law_value .nil pass0 (pa_cons (pv 0) pa_nil)) pa_nil)))))) pss_nil)
      (pss_cons (ps_if (pt_cmpR op_eq (pv 3) pe_str (nomark _)) (pss_one (ps_ret (pe_tup (pa_cons (pv 3) (pa_cons (pv 4) (pa_cons (pe_call (ok__law_draw T) (hr.mono (by omega)) rfl T.g__law_draw T.F__law_draw.kp T.b__law_draw .nil pass0 (pa_cons (pv 0) (pa_cons pe_int pa_nil))) pa_nil)))))) pss_nil)
      (pss_cons (ps_set (i := 5) sc__law_payload.nd rfl (Or.inl rfl) (pe_call ih (hr.mono (by omega)) rfl T.g__law_payload T.F__law_payload.kp T.b__law_payload .nil pass0 (pa_cons (pv 0) (pa_cons (pv 1) (pa_cons (pe_op op_sub (pv 2) pe_int) pa_nil)))))
      (pss_cons (ps_if (pt_cmpR op_eq (pv 3) pe_str (nomark _)) (pss_one (ps_ret (pe_tup (pa_cons (pv 3) (pa_cons (pe_call (ok__law_draw T) (hr.mono (by omega)) rfl T.g__law_draw T.F__law_draw.kp T.b__law_draw .nil pass0 (pa_cons (pv 0) (pa_cons (pv 1) pa_nil))) (pa_cons (pv 5) pa_nil)))))) pss_nil)
      (pss_cons (ps_set (i := 6) sc__law_payload.nd rfl (Or.inl rfl) (pe_call ih (hr.mono (by omega)) rfl T.g__law_payload T.F__law_payload.kp T.b__law_payload .nil pass0 (pa_cons (pv 0) (pa_cons (pv 1) (pa_cons (pe_op op_sub (pv 2) pe_int) pa_nil)))))
      (pss_cons (ps_if (pt_cmpR op_eq (pv 3) pe_str (nomark _)) (pss_one (ps_ret (pe_tup (pa_cons (pv 3) (pa_cons (pv 5) (pa_cons (pv 6) pa_nil)))))) pss_nil)
      (pss_one (ps_ret (pe_tup (pa_cons (pv 3) (pa_cons (pv 4) (pa_cons (pv 5) (pa_cons (pv 6) pa_nil))))))))))))))))), ?_⟩
      refine fun a xs H1 k1 n1 e1 h1 => ?_
      have s1 := (Stp.refl b).ex k1
      have hl := DWs.ref (DWs.wide (V := W) (h1 W al) fun x m => .inl (List.mem_cons_of_mem _ m)) e1 (al.not n1)
      refine ⟨_, rfl, p, 8, rfl, s1.2, by decide, by decide +kernel, fun H2 r r0 r1 s2 => ?_⟩
      obtain ⟨j, rfl⟩ := Int.eq_ofNat_of_zero_le r0
      have hd : ∃ s : Str, kinds8[j]? = some (.str s) ∧ (s = "set" ∨ s = "add" ∨ s = "copy" ∨ s = "show" ∨ s = "send" ∨ s = "both" ∨ s = "if") := by
        match j, r1 with
        | 0, _ => exact ⟨_, rfl, by simp⟩
        | 1, _ => exact ⟨_, rfl, by simp⟩
        | 2, _ => exact ⟨_, rfl, by simp⟩
        | 3, _ => exact ⟨_, rfl, by simp⟩
        | 4, _ => exact ⟨_, rfl, by simp⟩
        | 5, _ => exact ⟨_, rfl, by simp⟩
        | 6, _ => exact ⟨_, rfl, by simp⟩
        | 7, _ => exact ⟨_, rfl, by simp⟩
        | j + 8, h => exact absurd h (by omega)
      obtain ⟨s, es, hs⟩ := hd
      refine ⟨W, _, j, _, .inr (hl.kp (s2.w hw)), rfl, es, fun v hv => ?_⟩
      replace s2 := s1.trans s2
      cases hv
      clear hl h1 e1 n1 s1 k1
      refine ⟨_, rfl, p, 4, rfl, s2.2, by decide, by decide +kernel, fun H3 rc c0 c1 s3 => ?_⟩
      replace s3 := s2.trans s3
      clear s2
      refine ⟨fun σ' H' => ∃ s' : Str, σ' = [some (.ref p), some (.int m), some (.int ((g + 1 : Nat) : Int)), some (.str s'), some (.int rc), none, none] ∧ Stp p H H' ∧ ((s' = "set" ∨ s' = "add" ∨ s' = "copy" ∨ s' = "show") ∨ (1 ≤ g ∧ (s' = "send" ∨ s' = "both" ∨ s' = "if"))), ?_, ?_⟩
      · refine ⟨_, rfl, rfl, _, rfl, iteD (fun e => ?_) (fun e => ?_)⟩
        · refine ⟨_, rfl, fun a xs H4 k4 n4 e4 h4 => ?_⟩
          have hx : xs = [.str "send", .str "both", .str "if"] := strs_eq (ss := ["send", "both", "if"]) (h4 [] Al.nil).dp
          subst hx
          have s4 := s3.ex k4
          refine ⟨a, _, rfl, .inl (SqL.of e4), rfl, rfl, _, rfl, ?_⟩
          rcases hs with rfl | rfl | rfl | rfl | rfl | rfl | rfl
          · exact iteB (fun e => absurd e (by decide +kernel)) (fun _ => ⟨_, rfl, s4, .inl (by simp)⟩)
          · exact iteB (fun e => absurd e (by decide +kernel)) (fun _ => ⟨_, rfl, s4, .inl (by simp)⟩)
          · exact iteB (fun e => absurd e (by decide +kernel)) (fun _ => ⟨_, rfl, s4, .inl (by simp)⟩)
          · exact iteB (fun e => absurd e (by decide +kernel)) (fun _ => ⟨_, rfl, s4, .inl (by simp)⟩)
          · exact iteB (fun _ => ⟨_, rfl, s4, .inl (by simp)⟩) (fun e => absurd e (by decide +kernel))
          · exact iteB (fun _ => ⟨_, rfl, s4, .inl (by simp)⟩) (fun e => absurd e (by decide +kernel))
          · exact iteB (fun _ => ⟨_, rfl, s4, .inl (by simp)⟩) (fun e => absurd e (by decide +kernel))
        · have hn : 1 ≤ g := by
            have := vint_ne e
            omega
          rcases hs with rfl | rfl | rfl | rfl | rfl | rfl | rfl
          · exact ⟨_, rfl, s3, .inl (by simp)⟩
          · exact ⟨_, rfl, s3, .inl (by simp)⟩
          · exact ⟨_, rfl, s3, .inl (by simp)⟩
          · exact ⟨_, rfl, s3, .inl (by simp)⟩
          · exact ⟨_, rfl, s3, .inr ⟨hn, by simp⟩⟩
          · exact ⟨_, rfl, s3, .inr ⟨hn, by simp⟩⟩
          · exact ⟨_, rfl, s3, .inr ⟨hn, by simp⟩⟩
      clear s3 hs es H3
      rintro σ' H4 ⟨s', rfl, s4, hk⟩
      have al4 := s4.alW al
      have dc : ∀ {i : Int}, 0 ≤ i → i < 4 → itemIn (.int m) (payIn (.int m) g) (.str "cell") (.int i) = true := item_cell
      refine ⟨_, rfl, rfl, _, rfl, iteD (fun e => ?_) (fun e => ?_)⟩
      · cases vstr e
        exact ⟨_, rfl, _, rfl, by show 2 ≤ sizeLine; decide, fun q nq => k _ _ _ (s4.new nq) (DWs.tup (.cons (.str _) (.cons (.int _) .nil)) al4 nq) (payIn_eq (ps := [.str "cell"]) rfl rfl (all1 (dc c0 c1)))⟩
      have e0 := vstr_ne e
      have three : ∀ (s'' : Str), (s'' = "set" ∨ s'' = "add") → ∀ (H5 : Hp) (r : Int) (q : Addr), Stp p H4 H5 → -1000000 ≤ r → r ≤ 1000000 → H5 q = none → Q (.ref q) (upd H5 q (.tup [.str s'', .int rc, .int r])) := fun s'' hs H5 r q s5 a1 a2 nq => by
        refine k _ _ (.tuple [.str s'', .int rc, .int r]) ((s4.trans s5).new nq) (DWs.tup (.cons (.str _) (.cons (.int _) (.cons (.int _) .nil))) (s5.alW al4) nq) ?_
        rcases hs with rfl | rfl
        · exact payIn_eq (ps := [.str "cell", .str "value"]) rfl rfl (all2 (dc c0 c1) (item_value a1 a2))
        · exact payIn_eq (ps := [.str "cell", .str "value"]) rfl rfl (all2 (dc c0 c1) (item_value a1 a2))
      refine ⟨_, rfl, rfl, _, rfl, iteD (fun e => iteT ?_) (fun e => ?_)⟩
      · exact ⟨_, rfl, _, rfl, _, rfl, p, rfl, s4.2, fun H5 r s5 a1 a2 => ⟨by show 3 ≤ sizeLine; decide, fun q nq => three _ (.inl (vstr e)) H5 r q s5 a1 a2 nq⟩⟩
      have e1 := vstr_ne e
      refine ⟨_, rfl, rfl, _, rfl, iteD (fun e => ?_) (fun e => ?_)⟩
      · exact ⟨_, rfl, _, rfl, _, rfl, p, rfl, s4.2, fun H5 r s5 a1 a2 => ⟨by show 3 ≤ sizeLine; decide, fun q nq => three _ (.inr (vstr e)) H5 r q s5 a1 a2 nq⟩⟩
      have e2 := vstr_ne e
      refine ⟨_, rfl, rfl, _, rfl, iteD (fun e => ?_) (fun e => ?_)⟩
      · cases vstr e
        refine ⟨_, rfl, _, rfl, _, rfl, p, 4, rfl, s4.2, by decide, by decide +kernel, fun H5 r a1 a2 s5 => ⟨by show 3 ≤ sizeLine; decide, fun q nq => ?_⟩⟩
        exact k _ _ _ ((s4.trans s5).new nq) (DWs.tup (.cons (.str _) (.cons (.int _) (.cons (.int _) .nil))) (s5.alW al4) nq) (payIn_eq (ps := [.str "cell", .str "cell"]) rfl rfl (all2 (dc c0 c1) (dc a1 a2)))
      have e3 := vstr_ne e
      rcases hk with hk | ⟨hn, hk⟩
      · rcases hk with h | h | h | h
        · exact absurd h e1
        · exact absurd h e2
        · exact absurd h e3
        · exact absurd h e0
      obtain ⟨g, rfl⟩ : ∃ g', g = g' + 1 := ⟨g - 1, by omega⟩
      obtain ⟨n, rfl⟩ : ∃ n', n = n' + 1 := ⟨n - 1, by omega⟩
      have dep : (((g + 1 + 1 : Nat) : Int) - 1) = ((g + 1 : Nat) : Int) := by omega
      refine ⟨_, rfl, _, rfl, _, rfl, _, _, rfl, rfl, p, m, W, g, (by show [V.ref p, V.int m, V.int (((g + 1 + 1 : Nat) : Int) - 1)] = _; rw [dep]), by omega, s4.2, m1, m2, hw, al4, fun H5 v5 d5 s5 h5 p5 => ?_⟩
      refine ⟨_, rfl, rfl, _, rfl, iteD (fun e => ?_) (fun e => ?_)⟩
      · cases vstr e
        refine ⟨_, rfl, _, rfl, _, rfl, p, m, rfl, s5.2, by omega, log_small (by omega) (by omega), fun H6 r a1 a2 s6 => ⟨_, rfl, by show 3 ≤ sizeLine; decide, fun q nq => ?_⟩⟩
        exact k _ _ _ (((s4.trans s5).trans s6).new nq) (DWs.tup (.cons (.str _) (.cons (.int _) (.cons (h5.kp (s6.w hw)) .nil))) (s6.alW (s5.alW al4)) nq)
          (payIn_eq (ps := [.str "process", .str "payload"]) rfl rfl (all2 (item_proc m1 m2 a1 a2) (item_pay p5)))
      have e4 := vstr_ne e
      refine ⟨_, rfl, _, rfl, _, rfl, _, _, rfl, rfl, p, m, W, g, (by show [V.ref p, V.int m, V.int (((g + 1 + 1 : Nat) : Int) - 1)] = _; rw [dep]), by omega, s5.2, m1, m2, hw, s5.alW al4, fun H6 v6 d6 s6 h6 p6 => ?_⟩
      have h5' := h5.kp (s6.w hw)
      have s46 := (s4.trans s5).trans s6
      have al6 := s6.alW (s5.alW al4)
      refine ⟨_, rfl, rfl, _, rfl, iteD (fun e => ?_) (fun e => ?_)⟩
      · cases vstr e
        refine ⟨_, rfl, _, rfl, _, rfl, by show 3 ≤ sizeLine; decide, fun q nq => ?_⟩
        exact k _ _ _ (s46.new nq) (DWs.tup (.cons (.str _) (.cons h5' (.cons h6 .nil))) al6 nq) (payIn_eq (ps := [.str "payload", .str "payload"]) rfl rfl (all2 (item_pay p5) (item_pay p6)))
      have e5 := vstr_ne e
      rcases hk with h | h | h
      · exact absurd h e4
      · exact absurd h e5
      · subst h
        refine ⟨_, rfl, _, rfl, _, rfl, _, rfl, by show 4 ≤ sizeLine; decide, fun q nq => ?_⟩
        exact k _ _ _ (s46.new nq) (DWs.tup (.cons (.str _) (.cons (.int _) (.cons h5' (.cons h6 .nil)))) al6 nq)
          (payIn_eq (ps := [.str "cell", .str "payload", .str "payload"]) rfl rfl (all3 (item_cell c0 c1) (item_pay p5) (item_pay p6)))

def spSpoilt (K : PySem.W.Frag) : Nat → Sp
  | 0 => fun _ _ _ _ => False
  | n + 1 => fun vs H Q _ => ∃ (p : Addr) (v o : V) (d od : PyData) (W : List Addr) (L : Nat), vs = [.ref p, v, o] ∧ Bag H p ∧ p ∈ W ∧ Al W H ∧ DW K W H v d ∧ DW K W H o od ∧ Tame L n d ∧ L ≤ 1000 ∧
    ∀ H' v' d', Stp p H H' → DW K W H' v' d' → Mix od n d d' → Q v' H'
theorem ok__law_spoilt (T : Txt w K mg) : ∀ n, FnOk P w K mg base CX0 (n + 2) T.a__law_spoilt T.fd__law_spoilt ["_law_bag_here", "_law_value_here", "_law_odd_here"] (spSpoilt K n)
  | 0 => T.F__law_spoilt.ok sc__law_spoilt (fun vs H Q E h => h.elim) (fun cdv A outer s H vs Q E hr h => h.elim)
  | n + 1 => by
    have ih := ok__law_spoilt T n
    refine T.F__law_spoilt.ok sc__law_spoilt (fun vs H Q E h => ?_) (fun cdv A outer s H vs Q E hr h => ?_)
    · obtain ⟨p, v, o, d, od, W, L, rfl, _⟩ := h
      rfl
    · obtain ⟨p, v, o, d, od, W, L, rfl, b, hw, al, hd, ho, td, hL, k⟩ := h
      refine ⟨_, PSs.nox (pss_cons (ps_if (PW.pt (pw_or (pt_not (pt_val (pe_callB call_isi (by rfl) T.n_isinstance (by decide +kernel) (pa_cons (pv 1) (pa_cons (pe_bltn (v := .ty "tuple") (u := .type "tuple") rfl T.n_tuple (by decide +kernel) rfl) pa_nil))))) (pw_or (pt_cmpR op_eq (pe_callB call_lenP (by rfl) T.n_len PySem.boot_len (pa_cons (pv 1) pa_nil)) pe_int (nomark _)) (pw_or1 (pt_cmpR op_eq (pe_call (ok__law_draw T) (hr.mono (by omega)) rfl T.g__law_draw T.F__law_draw.kp T.b__law_draw .nil pass0 (pa_cons (pv 0) (pa_cons pe_int pa_nil))) pe_int (nomark _)))))) (pss_one (ps_ret (pv 2))) pss_nil)
      (pss_cons (ps_set (i := 3) sc__law_spoilt.nd rfl (Or.inl rfl) (pe_call (ok__law_draw T) (hr.mono (by omega)) rfl T.g__law_draw T.F__law_draw.kp T.b__law_draw .nil pass0 (pa_cons (pv 0) (pa_cons (pe_callB call_lenP (by rfl) T.n_len PySem.boot_len (pa_cons (pv 1) pa_nil)) pa_nil))))
      (pss_cons (ps_set (i := 4) sc__law_spoilt.nd rfl (Or.inl rfl) (pe_call (ok__law_draw T) (hr.mono (by omega)) rfl T.g__law_draw T.F__law_draw.kp T.b__law_draw .nil pass0 (pa_cons (pv 0) (pa_cons pe_int pa_nil))))
      (pss_cons (ps_if (pt_cmpR op_eq (pv 4) pe_int (nomark _)) (pss_one (ps_ret (pe_op op_catD (pe_slice sl_tupD (pv 1) po_none (po_some (pv 3))) (pe_slice sl_tupD (pv 1) (po_some (pe_op op_add (pv 3) pe_int)) po_none)))) pss_nil)
      (pss_cons (ps_if (pt_cmpR op_eq (pv 4) pe_int (nomark _)) (pss_one (ps_ret (pe_op op_catD (pe_op op_catD (pe_slice sl_tupD (pv 1) po_none (po_some (pv 3))) (pe_tup (pa_cons (pv 2) pa_nil))) (pe_slice sl_tupD (pv 1) (po_some (pv 3)) po_none)))) pss_nil)
      (pss_cons (ps_if (pt_cmpR op_eq (pv 4) pe_int (nomark _)) (pss_one (ps_ret (pe_op op_catD (pe_op op_catD (pe_slice sl_tupD (pv 1) po_none (po_some (pv 3))) (pe_slice sl_tupD (pv 1) (po_some (pv 3)) (po_some (pe_op op_add (pv 3) pe_int)))) (pe_slice sl_tupD (pv 1) (po_some (pv 3)) po_none)))) pss_nil)
      (pss_cons (ps_if (pt_cmpR op_eq (pv 4) pe_int (nomark _)) (pss_one (ps_ret (pe_op op_catD (pe_op op_catD (pe_op op_catD (pe_slice sl_tupD (pv 1) po_none (po_some (pv 3))) (pe_slice sl_tupD (pv 1) (po_some (pe_op op_add (pv 3) pe_int)) (po_some (pe_op op_add (pv 3) pe_int)))) (pe_slice sl_tupD (pv 1) (po_some (pv 3)) (po_some (pe_op op_add (pv 3) pe_int)))) (pe_slice sl_tupD (pv 1) (po_some (pe_op op_add (pv 3) pe_int)) po_none)))) pss_nil)
      (pss_one (ps_ret (pe_op op_catD (pe_op op_catD (pe_slice sl_tupD (pv 1) po_none (po_some (pv 3))) (pe_tup (pa_cons (pe_call ih (hr.mono (by omega)) rfl T.g__law_spoilt T.F__law_spoilt.kp T.b__law_spoilt .nil pass0 (pa_cons (pv 0) (pa_cons (pe_ix ix_data (pv 1) (pv 3) (fun _ _ => rfl)) (pa_cons (pv 2) pa_nil)))) pa_nil))) (pe_slice sl_tupD (pv 1) (po_some (pe_op op_add (pv 3) pe_int)) po_none))))))))))), ?_⟩
      refine ⟨_, rfl, _, _, _, _, _, rfl, .ty _, ty_of hd.dp, kit_ty (kit_tup d), _, rfl, ?_⟩
      by_cases ht : tupB d = true
      · cases d with
        | tuple ds =>
          cases n with
          | zero => cases td
          | succ n =>
            obtain ⟨wl, te⟩ := td
            refine iteF ⟨_, rfl, _, W, ds, rfl, .inl hd, rfl, _, rfl, ?_⟩
            refine iteD (fun c => iteT ?_) (fun c => ?_)
            · exact ⟨_, rfl, k H o od (Stp.refl b) ho Mix.odd⟩
            have hl : 0 < ds.length := Nat.pos_of_ne_zero fun z => c (by rw [z]; rfl)
            refine ⟨_, rfl, p, 5, rfl, b, by decide, by decide +kernel, fun H1 r _ _ s1 => ⟨rfl, _, rfl, ?_⟩⟩
            refine iteD (fun c => ?_) (fun c => ?_)
            · exact ⟨_, rfl, k H1 o od s1 (ho.kp (s1.w hw)) Mix.odd⟩
            refine ⟨_, rfl, _, rfl, _, W, ds, rfl, .inl (hd.kp (s1.w hw)), p, _, rfl, s1.2, by omega, log_small (by omega) (by omega), fun H2 r2 r20 r21 s2 => ?_⟩
            replace s2 := s1.trans s2
            refine ⟨_, rfl, p, 8, rfl, s2.2, by decide, by decide +kernel, fun H3 r3 _ _ s3 => ?_⟩
            replace s3 := s2.trans s3
            obtain ⟨at_, rfl⟩ := Int.eq_ofNat_of_zero_le r20
            have hd3 := hd.kp (s3.w hw)
            have ho3 := ho.kp (s3.w hw)
            have al3 := s3.alW al
            have fin : ∀ (H4 : Hp) (v4 : V) (es : List PyData), Stp p H H4 → DW K W H4 v4 (.tuple es) → es.length ≤ 4 * ds.length + 1 → (∀ e ∈ es, e ∈ ds ∨ e = od ∨ ∃ y ∈ ds, Mix od n y e) → Q v4 H4 := fun H4 v4 es s4 h4 l4 g4 =>
              k H4 v4 (.tuple es) s4 h4 (.inr (.inr ⟨ds, es, rfl, rfl, l4, g4⟩))
            have pc : ∀ {a b : Nat}, ((ds.drop a).take b).length ≤ ds.length := fun {a b} => (part_cut ds a b).2
            have pm : ∀ {a b : Nat}, ∀ e ∈ (ds.drop a).take b, e ∈ ds := fun {a b} => (part_cut ds a b).1
            refine ⟨_, rfl, rfl, _, rfl, iteD (fun c => ?_) (fun c => ?_)⟩
            · refine ⟨_, rfl, _, rfl, _, rfl, W, ds, al3, hd3, fun v1 H4 k4 h4 => ?_⟩
              refine ⟨_, rfl, _, rfl, _, _, rfl, rfl, _, rfl, W, ds, al3.ex k4, hd3.ex k4, fun v2 H5 k5 h5 => ?_⟩
              have p1 := pc (a := HT.sIx ds.length 0 none) (b := HT.sIx ds.length ds.length (some ↑at_) - HT.sIx ds.length 0 none)
              have p2 := pc (a := HT.sIx ds.length 0 (some (↑at_ + 1))) (b := HT.sIx ds.length ds.length none - HT.sIx ds.length 0 (some (↑at_ + 1)))
              refine ⟨W, _, _, (al3.ex k4).ex k5, h4.ex k5, h5, small (by omega), fun v6 H6 k6 h6 => ?_⟩
              refine fin H6 v6 _ (((s3.ex k4).ex k5).ex k6) h6 (by rw [List.length_append]; omega) fun e m => ?_
              rcases List.mem_append.mp m with m | m
              · exact .inl (pm e m)
              · exact .inl (pm e m)
            refine ⟨_, rfl, rfl, _, rfl, iteD (fun c => ?_) (fun c => ?_)⟩
            · refine ⟨_, rfl, _, rfl, _, rfl, W, ds, al3, hd3, fun v1 H4 k4 h4 => ?_⟩
              have p1 := pc (a := HT.sIx ds.length 0 none) (b := HT.sIx ds.length ds.length (some ↑at_) - HT.sIx ds.length 0 none)
              have p2 := pc (a := HT.sIx ds.length 0 (some ↑at_)) (b := HT.sIx ds.length ds.length none - HT.sIx ds.length 0 (some ↑at_))
              refine ⟨_, rfl, by show 1 ≤ sizeLine; decide, fun q nq => ?_⟩
              have hq := DWs.tup (K := K) (.cons (ho3.ex k4) .nil) (al3.ex k4) nq
              have kq := (Kp.refl [] H4).new (o := .tup [o]) nq
              generalize upd H4 q (.tup [o]) = H5 at *
              refine ⟨W, _, _, (al3.ex k4).ex kq, h4.ex kq, hq, small (by show _ + 1 ≤ _; omega), fun v6 H6 k6 h6 => ?_⟩
              refine ⟨_, rfl, _, rfl, _, rfl, W, ds, ((al3.ex k4).ex kq).ex k6, ((hd3.ex k4).ex kq).ex k6, fun v7 H7 k7 h7 => ?_⟩
              refine ⟨W, _, _, (((al3.ex k4).ex kq).ex k6).ex k7, h6.ex k7, h7, small (by rw [List.length_append]; show _ + 1 + _ ≤ _; omega), fun v8 H8 k8 h8 => ?_⟩
              refine fin H8 v8 _ (((((s3.ex k4).ex kq).ex k6).ex k7).ex k8) h8 (by rw [List.length_append, List.length_append]; show _ + 1 + _ ≤ _; omega) fun e m => ?_
              rcases List.mem_append.mp m with m | m
              · rcases List.mem_append.mp m with m | m
                · exact .inl (pm e m)
                · rw [List.mem_singleton.mp m]; exact .inr (.inl rfl)
              · exact .inl (pm e m)
            refine ⟨_, rfl, rfl, _, rfl, iteD (fun c => ?_) (fun c => ?_)⟩
            · refine ⟨_, rfl, _, rfl, _, rfl, W, ds, al3, hd3, fun v1 H4 k4 h4 => ?_⟩
              have p1 := pc (a := HT.sIx ds.length 0 none) (b := HT.sIx ds.length ds.length (some ↑at_) - HT.sIx ds.length 0 none)
              have p2 := pc (a := HT.sIx ds.length 0 (some ↑at_)) (b := HT.sIx ds.length ds.length (some (↑at_ + 1)) - HT.sIx ds.length 0 (some ↑at_))
              have p3 := pc (a := HT.sIx ds.length 0 (some ↑at_)) (b := HT.sIx ds.length ds.length none - HT.sIx ds.length 0 (some ↑at_))
              refine ⟨_, rfl, _, rfl, _, rfl, _, rfl, _, _, rfl, rfl, _, rfl, W, ds, al3.ex k4, hd3.ex k4, fun v2 H5 k5 h5 => ?_⟩
              refine ⟨W, _, _, (al3.ex k4).ex k5, h4.ex k5, h5, small (by omega), fun v6 H6 k6 h6 => ?_⟩
              refine ⟨_, rfl, _, rfl, _, rfl, W, ds, ((al3.ex k4).ex k5).ex k6, ((hd3.ex k4).ex k5).ex k6, fun v7 H7 k7 h7 => ?_⟩
              refine ⟨W, _, _, (((al3.ex k4).ex k5).ex k6).ex k7, h6.ex k7, h7, small (by rw [List.length_append]; omega), fun v8 H8 k8 h8 => ?_⟩
              refine fin H8 v8 _ (((((s3.ex k4).ex k5).ex k6).ex k7).ex k8) h8 (by rw [List.length_append, List.length_append]; omega) fun e m => ?_
              rcases List.mem_append.mp m with m | m
              · rcases List.mem_append.mp m with m | m
                · exact .inl (pm e m)
                · exact .inl (pm e m)
              · exact .inl (pm e m)
            refine ⟨_, rfl, rfl, _, rfl, iteD (fun c => ?_) (fun c => ?_)⟩
            · refine ⟨_, rfl, _, rfl, _, rfl, W, ds, al3, hd3, fun v1 H4 k4 h4 => ?_⟩
              have p1 := pc (a := HT.sIx ds.length 0 none) (b := HT.sIx ds.length ds.length (some ↑at_) - HT.sIx ds.length 0 none)
              have p2 := pc (a := HT.sIx ds.length 0 (some (↑at_ + 1))) (b := HT.sIx ds.length ds.length (some (↑at_ + 2)) - HT.sIx ds.length 0 (some (↑at_ + 1)))
              have p3 := pc (a := HT.sIx ds.length 0 (some ↑at_)) (b := HT.sIx ds.length ds.length (some (↑at_ + 1)) - HT.sIx ds.length 0 (some ↑at_))
              have p4 := pc (a := HT.sIx ds.length 0 (some (↑at_ + 2))) (b := HT.sIx ds.length ds.length none - HT.sIx ds.length 0 (some (↑at_ + 2)))
              refine ⟨_, rfl, _, rfl, _, _, rfl, rfl, _, rfl, _, rfl, _, _, rfl, rfl, _, rfl, W, ds, al3.ex k4, hd3.ex k4, fun v2 H5 k5 h5 => ?_⟩
              refine ⟨W, _, _, (al3.ex k4).ex k5, h4.ex k5, h5, small (by omega), fun v6 H6 k6 h6 => ?_⟩
              refine ⟨_, rfl, _, rfl, _, rfl, _, rfl, _, _, rfl, rfl, _, rfl, W, ds, ((al3.ex k4).ex k5).ex k6, ((hd3.ex k4).ex k5).ex k6, fun v7 H7 k7 h7 => ?_⟩
              refine ⟨W, _, _, (((al3.ex k4).ex k5).ex k6).ex k7, h6.ex k7, h7, small (by rw [List.length_append]; omega), fun v8 H8 k8 h8 => ?_⟩
              refine ⟨_, rfl, _, rfl, _, _, rfl, rfl, _, rfl, W, ds, ((((al3.ex k4).ex k5).ex k6).ex k7).ex k8, ((((hd3.ex k4).ex k5).ex k6).ex k7).ex k8, fun v9 H9 k9 h9 => ?_⟩
              refine ⟨W, _, _, (((((al3.ex k4).ex k5).ex k6).ex k7).ex k8).ex k9, h8.ex k9, h9, small (by rw [List.length_append, List.length_append]; omega), fun va Ha ka ha => ?_⟩
              refine fin Ha va _ (((((((s3.ex k4).ex k5).ex k6).ex k7).ex k8).ex k9).ex ka) ha (by rw [List.length_append, List.length_append, List.length_append]; omega) fun e m => ?_
              rcases List.mem_append.mp m with m | m
              · rcases List.mem_append.mp m with m | m
                · rcases List.mem_append.mp m with m | m
                  · exact .inl (pm e m)
                  · exact .inl (pm e m)
                · exact .inl (pm e m)
              · exact .inl (pm e m)
            -- deeper
            have hat : at_ < ds.length := by omega
            refine ⟨_, rfl, _, rfl, _, rfl, W, ds, al3, hd3, fun v1 H4 k4 h4 => ?_⟩
            have p1 := pc (a := HT.sIx ds.length 0 none) (b := HT.sIx ds.length ds.length (some ↑at_) - HT.sIx ds.length 0 none)
            have p2 := pc (a := HT.sIx ds.length 0 (some (↑at_ + 1))) (b := HT.sIx ds.length ds.length none - HT.sIx ds.length 0 (some (↑at_ + 1)))
            refine ⟨_, rfl, _, rfl, _, rfl, W, ds, at_, ds[at_], .inl (hd3.ex k4), rfl, List.getElem?_eq_getElem hat, fun v2 h2 => ?_⟩
            refine ⟨_, rfl, p, v2, o, ds[at_], od, W, L, rfl, s3.2.ex k4, hw, al3.ex k4, h2, ho3.ex k4, te _ (List.getElem_mem hat), hL, fun H5 v5 d5 s5 h5 t5 => ?_⟩
            refine ⟨by show 1 ≤ sizeLine; decide, fun q nq => ?_⟩
            have al5 := s5.alW (al3.ex k4)
            have hq := DWs.tup (K := K) (.cons h5 .nil) al5 nq
            have h4' := h4.kp (s5.w hw)
            have hd5 := (hd3.ex k4).kp (s5.w hw)
            have s6 := ((s3.ex k4).trans s5).new (o := .tup [v5]) nq
            have kq := (Kp.refl [] H5).new (o := .tup [v5]) nq
            have al6 := al5.ex kq
            replace h4' := h4'.ex kq
            replace hd5 := hd5.ex kq
            generalize upd H5 q (.tup [v5]) = H6 at *
            refine ⟨W, _, _, al6, h4', hq, small (by show _ + 1 ≤ _; omega), fun v6 H7 k7 h7 => ?_⟩
            refine ⟨_, rfl, _, rfl, _, _, rfl, rfl, _, rfl, W, ds, al6.ex k7, hd5.ex k7, fun v8 H8 k8 h8 => ?_⟩
            refine ⟨W, _, _, (al6.ex k7).ex k8, h7.ex k8, h8, small (by rw [List.length_append]; show _ + 1 + _ ≤ _; omega), fun v9 H9 k9 h9 => ?_⟩
            refine fin H9 v9 _ (((s6.ex k7).ex k8).ex k9) h9 (by rw [List.length_append, List.length_append]; show _ + 1 + _ ≤ _; omega) fun e m => ?_
            rcases List.mem_append.mp m with m | m
            · rcases List.mem_append.mp m with m | m
              · exact .inl (pm e m)
              · rw [List.mem_singleton.mp m]; exact .inr (.inr ⟨_, List.getElem_mem hat, t5⟩)
            · exact .inl (pm e m)
        | _ => cases ht
      · have ht' : tupB d = false := by simpa using ht
        rw [ht']
        exact iteT ⟨_, rfl, k H o od (Stp.refl b) ho Mix.odd⟩

/-! ### odd values -/
def spOdd (K : PySem.W.Frag) : Sp := fun vs H Q _ => ∃ (p : Addr) (m : Int) (W : List Addr), vs = [.ref p, .int m] ∧ Bag H p ∧ p ∈ W ∧ Al W H ∧ ∀ (H' : Hp) (v : V) (d : PyData), Stp p H H' → DW K W H' v d → Sh 3 d → Q v H'
theorem ok__law_odd (T : Txt w K mg) : FnOk P w K mg base CX0 2 T.a__law_odd T.fd__law_odd ["_law_bag_here", "_law_count"] (spOdd K) := by
  refine T.F__law_odd.ok sc__law_odd (fun vs H Q E h => ?_) (fun cdv A outer s H vs Q E hr h => ?_)
  · obtain ⟨p, m, W, rfl, _⟩ := h
    rfl
  · obtain ⟨p, m, W, rfl, b, hw, al, k⟩ := h
    refine ⟨_, PSs.nox (pss_cons (ps_set (i := 2) sc__law_odd.nd rfl (Or.inl rfl) (PE.litV (K := K) (i := 1) (f := fun n => [.int 0, .int 3, .int 4, .int (-1), .int (10 ^ (6 : Int).toNat), .int ((10 ^ (6 : Int).toNat) + 1), .int ((-(10 ^ (6 : Int).toNat)) - 1), .int n, .int (n - 1), .bool true, .bool false, .none, .str "", .str "show", .str "set", .tuple [], .tuple [.str "show"]]) (pe_lst (pa_cons pe_int (pa_cons pe_int (pa_cons pe_int (pa_cons (pe_un un_neg pe_int) (pa_cons (pe_op op_pow pe_int pe_int) (pa_cons (pe_op op_add (pe_op op_pow pe_int pe_int) pe_int) (pa_cons (pe_op op_sub (pe_un un_neg (pe_op op_pow pe_int pe_int)) pe_int) (pa_cons (pv 1) (pa_cons (pe_op op_sub (pv 1) pe_int) (pa_cons pe_bl (pa_cons pe_bl (pa_cons pe_non (pa_cons pe_str (pa_cons pe_str (pa_cons pe_str (pa_cons (pe_tup pa_nil) (pa_cons (pe_tup (pa_cons pe_str pa_nil)) pa_nil)))))))))))))))))) (fun σ n hv => les_lstL (les_cons (les_of (lit_int _)) (les_cons (les_of (lit_int _)) (les_cons (les_of (lit_int _)) (les_cons (les_of (lit_neg (lit_int _))) (les_cons (les_of (lit_pow (lit_int _) (lit_int _) (by show _ ∧ _ ∧ _; decide))) (les_cons (les_of (lit_add (lit_pow (lit_int _) (lit_int _) (by show _ ∧ _ ∧ _; decide)) (lit_int _))) (les_cons (les_of (lit_sub (lit_neg (lit_pow (lit_int _) (lit_int _) (by show _ ∧ _ ∧ _; decide))) (lit_int _))) (les_cons (les_var hv) (les_cons (les_sub (les_var hv) (les_of (lit_int _))) (les_cons (les_of (lit_bl _)) (les_cons (les_of (lit_bl _)) (les_cons (les_of lit_non) (les_cons (les_of (lit_str _)) (les_cons (les_of (lit_str _)) (les_cons (les_of (lit_str _)) (les_cons (les_of (lit_tup lit_nil (by decide))) (les_cons (les_of (lit_tup (lit_cons (lit_str _) lit_nil) (by decide))) les_nil))))))))))))))))) (by show 17 ≤ sizeLine; decide))))
      (pss_cons (ps_set (i := 2) sc__law_odd.nd rfl (Or.inl rfl) (pe_op op_cat (pv 2) (PE.litV (K := K) (i := 1) (f := fun n => [.tuple [.str "show", .int 0], .tuple [.str "show", .int 4], .tuple [.str "show", .int 0, .int 0], .list [.str "show", .int 0], .tuple [.str "both", .tuple [.str "show", .int 0]], .tuple [.str "send", .int n, .tuple [.str "show", .int 1]]]) (pe_lst (pa_cons (pe_tup (pa_cons pe_str (pa_cons pe_int pa_nil))) (pa_cons (pe_tup (pa_cons pe_str (pa_cons pe_int pa_nil))) (pa_cons (pe_tup (pa_cons pe_str (pa_cons pe_int (pa_cons pe_int pa_nil)))) (pa_cons (pe_lst (pa_cons pe_str (pa_cons pe_int pa_nil))) (pa_cons (pe_tup (pa_cons pe_str (pa_cons (pe_tup (pa_cons pe_str (pa_cons pe_int pa_nil))) pa_nil))) (pa_cons (pe_tup (pa_cons pe_str (pa_cons (pv 1) (pa_cons (pe_tup (pa_cons pe_str (pa_cons pe_int pa_nil))) pa_nil)))) pa_nil))))))) (fun σ n hv => les_lstL (les_cons (les_of (lit_tup (lit_cons (lit_str _) (lit_cons (lit_int _) lit_nil)) (by decide))) (les_cons (les_of (lit_tup (lit_cons (lit_str _) (lit_cons (lit_int _) lit_nil)) (by decide))) (les_cons (les_of (lit_tup (lit_cons (lit_str _) (lit_cons (lit_int _) (lit_cons (lit_int _) lit_nil))) (by decide))) (les_cons (les_of (lit_lst (lit_cons (lit_str _) (lit_cons (lit_int _) lit_nil)) (by decide))) (les_cons (les_of (lit_tup (lit_cons (lit_str _) (lit_cons (lit_tup (lit_cons (lit_str _) (lit_cons (lit_int _) lit_nil)) (by decide)) lit_nil)) (by decide))) (les_cons (les_tup (les_cons (les_of (lit_str _)) (les_cons (les_var hv) (les_cons (les_of (lit_tup (lit_cons (lit_str _) (lit_cons (lit_int _) lit_nil)) (by decide))) les_nil))) (by show 3 ≤ sizeLine; decide)) les_nil)))))) (by show 6 ≤ sizeLine; decide)))))
      (pss_one (ps_ret (pe_ix ix_data (pv 2) (pe_call (ok__law_draw T) (hr.mono (by decide)) rfl T.g__law_draw T.F__law_draw.kp T.b__law_draw .nil pass0 (pa_cons (pv 0) (pa_cons pe_int pa_nil))) (fun _ _ => rfl)))))), ?_⟩
    refine ⟨m, rfl, fun oa oxs H1 k1 n1 e1 h1 => ⟨_, rfl, m, rfl, fun ob oys H2 k2 n2 e2 h2 => ?_⟩⟩
    have g1 := h1 W al
    have g2 := h2 (oa :: W) (Al.cons e1 (al.ex k1))
    have l1 := g1.len
    have l2 := g2.len
    refine ⟨oa, ob, oxs, oys, rfl, rfl, k2.at e1, e2, small (by rw [l1, l2]; show 17 + 6 ≤ 100000; decide), fun oc nc => ?_⟩
    have al2 : Al W H2 := (al.ex k1).ex k2
    have g3 := DpAll.app (DWs.ex (DWs.wide (V := W) g1 fun x m => .inl (List.mem_cons_of_mem _ m)) k2) (DWs.wide (V := W) g2 fun x m => .inl (List.mem_cons_of_mem _ (List.mem_cons_of_mem _ m)))
    have s3 := (((Stp.refl b).ex k1).ex k2).new (o := .lst (oxs ++ oys)) nc
    have hod : ∃ ods, DW K W (upd H2 oc (.lst (oxs ++ oys))) (.ref oc) (.list ods) ∧ (∀ d ∈ ods, Sh 3 d) ∧ ods.length = 23 :=
      ⟨_, DWs.lst g3 al2 nc, fun d m => Sh.ofB (List.all_eq_true.mp (by kernel_rfl : List.all _ (shB 3) = true) d m), rfl⟩
    obtain ⟨ods, hod, tod, lod⟩ := hod
    generalize upd H2 oc (.lst (oxs ++ oys)) = H3 at *
    refine ⟨_, rfl, _, rfl, p, 23, rfl, s3.2, by decide, by decide +kernel, fun H4 r r0 r1 s4 => ?_⟩
    obtain ⟨j, rfl⟩ := Int.eq_ofNat_of_zero_le r0
    have hj : j < ods.length := by omega
    exact ⟨W, ods, j, ods[j], .inr (hod.kp (s4.w hw)), rfl, List.getElem?_eq_getElem hj, fun v9 h9 => k H4 v9 _ (s3.trans s4) h9 (tod _ (List.getElem_mem hj))⟩
/-! ### wrapped and built -/
def spWrapped (K : PySem.W.Frag) : Sp := fun vs H Q _ => ∃ (p : Addr) (v : V) (d : PyData) (W : List Addr), vs = [.ref p, v] ∧ Bag H p ∧ p ∈ W ∧ Al W H ∧ DW K W H v d ∧ Tame 4 6 d ∧ Sh 6 d ∧ tupB d = true ∧ ∀ (H' : Hp) (v : V) (d : PyData), Stp p H H' → DW K W H' v d → Tame 4 9 d → Sh 9 d → tupB d = true → Q v H'
theorem ok__law_wrapped (T : Txt w K mg) : FnOk P w K mg base CX0 2 T.a__law_wrapped T.fd__law_wrapped ["_law_bag_here", "_law_value_here"] (spWrapped K) := by
  refine T.F__law_wrapped.ok sc__law_wrapped (fun vs H Q E h => ?_) (fun cdv A outer s H vs Q E hr h => ?_)
  · obtain ⟨p, v, d, W, rfl, _⟩ := h
    rfl
  · obtain ⟨p, v, d, W, rfl, b, hw, al, hd, td, sd, bd, k⟩ := h
    refine ⟨_, PSs.nox (pss_cons (ps_for PassesOwn.never rfl (pi_range1 rfl T.n_range (pa_cons (pe_call (ok__law_draw T) (hr.mono (by decide)) rfl T.g__law_draw T.F__law_draw.kp T.b__law_draw .nil pass0 (pa_cons (pv 0) (pa_cons pe_int pa_nil))) pa_nil)) (pg_name (i := 2) sc__law_wrapped.nd rfl (Or.inl rfl))
        (pss_cons (ps_set (i := 3) sc__law_wrapped.nd rfl (Or.inl rfl) (pe_call (ok__law_draw T) (hr.mono (by decide)) rfl T.g__law_draw T.F__law_draw.kp T.b__law_draw .nil pass0 (pa_cons (pv 0) (pa_cons pe_int pa_nil))))
      (pss_one (ps_if (pt_cmpR op_eq (pv 3) pe_int (nomark _)) (pss_one (ps_set (i := 1) sc__law_wrapped.nd rfl (Or.inl rfl) (pe_tup (pa_cons pe_str (pa_cons (pe_tup (pa_cons pe_str (pa_cons (pv 2) pa_nil))) (pa_cons (pv 1) pa_nil)))))) (pss_one (ps_if (pt_cmpR op_eq (pv 3) pe_int (nomark _)) (pss_one (ps_set (i := 1) sc__law_wrapped.nd rfl (Or.inl rfl) (pe_tup (pa_cons pe_str (pa_cons (pv 2) (pa_cons (pv 1) (pa_cons (pe_tup (pa_cons pe_str (pa_cons pe_int (pa_cons (pv 2) pa_nil)))) pa_nil))))))) (pss_one (ps_set (i := 1) sc__law_wrapped.nd rfl (Or.inl rfl) (pe_tup (pa_cons pe_str (pa_cons pe_int (pa_cons (pv 1) pa_nil))))))))))))
      (pss_one (ps_ret (pv 1)))), ?_⟩
    refine ⟨_, rfl, p, 4, rfl, b, by decide, by decide +kernel, fun H1 r r0 r1 s1 => ⟨r, rfl, by omega, by omega, ?_⟩⟩
    refine for_range (lo := 0) (fun i σ H' => ∃ v d v2 v3, σ = [some (.ref p), some v, v2, v3] ∧ Stp p H H' ∧ DW K W H' v d ∧ Tame 4 (6 + i) d ∧ Sh (6 + i) d ∧ tupB d = true) ⟨v, d, _, _, rfl, s1, hd.kp (s1.w hw), td, sd, bd⟩ ?_ ?_
    · rintro i σ H2 hi ⟨v, d, v2, v3, rfl, s2, hd, td, sd, _⟩
      refine ⟨_, rfl, p, 3, rfl, s2.2, by decide, by decide +kernel, fun H3 r r0 r1 s3 => ⟨_, rfl, rfl, _, rfl, ?_⟩⟩
      have al3 := s3.alW (s2.alW al)
      have hd3 := hd.kp (s3.w hw)
      have s23 := s2.trans s3
      have o1 : PyData.strOk "both" = true := by decide +kernel
      have o2 : PyData.strOk "if" = true := by decide +kernel
      have o3 : PyData.strOk "send" = true := by decide +kernel
      have o4 : PyData.strOk "show" = true := by decide +kernel
      have o5 : PyData.strOk "copy" = true := by decide +kernel
      refine iteD (fun _ => ?_) (fun _ => ?_)
      · refine ⟨_, rfl, by show 2 ≤ sizeLine; decide, fun q nq => ⟨_, rfl, by show 3 ≤ sizeLine; decide, fun q2 nq2 => ?_⟩⟩
        have hq := DWs.tup (K := K) (.cons (.str "show") (.cons (.int (0 + i)) .nil)) al3 nq
        have kq := (Kp.refl [] H3).new (o := .tup [.str "show", .int (0 + i)]) nq
        refine ⟨_, _, _, _, rfl, (s23.ex kq).new nq2, DWs.tup (.cons (.str _) (.cons hq (.cons (hd3.ex kq) .nil))) (al3.ex kq) nq2, ⟨by show 3 ≤ 4; decide, fun e m => ?_⟩, sh_tup (all_cons (sh_str o1) (all_cons (Sh.mono (m := 6 + i) (sh_tup (n := 0) (all_cons (sh_str o4) (all_cons (sh_int _) all_nil))) (by omega)) (all_cons sd all_nil))), rfl⟩
        rcases List.mem_cons.mp m with rfl | m
        · exact Tame.of rfl
        · rcases List.mem_cons.mp m with rfl | m
          · exact Tame.mono (Nat.le_refl _) (by omega : 1 ≤ 6 + i) ⟨by show 2 ≤ 4; decide, fun e m => by
              rcases List.mem_cons.mp m with rfl | m
              · rfl
              · rw [List.mem_singleton.mp m]; rfl⟩
          · rw [List.mem_singleton.mp m]; exact td
      · refine ⟨_, rfl, rfl, _, rfl, iteD (fun _ => ?_) (fun _ => ?_)⟩
        · refine ⟨_, rfl, _, rfl, _, rfl, by show 3 ≤ sizeLine; decide, fun q nq => ⟨by show 4 ≤ sizeLine; decide, fun q2 nq2 => ?_⟩⟩
          have hq := DWs.tup (K := K) (.cons (.str "copy") (.cons (.int 0) (.cons (.int (0 + i)) .nil))) al3 nq
          have kq := (Kp.refl [] H3).new (o := .tup [.str "copy", .int 0, .int (0 + i)]) nq
          refine ⟨_, _, _, _, rfl, (s23.ex kq).new nq2, DWs.tup (.cons (.str _) (.cons (.int _) (.cons (hd3.ex kq) (.cons hq .nil)))) (al3.ex kq) nq2, ⟨by show 4 ≤ 4; decide, fun e m => ?_⟩, sh_tup (all_cons (sh_str o2) (all_cons (sh_int _) (all_cons sd (all_cons (Sh.mono (m := 6 + i) (sh_tup (n := 0) (all_cons (sh_str o5) (all_cons (sh_int _) (all_cons (sh_int _) all_nil)))) (by omega)) all_nil)))), rfl⟩
          rcases List.mem_cons.mp m with rfl | m
          · exact Tame.of rfl
          · rcases List.mem_cons.mp m with rfl | m
            · exact Tame.of rfl
            · rcases List.mem_cons.mp m with rfl | m
              · exact td
              · rw [List.mem_singleton.mp m]
                exact Tame.mono (Nat.le_refl _) (by omega : 1 ≤ 6 + i) ⟨by show 3 ≤ 4; decide, fun e m => by
                  rcases List.mem_cons.mp m with rfl | m
                  · rfl
                  · rcases List.mem_cons.mp m with rfl | m
                    · rfl
                    · rw [List.mem_singleton.mp m]; rfl⟩
        · refine ⟨_, rfl, by show 3 ≤ sizeLine; decide, fun q2 nq2 => ?_⟩
          refine ⟨_, _, _, _, rfl, s23.new nq2, DWs.tup (.cons (.str _) (.cons (.int _) (.cons hd3 .nil))) al3 nq2, ⟨by show 3 ≤ 4; decide, fun e m => ?_⟩, sh_tup (all_cons (sh_str o3) (all_cons (sh_int _) (all_cons sd all_nil))), rfl⟩
          rcases List.mem_cons.mp m with rfl | m
          · exact Tame.of rfl
          · rcases List.mem_cons.mp m with rfl | m
            · exact Tame.of rfl
            · rw [List.mem_singleton.mp m]; exact td
    · rintro σ H2 ⟨v, d, v2, v3, rfl, s2, hd, td, sd, bd⟩
      exact ⟨_, rfl, k H2 v d s2 hd (td.mono (Nat.le_refl _) (by omega)) (sd.mono (by omega)) bd⟩
def spBuilt (K : PySem.W.Frag) : Sp := fun vs H Q _ => ∃ (p : Addr) (m : Int) (W : List Addr), vs = [.ref p, .int m] ∧ Bag H p ∧ 1 ≤ m ∧ m ≤ 10 ∧ p ∈ W ∧ Al W H ∧ ∀ (H' : Hp) (v : V) (d : PyData), Stp p H H' → DW K W H' v d → Sh 60 d → Q v H'
theorem payIn_mono {c : PyData} : ∀ {n : Nat} {d : PyData}, payIn c n d = true → payIn c (n + 1) d = true
  | 0, d, h => by cases h
  | n + 1, d, h => by
    cases d with
    | tuple ds =>
      cases ds with
      | nil => cases h
      | cons x es =>
        cases x with
        | str k =>
          have h' : (match c_SHAPES.lookup k with
            | some (.tuple ps) => decide (es.length = ps.length) && allIn (itemIn c (payIn c n)) ps es
            | _ => false) = true := h
          cases ek : c_SHAPES.lookup k with
          | none => rw [ek] at h'; cases h'
          | some sh =>
            obtain ⟨ps, rfl, hps⟩ := shape_ok ek
            rw [ek] at h'
            replace h' : (decide (es.length = ps.length) && allIn (itemIn c (payIn c n)) ps es) = true := h'
            rw [Bool.and_eq_true, decide_eq_true_eq] at h'
            refine payIn_eq ek h'.1 ?_
            have g : ∀ (ps es : List PyData), (∀ p ∈ ps, ∃ s, p = .str s) → allIn (itemIn c (payIn c n)) ps es = true → allIn (itemIn c (payIn c (n + 1))) ps es = true := by
              intro ps
              induction ps with
              | nil => intro es _ _; cases es <;> rfl
              | cons p ps ih =>
                intro es hp a
                cases es with
                | nil => rfl
                | cons b es =>
                  have a' : (itemIn c (payIn c n) p b && allIn (itemIn c (payIn c n)) ps es) = true := a
                  rw [Bool.and_eq_true] at a'
                  obtain ⟨s, rfl⟩ := hp p (by simp)
                  show (itemIn c (payIn c (n + 1)) (.str s) b && allIn (itemIn c (payIn c (n + 1))) ps es) = true
                  rw [ih es (fun q mq => hp q (List.mem_cons_of_mem _ mq)) a'.2, Bool.and_true]
                  have a1 := a'.1
                  rw [item_str] at a1 ⊢
                  split at a1
                  · rename_i e
                    rw [if_pos e]; exact a1
                  · rename_i e
                    rw [if_neg e]
                    split at a1
                    · rename_i e
                      rw [if_pos e]; exact a1
                    · rename_i e
                      rw [if_neg e]
                      split at a1
                      · rename_i e
                        rw [if_pos e]; exact a1
                      · rename_i e
                        rw [if_neg e]; exact payIn_mono a1
            exact g ps es hps h'.2
        | _ => cases h
    | _ => cases h
theorem payIn_le {c : PyData} {d : PyData} {n m : Nat} (h : payIn c n d = true) (l : n ≤ m) : payIn c m d = true := by
  induction l with
  | refl => exact h
  | step _ ih => exact payIn_mono ih
theorem pay_tup {c d : PyData} : ∀ {n : Nat}, payIn c n d = true → ∃ ds, d = .tuple ds
  | 0, h => by cases h
  | n + 1, h => by
    cases d with
    | tuple ds => exact ⟨ds, rfl⟩
    | _ => cases h
theorem ok__law_built (T : Txt w K mg) : FnOk P w K mg base CX0 13 T.a__law_built T.fd__law_built ["_law_bag_here", "_law_count"] (spBuilt K) := by
  refine T.F__law_built.ok sc__law_built (fun vs H Q E h => ?_) (fun cdv A outer s H vs Q E hr h => ?_)
  · obtain ⟨p, m, W, rfl, _⟩ := h
    rfl
  · obtain ⟨p, m, W, rfl, b, m1, m2, hw, al, k⟩ := h
    refine ⟨_, PSs.nox (pss_cons (ps_set (i := 2) sc__law_built.nd rfl (Or.inl rfl) (pe_call (ok__law_payload T 6) (hr.mono (by decide)) rfl T.g__law_payload T.F__law_payload.kp T.b__law_payload .nil pass0 (pa_cons (pv 0) (pa_cons (pv 1) (pa_cons (pe_op op_add pe_int (pe_call (ok__law_draw T) (hr.mono (by decide)) rfl T.g__law_draw T.F__law_draw.kp T.b__law_draw .nil pass0 (pa_cons (pv 0) (pa_cons pe_int pa_nil)))) pa_nil)))))
      (Evl.pss_cut (ps_if (pt_cmpR op_eq (pe_call (ok__law_draw T) (hr.mono (by decide)) rfl T.g__law_draw T.F__law_draw.kp T.b__law_draw .nil pass0 (pa_cons (pv 0) (pa_cons pe_int pa_nil))) pe_int (nomark _)) (pss_one (ps_set (i := 2) sc__law_built.nd rfl (Or.inl rfl) (pe_call (ok__law_wrapped T) (hr.mono (by decide)) rfl T.g__law_wrapped T.F__law_wrapped.kp T.b__law_wrapped .nil pass0 (pa_cons (pv 0) (pa_cons (pv 2) pa_nil))))) pss_nil)
      (pss_cons (ps_set (i := 3) sc__law_built.nd rfl (Or.inl rfl) (pe_call (ok__law_draw T) (hr.mono (by decide)) rfl T.g__law_draw T.F__law_draw.kp T.b__law_draw .nil pass0 (pa_cons (pv 0) (pa_cons pe_int pa_nil))))
      (pss_cons (ps_if (pt_cmpR op_lt (pv 3) pe_int (nomark _)) (pss_one (ps_ret (pe_call (ok__law_spoilt T 10) (hr.mono (by decide)) rfl T.g__law_spoilt T.F__law_spoilt.kp T.b__law_spoilt .nil pass0 (pa_cons (pv 0) (pa_cons (pv 2) (pa_cons (pe_call (ok__law_odd T) (hr.mono (by decide)) rfl T.g__law_odd T.F__law_odd.kp T.b__law_odd .nil pass0 (pa_cons (pv 0) (pa_cons (pv 1) pa_nil))) pa_nil)))))) pss_nil)
      (pss_cons (ps_if (pt_cmpR op_eq (pv 3) pe_int (nomark _)) (pss_one (ps_ret (pe_op op_catD (pe_tup (pa_cons (pe_ix ix_data (PE.litL (K := K) (pe_lst (pa_cons pe_str (pa_cons pe_str (pa_cons pe_str (pa_cons pe_str (pa_cons pe_str (pa_cons pe_str (pa_cons pe_str (pa_cons pe_str (pa_cons pe_str (pa_cons pe_int (pa_cons pe_non pa_nil)))))))))))) (lit_lstL (lit_cons (lit_str _) (lit_cons (lit_str _) (lit_cons (lit_str _) (lit_cons (lit_str _) (lit_cons (lit_str _) (lit_cons (lit_str _) (lit_cons (lit_str _) (lit_cons (lit_str _) (lit_cons (lit_str _) (lit_cons (lit_int _) (lit_cons lit_non lit_nil))))))))))) (by decide))) (pe_call (ok__law_draw T) (hr.mono (by decide)) rfl T.g__law_draw T.F__law_draw.kp T.b__law_draw .nil pass0 (pa_cons (pv 0) (pa_cons pe_int pa_nil))) (fun _ _ => rfl)) pa_nil)) (pe_slice sl_tupD (pv 2) (po_some pe_int) po_none)))) pss_nil)
      (pss_one (ps_ret (pv 2)))))))), ?_⟩
    refine ⟨_, rfl, _, rfl, _, rfl, p, 6, rfl, b, by decide, by decide +kernel, fun H1 r r0 r1 s1 => ⟨_, _, rfl, rfl, ?_⟩⟩
    obtain ⟨g, rfl⟩ := Int.eq_ofNat_of_zero_le r0
    refine ⟨p, m, W, g, (by show [V.ref p, V.int m, V.int (1 + (g : Int))] = _; rw [show (1 + (g : Int)) = ((g + 1 : Nat) : Int) by omega]), Nat.le_of_lt_succ (show g < 6 by omega), s1.2, m1, m2, hw, s1.alW al, fun H2 v d s2 hd pd => ?_⟩
    have pt := pay_tame (payIn_le pd (by omega : g + 1 ≤ 6))
    replace s2 := s1.trans s2
    refine ⟨fun σ' H' => ∃ v ds, σ' = [some (.ref p), some (.int m), some v, none] ∧ Stp p H H' ∧ DW K W H' v (.tuple ds) ∧ Tame 4 9 (.tuple ds) ∧ Sh 9 (.tuple ds), ?_, ?_⟩
    · obtain ⟨ds, rfl⟩ := pay_tup pd
      refine ⟨_, rfl, p, 3, rfl, s2.2, by decide, by decide +kernel, fun H3 r0 _ _ s3 => ⟨rfl, _, rfl, iteD (fun _ => ?_) (fun _ => ?_)⟩⟩
      · refine ⟨_, rfl, _, rfl, p, v, .tuple ds, W, rfl, s3.2, hw, s3.alW (s2.alW al), hd.kp (s3.w hw), pt.1, pt.2, rfl, fun H4 v d s4 hd td sd bd => ?_⟩
        cases d with
        | tuple ds => exact ⟨v, ds, rfl, (s2.trans s3).trans s4, hd, td, sd⟩
        | _ => cases bd
      · exact ⟨v, ds, rfl, s2.trans s3, hd.kp (s3.w hw), pt.1.mono (Nat.le_refl _) (by decide), pt.2.mono (by decide)⟩
    rintro σ' H3 ⟨v, ds, rfl, s3, hd, td, sd⟩
    refine ⟨_, rfl, p, 6, rfl, s3.2, by decide, by decide +kernel, fun H4 r r0 r1 s4 => ?_⟩
    have s34 := s3.trans s4
    have al4 := s4.alW (s3.alW al)
    have hd4 := hd.kp (s4.w hw)
    refine ⟨_, rfl, _, _, rfl, rfl, _, rfl, iteD (fun _ => ?_) (fun _ => ?_)⟩
    · refine ⟨_, rfl, _, rfl, _, rfl, _, rfl, p, m, W, rfl, s4.2, hw, al4, fun H5 o od s5 ho so => ?_⟩
      exact ⟨p, v, o, .tuple ds, od, W, 4, rfl, s5.2, hw, s5.alW al4, hd4.kp (s5.w hw), ho, td, by decide, fun H6 v' d' s6 h' m' => k H6 v' d' ((s34.trans s5).trans s6) h' ((Mix.sh so sd m').mono (by decide))⟩
    refine ⟨_, rfl, rfl, _, rfl, iteD (fun _ => ?_) (fun _ => ?_)⟩
    · refine fun la lxs H5 k5 n5 e5 h5 => ?_
      have al5 := al4.ex k5
      have hl : ∃ ls, DW K W H5 (.ref la) (.list ls) ∧ ls.length = 11 ∧ ∀ d ∈ ls, Sh 8 d :=
        ⟨_, DWs.ref (DWs.wide (V := W) (h5 W al4) fun x m => .inl (List.mem_cons_of_mem _ m)) e5 (al4.not n5), rfl, fun d m => Sh.ofB (List.all_eq_true.mp (by kernel_rfl : List.all _ (shB 8) = true) d m)⟩
      obtain ⟨ls, hl, ll, lsh⟩ := hl
      have s5 := s34.ex k5
      refine ⟨_, rfl, p, 11, rfl, s5.2, by decide, by decide +kernel, fun H6 r0 r1 r2 s6 => ?_⟩
      obtain ⟨j, rfl⟩ := Int.eq_ofNat_of_zero_le r1
      have hj : j < ls.length := by omega
      refine ⟨W, ls, j, ls[j], .inr (hl.kp (s6.w hw)), rfl, List.getElem?_eq_getElem hj, fun v6 h6 => ⟨by show 1 ≤ sizeLine; decide, fun q nq => ?_⟩⟩
      have al6 := s6.alW al5
      have hq := DWs.tup (K := K) (.cons h6 .nil) al6 nq
      have kq := (Kp.refl [] H6).new (o := .tup [v6]) nq
      refine ⟨_, rfl, _, rfl, W, ds, al6.ex kq, ((hd4.ex k5).kp (s6.w hw)).ex kq, fun v7 H7 k7 h7 => ?_⟩
      refine ⟨W, _, _, (al6.ex kq).ex k7, hq.ex k7, h7, small ?_, fun v8 H8 k8 h8 => ?_⟩
      · have := (part_cut ds (HT.sIx ds.length 0 (some 1)) (HT.sIx ds.length ds.length none - HT.sIx ds.length 0 (some 1))).2
        have := td.1
        show 1 + _ ≤ 100000
        omega
      · refine k H8 v8 _ ((((s5.trans s6).ex kq).ex k7).ex k8) h8 (Sh.mono (n := 9) (sh_tup (n := 8) fun e m => ?_) (by decide))
        rcases List.mem_append.mp m with m | m
        · rw [List.mem_singleton.mp m]; exact lsh _ (List.getElem_mem hj)
        · exact sh_part sd e ((part_cut ds _ _).1 e m)
    · exact ⟨_, rfl, k H4 v _ s34 hd4 (sd.mono (by decide))⟩
def spLaw (K : PySem.W.Frag) : Sp := fun vs H Q _ => ∃ (a : Addr) (ns : List Int), vs = [.ref a] ∧ SqL K H a (ns.map V.int) ∧ ns.length ≤ 63 ∧ ∀ H', Q (.bl true) H'
theorem sp_in (H : Hp) (a : Addr) (ns : List Int) (hl : ns.length ≤ 63) (hS : SqL K H a (ns.map V.int)) : spLaw K [.ref a] H (fun v _ => v = .bl true) fun _ _ _ => False := ⟨a, ns, rfl, hS, hl, fun _ => rfl⟩
theorem ok_law (T : Txt w K mg) : FnOk P w K mg base CX0 20 T.a_law T.fd_law ["_law_script"] (spLaw K) := by
  refine T.F_law.ok sc_law (fun vs H Q E h => ?_) (fun cdv A outer s H vs Q E hr h => ?_)
  · obtain ⟨a, ns, rfl, _⟩ := h
    rfl
  · obtain ⟨a, ns, rfl, hS, hlen, k⟩ := h
    have hu := hu_of hr
    refine ⟨_, PSs.nox (pss_cons (ps_for PassesOwn.never rfl (pi_range1 rfl T.n_range (pa_cons (pe_callB (call_max2 rfl) (by rfl) T.n_max (by decide +kernel) (pa_cons pe_int (pa_cons (pe_callB (call_min2 rfl) (by rfl) T.n_min (by decide +kernel) (pa_cons pe_int (pa_cons (pe_callB call_len_seq (by rfl) T.n_len PySem.boot_len (pa_cons (pv 0) pa_nil)) pa_nil))) pa_nil))) pa_nil)) (pg_name (i := 1) sc_law.nd rfl (Or.inl rfl))
        (pss_cons (ps_set (i := 2) sc_law.nd rfl (Or.inl rfl) (pe_call (ok__law_bag T) (hr.mono (by decide)) rfl T.g__law_bag T.F__law_bag.kp T.b__law_bag .nil pass0 (pa_cons (pv 0) (pa_cons (pv 1) pa_nil))))
      (pss_cons (ps_set (i := 3) sc_law.nd rfl (Or.inl rfl) (pe_op op_add pe_int (pe_call (ok__law_draw T) (hr.mono (by decide)) rfl T.g__law_draw T.F__law_draw.kp T.b__law_draw .nil pass0 (pa_cons (pv 2) (pa_cons pe_int pa_nil)))))
      (pss_cons (ps_set (i := 4) sc_law.nd rfl (Or.inl rfl) (pe_call (ok__law_built T) (hr.mono (by decide)) rfl T.g__law_built T.F__law_built.kp T.b__law_built .nil pass0 (pa_cons (pv 2) (pa_cons (pv 3) pa_nil))))
      (pss_cons (ps_set (i := 5) sc_law.nd rfl (Or.inl rfl) (pe_ix ix_data (pe_lst (pa_cons (pe_call (ok__law_draw T) (hr.mono (by decide)) rfl T.g__law_draw T.F__law_draw.kp T.b__law_draw .nil pass0 (pa_cons (pv 2) (pa_cons (pv 3) pa_nil))) (pa_cons (pv 3) (pa_cons (pe_un un_neg pe_int) (pa_cons pe_bl (pa_cons pe_non (pa_cons pe_str (pa_cons (PE.lit (K := K) (pe_tup (pa_cons pe_int pa_nil)) (lit_tup (lit_cons (lit_int _) lit_nil) (by decide))) pa_nil)))))))) (pe_call (ok__law_draw T) (hr.mono (by decide)) rfl T.g__law_draw T.F__law_draw.kp T.b__law_draw .nil pass0 (pa_cons (pv 2) (pa_cons pe_int pa_nil))) (fun _ _ => rfl)))
      (Evl.pss_cut (ps_if (pt_cmpR op_eq (pe_call (ok__law_draw T) (hr.mono (by decide)) rfl T.g__law_draw T.F__law_draw.kp T.b__law_draw .nil pass0 (pa_cons (pv 2) (pa_cons pe_int pa_nil))) pe_int (nomark _)) (pss_one (ps_set (i := 3) sc_law.nd rfl (Or.inl rfl) (pe_ix ix_data (PE.litL (K := K) (pe_lst (pa_cons pe_int (pa_cons pe_int (pa_cons pe_int (pa_cons pe_int (pa_cons pe_int (pa_cons pe_int (pa_cons (pe_un un_neg pe_int) (pa_cons pe_bl (pa_cons pe_non (pa_cons pe_str pa_nil))))))))))) (lit_lstL (lit_cons (lit_int _) (lit_cons (lit_int _) (lit_cons (lit_int _) (lit_cons (lit_int _) (lit_cons (lit_int _) (lit_cons (lit_int _) (lit_cons (lit_neg (lit_int _)) (lit_cons (lit_bl _) (lit_cons lit_non (lit_cons (lit_str _) lit_nil)))))))))) (by decide))) (pe_call (ok__law_draw T) (hr.mono (by decide)) rfl T.g__law_draw T.F__law_draw.kp T.b__law_draw .nil pass0 (pa_cons (pv 2) (pa_cons pe_int pa_nil))) (fun _ _ => rfl)))) pss_nil)
      (pss_cons (ps_set (i := 6) sc_law.nd rfl (Or.inl rfl) (pe_lst (pa_cons (pe_call (ok_is_payload T) (hr.mono (by decide)) rfl T.g_is_payload T.F_is_payload.kp T.b_is_payload .nil pass0 (pa_cons (pv 3) (pa_cons (pv 4) pa_nil))) (pa_cons (pe_call (ok_is_process T) (hr.mono (by decide)) rfl T.g_is_process T.F_is_process.kp T.b_is_process .nil pass0 (pa_cons (pv 3) (pa_cons (pv 5) pa_nil))) pa_nil))))
      (pss_cons (ps_set (i := 7) sc_law.nd rfl (Or.inl rfl) (pe_lst (pa_cons (pe_call (ok__law_is_payload T 6) (hr.mono (by decide)) rfl T.g__law_is_payload T.F__law_is_payload.kp T.b__law_is_payload .nil pass0 (pa_cons (pv 3) (pa_cons (pv 4) (pa_cons pe_int pa_nil)))) (pa_cons (pe_and (pe_call (ok__law_is_int T) (hr.mono (by decide)) rfl T.g__law_is_int T.F__law_is_int.kp T.b__law_is_int .nil pass0 (pa_cons (pv 3) (pa_cons pe_int (pa_cons pe_int pa_nil)))) (pe_one (pe_call (ok__law_is_int T) (hr.mono (by decide)) rfl T.g__law_is_int T.F__law_is_int.kp T.b__law_is_int .nil pass0 (pa_cons (pv 5) (pa_cons pe_int (pa_cons (pe_op op_sub (pv 3) pe_int) pa_nil)))))) pa_nil))))
      (pss_one (ps_if (PW.pt (pw_or (pt_not (pt_val (pe_callB call_isi (by rfl) T.n_isinstance (by decide +kernel) (pa_cons (pe_ix ix_list (pv 6) pe_int (fun _ _ => rfl)) (pa_cons (pe_bltn (v := .ty "bool") (u := .type "bool") rfl T.n_bool (by decide +kernel) rfl) pa_nil))))) (pw_or (pt_not (pt_val (pe_callB call_isi (by rfl) T.n_isinstance (by decide +kernel) (pa_cons (pe_ix ix_list (pv 6) pe_int (fun _ _ => rfl)) (pa_cons (pe_bltn (v := .ty "bool") (u := .type "bool") rfl T.n_bool (by decide +kernel) rfl) pa_nil))))) (pw_or1 (pt_cmpR (op_neD hr.units) (pv 6) (pv 7) (nomark _)))))) (pss_one (ps_ret pe_bl)) pss_nil))))))))))
      (pss_one (ps_ret (pe_and (pe_cmpR op_is_bl (pe_call (ok_is_payload T) (hr.mono (by decide)) rfl T.g_is_payload T.F_is_payload.kp T.b_is_payload .nil pass0 (pa_cons pe_int (pa_cons pe_non pa_nil))) pe_bl (nomark _)) (pe_one (pe_cmpR op_is_bl (pe_call (ok_is_payload T) (hr.mono (by decide)) rfl T.g_is_payload T.F_is_payload.kp T.b_is_payload .nil pass0 (pa_cons pe_int (pa_cons pe_str pa_nil))) pe_bl (nomark _))))))), ?_⟩
    refine ⟨_, rfl, a, _, rfl, .inl hS, _, _, rfl, _, _, rfl, _, rfl, by rw [List.length_map]; (repeat' split) <;> omega, by rw [List.length_map]; (repeat' split) <;> omega, ?_⟩
    refine for_range (lo := 0) (n := _) (fun i σ H' => (∃ v1 v2 v3 v4 v5 v6 v7 : Option V, σ = [some (.ref a), v1, v2, v3, v4, v5, v6, v7]) ∧ Kp [] H H') ⟨⟨_, _, _, _, _, _, _, rfl⟩, Kp.refl _ _⟩ ?_ ?_
    · rintro i σ Hi _ ⟨⟨v1, v2, v3, v4, v5, v6, v7, rfl⟩, ki⟩
      refine ⟨_, rfl, _, rfl, a, ns, 0 + i, rfl, ki.seq hS, by omega, fun p x y np => ?_⟩
      have b4 : Bag (upd Hi p (.lst [.int x, .int y, .int (0 + i)])) p := ⟨_, _, _, upd_same⟩
      have k4 := (Kp.refl [] Hi).new (o := .lst [.int x, .int y, .int (0 + i)]) np
      generalize upd Hi p (.lst [.int x, .int y, .int (0 + i)]) = H4 at *
      have pm : p ∈ [p] := by simp
      refine ⟨_, rfl, p, 10, rfl, b4, by decide, by decide +kernel, fun H5 r r0 r1 s5 => ⟨_, _, rfl, rfl, ?_⟩⟩
      refine ⟨_, rfl, _, rfl, p, 1 + r, [p], rfl, s5.2, by omega, by omega, pm, s5.2.al, fun H6 v d s6 hd sd => ?_⟩
      replace s6 := s5.trans s6
      refine ⟨_, rfl, _, rfl, p, 1 + r, rfl, s6.2, by omega, log_small (by omega) (by omega), fun H7 r7 _ _ s7 => ?_⟩
      refine ⟨_, rfl, _, rfl, fun v8 H8 k8 h8 => ⟨by show 7 ≤ sizeLine; decide, fun lq nlq => ?_⟩⟩
      have al8 := s7.2.al.ex k8
      have hl : ∃ ls, DW K [p] (upd H8 lq (.lst [.int r7, .int (1 + r), .int (-1), .bl true, .non, .str "0", v8])) (.ref lq) (.list ls) ∧ ls.length = 7 :=
        ⟨_, DWs.lst (.cons (.int _) (.cons (.int _) (.cons (.int _) (.cons (.bl _) (.cons .non (.cons (.str _) (.cons (h8 [p] s7.2.al) .nil))))))) al8 nlq, rfl⟩
      obtain ⟨ls, hl, ll⟩ := hl
      have k9 := k8.new (o := .lst [.int r7, .int (1 + r), .int (-1), .bl true, .non, .str "0", v8]) nlq
      generalize upd H8 lq (.lst [.int r7, .int (1 + r), .int (-1), .bl true, .non, .str "0", v8]) = H9 at *
      have s9 := s7.ex k9
      refine ⟨_, rfl, p, 7, rfl, s9.2, by decide, by decide +kernel, fun Ha ra ra0 ra1 sa => ?_⟩
      obtain ⟨j, rfl⟩ := Int.eq_ofNat_of_zero_le ra0
      have hj : j < ls.length := by omega
      refine ⟨[p], ls, j, ls[j], .inr (hl.kp sa.1), rfl, List.getElem?_eq_getElem hj, fun q hq => ?_⟩
      have s9a := s9.trans sa
      have s6a := s6.trans s9a
      replace hd := hd.kp s9a.1
      generalize ls[j] = dq at hq
      clear hl ll hj al8 h8 k8 k9 s9 sa s9a s7
      refine ⟨fun σ' H' => ∃ u c, σ' = [some (.ref a), some (.int (0 + i)), some (.ref p), some u, some v, some q, v6, v7] ∧ Stp p H4 H' ∧ DW K [p] H' u c ∧ DW K [p] H' v d ∧ DW K [p] H' q dq, ?_, ?_⟩
      · refine ⟨_, rfl, p, 5, rfl, s6a.2, by decide, by decide +kernel, fun H8 r8 _ _ s8 => ⟨rfl, _, rfl, iteD (fun c => ?_) (fun c => ?_)⟩⟩
        · refine fun la lxs H9 k9 n9 e9 h9 => ?_
          have hl : ∃ ds, DW K [p] H9 (.ref la) (.list ds) ∧ ds.length = 10 :=
            ⟨_, DWs.ref (DWs.wide (h9 [p] s8.2.al) fun x m => .inl (List.mem_cons_of_mem _ m)) e9 (s8.2.al.not n9), by decide⟩
          obtain ⟨ds, hl, ll⟩ := hl
          have s9 := s8.ex k9
          refine ⟨_, rfl, p, 10, rfl, s9.2, by decide, by decide +kernel, fun Ha ra ra0 ra1 sa => ?_⟩
          obtain ⟨j, rfl⟩ := Int.eq_ofNat_of_zero_le ra0
          have hj : j < ds.length := by omega
          refine ⟨[p], ds, j, ds[j], .inr (hl.kp sa.1), rfl, List.getElem?_eq_getElem hj, fun vb hb => ?_⟩
          exact ⟨_, _, rfl, s6a.trans (s9.trans sa), hb, hd.kp (s9.trans sa).1, hq.kp (s9.trans sa).1⟩
        · exact ⟨_, .int _, rfl, s6a.trans s8, .int _, hd.kp s8.1, hq.kp s8.1⟩
      clear hd hq s6a s6 s5
      rintro σ' H7 ⟨u, c, rfl, s7, hu', hv, hq⟩
      replace hu' := hu'.dp
      replace hv := hv.dp
      replace hq := hq.dp
      have kk := k4.thru s7.1 fun q m => by rw [List.mem_singleton.mp m]; exact np
      clear s7
      refine ⟨_, rfl, _, rfl, u, v, c, d, rfl, hu', hv, sd, fun H8 k8 => ?_⟩
      replace hu' := Dp.ex k8 _ _ hu'
      replace hv := Dp.ex k8 _ _ hv
      replace hq := Dp.ex k8 _ _ hq
      replace kk := kk.trans k8
      refine ⟨_, rfl, _, rfl, u, q, c, dq, rfl, hu', hq, by show 2 ≤ sizeLine; decide, fun la nla => ?_⟩
      have kl := (Kp.refl [] H8).new (o := .lst [.bl (isPay c d), .bl (isProc c dq)]) nla
      have gl : (upd H8 la (.lst [.bl (isPay c d), .bl (isProc c dq)])) la = some (.lst [.bl (isPay c d), .bl (isProc c dq)]) := upd_same
      generalize upd H8 la (.lst [.bl (isPay c d), .bl (isProc c dq)]) = H9 at *
      replace hu' := Dp.ex kl _ _ hu'
      replace hv := Dp.ex kl _ _ hv
      replace hq := Dp.ex kl _ _ hq
      replace kk := kk.trans kl
      refine ⟨_, rfl, _, rfl, u, v, c, d, 1, rfl, by decide, hu', hv, fun H10 k10 => ?_⟩
      replace hu' := Dp.ex k10 _ _ hu'
      replace hq := Dp.ex k10 _ _ hq
      replace gl := k10.at gl
      replace kk := kk.trans k10
      refine ⟨_, rfl, u, c, 1, 10, rfl, hu', _, rfl, ?_⟩
      have tb : ∀ b : Bool, SeqAt.shaped (.list [.bool (isPay c d), .bool b]) = true ∧ PyData.eqv (.list [.bool (isPay c d), .bool b]) (.list [.bool (isPay c d), .bool b]) = true := fun b =>
        ⟨(sh_list (n := 0) (all_cons (sh_bl _) (all_cons (sh_bl _) all_nil))).shaped, (sh_list (n := 0) (all_cons (sh_bl _) (all_cons (sh_bl _) all_nil))).refl⟩
      refine iteB (fun ec => ?_) (fun ec => ?_)
      · cases c with
        | int n =>
          cases hu'
          have em : (decide (1 ≤ n) && decide (n ≤ 10)) = true := ec
          have ep : isProc (.int n) dq = intIn dq 0 (n - 1) := by
            show (decide (1 ≤ n) && decide (n ≤ 10) && intIn dq 0 (n - 1)) = _
            rw [em]
            rfl
          refine ⟨_, rfl, _, rfl, _, _, rfl, rfl, q, dq, 0, n - 1, rfl, hq, ?_⟩
          rw [ep] at gl
          obtain ⟨t1, t2⟩ := tb (intIn dq 0 (n - 1))
          refine ⟨by show 2 ≤ sizeLine; decide, fun lb nlb => ?_⟩
          have kb := (Kp.refl [] H10).new (o := .lst [.bl (intIn (.int n) 1 10 && payIn (.int n) 6 d), .bl (intIn dq 0 (n - 1))]) nlb
          have gb : (upd H10 lb (.lst [.bl (intIn (.int n) 1 10 && payIn (.int n) 6 d), .bl (intIn dq 0 (n - 1))])) lb = some (.lst [.bl (intIn (.int n) 1 10 && payIn (.int n) 6 d), .bl (intIn dq 0 (n - 1))]) := upd_same
          replace gl := kb.at gl
          refine ⟨_, rfl, la, _, 0, _, rfl, rfl, SqL.of gl, rfl, _, _, _, _, true, rfl, .ty _, .base (.bl _), kit_ty (by decide +kernel), true, rfl, iteF ?_⟩
          refine ⟨_, rfl, la, _, 1, _, rfl, rfl, SqL.of gl, rfl, _, _, _, _, true, rfl, .ty _, .base (.bl _), kit_ty (by decide +kernel), true, rfl, iteF ?_⟩
          refine ⟨_, rfl, _, rfl, .list [.bool (isPay (.int n) d), .bool (intIn dq 0 (n - 1))], .list [.bool (isPay (.int n) d), .bool (intIn dq 0 (n - 1))], .lst (SqL.of gl) (.cons (.bl _) (.cons (.bl _) .nil)), .lst (SqL.of gb) (.cons (.bl _) (.cons (.bl _) .nil)), t1, t1, _, rfl, ?_⟩
          rw [t2]
          exact iteF ⟨⟨_, _, _, _, _, _, _, rfl⟩, (ki.trans kk).trans kb⟩
        | _ => cases ec
      · have ep : isProc c dq = false := by
          cases c with
          | int n =>
            have em : (decide (1 ≤ n) && decide (n ≤ 10)) = false := ec
            show (decide (1 ≤ n) && decide (n ≤ 10) && intIn dq 0 (n - 1)) = _
            rw [em]
            rfl
          | _ => rfl
        rw [ep] at gl
        obtain ⟨t1, t2⟩ := tb false
        refine ⟨by show 2 ≤ sizeLine; decide, fun lb nlb => ?_⟩
        have kb := (Kp.refl [] H10).new (o := .lst [.bl (intIn c 1 10 && payIn c 6 d), .bl false]) nlb
        have gb : (upd H10 lb (.lst [.bl (intIn c 1 10 && payIn c 6 d), .bl false])) lb = some (.lst [.bl (intIn c 1 10 && payIn c 6 d), .bl false]) := upd_same
        replace gl := kb.at gl
        refine ⟨_, rfl, la, _, 0, _, rfl, rfl, SqL.of gl, rfl, _, _, _, _, true, rfl, .ty _, .base (.bl _), kit_ty (by decide +kernel), true, rfl, iteF ?_⟩
        refine ⟨_, rfl, la, _, 1, _, rfl, rfl, SqL.of gl, rfl, _, _, _, _, true, rfl, .ty _, .base (.bl _), kit_ty (by decide +kernel), true, rfl, iteF ?_⟩
        refine ⟨_, rfl, _, rfl, .list [.bool (isPay c d), .bool false], .list [.bool (isPay c d), .bool false], .lst (SqL.of gl) (.cons (.bl _) (.cons (.bl _) .nil)), .lst (SqL.of gb) (.cons (.bl _) (.cons (.bl _) .nil)), t1, t1, _, rfl, ?_⟩
        rw [t2]
        exact iteF ⟨⟨_, _, _, _, _, _, _, rfl⟩, (ki.trans kk).trans kb⟩
    · rintro σ Hi ⟨_, ki⟩
      have o1 : PyData.strOk "show" = true := by decide +kernel
      refine ⟨.int 1, .non, .int 1, .none, rfl, .int 1, .non, sh_non, fun H1 k1 => ⟨_, _, rfl, rfl, _, rfl, iteT ?_⟩⟩
      exact ⟨.int 1, .str "show", .int 1, .str "show", rfl, .int 1, .str _, sh_str o1, fun H1 k1 => ⟨_, _, rfl, rfl, k _⟩⟩
end

def d_is_integer : He.DefD := ⟨("is_integer", none), "is_integer", "is_integer", defArgs s_is_integer, defBody s_is_integer, defScope s_is_integer, [], []⟩
def d_is_process : He.DefD := ⟨("is_process", none), "is_process", "is_process", defArgs s_is_process, defBody s_is_process, defScope s_is_process, [], []⟩
def d__is_item : He.DefD := ⟨("_is_item", none), "_is_item", "_is_item", defArgs s__is_item, defBody s__is_item, defScope s__is_item, [], []⟩
def d__is_nested : He.DefD := ⟨("_is_nested", none), "_is_nested", "_is_nested", defArgs s__is_nested, defBody s__is_nested, defScope s__is_nested, [], []⟩
def d_is_payload : He.DefD := ⟨("is_payload", none), "is_payload", "is_payload", defArgs s_is_payload, defBody s_is_payload, defScope s_is_payload, [], []⟩
def d__law_bag : He.DefD := ⟨("_law_bag", none), "_law_bag", "_law_bag", defArgs s__law_bag, defBody s__law_bag, defScope s__law_bag, [], []⟩
def d__law_draw : He.DefD := ⟨("_law_draw", none), "_law_draw", "_law_draw", defArgs s__law_draw, defBody s__law_draw, defScope s__law_draw, [], []⟩
def d__law_is_int : He.DefD := ⟨("_law_is_int", none), "_law_is_int", "_law_is_int", defArgs s__law_is_int, defBody s__law_is_int, defScope s__law_is_int, [], []⟩
def d__law_value : He.DefD := ⟨("_law_value", none), "_law_value", "_law_value", defArgs s__law_value, defBody s__law_value, defScope s__law_value, [], []⟩
def d__law_payload : He.DefD := ⟨("_law_payload", none), "_law_payload", "_law_payload", defArgs s__law_payload, defBody s__law_payload, defScope s__law_payload, [], []⟩
def d__law_shape : He.DefD := ⟨("_law_shape", none), "_law_shape", "_law_shape", defArgs s__law_shape, defBody s__law_shape, defScope s__law_shape, [], []⟩
def d__law_is_item : He.DefD := ⟨("_law_is_item", none), "_law_is_item", "_law_is_item", defArgs s__law_is_item, defBody s__law_is_item, defScope s__law_is_item, [], []⟩
def d__law_is_payload : He.DefD := ⟨("_law_is_payload", none), "_law_is_payload", "_law_is_payload", defArgs s__law_is_payload, defBody s__law_is_payload, defScope s__law_is_payload, [], []⟩
def d__law_spoilt : He.DefD := ⟨("_law_spoilt", none), "_law_spoilt", "_law_spoilt", defArgs s__law_spoilt, defBody s__law_spoilt, defScope s__law_spoilt, [], []⟩
def d__law_odd : He.DefD := ⟨("_law_odd", none), "_law_odd", "_law_odd", defArgs s__law_odd, defBody s__law_odd, defScope s__law_odd, [], []⟩
def d__law_wrapped : He.DefD := ⟨("_law_wrapped", none), "_law_wrapped", "_law_wrapped", defArgs s__law_wrapped, defBody s__law_wrapped, defScope s__law_wrapped, [], []⟩
def d__law_built : He.DefD := ⟨("_law_built", none), "_law_built", "_law_built", defArgs s__law_built, defBody s__law_built, defScope s__law_built, [], []⟩
def d_law : He.DefD := ⟨("law", none), "law", "law", defArgs s_law, defBody s_law, defScope s_law, [], []⟩
def fn : List He.DefD := [d_is_integer, d_is_process, d__is_item, d__is_nested, d_is_payload, d__law_bag, d__law_draw, d__law_is_int, d__law_value, d__law_payload, d__law_shape, d__law_is_item, d__law_is_payload, d__law_spoilt, d__law_odd, d__law_wrapped, d__law_built, d_law]
def fa : List He.Fa := [.glo "is_integer", .glo "is_process", .glo "_is_item", .glo "_is_nested", .glo "is_payload", .glo "_law_bag", .glo "_law_draw", .glo "_law_is_int", .glo "_law_value", .glo "_law_payload", .glo "_law_shape", .glo "_law_is_item", .glo "_law_is_payload", .glo "_law_spoilt", .glo "_law_odd", .glo "_law_wrapped", .glo "_law_built", .glo "law", .int "MOST_PROCESSES" 10, .int "CELLS" 4, .int "MOST_VALUE" (1000000), .int "MOST_NESTING" 6, .glo "SHAPES", .free "isinstance", .free "int", .free "bool", .free "tuple", .free "str", .free "len", .free "zip", .free "range", .free "max", .free "min"]
def ts : List He.Tab := [(fun K => He.ga K "SHAPES", ["set", "add", "copy", "send", "show", "both", "if"])]
def exs : List (PySem.W.Frag → Bool) := [fun K => dictB K (He.ga K "SHAPES") c_SHAPES]
def ex (K : PySem.W.Frag) : Bool := exs.all fun f => f K
abbrev R : PySem.W.OpenRow := PySem.W.OpenLaw.row PySem.Challenge.rw_firmground_k02_payloads
def loose : List Str := (["MOST_PROCESSES", "CELLS", "MOST_VALUE", "MOST_NESTING", "is_integer", "SHAPES", "is_process", "_is_item", "_is_nested", "is_payload", "_law_bag", "_law_draw", "_law_is_int", "_law_value", "_law_payload", "_law_shape", "_law_is_item", "_law_is_payload", "_law_spoilt", "_law_odd", "_law_wrapped", "_law_built"] : List Str)
abbrev hk : PySem.W.Hook := He.hookX 5 fa fn ts [] ex
def ob (s : PySem.W.SharedT) : He.AlX := He.obsX 5 fa fn ts [] ex (HandSHeadRun.getT s)
theorem ob_eq (s : PySem.W.SharedT) : ob s = hk.obs s.abs := He.obsX_eq (HandSHeadRun.getT_eq s)
set_option maxHeartbeats 0 in
theorem run : ∀ w : World, HandSHeadRun.RunEq R (PySem.W.view R.prog [25]) hk ob 60000 loose w := PySem.W.byRow2 "special-get-raises" (fun w => by
  intro os
  kernel_rfl) (fun w => by
  intro os
  kernel_rfl)
theorem txt_of {w : World} {K : PySem.W.Frag} {h h2 : Heap} {mg : Str → Option Value} (X : K.In h) (G : h.Ns mainGlobals mg) (c : He.SaysX fa fn ts [] ex w h2 K) : Nonempty (PLift (mg "law" = some (.ref (He.ga K "law")))) ∧ ∃ T : Txt w K mg, T.a_law = He.ga K "law" := by
  have exf : ∀ (i : Nat) {f : PySem.W.Frag → Bool}, exs[i]? = some f → f K = true := fun i f h => List.all_eq_true.mp (show (exs.all fun f => f K) = true from c.more) f (List.mem_of_getElem? h)
  obtain ⟨fd_is_integer, F_is_integer⟩ := c.t.d.def_ 0 (d := d_is_integer) rfl
  obtain ⟨fd_is_process, F_is_process⟩ := c.t.d.def_ 1 (d := d_is_process) rfl
  obtain ⟨fd__is_item, F__is_item⟩ := c.t.d.def_ 2 (d := d__is_item) rfl
  obtain ⟨fd__is_nested, F__is_nested⟩ := c.t.d.def_ 3 (d := d__is_nested) rfl
  obtain ⟨fd_is_payload, F_is_payload⟩ := c.t.d.def_ 4 (d := d_is_payload) rfl
  obtain ⟨fd__law_bag, F__law_bag⟩ := c.t.d.def_ 5 (d := d__law_bag) rfl
  obtain ⟨fd__law_draw, F__law_draw⟩ := c.t.d.def_ 6 (d := d__law_draw) rfl
  obtain ⟨fd__law_is_int, F__law_is_int⟩ := c.t.d.def_ 7 (d := d__law_is_int) rfl
  obtain ⟨fd__law_value, F__law_value⟩ := c.t.d.def_ 8 (d := d__law_value) rfl
  obtain ⟨fd__law_payload, F__law_payload⟩ := c.t.d.def_ 9 (d := d__law_payload) rfl
  obtain ⟨fd__law_shape, F__law_shape⟩ := c.t.d.def_ 10 (d := d__law_shape) rfl
  obtain ⟨fd__law_is_item, F__law_is_item⟩ := c.t.d.def_ 11 (d := d__law_is_item) rfl
  obtain ⟨fd__law_is_payload, F__law_is_payload⟩ := c.t.d.def_ 12 (d := d__law_is_payload) rfl
  obtain ⟨fd__law_spoilt, F__law_spoilt⟩ := c.t.d.def_ 13 (d := d__law_spoilt) rfl
  obtain ⟨fd__law_odd, F__law_odd⟩ := c.t.d.def_ 14 (d := d__law_odd) rfl
  obtain ⟨fd__law_wrapped, F__law_wrapped⟩ := c.t.d.def_ 15 (d := d__law_wrapped) rfl
  obtain ⟨fd__law_built, F__law_built⟩ := c.t.d.def_ 16 (d := d__law_built) rfl
  obtain ⟨fd_law, F_law⟩ := c.t.d.def_ 17 (d := d_law) rfl
  obtain ⟨u_MOST_PROCESSES, g_MOST_PROCESSES⟩ := He.int_ok X G (c.t.d.fact 18 (f := .int "MOST_PROCESSES" 10) rfl)
  obtain ⟨u_CELLS, g_CELLS⟩ := He.int_ok X G (c.t.d.fact 19 (f := .int "CELLS" 4) rfl)
  obtain ⟨u_MOST_VALUE, g_MOST_VALUE⟩ := He.int_ok X G (c.t.d.fact 20 (f := .int "MOST_VALUE" (1000000)) rfl)
  obtain ⟨u_MOST_NESTING, g_MOST_NESTING⟩ := He.int_ok X G (c.t.d.fact 21 (f := .int "MOST_NESTING" 6) rfl)
  refine ⟨⟨⟨He.glo_ok X G (c.t.d.fact 17 (f := .glo "law") rfl)⟩⟩, ⟨{
    a_is_integer := He.ga K "is_integer"
    fd_is_integer := fd_is_integer
    F_is_integer := F_is_integer
    b_is_integer := FunD.bindsN (ps := ["value", "least", "greatest"]) F_is_integer fun _ _ _ _ _ _ us hl => match us, hl with | [_, _, _], _ => rfl
    g_is_integer := He.glo_ok X G (c.t.d.fact 0 (f := .glo "is_integer") rfl)
    a_is_process := He.ga K "is_process"
    fd_is_process := fd_is_process
    F_is_process := F_is_process
    b_is_process := FunD.bindsN (ps := ["count", "value"]) F_is_process fun _ _ _ _ _ _ us hl => match us, hl with | [_, _], _ => rfl
    g_is_process := He.glo_ok X G (c.t.d.fact 1 (f := .glo "is_process") rfl)
    a__is_item := He.ga K "_is_item"
    fd__is_item := fd__is_item
    F__is_item := F__is_item
    b__is_item := FunD.bindsN (ps := ["count", "part", "value", "depth"]) F__is_item fun _ _ _ _ _ _ us hl => match us, hl with | [_, _, _, _], _ => rfl
    g__is_item := He.glo_ok X G (c.t.d.fact 2 (f := .glo "_is_item") rfl)
    a__is_nested := He.ga K "_is_nested"
    fd__is_nested := fd__is_nested
    F__is_nested := F__is_nested
    b__is_nested := FunD.bindsN (ps := ["count", "value", "depth"]) F__is_nested fun _ _ _ _ _ _ us hl => match us, hl with | [_, _, _], _ => rfl
    g__is_nested := He.glo_ok X G (c.t.d.fact 3 (f := .glo "_is_nested") rfl)
    a_is_payload := He.ga K "is_payload"
    fd_is_payload := fd_is_payload
    F_is_payload := F_is_payload
    b_is_payload := FunD.bindsN (ps := ["count", "value"]) F_is_payload fun _ _ _ _ _ _ us hl => match us, hl with | [_, _], _ => rfl
    g_is_payload := He.glo_ok X G (c.t.d.fact 4 (f := .glo "is_payload") rfl)
    a__law_bag := He.ga K "_law_bag"
    fd__law_bag := fd__law_bag
    F__law_bag := F__law_bag
    b__law_bag := FunD.bindsN (ps := ["_law_script", "_law_k"]) F__law_bag fun _ _ _ _ _ _ us hl => match us, hl with | [_, _], _ => rfl
    g__law_bag := He.glo_ok X G (c.t.d.fact 5 (f := .glo "_law_bag") rfl)
    a__law_draw := He.ga K "_law_draw"
    fd__law_draw := fd__law_draw
    F__law_draw := F__law_draw
    b__law_draw := FunD.bindsN (ps := ["_law_bag_here", "_law_many"]) F__law_draw fun _ _ _ _ _ _ us hl => match us, hl with | [_, _], _ => rfl
    g__law_draw := He.glo_ok X G (c.t.d.fact 6 (f := .glo "_law_draw") rfl)
    a__law_is_int := He.ga K "_law_is_int"
    fd__law_is_int := fd__law_is_int
    F__law_is_int := F__law_is_int
    b__law_is_int := FunD.bindsN (ps := ["_law_value_here", "_law_least", "_law_most"]) F__law_is_int fun _ _ _ _ _ _ us hl => match us, hl with | [_, _, _], _ => rfl
    g__law_is_int := He.glo_ok X G (c.t.d.fact 7 (f := .glo "_law_is_int") rfl)
    a__law_value := He.ga K "_law_value"
    fd__law_value := fd__law_value
    F__law_value := F__law_value
    b__law_value := FunD.bindsN (ps := ["_law_bag_here"]) F__law_value fun _ _ _ _ _ _ us hl => match us, hl with | [_], _ => rfl
    g__law_value := He.glo_ok X G (c.t.d.fact 8 (f := .glo "_law_value") rfl)
    a__law_payload := He.ga K "_law_payload"
    fd__law_payload := fd__law_payload
    F__law_payload := F__law_payload
    b__law_payload := FunD.bindsN (ps := ["_law_bag_here", "_law_count", "_law_depth"]) F__law_payload fun _ _ _ _ _ _ us hl => match us, hl with | [_, _, _], _ => rfl
    g__law_payload := He.glo_ok X G (c.t.d.fact 9 (f := .glo "_law_payload") rfl)
    a__law_shape := He.ga K "_law_shape"
    fd__law_shape := fd__law_shape
    F__law_shape := F__law_shape
    b__law_shape := FunD.bindsN (ps := ["_law_kind"]) F__law_shape fun _ _ _ _ _ _ us hl => match us, hl with | [_], _ => rfl
    g__law_shape := He.glo_ok X G (c.t.d.fact 10 (f := .glo "_law_shape") rfl)
    a__law_is_item := He.ga K "_law_is_item"
    fd__law_is_item := fd__law_is_item
    F__law_is_item := F__law_is_item
    b__law_is_item := FunD.bindsN (ps := ["_law_count", "_law_form", "_law_value_here", "_law_depth"]) F__law_is_item fun _ _ _ _ _ _ us hl => match us, hl with | [_, _, _, _], _ => rfl
    g__law_is_item := He.glo_ok X G (c.t.d.fact 11 (f := .glo "_law_is_item") rfl)
    a__law_is_payload := He.ga K "_law_is_payload"
    fd__law_is_payload := fd__law_is_payload
    F__law_is_payload := F__law_is_payload
    b__law_is_payload := FunD.bindsN (ps := ["_law_count", "_law_value_here", "_law_depth"]) F__law_is_payload fun _ _ _ _ _ _ us hl => match us, hl with | [_, _, _], _ => rfl
    g__law_is_payload := He.glo_ok X G (c.t.d.fact 12 (f := .glo "_law_is_payload") rfl)
    a__law_spoilt := He.ga K "_law_spoilt"
    fd__law_spoilt := fd__law_spoilt
    F__law_spoilt := F__law_spoilt
    b__law_spoilt := FunD.bindsN (ps := ["_law_bag_here", "_law_value_here", "_law_odd_here"]) F__law_spoilt fun _ _ _ _ _ _ us hl => match us, hl with | [_, _, _], _ => rfl
    g__law_spoilt := He.glo_ok X G (c.t.d.fact 13 (f := .glo "_law_spoilt") rfl)
    a__law_odd := He.ga K "_law_odd"
    fd__law_odd := fd__law_odd
    F__law_odd := F__law_odd
    b__law_odd := FunD.bindsN (ps := ["_law_bag_here", "_law_count"]) F__law_odd fun _ _ _ _ _ _ us hl => match us, hl with | [_, _], _ => rfl
    g__law_odd := He.glo_ok X G (c.t.d.fact 14 (f := .glo "_law_odd") rfl)
    a__law_wrapped := He.ga K "_law_wrapped"
    fd__law_wrapped := fd__law_wrapped
    F__law_wrapped := F__law_wrapped
    b__law_wrapped := FunD.bindsN (ps := ["_law_bag_here", "_law_value_here"]) F__law_wrapped fun _ _ _ _ _ _ us hl => match us, hl with | [_, _], _ => rfl
    g__law_wrapped := He.glo_ok X G (c.t.d.fact 15 (f := .glo "_law_wrapped") rfl)
    a__law_built := He.ga K "_law_built"
    fd__law_built := fd__law_built
    F__law_built := F__law_built
    b__law_built := FunD.bindsN (ps := ["_law_bag_here", "_law_count"]) F__law_built fun _ _ _ _ _ _ us hl => match us, hl with | [_, _], _ => rfl
    g__law_built := He.glo_ok X G (c.t.d.fact 16 (f := .glo "_law_built") rfl)
    a_law := He.ga K "law"
    fd_law := fd_law
    F_law := F_law
    b_law := FunD.bindsN (ps := ["_law_script"]) F_law fun _ _ _ _ _ _ us hl => match us, hl with | [_], _ => rfl
    g_law := He.glo_ok X G (c.t.d.fact 17 (f := .glo "law") rfl)
    u_MOST_PROCESSES := Value.int (10) u_MOST_PROCESSES
    g_MOST_PROCESSES := g_MOST_PROCESSES
    r_MOST_PROCESSES := ⟨_, rfl⟩
    u_CELLS := Value.int (4) u_CELLS
    g_CELLS := g_CELLS
    r_CELLS := ⟨_, rfl⟩
    u_MOST_VALUE := Value.int ((1000000)) u_MOST_VALUE
    g_MOST_VALUE := g_MOST_VALUE
    r_MOST_VALUE := ⟨_, rfl⟩
    u_MOST_NESTING := Value.int (6) u_MOST_NESTING
    g_MOST_NESTING := g_MOST_NESTING
    r_MOST_NESTING := ⟨_, rfl⟩
    a_SHAPES := He.ga K "SHAPES"
    g_SHAPES := He.glo_ok X G (c.t.d.fact 22 (f := .glo "SHAPES") rfl)
    r_SHAPES := rfl
    kd_SHAPES := ⟨c.t.tab 0, (exf 0 rfl)⟩
    n_isinstance := He.free_ok X G (c.t.d.fact 23 (f := .free "isinstance") rfl)
    n_int := He.free_ok X G (c.t.d.fact 24 (f := .free "int") rfl)
    n_bool := He.free_ok X G (c.t.d.fact 25 (f := .free "bool") rfl)
    n_tuple := He.free_ok X G (c.t.d.fact 26 (f := .free "tuple") rfl)
    n_str := He.free_ok X G (c.t.d.fact 27 (f := .free "str") rfl)
    n_len := He.free_ok X G (c.t.d.fact 28 (f := .free "len") rfl)
    n_zip := He.free_ok X G (c.t.d.fact 29 (f := .free "zip") rfl)
    n_range := He.free_ok X G (c.t.d.fact 30 (f := .free "range") rfl)
    n_max := He.free_ok X G (c.t.d.fact 31 (f := .free "max") rfl)
    n_min := He.free_ok X G (c.t.d.fact 32 (f := .free "min") rfl) }, rfl⟩⟩
end Fg

open PySem PySem.W PySem.Calls PyProof.Rows
set_option maxRecDepth 100000 in
set_option maxHeartbeats 0 in
theorem PySem.Challenge.cw_firmground_k02_payloads_holds : PySem.Challenge.rw_firmground_k02_payloads.Holds := by
  w_on; o_law
  refine HandSHeadRun.head_any (r := OpenLaw.row PySem.Challenge.rw_firmground_k02_payloads) (q := view (OpenLaw.row PySem.Challenge.rw_firmground_k02_payloads).prog [25]) (H := Fg.hk) (ob := Fg.ob) (M := 60000) (loose := Fg.loose) (d := HandSHeadRun.topDef (OpenLaw.row PySem.Challenge.rw_firmground_k02_payloads).prog 25) (kwd := []) Fg.ob_eq
    (by kernel_rfl) (fun s => by kernel_rfl) Fg.run (by kernel_rfl) (by kernel_rfl) (by kernel_rfl) (by rfl) (by first | assumption | decide +kernel) (by decide +kernel) ⟨rfl, rfl, rfl, rfl, rfl, by decide +kernel⟩ ?hw ?hc
  case hw => w_witness2
  case hc =>
    refine L2.walk_ofE (l := PySem.Challenge.rw_firmground_k02_payloads) (n := 63) (k := 20) (x := "_law_script") (CX := L2.CX0) rfl (by decide) (by kernel_rfl) ⟨rfl, by decide, by decide⟩ ?F (fun _ _ _ _ z => z)
    intro w mg fa h Y G hmg0
    obtain ⟨K, KX, c⟩ := Y
    have hmg : mg ("law" : PySem.Str) = some (.ref fa) := by
      have e : (HandSHeadRun.topDef (OpenLaw.row PySem.Challenge.rw_firmground_k02_payloads).prog 25).name = ("law" : PySem.Str) := by kernel_rfl
      rw [← e]
      exact hmg0
    obtain ⟨⟨⟨e0⟩⟩, T, eT⟩ := Fg.txt_of KX G c
    have e1 : fa = T.a_law := by
      rw [e0] at hmg
      rw [eT]
      injection hmg with hmg
      injection hmg with hmg
      exact hmg.symm
    refine ⟨K, T.fd_law, Fg.spLaw K, KX, fun s v => L2.FunD.bindsA (ps := ["_law_script"]) T.F_law (fun _ _ _ _ _ _ us hl => match us, hl with | [_], _ => rfl) s [v] rfl, fun H a ns hl _ hS => Fg.sp_in H a ns hl hS, fun base _ _ => ?_⟩
    rw [e1]
    exact Fg.ok_law T
#print axioms PySem.Challenge.cw_firmground_k02_payloads_holds
