import PyProof.Rows.All
import Wide.All
import OpenK.AllK
import Wide.FinOn
import KE.KStateDown
import Lean
import HandS.ForMost
import HandS.ForExc
import HandS.Defaults
import HandS.More
import HandS.Small
import HandS.ExcInit
import HandS.ExcField
import HandS.IsInst
import HandS.Flow
import HandS.Style
import HandS.Steps
import HandS.Evl
import HandS.Wide
import HandS.TupAny
import HandS.TupMul
import HandS.TupLe
import HandS.Walk
import HandS.Zip
import HandS.StrMore
import HandS.StrSplit
import HandS.Deep
import HandS.DictComp
import HandS.SortInts
import HandS.TryMany
import HandS.Head0
import HandS.Head1
import HandS.Head2
import HandS.HeadEnd
import HandS.HeadHook1
import HandS.HeadHook2
import HandS.HeadHook3
import HandS.HeadHook4
import PySem.Challenge.RW_firmground_k06_clocks
set_option Elab.async false
set_option linter.all false
set_option maxRecDepth 100000
set_option maxHeartbeats 4000000
/-! Words shared by the proofs about the given program. -/
namespace L2
open PySem PySem.Spec PyProof.Rows

/-! ### raise C() of an own class without arguments -/
section
variable {X : Cx} {C : Addr} {bmB : List Value} {B newId initId : String}
theorem pmk_own0 {x : Str} {p pos : Pos} (F : ExcBaseFacts B newId initId bmB) (q : PySem.W.excIn X.K C bmB newId = true) (gC : X.mg x = some (.ref C)) (kC : PySem.W.keepIn X.K (.ref C) = true) (r : Raises X (.ref C)) (hg : Gl X x)
    (hdb : (x == ("__debug__" : Str)) = false := by decide) : PMk X (.Call (.Name x p) [] [] pos) (fun _ H Q => Q (.ref C) none H) := by
  intro pins s σ H Q I h
  refine wpAny_Call_Name_kw (ld_glob I hg gC ?_ hdb)
  refine PySem.W.callWith_K0 I.kIn kC ?_
  obtain ⟨hp, g, dd0, tk, os⟩ := s
  obtain ⟨bm, N, nm, qn, bs, hdct, sn, sub, ab, col, dd, k0, k1, k2, k3, k5, mN, hC, hN, hni, T⟩ := exc_obj I.kIn q
  refine wpAny_call_exc_subT F T hC hN hni (fun h' e hm => ?_) (Nat.zero_le _)
  exact mk_of I hm r h (I.hok.gone hm.new)
end

/-! ### an own class over ValueError with an __init__ of its own: a check -/
def oexB (K : PySem.W.Frag) (C : Addr) : Bool := (match K.lookup C with
  | some ⟨.type "type", _, .cls cd, sl⟩ => (match cd.mro, sl.toList with
    | .ref C' :: bm, [_, _, _, _, some (.builtin n), _] => C' == C && n == "ValueError.__new__" && !cd.hasDel && cd.hasDict && PySem.HandSPX.refsVE bm
    | _, _ => false)
  | _ => false) && decide (PySem.W.findIn K (.ref C) "__setattr__" = some (some (.builtin "object.__setattr__"))) && decide (PySem.W.subIn K (.ref C) (.type "BaseException") = some true) &&
    decide (PySem.W.typeIn K (.ref C) = some (.type "type")) && PySem.W.keepIn K (.ref C)
theorem oexB_ok {K : PySem.W.Frag} {C : Addr} (h : oexB K C = true) : OexC K C := by
  unfold oexB at h
  simp only [Bool.and_eq_true] at h
  obtain ⟨⟨⟨⟨h, h1⟩, h2⟩, h3⟩, h4⟩ := h
  refine ⟨?_, of_decide_eq_true h1, of_decide_eq_true h2, of_decide_eq_true h3, h4⟩
  split at h
  · rename_i dd cd sl ho
    split at h
    · rename_i C' bm k0 k1 k2 k3 n k5 hm hs
      simp only [Bool.and_eq_true, beq_iff_eq, Bool.not_eq_true'] at h
      obtain ⟨⟨⟨⟨rfl, rfl⟩, hdel⟩, hdi⟩, hr⟩ := h
      obtain ⟨nm, bs, mro, ns, qn, hd, sn, sub, ab, col, del⟩ := cd
      dsimp only at hm hdel hdi
      subst hm hdel hdi
      have hsl : sl = #[k0, k1, k2, k3, some (.builtin "ValueError.__new__"), k5] := by
        obtain ⟨l⟩ := sl
        simp only at hs
        rw [hs]
      subst hsl
      exact ⟨nm, qn, ns, bs, bm, sn, sub, ab, col, dd, k0, k1, k2, k3, k5, ho, hr⟩
    · cases h
  · cases h
/-! ### methods and makers that may raise, within a try: the wish at the caller's slots -/
def tMethE (C : Addr) (m : Str) (sp : Sp) (E : St → XK) (ta : TE) (t : TA) : TE := fun σ H Q => ta σ H fun x H1 => ∃ a dx fs, x = .ref a ∧ H1 a = some (.ins C dx fs) ∧ fs.lookup m = none ∧ t σ H1 fun vs H2 => sp (x :: vs) H2 Q (E σ)
def tMakeE (C : Addr) (sp : Sp) (E : St → XK) (t : TA) : TE := fun σ H Q => t σ H fun vs H1 => ∀ x dx, H1 x = none → H1 dx = none → dx ≠ x →
  sp (.ref x :: vs) (upd (upd H1 dx (.own x)) x (.ins C dx [])) (fun v H2 => v = .non ∧ Q (.ref x) H2) (E σ)
section
variable {X : Cx} {CX : CXT} {k : Nat} {f C : Addr} {fd : FuncData} {ps : List Str} {sp : Sp} {E : St → XK} {x m : Str} {p pos apos : Pos} {e o : Expr} {es : List Expr} {ta : TE} {t : TA}
theorem pe_methE {pl : Sem Bool} (F : FnOk X.prog X.w X.K X.mg X.base CX k f fd ps sp) (cC : Cls X.K C) (mM : Meth X.K C m f) (rm : Room k X.A) (bs : Binds X.K fd ps []) (pass : ∀ σ, PassesAt CX X σ (E σ)) (ho : PE X o ta) (ha : PA X (e :: es) t)
    (h1 : starEach (e :: es) X.env = (false, eval e X.env) :: starEach es X.env := by rfl) (h2 : (backTo pos (starEach es X.env)).any (·.1) = false := by rfl)
    (h3 : eval (.Call (.Attribute o m apos) (e :: es) [] pos) X.env = (do let ov ← eval o X.env; standAt apos.atName; let (f, first) ← holding [ov] (getMethod ov m pl); callWith pos f first (backTo pos (starEach (e :: es) X.env)) (backToKw pos (keywordEach [] X.env))) := by rfl) :
    PE X (.Call (.Attribute o m apos) (e :: es) [] pos) (tMethE C m sp E ta t) := by
  constructor
  intro pins s σ H Q I hq
  apply PySem.W.methodCall_KW (pl := pl) _ h3
  apply thn (ho.run pins s σ H _ I hq)
  intro u s1 z
  obtain ⟨y, H1, J, ry, a, dx, fs, ey, ia, nl, q⟩ := z
  subst ey
  cases (show u = Value.ref a from ry)
  apply getmeth_ok J ia cC mM nl
  apply PySem.W.callWith_K (first := [.ref a]) (h₀ := X.base) I.ok.mod.kin mM.kp _ h1 h2
  apply thn (ha.run pos pins s1 σ H1 _ J q)
  intro us s2 z
  obtain ⟨vs, H2, J2, rv, q2⟩ := z
  exact ⟨J2.kIn, run_fnS (us := .ref a :: us) (vs := .ref a :: vs) F rm bs (pass σ) J2 (.cons rfl rv) q2⟩
theorem pe_meth0E {pl : Sem Bool} (F : FnOk X.prog X.w X.K X.mg X.base CX k f fd ps sp) (cC : Cls X.K C) (mM : Meth X.K C m f) (rm : Room k X.A) (bs : Binds X.K fd ps []) (pass : ∀ σ, PassesAt CX X σ (E σ)) (ho : PE X o ta)
    (h3 : eval (.Call (.Attribute o m apos) [] [] pos) X.env = (do let ov ← eval o X.env; standAt apos.atName; let (f, first) ← holding [ov] (getMethod ov m pl); callWith pos f first (backTo pos (starEach [] X.env)) (backToKw pos (keywordEach [] X.env))) := by rfl) :
    PE X (.Call (.Attribute o m apos) [] [] pos) (tMethE C m sp E ta tNil) := by
  constructor
  intro pins s σ H Q I hq
  apply PySem.W.methodCall_KW (pl := pl) _ h3
  apply thn (ho.run pins s σ H _ I hq)
  intro u s1 z
  obtain ⟨y, H1, J, ry, a, dx, fs, ey, ia, nl, q⟩ := z
  subst ey
  cases (show u = Value.ref a from ry)
  apply getmeth_ok J ia cC mM nl
  exact PySem.W.callWith_K0 (first := [.ref a]) J.kIn mM.kp (run_fnS (us := [.ref a]) (vs := [.ref a]) F rm bs (pass σ) J (.cons rfl .nil) q)
theorem run_makeE {pins : List (Addr × Obj)} {σ : St} {H : Hp} {s : Shared} {Q : VK} {us : List Value} {vs : List V} (M : Mk X.K C f) (F : FnOk X.prog X.w X.K X.mg X.base CX k f fd ps sp) (rm : Room (k + 1) X.A) (bs : Binds X.K fd ps [])
    (pass : ∀ H0 s0 e s', Inv X pins σ H0 s0 → CX X.stack H0 s0 (E σ) e s' → X.xe e s') (I : Inv X pins σ H s) (r : Vals vs us)
    (h : ∀ x dx, H x = none → H dx = none → dx ≠ x → sp (.ref x :: vs) (upd (upd H dx (.own x)) x (.ins C dx [])) (fun v H2 => v = .non ∧ Q (.ref x) H2) (E σ)) :
    wpAny (model X.prog X.w) X.A (call (.ref C) us) (EP X pins σ Q) X.xe s := by
  have hq := h (s.heap.objs.size + 1) s.heap.objs.size (I.hok.fresh (Nat.le_succ _)) (I.hok.fresh (Nat.le_refl _)) (Nat.ne_of_lt (Nat.lt_succ_self _))
  have J := Inv.made (C := C) I
  have rr : Vals (V.ref (s.heap.objs.size + 1) :: vs) (Value.ref (s.heap.objs.size + 1) :: us) := .cons rfl r
  have hl : (Value.ref (s.heap.objs.size + 1) :: us).length = ps.length := by rw [← rr.length]; exact F.len _ _ _ _ hq
  have hb := bs _ (Value.ref (s.heap.objs.size + 1) :: us) J.kIn (by rw [List.append_nil]; exact hl)
  rw [List.append_nil] at hb
  apply wpAny_call
  apply make_map (f := f) I.kIn M.makes M.init (beq_iff_eq.mp M.fn)
  apply codeAny_mono (F.run _ X.stack _ _ ⟨Value.ref (s.heap.objs.size + 1) :: us, []⟩ (Value.ref (s.heap.objs.size + 1) :: us) _ _ (E σ) (rm.make C us []) (J.env0.make C us []) hb rr hq)
  intro res s' z
  match res, z with
  | .error e, z => exact pass _ _ e s' J z
  | .ok (.ret u), z =>
    obtain ⟨v, H', I3, rv, ev, q3⟩ := J.after z
    subst ev
    exact ⟨rv, ⟨V.ref (s.heap.objs.size + 1), H', I3, rfl, q3⟩⟩
  | .ok .next, z => exact z.elim
  | .ok .brk, z => exact z.elim
  | .ok .cont, z => exact z.elim
theorem pe_makeE (M : Mk X.K C f) (F : FnOk X.prog X.w X.K X.mg X.base CX k f fd ps sp) (rm : Room (k + 1) X.A) (hg : Gl X x) (hm : X.mg x = some (.ref C)) (bs : Binds X.K fd ps []) (pass : ∀ σ, PassesAt CX X σ (E σ)) (ha : PA X (e :: es) t)
    (h0 : (x == ("__debug__" : Str)) = false := by decide) (h1 : starEach (e :: es) X.env = (false, eval e X.env) :: starEach es X.env := by rfl) (h2 : (backTo pos (starEach es X.env)).any (·.1) = false := by rfl) :
    PE X (.Call (.Name x p) (e :: es) [] pos) (tMakeE C sp E t) := by
  constructor
  intro pins s σ H Q I hq
  apply wpAny_Call_Name_kw
  apply ld_glob I hg hm _ h0
  apply PySem.W.callWith_K (h₀ := X.base) I.ok.mod.kin M.kp _ h1 h2
  apply thn (ha.run pos pins s σ H _ I hq)
  intro us s1 z
  obtain ⟨vs, H1, J, rv, q⟩ := z
  exact ⟨J.kIn, run_makeE M F rm bs (fun H0 s0 e s' => pass σ pins H0 s0 e s') J rv q⟩
end
/-- nothing leaves a callee -/
theorem pass0f {X : Cx} : Passes CX0 X (fun _ _ _ => False) := pass0

/-- len and list() of a list, a tuple, by the written part -/
def rLenQ (K : PySem.W.Frag) : List V → Hp → VK → Prop := fun xs H Q => ∃ p ys, xs = [.ref p] ∧ (SqL K H p ys ∨ SqT K H p ys) ∧ Q (.int ys.length) H
def rListQ (K : PySem.W.Frag) : List V → Hp → VK → Prop := fun xs H Q => ∃ p ys, xs = [.ref p] ∧ (SqL K H p ys ∨ SqT K H p ys) ∧ ∀ l, H l = none → Q (.ref l) (upd H l (.lst ys))
/-! ### raise of an own class with two fields -/
theorem del_back {H H2 : Hp} {a d : Addr} {o : HO} (n : H a = none) (k : ∀ b, b ≠ a → b ≠ d → H2 b = H b) : upd (del H2 a) d o = upd H d o := by
  funext b
  by_cases hb : b = d
  · rw [hb, upd_same, upd_same]
  · rw [upd_ne hb, upd_ne hb]
    by_cases ha : b = a
    · rw [ha, del_same, n]
    · rw [del_ne ha, k b ha hb]

/-! ### attributes by place -/
theorem lk0 (f : Str) (v : V) (r : List (Str × V)) : List.lookup f ((f, v) :: r) = some v := by simp [List.lookup]
theorem lk1 {f g : Str} {v : V} {r : List (Str × V)} {o : Option V} (h : (f == g) = false) (k : List.lookup f r = o) : List.lookup f ((g, v) :: r) = o := by simp [List.lookup, h, k]
theorem lkn (f : Str) : List.lookup f ([] : List (Str × V)) = none := rfl
theorem pf0 (f : Str) (v x : V) (r : List (Str × V)) : putF f v ((f, x) :: r) = (f, v) :: r := if_pos rfl
theorem pf1 {f g : Str} {v x : V} {r s : List (Str × V)} (h : (g == f) = false) (k : putF f v r = s) : putF f v ((g, x) :: r) = (g, x) :: s := by
  have e : ¬ g = f := by simpa using h
  show (if g = f then (g, v) :: r else (g, x) :: putF f v r) = (g, x) :: s
  rw [if_neg e, k]
theorem pfn (f : Str) (v : V) : putF f v [] = [(f, v)] := rfl

/-! ### heaps -/
/-- all tracked objects stay, but for those at W -/
def Kp (W : List Addr) (H H' : Hp) : Prop := ∀ b o, H b = some o → b ∉ W → H' b = some o
theorem Kp.refl (W : List Addr) (H : Hp) : Kp W H H := fun _ _ e _ => e
theorem Kp.trans {W : List Addr} {H H1 H2 : Hp} (a : Kp W H H1) (b : Kp W H1 H2) : Kp W H H2 := fun c o e h => b c o (a c o e h) h
theorem Kp.mono {W V : List Addr} {H H1 : Hp} (a : Kp W H H1) (s : ∀ x ∈ W, x ∈ V) : Kp V H H1 := fun c o e h => a c o e fun m => h (s c m)
theorem Kp.new {W : List Addr} {H H1 : Hp} (a : Kp W H H1) {p : Addr} {o : HO} (n : H1 p = none) : Kp W H (upd H1 p o) := fun c u e h => by
  have z := a c u e h
  rw [upd_ne (ne_of_none z n)]
  exact z
/-- a store to what was free ahead -/
theorem Kp.own {W : List Addr} {H H1 : Hp} (a : Kp W H H1) {p : Addr} {o : HO} (n : H p = none) : Kp W H (upd H1 p o) := fun c u e h => by
  rw [upd_ne (ne_of_none e n)]
  exact a c u e h
theorem Kp.at {H H1 : Hp} (a : Kp [] H H1) {p : Addr} {o : HO} (e : H p = some o) : H1 p = some o := a p o e (by simp)
theorem Kp.put {W : List Addr} {H H1 : Hp} (a : Kp W H H1) {p : Addr} {o : HO} (n : p ∈ W) : Kp W H (upd H1 p o) := fun c u e h => by
  rw [upd_ne (show c ≠ p from fun z => h (by rw [z]; exact n))]
  exact a c u e h
theorem Kp.free {H H1 : Hp} (a : Kp [] H H1) {p : Addr} (n : H1 p = none) : H p = none := by
  cases e : H p with
  | none => rfl
  | some o =>
    rw [a p o e (by simp)] at n
    cases n
/-- what was free and is not at W stays free where it is free behind -/
theorem Kp.freeW {W : List Addr} {H H1 : Hp} (a : Kp W H H1) {p : Addr} (n : H1 p = none) (h : ∀ q ∈ W, ∃ o, H1 q = some o) : H p = none := by
  cases e : H p with
  | none => rfl
  | some o =>
    by_cases m : p ∈ W
    · obtain ⟨u, hu⟩ := h p m
      rw [n] at hu
      cases hu
    · rw [a p o e m] at n
      cases n

/-! ### tuples stay -/
/-- every tuple stays -/
def KTu (K : PySem.W.Frag) (H H' : Hp) : Prop := ∀ a xs, SqT K H a xs → SqT K H' a xs
theorem KTu.refl (K : PySem.W.Frag) (H : Hp) : KTu K H H := fun _ _ h => h
theorem KTu.trans {K : PySem.W.Frag} {H H1 H2 : Hp} (a : KTu K H H1) (b : KTu K H1 H2) : KTu K H H2 := fun c xs h => b c xs (a c xs h)
theorem KTu.of_rd {K : PySem.W.Frag} {H H' : Hp} (h : ∀ a xs, Rd H a (.tup xs) → Rd H' a (.tup xs)) : KTu K H H' := fun a xs z => z.elim (fun r => .inl (h a xs r)) .inr
theorem KTu.upd {K : PySem.W.Frag} {H : Hp} {p : Addr} {o : HO} (h : ∀ xs, ¬ Rd H p (.tup xs)) : KTu K H (upd H p o) := KTu.of_rd fun a xs r => by
  have ne : a ≠ p := fun z => h xs (z ▸ r)
  rcases r with r | ⟨u, r⟩
  · exact .inl (by rw [upd_ne ne]; exact r)
  · exact .inr ⟨u, by rw [upd_ne ne]; exact r⟩
theorem KTu.new {K : PySem.W.Frag} {H : Hp} {p : Addr} {o : HO} (n : H p = none) : KTu K H (L2.upd H p o) := KTu.upd fun xs r => by
  rcases r with r | ⟨u, r⟩ <;> (rw [n] at r; cases r)
theorem KTu.lst {K : PySem.W.Frag} {H : Hp} {p : Addr} {o : HO} {xs : List V} (n : H p = some (.lst xs)) : KTu K H (L2.upd H p o) := KTu.upd fun ys r => by
  rcases r with r | ⟨u, r⟩ <;> (rw [n] at r; cases r)
theorem KTu.dic {K : PySem.W.Frag} {H : Hp} {p : Addr} {o : HO} {xs : List (Key × V)} (n : H p = some (.dK xs)) : KTu K H (L2.upd H p o) := KTu.upd fun ys r => by
  rcases r with r | ⟨u, r⟩ <;> (rw [n] at r; cases r)
theorem KTu.ins {K : PySem.W.Frag} {H : Hp} {p C dx : Addr} {o : HO} {xs : List (Str × V)} (n : H p = some (.ins C dx xs)) : KTu K H (L2.upd H p o) := KTu.upd fun ys r => by
  rcases r with r | ⟨u, r⟩ <;> (rw [n] at r; cases r)
theorem KTu.kp {K : PySem.W.Frag} {W : List Addr} {H H' : Hp} (k : Kp W H H') (h : ∀ p ∈ W, ∀ xs, ¬ Rd H p (.tup xs)) : KTu K H H' := KTu.of_rd fun a xs r => by
  have ne : a ∉ W := fun z => h a z xs r
  rcases r with r | ⟨u, r⟩
  · exact .inl (k a _ r ne)
  · exact .inr ⟨u, k a _ r ne⟩

theorem Kp.kt {K : PySem.W.Frag} {H H1 : Hp} (a : Kp [] H H1) : KTu K H H1 := KTu.kp a fun p hp => by cases hp
theorem Kp.seq {K : PySem.W.Frag} {H H1 : Hp} (e : Kp [] H H1) {a : Addr} {xs : List V} (h : SqL K H a xs) : SqL K H1 a xs := by
  rcases h with (h | ⟨o, h⟩) | h
  · exact .inl (.inl (e.at h))
  · exact .inl (.inr ⟨o, e.at h⟩)
  · exact .inr h
theorem Kp.seqW {K : PySem.W.Frag} {W : List Addr} {H H1 : Hp} (e : Kp W H H1) {a : Addr} {xs : List V} (h : SqL K H a xs) (n : a ∉ W) : SqL K H1 a xs := by
  rcases h with (h | ⟨o, h⟩) | h
  · exact .inl (.inl (e a _ h n))
  · exact .inl (.inr ⟨o, e a _ h n⟩)
  · exact .inr h
theorem Kp.thru {W : List Addr} {H H1 H2 : Hp} (a : Kp [] H H1) (b : Kp W H1 H2) (n : ∀ p ∈ W, H p = none) : Kp [] H H2 := fun c o e _ =>
  b c o (a.at e) fun m => by rw [n c m] at e; cases e

/-! ### data of scalars and tuples -/
mutual
def noL : PyData → Bool
  | .none => true
  | .bool _ => true
  | .int _ => true
  | .str _ => true
  | .tuple xs => noLs xs
  | .list _ => false
  | .dict _ => false
def noLs : List PyData → Bool
  | [] => true
  | x :: xs => noL x && noLs xs
end
section
variable {K : PySem.W.Frag} {H H' : Hp}
mutual
theorem Dp.kt (k : KTu K H H') : ∀ (d : PyData) (v : V), noL d = true → Dp K H v d → Dp K H' v d
  | .none, _, _, h => by cases h; exact .non
  | .bool b, _, _, h => by cases h; exact .bl b
  | .int i, _, _, h => by cases h; exact .int i
  | .str x, _, _, h => by cases h; exact .str x
  | .list ds, _, n, _ => by simp [noL] at n
  | .tuple ds, _, n, h => by
    cases h with
    | tup hs ha => exact .tup (k _ _ hs) (DpAll.kt k ds _ (by simpa [noL] using n) ha)
  | .dict _, _, _, h => by cases h
theorem DpAll.kt (k : KTu K H H') : ∀ (ds : List PyData) (vs : List V), noLs ds = true → DpAll K H vs ds → DpAll K H' vs ds
  | [], _, _, h => by cases h; exact .nil
  | d :: ds, _, n, h => by
    have n' : noL d = true ∧ noLs ds = true := by simpa [noLs] using n
    cases h with
    | cons h1 h2 => exact .cons (Dp.kt k d _ n'.1 h1) (DpAll.kt k ds _ n'.2 h2)
end
mutual
/-- data of any kind, where all that is tracked stays -/
theorem Dp.ex (k : Kp [] H H') : ∀ (d : PyData) (v : V), Dp K H v d → Dp K H' v d
  | .none, _, h => by cases h; exact .non
  | .bool b, _, h => by cases h; exact .bl b
  | .int i, _, h => by cases h; exact .int i
  | .str x, _, h => by cases h; exact .str x
  | .list ds, _, h => by
    cases h with
    | lst hs ha =>
      refine .lst ?_ (DpAll.ex k ds _ ha)
      rcases hs with (r | ⟨u, r⟩) | r
      · exact .inl (.inl (k _ _ r (by simp)))
      · exact .inl (.inr ⟨u, k _ _ r (by simp)⟩)
      · exact .inr r
  | .tuple ds, _, h => by
    cases h with
    | tup hs ha =>
      refine .tup ?_ (DpAll.ex k ds _ ha)
      rcases hs with (r | ⟨u, r⟩) | r
      · exact .inl (.inl (k _ _ r (by simp)))
      · exact .inl (.inr ⟨u, k _ _ r (by simp)⟩)
      · exact .inr r
  | .dict _, _, h => by cases h
theorem DpAll.ex (k : Kp [] H H') : ∀ (ds : List PyData) (vs : List V), DpAll K H vs ds → DpAll K H' vs ds
  | [], _, h => by cases h; exact .nil
  | d :: ds, _, h => by
    cases h with
    | cons h1 h2 => exact .cons (Dp.ex k d _ h1) (DpAll.ex k ds _ h2)
end
theorem DpAll.len : ∀ {vs : List V} {ds : List PyData}, DpAll K H vs ds → vs.length = ds.length
  | _, _, .nil => rfl
  | _, _, .cons _ t => congrArg Nat.succ (DpAll.len t)
theorem DpAll.get : ∀ {vs : List V} {ds : List PyData} {i : Nat} {v : V}, DpAll K H vs ds → vs[i]? = some v → ∃ d, ds[i]? = some d ∧ Dp K H v d
  | _, _, _, _, .nil, e => by simp at e
  | _, _, 0, _, .cons h _, e => by simp at e; subst e; exact ⟨_, rfl, h⟩
  | _, _, i + 1, v, .cons _ t, e => by
    obtain ⟨d, h1, h2⟩ := DpAll.get (i := i) (v := v) t (by simpa using e)
    exact ⟨d, by simpa using h1, h2⟩
theorem DpAll.getD : ∀ {vs : List V} {ds : List PyData} {i : Nat} {d : PyData}, DpAll K H vs ds → ds[i]? = some d → ∃ v, vs[i]? = some v ∧ Dp K H v d
  | _, _, _, _, .nil, e => by simp at e
  | _, _, 0, _, .cons h _, e => by simp at e; subst e; exact ⟨_, rfl, h⟩
  | _, _, i + 1, d, .cons _ t, e => by
    obtain ⟨v, h1, h2⟩ := DpAll.getD (i := i) (d := d) t (by simpa using e)
    exact ⟨v, by simpa using h1, h2⟩
theorem DpAll.app : ∀ {vs ws : List V} {ds es : List PyData}, DpAll K H vs ds → DpAll K H ws es → DpAll K H (vs ++ ws) (ds ++ es)
  | _, _, _, _, .nil, s => s
  | _, _, _, _, .cons h t, s => .cons h (DpAll.app t s)
theorem DpAll.erase : ∀ {vs : List V} {ds : List PyData} (i : Nat), DpAll K H vs ds → DpAll K H (vs.eraseIdx i) (ds.eraseIdx i)
  | _, _, _, .nil => .nil
  | _, _, 0, .cons _ t => t
  | _, _, i + 1, .cons h t => .cons h (DpAll.erase i t)
theorem DpAll.take : ∀ {vs : List V} {ds : List PyData} (i : Nat), DpAll K H vs ds → DpAll K H (vs.take i) (ds.take i)
  | _, _, 0, _ => .nil
  | _, _, _ + 1, .nil => .nil
  | _, _, i + 1, .cons h t => .cons h (DpAll.take i t)
theorem DpAll.drop : ∀ {vs : List V} {ds : List PyData} (i : Nat), DpAll K H vs ds → DpAll K H (vs.drop i) (ds.drop i)
  | _, _, 0, h => h
  | _, _, _ + 1, .nil => .nil
  | _, _, i + 1, .cons _ t => DpAll.drop i t
theorem noLs_iff : ∀ {ds : List PyData}, noLs ds = true ↔ ∀ d ∈ ds, noL d = true
  | [] => by simp [noLs]
  | d :: ds => by simp [noLs, noLs_iff (ds := ds)]
end

/-! ### what == may look at -/
structure Sh (n : Nat) (d : PyData) : Prop where
  can : d.canLay0 = true
  dep : d.depth ≤ n
theorem Sh.shaped {n : Nat} {d : PyData} (h : Sh n d) (hn : n ≤ 64 := by decide) : SeqAt.shaped d = true := by
  show (d.canLay0 && decide (d.depth ≤ 64)) = true
  rw [h.can, decide_eq_true (Nat.le_trans h.dep hn)]
  rfl
theorem Sh.mono {n m : Nat} {d : PyData} (h : Sh n d) (hn : n ≤ m) : Sh m d := ⟨h.can, Nat.le_trans h.dep hn⟩
theorem Sh.refl {n : Nat} {d : PyData} (h : Sh n d) : PyData.eqv d d = true := SeqAt.eqv_refl d h.can
theorem sh_non {n : Nat} : Sh n .none := ⟨by simp [PyData.canLay0], by simp [PyData.depth]⟩
theorem sh_bl {n : Nat} (b : Bool) : Sh n (.bool b) := ⟨by simp [PyData.canLay0], by simp [PyData.depth]⟩
theorem sh_int {n : Nat} (i : Int) : Sh n (.int i) := ⟨by simp [PyData.canLay0], by simp [PyData.depth]⟩
theorem sh_str {n : Nat} {x : Str} (h : PyData.strOk x = true) : Sh n (.str x) := ⟨by simp [PyData.canLay0, h], by simp [PyData.depth]⟩
theorem can_all : ∀ {ds : List PyData}, (∀ d ∈ ds, d.canLay0 = true) → PyData.canLayAll0 ds = true
  | [], _ => by simp [PyData.canLayAll0]
  | d :: ds, h => by
    rw [PyData.canLayAll0, h d (by simp), can_all fun e m => h e (by simp [m])]
    rfl
theorem dep_all : ∀ {ds : List PyData} {n : Nat}, (∀ d ∈ ds, d.depth ≤ n) → PyData.depthAll ds ≤ n
  | [], _, _ => by simp [PyData.depthAll]
  | d :: ds, n, h => by
    rw [PyData.depthAll]
    exact Nat.max_le.mpr ⟨h d (by simp), dep_all fun e m => h e (by simp [m])⟩
theorem sh_list {n : Nat} {ds : List PyData} (h : ∀ d ∈ ds, Sh n d) : Sh (n + 1) (.list ds) :=
  ⟨by rw [PyData.canLay0]; exact can_all fun d m => (h d m).can, by rw [PyData.depth]; exact Nat.succ_le_succ (dep_all fun d m => (h d m).dep)⟩
theorem sh_tup {n : Nat} {ds : List PyData} (h : ∀ d ∈ ds, Sh n d) : Sh (n + 1) (.tuple ds) :=
  ⟨by rw [PyData.canLay0]; exact can_all fun d m => (h d m).can, by rw [PyData.depth]; exact Nat.succ_le_succ (dep_all fun d m => (h d m).dep)⟩
theorem all_nil {n : Nat} : ∀ d ∈ ([] : List PyData), Sh n d := fun _ h => by cases h
theorem all_cons {n : Nat} {d : PyData} {ds : List PyData} (h : Sh n d) (t : ∀ e ∈ ds, Sh n e) : ∀ e ∈ d :: ds, Sh n e := fun e m => by
  rcases List.mem_cons.mp m with rfl | m
  · exact h
  · exact t e m
/-! ### a store in a dict by a key that is there -/
theorem put_is {κ : Type} [DecidableEq κ] {kvs kvs' : List (κ × V)} {k : κ} {v : V} (h1 : (kvs.any fun p => decide (p.1 = k)) = true) (h2 : (kvs.map fun p => if p.1 = k then (p.1, v) else p) = kvs') : putK kvs k v = kvs' := by
  unfold putK
  rw [if_pos h1]
  exact h2
/-! ### tests -/
theorem iteD {p A B : Prop} [Decidable p] (h1 : p → A) (h2 : ¬ p → B) : if decide p = true then A else B := by
  by_cases h : p
  · rw [if_pos (decide_eq_true h)]; exact h1 h
  · rw [if_neg (by simp [h])]; exact h2 h
theorem iteN {p A B : Prop} [Decidable p] (h1 : ¬ p → A) (h2 : p → B) : if (!decide p) = true then A else B := by
  by_cases h : p
  · rw [if_neg (by simp [h])]; exact h2 h
  · rw [if_pos (by simp [h])]; exact h1 h
theorem iteB {b : Bool} {A B : Prop} (h1 : b = true → A) (h2 : b = false → B) : if b = true then A else B := by
  cases b
  · rw [if_neg Bool.false_ne_true]; exact h2 rfl
  · rw [if_pos rfl]; exact h1 rfl
theorem iteNB {b : Bool} {A B : Prop} (h1 : b = false → A) (h2 : b = true → B) : if (!b) = true then A else B := by
  cases b
  · exact (if_pos (by simp : (!false) = true)).mpr (h1 rfl)
  · exact (if_neg (by simp : ¬ (!true) = true)).mpr (h2 rfl)
theorem vstr {a b : Str} (h : V.str a = V.str b) : a = b := by injection h
theorem vint {a b : Int} (h : V.int a = V.int b) : a = b := by injection h
theorem vstr_ne {a b : Str} (h : ¬ V.str a = V.str b) : ¬ a = b := fun e => h (by rw [e])
theorem vint_ne {a b : Int} (h : ¬ V.int a = V.int b) : ¬ a = b := fun e => h (by rw [e])
theorem small {n : Nat} (h : n ≤ 100000) : n ≤ sizeLine := Nat.le_trans h (by decide)
theorem smallL {n : Nat} (h : n ≤ 100000) : n < sizeLine := Nat.lt_of_le_of_lt h (by decide)
/-! ### values by their kind -/
theorem ty_tup {K : PySem.W.Frag} {H : Hp} {a : Addr} {xs : List V} (h : SqT K H a xs) : TyX K H (.ref a) (.type "tuple") := by
  rcases h with (r | ⟨o, r⟩) | ⟨o, its, n, e, c, _⟩
  · exact .base (.tup r)
  · exact .fTuple r
  · exact .kTuple e c
theorem ty_lst {K : PySem.W.Frag} {H : Hp} {a : Addr} {xs : List V} (h : SqL K H a xs) : TyX K H (.ref a) (.type "list") := by
  rcases h with (r | ⟨o, r⟩) | ⟨o, its, n, e, c, _⟩
  · exact .base (.lst r)
  · exact .base (.frz r)
  · exact .kList e c
/-- the built-in type of data -/
def tyD : PyData → String
  | .none => "NoneType"
  | .bool _ => "bool"
  | .int _ => "int"
  | .str _ => "str"
  | .list _ => "list"
  | .tuple _ => "tuple"
  | .dict _ => "dict"
theorem ty_of {K : PySem.W.Frag} {H : Hp} {v : V} {d : PyData} (h : Dp K H v d) : TyX K H v (.type (tyD d)) := by
  cases h with
  | non => exact .base .non
  | bl b => exact .base (.bl b)
  | int i => exact .base (.int i)
  | str x => exact .base (.str x)
  | lst hs _ => exact ty_lst hs
  | tup hs _ => exact ty_tup hs
/-! ### data that does not reach the objects at W -/
def out (W : List Addr) (H : Hp) : Hp := fun a => if a ∈ W then none else H a
theorem out_in {W : List Addr} {H : Hp} {a : Addr} (h : a ∈ W) : out W H a = none := if_pos h
theorem out_ne {W : List Addr} {H : Hp} {a : Addr} (h : a ∉ W) : out W H a = H a := if_neg h
theorem out_nil {H : Hp} : out [] H = H := by funext a; exact if_neg (by simp)
theorem Kp.out {W : List Addr} {H H' : Hp} (k : Kp W H H') : Kp [] (out W H) (L2.out W H') := fun a o e _ => by
  by_cases h : a ∈ W
  · rw [out_in h] at e; cases e
  · rw [out_ne h] at e ⊢
    exact k _ _ e h
theorem out_back (W : List Addr) (H : Hp) : Kp [] (out W H) H := fun a o e _ => by
  by_cases h : a ∈ W
  · rw [out_in h] at e; cases e
  · rw [out_ne h] at e; exact e
/-- all that W names is there -/
def Al (W : List Addr) (H : Hp) : Prop := ∀ a ∈ W, ∃ o, H a = some o
theorem Al.not {W : List Addr} {H : Hp} {p : Addr} (h : Al W H) (n : H p = none) : p ∉ W := fun m => by
  obtain ⟨o, e⟩ := h p m
  rw [n] at e
  cases e
theorem Al.nil {H : Hp} : Al [] H := fun _ m => by cases m
theorem Al.ex {W : List Addr} {H H' : Hp} (h : Al W H) (k : Kp [] H H') : Al W H' := fun a m => let ⟨o, e⟩ := h a m; ⟨o, k.at e⟩
theorem Al.one {H : Hp} {p : Addr} {o : HO} (e : H p = some o) : Al [p] H := fun a m => by rw [List.mem_singleton.mp m]; exact ⟨o, e⟩
section
variable {K : PySem.W.Frag} {W : List Addr} {H H' : Hp} {v : V} {d : PyData} {vs : List V} {ds : List PyData}
abbrev DW (K : PySem.W.Frag) (W : List Addr) (H : Hp) (v : V) (d : PyData) : Prop := Dp K (out W H) v d
abbrev DWs (K : PySem.W.Frag) (W : List Addr) (H : Hp) (vs : List V) (ds : List PyData) : Prop := DpAll K (out W H) vs ds
theorem DW.kp (h : DW K W H v d) (k : Kp W H H') : DW K W H' v d := Dp.ex k.out _ _ h
theorem DWs.kp (h : DWs K W H vs ds) (k : Kp W H H') : DWs K W H' vs ds := DpAll.ex k.out _ _ h
theorem DW.dp (h : DW K W H v d) : Dp K H v d := Dp.ex (out_back W H) _ _ h
theorem DWs.dp (h : DWs K W H vs ds) : DpAll K H vs ds := DpAll.ex (out_back W H) _ _ h
theorem DW.of (h : Dp K H v d) : DW K [] H v d := by rw [DW, out_nil]; exact h
theorem DWs.of (h : DpAll K H vs ds) : DWs K [] H vs ds := by rw [DWs, out_nil]; exact h
theorem out_fresh {p : Addr} (n : H p = none) : Kp [] H (out [p] H) := fun a o e _ => by
  rw [out_ne fun m => by rw [List.mem_singleton.mp m, n] at e; cases e]
  exact e
theorem out_wide {W V : List Addr} {H : Hp} (h : ∀ a ∈ V, a ∈ W ∨ H a = none) : Kp [] (out W H) (out V H) := fun a o e _ => by
  by_cases m : a ∈ W
  · rw [out_in m] at e; cases e
  · rw [out_ne m] at e
    rw [out_ne fun z => by
      rcases h a z with c | c
      · exact m c
      · rw [c] at e; cases e]
    exact e
theorem DW.wide {V : List Addr} (h : DW K W H v d) (k : ∀ a ∈ V, a ∈ W ∨ H a = none) : DW K V H v d := Dp.ex (out_wide k) _ _ h
theorem DWs.wide {V : List Addr} (h : DWs K W H vs ds) (k : ∀ a ∈ V, a ∈ W ∨ H a = none) : DWs K V H vs ds := DpAll.ex (out_wide k) _ _ h
theorem DW.less {V : List Addr} (h : DW K V H v d) (k : ∀ a ∈ W, a ∈ V) : DW K W H v d := h.wide fun a m => .inl (k a m)
/-- a new object -/
theorem out_new (al : Al W H) {p : Addr} {o : HO} (n : H p = none) : out W (upd H p o) = upd (out W H) p o := by
  funext a
  by_cases e : a = p
  · rw [e, out_ne (al.not n), upd_same, upd_same]
  · rw [upd_ne e]
    by_cases m : a ∈ W
    · rw [out_in m, out_in m]
    · rw [out_ne m, out_ne m, upd_ne e]
theorem out_none (al : Al W H) {p : Addr} (n : H p = none) : out W H p = none := by rw [out_ne (al.not n)]; exact n
theorem DWs.tup (h : DWs K W H vs ds) (al : Al W H) {p : Addr} (n : H p = none) : DW K W (upd H p (.tup vs)) (.ref p) (.tuple ds) := by
  show Dp K _ _ _
  rw [out_new al n]
  exact .tup (SqT.of upd_same) (DpAll.ex ((Kp.refl [] _).new (out_none al n)) _ _ h)
theorem DWs.lst (h : DWs K W H vs ds) (al : Al W H) {p : Addr} (n : H p = none) : DW K W (upd H p (.lst vs)) (.ref p) (.list ds) := by
  show Dp K _ _ _
  rw [out_new al n]
  exact .lst (SqL.of upd_same) (DpAll.ex ((Kp.refl [] _).new (out_none al n)) _ _ h)
theorem SqT.out (h : SqT K (out W H) p xs) : SqT K H p xs := (out_back W H).kt (K := K) _ _ h
theorem SqL.out (h : SqL K (out W H) p xs) : SqL K H p xs := (out_back W H).seq h
end
/-! ### operators on such data -/
theorem atI_data {K : PySem.W.Frag} {H : Hp} {vs : List V} {ds : List PyData} {i : Nat} {d : PyData} (h : DpAll K H vs ds) (e : ds[i]? = some d) : ∃ v, atI vs (i : Int) = some v ∧ Dp K H v d := by
  obtain ⟨v, h1, h2⟩ := DpAll.getD h e
  exact ⟨v, atI_nat h1, h2⟩
/-- x[i], x a tuple or a list -/
def rIxP (K : PySem.W.Frag) : R2 := fun x y H Q => ∃ (W : List Addr) (ds : List PyData) (i : Nat) (d : PyData), (DW K W H x (.tuple ds) ∨ DW K W H x (.list ds)) ∧ y = .int i ∧ ds[i]? = some d ∧ ∀ v, DW K W H v d → Q v H
theorem ix_data {X : Cx} : IxR X (rIxP X.K) := by
  intro value slice pins s σ H x y v u Q I rx ry h hs
  obtain ⟨W, ds, i, d, hx, rfl, e, q⟩ := h
  rcases hx with hx | hx
  · cases hx with
    | tup hq ha =>
      obtain ⟨w, e1, e2⟩ := atI_data ha e
      exact ix_tup value slice pins s σ H _ _ v u Q I rx ry ⟨_, _, _, w, rfl, rfl, SqT.out hq, e1, q w e2⟩ hs
  · cases hx with
    | lst hq ha =>
      obtain ⟨w, e1, e2⟩ := atI_data ha e
      exact ix_list value slice pins s σ H _ _ v u Q I rx ry ⟨_, _, _, w, rfl, rfl, SqL.out hq, e1, q w e2⟩ hs
/-- x + y, tuples -/
def rCatD (K : PySem.W.Frag) : R2 := fun x y H Q => ∃ (W : List Addr) (ds es : List PyData), Al W H ∧ DW K W H x (.tuple ds) ∧ DW K W H y (.tuple es) ∧ ds.length + es.length ≤ sizeLine ∧ ∀ v H', Kp [] H H' → DW K W H' v (.tuple (ds ++ es)) → Q v H'
theorem op_catD {X : Cx} : OpR X (binaryOp .Add) (rCatD X.K) := by
  intro pins s σ H x y v u Q I rx ry h
  obtain ⟨W, ds, es, al, hx, hy, hz, q⟩ := h
  have hx0 := hx
  have hy0 := hy
  cases hx with
  | tup hq ha =>
    cases hy with
    | tup hq2 hb =>
      refine op_catA pins s σ H _ _ v u Q I rx ry ⟨_, _, _, _, rfl, rfl, SqT.out hq, SqT.out hq2, by rw [ha.len, hb.len]; exact hz, fun e => ?_, fun _ e => ?_, fun _ _ p np => ?_⟩
      · subst e
        cases ha
        exact q _ _ (Kp.refl _ _) hy0
      · subst e
        cases hb
        rw [List.append_nil] at q
        exact q _ _ (Kp.refl _ _) hx0
      · exact q _ _ ((Kp.refl _ _).new np) (DWs.tup (DpAll.app ha hb) al np)
/-- x[lo:hi], x a tuple -/
def rSlD (K : PySem.W.Frag) : V → Option Int → Option Int → Hp → VK → Prop := fun x lo hi H Q => ∃ (W : List Addr) (ds : List PyData), Al W H ∧ DW K W H x (.tuple ds) ∧ ∀ v H', Kp [] H H' → DW K W H' v (.tuple ((ds.drop (HT.sIx ds.length 0 lo)).take (HT.sIx ds.length ds.length hi - HT.sIx ds.length 0 lo))) → Q v H'
theorem sl_tupD {X : Cx} : SlR X (rSlD X.K) := by
  intro pins s σ H x v vl vu lo hi sl Q I rx hs pl pu h
  obtain ⟨W, ds, al, hx, q⟩ := h
  have hx0 := hx
  cases hx with
  | tup hq ha =>
    have hl := ha.len
    refine sl_tupA pins s σ H _ v vl vu lo hi sl Q I rx hs pl pu ⟨_, _, rfl, SqT.out hq, fun ⟨e1, e2⟩ => ?_, fun _ p np => ?_⟩
    · rw [hl] at e1 e2
      rw [e1, e2] at q
      rw [List.drop_zero, Nat.sub_zero, List.take_length] at q
      exact q _ _ (Kp.refl _ _) hx0
    · refine q _ _ ((Kp.refl _ _).new np) (DWs.tup ?_ al np)
      unfold cutV
      rw [hl]
      exact DpAll.take _ (DpAll.drop _ ha)
/-! ### isinstance of data -/
def intB : PyData → Bool
  | .int _ => true
  | .bool _ => true
  | _ => false
def bolB : PyData → Bool
  | .bool _ => true
  | _ => false
def strB : PyData → Bool
  | .str _ => true
  | _ => false
def tupB : PyData → Bool
  | .tuple _ => true
  | _ => false
def lstB : PyData → Bool
  | .list _ => true
  | _ => false
theorem kit_int : ∀ d : PyData, kitB (tyD d) "int" = some (intB d)
  | .none => (by decide +kernel : kitB "NoneType" "int" = some false)
  | .bool _ => (by decide +kernel : kitB "bool" "int" = some true)
  | .int _ => (by decide +kernel : kitB "int" "int" = some true)
  | .str _ => (by decide +kernel : kitB "str" "int" = some false)
  | .list _ => (by decide +kernel : kitB "list" "int" = some false)
  | .tuple _ => (by decide +kernel : kitB "tuple" "int" = some false)
  | .dict _ => (by decide +kernel : kitB "dict" "int" = some false)
theorem kit_bol : ∀ d : PyData, kitB (tyD d) "bool" = some (bolB d)
  | .none => (by decide +kernel : kitB "NoneType" "bool" = some false)
  | .bool _ => (by decide +kernel : kitB "bool" "bool" = some true)
  | .int _ => (by decide +kernel : kitB "int" "bool" = some false)
  | .str _ => (by decide +kernel : kitB "str" "bool" = some false)
  | .list _ => (by decide +kernel : kitB "list" "bool" = some false)
  | .tuple _ => (by decide +kernel : kitB "tuple" "bool" = some false)
  | .dict _ => (by decide +kernel : kitB "dict" "bool" = some false)
theorem kit_str : ∀ d : PyData, kitB (tyD d) "str" = some (strB d)
  | .none => (by decide +kernel : kitB "NoneType" "str" = some false)
  | .bool _ => (by decide +kernel : kitB "bool" "str" = some false)
  | .int _ => (by decide +kernel : kitB "int" "str" = some false)
  | .str _ => (by decide +kernel : kitB "str" "str" = some true)
  | .list _ => (by decide +kernel : kitB "list" "str" = some false)
  | .tuple _ => (by decide +kernel : kitB "tuple" "str" = some false)
  | .dict _ => (by decide +kernel : kitB "dict" "str" = some false)
theorem kit_tup : ∀ d : PyData, kitB (tyD d) "tuple" = some (tupB d)
  | .none => (by decide +kernel : kitB "NoneType" "tuple" = some false)
  | .bool _ => (by decide +kernel : kitB "bool" "tuple" = some false)
  | .int _ => (by decide +kernel : kitB "int" "tuple" = some false)
  | .str _ => (by decide +kernel : kitB "str" "tuple" = some false)
  | .list _ => (by decide +kernel : kitB "list" "tuple" = some false)
  | .tuple _ => (by decide +kernel : kitB "tuple" "tuple" = some true)
  | .dict _ => (by decide +kernel : kitB "dict" "tuple" = some false)
theorem kit_lst : ∀ d : PyData, kitB (tyD d) "list" = some (lstB d)
  | .none => (by decide +kernel : kitB "NoneType" "list" = some false)
  | .bool _ => (by decide +kernel : kitB "bool" "list" = some false)
  | .int _ => (by decide +kernel : kitB "int" "list" = some false)
  | .str _ => (by decide +kernel : kitB "str" "list" = some false)
  | .list _ => (by decide +kernel : kitB "list" "list" = some true)
  | .tuple _ => (by decide +kernel : kitB "tuple" "list" = some false)
  | .dict _ => (by decide +kernel : kitB "dict" "list" = some false)
/-- an integer from lo to hi -/
def intIn (d : PyData) (lo hi : Int) : Bool := match d with
  | .int i => decide (lo ≤ i) && decide (i ≤ hi)
  | _ => false
/-! ### a bag of draws -/
def Bag (H : Hp) (p : Addr) : Prop := ∃ x y k : Int, H p = some (.lst [.int x, .int y, .int k])
/-- all stays but the bag -/
def Stp (p : Addr) (H H' : Hp) : Prop := Kp [p] H H' ∧ Bag H' p
section
variable {p q : Addr} {H H1 H2 : Hp} {o : HO}
theorem Stp.refl (b : Bag H p) : Stp p H H := ⟨Kp.refl _ _, b⟩
theorem Stp.trans (a : Stp p H H1) (b : Stp p H1 H2) : Stp p H H2 := ⟨a.1.trans b.1, b.2⟩
theorem Bag.ex (b : Bag H p) (k : Kp [] H H1) : Bag H1 p := let ⟨x, y, z, e⟩ := b; ⟨x, y, z, k.at e⟩
theorem Stp.ex (a : Stp p H H1) (k : Kp [] H1 H2) : Stp p H H2 := ⟨a.1.trans (k.mono (by simp)), a.2.ex k⟩
theorem Stp.new (a : Stp p H H1) (n : H1 q = none) : Stp p H (upd H1 q o) := a.ex ((Kp.refl _ _).new n)
theorem Bag.al (b : Bag H p) : Al [p] H := let ⟨_, _, _, e⟩ := b; Al.one e
theorem Bag.kt {K : PySem.W.Frag} (b : Bag H p) (a : Stp p H H1) : KTu K H H1 := KTu.kp a.1 fun x hx xs z => by
  obtain ⟨_, _, _, e⟩ := b
  rw [List.mem_singleton.mp hx] at z
  rcases z with z | ⟨u, z⟩ <;> (rw [e] at z; cases z)
theorem Bag.free (b : Bag H p) (a : Stp p H H1) (n : H1 q = none) : H q = none := a.1.freeW n fun x hx => by
  obtain ⟨_, _, _, e⟩ := a.2
  rw [List.mem_singleton.mp hx]
  exact ⟨_, e⟩
end
theorem log_small {n : Int} (h0 : 0 ≤ n) (h1 : n ≤ 100000) : n.natAbs.log2 < 9000 := by
  have h : n.natAbs ≤ 100000 := by omega
  have h2 : n.natAbs.log2 ≤ n.natAbs := Nat.log2_le_self _
  by_cases z : n.natAbs = 0
  · rw [z]; decide
  · exact Nat.lt_of_lt_of_le ((Nat.log2_lt z).mpr (Nat.lt_of_le_of_lt h (by decide : 100000 < 2 ^ 17))) (by decide)
/-- len of a tuple or a list, by its data -/
def rLenP (K : PySem.W.Frag) : List V → Hp → VK → Prop := fun xs H Q => ∃ (v : V) (W : List Addr) (ds : List PyData), xs = [v] ∧ (DW K W H v (.tuple ds) ∨ DW K W H v (.list ds)) ∧ Q (.int ds.length) H
theorem call_lenP {X : Cx} : CallR X (.builtin "len") (rLenP X.K) := by
  intro pins s σ H xs us Q I r h
  obtain ⟨v, W, ds, rfl, hv, q⟩ := h
  rcases hv with hv | hv
  · cases hv with
    | tup hq ha => exact call_len_seq pins s σ H _ us Q I r ⟨_, _, rfl, .inr (SqT.out hq), by rw [ha.len]; exact q⟩
  · cases hv with
    | lst hq ha => exact call_len_seq pins s σ H _ us Q I r ⟨_, _, rfl, .inl (SqL.out hq), by rw [ha.len]; exact q⟩
theorem DW.tupOf {K : PySem.W.Frag} {W : List Addr} {H : Hp} {v : V} {ds : List PyData} (h : DW K W H v (.tuple ds)) : ∃ a vs, v = .ref a ∧ SqT K H a vs ∧ DWs K W H vs ds := by
  cases h with
  | tup hq ha => exact ⟨_, _, rfl, SqT.out hq, ha⟩
theorem Stp.alW {W : List Addr} {p : Addr} {H H1 : Hp} (a : Stp p H H1) (al : Al W H) : Al W H1 := fun x m => by
  by_cases e : x = p
  · obtain ⟨_, _, _, h⟩ := a.2
    exact ⟨_, by rw [e]; exact h⟩
  · obtain ⟨o, h⟩ := al x m
    exact ⟨o, a.1 _ _ h (by simpa using e)⟩
theorem Stp.w {W : List Addr} {p : Addr} {H H1 : Hp} (a : Stp p H H1) (m : p ∈ W) : Kp W H H1 := a.1.mono fun x hx => by rw [List.mem_singleton.mp hx]; exact m
/-! ### a written value: new, apart from all that was there -/
def tLit (K : PySem.W.Frag) (d : PyData) : TE := fun _ H Q => ∀ v H', Kp [] H H' → (∀ W, Al W H → DW K W H' v d) → Q v H'
def tLits (K : PySem.W.Frag) (ds : List PyData) : TA := fun _ H Q => ∀ vs H', Kp [] H H' → (∀ W, Al W H → DWs K W H' vs ds) → Q vs H'
def tLitL (K : PySem.W.Frag) (ds : List PyData) : TE := fun _ H Q => ∀ a xs H', Kp [] H H' → H a = none → H' a = some (.lst xs) → (∀ W, Al W H → DWs K (a :: W) H' xs ds) → Q (.ref a) H'
def LitE (K : PySem.W.Frag) (t : TE) (d : PyData) : Prop := ∀ σ H Q, tLit K d σ H Q → t σ H Q
def LitA (K : PySem.W.Frag) (t : TA) (ds : List PyData) : Prop := ∀ σ H Q, tLits K ds σ H Q → t σ H Q
def LitL (K : PySem.W.Frag) (t : TE) (ds : List PyData) : Prop := ∀ σ H Q, tLitL K ds σ H Q → t σ H Q
section
variable {K : PySem.W.Frag}
theorem PE.lit {X : Cx} {e : Expr} {t : TE} {d : PyData} (h : PE X e t) (l : LitE K t d) : PE X e (tLit K d) := ⟨fun pins s σ H Q I q => h.run pins s σ H Q I (l σ H Q q)⟩
theorem PE.litL {X : Cx} {e : Expr} {t : TE} {ds : List PyData} (h : PE X e t) (l : LitL K t ds) : PE X e (tLitL K ds) := ⟨fun pins s σ H Q I q => h.run pins s σ H Q I (l σ H Q q)⟩
theorem lit_int (i : Int) : LitE K (tC (.int i)) (.int i) := fun _ H _ q => q _ H (Kp.refl _ _) fun _ _ => .int i
theorem lit_bl (b : Bool) : LitE K (tC (.bl b)) (.bool b) := fun _ H _ q => q _ H (Kp.refl _ _) fun _ _ => .bl b
theorem lit_str (x : Str) : LitE K (tC (.str x)) (.str x) := fun _ H _ q => q _ H (Kp.refl _ _) fun _ _ => .str x
theorem lit_non : LitE K (tC .non) .none := fun _ H _ q => q _ H (Kp.refl _ _) fun _ _ => .non
theorem lit_neg {t : TE} {i : Int} (h : LitE K t (.int i)) : LitE K (tUn (rU fun i => .int (-i)) t) (.int (-i)) := fun σ H Q q => h σ H _ fun v H1 k hv => by
  have e := hv [] Al.nil
  cases e
  exact ⟨i, rfl, q _ H1 k fun _ _ => .int _⟩
theorem lit_add {ta tb : TE} {i j : Int} (ha : LitE K ta (.int i)) (hb : LitE K tb (.int j)) : LitE K (tOp (rI0 fun i j => .int (i + j)) ta tb) (.int (i + j)) := fun σ H Q q => ha σ H _ fun v H1 k hv => hb σ H1 _ fun v2 H2 k2 hv2 => by
  have e := hv [] Al.nil
  have e2 := hv2 [] Al.nil
  cases e
  cases e2
  exact ⟨i, j, rfl, rfl, q _ H2 (k.trans k2) fun _ _ => .int _⟩
theorem lit_sub {ta tb : TE} {i j : Int} (ha : LitE K ta (.int i)) (hb : LitE K tb (.int j)) : LitE K (tOp (rI0 fun i j => .int (i - j)) ta tb) (.int (i - j)) := fun σ H Q q => ha σ H _ fun v H1 k hv => hb σ H1 _ fun v2 H2 k2 hv2 => by
  have e := hv [] Al.nil
  have e2 := hv2 [] Al.nil
  cases e
  cases e2
  exact ⟨i, j, rfl, rfl, q _ H2 (k.trans k2) fun _ _ => .int _⟩
theorem lit_pow {ta tb : TE} {i j : Int} (ha : LitE K ta (.int i)) (hb : LitE K tb (.int j)) (c : CPow i j) : LitE K (tOp (rI CPow fun i j => .int (i ^ j.toNat)) ta tb) (.int (i ^ j.toNat)) := fun σ H Q q => ha σ H _ fun v H1 k hv => hb σ H1 _ fun v2 H2 k2 hv2 => by
  have e := hv [] Al.nil
  have e2 := hv2 [] Al.nil
  cases e
  cases e2
  exact ⟨i, j, rfl, rfl, c, q _ H2 (k.trans k2) fun _ _ => .int _⟩
theorem lit_nil : LitA K tNil [] := fun _ H _ q => q [] H (Kp.refl _ _) fun _ _ => .nil
theorem lit_cons {te : TE} {ta : TA} {d : PyData} {ds : List PyData} (he : LitE K te d) (ha : LitA K ta ds) : LitA K (tCons te ta) (d :: ds) := fun σ H Q q => he σ H _ fun v H1 k hv => ha σ H1 _ fun vs H2 k2 hvs =>
  q _ H2 (k.trans k2) fun W al => .cons (DW.kp (hv W al) (k2.mono (by simp))) (hvs W (al.ex k))
theorem lit_tup {t : TA} {ds : List PyData} (h : LitA K t ds) (z : ds.length ≤ sizeLine) : LitE K (tTup t) (.tuple ds) := fun σ H Q q => h σ H _ fun vs H1 k hvs =>
  ⟨by rw [(hvs [] Al.nil).len]; exact z, fun p n => q _ _ (k.new n) fun W al => DWs.tup (hvs W al) (al.ex k) n⟩
theorem lit_lst {t : TA} {ds : List PyData} (h : LitA K t ds) (z : ds.length ≤ sizeLine) : LitE K (tLst t) (.list ds) := fun σ H Q q => h σ H _ fun vs H1 k hvs =>
  ⟨by rw [(hvs [] Al.nil).len]; exact z, fun p n => q _ _ (k.new n) fun W al => DWs.lst (hvs W al) (al.ex k) n⟩
theorem lit_lstL {t : TA} {ds : List PyData} (h : LitA K t ds) (z : ds.length ≤ sizeLine) : LitL K (tLst t) ds := fun σ H Q q => h σ H _ fun vs H1 k hvs =>
  ⟨by rw [(hvs [] Al.nil).len]; exact z, fun p n => q p vs _ (k.new n) (k.free n) upd_same fun W al => by
    have b := (hvs W al).wide (V := p :: W) fun a m => by
      rcases List.mem_cons.mp m with e | e
      · rw [e]; exact .inr n
      · exact .inl e
    exact DpAll.ex (fun x o e _ => by
      by_cases m : x ∈ p :: W
      · rw [out_in m] at e; cases e
      · rw [out_ne m] at e ⊢
        rw [upd_ne (fun z => m (by rw [z]; exact List.mem_cons_self))]
        exact e) _ _ b⟩
/-- the list that holds such data -/
theorem DWs.ref {W : List Addr} {H : Hp} {a : Addr} {xs : List V} {ds : List PyData} (h : DWs K W H xs ds) (e : H a = some (.lst xs)) (n : a ∉ W) : DW K W H (.ref a) (.list ds) := .lst (SqL.of (by rw [out_ne n]; exact e)) h
end
/-! ### a comprehension that draws from a bag -/
section
variable {K : PySem.W.Frag} {lo : Int} {n : Nat} {g : TG} {te : TE} {vs : List Nat} {σ : St} {H1 : Hp} {D p : Addr} {Qd : Hp → Prop} {W : List Addr}
theorem lc_bag (G : PyData → Prop) (hz : n < sizeLine) (nD : H1 D = none) (b : Bag H1 p) (al : Al W H1) (pW : p ∈ W)
    (hs : ∀ (i : Nat) H (Post : V → Hp → Prop), i < n → Stp p H1 H → Al (D :: W) H → (∀ y d H4, G d → Stp p H H4 → DW K (D :: W) H4 y d → Post y H4) → g (.int (lo + i)) (wipe σ vs) H fun σ2 H2 => wipe σ2 vs = wipe σ vs ∧ te σ2 H2 Post)
    (hd : ∀ H acc ds, Stp p H1 H → Al (D :: W) H → H D = some (.lst acc) → DWs K (D :: W) H acc ds → ds.length = n → (∀ d ∈ ds, G d) → Qd H) :
    ∃ W : Nat → Nat → Hp → Prop, (∃ m, W 0 m (upd H1 D (.lst []))) ∧ ∀ i m H, W i m H →
      ((Itr lo n).stop i H ∧ Qd H) ∨ ((Itr lo n).go i H ∧ ∃ Nx : Hp → Prop, (∀ H', Nx H' → ∃ m', m' < m ∧ W (i + 1) m' H') ∧ ∀ x H', (Itr lo n).yld i H x H' → g x (wipe σ vs) H' fun σ2 H2 => wipe σ2 vs = wipe σ vs ∧ tYes σ2 H2 fun b H3 =>
        if b = true then te σ2 H3 fun y H4 => ∃ acc, H4 D = some (.lst acc) ∧ acc.length < sizeLine ∧ Nx (upd H4 D (.lst (acc ++ [y]))) else Nx H3) := by
  have D_p : D ≠ p := fun e => by obtain ⟨_, _, _, h⟩ := b; rw [← e, nD] at h; cases h
  refine lc_range (fun i H => ∃ acc ds, Stp p H1 H ∧ Al (D :: W) H ∧ H D = some (.lst acc) ∧ DWs K (D :: W) H acc ds ∧ ds.length = i ∧ ∀ d ∈ ds, G d) ?_ ?_ ?_
  · refine ⟨[], [], (Stp.refl b).new nD, fun x m => ?_, upd_same, .nil, rfl, fun _ m => by cases m⟩
    rcases List.mem_cons.mp m with e | e
    · exact ⟨_, by rw [e]; exact upd_same⟩
    · exact (al.ex ((Kp.refl [] H1).new nD)) x e
  · rintro i H hi ⟨acc, ds, s, a, e, h, l, gd⟩
    refine hs i H _ hi s a fun y d H4 gy s4 hy => ?_
    have e4 : H4 D = some (.lst acc) := s4.1 _ _ e (by simpa using D_p)
    have kD : Kp (D :: W) H4 (upd H4 D (.lst (acc ++ [y]))) := (Kp.refl _ _).put (by simp)
    refine ⟨acc, e4, by rw [h.len, l]; omega, acc ++ [y], ds ++ [d], ⟨fun x o z m => ?_, ?_⟩, fun x m => ?_, upd_same, DpAll.app ?_ (.cons (hy.kp kD) .nil), by simp [l], fun z m => ?_⟩
    · rw [upd_ne (fun z2 => by rw [z2, nD] at z; cases z)]
      exact s4.1 _ _ (s.1 _ _ z m) m
    · obtain ⟨_, _, _, h4⟩ := s4.2
      exact ⟨_, _, _, by rw [upd_ne D_p.symm]; exact h4⟩
    · by_cases z : x = D
      · exact ⟨_, by rw [z]; exact upd_same⟩
      · rw [upd_ne z]
        exact (s4.alW a) x m
    · exact (h.kp (s4.w (List.mem_cons_of_mem _ pW))).kp kD
    · rcases List.mem_append.mp m with m | m
      · exact gd z m
      · rw [List.mem_singleton.mp m]; exact gy
  · rintro H ⟨acc, ds, s, a, e, h, l, gd⟩
    exact hd H acc ds s a e h l gd
end
/-! ### data of a bounded depth and width -/
def Tame (L : Nat) : Nat → PyData → Prop
  | 0, d => tupB d = false
  | n + 1, d => match d with
    | .tuple ds => ds.length ≤ L ∧ ∀ e ∈ ds, Tame L n e
    | _ => True
theorem Tame.of {L n : Nat} {d : PyData} (h : tupB d = false) : Tame L n d := by
  cases n with
  | zero => exact h
  | succ n => cases d <;> first | trivial | cases h
theorem Tame.mono {L M : Nat} (hL : L ≤ M) : ∀ {n m : Nat} {d : PyData}, n ≤ m → Tame L n d → Tame M m d
  | 0, m, d, _, h => Tame.of h
  | n + 1, 0, _, e, _ => absurd e (by omega)
  | n + 1, m + 1, d, e, h => by
    cases d with
    | tuple ds => exact ⟨Nat.le_trans h.1 hL, fun x m => Tame.mono hL (Nat.le_of_succ_le_succ e) (h.2 x m)⟩
    | _ => trivial
/-- no more than what ds holds -/
def Part (ds es : List PyData) : Prop := (∀ e ∈ es, e ∈ ds) ∧ es.length ≤ ds.length
theorem part_cut (ds : List PyData) (a b : Nat) : Part ds ((ds.drop a).take b) :=
  ⟨fun _ m => List.mem_of_mem_drop (List.mem_of_mem_take m), by rw [List.length_take, List.length_drop]; omega⟩
theorem DW.ex {K : PySem.W.Frag} {W : List Addr} {H H' : Hp} {v : V} {d : PyData} (h : DW K W H v d) (k : Kp [] H H') : DW K W H' v d := h.kp (k.mono (by simp))
theorem DWs.ex {K : PySem.W.Frag} {W : List Addr} {H H' : Hp} {v : List V} {d : List PyData} (h : DWs K W H v d) (k : Kp [] H H') : DWs K W H' v d := h.kp (k.mono (by simp))
def tameB (L : Nat) : Nat → PyData → Bool
  | 0, d => !tupB d
  | n + 1, d => match d with
    | .tuple ds => decide (ds.length ≤ L) && ds.all (tameB L n)
    | _ => true
theorem Tame.ofB {L : Nat} : ∀ {n : Nat} {d : PyData}, tameB L n d = true → Tame L n d
  | 0, d, h => by
    show tupB d = false
    simpa [tameB] using h
  | n + 1, d, h => by
    cases d with
    | tuple ds =>
      have h' : (decide (ds.length ≤ L) && ds.all (tameB L n)) = true := h
      simp only [Bool.and_eq_true, decide_eq_true_eq, List.all_eq_true] at h'
      exact ⟨h'.1, fun e m => Tame.ofB (h'.2 e m)⟩
    | _ => trivial
theorem DpAll.rep {K : PySem.W.Frag} {H : Hp} {v : V} {d : PyData} (h : Dp K H v d) : ∀ n : Nat, DpAll K H (List.replicate n v) (List.replicate n d)
  | 0 => .nil
  | n + 1 => .cons h (DpAll.rep h n)
theorem flat_rep {α : Type} (z : α) : ∀ n : Nat, (List.replicate n [z]).flatten = List.replicate n z
  | 0 => rfl
  | n + 1 => by rw [List.replicate_succ, List.flatten_cons, flat_rep z n]; rfl
end L2
set_option Elab.async false
set_option linter.all false
set_option maxRecDepth 100000
set_option maxHeartbeats 4000000
namespace Fg
open PySem PySem.Spec PyProof.Rows L2
local macro_rules | `(tactic| walk_at "lk") => `(tactic| first | exact lk0 _ _ _ | (refine lk1 (by decide +kernel) ?_; walk_at "lk") | exact lkn _)
def top (i : Nat) : Stmt := PySem.Challenge.pw_firmground_k06_clocks.main.body.getD i (.Pass ⟨0, 0, 0, 0⟩)
abbrev s_is_integer : Stmt := top 3
abbrev N_is_integer : List Str := ["value", "least", "greatest"]
theorem sc_is_integer : FnScope N_is_integer ["value", "least", "greatest"] (defScope s_is_integer) := ⟨rfl, rfl, rfl, by decide +kernel, rfl, by decide +kernel, by decide +kernel⟩
abbrev s_is_process : Stmt := top 5
abbrev N_is_process : List Str := ["count", "value"]
theorem sc_is_process : FnScope N_is_process ["count", "value"] (defScope s_is_process) := ⟨rfl, rfl, rfl, by decide +kernel, rfl, by decide +kernel, by decide +kernel⟩
abbrev s_is_pair : Stmt := top 7
abbrev N_is_pair : List Str := ["value"]
theorem sc_is_pair : FnScope N_is_pair ["value"] (defScope s_is_pair) := ⟨rfl, rfl, rfl, by decide +kernel, rfl, by decide +kernel, by decide +kernel⟩
abbrev s_is_clock : Stmt := top 8
abbrev N_is_clock : List Str := ["count", "value", "pair"]
theorem sc_is_clock : FnScope N_is_clock ["count", "value"] (defScope s_is_clock) := ⟨rfl, rfl, rfl, by decide +kernel, rfl, by decide +kernel, by decide +kernel⟩
abbrev s__law_bag : Stmt := top 10
abbrev N__law_bag : List Str := ["_law_script", "_law_k", "_law_cell"]
theorem sc__law_bag : FnScope N__law_bag ["_law_script", "_law_k"] (defScope s__law_bag) := ⟨rfl, rfl, rfl, by decide +kernel, rfl, by decide +kernel, by decide +kernel⟩
abbrev s__law_draw : Stmt := top 11
abbrev N__law_draw : List Str := ["_law_bag_here", "_law_many", "_law_seed", "_law_rest"]
theorem sc__law_draw : FnScope N__law_draw ["_law_bag_here", "_law_many"] (defScope s__law_draw) := ⟨rfl, rfl, rfl, by decide +kernel, rfl, by decide +kernel, by decide +kernel⟩
abbrev s__law_is_int : Stmt := top 12
abbrev N__law_is_int : List Str := ["_law_value", "_law_least", "_law_most"]
theorem sc__law_is_int : FnScope N__law_is_int ["_law_value", "_law_least", "_law_most"] (defScope s__law_is_int) := ⟨rfl, rfl, rfl, by decide +kernel, rfl, by decide +kernel, by decide +kernel⟩
abbrev s__law_number : Stmt := top 13
abbrev N__law_number : List Str := ["_law_bag_here"]
theorem sc__law_number : FnScope N__law_number ["_law_bag_here"] (defScope s__law_number) := ⟨rfl, rfl, rfl, by decide +kernel, rfl, by decide +kernel, by decide +kernel⟩
abbrev s__law_pair : Stmt := top 14
abbrev N__law_pair : List Str := ["_law_bag_here", "_law_count"]
theorem sc__law_pair : FnScope N__law_pair ["_law_bag_here"] (defScope s__law_pair) := ⟨rfl, rfl, rfl, by decide +kernel, rfl, by decide +kernel, by decide +kernel⟩
abbrev s__law_clock : Stmt := top 15
abbrev N__law_clock : List Str := ["_law_bag_here", "_law_count", "_law_k"]
theorem sc__law_clock : FnScope N__law_clock ["_law_bag_here", "_law_count"] (defScope s__law_clock) := ⟨rfl, rfl, rfl, by decide +kernel, rfl, by decide +kernel, by decide +kernel⟩
abbrev s__law_is_pair : Stmt := top 16
abbrev N__law_is_pair : List Str := ["_law_value"]
theorem sc__law_is_pair : FnScope N__law_is_pair ["_law_value"] (defScope s__law_is_pair) := ⟨rfl, rfl, rfl, by decide +kernel, rfl, by decide +kernel, by decide +kernel⟩
abbrev s__law_is_clock : Stmt := top 17
abbrev N__law_is_clock : List Str := ["_law_count", "_law_value", "_law_pair_here"]
theorem sc__law_is_clock : FnScope N__law_is_clock ["_law_count", "_law_value"] (defScope s__law_is_clock) := ⟨rfl, rfl, rfl, by decide +kernel, rfl, by decide +kernel, by decide +kernel⟩
abbrev s__law_spoilt : Stmt := top 18
abbrev N__law_spoilt : List Str := ["_law_bag_here", "_law_value", "_law_odd", "_law_at", "_law_choice"]
theorem sc__law_spoilt : FnScope N__law_spoilt ["_law_bag_here", "_law_value", "_law_odd"] (defScope s__law_spoilt) := ⟨rfl, rfl, rfl, by decide +kernel, rfl, by decide +kernel, by decide +kernel⟩
abbrev s_law : Stmt := top 19
abbrev N_law : List Str := ["_law_script", "_law_odd", "_law_k", "_law_bag_here", "_law_count", "_law_clock_here", "_law_actual", "_law_j"]
theorem sc_law : FnScope N_law ["_law_script"] (defScope s_law) := ⟨rfl, rfl, rfl, by decide +kernel, rfl, by decide +kernel, by decide +kernel⟩
abbrev FnP (K : PySem.W.Frag) (x q : Str) (st : Stmt) (f : Addr) (fd : FuncData) : Prop := FunD K x q (defArgs st) (defBody st) (defScope st) [] [] f fd
structure Txt (K : PySem.W.Frag) (mg : Str → Option Value) where
  a_is_integer : Addr
  fd_is_integer : FuncData
  F_is_integer : FnP K "is_integer" "is_integer" s_is_integer a_is_integer fd_is_integer
  b_is_integer : Binds K fd_is_integer ["value", "least", "greatest"] []
  g_is_integer : mg "is_integer" = some (.ref a_is_integer)
  a_is_process : Addr
  fd_is_process : FuncData
  F_is_process : FnP K "is_process" "is_process" s_is_process a_is_process fd_is_process
  b_is_process : Binds K fd_is_process ["count", "value"] []
  g_is_process : mg "is_process" = some (.ref a_is_process)
  a_is_pair : Addr
  fd_is_pair : FuncData
  F_is_pair : FnP K "is_pair" "is_pair" s_is_pair a_is_pair fd_is_pair
  b_is_pair : Binds K fd_is_pair ["value"] []
  g_is_pair : mg "is_pair" = some (.ref a_is_pair)
  a_is_clock : Addr
  fd_is_clock : FuncData
  F_is_clock : FnP K "is_clock" "is_clock" s_is_clock a_is_clock fd_is_clock
  b_is_clock : Binds K fd_is_clock ["count", "value"] []
  g_is_clock : mg "is_clock" = some (.ref a_is_clock)
  a__law_bag : Addr
  fd__law_bag : FuncData
  F__law_bag : FnP K "_law_bag" "_law_bag" s__law_bag a__law_bag fd__law_bag
  b__law_bag : Binds K fd__law_bag ["_law_script", "_law_k"] []
  g__law_bag : mg "_law_bag" = some (.ref a__law_bag)
  a__law_draw : Addr
  fd__law_draw : FuncData
  F__law_draw : FnP K "_law_draw" "_law_draw" s__law_draw a__law_draw fd__law_draw
  b__law_draw : Binds K fd__law_draw ["_law_bag_here", "_law_many"] []
  g__law_draw : mg "_law_draw" = some (.ref a__law_draw)
  a__law_is_int : Addr
  fd__law_is_int : FuncData
  F__law_is_int : FnP K "_law_is_int" "_law_is_int" s__law_is_int a__law_is_int fd__law_is_int
  b__law_is_int : Binds K fd__law_is_int ["_law_value", "_law_least", "_law_most"] []
  g__law_is_int : mg "_law_is_int" = some (.ref a__law_is_int)
  a__law_number : Addr
  fd__law_number : FuncData
  F__law_number : FnP K "_law_number" "_law_number" s__law_number a__law_number fd__law_number
  b__law_number : Binds K fd__law_number ["_law_bag_here"] []
  g__law_number : mg "_law_number" = some (.ref a__law_number)
  a__law_pair : Addr
  fd__law_pair : FuncData
  F__law_pair : FnP K "_law_pair" "_law_pair" s__law_pair a__law_pair fd__law_pair
  b__law_pair : Binds K fd__law_pair ["_law_bag_here"] []
  g__law_pair : mg "_law_pair" = some (.ref a__law_pair)
  a__law_clock : Addr
  fd__law_clock : FuncData
  F__law_clock : FnP K "_law_clock" "_law_clock" s__law_clock a__law_clock fd__law_clock
  b__law_clock : Binds K fd__law_clock ["_law_bag_here", "_law_count"] []
  g__law_clock : mg "_law_clock" = some (.ref a__law_clock)
  a__law_is_pair : Addr
  fd__law_is_pair : FuncData
  F__law_is_pair : FnP K "_law_is_pair" "_law_is_pair" s__law_is_pair a__law_is_pair fd__law_is_pair
  b__law_is_pair : Binds K fd__law_is_pair ["_law_value"] []
  g__law_is_pair : mg "_law_is_pair" = some (.ref a__law_is_pair)
  a__law_is_clock : Addr
  fd__law_is_clock : FuncData
  F__law_is_clock : FnP K "_law_is_clock" "_law_is_clock" s__law_is_clock a__law_is_clock fd__law_is_clock
  b__law_is_clock : Binds K fd__law_is_clock ["_law_count", "_law_value"] []
  g__law_is_clock : mg "_law_is_clock" = some (.ref a__law_is_clock)
  a__law_spoilt : Addr
  fd__law_spoilt : FuncData
  F__law_spoilt : FnP K "_law_spoilt" "_law_spoilt" s__law_spoilt a__law_spoilt fd__law_spoilt
  b__law_spoilt : Binds K fd__law_spoilt ["_law_bag_here", "_law_value", "_law_odd"] []
  g__law_spoilt : mg "_law_spoilt" = some (.ref a__law_spoilt)
  a_law : Addr
  fd_law : FuncData
  F_law : FnP K "law" "law" s_law a_law fd_law
  b_law : Binds K fd_law ["_law_script"] []
  g_law : mg "law" = some (.ref a_law)
  u_MOST_PROCESSES : Value
  g_MOST_PROCESSES : mg "MOST_PROCESSES" = some u_MOST_PROCESSES
  r_MOST_PROCESSES : RelV (.int 10) u_MOST_PROCESSES
  u_MOST_NUMBER : Value
  g_MOST_NUMBER : mg "MOST_NUMBER" = some u_MOST_NUMBER
  r_MOST_NUMBER : RelV (.int (1000000000000)) u_MOST_NUMBER
  n_isinstance : mg "isinstance" = none
  n_int : mg "int" = none
  n_bool : mg "bool" = none
  n_tuple : mg "tuple" = none
  n_len : mg "len" = none
  n_all : mg "all" = none
  n_range : mg "range" = none
  n_max : mg "max" = none
  n_min : mg "min" = none
section
variable {P : Program} {w : World} {K : PySem.W.Frag} {mg : Str → Option Value} {base : Heap}

/-! ### drawing -/
def spBag (K : PySem.W.Frag) : Sp := fun vs H Q _ => ∃ (a : Addr) (ns : List Int) (k : Int), vs = [.ref a, .int k] ∧ SqL K H a (ns.map V.int) ∧ 0 ≤ k ∧ ∀ (p : Addr) (x y : Int), H p = none → Q (.ref p) (upd H p (.lst [.int x, .int y, .int k]))
theorem ok__law_bag (T : Txt K mg) : FnOk P w K mg base CX0 1 T.a__law_bag T.fd__law_bag ["_law_script", "_law_k"] (spBag K) := by
  refine T.F__law_bag.ok sc__law_bag (fun vs H Q E h => ?_) (fun cdv A outer s H vs Q E hr h => ?_)
  · obtain ⟨a, ns, k, rfl, _⟩ := h
    rfl
  · obtain ⟨a, ns, k, rfl, hS, h0, kq⟩ := h
    refine ⟨_, PSs.nox (pss_cons (ps_set (i := 2) sc__law_bag.nd rfl (Or.inl rfl) pe_int)
      (pss_cons (ps_if (pt_cmpR op_lt (pv 1) (pe_callB call_len_seq (by rfl) T.n_len PySem.boot_len (pa_cons (pv 0) pa_nil)) (nomark _)) (pss_one (ps_set (i := 2) sc__law_bag.nd rfl (Or.inl rfl) (pe_callTy call_int1 (by rfl) T.n_int (by decide +kernel) (pa_cons (pe_ix ix_list (pv 0) (pv 1) (fun _ _ => rfl)) pa_nil)))) pss_nil)
      (pss_cons (ps_if (pt_cmpR op_ge (pv 2) (pe_op op_pow pe_int pe_int) (nomark _)) (pss_one (ps_ret (pe_lst (pa_cons (pv 2) (pa_cons (pv 2) (pa_cons (pv 1) pa_nil)))))) pss_nil)
      (pss_one (ps_ret (pe_lst (pa_cons pe_int (pa_cons (pv 2) (pa_cons (pv 1) pa_nil))))))))), ?_⟩
    have fin : ∀ (c : Int), (tSeq (tIfS (tTest (tOp (rI0 fun i j => .bl (decide (j ≤ i))) (tVar 2) (tOp (rI CPow fun i j => .int (i ^ j.toNat)) (tC (.int 10)) (tC (.int 18)))))
        (tRet (tLst (tCons (tVar 2) (tCons (tVar 2) (tCons (tVar 1) tNil))))) tNext) (tRet (tLst (tCons (tC (.int 0)) (tCons (tVar 2) (tCons (tVar 1) tNil)))))) { nx := fun _ H' => Q .non H', rt := Q } [some (.ref a), some (.int k), some (.int c)] H := by
      intro c
      refine ⟨_, rfl, _, _, rfl, rfl, ⟨by decide, by decide, by decide⟩, _, _, rfl, rfl, _, rfl, ?_⟩
      refine iteD (fun _ => ?_) (fun _ => ?_)
      · exact ⟨_, rfl, _, rfl, _, rfl, by show 3 ≤ sizeLine; decide, fun p hp => kq p _ _ hp⟩
      · exact ⟨_, rfl, _, rfl, by show 3 ≤ sizeLine; decide, fun p hp => kq p _ _ hp⟩
    refine ⟨_, rfl, _, rfl, a, _, rfl, .inl hS, _, _, rfl, rfl, _, rfl, ?_⟩
    refine iteD (fun c => ?_) (fun c => fin 0)
    rw [List.length_map] at c
    obtain ⟨j, rfl⟩ := Int.eq_ofNat_of_zero_le h0
    have hj : j < ns.length := by omega
    refine ⟨_, rfl, _, rfl, a, _, _, .int ns[j], rfl, rfl, hS, atI_nat (by rw [List.getElem?_map, List.getElem?_eq_getElem hj]; rfl), .inl ⟨_, rfl, ?_⟩⟩
    exact fin _
def spDraw : Sp := fun vs H Q _ => ∃ (p : Addr) (m : Int), vs = [.ref p, .int m] ∧ Bag H p ∧ 0 < m ∧ m.natAbs.log2 < 9000 ∧ ∀ (H' : Hp) (r : Int), 0 ≤ r → r < m → Stp p H H' → Q (.int r) H'
theorem ok__law_draw (T : Txt K mg) : FnOk P w K mg base CX0 1 T.a__law_draw T.fd__law_draw ["_law_bag_here", "_law_many"] spDraw := by
  refine T.F__law_draw.ok sc__law_draw (fun vs H Q E h => ?_) (fun cdv A outer s H vs Q E hr h => ?_)
  · obtain ⟨p, m, rfl, _⟩ := h
    rfl
  · obtain ⟨p, m, rfl, ⟨x, y, k, hp⟩, h0, h1, kq0⟩ := h
    have kq : ∀ (x' y' r : Int), 0 ≤ r → r < m → Q (.int r) (upd H p (.lst [.int x', .int y', .int k])) := fun x' y' r r0 r1 => kq0 _ r r0 r1 ⟨(Kp.refl _ _).put (by simp), _, _, _, upd_same⟩
    clear kq0
    refine ⟨_, PSs.nox (pss_cons (ps_if (pt_cmpR op_eq (pe_ix ix_list (pv 0) pe_int (fun _ _ => rfl)) pe_int (nomark _)) (pss_cons (ps_set (i := 2) sc__law_draw.nd rfl (Or.inl rfl) (pe_op op_mod (pe_callTy call_int1 (by rfl) T.n_int (by decide +kernel) (pa_cons (pe_op op_add (pe_op op_add (pe_op op_mul (pe_ix ix_list (pv 0) pe_int (fun _ _ => rfl)) pe_int) (pe_op op_mul (pe_ix ix_list (pv 0) pe_int (fun _ _ => rfl)) pe_int)) pe_int) pa_nil)) pe_int))
      (pss_cons (ps_asg (pe_op op_add (pe_op op_mul (pv 2) pe_int) (pe_op op_mod (pe_callTy call_int1 (by rfl) T.n_int (by decide +kernel) (pa_cons (pe_op op_add (pe_op op_mul (pv 2) (pv 2)) (pe_op op_mul (pe_ix ix_list (pv 0) pe_int (fun _ _ => rfl)) pe_int)) pa_nil)) pe_int)) (pg_sub (pv 0) pe_int set_list))
      (pss_one (ps_asg (pv 2) (pg_sub (pv 0) pe_int set_list))))) pss_nil)
      (pss_cons (ps_set (i := 3) sc__law_draw.nd rfl (Or.inl rfl) (pe_ix ix_list (pv 0) pe_int (fun _ _ => rfl)))
      (pss_cons (ps_asg (pe_op op_fdivW (pv 3) (pv 1)) (pg_sub (pv 0) pe_int set_list))
      (pss_one (ps_ret (pe_op op_mod (pe_callTy call_int1 (by rfl) T.n_int (by decide +kernel) (pa_cons (pv 3) pa_nil)) (pv 1))))))), ?_⟩
    have i0 : ∀ (a b c : V), atI [a, b, c] 0 = some a := fun _ _ _ => rfl
    have i1 : ∀ (a b c : V), atI [a, b, c] 1 = some b := fun _ _ _ => rfl
    have i2 : ∀ (a b c : V), atI [a, b, c] 2 = some c := fun _ _ _ => rfl
    refine ⟨_, rfl, p, _, _, _, rfl, rfl, SqL.of hp, i0 _ _ _, rfl, _, rfl, ?_⟩
    refine iteD (fun c => ?_) (fun c => ?_)
    · have hs : (0 : Int) ≤ (y * 48271 + k * 69621 + 11) % 2147483647 := Int.emod_nonneg _ (by decide)
      have hs2 : (y * 48271 + k * 69621 + 11) % 2147483647 < 2147483647 := Int.emod_lt_of_pos _ (by decide)
      refine ⟨_, rfl, p, _, _, _, rfl, rfl, SqL.of hp, i1 _ _ _, _, _, rfl, rfl, .inr ⟨by decide, by decide⟩, _, rfl, p, _, _, _, rfl, rfl, SqL.of hp, i2 _ _ _, _, _, rfl, rfl, .inr ⟨by decide, by decide⟩, _, _, rfl, rfl, _, _, rfl, rfl, .inl ⟨_, rfl, _, _, rfl, rfl, by show (0 : Int) < 2147483647; decide, ?_⟩⟩
      refine ⟨_, rfl, _, _, rfl, rfl, .inl ⟨by omega, by omega⟩, _, rfl, _, rfl, _, _, rfl, rfl, .inl ⟨by omega, by omega⟩, _, rfl, p, _, _, _, rfl, rfl, SqL.of hp, i2 _ _ _, _, _, rfl, rfl, .inr ⟨by decide, by decide⟩, _, _, rfl, rfl, .inl ⟨_, rfl, _, _, rfl, rfl, by show (0 : Int) < 2147483629; decide, _, _, rfl, rfl, _, rfl, p, _, _, 0, rfl, rfl, hp, rfl, ?_⟩⟩
      refine ⟨_, rfl, _, rfl, p, _, _, 1, rfl, rfl, upd_same, rfl, ?_⟩
      rw [upd_upd]
      refine ⟨_, rfl, p, _, _, _, rfl, rfl, SqL.of upd_same, i0 _ _ _, ?_⟩
      refine ⟨_, rfl, _, rfl, _, _, rfl, rfl, ⟨h0, h1⟩, _, rfl, p, _, _, 0, rfl, rfl, upd_same, rfl, ?_⟩
      rw [upd_upd]
      refine ⟨_, rfl, .inl ⟨_, rfl, _, rfl, _, _, rfl, rfl, h0, ?_⟩⟩
      exact kq _ _ _ (Int.emod_nonneg _ (by omega)) (Int.emod_lt_of_pos _ h0)
    · refine ⟨_, rfl, p, _, _, _, rfl, rfl, SqL.of hp, i0 _ _ _, ?_⟩
      refine ⟨_, rfl, _, rfl, _, _, rfl, rfl, ⟨h0, h1⟩, _, rfl, p, _, _, 0, rfl, rfl, hp, rfl, ?_⟩
      refine ⟨_, rfl, .inl ⟨_, rfl, _, rfl, _, _, rfl, rfl, h0, ?_⟩⟩
      exact kq _ _ _ (Int.emod_nonneg _ (by omega)) (Int.emod_lt_of_pos _ h0)

def spIsInteger (K : PySem.W.Frag) : Sp := fun vs H Q _ => ∃ (v : V) (d : PyData) (lo hi : Int), vs = [v, .int lo, .int hi] ∧ Dp K H v d ∧ Q (.bl (intIn d lo hi)) H
theorem ok_is_integer (T : Txt K mg) : FnOk P w K mg base CX0 1 T.a_is_integer T.fd_is_integer ["value", "least", "greatest"] (spIsInteger K) := by
  refine T.F_is_integer.ok sc_is_integer (fun vs H Q E h => ?_) (fun cdv A outer s H vs Q E hr h => ?_)
  · obtain ⟨v, d, lo, hi, rfl, _⟩ := h
    rfl
  · obtain ⟨v, d, lo, hi, rfl, hd, k⟩ := h
    refine ⟨_, PSs.nox (pss_cons (ps_if (PW.pt (pw_or (pt_not (pt_val (pe_callB call_isi (by rfl) T.n_isinstance (by decide +kernel) (pa_cons (pv 0) (pa_cons (pe_bltn (v := .ty "int") (u := .type "int") rfl T.n_int (by decide +kernel) rfl) pa_nil))))) (pw_or1 (pt_val (pe_callB call_isi (by rfl) T.n_isinstance (by decide +kernel) (pa_cons (pv 0) (pa_cons (pe_bltn (v := .ty "bool") (u := .type "bool") rfl T.n_bool (by decide +kernel) rfl) pa_nil))))))) (pss_one (ps_ret pe_bl)) pss_nil)
      (pss_one (ps_ret (pe_and (pe_cmpR op_le (pv 1) (pv 0) (nomark _)) (pe_one (pe_cmpR op_le (pv 0) (pv 2) (nomark _))))))), ?_⟩
    refine ⟨_, rfl, _, _, _, _, _, rfl, .ty _, ty_of hd, kit_ty (kit_int d), _, rfl, ?_⟩
    cases d with
    | int i =>
      cases hd
      refine ⟨_, rfl, _, _, _, _, _, rfl, .ty _, .base (.int i), kit_ty (kit_bol (.int i)), _, rfl, ?_⟩
      refine ⟨_, rfl, _, rfl, _, _, rfl, rfl, _, rfl, ?_⟩
      refine iteD (fun c => ?_) (fun c => ?_)
      · refine ⟨_, rfl, _, rfl, _, _, rfl, rfl, ?_⟩
        simpa [intIn, c] using k
      · simpa [intIn, c] using k
    | bool b =>
      cases hd
      exact ⟨_, rfl, _, _, _, _, _, rfl, .ty _, .base (.bl b), kit_ty (kit_bol (.bool b)), _, rfl, k⟩
    | _ => exact k

def isProc (c d : PyData) : Bool := match c with
  | .int n => decide (1 ≤ n) && decide (n ≤ 10) && intIn d 0 (n - 1)
  | _ => false
def spIsProcess (K : PySem.W.Frag) : Sp := fun vs H Q _ => ∃ (u v : V) (c d : PyData), vs = [u, v] ∧ Dp K H u c ∧ Dp K H v d ∧ Q (.bl (isProc c d)) H
theorem ok_is_process (T : Txt K mg) : FnOk P w K mg base CX0 2 T.a_is_process T.fd_is_process ["count", "value"] (spIsProcess K) := by
  refine T.F_is_process.ok sc_is_process (fun vs H Q E h => ?_) (fun cdv A outer s H vs Q E hr h => ?_)
  · obtain ⟨u, v, c, d, rfl, _⟩ := h
    rfl
  · obtain ⟨u, v, c, d, rfl, hc, hd, k⟩ := h
    refine ⟨_, PSs.nox (pss_one (ps_ret (pe_and (pe_call (ok_is_integer T) (hr.mono (by decide)) rfl T.g_is_integer T.F_is_integer.kp T.b_is_integer .nil pass0 (pa_cons (pv 0) (pa_cons pe_int (pa_cons (pe_glob rfl T.g_MOST_PROCESSES T.r_MOST_PROCESSES) pa_nil)))) (pe_one (pe_call (ok_is_integer T) (hr.mono (by decide)) rfl T.g_is_integer T.F_is_integer.kp T.b_is_integer .nil pass0 (pa_cons (pv 1) (pa_cons pe_int (pa_cons (pe_op op_sub (pv 0) pe_int) pa_nil)))))))), ?_⟩
    refine ⟨_, rfl, _, c, 1, 10, rfl, hc, _, rfl, ?_⟩
    cases c with
    | int n =>
      cases hc
      refine iteB (fun e => ?_) (fun e => ?_)
      · refine ⟨_, rfl, _, rfl, _, _, rfl, rfl, _, d, 0, n - 1, rfl, hd, ?_⟩
        have e' : (decide (1 ≤ n) && decide (n ≤ 10)) = true := e
        simpa [isProc, e'] using k
      · have e' : (decide (1 ≤ n) && decide (n ≤ 10)) = false := e
        simpa [isProc, e'] using k
    | _ => exact k

/-- a pair as the document says -/
def isPair : PyData → Bool
  | .tuple [a, b] => intIn a 0 (10 ^ 12) && intIn b 0 (10 ^ 12) && (match a, b with
    | .int x, .int y => decide (0 < y) || decide (x = 0)
    | _, _ => false)
  | _ => false
def spIsPair (K : PySem.W.Frag) : Sp := fun vs H Q _ => ∃ (v : V) (d : PyData), vs = [v] ∧ Dp K H v d ∧ Q (.bl (isPair d)) H
theorem ok_is_pair (T : Txt K mg) : FnOk P w K mg base CX0 2 T.a_is_pair T.fd_is_pair ["value"] (spIsPair K) := by
  refine T.F_is_pair.ok sc_is_pair (fun vs H Q E h => ?_) (fun cdv A outer s H vs Q E hr h => ?_)
  · obtain ⟨v, d, rfl, _⟩ := h
    rfl
  · obtain ⟨v, d, rfl, hd, k⟩ := h
    refine ⟨_, PSs.nox (pss_cons (ps_if (PW.pt (pw_or (pt_not (pt_val (pe_callB call_isi (by rfl) T.n_isinstance (by decide +kernel) (pa_cons (pv 0) (pa_cons (pe_bltn (v := .ty "tuple") (u := .type "tuple") rfl T.n_tuple (by decide +kernel) rfl) pa_nil))))) (pw_or1 (pt_cmpR op_ne (pe_callB call_lenP (by rfl) T.n_len PySem.boot_len (pa_cons (pv 0) pa_nil)) pe_int (nomark _))))) (pss_one (ps_ret pe_bl)) pss_nil)
      (pss_cons (ps_if (PW.pt (pw_or (pt_not (pt_val (pe_call (ok_is_integer T) (hr.mono (by decide)) rfl T.g_is_integer T.F_is_integer.kp T.b_is_integer .nil pass0 (pa_cons (pe_ix ix_data (pv 0) pe_int (fun _ _ => rfl)) (pa_cons pe_int (pa_cons (pe_glob rfl T.g_MOST_NUMBER T.r_MOST_NUMBER) pa_nil)))))) (pw_or1 (pt_not (pt_val (pe_call (ok_is_integer T) (hr.mono (by decide)) rfl T.g_is_integer T.F_is_integer.kp T.b_is_integer .nil pass0 (pa_cons (pe_ix ix_data (pv 0) pe_int (fun _ _ => rfl)) (pa_cons pe_int (pa_cons (pe_glob rfl T.g_MOST_NUMBER T.r_MOST_NUMBER) pa_nil))))))))) (pss_one (ps_ret pe_bl)) pss_nil)
      (pss_one (ps_ret (pe_or (pe_cmpR op_gt (pe_ix ix_data (pv 0) pe_int (fun _ _ => rfl)) pe_int (nomark _)) (pe_one (pe_cmpR op_eq (pe_ix ix_data (pv 0) pe_int (fun _ _ => rfl)) pe_int (nomark _)))))))), ?_⟩
    refine ⟨_, rfl, _, _, _, _, _, rfl, .ty _, ty_of hd, kit_ty (kit_tup d), _, rfl, ?_⟩
    cases d with
    | tuple ds =>
      refine iteF ⟨_, rfl, _, [], ds, rfl, .inl (DW.of hd), rfl, _, rfl, iteN (fun c => ?_) (fun c => ?_)⟩
      · rw [show isPair (.tuple ds) = false from ?_] at k
        · exact k
        · match ds with
          | [] => rfl
          | [_] => rfl
          | [_, _] => exact absurd rfl c
          | _ :: _ :: _ :: _ => rfl
      · have h2 : ds.length = 2 := by have := vint c; omega
        match ds, h2 with
        | [a, b], _ =>
              refine ⟨_, rfl, [], _, (0 : Nat), a, .inl (DW.of hd), rfl, rfl, fun v1 q1 => ⟨v1, a, 0, _, rfl, q1.dp, _, rfl, ?_⟩⟩
              refine iteNB (fun e => ?_) (fun e => ?_)
              · rw [show isPair (.tuple [a, b]) = false by simp [isPair, show intIn a 0 1000000000000 = false from e]] at k
                exact iteT k
              refine ⟨_, rfl, [], _, (1 : Nat), b, .inl (DW.of hd), rfl, rfl, fun v2 q2 => ⟨v2, b, 0, _, rfl, q2.dp, _, rfl, ?_⟩⟩
              refine iteNB (fun e2 => ?_) (fun e2 => ?_)
              · rw [show isPair (.tuple [a, b]) = false by simp [isPair, show intIn b 0 1000000000000 = false from e2]] at k
                exact k
              cases a with
              | int x =>
                cases b with
                | int y =>
                  have ek : isPair (.tuple [.int x, .int y]) = (decide (0 < y) || decide (x = 0)) := by
                    simp [isPair, show intIn (.int x) 0 1000000000000 = true from e, show intIn (.int y) 0 1000000000000 = true from e2]
                  rw [ek] at k
                  refine ⟨_, rfl, [], _, (1 : Nat), .int y, .inl (DW.of hd), rfl, rfl, fun v3 q3 => ?_⟩
                  cases q3
                  refine ⟨_, _, rfl, rfl, _, rfl, iteD (fun c => ?_) (fun c => ?_)⟩
                  · simpa [c] using k
                  refine ⟨_, rfl, [], _, (0 : Nat), .int x, .inl (DW.of hd), rfl, rfl, fun v3 q3 => ?_⟩
                  cases q3
                  refine ⟨rfl, ?_⟩
                  simpa [c] using k
                | _ => cases e2
              | _ => cases e
    | _ => exact iteT k

/-- a clock as the document says -/
def isClock (c d : PyData) : Bool := isProc c (.int 0) && (match c, d with
  | .int n, .tuple ds => decide ((ds.length : Int) = n) && ds.all isPair
  | _, _ => false)
def spIsClock (K : PySem.W.Frag) : Sp := fun vs H Q _ => ∃ (u v : V) (c d : PyData), vs = [u, v] ∧ Dp K H u c ∧ Dp K H v d ∧ ∀ H', Kp [] H H' → Q (.bl (isClock c d)) H'
theorem ok_is_clock (T : Txt K mg) : FnOk P w K mg base CX0 4 T.a_is_clock T.fd_is_clock ["count", "value"] (spIsClock K) := by
  refine T.F_is_clock.ok sc_is_clock (fun vs H Q E h => ?_) (fun cdv A outer s H vs Q E hr h => ?_)
  · obtain ⟨u, v, c, d, rfl, _⟩ := h
    rfl
  · obtain ⟨u, v, c, d, rfl, hc, hd, k⟩ := h
    refine ⟨_, PSs.nox (pss_cons (ps_if (PW.pt (pw_or (pt_not (pt_val (pe_call (ok_is_process T) (hr.mono (by decide)) rfl T.g_is_process T.F_is_process.kp T.b_is_process .nil pass0 (pa_cons (pv 0) (pa_cons pe_int pa_nil))))) (pw_or (pt_not (pt_val (pe_callB call_isi (by rfl) T.n_isinstance (by decide +kernel) (pa_cons (pv 1) (pa_cons (pe_bltn (v := .ty "tuple") (u := .type "tuple") rfl T.n_tuple (by decide +kernel) rfl) pa_nil))))) (pw_or1 (pt_cmpR op_ne (pe_callB call_lenP (by rfl) T.n_len PySem.boot_len (pa_cons (pv 1) pa_nil)) (pv 0) (nomark _)))))) (pss_one (ps_ret pe_bl)) pss_nil)
      (pss_one (ps_ret (pe_callB (cr_all rfl) (by rfl) T.n_all (by decide +kernel) (pa_cons (pe_lc (own := [("pair", 2)]) (g := gName 2) (tt := tYes) rfl sc_is_clock.nd (pi_tup (pv 1)) (by exact blkOk_by (N := N_is_clock) (sc := defScope s_is_clock) (by decide +kernel)) (fun _ _ _ _ _ => pg_name (i := 2) sc_is_clock.nd rfl (Or.inl rfl)) (fun _ _ _ _ _ => pts_nil) (fun _ _ _ _ _ => pe_call (ok_is_pair T) (hr.mono (by decide)) rfl T.g_is_pair T.F_is_pair.kp T.b_is_pair .nil pass0 (pa_cons (pv 2) pa_nil))) pa_nil))))), ?_⟩
    refine ⟨_, rfl, u, .int 0, c, .int 0, rfl, hc, .int 0, _, rfl, ?_⟩
    refine iteNB (fun e => ?_) (fun e => ?_)
    · refine iteT ?_
      rw [show isClock c d = false by simp [isClock, e]] at k
      exact k H (Kp.refl _ _)
    refine ⟨_, rfl, _, _, _, _, _, rfl, .ty _, ty_of hd, kit_ty (kit_tup d), _, rfl, ?_⟩
    have hk := k H (Kp.refl _ _)
    cases c with
    | int n =>
      cases hc
      have hn : n ≤ 10 := by
        have e' : (decide (1 ≤ n) && decide (n ≤ 10) && intIn (.int 0) 0 (n - 1)) = true := e
        simp only [Bool.and_eq_true, decide_eq_true_eq] at e'
        exact e'.1.2
      cases d with
      | tuple ds =>
        refine iteF ⟨_, rfl, _, [], ds, rfl, .inl (DW.of hd), _, rfl, rfl, _, rfl, iteN (fun c => ?_) (fun c => ?_)⟩
        · rw [show isClock (.int n) (.tuple ds) = false from ?_] at hk
          · exact hk
          · have c' : ¬ ((ds.length : Int) = n) := fun z => c (by rw [z])
            simp [isClock, c']
        have hl : (ds.length : Int) = n := vint c
        have ek : isClock (.int n) (.tuple ds) = ds.all isPair := by simp [isClock, e, hl]
        rw [ek] at k
        obtain ⟨a, xs, rfl, hq, ha⟩ := (DW.of hd).tupOf
        replace ha := ha.dp
        have hlen := ha.len
        refine ⟨_, rfl, a, rfl, ⟨xs, hq⟩, fun D nD => ?_⟩
        refine lc_tup (fun i H' => H' = upd H D (.lst ((ds.take i).map fun d => V.bl (isPair d)))) rfl (fun i H' _ e => by rw [e]; exact ((Kp.refl [] H).new nD).kt _ _ hq) (fun i x H' hx e => ?_) (fun H' e => ?_)
        · subst e
          obtain ⟨d, e1, e2⟩ := DpAll.get ha hx
          refine ⟨rfl, _, rfl, x, d, rfl, Dp.ex ((Kp.refl [] H).new nD) _ _ e2, _, upd_same, ?_, ?_⟩
          · rw [List.length_map, List.length_take]
            exact smallL (by omega)
          · rw [upd_upd, List.take_succ, e1]
            simp
        · subst e
          rw [hlen, List.take_length]
          refine ⟨D, ds.map isPair, rfl, SqL.of ?_, ?_⟩
          · rw [upd_same, List.map_map]
            rfl
          · have := k _ ((Kp.refl [] H).new (o := .lst (ds.map fun d => V.bl (isPair d))) nD)
            rw [show (ds.map isPair).all id = ds.all isPair by simp [List.all_map]]
            exact this
      | _ => exact iteT (show Q (.bl false) H from by simpa [isClock] using hk)
    | _ => cases e

def spLawInt (K : PySem.W.Frag) : Sp := fun vs H Q _ => ∃ (v : V) (d : PyData) (lo hi : Int), vs = [v, .int lo, .int hi] ∧ Dp K H v d ∧ Q (.bl (intIn d lo hi)) H
theorem ok__law_is_int (T : Txt K mg) : FnOk P w K mg base CX0 1 T.a__law_is_int T.fd__law_is_int ["_law_value", "_law_least", "_law_most"] (spLawInt K) := by
  refine T.F__law_is_int.ok sc__law_is_int (fun vs H Q E h => ?_) (fun cdv A outer s H vs Q E hr h => ?_)
  · obtain ⟨v, d, lo, hi, rfl, _⟩ := h
    rfl
  · obtain ⟨v, d, lo, hi, rfl, hd, k⟩ := h
    refine ⟨_, PSs.nox (pss_one (ps_ret (pe_and (pe_callB call_isi (by rfl) T.n_isinstance (by decide +kernel) (pa_cons (pv 0) (pa_cons (pe_bltn (v := .ty "int") (u := .type "int") rfl T.n_int (by decide +kernel) rfl) pa_nil))) (pe_and (pe_not (pe_callB call_isi (by rfl) T.n_isinstance (by decide +kernel) (pa_cons (pv 0) (pa_cons (pe_bltn (v := .ty "bool") (u := .type "bool") rfl T.n_bool (by decide +kernel) rfl) pa_nil)))) (pe_and (pe_cmpR op_le (pv 1) (pv 0) (nomark _)) (pe_one (pe_cmpR op_le (pv 0) (pv 2) (nomark _)))))))), ?_⟩
    refine ⟨_, rfl, _, _, _, _, _, rfl, .ty _, ty_of hd, kit_ty (kit_int d), _, rfl, ?_⟩
    cases d with
    | int i =>
      cases hd
      refine ⟨_, rfl, _, _, _, _, _, rfl, .ty _, .base (.int i), kit_ty (kit_bol (.int i)), _, rfl, _, rfl, ?_⟩
      refine ⟨_, rfl, _, rfl, _, _, rfl, rfl, _, rfl, ?_⟩
      refine iteD (fun c => ?_) (fun c => ?_)
      · refine ⟨_, rfl, _, rfl, _, _, rfl, rfl, ?_⟩
        simpa [intIn, c] using k
      · simpa [intIn, c] using k
    | bool b =>
      cases hd
      exact ⟨_, rfl, _, _, _, _, _, rfl, .ty _, .base (.bl b), kit_ty (kit_bol (.bool b)), _, rfl, _, rfl, k⟩
    | _ => exact k

def spLawIsPair (K : PySem.W.Frag) : Sp := fun vs H Q _ => ∃ (v : V) (d : PyData), vs = [v] ∧ Dp K H v d ∧ Q (.bl (isPair d)) H
theorem ok__law_is_pair (T : Txt K mg) : FnOk P w K mg base CX0 2 T.a__law_is_pair T.fd__law_is_pair ["_law_value"] (spLawIsPair K) := by
  refine T.F__law_is_pair.ok sc__law_is_pair (fun vs H Q E h => ?_) (fun cdv A outer s H vs Q E hr h => ?_)
  · obtain ⟨v, d, rfl, _⟩ := h
    rfl
  · obtain ⟨v, d, rfl, hd, k⟩ := h
    refine ⟨_, PSs.nox (pss_cons (ps_if (PW.pt (pw_or (pt_not (pt_val (pe_callB call_isi (by rfl) T.n_isinstance (by decide +kernel) (pa_cons (pv 0) (pa_cons (pe_bltn (v := .ty "tuple") (u := .type "tuple") rfl T.n_tuple (by decide +kernel) rfl) pa_nil))))) (pw_or1 (pt_cmpR op_ne (pe_callB call_lenP (by rfl) T.n_len PySem.boot_len (pa_cons (pv 0) pa_nil)) pe_int (nomark _))))) (pss_one (ps_ret pe_bl)) pss_nil)
      (pss_cons (ps_if (PW.pt (pw_or (pt_not (pt_val (pe_call (ok__law_is_int T) (hr.mono (by decide)) rfl T.g__law_is_int T.F__law_is_int.kp T.b__law_is_int .nil pass0 (pa_cons (pe_ix ix_data (pv 0) pe_int (fun _ _ => rfl)) (pa_cons pe_int (pa_cons (pe_op op_pow pe_int pe_int) pa_nil)))))) (pw_or1 (pt_not (pt_val (pe_call (ok__law_is_int T) (hr.mono (by decide)) rfl T.g__law_is_int T.F__law_is_int.kp T.b__law_is_int .nil pass0 (pa_cons (pe_ix ix_data (pv 0) pe_int (fun _ _ => rfl)) (pa_cons pe_int (pa_cons (pe_op op_pow pe_int pe_int) pa_nil))))))))) (pss_one (ps_ret pe_bl)) pss_nil)
      (pss_one (ps_ret (pe_or (pe_cmpR op_eq (pe_ix ix_data (pv 0) pe_int (fun _ _ => rfl)) pe_int (nomark _)) (pe_one (pe_cmpR op_gt (pe_ix ix_data (pv 0) pe_int (fun _ _ => rfl)) pe_int (nomark _)))))))), ?_⟩
    refine ⟨_, rfl, _, _, _, _, _, rfl, .ty _, ty_of hd, kit_ty (kit_tup d), _, rfl, ?_⟩
    cases d with
    | tuple ds =>
      refine iteF ⟨_, rfl, _, [], ds, rfl, .inl (DW.of hd), rfl, _, rfl, iteN (fun c => ?_) (fun c => ?_)⟩
      · rw [show isPair (.tuple ds) = false from ?_] at k
        · exact k
        · match ds with
          | [] => rfl
          | [_] => rfl
          | [_, _] => exact absurd rfl c
          | _ :: _ :: _ :: _ => rfl
      · have h2 : ds.length = 2 := by have := vint c; omega
        match ds, h2 with
        | [a, b], _ =>
              refine ⟨_, rfl, [], _, (0 : Nat), a, .inl (DW.of hd), rfl, rfl, fun v1 q1 => ⟨_, _, rfl, rfl, ⟨by decide, by decide, by decide⟩, v1, a, 0, _, rfl, q1.dp, _, rfl, ?_⟩⟩
              refine iteNB (fun e => ?_) (fun e => ?_)
              · rw [show isPair (.tuple [a, b]) = false by simp [isPair, show intIn a 0 1000000000000 = false from e]] at k
                exact iteT k
              refine ⟨_, rfl, [], _, (1 : Nat), b, .inl (DW.of hd), rfl, rfl, fun v2 q2 => ⟨_, _, rfl, rfl, ⟨by decide, by decide, by decide⟩, v2, b, 0, _, rfl, q2.dp, _, rfl, ?_⟩⟩
              refine iteNB (fun e2 => ?_) (fun e2 => ?_)
              · rw [show isPair (.tuple [a, b]) = false by simp [isPair, show intIn b 0 1000000000000 = false from e2]] at k
                exact k
              cases a with
              | int x =>
                cases b with
                | int y =>
                  have ek : isPair (.tuple [.int x, .int y]) = (decide (0 < y) || decide (x = 0)) := by
                    simp [isPair, show intIn (.int x) 0 1000000000000 = true from e, show intIn (.int y) 0 1000000000000 = true from e2]
                  rw [ek] at k
                  refine ⟨_, rfl, [], _, (0 : Nat), .int x, .inl (DW.of hd), rfl, rfl, fun v3 q3 => ?_⟩
                  cases q3
                  refine ⟨rfl, _, rfl, iteD (fun c => ?_) (fun c => ?_)⟩
                  · have c' := vint c
                    simpa [c'] using k
                  refine ⟨_, rfl, [], _, (1 : Nat), .int y, .inl (DW.of hd), rfl, rfl, fun v3 q3 => ?_⟩
                  cases q3
                  refine ⟨_, _, rfl, rfl, ?_⟩
                  have c' := vint_ne c
                  simpa [c'] using k
                | _ => cases e2
              | _ => cases e
    | _ => exact iteT k

/-! ### drawn numbers, pairs, clocks -/
def spNumber : Sp := fun vs H Q _ => ∃ p : Addr, vs = [.ref p] ∧ Bag H p ∧ ∀ (H' : Hp) (r : Int), Stp p H H' → Q (.int r) H'
theorem ok__law_number (T : Txt K mg) : FnOk P w K mg base CX0 2 T.a__law_number T.fd__law_number ["_law_bag_here"] spNumber := by
  refine T.F__law_number.ok sc__law_number (fun vs H Q E h => ?_) (fun cdv A outer s H vs Q E hr h => ?_)
  · obtain ⟨p, rfl, _⟩ := h
    rfl
  · obtain ⟨p, rfl, b, k⟩ := h
    refine ⟨_, PSs.nox (pss_cons (ps_if (pt_cmpR op_eq (pe_call (ok__law_draw T) (hr.mono (by decide)) rfl T.g__law_draw T.F__law_draw.kp T.b__law_draw .nil pass0 (pa_cons (pv 0) (pa_cons pe_int pa_nil))) pe_int (nomark _)) (pss_one (ps_ret (pe_call (ok__law_draw T) (hr.mono (by decide)) rfl T.g__law_draw T.F__law_draw.kp T.b__law_draw .nil pass0 (pa_cons (pv 0) (pa_cons (pe_op op_add (pe_op op_pow pe_int pe_int) pe_int) pa_nil))))) pss_nil)
      (pss_one (ps_ret (pe_call (ok__law_draw T) (hr.mono (by decide)) rfl T.g__law_draw T.F__law_draw.kp T.b__law_draw .nil pass0 (pa_cons (pv 0) (pa_cons pe_int pa_nil)))))), ?_⟩
    refine ⟨_, rfl, p, 8, rfl, b, by decide, by decide +kernel, fun H1 r _ _ s1 => ⟨rfl, _, rfl, ?_⟩⟩
    refine iteD (fun c => ?_) (fun c => ?_)
    · exact ⟨_, rfl, _, _, rfl, rfl, ⟨by decide, by decide, by decide⟩, _, _, rfl, rfl, p, _, rfl, s1.2, by decide, by decide +kernel, fun H2 r2 _ _ s2 => k H2 r2 (s1.trans s2)⟩
    · exact ⟨_, rfl, p, 5, rfl, s1.2, by decide, by decide +kernel, fun H2 r2 _ _ s2 => k H2 r2 (s1.trans s2)⟩
def spPair (K : PySem.W.Frag) : Sp := fun vs H Q _ => ∃ (p : Addr) (W : List Addr), vs = [.ref p] ∧ Bag H p ∧ p ∈ W ∧ Al W H ∧ ∀ (H' : Hp) (v : V) (x y : Int), Stp p H H' → DW K W H' v (.tuple [.int x, .int y]) → Q v H'
theorem ok__law_pair (T : Txt K mg) : FnOk P w K mg base CX0 3 T.a__law_pair T.fd__law_pair ["_law_bag_here"] (spPair K) := by
  refine T.F__law_pair.ok sc__law_pair (fun vs H Q E h => ?_) (fun cdv A outer s H vs Q E hr h => ?_)
  · obtain ⟨p, W, rfl, _⟩ := h
    rfl
  · obtain ⟨p, W, rfl, b, hw, al, k⟩ := h
    refine ⟨_, PSs.nox (pss_cons (ps_set (i := 1) sc__law_pair.nd rfl (Or.inl rfl) (pe_call (ok__law_number T) (hr.mono (by decide)) rfl T.g__law_number T.F__law_number.kp T.b__law_number .nil pass0 (pa_cons (pv 0) pa_nil)))
      (pss_cons (ps_if (pt_cmpR op_eq (pv 1) pe_int (nomark _)) (pss_one (ps_ret (PE.lit (K := K) (pe_tup (pa_cons pe_int (pa_cons pe_int pa_nil))) (lit_tup (lit_cons (lit_int _) (lit_cons (lit_int _) lit_nil)) (by decide))))) pss_nil)
      (pss_one (ps_ret (pe_tup (pa_cons (pe_call (ok__law_number T) (hr.mono (by decide)) rfl T.g__law_number T.F__law_number.kp T.b__law_number .nil pass0 (pa_cons (pv 0) pa_nil)) (pa_cons (pv 1) pa_nil))))))), ?_⟩
    refine ⟨_, rfl, p, rfl, b, fun H1 r s1 => ⟨_, rfl, rfl, _, rfl, ?_⟩⟩
    refine iteD (fun c => ?_) (fun c => ?_)
    · exact fun v H2 k2 h2 => k H2 v _ _ (s1.ex k2) (h2 W (s1.alW al))
    · refine ⟨_, rfl, p, rfl, s1.2, fun H2 r2 s2 => ⟨_, rfl, by show 2 ≤ sizeLine; decide, fun q n => ?_⟩⟩
      exact k _ _ r2 r ((s1.trans s2).new n) (DWs.tup (.cons (.int _) (.cons (.int _) .nil)) (s2.alW (s1.alW al)) n)
def spClock (K : PySem.W.Frag) : Sp := fun vs H Q _ => ∃ (p : Addr) (n : Int) (W : List Addr), vs = [.ref p, .int n] ∧ Bag H p ∧ 1 ≤ n ∧ n ≤ 10 ∧ p ∈ W ∧ Al W H ∧
  ∀ (H' : Hp) (v : V) (ds : List PyData), Stp p H H' → DW K W H' v (.tuple ds) → (∀ d ∈ ds, ∃ x y : Int, d = .tuple [.int x, .int y]) → (ds.length : Int) = n → Q v H'
theorem ok__law_clock (T : Txt K mg) : FnOk P w K mg base CX0 5 T.a__law_clock T.fd__law_clock ["_law_bag_here", "_law_count"] (spClock K) := by
  refine T.F__law_clock.ok sc__law_clock (fun vs H Q E h => ?_) (fun cdv A outer s H vs Q E hr h => ?_)
  · obtain ⟨p, n, W, rfl, _⟩ := h
    rfl
  · obtain ⟨p, n, W, rfl, b, n1, n2, hw, al, k⟩ := h
    refine ⟨_, PSs.nox (pss_one (ps_ret (pe_callTy call_tuple_of (by rfl) T.n_tuple (by decide +kernel) (pa_cons (pe_lc (own := [("_law_k", 2)]) (g := gName 2) (tt := tYes) rfl sc__law_clock.nd (pi_range1 rfl T.n_range (pa_cons (pv 1) pa_nil)) (by exact blkOk_by (N := N__law_clock) (sc := defScope s__law_clock) (by decide +kernel)) (fun _ _ _ _ _ => pg_name (i := 2) sc__law_clock.nd rfl (Or.inl rfl)) (fun _ _ _ _ _ => pts_nil) (fun _ _ _ _ _ => pe_call (ok__law_pair T) (hr.mono (by decide)) rfl T.g__law_pair T.F__law_pair.kp T.b__law_pair .nil pass0 (pa_cons (pv 0) pa_nil))) pa_nil)))), ?_⟩
    obtain ⟨m, rfl⟩ := Int.eq_ofNat_of_zero_le (Int.le_trans (by decide) n1)
    refine ⟨_, rfl, m, rfl, by omega, by omega, fun D nD => ?_⟩
    refine lc_bag (K := K) (W := W) (fun d => ∃ x y : Int, d = .tuple [.int x, .int y]) (smallL (by omega)) nD b al hw (fun i H1 Post hi s1 al1 po => ?_) (fun H1 acc ds s1 al1 e1 h1 l1 g1 => ?_)
    · exact ⟨rfl, _, rfl, p, D :: W, rfl, s1.2, List.mem_cons_of_mem _ hw, al1, fun H2 v x y s2 h2 => po v _ H2 ⟨x, y, rfl⟩ s2 h2⟩
    · refine ⟨D, acc, rfl, .inl ⟨SqL.of e1, fun l nl => ?_⟩⟩
      have al2 : Al W H1 := fun x m => al1 x (List.mem_cons_of_mem _ m)
      exact k _ _ ds (s1.new nl) (DWs.tup (DpAll.ex (out_wide fun x m => .inl (List.mem_cons_of_mem _ m)) _ _ h1) al2 nl) g1 (by rw [l1]; simp)

theorem isProc0 (c : PyData) : isProc c (.int 0) = intIn c 1 10 := by
  cases c with
  | int n =>
    show (decide (1 ≤ n) && decide (n ≤ 10) && (decide ((0 : Int) ≤ 0) && decide (0 ≤ n - 1))) = (decide (1 ≤ n) && decide (n ≤ 10))
    by_cases h : 1 ≤ n
    · have h2 : 0 ≤ n - 1 := by omega
      simp [h, h2]
    · simp [h]
  | _ => rfl
def spLawIsClock (K : PySem.W.Frag) : Sp := fun vs H Q _ => ∃ (u v : V) (c d : PyData), vs = [u, v] ∧ Dp K H u c ∧ Dp K H v d ∧ Q (.bl (isClock c d)) H
theorem ok__law_is_clock (T : Txt K mg) : FnOk P w K mg base CX0 4 T.a__law_is_clock T.fd__law_is_clock ["_law_count", "_law_value"] (spLawIsClock K) := by
  refine T.F__law_is_clock.ok sc__law_is_clock (fun vs H Q E h => ?_) (fun cdv A outer s H vs Q E hr h => ?_)
  · obtain ⟨u, v, c, d, rfl, _⟩ := h
    rfl
  · obtain ⟨u, v, c, d, rfl, hc, hd, k⟩ := h
    refine ⟨_, PSs.nox (pss_cons (ps_if (PW.pt (pw_or (pt_not (pt_val (pe_call (ok__law_is_int T) (hr.mono (by decide)) rfl T.g__law_is_int T.F__law_is_int.kp T.b__law_is_int .nil pass0 (pa_cons (pv 0) (pa_cons pe_int (pa_cons pe_int pa_nil)))))) (pw_or (pt_not (pt_val (pe_callB call_isi (by rfl) T.n_isinstance (by decide +kernel) (pa_cons (pv 1) (pa_cons (pe_bltn (v := .ty "tuple") (u := .type "tuple") rfl T.n_tuple (by decide +kernel) rfl) pa_nil))))) (pw_or1 (pt_cmpR op_ne (pe_callB call_lenP (by rfl) T.n_len PySem.boot_len (pa_cons (pv 1) pa_nil)) (pv 0) (nomark _)))))) (pss_one (ps_ret pe_bl)) pss_nil)
      (pss_cons (ps_for PassesOwn.never rfl (pi_tup (pv 1)) (pg_name (i := 2) sc__law_is_clock.nd rfl (Or.inl rfl))
        (pss_one (ps_if (pt_not (pt_val (pe_call (ok__law_is_pair T) (hr.mono (by decide)) rfl T.g__law_is_pair T.F__law_is_pair.kp T.b__law_is_pair .nil pass0 (pa_cons (pv 2) pa_nil)))) (pss_one (ps_ret pe_bl)) pss_nil)))
      (pss_one (ps_ret pe_bl)))), ?_⟩
    refine ⟨_, rfl, u, c, 1, 10, rfl, hc, _, rfl, ?_⟩
    refine iteNB (fun e => ?_) (fun e => ?_)
    · refine iteT ?_
      rw [show isClock c d = false by simp [isClock, isProc0, e]] at k
      exact k
    refine ⟨_, rfl, _, _, _, _, _, rfl, .ty _, ty_of hd, kit_ty (kit_tup d), _, rfl, ?_⟩
    cases c with
    | int n =>
      cases hc
      cases d with
      | tuple ds =>
        refine iteF ⟨_, rfl, _, [], ds, rfl, .inl (DW.of hd), _, rfl, rfl, _, rfl, iteN (fun c => ?_) (fun c => ?_)⟩
        · rw [show isClock (.int n) (.tuple ds) = false from ?_] at k
          · exact k
          · have c' : ¬ ((ds.length : Int) = n) := fun z => c (by rw [z])
            simp [isClock, c']
        have hl : (ds.length : Int) = n := vint c
        have ek : isClock (.int n) (.tuple ds) = ds.all isPair := by simp [isClock, isProc0, e, hl]
        rw [ek] at k
        obtain ⟨a, xs, rfl, hq, ha⟩ := (DW.of hd).tupOf
        replace ha := ha.dp
        have hlen := ha.len
        refine ⟨_, rfl, a, rfl, ⟨xs, hq⟩, ?_⟩
        refine for_tup (fun i σ H' => H' = H ∧ (∃ z, σ = [some (.int n), some (.ref a), z]) ∧ ∀ d ∈ ds.take i, isPair d = true) ⟨rfl, ⟨_, rfl⟩, fun d m => by simp at m⟩ (fun i σ H' _ e => by rw [e.1]; exact hq) ?_ ?_
        · rintro i x σ H' hx ⟨rfl, ⟨z, rfl⟩, hi⟩
          obtain ⟨d, e1, e2⟩ := DpAll.get ha hx
          refine ⟨_, rfl, x, d, rfl, e2, _, rfl, iteNB (fun c => ?_) (fun c => ?_)⟩
          · rw [show ds.all isPair = false from List.all_eq_false.mpr ⟨d, List.mem_of_getElem? e1, by simp [c]⟩] at k
            exact k
          · refine ⟨rfl, ⟨_, rfl⟩, fun z m => ?_⟩
            rw [List.take_succ, e1] at m
            rcases List.mem_append.mp m with m | m
            · exact hi z m
            · simp at m
              rw [m]; exact c
        · rintro σ H' ⟨rfl, _, hi⟩
          rw [hlen, List.take_length] at hi
          rw [List.all_eq_true.mpr hi] at k
          exact k
      | _ => exact iteT (show Q (.bl false) H from by simpa [isClock] using k)
    | _ => cases e

def spSpoilt (K : PySem.W.Frag) : Nat → Sp
  | 0 => fun _ _ _ _ => False
  | n + 1 => fun vs H Q _ => ∃ (p : Addr) (v o : V) (d od : PyData) (W : List Addr) (L m : Nat), vs = [.ref p, v, o] ∧ Bag H p ∧ p ∈ W ∧ Al W H ∧ DW K W H v d ∧ DW K W H o od ∧ Tame L n d ∧ Tame (4 * L + 1) m od ∧ L ≤ 1000 ∧
    ∀ H' v' d', Stp p H H' → DW K W H' v' d' → Tame (4 * L + 1) (n + m) d' → Q v' H'
theorem ok__law_spoilt (T : Txt K mg) : ∀ n, FnOk P w K mg base CX0 (n + 2) T.a__law_spoilt T.fd__law_spoilt ["_law_bag_here", "_law_value", "_law_odd"] (spSpoilt K n)
  | 0 => T.F__law_spoilt.ok sc__law_spoilt (fun vs H Q E h => h.elim) (fun cdv A outer s H vs Q E hr h => h.elim)
  | n + 1 => by
    have ih := ok__law_spoilt T n
    refine T.F__law_spoilt.ok sc__law_spoilt (fun vs H Q E h => ?_) (fun cdv A outer s H vs Q E hr h => ?_)
    · obtain ⟨p, v, o, d, od, W, L, m, rfl, _⟩ := h
      rfl
    · obtain ⟨p, v, o, d, od, W, L, m, rfl, b, hw, al, hd, ho, td, to, hL, k⟩ := h
      refine ⟨_, PSs.nox (pss_cons (ps_if (PW.pt (pw_or (pt_not (pt_val (pe_callB call_isi (by rfl) T.n_isinstance (by decide +kernel) (pa_cons (pv 1) (pa_cons (pe_bltn (v := .ty "tuple") (u := .type "tuple") rfl T.n_tuple (by decide +kernel) rfl) pa_nil))))) (pw_or (pt_cmpR op_eq (pe_callB call_lenP (by rfl) T.n_len PySem.boot_len (pa_cons (pv 1) pa_nil)) pe_int (nomark _)) (pw_or1 (pt_cmpR op_eq (pe_call (ok__law_draw T) (hr.mono (by omega)) rfl T.g__law_draw T.F__law_draw.kp T.b__law_draw .nil pass0 (pa_cons (pv 0) (pa_cons pe_int pa_nil))) pe_int (nomark _)))))) (pss_one (ps_ret (pv 2))) pss_nil)
      (pss_cons (ps_set (i := 3) sc__law_spoilt.nd rfl (Or.inl rfl) (pe_call (ok__law_draw T) (hr.mono (by omega)) rfl T.g__law_draw T.F__law_draw.kp T.b__law_draw .nil pass0 (pa_cons (pv 0) (pa_cons (pe_callB call_lenP (by rfl) T.n_len PySem.boot_len (pa_cons (pv 1) pa_nil)) pa_nil))))
      (pss_cons (ps_set (i := 4) sc__law_spoilt.nd rfl (Or.inl rfl) (pe_call (ok__law_draw T) (hr.mono (by omega)) rfl T.g__law_draw T.F__law_draw.kp T.b__law_draw .nil pass0 (pa_cons (pv 0) (pa_cons pe_int pa_nil))))
      (pss_cons (ps_if (pt_cmpR op_eq (pv 4) pe_int (nomark _)) (pss_one (ps_ret (pe_op op_catD (pe_slice sl_tupD (pv 1) po_none (po_some (pv 3))) (pe_slice sl_tupD (pv 1) (po_some (pe_op op_add (pv 3) pe_int)) po_none)))) pss_nil)
      (pss_cons (ps_if (pt_cmpR op_eq (pv 4) pe_int (nomark _)) (pss_one (ps_ret (pe_op op_catD (pe_op op_catD (pe_slice sl_tupD (pv 1) po_none (po_some (pv 3))) (pe_tup (pa_cons (pv 2) pa_nil))) (pe_slice sl_tupD (pv 1) (po_some (pv 3)) po_none)))) pss_nil)
      (pss_cons (ps_if (pt_cmpR op_eq (pv 4) pe_int (nomark _)) (pss_one (ps_ret (pe_op op_catD (pe_op op_catD (pe_slice sl_tupD (pv 1) po_none (po_some (pv 3))) (pe_slice sl_tupD (pv 1) (po_some (pv 3)) (po_some (pe_op op_add (pv 3) pe_int)))) (pe_slice sl_tupD (pv 1) (po_some (pv 3)) po_none)))) pss_nil)
      (pss_cons (ps_if (pt_cmpR op_eq (pv 4) pe_int (nomark _)) (pss_one (ps_ret (pe_op op_catD (pe_op op_catD (pe_op op_catD (pe_slice sl_tupD (pv 1) po_none (po_some (pv 3))) (pe_slice sl_tupD (pv 1) (po_some (pe_op op_add (pv 3) pe_int)) (po_some (pe_op op_add (pv 3) pe_int)))) (pe_slice sl_tupD (pv 1) (po_some (pv 3)) (po_some (pe_op op_add (pv 3) pe_int)))) (pe_slice sl_tupD (pv 1) (po_some (pe_op op_add (pv 3) pe_int)) po_none)))) pss_nil)
      (pss_one (ps_ret (pe_op op_catD (pe_op op_catD (pe_slice sl_tupD (pv 1) po_none (po_some (pv 3))) (pe_tup (pa_cons (pe_call ih (hr.mono (by omega)) rfl T.g__law_spoilt T.F__law_spoilt.kp T.b__law_spoilt .nil pass0 (pa_cons (pv 0) (pa_cons (pe_ix ix_data (pv 1) (pv 3) (fun _ _ => rfl)) (pa_cons (pv 2) pa_nil)))) pa_nil))) (pe_slice sl_tupD (pv 1) (po_some (pe_op op_add (pv 3) pe_int)) po_none))))))))))), ?_⟩
      have odd : Tame (4 * L + 1) (n + m) od := to.mono (Nat.le_refl _) (by omega)
      refine ⟨_, rfl, _, _, _, _, _, rfl, .ty _, ty_of hd.dp, kit_ty (kit_tup d), _, rfl, ?_⟩
      by_cases ht : tupB d = true
      · cases d with
        | tuple ds =>
          cases n with
          | zero => cases td
          | succ n =>
            obtain ⟨wl, te⟩ := td
            refine iteF ⟨_, rfl, _, W, ds, rfl, .inl hd, rfl, _, rfl, ?_⟩
            refine iteD (fun c => iteT ?_) (fun c => ?_)
            · exact ⟨_, rfl, k H o od (Stp.refl b) ho odd⟩
            have hl : 0 < ds.length := Nat.pos_of_ne_zero fun z => c (by rw [z]; rfl)
            refine ⟨_, rfl, p, 5, rfl, b, by decide, by decide +kernel, fun H1 r _ _ s1 => ⟨rfl, _, rfl, ?_⟩⟩
            refine iteD (fun c => ?_) (fun c => ?_)
            · exact ⟨_, rfl, k H1 o od s1 (ho.kp (s1.w hw)) odd⟩
            refine ⟨_, rfl, _, rfl, _, W, ds, rfl, .inl (hd.kp (s1.w hw)), p, _, rfl, s1.2, by omega, log_small (by omega) (by omega), fun H2 r2 r20 r21 s2 => ?_⟩
            replace s2 := s1.trans s2
            refine ⟨_, rfl, p, 8, rfl, s2.2, by decide, by decide +kernel, fun H3 r3 _ _ s3 => ?_⟩
            replace s3 := s2.trans s3
            obtain ⟨at_, rfl⟩ := Int.eq_ofNat_of_zero_le r20
            have hd3 := hd.kp (s3.w hw)
            have ho3 := ho.kp (s3.w hw)
            have al3 := s3.alW al
            have fin : ∀ (H4 : Hp) (v4 : V) (es : List PyData), Stp p H H4 → DW K W H4 v4 (.tuple es) → es.length ≤ 4 * L + 1 → (∀ e ∈ es, e ∈ ds ∨ Tame (4 * L + 1) (n + m) e) → Q v4 H4 := fun H4 v4 es s4 h4 l4 g4 => by
              refine k H4 v4 (.tuple es) s4 h4 ?_
              rw [show n + 1 + m = n + m + 1 by omega]
              refine ⟨l4, fun e m => ?_⟩
              rcases g4 e m with h | h
              · exact (te e h).mono (by omega) (by omega)
              · exact h
            have to' : Tame (4 * L + 1) (n + m) od := to.mono (Nat.le_refl _) (by omega)
            have pc : ∀ {a b : Nat}, ((ds.drop a).take b).length ≤ L := fun {a b} => Nat.le_trans (part_cut ds a b).2 wl
            have pm : ∀ {a b : Nat}, ∀ e ∈ (ds.drop a).take b, e ∈ ds := fun {a b} => (part_cut ds a b).1
            refine ⟨_, rfl, rfl, _, rfl, iteD (fun c => ?_) (fun c => ?_)⟩
            · refine ⟨_, rfl, _, rfl, _, rfl, W, ds, al3, hd3, fun v1 H4 k4 h4 => ?_⟩
              refine ⟨_, rfl, _, rfl, _, _, rfl, rfl, _, rfl, W, ds, al3.ex k4, hd3.ex k4, fun v2 H5 k5 h5 => ?_⟩
              have p1 := pc (a := HT.sIx ds.length 0 none) (b := HT.sIx ds.length ds.length (some ↑at_) - HT.sIx ds.length 0 none)
              have p2 := pc (a := HT.sIx ds.length 0 (some (↑at_ + 1))) (b := HT.sIx ds.length ds.length none - HT.sIx ds.length 0 (some (↑at_ + 1)))
              refine ⟨W, _, _, (al3.ex k4).ex k5, h4.ex k5, h5, small (by omega), fun v6 H6 k6 h6 => ?_⟩
              refine fin H6 v6 _ (((s3.ex k4).ex k5).ex k6) h6 (by rw [List.length_append]; omega) fun e m => ?_
              rcases List.mem_append.mp m with m | m
              · exact .inl (pm e m)
              · exact .inl (pm e m)
            refine ⟨_, rfl, rfl, _, rfl, iteD (fun c => ?_) (fun c => ?_)⟩
            · refine ⟨_, rfl, _, rfl, _, rfl, W, ds, al3, hd3, fun v1 H4 k4 h4 => ?_⟩
              have p1 := pc (a := HT.sIx ds.length 0 none) (b := HT.sIx ds.length ds.length (some ↑at_) - HT.sIx ds.length 0 none)
              have p2 := pc (a := HT.sIx ds.length 0 (some ↑at_)) (b := HT.sIx ds.length ds.length none - HT.sIx ds.length 0 (some ↑at_))
              refine ⟨_, rfl, by show 1 ≤ sizeLine; decide, fun q nq => ?_⟩
              have hq := DWs.tup (K := K) (.cons (ho3.ex k4) .nil) (al3.ex k4) nq
              have kq := (Kp.refl [] H4).new (o := .tup [o]) nq
              generalize upd H4 q (.tup [o]) = H5 at *
              refine ⟨W, _, _, (al3.ex k4).ex kq, h4.ex kq, hq, small (by show _ + 1 ≤ _; omega), fun v6 H6 k6 h6 => ?_⟩
              refine ⟨_, rfl, _, rfl, _, rfl, W, ds, ((al3.ex k4).ex kq).ex k6, ((hd3.ex k4).ex kq).ex k6, fun v7 H7 k7 h7 => ?_⟩
              refine ⟨W, _, _, (((al3.ex k4).ex kq).ex k6).ex k7, h6.ex k7, h7, small (by rw [List.length_append]; show _ + 1 + _ ≤ _; omega), fun v8 H8 k8 h8 => ?_⟩
              refine fin H8 v8 _ (((((s3.ex k4).ex kq).ex k6).ex k7).ex k8) h8 (by rw [List.length_append, List.length_append]; show _ + 1 + _ ≤ _; omega) fun e m => ?_
              rcases List.mem_append.mp m with m | m
              · rcases List.mem_append.mp m with m | m
                · exact .inl (pm e m)
                · rw [List.mem_singleton.mp m]; exact .inr to'
              · exact .inl (pm e m)
            refine ⟨_, rfl, rfl, _, rfl, iteD (fun c => ?_) (fun c => ?_)⟩
            · refine ⟨_, rfl, _, rfl, _, rfl, W, ds, al3, hd3, fun v1 H4 k4 h4 => ?_⟩
              have p1 := pc (a := HT.sIx ds.length 0 none) (b := HT.sIx ds.length ds.length (some ↑at_) - HT.sIx ds.length 0 none)
              have p2 := pc (a := HT.sIx ds.length 0 (some ↑at_)) (b := HT.sIx ds.length ds.length (some (↑at_ + 1)) - HT.sIx ds.length 0 (some ↑at_))
              have p3 := pc (a := HT.sIx ds.length 0 (some ↑at_)) (b := HT.sIx ds.length ds.length none - HT.sIx ds.length 0 (some ↑at_))
              refine ⟨_, rfl, _, rfl, _, rfl, _, rfl, _, _, rfl, rfl, _, rfl, W, ds, al3.ex k4, hd3.ex k4, fun v2 H5 k5 h5 => ?_⟩
              refine ⟨W, _, _, (al3.ex k4).ex k5, h4.ex k5, h5, small (by omega), fun v6 H6 k6 h6 => ?_⟩
              refine ⟨_, rfl, _, rfl, _, rfl, W, ds, ((al3.ex k4).ex k5).ex k6, ((hd3.ex k4).ex k5).ex k6, fun v7 H7 k7 h7 => ?_⟩
              refine ⟨W, _, _, (((al3.ex k4).ex k5).ex k6).ex k7, h6.ex k7, h7, small (by rw [List.length_append]; omega), fun v8 H8 k8 h8 => ?_⟩
              refine fin H8 v8 _ (((((s3.ex k4).ex k5).ex k6).ex k7).ex k8) h8 (by rw [List.length_append, List.length_append]; omega) fun e m => ?_
              rcases List.mem_append.mp m with m | m
              · rcases List.mem_append.mp m with m | m
                · exact .inl (pm e m)
                · exact .inl (pm e m)
              · exact .inl (pm e m)
            refine ⟨_, rfl, rfl, _, rfl, iteD (fun c => ?_) (fun c => ?_)⟩
            · refine ⟨_, rfl, _, rfl, _, rfl, W, ds, al3, hd3, fun v1 H4 k4 h4 => ?_⟩
              have p1 := pc (a := HT.sIx ds.length 0 none) (b := HT.sIx ds.length ds.length (some ↑at_) - HT.sIx ds.length 0 none)
              have p2 := pc (a := HT.sIx ds.length 0 (some (↑at_ + 1))) (b := HT.sIx ds.length ds.length (some (↑at_ + 2)) - HT.sIx ds.length 0 (some (↑at_ + 1)))
              have p3 := pc (a := HT.sIx ds.length 0 (some ↑at_)) (b := HT.sIx ds.length ds.length (some (↑at_ + 1)) - HT.sIx ds.length 0 (some ↑at_))
              have p4 := pc (a := HT.sIx ds.length 0 (some (↑at_ + 2))) (b := HT.sIx ds.length ds.length none - HT.sIx ds.length 0 (some (↑at_ + 2)))
              refine ⟨_, rfl, _, rfl, _, _, rfl, rfl, _, rfl, _, rfl, _, _, rfl, rfl, _, rfl, W, ds, al3.ex k4, hd3.ex k4, fun v2 H5 k5 h5 => ?_⟩
              refine ⟨W, _, _, (al3.ex k4).ex k5, h4.ex k5, h5, small (by omega), fun v6 H6 k6 h6 => ?_⟩
              refine ⟨_, rfl, _, rfl, _, rfl, _, rfl, _, _, rfl, rfl, _, rfl, W, ds, ((al3.ex k4).ex k5).ex k6, ((hd3.ex k4).ex k5).ex k6, fun v7 H7 k7 h7 => ?_⟩
              refine ⟨W, _, _, (((al3.ex k4).ex k5).ex k6).ex k7, h6.ex k7, h7, small (by rw [List.length_append]; omega), fun v8 H8 k8 h8 => ?_⟩
              refine ⟨_, rfl, _, rfl, _, _, rfl, rfl, _, rfl, W, ds, ((((al3.ex k4).ex k5).ex k6).ex k7).ex k8, ((((hd3.ex k4).ex k5).ex k6).ex k7).ex k8, fun v9 H9 k9 h9 => ?_⟩
              refine ⟨W, _, _, (((((al3.ex k4).ex k5).ex k6).ex k7).ex k8).ex k9, h8.ex k9, h9, small (by rw [List.length_append, List.length_append]; omega), fun va Ha ka ha => ?_⟩
              refine fin Ha va _ (((((((s3.ex k4).ex k5).ex k6).ex k7).ex k8).ex k9).ex ka) ha (by rw [List.length_append, List.length_append, List.length_append]; omega) fun e m => ?_
              rcases List.mem_append.mp m with m | m
              · rcases List.mem_append.mp m with m | m
                · rcases List.mem_append.mp m with m | m
                  · exact .inl (pm e m)
                  · exact .inl (pm e m)
                · exact .inl (pm e m)
              · exact .inl (pm e m)
            -- deeper
            have hat : at_ < ds.length := by omega
            refine ⟨_, rfl, _, rfl, _, rfl, W, ds, al3, hd3, fun v1 H4 k4 h4 => ?_⟩
            have p1 := pc (a := HT.sIx ds.length 0 none) (b := HT.sIx ds.length ds.length (some ↑at_) - HT.sIx ds.length 0 none)
            have p2 := pc (a := HT.sIx ds.length 0 (some (↑at_ + 1))) (b := HT.sIx ds.length ds.length none - HT.sIx ds.length 0 (some (↑at_ + 1)))
            refine ⟨_, rfl, _, rfl, _, rfl, W, ds, at_, ds[at_], .inl (hd3.ex k4), rfl, List.getElem?_eq_getElem hat, fun v2 h2 => ?_⟩
            refine ⟨_, rfl, p, v2, o, ds[at_], od, W, L, m, rfl, s3.2.ex k4, hw, al3.ex k4, h2, ho3.ex k4, te _ (List.getElem_mem hat), to, hL, fun H5 v5 d5 s5 h5 t5 => ?_⟩
            refine ⟨by show 1 ≤ sizeLine; decide, fun q nq => ?_⟩
            have al5 := s5.alW (al3.ex k4)
            have hq := DWs.tup (K := K) (.cons h5 .nil) al5 nq
            have h4' := h4.kp (s5.w hw)
            have hd5 := (hd3.ex k4).kp (s5.w hw)
            have s6 := ((s3.ex k4).trans s5).new (o := .tup [v5]) nq
            have kq := (Kp.refl [] H5).new (o := .tup [v5]) nq
            have al6 := al5.ex kq
            replace h4' := h4'.ex kq
            replace hd5 := hd5.ex kq
            generalize upd H5 q (.tup [v5]) = H6 at *
            refine ⟨W, _, _, al6, h4', hq, small (by show _ + 1 ≤ _; omega), fun v6 H7 k7 h7 => ?_⟩
            refine ⟨_, rfl, _, rfl, _, _, rfl, rfl, _, rfl, W, ds, al6.ex k7, hd5.ex k7, fun v8 H8 k8 h8 => ?_⟩
            refine ⟨W, _, _, (al6.ex k7).ex k8, h7.ex k8, h8, small (by rw [List.length_append]; show _ + 1 + _ ≤ _; omega), fun v9 H9 k9 h9 => ?_⟩
            refine fin H9 v9 _ (((s6.ex k7).ex k8).ex k9) h9 (by rw [List.length_append, List.length_append]; show _ + 1 + _ ≤ _; omega) fun e m => ?_
            rcases List.mem_append.mp m with m | m
            · rcases List.mem_append.mp m with m | m
              · exact .inl (pm e m)
              · rw [List.mem_singleton.mp m]; exact .inr t5
            · exact .inl (pm e m)
        | _ => cases ht
      · have ht' : tupB d = false := by simpa using ht
        rw [ht']
        exact iteT ⟨_, rfl, k H o od (Stp.refl b) ho odd⟩

def spLaw (K : PySem.W.Frag) : Sp := fun vs H Q _ => ∃ (a : Addr) (ns : List Int), vs = [.ref a] ∧ SqL K H a (ns.map V.int) ∧ ns.length ≤ 63 ∧ ∀ H', Q (.bl true) H'
theorem sp_in (H : Hp) (a : Addr) (ns : List Int) (hl : ns.length ≤ 63) (hS : SqL K H a (ns.map V.int)) : spLaw K [.ref a] H (fun v _ => v = .bl true) fun _ _ _ => False := ⟨a, ns, rfl, hS, hl, fun _ => rfl⟩
theorem ok_law (T : Txt K mg) : FnOk P w K mg base CX0 8 T.a_law T.fd_law ["_law_script"] (spLaw K) := by
  refine T.F_law.ok sc_law (fun vs H Q E h => ?_) (fun cdv A outer s H vs Q E hr h => ?_)
  · obtain ⟨a, ns, rfl, _⟩ := h
    rfl
  · obtain ⟨a, ns, rfl, hS, hlen, k⟩ := h
    refine ⟨_, PSs.nox (pss_cons (ps_set (i := 1) sc_law.nd rfl (Or.inl rfl) (PE.litL (K := K) (pe_lst (pa_cons pe_int (pa_cons pe_int (pa_cons (pe_un un_neg pe_int) (pa_cons (pe_op op_pow pe_int pe_int) (pa_cons (pe_op op_add (pe_op op_pow pe_int pe_int) pe_int) (pa_cons pe_bl (pa_cons pe_bl (pa_cons pe_non (pa_cons pe_str (pa_cons (pe_tup pa_nil) (pa_cons (pe_tup (pa_cons pe_int (pa_cons pe_int pa_nil))) (pa_cons (pe_tup (pa_cons pe_int (pa_cons pe_int pa_nil))) (pa_cons (pe_tup (pa_cons pe_int (pa_cons pe_int pa_nil))) (pa_cons (pe_tup (pa_cons pe_int (pa_cons pe_int pa_nil))) (pa_cons (pe_lst (pa_cons pe_int (pa_cons pe_int pa_nil))) (pa_cons (pe_tup (pa_cons pe_int (pa_cons pe_int (pa_cons pe_int pa_nil)))) (pa_cons (pe_tup (pa_cons pe_bl (pa_cons pe_int pa_nil))) pa_nil)))))))))))))))))) (lit_lstL (lit_cons (lit_int _) (lit_cons (lit_int _) (lit_cons (lit_neg (lit_int _)) (lit_cons (lit_pow (lit_int _) (lit_int _) (by show _ ∧ _ ∧ _; decide)) (lit_cons (lit_add (lit_pow (lit_int _) (lit_int _) (by show _ ∧ _ ∧ _; decide)) (lit_int _)) (lit_cons (lit_bl _) (lit_cons (lit_bl _) (lit_cons lit_non (lit_cons (lit_str _) (lit_cons (lit_tup lit_nil (by decide)) (lit_cons (lit_tup (lit_cons (lit_int _) (lit_cons (lit_int _) lit_nil)) (by decide)) (lit_cons (lit_tup (lit_cons (lit_int _) (lit_cons (lit_int _) lit_nil)) (by decide)) (lit_cons (lit_tup (lit_cons (lit_int _) (lit_cons (lit_int _) lit_nil)) (by decide)) (lit_cons (lit_tup (lit_cons (lit_int _) (lit_cons (lit_int _) lit_nil)) (by decide)) (lit_cons (lit_lst (lit_cons (lit_int _) (lit_cons (lit_int _) lit_nil)) (by decide)) (lit_cons (lit_tup (lit_cons (lit_int _) (lit_cons (lit_int _) (lit_cons (lit_int _) lit_nil))) (by decide)) (lit_cons (lit_tup (lit_cons (lit_bl _) (lit_cons (lit_int _) lit_nil)) (by decide)) lit_nil))))))))))))))))) (by decide))))
      (pss_cons (ps_set (i := 1) sc_law.nd rfl (Or.inl rfl) (pe_op op_cat (pv 1) (PE.litL (K := K) (pe_lst (pa_cons (pe_tup (pa_cons pe_int (pa_cons (pe_un un_neg pe_int) pa_nil))) (pa_cons (pe_tup (pa_cons pe_int (pa_cons pe_bl pa_nil))) (pa_cons (pe_tup (pa_cons (pe_tup (pa_cons pe_int (pa_cons pe_int pa_nil))) pa_nil)) (pa_cons (pe_lst (pa_cons (pe_tup (pa_cons pe_int (pa_cons pe_int pa_nil))) pa_nil)) (pa_cons (pe_tup (pa_cons pe_int pa_nil)) pa_nil)))))) (lit_lstL (lit_cons (lit_tup (lit_cons (lit_int _) (lit_cons (lit_neg (lit_int _)) lit_nil)) (by decide)) (lit_cons (lit_tup (lit_cons (lit_int _) (lit_cons (lit_bl _) lit_nil)) (by decide)) (lit_cons (lit_tup (lit_cons (lit_tup (lit_cons (lit_int _) (lit_cons (lit_int _) lit_nil)) (by decide)) lit_nil) (by decide)) (lit_cons (lit_lst (lit_cons (lit_tup (lit_cons (lit_int _) (lit_cons (lit_int _) lit_nil)) (by decide)) lit_nil) (by decide)) (lit_cons (lit_tup (lit_cons (lit_int _) lit_nil) (by decide)) lit_nil))))) (by decide)))))
      (pss_cons (ps_for PassesOwn.never rfl (pi_range1 rfl T.n_range (pa_cons (pe_callB (call_max2 rfl) (by rfl) T.n_max (by decide +kernel) (pa_cons pe_int (pa_cons (pe_callB (call_min2 rfl) (by rfl) T.n_min (by decide +kernel) (pa_cons pe_int (pa_cons (pe_callB call_len_seq (by rfl) T.n_len PySem.boot_len (pa_cons (pv 0) pa_nil)) pa_nil))) pa_nil))) pa_nil)) (pg_name (i := 2) sc_law.nd rfl (Or.inl rfl))
        (pss_cons (ps_set (i := 3) sc_law.nd rfl (Or.inl rfl) (pe_call (ok__law_bag T) (hr.mono (by decide)) rfl T.g__law_bag T.F__law_bag.kp T.b__law_bag .nil pass0 (pa_cons (pv 0) (pa_cons (pv 2) pa_nil))))
      (pss_cons (ps_set (i := 4) sc_law.nd rfl (Or.inl rfl) (pe_op op_add pe_int (pe_call (ok__law_draw T) (hr.mono (by decide)) rfl T.g__law_draw T.F__law_draw.kp T.b__law_draw .nil pass0 (pa_cons (pv 3) (pa_cons pe_int pa_nil)))))
      (pss_cons (ps_set (i := 5) sc_law.nd rfl (Or.inl rfl) (pe_call (ok__law_clock T) (hr.mono (by decide)) rfl T.g__law_clock T.F__law_clock.kp T.b__law_clock .nil pass0 (pa_cons (pv 3) (pa_cons (pv 4) pa_nil))))
      (Evl.pss_cut (ps_if (pt_cmpR op_gt (pe_call (ok__law_draw T) (hr.mono (by decide)) rfl T.g__law_draw T.F__law_draw.kp T.b__law_draw .nil pass0 (pa_cons (pv 3) (pa_cons pe_int pa_nil))) pe_int (nomark _)) (pss_one (ps_set (i := 5) sc_law.nd rfl (Or.inl rfl) (pe_call (ok__law_spoilt T 3) (hr.mono (by decide)) rfl T.g__law_spoilt T.F__law_spoilt.kp T.b__law_spoilt .nil pass0 (pa_cons (pv 3) (pa_cons (pv 5) (pa_cons (pe_ix ix_data (pv 1) (pe_call (ok__law_draw T) (hr.mono (by decide)) rfl T.g__law_draw T.F__law_draw.kp T.b__law_draw .nil pass0 (pa_cons (pv 3) (pa_cons pe_int pa_nil))) (fun _ _ => rfl)) pa_nil)))))) pss_nil)
      (Evl.pss_cut (ps_if (pt_cmpR op_eq (pe_call (ok__law_draw T) (hr.mono (by decide)) rfl T.g__law_draw T.F__law_draw.kp T.b__law_draw .nil pass0 (pa_cons (pv 3) (pa_cons pe_int pa_nil))) pe_int (nomark _)) (pss_one (ps_set (i := 5) sc_law.nd rfl (Or.inl rfl) (pe_callTy call_tuple_of (by rfl) T.n_tuple (by decide +kernel) (pa_cons (pe_lc (own := [("_law_j", 7)]) (g := gName 7) (tt := tYes) rfl sc_law.nd (pi_range1 rfl T.n_range (pa_cons (pv 4) pa_nil)) (by exact blkOk_by (N := N_law) (sc := defScope s_law) (by decide +kernel)) (fun _ _ _ _ _ => pg_name (i := 7) sc_law.nd rfl (Or.inl rfl)) (fun _ _ _ _ _ => pts_nil) (fun _ _ _ _ _ => PE.lit (K := K) (pe_tup (pa_cons pe_int (pa_cons pe_int pa_nil))) (lit_tup (lit_cons (lit_int _) (lit_cons (lit_int _) lit_nil)) (by decide)))) pa_nil)))) pss_nil)
      (Evl.pss_cut (ps_if (pt_cmpR op_eq (pe_call (ok__law_draw T) (hr.mono (by decide)) rfl T.g__law_draw T.F__law_draw.kp T.b__law_draw .nil pass0 (pa_cons (pv 3) (pa_cons pe_int pa_nil))) pe_int (nomark _)) (pss_one (ps_set (i := 4) sc_law.nd rfl (Or.inl rfl) (pe_ix ix_data (PE.litL (K := K) (pe_lst (pa_cons pe_int (pa_cons pe_int (pa_cons pe_int (pa_cons pe_int (pa_cons pe_int (pa_cons pe_int (pa_cons (pe_un un_neg pe_int) (pa_cons pe_bl (pa_cons pe_non (pa_cons pe_str pa_nil))))))))))) (lit_lstL (lit_cons (lit_int _) (lit_cons (lit_int _) (lit_cons (lit_int _) (lit_cons (lit_int _) (lit_cons (lit_int _) (lit_cons (lit_int _) (lit_cons (lit_neg (lit_int _)) (lit_cons (lit_bl _) (lit_cons lit_non (lit_cons (lit_str _) lit_nil)))))))))) (by decide))) (pe_call (ok__law_draw T) (hr.mono (by decide)) rfl T.g__law_draw T.F__law_draw.kp T.b__law_draw .nil pass0 (pa_cons (pv 3) (pa_cons pe_int pa_nil))) (fun _ _ => rfl)))) pss_nil)
      (pss_cons (ps_set (i := 6) sc_law.nd rfl (Or.inl rfl) (pe_call (ok_is_clock T) (hr.mono (by decide)) rfl T.g_is_clock T.F_is_clock.kp T.b_is_clock .nil pass0 (pa_cons (pv 4) (pa_cons (pv 5) pa_nil))))
      (pss_one (ps_if (PW.pt (pw_or (pt_not (pt_val (pe_callB call_isi (by rfl) T.n_isinstance (by decide +kernel) (pa_cons (pv 6) (pa_cons (pe_bltn (v := .ty "bool") (u := .type "bool") rfl T.n_bool (by decide +kernel) rfl) pa_nil))))) (pw_or1 (pt_cmpR op_ne (pv 6) (pe_call (ok__law_is_clock T) (hr.mono (by decide)) rfl T.g__law_is_clock T.F__law_is_clock.kp T.b__law_is_clock .nil pass0 (pa_cons (pv 4) (pa_cons (pv 5) pa_nil))) (nomark _))))) (pss_one (ps_ret pe_bl)) pss_nil))))))))))
      (pss_one (ps_ret (pe_and (pe_cmpR op_is_bl (pe_call (ok_is_clock T) (hr.mono (by decide)) rfl T.g_is_clock T.F_is_clock.kp T.b_is_clock .nil pass0 (pa_cons pe_int (pa_cons (PE.lit (K := K) (pe_tup pa_nil) (lit_tup lit_nil (by decide))) pa_nil))) pe_bl (nomark _)) (pe_one (pe_cmpR op_is_bl (pe_call (ok_is_clock T) (hr.mono (by decide)) rfl T.g_is_clock T.F_is_clock.kp T.b_is_clock .nil pass0 (pa_cons pe_int (pa_cons (pe_op op_repT (PE.lit (K := K) (pe_tup (pa_cons (pe_tup (pa_cons pe_int (pa_cons pe_int pa_nil))) pa_nil)) (lit_tup (lit_cons (lit_tup (lit_cons (lit_int _) (lit_cons (lit_int _) lit_nil)) (by decide)) lit_nil) (by decide))) pe_int) pa_nil))) pe_bl (nomark _))))))))), ?_⟩
    refine fun oa oxs H1 k1 n1 e1 h1 => ⟨_, rfl, fun ob oys H2 k2 n2 e2 h2 => ?_⟩
    have g1 := (h1 [] Al.nil).dp
    have g2 := (h2 [] Al.nil).dp
    have l1 := g1.len
    have l2 := g2.len
    refine ⟨oa, ob, oxs, oys, rfl, rfl, k2.at e1, e2, small (by rw [l1, l2]; decide), fun oc nc => ?_⟩
    have g3 := DpAll.app (DpAll.ex k2 _ _ g1) g2
    have k3 := (k1.trans k2).new (o := .lst (oxs ++ oys)) nc
    have k23 := (Kp.refl [] H2).new (o := .lst (oxs ++ oys)) nc
    have hod : ∃ ods, Dp K (upd H2 oc (.lst (oxs ++ oys))) (.ref oc) (.list ods) ∧ (∀ d ∈ ods, Tame 41 2 d) ∧ ods.length = 22 :=
      ⟨_, .lst (SqL.of upd_same) (DpAll.ex k23 _ _ g3), fun d m => Tame.ofB ((List.all_eq_true.mp (by decide +kernel : List.all _ (tameB 41 2) = true)) d m), by decide⟩
    obtain ⟨ods, hod, tod, lod⟩ := hod
    generalize upd H2 oc (.lst (oxs ++ oys)) = H3 at *
    clear g1 g2 g3 l1 l2 h1 h2 e1 e2 n1 n2 k1 k2 k23 nc
    refine ⟨_, rfl, a, _, rfl, .inl (k3.seq hS), _, _, rfl, _, _, rfl, _, rfl, by rw [List.length_map]; (repeat' split) <;> omega, by rw [List.length_map]; (repeat' split) <;> omega, ?_⟩
    refine for_range (lo := 0) (n := _) (fun i σ H' => (∃ v2 v3 v4 v5 v6 v7 : Option V, σ = [some (.ref a), some (.ref oc), v2, v3, v4, v5, v6, v7]) ∧ Kp [] H3 H') ⟨⟨_, _, _, _, _, _, rfl⟩, Kp.refl _ _⟩ ?_ ?_
    · rintro i σ Hi _ ⟨⟨v2, v3, v4, v5, v6, v7, rfl⟩, ki⟩
      have hoi := Dp.ex ki _ _ hod
      refine ⟨_, rfl, _, rfl, a, ns, 0 + i, rfl, (k3.trans ki).seq hS, by omega, fun p x y np => ?_⟩
      have b4 : Bag (upd Hi p (.lst [.int x, .int y, .int (0 + i)])) p := ⟨_, _, _, upd_same⟩
      have k4 := (Kp.refl [] Hi).new (o := .lst [.int x, .int y, .int (0 + i)]) np
      have ho4 : DW K [p] (upd Hi p (.lst [.int x, .int y, .int (0 + i)])) (.ref oc) (.list ods) := DW.ex (Dp.ex (out_fresh np) _ _ hoi) k4
      generalize upd Hi p (.lst [.int x, .int y, .int (0 + i)]) = H4 at *
      have pm : p ∈ [p] := by simp
      refine ⟨_, rfl, p, 10, rfl, b4, by decide, by decide +kernel, fun H5 r r0 r1 s5 => ⟨_, _, rfl, rfl, ?_⟩⟩
      refine ⟨_, rfl, _, rfl, p, 1 + r, [p], rfl, s5.2, by omega, by omega, pm, s5.2.al, fun H6 vc cs s6 h6 g6 l6 => ?_⟩
      replace s6 := s5.trans s6
      have t6 : Tame 10 2 (.tuple cs) := ⟨by omega, fun e m => by
        obtain ⟨x, y, rfl⟩ := g6 e m
        exact ⟨by show 2 ≤ 10; decide, fun e m => by
          rcases List.mem_cons.mp m with rfl | m
          · rfl
          · rw [List.mem_singleton.mp m]; rfl⟩⟩
      refine ⟨fun σ' H' => ∃ v d, σ' = [some (.ref a), some (.ref oc), some (.int (0 + i)), some (.ref p), some (.int (1 + r)), some v, v6, v7] ∧ Stp p H4 H' ∧ DW K [p] H' v d, ?_, ?_⟩
      · refine ⟨_, rfl, p, 3, rfl, s6.2, by decide, by decide +kernel, fun H7 r7 _ _ s7 => ⟨_, _, rfl, rfl, _, rfl, iteD (fun c => ?_) (fun c => ?_)⟩⟩
        · refine ⟨_, rfl, _, rfl, _, rfl, _, rfl, p, 22, rfl, s7.2, by decide, by decide +kernel, fun H8 r8 r80 r81 s8 => ?_⟩
          obtain ⟨j, rfl⟩ := Int.eq_ofNat_of_zero_le r80
          have hj : j < ods.length := by omega
          have s78 := s7.trans s8
          have s68 := s6.trans s78
          refine ⟨[p], ods, j, ods[j], .inr (ho4.kp s68.1), rfl, List.getElem?_eq_getElem hj, fun v9 h9 => ?_⟩
          exact ⟨p, _, v9, _, ods[j], [p], 10, 2, rfl, s8.2, pm, s8.2.al, h6.kp s78.1, h9, t6, tod _ (List.getElem_mem hj), by decide, fun H9 v' d' s9 h' _ => ⟨v', d', rfl, s68.trans s9, h'⟩⟩
        · exact ⟨_, _, rfl, s6.trans s7, h6.kp s7.1⟩
      clear h6 g6 l6 t6 s5 s6 cs H5 H6
      rintro σ' H7 ⟨v, d, rfl, s7, h7⟩
      refine ⟨fun σ' H' => ∃ v d, σ' = [some (.ref a), some (.ref oc), some (.int (0 + i)), some (.ref p), some (.int (1 + r)), some v, v6, v7] ∧ Stp p H4 H' ∧ DW K [p] H' v d, ?_, ?_⟩
      · refine ⟨_, rfl, p, 6, rfl, s7.2, by decide, by decide +kernel, fun H8 r8 _ _ s8 => ⟨rfl, _, rfl, iteD (fun c => ?_) (fun c => ?_)⟩⟩
        · refine ⟨_, rfl, _, rfl, by omega, by omega, fun D nD => ?_⟩
          refine lc_bag (K := K) (W := [p]) (fun d => True) (smallL (by omega)) nD s8.2 s8.2.al pm (fun i H1 Post hi s1 al1 po => ?_) (fun H1 acc ds s1 al1 e1 h1 l1 g1 => ?_)
          · exact ⟨rfl, fun v H4 k4 h4 => po v _ H4 trivial ((Stp.refl s1.2).ex k4) (h4 _ al1)⟩
          · refine ⟨D, acc, rfl, .inl ⟨SqL.of e1, fun l nl => ?_⟩⟩
            exact ⟨_, _, rfl, ((s7.trans s8).trans s1).new nl, DWs.tup (DpAll.ex (out_wide fun x m => .inl (List.mem_cons_of_mem _ m)) _ _ h1) s1.2.al nl⟩
        · exact ⟨_, _, rfl, s7.trans s8, h7.kp s8.1⟩
      clear h7 s7 v d H7
      rintro σ' H7 ⟨v, d, rfl, s7, h7⟩
      refine ⟨fun σ' H' => ∃ u c v d, σ' = [some (.ref a), some (.ref oc), some (.int (0 + i)), some (.ref p), some u, some v, v6, v7] ∧ Stp p H4 H' ∧ DW K [p] H' u c ∧ DW K [p] H' v d, ?_, ?_⟩
      · refine ⟨_, rfl, p, 5, rfl, s7.2, by decide, by decide +kernel, fun H8 r8 _ _ s8 => ⟨rfl, _, rfl, iteD (fun c => ?_) (fun c => ?_)⟩⟩
        · refine fun la lxs H9 k9 n9 e9 h9 => ?_
          have hl : ∃ ds, DW K [p] H9 (.ref la) (.list ds) ∧ ds.length = 10 :=
            ⟨_, DWs.ref (DWs.wide (h9 [p] s8.2.al) fun x m => .inl (List.mem_cons_of_mem _ m)) e9 (s8.2.al.not n9), by decide⟩
          obtain ⟨ds, hl, ll⟩ := hl
          have s9 := s8.ex k9
          refine ⟨_, rfl, p, 10, rfl, s9.2, by decide, by decide +kernel, fun Ha ra ra0 ra1 sa => ?_⟩
          obtain ⟨j, rfl⟩ := Int.eq_ofNat_of_zero_le ra0
          have hj : j < ds.length := by omega
          refine ⟨[p], ds, j, ds[j], .inr (hl.kp sa.1), rfl, List.getElem?_eq_getElem hj, fun vb hb => ?_⟩
          exact ⟨_, _, _, _, rfl, s7.trans (s9.trans sa), hb, h7.kp (s9.trans sa).1⟩
        · exact ⟨_, .int _, _, _, rfl, s7.trans s8, .int _, h7.kp s8.1⟩
      clear h7 s7 v d H7
      rintro σ' H7 ⟨u, c, v, d, rfl, s7, hu, hv⟩
      refine ⟨_, rfl, _, rfl, u, v, c, d, rfl, hu.dp, hv.dp, fun H8 k8 => ?_⟩
      refine ⟨_, rfl, _, _, _, _, true, rfl, .ty _, .base (.bl _), kit_ty (by decide +kernel), true, rfl, iteF ?_⟩
      refine ⟨_, rfl, _, rfl, _, rfl, u, v, c, d, rfl, (hu.ex k8).dp, (hv.ex k8).dp, rfl, _, rfl, ?_⟩
      refine iteN (fun c => absurd rfl c) (fun _ => ?_)
      exact ⟨⟨_, _, _, _, _, _, rfl⟩, ki.trans (k4.thru (s7.ex k8).1 fun q m => by rw [List.mem_singleton.mp m]; exact np)⟩
    · rintro σ Hi ⟨_, ki⟩
      refine fun v H4 k4 h4 => ⟨.int 0, v, .int 0, .tuple [], rfl, .int 0, (h4 [] Al.nil).dp, fun H5 k5 => ⟨_, _, rfl, rfl, _, rfl, ?_⟩⟩
      refine iteT (fun v H6 k6 h6 => ?_)
      obtain ⟨q, xs, rfl, hq, hx⟩ := (h6 [] Al.nil).tupOf
      cases hx with
      | cons hx hn =>
        cases hn
        rename_i z
        replace hx := DW.dp hx
        refine ⟨q, 11, _, rfl, rfl, hq, by simp, by decide, by decide, by show 1 ≤ 1000; decide, fun t nt => ?_⟩
        rw [flat_rep]
        have hx' := DpAll.rep (Dp.ex ((Kp.refl [] H6).new (o := .tup (List.replicate (11 : Int).toNat z)) nt) _ _ hx) (11 : Int).toNat
        refine ⟨.int 11, .ref t, .int 11, _, rfl, .int 11, .tup (SqT.of upd_same) hx', fun H7 k7 => ?_⟩
        rw [show ∀ ds, isClock (.int 11) (.tuple ds) = false from fun _ => rfl]
        exact ⟨_, _, rfl, rfl, k _⟩
end

def d_is_integer : He.DefD := ⟨("is_integer", none), "is_integer", "is_integer", defArgs s_is_integer, defBody s_is_integer, defScope s_is_integer, [], []⟩
def d_is_process : He.DefD := ⟨("is_process", none), "is_process", "is_process", defArgs s_is_process, defBody s_is_process, defScope s_is_process, [], []⟩
def d_is_pair : He.DefD := ⟨("is_pair", none), "is_pair", "is_pair", defArgs s_is_pair, defBody s_is_pair, defScope s_is_pair, [], []⟩
def d_is_clock : He.DefD := ⟨("is_clock", none), "is_clock", "is_clock", defArgs s_is_clock, defBody s_is_clock, defScope s_is_clock, [], []⟩
def d__law_bag : He.DefD := ⟨("_law_bag", none), "_law_bag", "_law_bag", defArgs s__law_bag, defBody s__law_bag, defScope s__law_bag, [], []⟩
def d__law_draw : He.DefD := ⟨("_law_draw", none), "_law_draw", "_law_draw", defArgs s__law_draw, defBody s__law_draw, defScope s__law_draw, [], []⟩
def d__law_is_int : He.DefD := ⟨("_law_is_int", none), "_law_is_int", "_law_is_int", defArgs s__law_is_int, defBody s__law_is_int, defScope s__law_is_int, [], []⟩
def d__law_number : He.DefD := ⟨("_law_number", none), "_law_number", "_law_number", defArgs s__law_number, defBody s__law_number, defScope s__law_number, [], []⟩
def d__law_pair : He.DefD := ⟨("_law_pair", none), "_law_pair", "_law_pair", defArgs s__law_pair, defBody s__law_pair, defScope s__law_pair, [], []⟩
def d__law_clock : He.DefD := ⟨("_law_clock", none), "_law_clock", "_law_clock", defArgs s__law_clock, defBody s__law_clock, defScope s__law_clock, [], []⟩
def d__law_is_pair : He.DefD := ⟨("_law_is_pair", none), "_law_is_pair", "_law_is_pair", defArgs s__law_is_pair, defBody s__law_is_pair, defScope s__law_is_pair, [], []⟩
def d__law_is_clock : He.DefD := ⟨("_law_is_clock", none), "_law_is_clock", "_law_is_clock", defArgs s__law_is_clock, defBody s__law_is_clock, defScope s__law_is_clock, [], []⟩
def d__law_spoilt : He.DefD := ⟨("_law_spoilt", none), "_law_spoilt", "_law_spoilt", defArgs s__law_spoilt, defBody s__law_spoilt, defScope s__law_spoilt, [], []⟩
def d_law : He.DefD := ⟨("law", none), "law", "law", defArgs s_law, defBody s_law, defScope s_law, [], []⟩
def fn : List He.DefD := [d_is_integer, d_is_process, d_is_pair, d_is_clock, d__law_bag, d__law_draw, d__law_is_int, d__law_number, d__law_pair, d__law_clock, d__law_is_pair, d__law_is_clock, d__law_spoilt, d_law]
def fa : List He.Fa := [.glo "is_integer", .glo "is_process", .glo "is_pair", .glo "is_clock", .glo "_law_bag", .glo "_law_draw", .glo "_law_is_int", .glo "_law_number", .glo "_law_pair", .glo "_law_clock", .glo "_law_is_pair", .glo "_law_is_clock", .glo "_law_spoilt", .glo "law", .int "MOST_PROCESSES" 10, .int "MOST_NUMBER" (1000000000000), .free "isinstance", .free "int", .free "bool", .free "tuple", .free "len", .free "all", .free "range", .free "max", .free "min"]
def exs : List (PySem.W.Frag → Bool) := []
def ex (K : PySem.W.Frag) : Bool := exs.all fun f => f K
abbrev R : PySem.W.OpenRow := PySem.W.OpenLaw.row PySem.Challenge.rw_firmground_k06_clocks
def loose : List Str := (["MOST_PROCESSES", "MOST_NUMBER", "is_integer", "is_process", "is_pair", "is_clock", "_law_bag", "_law_draw", "_law_is_int", "_law_number", "_law_pair", "_law_clock", "_law_is_pair", "_law_is_clock", "_law_spoilt"] : List Str)
abbrev hk : PySem.W.Hook := He.hookX 5 fa fn [] [] ex
def ob (s : PySem.W.SharedT) : He.AlX := He.obsX 5 fa fn [] [] ex (HandSHeadRun.getT s)
theorem ob_eq (s : PySem.W.SharedT) : ob s = hk.obs s.abs := He.obsX_eq (HandSHeadRun.getT_eq s)
set_option maxHeartbeats 0 in
theorem run (w : World) : HandSHeadRun.RunEq R (PySem.W.view R.prog [19]) hk ob 60000 loose w := by
  intro os
  kernel_rfl
theorem txt_of {w : World} {K : PySem.W.Frag} {h h2 : Heap} {mg : Str → Option Value} (X : K.In h) (G : h.Ns mainGlobals mg) (c : He.SaysX fa fn [] [] ex w h2 K) : Nonempty (PLift (mg "law" = some (.ref (He.ga K "law")))) ∧ ∃ T : Txt K mg, T.a_law = He.ga K "law" := by
  have exf : ∀ (i : Nat) {f : PySem.W.Frag → Bool}, exs[i]? = some f → f K = true := fun i f h => List.all_eq_true.mp (show (exs.all fun f => f K) = true from c.more) f (List.mem_of_getElem? h)
  obtain ⟨fd_is_integer, F_is_integer⟩ := c.t.d.def_ 0 (d := d_is_integer) rfl
  obtain ⟨fd_is_process, F_is_process⟩ := c.t.d.def_ 1 (d := d_is_process) rfl
  obtain ⟨fd_is_pair, F_is_pair⟩ := c.t.d.def_ 2 (d := d_is_pair) rfl
  obtain ⟨fd_is_clock, F_is_clock⟩ := c.t.d.def_ 3 (d := d_is_clock) rfl
  obtain ⟨fd__law_bag, F__law_bag⟩ := c.t.d.def_ 4 (d := d__law_bag) rfl
  obtain ⟨fd__law_draw, F__law_draw⟩ := c.t.d.def_ 5 (d := d__law_draw) rfl
  obtain ⟨fd__law_is_int, F__law_is_int⟩ := c.t.d.def_ 6 (d := d__law_is_int) rfl
  obtain ⟨fd__law_number, F__law_number⟩ := c.t.d.def_ 7 (d := d__law_number) rfl
  obtain ⟨fd__law_pair, F__law_pair⟩ := c.t.d.def_ 8 (d := d__law_pair) rfl
  obtain ⟨fd__law_clock, F__law_clock⟩ := c.t.d.def_ 9 (d := d__law_clock) rfl
  obtain ⟨fd__law_is_pair, F__law_is_pair⟩ := c.t.d.def_ 10 (d := d__law_is_pair) rfl
  obtain ⟨fd__law_is_clock, F__law_is_clock⟩ := c.t.d.def_ 11 (d := d__law_is_clock) rfl
  obtain ⟨fd__law_spoilt, F__law_spoilt⟩ := c.t.d.def_ 12 (d := d__law_spoilt) rfl
  obtain ⟨fd_law, F_law⟩ := c.t.d.def_ 13 (d := d_law) rfl
  obtain ⟨u_MOST_PROCESSES, g_MOST_PROCESSES⟩ := He.int_ok X G (c.t.d.fact 14 (f := .int "MOST_PROCESSES" 10) rfl)
  obtain ⟨u_MOST_NUMBER, g_MOST_NUMBER⟩ := He.int_ok X G (c.t.d.fact 15 (f := .int "MOST_NUMBER" (1000000000000)) rfl)
  refine ⟨⟨⟨He.glo_ok X G (c.t.d.fact 13 (f := .glo "law") rfl)⟩⟩, ⟨{
    a_is_integer := He.ga K "is_integer"
    fd_is_integer := fd_is_integer
    F_is_integer := F_is_integer
    b_is_integer := FunD.bindsN (ps := ["value", "least", "greatest"]) F_is_integer fun _ _ _ _ _ _ us hl => match us, hl with | [_, _, _], _ => rfl
    g_is_integer := He.glo_ok X G (c.t.d.fact 0 (f := .glo "is_integer") rfl)
    a_is_process := He.ga K "is_process"
    fd_is_process := fd_is_process
    F_is_process := F_is_process
    b_is_process := FunD.bindsN (ps := ["count", "value"]) F_is_process fun _ _ _ _ _ _ us hl => match us, hl with | [_, _], _ => rfl
    g_is_process := He.glo_ok X G (c.t.d.fact 1 (f := .glo "is_process") rfl)
    a_is_pair := He.ga K "is_pair"
    fd_is_pair := fd_is_pair
    F_is_pair := F_is_pair
    b_is_pair := FunD.bindsN (ps := ["value"]) F_is_pair fun _ _ _ _ _ _ us hl => match us, hl with | [_], _ => rfl
    g_is_pair := He.glo_ok X G (c.t.d.fact 2 (f := .glo "is_pair") rfl)
    a_is_clock := He.ga K "is_clock"
    fd_is_clock := fd_is_clock
    F_is_clock := F_is_clock
    b_is_clock := FunD.bindsN (ps := ["count", "value"]) F_is_clock fun _ _ _ _ _ _ us hl => match us, hl with | [_, _], _ => rfl
    g_is_clock := He.glo_ok X G (c.t.d.fact 3 (f := .glo "is_clock") rfl)
    a__law_bag := He.ga K "_law_bag"
    fd__law_bag := fd__law_bag
    F__law_bag := F__law_bag
    b__law_bag := FunD.bindsN (ps := ["_law_script", "_law_k"]) F__law_bag fun _ _ _ _ _ _ us hl => match us, hl with | [_, _], _ => rfl
    g__law_bag := He.glo_ok X G (c.t.d.fact 4 (f := .glo "_law_bag") rfl)
    a__law_draw := He.ga K "_law_draw"
    fd__law_draw := fd__law_draw
    F__law_draw := F__law_draw
    b__law_draw := FunD.bindsN (ps := ["_law_bag_here", "_law_many"]) F__law_draw fun _ _ _ _ _ _ us hl => match us, hl with | [_, _], _ => rfl
    g__law_draw := He.glo_ok X G (c.t.d.fact 5 (f := .glo "_law_draw") rfl)
    a__law_is_int := He.ga K "_law_is_int"
    fd__law_is_int := fd__law_is_int
    F__law_is_int := F__law_is_int
    b__law_is_int := FunD.bindsN (ps := ["_law_value", "_law_least", "_law_most"]) F__law_is_int fun _ _ _ _ _ _ us hl => match us, hl with | [_, _, _], _ => rfl
    g__law_is_int := He.glo_ok X G (c.t.d.fact 6 (f := .glo "_law_is_int") rfl)
    a__law_number := He.ga K "_law_number"
    fd__law_number := fd__law_number
    F__law_number := F__law_number
    b__law_number := FunD.bindsN (ps := ["_law_bag_here"]) F__law_number fun _ _ _ _ _ _ us hl => match us, hl with | [_], _ => rfl
    g__law_number := He.glo_ok X G (c.t.d.fact 7 (f := .glo "_law_number") rfl)
    a__law_pair := He.ga K "_law_pair"
    fd__law_pair := fd__law_pair
    F__law_pair := F__law_pair
    b__law_pair := FunD.bindsN (ps := ["_law_bag_here"]) F__law_pair fun _ _ _ _ _ _ us hl => match us, hl with | [_], _ => rfl
    g__law_pair := He.glo_ok X G (c.t.d.fact 8 (f := .glo "_law_pair") rfl)
    a__law_clock := He.ga K "_law_clock"
    fd__law_clock := fd__law_clock
    F__law_clock := F__law_clock
    b__law_clock := FunD.bindsN (ps := ["_law_bag_here", "_law_count"]) F__law_clock fun _ _ _ _ _ _ us hl => match us, hl with | [_, _], _ => rfl
    g__law_clock := He.glo_ok X G (c.t.d.fact 9 (f := .glo "_law_clock") rfl)
    a__law_is_pair := He.ga K "_law_is_pair"
    fd__law_is_pair := fd__law_is_pair
    F__law_is_pair := F__law_is_pair
    b__law_is_pair := FunD.bindsN (ps := ["_law_value"]) F__law_is_pair fun _ _ _ _ _ _ us hl => match us, hl with | [_], _ => rfl
    g__law_is_pair := He.glo_ok X G (c.t.d.fact 10 (f := .glo "_law_is_pair") rfl)
    a__law_is_clock := He.ga K "_law_is_clock"
    fd__law_is_clock := fd__law_is_clock
    F__law_is_clock := F__law_is_clock
    b__law_is_clock := FunD.bindsN (ps := ["_law_count", "_law_value"]) F__law_is_clock fun _ _ _ _ _ _ us hl => match us, hl with | [_, _], _ => rfl
    g__law_is_clock := He.glo_ok X G (c.t.d.fact 11 (f := .glo "_law_is_clock") rfl)
    a__law_spoilt := He.ga K "_law_spoilt"
    fd__law_spoilt := fd__law_spoilt
    F__law_spoilt := F__law_spoilt
    b__law_spoilt := FunD.bindsN (ps := ["_law_bag_here", "_law_value", "_law_odd"]) F__law_spoilt fun _ _ _ _ _ _ us hl => match us, hl with | [_, _, _], _ => rfl
    g__law_spoilt := He.glo_ok X G (c.t.d.fact 12 (f := .glo "_law_spoilt") rfl)
    a_law := He.ga K "law"
    fd_law := fd_law
    F_law := F_law
    b_law := FunD.bindsN (ps := ["_law_script"]) F_law fun _ _ _ _ _ _ us hl => match us, hl with | [_], _ => rfl
    g_law := He.glo_ok X G (c.t.d.fact 13 (f := .glo "law") rfl)
    u_MOST_PROCESSES := Value.int (10) u_MOST_PROCESSES
    g_MOST_PROCESSES := g_MOST_PROCESSES
    r_MOST_PROCESSES := ⟨_, rfl⟩
    u_MOST_NUMBER := Value.int ((1000000000000)) u_MOST_NUMBER
    g_MOST_NUMBER := g_MOST_NUMBER
    r_MOST_NUMBER := ⟨_, rfl⟩
    n_isinstance := He.free_ok X G (c.t.d.fact 16 (f := .free "isinstance") rfl)
    n_int := He.free_ok X G (c.t.d.fact 17 (f := .free "int") rfl)
    n_bool := He.free_ok X G (c.t.d.fact 18 (f := .free "bool") rfl)
    n_tuple := He.free_ok X G (c.t.d.fact 19 (f := .free "tuple") rfl)
    n_len := He.free_ok X G (c.t.d.fact 20 (f := .free "len") rfl)
    n_all := He.free_ok X G (c.t.d.fact 21 (f := .free "all") rfl)
    n_range := He.free_ok X G (c.t.d.fact 22 (f := .free "range") rfl)
    n_max := He.free_ok X G (c.t.d.fact 23 (f := .free "max") rfl)
    n_min := He.free_ok X G (c.t.d.fact 24 (f := .free "min") rfl) }, rfl⟩⟩
end Fg

open PySem PySem.W PySem.Calls PyProof.Rows
set_option maxRecDepth 100000 in
set_option maxHeartbeats 0 in
theorem PySem.Challenge.cw_firmground_k06_clocks_holds : PySem.Challenge.rw_firmground_k06_clocks.Holds := by
  w_on; o_law
  refine HandSHeadRun.head_any (r := OpenLaw.row PySem.Challenge.rw_firmground_k06_clocks) (q := view (OpenLaw.row PySem.Challenge.rw_firmground_k06_clocks).prog [19]) (H := Fg.hk) (ob := Fg.ob) (M := 60000) (loose := Fg.loose) (d := HandSHeadRun.topDef (OpenLaw.row PySem.Challenge.rw_firmground_k06_clocks).prog 19) (kwd := []) Fg.ob_eq
    (by kernel_rfl) (fun s => by kernel_rfl) Fg.run (by kernel_rfl) (by kernel_rfl) (by kernel_rfl) (by rfl) (by first | assumption | decide +kernel) (by decide +kernel) ⟨rfl, rfl, rfl, rfl, rfl, by decide +kernel⟩ ?hw ?hc
  case hw => w_witness2
  case hc =>
    refine L2.walk_ofE (l := PySem.Challenge.rw_firmground_k06_clocks) (n := 63) (k := 8) (x := "_law_script") (CX := L2.CX0) rfl (by decide) (by kernel_rfl) ⟨rfl, by decide, by decide⟩ ?F (fun _ _ _ _ z => z)
    intro w mg fa h Y G hmg0
    obtain ⟨K, KX, c⟩ := Y
    have hmg : mg ("law" : PySem.Str) = some (.ref fa) := by
      have e : (HandSHeadRun.topDef (OpenLaw.row PySem.Challenge.rw_firmground_k06_clocks).prog 19).name = ("law" : PySem.Str) := by kernel_rfl
      rw [← e]
      exact hmg0
    obtain ⟨⟨⟨e0⟩⟩, T, eT⟩ := Fg.txt_of KX G c
    have e1 : fa = T.a_law := by
      rw [e0] at hmg
      rw [eT]
      injection hmg with hmg
      injection hmg with hmg
      exact hmg.symm
    refine ⟨K, T.fd_law, Fg.spLaw K, KX, fun s v => L2.FunD.bindsA (ps := ["_law_script"]) T.F_law (fun _ _ _ _ _ _ us hl => match us, hl with | [_], _ => rfl) s [v] rfl, fun H a ns hl _ hS => Fg.sp_in H a ns hl hS, fun base _ _ => ?_⟩
    rw [e1]
    exact Fg.ok_law T
#print axioms PySem.Challenge.cw_firmground_k06_clocks_holds
