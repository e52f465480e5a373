import PyProof.Rows.All
import Wide.All
import OpenK.AllK
import Wide.FinOn
import KE.KStateDown
import Lean
import HandS.ForMost
import HandS.ForExc
import HandS.Defaults
import HandS.More
import HandS.Small
import HandS.ExcInit
import HandS.ExcField
import HandS.IsInst
import HandS.Flow
import HandS.Style
import HandS.Steps
import HandS.Evl
import HandS.Wide
import HandS.TupAny
import HandS.TupMul
import HandS.TupLe
import HandS.Walk
import HandS.Zip
import HandS.StrMore
import HandS.StrSplit
import HandS.Deep
import HandS.DictComp
import HandS.SortInts
import HandS.TryMany
import HandS.Head0
import HandS.Head1
import HandS.Head2
import HandS.HeadEnd
import HandS.HeadHook1
import HandS.HeadHook2
import HandS.HeadHook3
import HandS.HeadHook4
import PySem.Challenge.RW_firmground_k43_net_of_packets
set_option Elab.async false
set_option linter.all false
set_option maxRecDepth 100000
set_option maxHeartbeats 4000000
/-! Words shared by the proofs about the given program. -/
namespace L2
open PySem PySem.Spec PyProof.Rows

/-! ### raise C() of an own class without arguments -/
section
variable {X : Cx} {C : Addr} {bmB : List Value} {B newId initId : String}
theorem pmk_own0 {x : Str} {p pos : Pos} (F : ExcBaseFacts B newId initId bmB) (q : PySem.W.excIn X.K C bmB newId = true) (gC : X.mg x = some (.ref C)) (kC : PySem.W.keepIn X.K (.ref C) = true) (r : Raises X (.ref C)) (hg : Gl X x)
    (hdb : (x == ("__debug__" : Str)) = false := by decide) : PMk X (.Call (.Name x p) [] [] pos) (fun _ H Q => Q (.ref C) none H) := by
  intro pins s σ H Q I h
  refine wpAny_Call_Name_kw (ld_glob I hg gC ?_ hdb)
  refine PySem.W.callWith_K0 I.kIn kC ?_
  obtain ⟨hp, g, dd0, tk, os⟩ := s
  obtain ⟨bm, N, nm, qn, bs, hdct, sn, sub, ab, col, dd, k0, k1, k2, k3, k5, mN, hC, hN, hni, T⟩ := exc_obj I.kIn q
  refine wpAny_call_exc_subT F T hC hN hni (fun h' e hm => ?_) (Nat.zero_le _)
  exact mk_of I hm r h (I.hok.gone hm.new)
end

/-! ### an own class over ValueError with an __init__ of its own: a check -/
def oexB (K : PySem.W.Frag) (C : Addr) : Bool := (match K.lookup C with
  | some ⟨.type "type", _, .cls cd, sl⟩ => (match cd.mro, sl.toList with
    | .ref C' :: bm, [_, _, _, _, some (.builtin n), _] => C' == C && n == "ValueError.__new__" && !cd.hasDel && cd.hasDict && PySem.HandSPX.refsVE bm
    | _, _ => false)
  | _ => false) && decide (PySem.W.findIn K (.ref C) "__setattr__" = some (some (.builtin "object.__setattr__"))) && decide (PySem.W.subIn K (.ref C) (.type "BaseException") = some true) &&
    decide (PySem.W.typeIn K (.ref C) = some (.type "type")) && PySem.W.keepIn K (.ref C)
theorem oexB_ok {K : PySem.W.Frag} {C : Addr} (h : oexB K C = true) : OexC K C := by
  unfold oexB at h
  simp only [Bool.and_eq_true] at h
  obtain ⟨⟨⟨⟨h, h1⟩, h2⟩, h3⟩, h4⟩ := h
  refine ⟨?_, of_decide_eq_true h1, of_decide_eq_true h2, of_decide_eq_true h3, h4⟩
  split at h
  · rename_i dd cd sl ho
    split at h
    · rename_i C' bm k0 k1 k2 k3 n k5 hm hs
      simp only [Bool.and_eq_true, beq_iff_eq, Bool.not_eq_true'] at h
      obtain ⟨⟨⟨⟨rfl, rfl⟩, hdel⟩, hdi⟩, hr⟩ := h
      obtain ⟨nm, bs, mro, ns, qn, hd, sn, sub, ab, col, del⟩ := cd
      dsimp only at hm hdel hdi
      subst hm hdel hdi
      have hsl : sl = #[k0, k1, k2, k3, some (.builtin "ValueError.__new__"), k5] := by
        obtain ⟨l⟩ := sl
        simp only at hs
        rw [hs]
      subst hsl
      exact ⟨nm, qn, ns, bs, bm, sn, sub, ab, col, dd, k0, k1, k2, k3, k5, ho, hr⟩
    · cases h
  · cases h
/-! ### methods and makers that may raise, within a try: the wish at the caller's slots -/
def tMethE (C : Addr) (m : Str) (sp : Sp) (E : St → XK) (ta : TE) (t : TA) : TE := fun σ H Q => ta σ H fun x H1 => ∃ a dx fs, x = .ref a ∧ H1 a = some (.ins C dx fs) ∧ fs.lookup m = none ∧ t σ H1 fun vs H2 => sp (x :: vs) H2 Q (E σ)
def tMakeE (C : Addr) (sp : Sp) (E : St → XK) (t : TA) : TE := fun σ H Q => t σ H fun vs H1 => ∀ x dx, H1 x = none → H1 dx = none → dx ≠ x →
  sp (.ref x :: vs) (upd (upd H1 dx (.own x)) x (.ins C dx [])) (fun v H2 => v = .non ∧ Q (.ref x) H2) (E σ)
section
variable {X : Cx} {CX : CXT} {k : Nat} {f C : Addr} {fd : FuncData} {ps : List Str} {sp : Sp} {E : St → XK} {x m : Str} {p pos apos : Pos} {e o : Expr} {es : List Expr} {ta : TE} {t : TA}
theorem pe_methE {pl : Sem Bool} (F : FnOk X.prog X.w X.K X.mg X.base CX k f fd ps sp) (cC : Cls X.K C) (mM : Meth X.K C m f) (rm : Room k X.A) (bs : Binds X.K fd ps []) (pass : ∀ σ, PassesAt CX X σ (E σ)) (ho : PE X o ta) (ha : PA X (e :: es) t)
    (h1 : starEach (e :: es) X.env = (false, eval e X.env) :: starEach es X.env := by rfl) (h2 : (backTo pos (starEach es X.env)).any (·.1) = false := by rfl)
    (h3 : eval (.Call (.Attribute o m apos) (e :: es) [] pos) X.env = (do let ov ← eval o X.env; standAt apos.atName; let (f, first) ← holding [ov] (getMethod ov m pl); callWith pos f first (backTo pos (starEach (e :: es) X.env)) (backToKw pos (keywordEach [] X.env))) := by rfl) :
    PE X (.Call (.Attribute o m apos) (e :: es) [] pos) (tMethE C m sp E ta t) := by
  constructor
  intro pins s σ H Q I hq
  apply PySem.W.methodCall_KW (pl := pl) _ h3
  apply thn (ho.run pins s σ H _ I hq)
  intro u s1 z
  obtain ⟨y, H1, J, ry, a, dx, fs, ey, ia, nl, q⟩ := z
  subst ey
  cases (show u = Value.ref a from ry)
  apply getmeth_ok J ia cC mM nl
  apply PySem.W.callWith_K (first := [.ref a]) (h₀ := X.base) I.ok.mod.kin mM.kp _ h1 h2
  apply thn (ha.run pos pins s1 σ H1 _ J q)
  intro us s2 z
  obtain ⟨vs, H2, J2, rv, q2⟩ := z
  exact ⟨J2.kIn, run_fnS (us := .ref a :: us) (vs := .ref a :: vs) F rm bs (pass σ) J2 (.cons rfl rv) q2⟩
theorem pe_meth0E {pl : Sem Bool} (F : FnOk X.prog X.w X.K X.mg X.base CX k f fd ps sp) (cC : Cls X.K C) (mM : Meth X.K C m f) (rm : Room k X.A) (bs : Binds X.K fd ps []) (pass : ∀ σ, PassesAt CX X σ (E σ)) (ho : PE X o ta)
    (h3 : eval (.Call (.Attribute o m apos) [] [] pos) X.env = (do let ov ← eval o X.env; standAt apos.atName; let (f, first) ← holding [ov] (getMethod ov m pl); callWith pos f first (backTo pos (starEach [] X.env)) (backToKw pos (keywordEach [] X.env))) := by rfl) :
    PE X (.Call (.Attribute o m apos) [] [] pos) (tMethE C m sp E ta tNil) := by
  constructor
  intro pins s σ H Q I hq
  apply PySem.W.methodCall_KW (pl := pl) _ h3
  apply thn (ho.run pins s σ H _ I hq)
  intro u s1 z
  obtain ⟨y, H1, J, ry, a, dx, fs, ey, ia, nl, q⟩ := z
  subst ey
  cases (show u = Value.ref a from ry)
  apply getmeth_ok J ia cC mM nl
  exact PySem.W.callWith_K0 (first := [.ref a]) J.kIn mM.kp (run_fnS (us := [.ref a]) (vs := [.ref a]) F rm bs (pass σ) J (.cons rfl .nil) q)
theorem run_makeE {pins : List (Addr × Obj)} {σ : St} {H : Hp} {s : Shared} {Q : VK} {us : List Value} {vs : List V} (M : Mk X.K C f) (F : FnOk X.prog X.w X.K X.mg X.base CX k f fd ps sp) (rm : Room (k + 1) X.A) (bs : Binds X.K fd ps [])
    (pass : ∀ H0 s0 e s', Inv X pins σ H0 s0 → CX X.stack H0 s0 (E σ) e s' → X.xe e s') (I : Inv X pins σ H s) (r : Vals vs us)
    (h : ∀ x dx, H x = none → H dx = none → dx ≠ x → sp (.ref x :: vs) (upd (upd H dx (.own x)) x (.ins C dx [])) (fun v H2 => v = .non ∧ Q (.ref x) H2) (E σ)) :
    wpAny (model X.prog X.w) X.A (call (.ref C) us) (EP X pins σ Q) X.xe s := by
  have hq := h (s.heap.objs.size + 1) s.heap.objs.size (I.hok.fresh (Nat.le_succ _)) (I.hok.fresh (Nat.le_refl _)) (Nat.ne_of_lt (Nat.lt_succ_self _))
  have J := Inv.made (C := C) I
  have rr : Vals (V.ref (s.heap.objs.size + 1) :: vs) (Value.ref (s.heap.objs.size + 1) :: us) := .cons rfl r
  have hl : (Value.ref (s.heap.objs.size + 1) :: us).length = ps.length := by rw [← rr.length]; exact F.len _ _ _ _ hq
  have hb := bs _ (Value.ref (s.heap.objs.size + 1) :: us) J.kIn (by rw [List.append_nil]; exact hl)
  rw [List.append_nil] at hb
  apply wpAny_call
  apply make_map (f := f) I.kIn M.makes M.init (beq_iff_eq.mp M.fn)
  apply codeAny_mono (F.run _ X.stack _ _ ⟨Value.ref (s.heap.objs.size + 1) :: us, []⟩ (Value.ref (s.heap.objs.size + 1) :: us) _ _ (E σ) (rm.make C us []) (J.env0.make C us []) hb rr hq)
  intro res s' z
  match res, z with
  | .error e, z => exact pass _ _ e s' J z
  | .ok (.ret u), z =>
    obtain ⟨v, H', I3, rv, ev, q3⟩ := J.after z
    subst ev
    exact ⟨rv, ⟨V.ref (s.heap.objs.size + 1), H', I3, rfl, q3⟩⟩
  | .ok .next, z => exact z.elim
  | .ok .brk, z => exact z.elim
  | .ok .cont, z => exact z.elim
theorem pe_makeE (M : Mk X.K C f) (F : FnOk X.prog X.w X.K X.mg X.base CX k f fd ps sp) (rm : Room (k + 1) X.A) (hg : Gl X x) (hm : X.mg x = some (.ref C)) (bs : Binds X.K fd ps []) (pass : ∀ σ, PassesAt CX X σ (E σ)) (ha : PA X (e :: es) t)
    (h0 : (x == ("__debug__" : Str)) = false := by decide) (h1 : starEach (e :: es) X.env = (false, eval e X.env) :: starEach es X.env := by rfl) (h2 : (backTo pos (starEach es X.env)).any (·.1) = false := by rfl) :
    PE X (.Call (.Name x p) (e :: es) [] pos) (tMakeE C sp E t) := by
  constructor
  intro pins s σ H Q I hq
  apply wpAny_Call_Name_kw
  apply ld_glob I hg hm _ h0
  apply PySem.W.callWith_K (h₀ := X.base) I.ok.mod.kin M.kp _ h1 h2
  apply thn (ha.run pos pins s σ H _ I hq)
  intro us s1 z
  obtain ⟨vs, H1, J, rv, q⟩ := z
  exact ⟨J.kIn, run_makeE M F rm bs (fun H0 s0 e s' => pass σ pins H0 s0 e s') J rv q⟩
end
/-- nothing leaves a callee -/
theorem pass0f {X : Cx} : Passes CX0 X (fun _ _ _ => False) := pass0

/-! ### raise of an own class with two fields -/
theorem del_back {H H2 : Hp} {a d : Addr} {o : HO} (n : H a = none) (k : ∀ b, b ≠ a → b ≠ d → H2 b = H b) : upd (del H2 a) d o = upd H d o := by
  funext b
  by_cases hb : b = d
  · rw [hb, upd_same, upd_same]
  · rw [upd_ne hb, upd_ne hb]
    by_cases ha : b = a
    · rw [ha, del_same, n]
    · rw [del_ne ha, k b ha hb]

/-! ### attributes by place -/
theorem lk0 (f : Str) (v : V) (r : List (Str × V)) : List.lookup f ((f, v) :: r) = some v := by simp [List.lookup]
theorem lk1 {f g : Str} {v : V} {r : List (Str × V)} {o : Option V} (h : (f == g) = false) (k : List.lookup f r = o) : List.lookup f ((g, v) :: r) = o := by simp [List.lookup, h, k]
theorem lkn (f : Str) : List.lookup f ([] : List (Str × V)) = none := rfl
theorem pf0 (f : Str) (v x : V) (r : List (Str × V)) : putF f v ((f, x) :: r) = (f, v) :: r := if_pos rfl
theorem pf1 {f g : Str} {v x : V} {r s : List (Str × V)} (h : (g == f) = false) (k : putF f v r = s) : putF f v ((g, x) :: r) = (g, x) :: s := by
  have e : ¬ g = f := by simpa using h
  show (if g = f then (g, v) :: r else (g, x) :: putF f v r) = (g, x) :: s
  rw [if_neg e, k]
theorem pfn (f : Str) (v : V) : putF f v [] = [(f, v)] := rfl

/-! ### heaps -/
/-- all tracked objects stay, but for those at W -/
def Kp (W : List Addr) (H H' : Hp) : Prop := ∀ b o, H b = some o → b ∉ W → H' b = some o
theorem Kp.refl (W : List Addr) (H : Hp) : Kp W H H := fun _ _ e _ => e
theorem Kp.trans {W : List Addr} {H H1 H2 : Hp} (a : Kp W H H1) (b : Kp W H1 H2) : Kp W H H2 := fun c o e h => b c o (a c o e h) h
theorem Kp.mono {W V : List Addr} {H H1 : Hp} (a : Kp W H H1) (s : ∀ x ∈ W, x ∈ V) : Kp V H H1 := fun c o e h => a c o e fun m => h (s c m)
theorem Kp.new {W : List Addr} {H H1 : Hp} (a : Kp W H H1) {p : Addr} {o : HO} (n : H1 p = none) : Kp W H (upd H1 p o) := fun c u e h => by
  have z := a c u e h
  rw [upd_ne (ne_of_none z n)]
  exact z
/-- a store to what was free ahead -/
theorem Kp.own {W : List Addr} {H H1 : Hp} (a : Kp W H H1) {p : Addr} {o : HO} (n : H p = none) : Kp W H (upd H1 p o) := fun c u e h => by
  rw [upd_ne (ne_of_none e n)]
  exact a c u e h
theorem Kp.at {H H1 : Hp} (a : Kp [] H H1) {p : Addr} {o : HO} (e : H p = some o) : H1 p = some o := a p o e (by simp)
theorem Kp.put {W : List Addr} {H H1 : Hp} (a : Kp W H H1) {p : Addr} {o : HO} (n : p ∈ W) : Kp W H (upd H1 p o) := fun c u e h => by
  rw [upd_ne (show c ≠ p from fun z => h (by rw [z]; exact n))]
  exact a c u e h
theorem Kp.free {H H1 : Hp} (a : Kp [] H H1) {p : Addr} (n : H1 p = none) : H p = none := by
  cases e : H p with
  | none => rfl
  | some o =>
    rw [a p o e (by simp)] at n
    cases n
/-- what was free and is not at W stays free where it is free behind -/
theorem Kp.freeW {W : List Addr} {H H1 : Hp} (a : Kp W H H1) {p : Addr} (n : H1 p = none) (h : ∀ q ∈ W, ∃ o, H1 q = some o) : H p = none := by
  cases e : H p with
  | none => rfl
  | some o =>
    by_cases m : p ∈ W
    · obtain ⟨u, hu⟩ := h p m
      rw [n] at hu
      cases hu
    · rw [a p o e m] at n
      cases n

/-! ### tuples stay -/
/-- every tuple stays -/
def KTu (K : PySem.W.Frag) (H H' : Hp) : Prop := ∀ a xs, SqT K H a xs → SqT K H' a xs
theorem KTu.refl (K : PySem.W.Frag) (H : Hp) : KTu K H H := fun _ _ h => h
theorem KTu.trans {K : PySem.W.Frag} {H H1 H2 : Hp} (a : KTu K H H1) (b : KTu K H1 H2) : KTu K H H2 := fun c xs h => b c xs (a c xs h)
theorem KTu.of_rd {K : PySem.W.Frag} {H H' : Hp} (h : ∀ a xs, Rd H a (.tup xs) → Rd H' a (.tup xs)) : KTu K H H' := fun a xs z => z.elim (fun r => .inl (h a xs r)) .inr
theorem KTu.upd {K : PySem.W.Frag} {H : Hp} {p : Addr} {o : HO} (h : ∀ xs, ¬ Rd H p (.tup xs)) : KTu K H (upd H p o) := KTu.of_rd fun a xs r => by
  have ne : a ≠ p := fun z => h xs (z ▸ r)
  rcases r with r | ⟨u, r⟩
  · exact .inl (by rw [upd_ne ne]; exact r)
  · exact .inr ⟨u, by rw [upd_ne ne]; exact r⟩
theorem KTu.new {K : PySem.W.Frag} {H : Hp} {p : Addr} {o : HO} (n : H p = none) : KTu K H (L2.upd H p o) := KTu.upd fun xs r => by
  rcases r with r | ⟨u, r⟩ <;> (rw [n] at r; cases r)
theorem KTu.lst {K : PySem.W.Frag} {H : Hp} {p : Addr} {o : HO} {xs : List V} (n : H p = some (.lst xs)) : KTu K H (L2.upd H p o) := KTu.upd fun ys r => by
  rcases r with r | ⟨u, r⟩ <;> (rw [n] at r; cases r)
theorem KTu.dic {K : PySem.W.Frag} {H : Hp} {p : Addr} {o : HO} {xs : List (Key × V)} (n : H p = some (.dK xs)) : KTu K H (L2.upd H p o) := KTu.upd fun ys r => by
  rcases r with r | ⟨u, r⟩ <;> (rw [n] at r; cases r)
theorem KTu.ins {K : PySem.W.Frag} {H : Hp} {p C dx : Addr} {o : HO} {xs : List (Str × V)} (n : H p = some (.ins C dx xs)) : KTu K H (L2.upd H p o) := KTu.upd fun ys r => by
  rcases r with r | ⟨u, r⟩ <;> (rw [n] at r; cases r)
theorem KTu.kp {K : PySem.W.Frag} {W : List Addr} {H H' : Hp} (k : Kp W H H') (h : ∀ p ∈ W, ∀ xs, ¬ Rd H p (.tup xs)) : KTu K H H' := KTu.of_rd fun a xs r => by
  have ne : a ∉ W := fun z => h a z xs r
  rcases r with r | ⟨u, r⟩
  · exact .inl (k a _ r ne)
  · exact .inr ⟨u, k a _ r ne⟩

theorem Kp.kt {K : PySem.W.Frag} {H H1 : Hp} (a : Kp [] H H1) : KTu K H H1 := KTu.kp a fun p hp => by cases hp
theorem Kp.seq {K : PySem.W.Frag} {H H1 : Hp} (e : Kp [] H H1) {a : Addr} {xs : List V} (h : SqL K H a xs) : SqL K H1 a xs := by
  rcases h with (h | ⟨o, h⟩) | h
  · exact .inl (.inl (e.at h))
  · exact .inl (.inr ⟨o, e.at h⟩)
  · exact .inr h
theorem Kp.seqW {K : PySem.W.Frag} {W : List Addr} {H H1 : Hp} (e : Kp W H H1) {a : Addr} {xs : List V} (h : SqL K H a xs) (n : a ∉ W) : SqL K H1 a xs := by
  rcases h with (h | ⟨o, h⟩) | h
  · exact .inl (.inl (e a _ h n))
  · exact .inl (.inr ⟨o, e a _ h n⟩)
  · exact .inr h
theorem Kp.thru {W : List Addr} {H H1 H2 : Hp} (a : Kp [] H H1) (b : Kp W H1 H2) (n : ∀ p ∈ W, H p = none) : Kp [] H H2 := fun c o e _ =>
  b c o (a.at e) fun m => by rw [n c m] at e; cases e

/-! ### data of scalars and tuples -/
mutual
def noL : PyData → Bool
  | .none => true
  | .bool _ => true
  | .int _ => true
  | .str _ => true
  | .tuple xs => noLs xs
  | .list _ => false
  | .dict _ => false
def noLs : List PyData → Bool
  | [] => true
  | x :: xs => noL x && noLs xs
end
section
variable {K : PySem.W.Frag} {H H' : Hp}
mutual
theorem Dp.kt (k : KTu K H H') : ∀ (d : PyData) (v : V), noL d = true → Dp K H v d → Dp K H' v d
  | .none, _, _, h => by cases h; exact .non
  | .bool b, _, _, h => by cases h; exact .bl b
  | .int i, _, _, h => by cases h; exact .int i
  | .str x, _, _, h => by cases h; exact .str x
  | .list ds, _, n, _ => by simp [noL] at n
  | .tuple ds, _, n, h => by
    cases h with
    | tup hs ha => exact .tup (k _ _ hs) (DpAll.kt k ds _ (by simpa [noL] using n) ha)
  | .dict _, _, _, h => by cases h
theorem DpAll.kt (k : KTu K H H') : ∀ (ds : List PyData) (vs : List V), noLs ds = true → DpAll K H vs ds → DpAll K H' vs ds
  | [], _, _, h => by cases h; exact .nil
  | d :: ds, _, n, h => by
    have n' : noL d = true ∧ noLs ds = true := by simpa [noLs] using n
    cases h with
    | cons h1 h2 => exact .cons (Dp.kt k d _ n'.1 h1) (DpAll.kt k ds _ n'.2 h2)
end
mutual
/-- data of any kind, where all that is tracked stays -/
theorem Dp.ex (k : Kp [] H H') : ∀ (d : PyData) (v : V), Dp K H v d → Dp K H' v d
  | .none, _, h => by cases h; exact .non
  | .bool b, _, h => by cases h; exact .bl b
  | .int i, _, h => by cases h; exact .int i
  | .str x, _, h => by cases h; exact .str x
  | .list ds, _, h => by
    cases h with
    | lst hs ha =>
      refine .lst ?_ (DpAll.ex k ds _ ha)
      rcases hs with (r | ⟨u, r⟩) | r
      · exact .inl (.inl (k _ _ r (by simp)))
      · exact .inl (.inr ⟨u, k _ _ r (by simp)⟩)
      · exact .inr r
  | .tuple ds, _, h => by
    cases h with
    | tup hs ha =>
      refine .tup ?_ (DpAll.ex k ds _ ha)
      rcases hs with (r | ⟨u, r⟩) | r
      · exact .inl (.inl (k _ _ r (by simp)))
      · exact .inl (.inr ⟨u, k _ _ r (by simp)⟩)
      · exact .inr r
  | .dict _, _, h => by cases h
theorem DpAll.ex (k : Kp [] H H') : ∀ (ds : List PyData) (vs : List V), DpAll K H vs ds → DpAll K H' vs ds
  | [], _, h => by cases h; exact .nil
  | d :: ds, _, h => by
    cases h with
    | cons h1 h2 => exact .cons (Dp.ex k d _ h1) (DpAll.ex k ds _ h2)
end
theorem DpAll.len : ∀ {vs : List V} {ds : List PyData}, DpAll K H vs ds → vs.length = ds.length
  | _, _, .nil => rfl
  | _, _, .cons _ t => congrArg Nat.succ (DpAll.len t)
theorem DpAll.get : ∀ {vs : List V} {ds : List PyData} {i : Nat} {v : V}, DpAll K H vs ds → vs[i]? = some v → ∃ d, ds[i]? = some d ∧ Dp K H v d
  | _, _, _, _, .nil, e => by simp at e
  | _, _, 0, _, .cons h _, e => by simp at e; subst e; exact ⟨_, rfl, h⟩
  | _, _, i + 1, v, .cons _ t, e => by
    obtain ⟨d, h1, h2⟩ := DpAll.get (i := i) (v := v) t (by simpa using e)
    exact ⟨d, by simpa using h1, h2⟩
theorem DpAll.getD : ∀ {vs : List V} {ds : List PyData} {i : Nat} {d : PyData}, DpAll K H vs ds → ds[i]? = some d → ∃ v, vs[i]? = some v ∧ Dp K H v d
  | _, _, _, _, .nil, e => by simp at e
  | _, _, 0, _, .cons h _, e => by simp at e; subst e; exact ⟨_, rfl, h⟩
  | _, _, i + 1, d, .cons _ t, e => by
    obtain ⟨v, h1, h2⟩ := DpAll.getD (i := i) (d := d) t (by simpa using e)
    exact ⟨v, by simpa using h1, h2⟩
theorem DpAll.app : ∀ {vs ws : List V} {ds es : List PyData}, DpAll K H vs ds → DpAll K H ws es → DpAll K H (vs ++ ws) (ds ++ es)
  | _, _, _, _, .nil, s => s
  | _, _, _, _, .cons h t, s => .cons h (DpAll.app t s)
theorem DpAll.erase : ∀ {vs : List V} {ds : List PyData} (i : Nat), DpAll K H vs ds → DpAll K H (vs.eraseIdx i) (ds.eraseIdx i)
  | _, _, _, .nil => .nil
  | _, _, 0, .cons _ t => t
  | _, _, i + 1, .cons h t => .cons h (DpAll.erase i t)
theorem DpAll.take : ∀ {vs : List V} {ds : List PyData} (i : Nat), DpAll K H vs ds → DpAll K H (vs.take i) (ds.take i)
  | _, _, 0, _ => .nil
  | _, _, _ + 1, .nil => .nil
  | _, _, i + 1, .cons h t => .cons h (DpAll.take i t)
theorem DpAll.drop : ∀ {vs : List V} {ds : List PyData} (i : Nat), DpAll K H vs ds → DpAll K H (vs.drop i) (ds.drop i)
  | _, _, 0, h => h
  | _, _, _ + 1, .nil => .nil
  | _, _, i + 1, .cons _ t => DpAll.drop i t
theorem noLs_iff : ∀ {ds : List PyData}, noLs ds = true ↔ ∀ d ∈ ds, noL d = true
  | [] => by simp [noLs]
  | d :: ds => by simp [noLs, noLs_iff (ds := ds)]
end

/-! ### what == may look at -/
structure Sh (n : Nat) (d : PyData) : Prop where
  can : d.canLay0 = true
  dep : d.depth ≤ n
theorem Sh.shaped {n : Nat} {d : PyData} (h : Sh n d) (hn : n ≤ 64 := by decide) : SeqAt.shaped d = true := by
  show (d.canLay0 && decide (d.depth ≤ 64)) = true
  rw [h.can, decide_eq_true (Nat.le_trans h.dep hn)]
  rfl
theorem Sh.mono {n m : Nat} {d : PyData} (h : Sh n d) (hn : n ≤ m) : Sh m d := ⟨h.can, Nat.le_trans h.dep hn⟩
theorem Sh.refl {n : Nat} {d : PyData} (h : Sh n d) : PyData.eqv d d = true := SeqAt.eqv_refl d h.can
theorem sh_non {n : Nat} : Sh n .none := ⟨by simp [PyData.canLay0], by simp [PyData.depth]⟩
theorem sh_bl {n : Nat} (b : Bool) : Sh n (.bool b) := ⟨by simp [PyData.canLay0], by simp [PyData.depth]⟩
theorem sh_int {n : Nat} (i : Int) : Sh n (.int i) := ⟨by simp [PyData.canLay0], by simp [PyData.depth]⟩
theorem sh_str {n : Nat} {x : Str} (h : PyData.strOk x = true) : Sh n (.str x) := ⟨by simp [PyData.canLay0, h], by simp [PyData.depth]⟩
theorem can_all : ∀ {ds : List PyData}, (∀ d ∈ ds, d.canLay0 = true) → PyData.canLayAll0 ds = true
  | [], _ => by simp [PyData.canLayAll0]
  | d :: ds, h => by
    rw [PyData.canLayAll0, h d (by simp), can_all fun e m => h e (by simp [m])]
    rfl
theorem dep_all : ∀ {ds : List PyData} {n : Nat}, (∀ d ∈ ds, d.depth ≤ n) → PyData.depthAll ds ≤ n
  | [], _, _ => by simp [PyData.depthAll]
  | d :: ds, n, h => by
    rw [PyData.depthAll]
    exact Nat.max_le.mpr ⟨h d (by simp), dep_all fun e m => h e (by simp [m])⟩
theorem sh_list {n : Nat} {ds : List PyData} (h : ∀ d ∈ ds, Sh n d) : Sh (n + 1) (.list ds) :=
  ⟨by rw [PyData.canLay0]; exact can_all fun d m => (h d m).can, by rw [PyData.depth]; exact Nat.succ_le_succ (dep_all fun d m => (h d m).dep)⟩
theorem sh_tup {n : Nat} {ds : List PyData} (h : ∀ d ∈ ds, Sh n d) : Sh (n + 1) (.tuple ds) :=
  ⟨by rw [PyData.canLay0]; exact can_all fun d m => (h d m).can, by rw [PyData.depth]; exact Nat.succ_le_succ (dep_all fun d m => (h d m).dep)⟩
theorem all_nil {n : Nat} : ∀ d ∈ ([] : List PyData), Sh n d := fun _ h => by cases h
theorem all_cons {n : Nat} {d : PyData} {ds : List PyData} (h : Sh n d) (t : ∀ e ∈ ds, Sh n e) : ∀ e ∈ d :: ds, Sh n e := fun e m => by
  rcases List.mem_cons.mp m with rfl | m
  · exact h
  · exact t e m
/-! ### tests -/
theorem iteD {p A B : Prop} [Decidable p] (h1 : p → A) (h2 : ¬ p → B) : if decide p = true then A else B := by
  by_cases h : p
  · rw [if_pos (decide_eq_true h)]; exact h1 h
  · rw [if_neg (by simp [h])]; exact h2 h
theorem iteN {p A B : Prop} [Decidable p] (h1 : ¬ p → A) (h2 : p → B) : if (!decide p) = true then A else B := by
  by_cases h : p
  · rw [if_neg (by simp [h])]; exact h2 h
  · rw [if_pos (by simp [h])]; exact h1 h
theorem iteB {b : Bool} {A B : Prop} (h1 : b = true → A) (h2 : b = false → B) : if b = true then A else B := by
  cases b
  · rw [if_neg Bool.false_ne_true]; exact h2 rfl
  · rw [if_pos rfl]; exact h1 rfl
theorem iteNB {b : Bool} {A B : Prop} (h1 : b = false → A) (h2 : b = true → B) : if (!b) = true then A else B := by
  cases b
  · exact (if_pos (by simp : (!false) = true)).mpr (h1 rfl)
  · exact (if_neg (by simp : ¬ (!true) = true)).mpr (h2 rfl)
theorem vstr {a b : Str} (h : V.str a = V.str b) : a = b := by injection h
theorem vint {a b : Int} (h : V.int a = V.int b) : a = b := by injection h
theorem vstr_ne {a b : Str} (h : ¬ V.str a = V.str b) : ¬ a = b := fun e => h (by rw [e])
theorem vint_ne {a b : Int} (h : ¬ V.int a = V.int b) : ¬ a = b := fun e => h (by rw [e])
theorem small {n : Nat} (h : n ≤ 100000) : n ≤ sizeLine := Nat.le_trans h (by decide)
theorem smallL {n : Nat} (h : n ≤ 100000) : n < sizeLine := Nat.lt_of_le_of_lt h (by decide)
/-! ### values by their kind -/
theorem ty_tup {K : PySem.W.Frag} {H : Hp} {a : Addr} {xs : List V} (h : SqT K H a xs) : TyX K H (.ref a) (.type "tuple") := by
  rcases h with (r | ⟨o, r⟩) | ⟨o, its, n, e, c, _⟩
  · exact .base (.tup r)
  · exact .fTuple r
  · exact .kTuple e c
theorem ty_lst {K : PySem.W.Frag} {H : Hp} {a : Addr} {xs : List V} (h : SqL K H a xs) : TyX K H (.ref a) (.type "list") := by
  rcases h with (r | ⟨o, r⟩) | ⟨o, its, n, e, c, _⟩
  · exact .base (.lst r)
  · exact .base (.frz r)
  · exact .kList e c
/-- the built-in type of data -/
def tyD : PyData → String
  | .none => "NoneType"
  | .bool _ => "bool"
  | .int _ => "int"
  | .str _ => "str"
  | .list _ => "list"
  | .tuple _ => "tuple"
  | .dict _ => "dict"
theorem ty_of {K : PySem.W.Frag} {H : Hp} {v : V} {d : PyData} (h : Dp K H v d) : TyX K H v (.type (tyD d)) := by
  cases h with
  | non => exact .base .non
  | bl b => exact .base (.bl b)
  | int i => exact .base (.int i)
  | str x => exact .base (.str x)
  | lst hs _ => exact ty_lst hs
  | tup hs _ => exact ty_tup hs
end L2
set_option Elab.async false
set_option linter.all false
set_option maxRecDepth 100000
set_option maxHeartbeats 4000000
namespace Fg
open PySem PySem.Spec PyProof.Rows L2
local macro_rules | `(tactic| walk_at "lk") => `(tactic| first | exact lk0 _ _ _ | (refine lk1 (by decide +kernel) ?_; walk_at "lk") | exact lkn _)
def top (i : Nat) : Stmt := PySem.Challenge.pw_firmground_k43_net_of_packets.main.body.getD i (.Pass ⟨0, 0, 0, 0⟩)
abbrev s_BadSchedule___init__ : Stmt := inClass (top 2) 0
abbrev N_BadSchedule___init__ : List Str := ["self", "line", "reason"]
theorem sc_BadSchedule___init__ : FnScope N_BadSchedule___init__ ["self", "line", "reason"] (defScope s_BadSchedule___init__) := ⟨rfl, rfl, rfl, by decide +kernel, rfl, by decide +kernel, by decide +kernel⟩
abbrev s_Net___init__ : Stmt := inClass (top 4) 0
abbrev N_Net___init__ : List Str := ["self"]
theorem sc_Net___init__ : FnScope N_Net___init__ ["self"] (defScope s_Net___init__) := ⟨rfl, rfl, rfl, by decide +kernel, rfl, by decide +kernel, by decide +kernel⟩
abbrev s_Net_send : Stmt := inClass (top 4) 1
abbrev N_Net_send : List Str := ["self", "sender", "receiver", "letter"]
theorem sc_Net_send : FnScope N_Net_send ["self", "sender", "receiver", "letter"] (defScope s_Net_send) := ⟨rfl, rfl, rfl, by decide +kernel, rfl, by decide +kernel, by decide +kernel⟩
abbrev s_Net_check : Stmt := inClass (top 4) 2
abbrev N_Net_check : List Str := ["self", "position"]
theorem sc_Net_check : FnScope N_Net_check ["self", "position"] (defScope s_Net_check) := ⟨rfl, rfl, rfl, by decide +kernel, rfl, by decide +kernel, by decide +kernel⟩
abbrev s_Net_take : Stmt := inClass (top 4) 3
abbrev N_Net_take : List Str := ["self", "position"]
theorem sc_Net_take : FnScope N_Net_take ["self", "position"] (defScope s_Net_take) := ⟨rfl, rfl, rfl, by decide +kernel, rfl, by decide +kernel, by decide +kernel⟩
abbrev s_Net_double : Stmt := inClass (top 4) 4
abbrev N_Net_double : List Str := ["self", "position"]
theorem sc_Net_double : FnScope N_Net_double ["self", "position"] (defScope s_Net_double) := ⟨rfl, rfl, rfl, by decide +kernel, rfl, by decide +kernel, by decide +kernel⟩
abbrev s_Net_move : Stmt := inClass (top 4) 5
abbrev N_Net_move : List Str := ["self", "position"]
theorem sc_Net_move : FnScope N_Net_move ["self", "position"] (defScope s_Net_move) := ⟨rfl, rfl, rfl, by decide +kernel, rfl, by decide +kernel, by decide +kernel⟩
abbrev s_Net_packets : Stmt := inClass (top 4) 6
abbrev N_Net_packets : List Str := ["self"]
theorem sc_Net_packets : FnScope N_Net_packets ["self"] (defScope s_Net_packets) := ⟨rfl, rfl, rfl, by decide +kernel, rfl, by decide +kernel, by decide +kernel⟩
abbrev s__law_bag : Stmt := top 6
abbrev N__law_bag : List Str := ["_law_script", "_law_k", "_law_cell"]
theorem sc__law_bag : FnScope N__law_bag ["_law_script", "_law_k"] (defScope s__law_bag) := ⟨rfl, rfl, rfl, by decide +kernel, rfl, by decide +kernel, by decide +kernel⟩
abbrev s__law_draw : Stmt := top 7
abbrev N__law_draw : List Str := ["_law_bag_here", "_law_many", "_law_seed", "_law_rest"]
theorem sc__law_draw : FnScope N__law_draw ["_law_bag_here", "_law_many"] (defScope s__law_draw) := ⟨rfl, rfl, rfl, by decide +kernel, rfl, by decide +kernel, by decide +kernel⟩
abbrev s__law_call : Stmt := top 8
abbrev N__law_call : List Str := ["_law_net", "_law_verb", "_law_at", "e"]
theorem sc__law_call : FnScope N__law_call ["_law_net", "_law_verb", "_law_at"] (defScope s__law_call) := ⟨rfl, rfl, rfl, by decide +kernel, rfl, by decide +kernel, by decide +kernel⟩
abbrev s__law_due : Stmt := top 9
abbrev N__law_due : List Str := ["_law_model", "_law_verb", "_law_at", "_law_packet"]
theorem sc__law_due : FnScope N__law_due ["_law_model", "_law_verb", "_law_at"] (defScope s__law_due) := ⟨rfl, rfl, rfl, by decide +kernel, rfl, by decide +kernel, by decide +kernel⟩
abbrev s__law_position : Stmt := top 10
abbrev N__law_position : List Str := ["_law_bag_here", "_law_size", "_law_choice"]
theorem sc__law_position : FnScope N__law_position ["_law_bag_here", "_law_size"] (defScope s__law_position) := ⟨rfl, rfl, rfl, by decide +kernel, rfl, by decide +kernel, by decide +kernel⟩
abbrev s__law_right : Stmt := top 11
abbrev N__law_right : List Str := ["_law_net", "_law_model", "_law_packets"]
theorem sc__law_right : FnScope N__law_right ["_law_net", "_law_model"] (defScope s__law_right) := ⟨rfl, rfl, rfl, by decide +kernel, rfl, by decide +kernel, by decide +kernel⟩
abbrev s_law : Stmt := top 12
abbrev N_law : List Str := ["_law_script", "_law_nets", "_law_models", "_law_k", "_law_bag_here", "_law_number", "_law_net", "_law_model", "_law_verb", "_law_sender", "_law_packet", "_law_at", "_law_due_here", "_law_actual"]
theorem sc_law : FnScope N_law ["_law_script"] (defScope s_law) := ⟨rfl, rfl, rfl, by decide +kernel, rfl, by decide +kernel, by decide +kernel⟩
abbrev FnP (K : PySem.W.Frag) (x q : Str) (st : Stmt) (f : Addr) (fd : FuncData) : Prop := FunD K x q (defArgs st) (defBody st) (defScope st) [] [] f fd
structure Txt (K : PySem.W.Frag) (mg : Str → Option Value) where
  a_BadSchedule___init__ : Addr
  fd_BadSchedule___init__ : FuncData
  F_BadSchedule___init__ : FnP K "__init__" "BadSchedule.__init__" s_BadSchedule___init__ a_BadSchedule___init__ fd_BadSchedule___init__
  b_BadSchedule___init__ : Binds K fd_BadSchedule___init__ ["self", "line", "reason"] []
  a_Net___init__ : Addr
  fd_Net___init__ : FuncData
  F_Net___init__ : FnP K "__init__" "Net.__init__" s_Net___init__ a_Net___init__ fd_Net___init__
  b_Net___init__ : Binds K fd_Net___init__ ["self"] []
  a_Net_send : Addr
  fd_Net_send : FuncData
  F_Net_send : FnP K "send" "Net.send" s_Net_send a_Net_send fd_Net_send
  b_Net_send : Binds K fd_Net_send ["self", "sender", "receiver", "letter"] []
  a_Net_check : Addr
  fd_Net_check : FuncData
  F_Net_check : FnP K "check" "Net.check" s_Net_check a_Net_check fd_Net_check
  b_Net_check : Binds K fd_Net_check ["self", "position"] []
  a_Net_take : Addr
  fd_Net_take : FuncData
  F_Net_take : FnP K "take" "Net.take" s_Net_take a_Net_take fd_Net_take
  b_Net_take : Binds K fd_Net_take ["self", "position"] []
  a_Net_double : Addr
  fd_Net_double : FuncData
  F_Net_double : FnP K "double" "Net.double" s_Net_double a_Net_double fd_Net_double
  b_Net_double : Binds K fd_Net_double ["self", "position"] []
  a_Net_move : Addr
  fd_Net_move : FuncData
  F_Net_move : FnP K "move" "Net.move" s_Net_move a_Net_move fd_Net_move
  b_Net_move : Binds K fd_Net_move ["self", "position"] []
  a_Net_packets : Addr
  fd_Net_packets : FuncData
  F_Net_packets : FnP K "packets" "Net.packets" s_Net_packets a_Net_packets fd_Net_packets
  b_Net_packets : Binds K fd_Net_packets ["self"] []
  a__law_bag : Addr
  fd__law_bag : FuncData
  F__law_bag : FnP K "_law_bag" "_law_bag" s__law_bag a__law_bag fd__law_bag
  b__law_bag : Binds K fd__law_bag ["_law_script", "_law_k"] []
  g__law_bag : mg "_law_bag" = some (.ref a__law_bag)
  a__law_draw : Addr
  fd__law_draw : FuncData
  F__law_draw : FnP K "_law_draw" "_law_draw" s__law_draw a__law_draw fd__law_draw
  b__law_draw : Binds K fd__law_draw ["_law_bag_here", "_law_many"] []
  g__law_draw : mg "_law_draw" = some (.ref a__law_draw)
  a__law_call : Addr
  fd__law_call : FuncData
  F__law_call : FnP K "_law_call" "_law_call" s__law_call a__law_call fd__law_call
  b__law_call : Binds K fd__law_call ["_law_net", "_law_verb", "_law_at"] []
  g__law_call : mg "_law_call" = some (.ref a__law_call)
  a__law_due : Addr
  fd__law_due : FuncData
  F__law_due : FnP K "_law_due" "_law_due" s__law_due a__law_due fd__law_due
  b__law_due : Binds K fd__law_due ["_law_model", "_law_verb", "_law_at"] []
  g__law_due : mg "_law_due" = some (.ref a__law_due)
  a__law_position : Addr
  fd__law_position : FuncData
  F__law_position : FnP K "_law_position" "_law_position" s__law_position a__law_position fd__law_position
  b__law_position : Binds K fd__law_position ["_law_bag_here", "_law_size"] []
  g__law_position : mg "_law_position" = some (.ref a__law_position)
  a__law_right : Addr
  fd__law_right : FuncData
  F__law_right : FnP K "_law_right" "_law_right" s__law_right a__law_right fd__law_right
  b__law_right : Binds K fd__law_right ["_law_net", "_law_model"] []
  g__law_right : mg "_law_right" = some (.ref a__law_right)
  a_law : Addr
  fd_law : FuncData
  F_law : FnP K "law" "law" s_law a_law fd_law
  b_law : Binds K fd_law ["_law_script"] []
  g_law : mg "law" = some (.ref a_law)
  a_GroundError : Addr
  g_GroundError : mg "GroundError" = some (.ref a_GroundError)
  x_GroundError : PySem.W.excIn K a_GroundError He.veBase "ValueError.__new__" = true
  k_GroundError : PySem.W.keepIn K (.ref a_GroundError) = true
  xb_GroundError : PySem.W.subIn K (.ref a_GroundError) (.type "BaseException") = some true
  xt_GroundError : PySem.W.typeIn K (.ref a_GroundError) = some (.type "type")
  a_BadSchedule : Addr
  g_BadSchedule : mg "BadSchedule" = some (.ref a_BadSchedule)
  ox_BadSchedule : OexC K a_BadSchedule
  oi_BadSchedule : PySem.W.findIn K (.ref a_BadSchedule) "__init__" = some (some (.ref a_BadSchedule___init__))
  ot_BadSchedule : PySem.W.typeIn K (.ref a_BadSchedule___init__) = some (.type "function")
  xf_BadSchedule : XfC K a_BadSchedule
  na_BadSchedule_line : PySem.W.findIn K (.ref a_BadSchedule) "line" = some none
  na_BadSchedule_reason : PySem.W.findIn K (.ref a_BadSchedule) "reason" = some none
  a_Net : Addr
  g_Net : mg "Net" = some (.ref a_Net)
  cls_Net : Cls K a_Net
  na_Net__flight : NoAttr K a_Net "_flight"
  mk_Net : Mk K a_Net a_Net___init__
  m_Net_send : Meth K a_Net "send" a_Net_send
  m_Net_check : Meth K a_Net "check" a_Net_check
  m_Net_take : Meth K a_Net "take" a_Net_take
  m_Net_double : Meth K a_Net "double" a_Net_double
  m_Net_move : Meth K a_Net "move" a_Net_move
  m_Net_packets : Meth K a_Net "packets" a_Net_packets
  e_BadSchedule_BadSchedule : PySem.W.exmOne K (.ref a_BadSchedule) (.ref a_BadSchedule) = some true
  n_len : mg "len" = none
  n_list : mg "list" = none
  n_int : mg "int" = none
  n_isinstance : mg "isinstance" = none
  n_range : mg "range" = none
  n_tuple : mg "tuple" = none

section
variable {P : Program} {w : World} {K : PySem.W.Frag} {mg : Str → Option Value} {base : Heap}
/-! ### BadSchedule(line, reason) -/
def bsF (l r : V) : List (Str × V) := [("reason", r), ("line", l)]
def spBS (C : Addr) : Sp := fun vs H Q _ => ∃ (a : Addr) (l r : V), vs = [.ref a, l, r] ∧ H a = some (exo a C none) ∧ ∀ d, H d = none → d ≠ a → Q .non (upd (upd (upd H d (exd d [("line", l)])) a (exo a C (some d))) d (exd d (bsF l r)))
theorem ok_BadSchedule___init__ (T : Txt K mg) : FnOk P w K mg base CX0 1 T.a_BadSchedule___init__ T.fd_BadSchedule___init__ ["self", "line", "reason"] (spBS T.a_BadSchedule) := by
  refine T.F_BadSchedule___init__.ok sc_BadSchedule___init__ (fun vs H Q E h => ?_) (fun cdv A outer s H vs Q E hr h => ?_)
  · obtain ⟨a, l, r, rfl, _⟩ := h
    rfl
  · obtain ⟨a, l, r, rfl, ha, k⟩ := h
    refine ⟨_, PSs.nox (pss_cons (ps_ost (pv 0) (pv 1))
      (pss_one (ps_ost (pv 0) (pv 2)))), ?_⟩
    refine ⟨_, rfl, _, rfl, a, T.a_BadSchedule, rfl, T.ox_BadSchedule, T.na_BadSchedule_line, .inl ⟨ha, fun d hd da => ?_⟩⟩
    refine ⟨_, rfl, _, rfl, a, T.a_BadSchedule, rfl, T.ox_BadSchedule, T.na_BadSchedule_reason, .inr ⟨d, _, upd_same, by rw [upd_ne da, upd_same], by show 1 ≤ 900; decide, ?_⟩⟩
    exact k d hd da
/-- raise BadSchedule(l, r), its reading -/
theorem bs_raise {C : Addr} {H : Hp} {l r : V} {E : XK} (q : ∀ d, H d = none → E (.ref C) (some d) (upd H d (.xd (bsF l r)))) : ∀ a, H a = none →
    spBS C (.ref a :: ([l, r] ++ [])) (upd H a (exo a C none)) (fun v H2 => v = .non ∧ ∃ (d : Addr) (fs : List (Str × V)), H2 a = some (exo a C (some d)) ∧ H2 d = some (exd d fs) ∧ H d = none ∧ E (.ref C) (some d) (upd (del H2 a) d (.xd fs))) (fun _ _ _ => False) := fun a ha =>
  ⟨a, l, r, rfl, upd_same, fun d hd da => ⟨rfl, d, bsF l r, by rw [upd_ne (Ne.symm da), upd_same], upd_same, by rw [upd_ne da] at hd; exact hd, by
    have hd' : H d = none := by rw [upd_ne da] at hd; exact hd
    rw [del_back ha fun b h1 h2 => by rw [upd_ne h2, upd_ne h1, upd_ne h2, upd_ne h1]]
    exact q d hd'⟩⟩

/-! ### the network -/
structure NetAt (C : Addr) (H : Hp) (p l : Addr) (xs : List V) : Prop where
  ob : ∃ dx, H p = some (.ins C dx [("_flight", .ref l)])
  ls : H l = some (.lst xs)
def spNinit (C : Addr) : Sp := fun vs H Q _ => ∃ (p dx : Addr), vs = [.ref p] ∧ H p = some (.ins C dx []) ∧ ∀ l, H l = none → Q .non (upd (upd H l (.lst [])) p (.ins C dx [("_flight", .ref l)]))
theorem ok_Net___init__ (T : Txt K mg) : FnOk P w K mg base CX0 1 T.a_Net___init__ T.fd_Net___init__ ["self"] (spNinit T.a_Net) := by
  refine T.F_Net___init__.ok sc_Net___init__ (fun vs H Q E h => ?_) (fun cdv A outer s H vs Q E hr h => ?_)
  · obtain ⟨p, dx, rfl, _⟩ := h
    rfl
  · obtain ⟨p, dx, rfl, hp, k⟩ := h
    refine ⟨_, PSs.nox (pss_one (ps_fld (pv 0) (pe_lst pa_nil) rfl)), ?_⟩
    refine ⟨by decide, fun l hl => ⟨_, rfl, p, T.a_Net, dx, [], rfl, by rw [upd_ne (ne_of_none hp hl)]; exact hp, T.cls_Net, T.na_Net__flight, by show 0 < 1000; decide, ?_⟩⟩
    exact k l hl
def spNsend (C : Addr) : Sp := fun vs H Q _ => ∃ (p l : Addr) (xs : List V) (s r t : V), vs = [.ref p, s, r, t] ∧ NetAt C H p l xs ∧ xs.length ≤ 1000 ∧ ∀ q, H q = none → Q .non (upd (upd H q (.tup [s, r, t])) l (.lst (xs ++ [.ref q])))
theorem ok_Net_send (T : Txt K mg) : FnOk P w K mg base CX0 1 T.a_Net_send T.fd_Net_send ["self", "sender", "receiver", "letter"] (spNsend T.a_Net) := by
  refine T.F_Net_send.ok sc_Net_send (fun vs H Q E h => ?_) (fun cdv A outer s H vs Q E hr h => ?_)
  · obtain ⟨p, l, xs, s, r, t, rfl, _⟩ := h
    rfl
  · obtain ⟨p, l, xs, s, r, t, rfl, ⟨⟨dx, hp⟩, hl⟩, hn, k⟩ := h
    refine ⟨_, PSs.nox (pss_one (ps_expr (pe_bm PySem.F.plainAttrs_list PySem.F.slot_list_append PySem.F.type_list_append mt_append (pe_fld (pv 0) rfl) (pa_cons (pe_tup (pa_cons (pv 1) (pa_cons (pv 2) (pa_cons (pv 3) pa_nil)))) pa_nil)))), ?_⟩
    refine ⟨_, rfl, p, T.a_Net, dx, _, _, rfl, hp, T.cls_Net, T.na_Net__flight, lk0 _ _ _, Or.inl ⟨rfl, _, SqL.of hl⟩, ?_⟩
    refine ⟨_, rfl, _, rfl, _, rfl, by show 3 ≤ sizeLine; decide, fun q hq => ?_⟩
    exact ⟨l, xs, _, rfl, rfl, by rw [upd_ne (ne_of_none hl hq)]; exact hl, small1000 hn, k q hq⟩
def spNcheck (C B : Addr) : Sp := fun vs H Q E => ∃ (p l : Addr) (xs : List V) (i : Int), vs = [.ref p, .int i] ∧ NetAt C H p l xs ∧ (0 ≤ i → i < xs.length → Q .non H) ∧
  ((i < 0 ∨ xs.length ≤ i) → ∀ d, H d = none → E (.ref B) (some d) (upd H d (.xd (bsF (.int 0) (.str "position")))))
theorem ok_Net_check (T : Txt K mg) : FnOk P w K mg base (L2.CX P w) 4 T.a_Net_check T.fd_Net_check ["self", "position"] (spNcheck T.a_Net T.a_BadSchedule) := by
  refine T.F_Net_check.ok sc_Net_check (fun vs H Q E h => ?_) (fun cdv A outer s H vs Q E hr h => ?_)
  · obtain ⟨p, l, xs, i, rfl, _⟩ := h
    rfl
  · obtain ⟨p, l, xs, i, rfl, ⟨⟨dx, hp⟩, hl⟩, kg, kb⟩ := h
    refine ⟨_, pss_one (ps_if (PW.pt (pw_or (pt_cmpR op_lt (pv 1) pe_int (nomark _)) (pw_or1 (pt_cmpR op_ge (pv 1) (pe_callB call_len_seq (by rfl) T.n_len PySem.boot_len (pa_cons (pe_fld (pv 0) rfl) pa_nil)) (nomark _))))) (pss_one (ps_raise rfl (takes_of rfl rfl rfl rfl) (pmk_oex T.ox_BadSchedule T.oi_BadSchedule T.ot_BadSchedule (ok_BadSchedule___init__ T) (hr.mono (by decide)) T.b_BadSchedule___init__ .nil pass0f rfl T.g_BadSchedule (pa_cons pe_int (pa_cons pe_str pa_nil))))) pss_nil), ?_⟩
    refine ⟨_, rfl, _, _, rfl, rfl, _, rfl, ?_⟩
    refine iteD (fun c => ?_) (fun c => ?_)
    · exact iteT ⟨by show 2 ≤ 1000; decide, bs_raise (E := E) (kb (.inl c))⟩
    · refine ⟨_, rfl, _, rfl, p, T.a_Net, dx, _, _, rfl, hp, T.cls_Net, T.na_Net__flight, lk0 _ _ _, l, _, rfl, .inl (SqL.of hl), _, _, rfl, rfl, _, rfl, ?_⟩
      refine iteD (fun c2 => ?_) (fun c2 => ?_)
      · exact ⟨by show 2 ≤ 1000; decide, bs_raise (E := E) (kb (.inr c2))⟩
      · exact kg (by omega) (by omega)
def Good (ds : List PyData) : Prop := noLs ds = true ∧ ∀ d ∈ ds, Sh 2 d
def spNtake (C B : Addr) : Sp := fun vs H Q E => ∃ (p l : Addr) (xs : List V) (i : Int), vs = [.ref p, .int i] ∧ NetAt C H p l xs ∧ xs.length ≤ 1000 ∧ (∀ (k : Nat) y, i = k → xs[k]? = some y → Q y (upd H l (.lst (xs.eraseIdx k)))) ∧
  ((i < 0 ∨ xs.length ≤ i) → ∀ d, H d = none → E (.ref B) (some d) (upd H d (.xd (bsF (.int 0) (.str "position")))))
theorem nat_of {i : Int} {xs : List V} (h0 : 0 ≤ i) (h1 : i < xs.length) : ∃ (k : Nat) (y : V), i = k ∧ k < xs.length ∧ xs[k]? = some y := by
  obtain ⟨k, rfl⟩ := Int.eq_ofNat_of_zero_le h0
  have hk : k < xs.length := by omega
  exact ⟨k, xs[k], rfl, hk, List.getElem?_eq_getElem hk⟩
theorem ix_nat {k n : Nat} (h : k < n) : seqIndex? (k : Int) n = some k := by
  unfold seqIndex?
  first | (simp; omega) | simp [h] | (split <;> simp_all <;> omega)
theorem ok_Net_take (T : Txt K mg) : FnOk P w K mg base (L2.CX P w) 5 T.a_Net_take T.fd_Net_take ["self", "position"] (spNtake T.a_Net T.a_BadSchedule) := by
  refine T.F_Net_take.ok sc_Net_take (fun vs H Q E h => ?_) (fun cdv A outer s H vs Q E hr h => ?_)
  · obtain ⟨p, l, xs, i, rfl, _⟩ := h
    rfl
  · obtain ⟨p, l, xs, i, rfl, N, hz, kg, kb⟩ := h
    obtain ⟨⟨dx, hp⟩, hl⟩ := id N
    refine ⟨_, pss_cons (ps_expr (pe_meth (pv 0) T.cls_Net T.m_Net_check (ok_Net_check T) (hr.mono (by decide)) T.b_Net_check .nil (passes_call (takes_of rfl rfl rfl rfl) (fun _ _ _ _ h => h)) (pa_cons (pv 1) pa_nil)))
      (pss_one (ps_ret (pe_bm PySem.F.plainAttrs_list PySem.F.slot_list_pop PySem.F.type_list_pop mt_popAt (pe_fld (pv 0) rfl) (pa_cons (pv 1) pa_nil)))), ?_⟩
    refine ⟨_, rfl, p, dx, _, rfl, hp, by walk_at "lk", _, rfl, p, l, xs, i, rfl, N, fun h0 h1 => ?_, kb⟩
    obtain ⟨k, y, rfl, hk, hy⟩ := nat_of h0 h1
    refine ⟨_, rfl, p, T.a_Net, dx, _, _, rfl, hp, T.cls_Net, T.na_Net__flight, lk0 _ _ _, Or.inl ⟨rfl, _, SqL.of hl⟩, _, rfl, ?_⟩
    exact ⟨l, xs, _, k, y, rfl, rfl, hl, by omega, by omega, ix_nat hk, hy, kg k y rfl hy⟩
def spNdouble (C B : Addr) : Sp := fun vs H Q E => ∃ (p l : Addr) (xs : List V) (i : Int), vs = [.ref p, .int i] ∧ NetAt C H p l xs ∧ xs.length ≤ 1000 ∧ (∀ (k : Nat) y, i = k → xs[k]? = some y → Q .non (upd H l (.lst (xs ++ [y])))) ∧
  ((i < 0 ∨ xs.length ≤ i) → ∀ d, H d = none → E (.ref B) (some d) (upd H d (.xd (bsF (.int 0) (.str "position")))))
theorem ok_Net_double (T : Txt K mg) : FnOk P w K mg base (L2.CX P w) 5 T.a_Net_double T.fd_Net_double ["self", "position"] (spNdouble T.a_Net T.a_BadSchedule) := by
  refine T.F_Net_double.ok sc_Net_double (fun vs H Q E h => ?_) (fun cdv A outer s H vs Q E hr h => ?_)
  · obtain ⟨p, l, xs, i, rfl, _⟩ := h
    rfl
  · obtain ⟨p, l, xs, i, rfl, N, hz, kg, kb⟩ := h
    obtain ⟨⟨dx, hp⟩, hl⟩ := id N
    refine ⟨_, pss_cons (ps_expr (pe_meth (pv 0) T.cls_Net T.m_Net_check (ok_Net_check T) (hr.mono (by decide)) T.b_Net_check .nil (passes_call (takes_of rfl rfl rfl rfl) (fun _ _ _ _ h => h)) (pa_cons (pv 1) pa_nil)))
      (pss_one (ps_expr (pe_bm PySem.F.plainAttrs_list PySem.F.slot_list_append PySem.F.type_list_append mt_append (pe_fld (pv 0) rfl) (pa_cons (pe_ix ix_list (pe_fld (pv 0) rfl) (pv 1) (fun _ _ => rfl)) pa_nil)))), ?_⟩
    refine ⟨_, rfl, p, dx, _, rfl, hp, by walk_at "lk", _, rfl, p, l, xs, i, rfl, N, fun h0 h1 => ?_, kb⟩
    obtain ⟨k, y, rfl, hk, hy⟩ := nat_of h0 h1
    refine ⟨_, rfl, p, T.a_Net, dx, _, _, rfl, hp, T.cls_Net, T.na_Net__flight, lk0 _ _ _, Or.inl ⟨rfl, _, SqL.of hl⟩, ?_⟩
    refine ⟨_, rfl, p, T.a_Net, dx, _, _, rfl, hp, T.cls_Net, T.na_Net__flight, lk0 _ _ _, _, rfl, l, xs, _, y, rfl, rfl, SqL.of hl, atI_nat hy, ?_⟩
    exact ⟨l, xs, y, rfl, rfl, hl, small1000 hz, kg k y rfl hy⟩
def spNmove (C B : Addr) : Sp := fun vs H Q E => ∃ (p l : Addr) (xs : List V) (i : Int), vs = [.ref p, .int i] ∧ NetAt C H p l xs ∧ xs.length ≤ 1000 ∧ (∀ (k : Nat) y, i = k → xs[k]? = some y → Q .non (upd H l (.lst (xs.eraseIdx k ++ [y])))) ∧
  ((i < 0 ∨ xs.length ≤ i) → ∀ d, H d = none → E (.ref B) (some d) (upd H d (.xd (bsF (.int 0) (.str "position")))))
theorem ok_Net_move (T : Txt K mg) : FnOk P w K mg base (L2.CX P w) 6 T.a_Net_move T.fd_Net_move ["self", "position"] (spNmove T.a_Net T.a_BadSchedule) := by
  refine T.F_Net_move.ok sc_Net_move (fun vs H Q E h => ?_) (fun cdv A outer s H vs Q E hr h => ?_)
  · obtain ⟨p, l, xs, i, rfl, _⟩ := h
    rfl
  · obtain ⟨p, l, xs, i, rfl, N, hz, kg, kb⟩ := h
    obtain ⟨⟨dx, hp⟩, hl⟩ := id N
    refine ⟨_, pss_one (ps_expr (pe_bm PySem.F.plainAttrs_list PySem.F.slot_list_append PySem.F.type_list_append mt_append (pe_fld (pv 0) rfl) (pa_cons (pe_meth (pv 0) T.cls_Net T.m_Net_take (ok_Net_take T) (hr.mono (by decide)) T.b_Net_take .nil (passes_call (takes_of rfl rfl rfl rfl) (fun _ _ _ _ h => h)) (pa_cons (pv 1) pa_nil)) pa_nil))), ?_⟩
    refine ⟨_, rfl, p, T.a_Net, dx, _, _, rfl, hp, T.cls_Net, T.na_Net__flight, lk0 _ _ _, Or.inl ⟨rfl, _, SqL.of hl⟩, ?_⟩
    refine ⟨_, rfl, p, dx, _, rfl, hp, by walk_at "lk", _, rfl, p, l, xs, i, rfl, N, hz, fun k y e hy => ?_, kb⟩
    have he : (xs.eraseIdx k).length ≤ 1000 := Nat.le_trans (List.length_eraseIdx_le _ _) hz
    refine ⟨l, xs.eraseIdx k, y, rfl, rfl, upd_same, small1000 he, ?_⟩
    rw [upd_upd]
    exact kg k y e hy
def spNpackets (C : Addr) : Sp := fun vs H Q _ => ∃ (p l : Addr) (xs : List V), vs = [.ref p] ∧ NetAt C H p l xs ∧ ∀ q, H q = none → Q (.ref q) (upd H q (.lst xs))
theorem ok_Net_packets (T : Txt K mg) : FnOk P w K mg base CX0 1 T.a_Net_packets T.fd_Net_packets ["self"] (spNpackets T.a_Net) := by
  refine T.F_Net_packets.ok sc_Net_packets (fun vs H Q E h => ?_) (fun cdv A outer s H vs Q E hr h => ?_)
  · obtain ⟨p, l, xs, rfl, _⟩ := h
    rfl
  · obtain ⟨p, l, xs, rfl, ⟨⟨dx, hp⟩, hl⟩, k⟩ := h
    refine ⟨_, PSs.nox (pss_one (ps_ret (pe_callTy call_list_of (by rfl) T.n_list (by decide +kernel) (pa_cons (pe_fld (pv 0) rfl) pa_nil)))), ?_⟩
    exact ⟨_, rfl, p, T.a_Net, dx, _, _, rfl, hp, T.cls_Net, T.na_Net__flight, lk0 _ _ _, l, xs, rfl, .inl (SqL.of hl), k⟩

/-! ### the law's draws -/
def spBag (K : PySem.W.Frag) : Sp := fun vs H Q _ => ∃ (a : Addr) (ns : List Int) (k : Int), vs = [.ref a, .int k] ∧ SqL K H a (ns.map V.int) ∧ 0 ≤ k ∧ ∀ (p : Addr) (x y : Int), H p = none → Q (.ref p) (upd H p (.lst [.int x, .int y, .int k]))
theorem ok__law_bag (T : Txt K mg) : FnOk P w K mg base CX0 1 T.a__law_bag T.fd__law_bag ["_law_script", "_law_k"] (spBag K) := by
  refine T.F__law_bag.ok sc__law_bag (fun vs H Q E h => ?_) (fun cdv A outer s H vs Q E hr h => ?_)
  · obtain ⟨a, ns, k, rfl, _⟩ := h
    rfl
  · obtain ⟨a, ns, k, rfl, hS, h0, kq⟩ := h
    refine ⟨_, PSs.nox (pss_cons (ps_set (i := 2) sc__law_bag.nd rfl (Or.inl rfl) pe_int)
      (pss_cons (ps_if (pt_cmpR op_lt (pv 1) (pe_callB call_len_seq (by rfl) T.n_len PySem.boot_len (pa_cons (pv 0) pa_nil)) (nomark _)) (pss_one (ps_set (i := 2) sc__law_bag.nd rfl (Or.inl rfl) (pe_callTy call_int1 (by rfl) T.n_int (by decide +kernel) (pa_cons (pe_ix ix_list (pv 0) (pv 1) (fun _ _ => rfl)) pa_nil)))) pss_nil)
      (pss_cons (ps_if (pt_cmpR op_ge (pv 2) (pe_op op_pow pe_int pe_int) (nomark _)) (pss_one (ps_ret (pe_lst (pa_cons (pv 2) (pa_cons (pv 2) (pa_cons (pv 1) pa_nil)))))) pss_nil)
      (pss_one (ps_ret (pe_lst (pa_cons pe_int (pa_cons (pv 2) (pa_cons (pv 1) pa_nil))))))))), ?_⟩
    have fin : ∀ (c : Int), (tSeq (tIfS (tTest (tOp (rI0 fun i j => .bl (decide (j ≤ i))) (tVar 2) (tOp (rI CPow fun i j => .int (i ^ j.toNat)) (tC (.int 10)) (tC (.int 18)))))
        (tRet (tLst (tCons (tVar 2) (tCons (tVar 2) (tCons (tVar 1) tNil))))) tNext) (tRet (tLst (tCons (tC (.int 0)) (tCons (tVar 2) (tCons (tVar 1) tNil)))))) { nx := fun _ H' => Q .non H', rt := Q } [some (.ref a), some (.int k), some (.int c)] H := by
      intro c
      refine ⟨_, rfl, _, _, rfl, rfl, ⟨by decide, by decide, by decide⟩, _, _, rfl, rfl, _, rfl, ?_⟩
      refine iteD (fun _ => ?_) (fun _ => ?_)
      · exact ⟨_, rfl, _, rfl, _, rfl, by show 3 ≤ sizeLine; decide, fun p hp => kq p _ _ hp⟩
      · exact ⟨_, rfl, _, rfl, by show 3 ≤ sizeLine; decide, fun p hp => kq p _ _ hp⟩
    refine ⟨_, rfl, _, rfl, a, _, rfl, .inl hS, _, _, rfl, rfl, _, rfl, ?_⟩
    refine iteD (fun c => ?_) (fun c => fin 0)
    rw [List.length_map] at c
    obtain ⟨j, rfl⟩ := Int.eq_ofNat_of_zero_le h0
    have hj : j < ns.length := by omega
    refine ⟨_, rfl, _, rfl, a, _, _, .int ns[j], rfl, rfl, hS, atI_nat (by rw [List.getElem?_map, List.getElem?_eq_getElem hj]; rfl), .inl ⟨_, rfl, ?_⟩⟩
    exact fin _
def spDraw : Sp := fun vs H Q _ => ∃ (p : Addr) (x y k m : Int), vs = [.ref p, .int m] ∧ H p = some (.lst [.int x, .int y, .int k]) ∧ 0 < m ∧ m.natAbs.log2 < 9000 ∧ ∀ (x' y' r : Int), 0 ≤ r → r < m → Q (.int r) (upd H p (.lst [.int x', .int y', .int k]))
theorem ok__law_draw (T : Txt K mg) : FnOk P w K mg base CX0 1 T.a__law_draw T.fd__law_draw ["_law_bag_here", "_law_many"] spDraw := by
  refine T.F__law_draw.ok sc__law_draw (fun vs H Q E h => ?_) (fun cdv A outer s H vs Q E hr h => ?_)
  · obtain ⟨p, x, y, k, m, rfl, _⟩ := h
    rfl
  · obtain ⟨p, x, y, k, m, rfl, hp, h0, h1, kq⟩ := h
    refine ⟨_, PSs.nox (pss_cons (ps_if (pt_cmpR op_eq (pe_ix ix_list (pv 0) pe_int (fun _ _ => rfl)) pe_int (nomark _)) (pss_cons (ps_set (i := 2) sc__law_draw.nd rfl (Or.inl rfl) (pe_op op_mod (pe_callTy call_int1 (by rfl) T.n_int (by decide +kernel) (pa_cons (pe_op op_add (pe_op op_add (pe_op op_mul (pe_ix ix_list (pv 0) pe_int (fun _ _ => rfl)) pe_int) (pe_op op_mul (pe_ix ix_list (pv 0) pe_int (fun _ _ => rfl)) pe_int)) pe_int) pa_nil)) pe_int))
      (pss_cons (ps_asg (pe_op op_add (pe_op op_mul (pv 2) pe_int) (pe_op op_mod (pe_callTy call_int1 (by rfl) T.n_int (by decide +kernel) (pa_cons (pe_op op_add (pe_op op_mul (pv 2) (pv 2)) (pe_op op_mul (pe_ix ix_list (pv 0) pe_int (fun _ _ => rfl)) pe_int)) pa_nil)) pe_int)) (pg_sub (pv 0) pe_int set_list))
      (pss_one (ps_asg (pv 2) (pg_sub (pv 0) pe_int set_list))))) pss_nil)
      (pss_cons (ps_set (i := 3) sc__law_draw.nd rfl (Or.inl rfl) (pe_ix ix_list (pv 0) pe_int (fun _ _ => rfl)))
      (pss_cons (ps_asg (pe_op op_fdivW (pv 3) (pv 1)) (pg_sub (pv 0) pe_int set_list))
      (pss_one (ps_ret (pe_op op_mod (pe_callTy call_int1 (by rfl) T.n_int (by decide +kernel) (pa_cons (pv 3) pa_nil)) (pv 1))))))), ?_⟩
    have i0 : ∀ (a b c : V), atI [a, b, c] 0 = some a := fun _ _ _ => rfl
    have i1 : ∀ (a b c : V), atI [a, b, c] 1 = some b := fun _ _ _ => rfl
    have i2 : ∀ (a b c : V), atI [a, b, c] 2 = some c := fun _ _ _ => rfl
    refine ⟨_, rfl, p, _, _, _, rfl, rfl, SqL.of hp, i0 _ _ _, rfl, _, rfl, ?_⟩
    refine iteD (fun c => ?_) (fun c => ?_)
    · have hs : (0 : Int) ≤ (y * 48271 + k * 69621 + 11) % 2147483647 := Int.emod_nonneg _ (by decide)
      have hs2 : (y * 48271 + k * 69621 + 11) % 2147483647 < 2147483647 := Int.emod_lt_of_pos _ (by decide)
      refine ⟨_, rfl, p, _, _, _, rfl, rfl, SqL.of hp, i1 _ _ _, _, _, rfl, rfl, .inr ⟨by decide, by decide⟩, _, rfl, p, _, _, _, rfl, rfl, SqL.of hp, i2 _ _ _, _, _, rfl, rfl, .inr ⟨by decide, by decide⟩, _, _, rfl, rfl, _, _, rfl, rfl, .inl ⟨_, rfl, _, _, rfl, rfl, by show (0 : Int) < 2147483647; decide, ?_⟩⟩
      refine ⟨_, rfl, _, _, rfl, rfl, .inl ⟨by omega, by omega⟩, _, rfl, _, rfl, _, _, rfl, rfl, .inl ⟨by omega, by omega⟩, _, rfl, p, _, _, _, rfl, rfl, SqL.of hp, i2 _ _ _, _, _, rfl, rfl, .inr ⟨by decide, by decide⟩, _, _, rfl, rfl, .inl ⟨_, rfl, _, _, rfl, rfl, by show (0 : Int) < 2147483629; decide, _, _, rfl, rfl, _, rfl, p, _, _, 0, rfl, rfl, hp, rfl, ?_⟩⟩
      refine ⟨_, rfl, _, rfl, p, _, _, 1, rfl, rfl, upd_same, rfl, ?_⟩
      rw [upd_upd]
      refine ⟨_, rfl, p, _, _, _, rfl, rfl, SqL.of upd_same, i0 _ _ _, ?_⟩
      refine ⟨_, rfl, _, rfl, _, _, rfl, rfl, ⟨h0, h1⟩, _, rfl, p, _, _, 0, rfl, rfl, upd_same, rfl, ?_⟩
      rw [upd_upd]
      refine ⟨_, rfl, .inl ⟨_, rfl, _, rfl, _, _, rfl, rfl, h0, ?_⟩⟩
      exact kq _ _ _ (Int.emod_nonneg _ (by omega)) (Int.emod_lt_of_pos _ h0)
    · refine ⟨_, rfl, p, _, _, _, rfl, rfl, SqL.of hp, i0 _ _ _, ?_⟩
      refine ⟨_, rfl, _, rfl, _, _, rfl, rfl, ⟨h0, h1⟩, _, rfl, p, _, _, 0, rfl, rfl, hp, rfl, ?_⟩
      refine ⟨_, rfl, .inl ⟨_, rfl, _, rfl, _, _, rfl, rfl, h0, ?_⟩⟩
      exact kq _ _ _ (Int.emod_nonneg _ (by omega)) (Int.emod_lt_of_pos _ h0)

/-! ### what a call does to a list of packets, as data -/
def refused : PyData := .tuple [.str "refused", .int 0, .str "position"]
def inR (at_ : Int) (n : Nat) : Prop := 0 ≤ at_ ∧ at_ < n
instance (a : Int) (n : Nat) : Decidable (inR a n) := by unfold inR; exact inferInstance
def resD (v : Str) (i : Int) (ds : List PyData) : PyData := if inR i ds.length then (if v = "take" then ds.getD i.toNat .none else .none) else refused
def newD (v : Str) (i : Int) (ds : List PyData) : List PyData := if inR i ds.length then (if v = "take" then ds.eraseIdx i.toNat else if v = "double" then ds ++ [ds.getD i.toNat .none] else ds.eraseIdx i.toNat ++ [ds.getD i.toNat .none]) else ds
/-- verb done on the list at l -/
def Done (K : PySem.W.Frag) (H : Hp) (l : Addr) (v : Str) (i : Int) (ds : List PyData) (y : V) (H' : Hp) : Prop :=
  Kp [l] H H' ∧ KTu K H H' ∧ (∃ xs, H' l = some (.lst xs) ∧ DpAll K H' xs (newD v i ds)) ∧ Dp K H' y (resD v i ds)
def Verb (v : Str) : Prop := v = "take" ∨ v = "double" ∨ v = "move"
theorem refused_dp {H : Hp} {t : Addr} (h : H t = some (.tup [.str "refused", .int 0, .str "position"])) : Dp K H (.ref t) refused := .tup (SqT.of h) (.cons (.str _) (.cons (.int _) (.cons (.str _) .nil)))
theorem done_bad {H H' : Hp} {l t : Addr} {v : Str} {i : Int} {ds : List PyData} {xs : List V} (hx : H l = some (.lst xs)) (hd : DpAll K H xs ds) (hn : noLs ds = true) (c : ¬ inR i ds.length) (k : Kp [] H H') (ht : H' t = some (.tup [.str "refused", .int 0, .str "position"])) :
    Done K H l v i ds (.ref t) H' := by
  have kt : KTu K H H' := KTu.kp k fun p hp => by cases hp
  refine ⟨k.mono (by simp), kt, ⟨xs, k _ _ hx (by simp), ?_⟩, ?_⟩
  · unfold newD
    rw [if_neg c]
    exact DpAll.kt kt _ _ hn hd
  · unfold resD
    rw [if_neg c]
    exact refused_dp ht
theorem getD_of {ds : List PyData} {k : Nat} {d : PyData} (h : ds[k]? = some d) : ds.getD k .none = d := by rw [List.getD_eq_getElem?_getD, h]; rfl
theorem done_good {H : Hp} {l : Addr} {v : Str} {k : Nat} {ds : List PyData} {xs zs : List V} {y : V} (hv : Verb v) (hx : H l = some (.lst xs)) (hd : DpAll K H xs ds) (hn : noLs ds = true) (hk : k < xs.length) (hy : xs[k]? = some y)
    (hz : zs = if v = "take" then xs.eraseIdx k else if v = "double" then xs ++ [y] else xs.eraseIdx k ++ [y]) : Done K H l v (k : Int) ds (if v = "take" then y else .non) (upd H l (.lst zs)) := by
  obtain ⟨d, hd1, hd2⟩ := hd.get hy
  have hl := hd.len
  have c : inR (k : Int) ds.length := ⟨by omega, by omega⟩
  have kt : KTu K H (upd H l (.lst zs)) := KTu.lst hx
  have nd : noL d = true := noLs_iff.mp hn d (List.mem_of_getElem? hd1)
  have e : ds.getD (k : Int).toNat .none = d := getD_of (by simpa using hd1)
  have hd3 := DpAll.kt kt _ _ hn hd
  have hd4 := Dp.kt kt _ _ nd hd2
  refine ⟨(Kp.refl [l] H).put (by simp), kt, ⟨zs, upd_same, ?_⟩, ?_⟩
  · have key : DpAll K (upd H l (.lst zs)) (if v = "take" then xs.eraseIdx k else if v = "double" then xs ++ [y] else xs.eraseIdx k ++ [y]) (newD v (k : Int) ds) := by
      unfold newD
      rw [if_pos c, e]
      have e2 : (k : Int).toNat = k := rfl
      rw [e2]
      by_cases c1 : v = "take"
      · rw [if_pos c1, if_pos c1]
        exact hd3.erase k
      · rw [if_neg c1, if_neg c1]
        by_cases c2 : v = "double"
        · rw [if_pos c2, if_pos c2]
          exact hd3.app (.cons hd4 .nil)
        · rw [if_neg c2, if_neg c2]
          exact (hd3.erase k).app (.cons hd4 .nil)
    rw [← hz] at key
    exact key
  · unfold resD
    rw [if_pos c, e]
    by_cases c1 : v = "take"
    · rw [if_pos c1, if_pos c1]
      exact hd4
    · rw [if_neg c1, if_neg c1]
      exact .non
theorem ne_td : ¬ (("take" : Str) = "double") := by decide +kernel
theorem ne_dt : ¬ (("double" : Str) = "take") := by decide +kernel
theorem ne_mt : ¬ (("move" : Str) = "take") := by decide +kernel
theorem ne_md : ¬ (("move" : Str) = "double") := by decide +kernel
theorem ne_dm : ¬ (("double" : Str) = "move") := by decide +kernel
theorem ne_tm : ¬ (("take" : Str) = "move") := by decide +kernel
/-! ### the law's own list -/
def spDue (K : PySem.W.Frag) : Sp := fun vs H Q _ => ∃ (l : Addr) (xs : List V) (ds : List PyData) (v : Str) (i : Int), vs = [.ref l, .str v, .int i] ∧ H l = some (.lst xs) ∧ DpAll K H xs ds ∧ noLs ds = true ∧ Verb v ∧ xs.length ≤ 1000 ∧ ∀ y H', Done K H l v i ds y H' → Q y H'
theorem ok__law_due (T : Txt K mg) : FnOk P w K mg base CX0 1 T.a__law_due T.fd__law_due ["_law_model", "_law_verb", "_law_at"] (spDue K) := by
  refine T.F__law_due.ok sc__law_due (fun vs H Q E h => ?_) (fun cdv A outer s H vs Q E hr h => ?_)
  · obtain ⟨l, xs, ds, v, i, rfl, _⟩ := h
    rfl
  · obtain ⟨l, xs, ds, v, i, rfl, hx, hd, hn, hv, hz, k⟩ := h
    have hl := hd.len
    refine ⟨_, PSs.nox (pss_cons (ps_if (PW.pt (pw_or (pt_cmpR op_lt (pv 2) pe_int (nomark _)) (pw_or1 (pt_cmpR op_ge (pv 2) (pe_callB call_len_seq (by rfl) T.n_len PySem.boot_len (pa_cons (pv 0) pa_nil)) (nomark _))))) (pss_one (ps_ret (pe_tup (pa_cons pe_str (pa_cons pe_int (pa_cons pe_str pa_nil)))))) pss_nil)
      (pss_cons (ps_if (pt_cmpR op_eq (pv 1) pe_str (nomark _)) (pss_cons (ps_expr (pe_bm PySem.F.plainAttrs_list PySem.F.slot_list_append PySem.F.type_list_append mt_append (pv 0) (pa_cons (pe_ix ix_list (pv 0) (pv 2) (fun _ _ => rfl)) pa_nil)))
      (pss_one (ps_ret pe_non))) pss_nil)
      (pss_cons (ps_set (i := 3) sc__law_due.nd rfl (Or.inl rfl) (pe_bm PySem.F.plainAttrs_list PySem.F.slot_list_pop PySem.F.type_list_pop mt_popAt (pv 0) (pa_cons (pv 2) pa_nil)))
      (pss_cons (ps_if (pt_cmpR op_eq (pv 1) pe_str (nomark _)) (pss_cons (ps_expr (pe_bm PySem.F.plainAttrs_list PySem.F.slot_list_append PySem.F.type_list_append mt_append (pv 0) (pa_cons (pv 3) pa_nil)))
      (pss_one (ps_ret pe_non))) pss_nil)
      (pss_one (ps_ret (pv 3))))))), ?_⟩
    have bad : ¬ inR i ds.length → ∀ p, H p = none → Q (.ref p) (upd H p (.tup [.str "refused", .int 0, .str "position"])) := fun c p hp => k _ _ (done_bad hx hd hn c ((Kp.refl [] H).new hp) upd_same)
    refine ⟨_, rfl, _, _, rfl, rfl, _, rfl, ?_⟩
    refine iteD (fun c => ?_) (fun c => ?_)
    · exact iteT ⟨by show 3 ≤ sizeLine; decide, bad fun z => by have := z.1; omega⟩
    refine ⟨_, rfl, _, rfl, l, _, rfl, .inl (SqL.of hx), _, _, rfl, rfl, _, rfl, ?_⟩
    refine iteD (fun c2 => ?_) (fun c2 => ?_)
    · exact ⟨by show 3 ≤ sizeLine; decide, bad fun z => by have := z.2; omega⟩
    obtain ⟨j, y, rfl, hj, hy⟩ := nat_of (xs := xs) (i := i) (by omega) (by omega)
    have good := fun zs hz => k _ _ (done_good (zs := zs) hv hx hd hn hj hy hz)
    refine ⟨_, rfl, rfl, _, rfl, ?_⟩
    refine iteD (fun c3 => ?_) (fun c3 => ?_)
    · cases vstr c3
      refine ⟨_, rfl, Or.inl ⟨rfl, _, SqL.of hx⟩, _, rfl, _, rfl, l, xs, _, y, rfl, rfl, SqL.of hx, atI_nat hy, l, xs, y, rfl, rfl, hx, small1000 hz, ?_⟩
      have q := good (xs ++ [y]) (by rw [if_neg ne_dt, if_pos rfl])
      rw [if_neg ne_dt] at q
      exact q
    · refine ⟨_, rfl, Or.inl ⟨rfl, _, SqL.of hx⟩, _, rfl, l, xs, _, j, y, rfl, rfl, hx, by omega, by omega, ix_nat hj, hy, ?_⟩
      refine ⟨_, rfl, rfl, _, rfl, ?_⟩
      refine iteD (fun c4 => ?_) (fun c4 => ?_)
      · cases vstr c4
        have he : (xs.eraseIdx j).length ≤ 1000 := Nat.le_trans (List.length_eraseIdx_le _ _) hz
        refine ⟨_, rfl, Or.inl ⟨rfl, _, SqL.of upd_same⟩, _, rfl, l, xs.eraseIdx j, y, rfl, rfl, upd_same, small1000 he, ?_⟩
        rw [upd_upd]
        have q := good (xs.eraseIdx j ++ [y]) (by rw [if_neg ne_mt, if_neg ne_md])
        rw [if_neg ne_mt] at q
        exact q
      · have ev : v = "take" := by
          rcases hv with e | e | e
          · exact e
          · exact absurd (by rw [e]) c3
          · exact absurd (by rw [e]) c4
        subst ev
        have q := good (xs.eraseIdx j) (by rw [if_pos rfl])
        rw [if_pos rfl] at q
        exact ⟨_, rfl, q⟩
/-! ### the program's call -/
def spCall (K : PySem.W.Frag) (C : Addr) : Sp := fun vs H Q _ => ∃ (p l : Addr) (xs : List V) (ds : List PyData) (v : Str) (i : Int), vs = [.ref p, .str v, .int i] ∧ NetAt C H p l xs ∧ DpAll K H xs ds ∧ noLs ds = true ∧ Verb v ∧ xs.length ≤ 1000 ∧ ∀ y H', Done K H l v i ds y H' → Q y H'
theorem ok__law_call (T : Txt K mg) : FnOk P w K mg base CX0 8 T.a__law_call T.fd__law_call ["_law_net", "_law_verb", "_law_at"] (spCall K T.a_Net) := by
  refine T.F__law_call.ok sc__law_call (fun vs H Q E h => ?_) (fun cdv A outer s H vs Q E hr h => ?_)
  · obtain ⟨p, l, xs, ds, v, i, rfl, _⟩ := h
    rfl
  · obtain ⟨p, l, xs, ds, v, i, rfl, N, hd, hn, hv, hz, k⟩ := h
    obtain ⟨⟨dx, hp⟩, hx⟩ := id N
    have hl := hd.len
    refine ⟨_, PSs.nox (pss_one (ps_try_as (i := 3) rfl rfl sc__law_call.nd rfl rfl ⟨rfl, by decide, .inl T.g_BadSchedule⟩ takes0 (fun W pn xe tk pown => by exact (pss_cons (ps_if (pt_cmpR op_eq (pv 1) pe_str (nomark _)) (pss_one (ps_ret (pe_methE (ok_Net_take T) T.cls_Net T.m_Net_take (hr.mono (by decide)) T.b_Net_take (fun s => passAt tk s) (pv 0) (pa_cons (pv 2) pa_nil)))) pss_nil)
      (pss_cons (ps_if (pt_cmpR op_eq (pv 1) pe_str (nomark _)) (pss_one (ps_ret (pe_methE (ok_Net_double T) T.cls_Net T.m_Net_double (hr.mono (by decide)) T.b_Net_double (fun s => passAt tk s) (pv 0) (pa_cons (pv 2) pa_nil)))) pss_nil)
      (pss_one (ps_ret (pe_methE (ok_Net_move T) T.cls_Net T.m_Net_move (hr.mono (by decide)) T.b_Net_move (fun s => passAt tk s) (pv 0) (pa_cons (pv 2) pa_nil))))))) (fun a oe cls d pn hz hf => by exact (pss_one (ps_ret (pe_tup (pa_cons pe_str (pa_cons (pe_xf T.xf_BadSchedule T.na_BadSchedule_line hz hf (pv 3)) (pa_cons (pe_xf T.xf_BadSchedule T.na_BadSchedule_reason hz hf (pv 3)) pa_nil))))))))), ?_⟩
    have good : ∀ (j : Nat) (y : V) (zs : List V), i = j → xs[j]? = some y → (zs = if v = "take" then xs.eraseIdx j else if v = "double" then xs ++ [y] else xs.eraseIdx j ++ [y]) → Q (if v = "take" then y else .non) (upd H l (.lst zs)) := by
      intro j y zs e hy hz
      subst e
      exact k _ _ (done_good (zs := zs) hv hx hd hn (List.getElem?_eq_some_iff.mp hy).1 hy hz)
    have fin : ¬ inR i ds.length → ∀ (d t : Addr), H d = none → (upd H d (.xd (bsF (.int 0) (.str "position")))) t = none → Q (.ref t) (upd (upd H d (.xd (bsF (.int 0) (.str "position")))) t (.tup [.str "refused", .int 0, .str "position"])) := fun c d t hd' ht =>
      k _ _ (done_bad hx hd hn c (((Kp.refl [] H).new hd').new ht) upd_same)
    have nr : (i < 0 ∨ xs.length ≤ i) → ¬ inR i ds.length := fun c z => by have := z.1; have := z.2; omega
    have n1 : (("line" : Str) == "reason") = false := by decide +kernel
    refine ⟨_, rfl, rfl, _, rfl, ?_⟩
    refine iteD (fun c => ?_) (fun c => ?_)
    · cases vstr c
      refine ⟨_, rfl, p, dx, _, rfl, hp, by walk_at "lk", _, rfl, p, l, xs, i, rfl, N, hz, fun j y e hy => ?_, fun c d hd' => ?_⟩
      · have q := good j y _ e hy rfl
        rw [if_pos rfl, if_pos rfl] at q
        exact q
      · refine ⟨true, T.e_BadSchedule_BadSchedule, fun _ a0 _ => ?_, fun q => Bool.noConfusion q⟩
        exact ⟨_, rfl, rfl, rfl, d, _, _, rfl, upd_same, lk1 n1 (lk0 _ _ _), _, rfl, rfl, rfl, d, _, _, rfl, upd_same, lk0 _ _ _, by show 3 ≤ sizeLine; decide, fun t ht => fin (nr c) d t hd' ht⟩
    refine ⟨_, rfl, rfl, _, rfl, ?_⟩
    refine iteD (fun c2 => ?_) (fun c2 => ?_)
    · cases vstr c2
      refine ⟨_, rfl, p, dx, _, rfl, hp, by walk_at "lk", _, rfl, p, l, xs, i, rfl, N, hz, fun j y e hy => ?_, fun c d hd' => ?_⟩
      · have q := good j y _ e hy rfl
        rw [if_neg ne_dt, if_neg ne_dt, if_pos rfl] at q
        exact q
      · refine ⟨true, T.e_BadSchedule_BadSchedule, fun _ a0 _ => ?_, fun q => Bool.noConfusion q⟩
        exact ⟨_, rfl, rfl, rfl, d, _, _, rfl, upd_same, lk1 n1 (lk0 _ _ _), _, rfl, rfl, rfl, d, _, _, rfl, upd_same, lk0 _ _ _, by show 3 ≤ sizeLine; decide, fun t ht => fin (nr c) d t hd' ht⟩
    have ev : v = "move" := by
      rcases hv with e | e | e
      · exact absurd (by rw [e]) c
      · exact absurd (by rw [e]) c2
      · exact e
    subst ev
    refine ⟨_, rfl, p, dx, _, rfl, hp, by walk_at "lk", _, rfl, p, l, xs, i, rfl, N, hz, fun j y e hy => ?_, fun c d hd' => ?_⟩
    · have q := good j y _ e hy rfl
      rw [if_neg ne_mt, if_neg ne_mt, if_neg ne_md] at q
      exact q
    · refine ⟨true, T.e_BadSchedule_BadSchedule, fun _ a0 _ => ?_, fun q => Bool.noConfusion q⟩
      exact ⟨_, rfl, rfl, rfl, d, _, _, rfl, upd_same, lk1 n1 (lk0 _ _ _), _, rfl, rfl, rfl, d, _, _, rfl, upd_same, lk0 _ _ _, by show 3 ≤ sizeLine; decide, fun t ht => fin (nr c) d t hd' ht⟩
/-! ### a position -/
def spPos : Sp := fun vs H Q _ => ∃ (p : Addr) (x y k n : Int), vs = [.ref p, .int n] ∧ H p = some (.lst [.int x, .int y, .int k]) ∧ 0 ≤ n ∧ n ≤ 1000 ∧ ∀ (i : Int) (H' : Hp), Kp [p] H H' → (∃ x' y', H' p = some (.lst [.int x', .int y', .int k])) → Q (.int i) H'
theorem log_small {n : Int} (h0 : 0 ≤ n) (h1 : n ≤ 100000) : n.natAbs.log2 < 9000 := by
  have h : n.natAbs ≤ 100000 := by omega
  have h2 : n.natAbs.log2 ≤ n.natAbs := Nat.log2_le_self _
  by_cases z : n.natAbs = 0
  · rw [z]; decide
  · exact Nat.lt_of_lt_of_le ((Nat.log2_lt z).mpr (Nat.lt_of_le_of_lt h (by decide : 100000 < 2 ^ 17))) (by decide)
theorem ok__law_position (T : Txt K mg) : FnOk P w K mg base CX0 2 T.a__law_position T.fd__law_position ["_law_bag_here", "_law_size"] spPos := by
  refine T.F__law_position.ok sc__law_position (fun vs H Q E h => ?_) (fun cdv A outer s H vs Q E hr h => ?_)
  · obtain ⟨p, x, y, k, n, rfl, _⟩ := h
    rfl
  · obtain ⟨p, x, y, k, n, rfl, hp, h0, h1, kq⟩ := h
    refine ⟨_, PSs.nox (pss_cons (ps_set (i := 2) sc__law_position.nd rfl (Or.inl rfl) (pe_call (ok__law_draw T) (hr.mono (by decide)) rfl T.g__law_draw T.F__law_draw.kp T.b__law_draw .nil pass0 (pa_cons (pv 0) (pa_cons pe_int pa_nil))))
      (pss_cons (ps_if (pt_cmpR op_eq (pv 2) pe_int (nomark _)) (pss_one (ps_ret (pe_ix ix_list (pe_lst (pa_cons (pe_un un_neg pe_int) (pa_cons (pv 1) (pa_cons (pe_op op_add (pv 1) pe_int) (pa_cons (pe_op op_pow pe_int pe_int) (pa_cons (pe_op op_sub (pe_un un_neg pe_int) (pv 1)) (pa_cons (pe_un un_neg pe_int) pa_nil))))))) (pe_call (ok__law_draw T) (hr.mono (by decide)) rfl T.g__law_draw T.F__law_draw.kp T.b__law_draw .nil pass0 (pa_cons (pv 0) (pa_cons pe_int pa_nil))) (fun _ _ => rfl)))) pss_nil)
      (pss_one (ps_ret (pe_call (ok__law_draw T) (hr.mono (by decide)) rfl T.g__law_draw T.F__law_draw.kp T.b__law_draw .nil pass0 (pa_cons (pv 0) (pa_cons (pe_op op_add (pv 1) pe_int) pa_nil))))))), ?_⟩
    refine ⟨_, rfl, p, x, y, k, 8, rfl, hp, by decide, by decide, fun x1 y1 r r0 r1 => ?_⟩
    refine ⟨_, rfl, rfl, _, rfl, ?_⟩
    refine iteD (fun c => ?_) (fun c => ?_)
    · refine ⟨1, rfl, _, rfl, _, rfl, _, _, rfl, rfl, _, _, rfl, rfl, ⟨by decide, by decide, by decide⟩, 1, rfl, _, rfl, _, _, rfl, rfl, 2, rfl, by show 6 ≤ sizeLine; decide, fun t ht => ?_⟩
      have htp : p ≠ t := fun z => by rw [← z, upd_same] at ht; cases ht
      refine ⟨_, rfl, p, x1, y1, k, 6, rfl, by rw [upd_ne htp]; exact upd_same, by decide, by decide, fun x2 y2 r2 r20 r21 => ?_⟩
      have hv : ∃ z, atI ([V.int (-1), V.int n, V.int (n + 1), V.int (10 ^ (12 : Int).toNat), V.int (-1 - n), V.int (-2)] : List V) r2 = some (.int z) := by
        obtain ⟨j, rfl⟩ := Int.eq_ofNat_of_zero_le r20
        match j, r21 with
        | 0, _ => exact ⟨_, rfl⟩
        | 1, _ => exact ⟨_, rfl⟩
        | 2, _ => exact ⟨_, rfl⟩
        | 3, _ => exact ⟨_, rfl⟩
        | 4, _ => exact ⟨_, rfl⟩
        | 5, _ => exact ⟨_, rfl⟩
        | j + 6, h => exact absurd h (by omega)
      obtain ⟨z, hz⟩ := hv
      refine ⟨t, _, r2, .int z, rfl, rfl, SqL.of (by rw [upd_ne htp.symm]; exact upd_same), hz, kq z _ ?_ ⟨x2, y2, upd_same⟩⟩
      exact ((((Kp.refl [p] H).put (by simp)).new ht).put (by simp))
    · refine ⟨_, rfl, _, rfl, _, _, rfl, rfl, p, x1, y1, k, n + 1, rfl, upd_same, by omega, log_small (by omega) (by omega), fun x2 y2 r2 _ _ => kq _ _ (((Kp.refl [p] H).put (by simp)).put (by simp)) ⟨x2, y2, upd_same⟩⟩
/-! ### the check of a network -/
def isT : PyData → Bool
  | .tuple _ => true
  | _ => false
def GoodD (ds : List PyData) : Prop := noLs ds = true ∧ (∀ d ∈ ds, Sh 2 d) ∧ ∀ d ∈ ds, isT d = true
def spRight (K : PySem.W.Frag) (C : Addr) : Sp := fun vs H Q _ => ∃ (n l m : Addr) (xs ys : List V) (ds : List PyData), vs = [.ref n, .ref m] ∧ NetAt C H n l xs ∧ H m = some (.lst ys) ∧ DpAll K H xs ds ∧ DpAll K H ys ds ∧ GoodD ds ∧ xs.length ≤ 1000 ∧ ∀ H', Kp [] H H' → Q (.bl true) H'
theorem ok__law_right (T : Txt K mg) : FnOk P w K mg base CX0 2 T.a__law_right T.fd__law_right ["_law_net", "_law_model"] (spRight K T.a_Net) := by
  refine T.F__law_right.ok sc__law_right (fun vs H Q E h => ?_) (fun cdv A outer s H vs Q E hr h => ?_)
  · obtain ⟨n, l, m, xs, ys, ds, rfl, _⟩ := h
    rfl
  · obtain ⟨n, l, m, xs, ys, ds, rfl, N, hm, hx, hy, ⟨g1, g2, _⟩, hz, k⟩ := h
    obtain ⟨⟨dx, hn⟩, hl⟩ := id N
    refine ⟨_, PSs.nox (pss_cons (ps_set (i := 2) sc__law_right.nd rfl (Or.inl rfl) (pe_meth0 (pv 0) T.cls_Net T.m_Net_packets (ok_Net_packets T) (hr.mono (by decide)) T.b_Net_packets .nil pass0))
      (pss_cons (ps_if (PW.pt (pw_or (pt_not (pt_val (pe_callB call_isi (by rfl) T.n_isinstance (by decide +kernel) (pa_cons (pv 2) (pa_cons (pe_bltn (v := .ty "list") (u := .type "list") rfl T.n_list (by decide +kernel) rfl) pa_nil))))) (pw_or1 (pt_cmpR (op_neD hr.units) (pv 2) (pv 1) (nomark _))))) (pss_one (ps_ret pe_bl)) pss_nil)
      (pss_cons (ps_expr (pe_bm PySem.F.plainAttrs_list PySem.F.slot_list_append PySem.F.type_list_append mt_append (pv 2) (pa_cons pe_int pa_nil)))
      (pss_cons (ps_expr (pe_bm0 PySem.F.plainAttrs_list PySem.F.slot_list_reverse PySem.F.type_list_reverse mt_reverse (pv 2)))
      (pss_one (ps_ret (pe_cmpR (op_eqD hr.units) (pe_meth0 (pv 0) T.cls_Net T.m_Net_packets (ok_Net_packets T) (hr.mono (by decide)) T.b_Net_packets .nil pass0) (pv 1) (nomark _)))))))), ?_⟩
    have sh := (sh_list g2).shaped
    have e : PyData.eqv (.list ds) (.list ds) = true := (sh_list g2).refl
    refine ⟨_, rfl, n, dx, _, rfl, hn, by walk_at "lk", n, l, xs, rfl, N, fun q hq => ?_⟩
    have k1 : Kp [] H (upd H q (.lst xs)) := (Kp.refl [] H).new hq
    have t1 : KTu K H (upd H q (.lst xs)) := KTu.new hq
    refine ⟨_, rfl, _, _, _, _, true, rfl, .ty _, ty_lst (SqL.of upd_same), kit_ty (by decide +kernel), true, rfl, ?_⟩
    refine iteF ⟨_, rfl, _, rfl, .list ds, .list ds, .lst (SqL.of upd_same) (DpAll.kt t1 _ _ g1 hx), .lst (SqL.of (k1 _ _ hm (by simp))) (DpAll.kt t1 _ _ g1 hy), sh, sh, _, rfl, ?_⟩
    rw [e]
    refine iteF ?_
    refine ⟨_, rfl, Or.inl ⟨rfl, _, SqL.of upd_same⟩, q, xs, _, rfl, rfl, upd_same, small1000 hz, ?_⟩
    rw [upd_upd]
    refine ⟨_, rfl, Or.inl ⟨rfl, _, SqL.of upd_same⟩, q, _, rfl, rfl, upd_same, ?_⟩
    rw [upd_upd]
    have k2 : ∀ o, Kp [] H (upd H q o) := fun o => (Kp.refl [] H).new hq
    have t2 : ∀ o, KTu K H (upd H q o) := fun o => KTu.new hq
    refine ⟨_, rfl, n, dx, _, rfl, k2 _ _ _ hn (by simp), by walk_at "lk", n, l, xs, rfl, ⟨⟨dx, k2 _ _ _ hn (by simp)⟩, k2 _ _ _ hl (by simp)⟩, fun r hr2 => ?_⟩
    refine ⟨_, rfl, .list ds, .list ds, .lst (SqL.of upd_same) (DpAll.kt (t2 _ |>.trans (KTu.new hr2)) _ _ g1 hx), .lst (SqL.of ((k2 _).new hr2 _ _ hm (by simp))) (DpAll.kt (t2 _ |>.trans (KTu.new hr2)) _ _ g1 hy), sh, sh, ?_⟩
    rw [e]
    exact k _ ((k2 _).new hr2)
/-! ### the law: two networks -/
structure One (K : PySem.W.Frag) (C : Addr) (H : Hp) (n l m : Addr) (ds : List PyData) (i : Nat) : Prop where
  net : ∃ xs, NetAt C H n l xs ∧ DpAll K H xs ds
  mod : ∃ ys, H m = some (.lst ys) ∧ DpAll K H ys ds
  good : GoodD ds
  len : ds.length ≤ i
  ne : l ≠ m
theorem One.keep {C : Addr} {H H' : Hp} {n l m : Addr} {ds : List PyData} {W : List Addr} {i j : Nat} (o : One K C H n l m ds i) (hij : i ≤ j) (k : Kp W H H') (kt : KTu K H H') (h1 : n ∉ W) (h2 : l ∉ W) (h3 : m ∉ W) : One K C H' n l m ds j := by
  obtain ⟨⟨xs, ⟨⟨dx, e1⟩, e2⟩, e3⟩, ⟨ys, e4, e5⟩, g, hl, ne⟩ := o
  exact ⟨⟨xs, ⟨⟨dx, k _ _ e1 h1⟩, k _ _ e2 h2⟩, DpAll.kt kt _ _ g.1 e3⟩, ⟨ys, k _ _ e4 h3, DpAll.kt kt _ _ g.1 e5⟩, g, Nat.le_trans hl hij, ne⟩
/-- between two turns -/
structure Inv2 (K : PySem.W.Frag) (C aN aM : Addr) (n l m : Bool → Addr) (H0 : Hp) (i : Nat) (H : Hp) : Prop where
  kept : Kp [] H0 H
  nets : H aN = some (.lst [.ref (n false), .ref (n true)])
  mods : H aM = some (.lst [.ref (m false), .ref (m true)])
  one : ∀ b, ∃ ds, One K C H (n b) (l b) (m b) ds i
/-- the lists stand apart, and are new -/
structure Apart (H0 : Hp) (aN aM : Addr) (l m : Bool → Addr) : Prop where
  new : ∀ b, H0 (l b) = none ∧ H0 (m b) = none
  out : ∀ b, l b ≠ aN ∧ l b ≠ aM ∧ m b ≠ aN ∧ m b ≠ aM
  two : ∀ b, l b ≠ l (!b) ∧ m b ≠ m (!b) ∧ l b ≠ m (!b)
  own : ∀ b, l b ≠ m b
/-- a network's list and its model's are changed -/
theorem Inv2.turn {C aN aM : Addr} {n l m : Bool → Addr} {H0 H H' : Hp} {i : Nat} {b : Bool} {ds : List PyData} (J : Inv2 K C aN aM n l m H0 i H) (A : Apart H0 aN aM l m) (k : Kp [l b, m b] H H') (kt : KTu K H H') (o : One K C H' (n b) (l b) (m b) ds (i + 1)) :
    Inv2 K C aN aM n l m H0 (i + 1) H' := by
  obtain ⟨x, j1, j2, j3⟩ := J
  obtain ⟨⟨ws, ⟨⟨dx, w1⟩, w2⟩, w3⟩, ⟨vs, w4, w5⟩, wg, wl, wn⟩ := o
  obtain ⟨o1, o2, o3, o4⟩ := A.out b
  refine ⟨x.thru k fun p hp => ?_, k _ _ j1 ?_, k _ _ j2 ?_, fun c => ?_⟩
  · rcases List.mem_cons.mp hp with e | hp
    · rw [e]; exact (A.new b).1
    · rw [List.mem_singleton.mp hp]; exact (A.new b).2
  · simp only [List.mem_cons, List.mem_nil_iff, or_false, not_or]
    exact ⟨Ne.symm o1, Ne.symm o3⟩
  · simp only [List.mem_cons, List.mem_nil_iff, or_false, not_or]
    exact ⟨Ne.symm o2, Ne.symm o4⟩
  · by_cases e : c = b
    · subst e
      exact ⟨ds, ⟨ws, ⟨⟨dx, w1⟩, w2⟩, w3⟩, ⟨vs, w4, w5⟩, wg, wl, wn⟩
    · have ec : c = !b := by cases c <;> cases b <;> simp_all
      subst ec
      obtain ⟨es, q⟩ := j3 (!b)
      obtain ⟨t1, t2, t3⟩ := A.two b
      obtain ⟨u1, u2, u3⟩ := A.two (!b)
      rw [Bool.not_not] at u1 u2 u3
      obtain ⟨⟨xs, ⟨⟨dx2, e1⟩, e2⟩, e3⟩, ⟨ys, e4, e5⟩, g, hl, ne⟩ := q
      obtain ⟨p1, ⟨⟨_, _⟩, p2⟩, _⟩ := (j3 b).choose_spec.net
      obtain ⟨p3, p4, _⟩ := (j3 b).choose_spec.mod
      refine ⟨es, One.keep (W := [l b, m b]) ⟨⟨xs, ⟨⟨dx2, e1⟩, e2⟩, e3⟩, ⟨ys, e4, e5⟩, g, hl, ne⟩ (Nat.le_succ _) k kt ?_ ?_ ?_⟩
      · simp only [List.mem_cons, List.mem_nil_iff, or_false, not_or]
        exact ⟨ne_of e1 p2 (by intro z; cases z), ne_of e1 p4 (by intro z; cases z)⟩
      · simp only [List.mem_cons, List.mem_nil_iff, or_false, not_or]
        exact ⟨Ne.symm t1, u3⟩
      · simp only [List.mem_cons, List.mem_nil_iff, or_false, not_or]
        exact ⟨Ne.symm t3, Ne.symm t2⟩
theorem Inv2.keep {C aN aM : Addr} {n l m : Bool → Addr} {H0 H H' : Hp} {i : Nat} (J : Inv2 K C aN aM n l m H0 i H) (k : Kp [] H H') : Inv2 K C aN aM n l m H0 i H' :=
  ⟨J.kept.trans k, k.at J.nets, k.at J.mods, fun b => let ⟨ds, o⟩ := J.one b; ⟨ds, o.keep (Nat.le_refl _) k k.kt (by simp) (by simp) (by simp)⟩⟩
theorem net_new {C : Addr} {H : Hp} {x d l : Addr} (nx : H x = none) (nd : H d = none) (hl : (upd (upd H d (.own x)) x (.ins C d [])) l = none) :
    Kp [] H (upd (upd (upd (upd H d (.own x)) x (.ins C d [])) l (.lst [])) x (.ins C d [("_flight", .ref l)])) ∧ NetAt C (upd (upd (upd (upd H d (.own x)) x (.ins C d [])) l (.lst [])) x (.ins C d [("_flight", .ref l)])) x l [] ∧ H l = none ∧ l ≠ x := by
  have h1 : Kp [] H (upd (upd H d (.own x)) x (.ins C d [])) := ((Kp.refl [] H).own nd).own nx
  have hl0 := h1.free hl
  have hx : l ≠ x := fun z => by rw [z, upd_same] at hl; cases hl
  exact ⟨(h1.own hl0).own nx, ⟨⟨d, upd_same⟩, by rw [upd_ne hx, upd_same]⟩, hl0, hx⟩
def spLaw (K : PySem.W.Frag) : Sp := fun vs H Q _ => ∃ (a : Addr) (ns : List Int), vs = [.ref a] ∧ SqL K H a (ns.map V.int) ∧ ns.length ≤ 63 ∧ ∀ H', Q (.bl true) H'
theorem sp_in (H : Hp) (a : Addr) (ns : List Int) (hl : ns.length ≤ 63) (hS : SqL K H a (ns.map V.int)) : spLaw K [.ref a] H (fun v _ => v = .bl true) fun _ _ _ => False := ⟨a, ns, rfl, hS, hl, fun _ => rfl⟩
theorem ok_law (T : Txt K mg) : FnOk P w K mg base CX0 12 T.a_law T.fd_law ["_law_script"] (spLaw K) := by
  refine T.F_law.ok sc_law (fun vs H Q E h => ?_) (fun cdv A outer s H vs Q E hr h => ?_)
  · obtain ⟨a, ns, rfl, _⟩ := h
    rfl
  · obtain ⟨a, ns, rfl, hS, hlen, k⟩ := h
    refine ⟨_, PSs.nox (pss_cons (ps_set (i := 1) sc_law.nd rfl (Or.inl rfl) (pe_lst (pa_cons (pe_make0 T.mk_Net (ok_Net___init__ T) (hr.mono (by decide)) rfl T.g_Net T.b_Net___init__ .nil pass0) (pa_cons (pe_make0 T.mk_Net (ok_Net___init__ T) (hr.mono (by decide)) rfl T.g_Net T.b_Net___init__ .nil pass0) pa_nil))))
      (pss_cons (ps_set (i := 2) sc_law.nd rfl (Or.inl rfl) (pe_lst (pa_cons (pe_lst pa_nil) (pa_cons (pe_lst pa_nil) pa_nil))))
      (pss_cons (ps_for PassesOwn.never rfl (pi_range1 rfl T.n_range (pa_cons (pe_callB call_len_seq (by rfl) T.n_len PySem.boot_len (pa_cons (pv 0) pa_nil)) pa_nil)) (pg_name (i := 3) sc_law.nd rfl (Or.inl rfl))
        (pss_cons (ps_set (i := 4) sc_law.nd rfl (Or.inl rfl) (pe_call (ok__law_bag T) (hr.mono (by decide)) rfl T.g__law_bag T.F__law_bag.kp T.b__law_bag .nil pass0 (pa_cons (pv 0) (pa_cons (pv 3) pa_nil))))
      (pss_cons (ps_set (i := 5) sc_law.nd rfl (Or.inl rfl) (pe_op op_mod (pe_call (ok__law_draw T) (hr.mono (by decide)) rfl T.g__law_draw T.F__law_draw.kp T.b__law_draw .nil pass0 (pa_cons (pv 4) (pa_cons pe_int pa_nil))) pe_int))
      (pss_cons (ps_set (i := 6) sc_law.nd rfl (Or.inl rfl) (pe_ix ix_list (pv 1) (pv 5) (fun _ _ => rfl)))
      (pss_cons (ps_set (i := 7) sc_law.nd rfl (Or.inl rfl) (pe_ix ix_list (pv 2) (pv 5) (fun _ _ => rfl)))
      (pss_cons (ps_set (i := 8) sc_law.nd rfl (Or.inl rfl) (pe_ix ix_list (pe_lst (pa_cons pe_str (pa_cons pe_str (pa_cons pe_str (pa_cons pe_str (pa_cons pe_str (pa_cons pe_str (pa_cons pe_str pa_nil)))))))) (pe_call (ok__law_draw T) (hr.mono (by decide)) rfl T.g__law_draw T.F__law_draw.kp T.b__law_draw .nil pass0 (pa_cons (pv 4) (pa_cons pe_int pa_nil))) (fun _ _ => rfl)))
      (Evl.pss_cut (ps_if (pt_cmpR op_eq (pv 8) pe_str (nomark _)) (pss_cons (ps_set (i := 9) sc_law.nd rfl (Or.inl rfl) (pe_call (ok__law_draw T) (hr.mono (by decide)) rfl T.g__law_draw T.F__law_draw.kp T.b__law_draw .nil pass0 (pa_cons (pv 4) (pa_cons pe_int pa_nil))))
      (pss_cons (ps_set (i := 10) sc_law.nd rfl (Or.inl rfl) (pe_tup (pa_cons (pv 9) (pa_cons (pe_op op_sub (pe_call (ok__law_draw T) (hr.mono (by decide)) rfl T.g__law_draw T.F__law_draw.kp T.b__law_draw .nil pass0 (pa_cons (pv 4) (pa_cons pe_int pa_nil))) pe_int) (pa_cons (pe_tup (pa_cons pe_str (pa_cons (pv 9) (pa_cons (pe_op op_add (pv 3) pe_int) pa_nil)))) pa_nil)))))
      (Evl.pss_cut (ps_if (pt_cmpR op_eq (pe_call (ok__law_draw T) (hr.mono (by decide)) rfl T.g__law_draw T.F__law_draw.kp T.b__law_draw .nil pass0 (pa_cons (pv 4) (pa_cons pe_int pa_nil))) pe_int (nomark _)) (pss_one (ps_set (i := 10) sc_law.nd rfl (Or.inl rfl) (pe_tup (pa_cons (pe_un un_neg pe_int) (pa_cons (pv 9) (pa_cons (pe_tup (pa_cons pe_str (pa_cons (pe_un un_neg pe_int) (pa_cons (pv 3) pa_nil)))) pa_nil)))))) pss_nil)
      (pss_cons (ps_if (pt_cmpR op_notN (pe_meth (pv 6) T.cls_Net T.m_Net_send (ok_Net_send T) (hr.mono (by decide)) T.b_Net_send .nil pass0 (pa_cons (pe_ix ix_tup (pv 10) pe_int (fun _ _ => rfl)) (pa_cons (pe_ix ix_tup (pv 10) pe_int (fun _ _ => rfl)) (pa_cons (pe_ix ix_tup (pv 10) pe_int (fun _ _ => rfl)) pa_nil)))) pe_non (nomark _)) (pss_one (ps_ret pe_bl)) pss_nil)
      (pss_one (ps_expr (pe_bm PySem.F.plainAttrs_list PySem.F.slot_list_append PySem.F.type_list_append mt_append (pv 7) (pa_cons (pv 10) pa_nil)))))))) (pss_cons (ps_set (i := 11) sc_law.nd rfl (Or.inl rfl) (pe_call (ok__law_position T) (hr.mono (by decide)) rfl T.g__law_position T.F__law_position.kp T.b__law_position .nil pass0 (pa_cons (pv 4) (pa_cons (pe_callB call_len_seq (by rfl) T.n_len PySem.boot_len (pa_cons (pv 7) pa_nil)) pa_nil))))
      (pss_cons (ps_set (i := 12) sc_law.nd rfl (Or.inl rfl) (pe_call (ok__law_due T) (hr.mono (by decide)) rfl T.g__law_due T.F__law_due.kp T.b__law_due .nil pass0 (pa_cons (pv 7) (pa_cons (pv 8) (pa_cons (pv 11) pa_nil)))))
      (pss_cons (ps_set (i := 13) sc_law.nd rfl (Or.inl rfl) (pe_call (ok__law_call T) (hr.mono (by decide)) rfl T.g__law_call T.F__law_call.kp T.b__law_call .nil pass0 (pa_cons (pv 6) (pa_cons (pv 8) (pa_cons (pv 11) pa_nil)))))
      (pss_one (ps_if (PW.pt (pw_or (PW.pt (pw_and (pt_cmpR op_isN (pv 12) pe_non (nomark _)) (pw_and1 (pt_cmpR op_notN (pv 13) pe_non (nomark _))))) (pw_or (pt_cmpR (op_neD hr.units) (pv 13) (pv 12) (nomark _)) (pw_or1 (PW.pt (pw_and (pt_cmpR op_notN (pv 12) pe_non (nomark _)) (pw_and1 (pt_not (pt_val (pe_callB call_isi (by rfl) T.n_isinstance (by decide +kernel) (pa_cons (pv 13) (pa_cons (pe_bltn (v := .ty "tuple") (u := .type "tuple") rfl T.n_tuple (by decide +kernel) rfl) pa_nil)))))))))))) (pss_one (ps_ret pe_bl)) pss_nil))))))
      (pss_one (ps_if (PW.pt (pw_or (pt_not (pt_val (pe_call (ok__law_right T) (hr.mono (by decide)) rfl T.g__law_right T.F__law_right.kp T.b__law_right .nil pass0 (pa_cons (pe_ix ix_list (pv 1) pe_int (fun _ _ => rfl)) (pa_cons (pe_ix ix_list (pv 2) pe_int (fun _ _ => rfl)) pa_nil))))) (pw_or1 (pt_not (pt_val (pe_call (ok__law_right T) (hr.mono (by decide)) rfl T.g__law_right T.F__law_right.kp T.b__law_right .nil pass0 (pa_cons (pe_ix ix_list (pv 1) pe_int (fun _ _ => rfl)) (pa_cons (pe_ix ix_list (pv 2) pe_int (fun _ _ => rfl)) pa_nil)))))))) (pss_one (ps_ret pe_bl)) pss_nil)))))))))
      (pss_one (ps_ret pe_bl))))), ?_⟩
    -- two networks
    intro x0 d0 nx0 nd0 ne0
    refine ⟨x0, d0, rfl, upd_same, fun l0 hl0 => ⟨rfl, ?_⟩⟩
    obtain ⟨k1, n0, fl0, f0⟩ := net_new nx0 nd0 hl0
    generalize (upd (upd (upd (upd H d0 (.own x0)) x0 (.ins T.a_Net d0 [])) l0 (.lst [])) x0 (.ins T.a_Net d0 [("_flight", .ref l0)])) = H1 at *
    intro x1 d1 nx1 nd1 ne1
    refine ⟨x1, d1, rfl, upd_same, fun l1 hl1 => ⟨rfl, by show 2 ≤ sizeLine; decide, fun aN haN => ?_⟩⟩
    obtain ⟨k2, n1, fl1, f1⟩ := net_new nx1 nd1 hl1
    generalize (upd (upd (upd (upd H1 d1 (.own x1)) x1 (.ins T.a_Net d1 [])) l1 (.lst [])) x1 (.ins T.a_Net d1 [("_flight", .ref l1)])) = H2 at *
    refine ⟨by show 0 ≤ sizeLine; decide, fun m0 hm0 => ⟨by show 0 ≤ sizeLine; decide, fun m1 hm1 => ⟨by show 2 ≤ sizeLine; decide, fun aM haM => ?_⟩⟩⟩
    have k3 : Kp [] H2 (upd H2 aN (.lst [.ref x0, .ref x1])) := (Kp.refl _ _).new haN
    have k4 : Kp [] H2 (upd (upd H2 aN (.lst [.ref x0, .ref x1])) m0 (.lst [])) := k3.new hm0
    have k5 : Kp [] H2 (upd (upd (upd H2 aN (.lst [.ref x0, .ref x1])) m0 (.lst [])) m1 (.lst [])) := k4.new hm1
    have e1 : H2 l0 = some (.lst []) := k2.at n0.ls
    have e2 : H2 l1 = some (.lst []) := n1.ls
    obtain ⟨dd0, n0o⟩ := n0.ob
    obtain ⟨dd1, n1o⟩ := n1.ob
    have g1 : l0 ≠ aN := ne_of_none e1 haN
    have g2 : l1 ≠ aN := ne_of_none e2 haN
    have g3 : l0 ≠ m0 := ne_of_none (k3.at e1) hm0
    have g4 : l1 ≠ m0 := ne_of_none (k3.at e2) hm0
    have g5 : l0 ≠ m1 := ne_of_none (k4.at e1) hm1
    have g6 : l1 ≠ m1 := ne_of_none (k4.at e2) hm1
    have g7 : l0 ≠ aM := ne_of_none (k5.at e1) haM
    have g8 : l1 ≠ aM := ne_of_none (k5.at e2) haM
    have g9 : l0 ≠ l1 := ne_of_none n0.ls fl1
    have ga : aN ≠ m0 := fun z => by rw [← z, upd_same] at hm0; cases hm0
    have gb : aN ≠ m1 := fun z => by rw [← z, upd_ne ga, upd_same] at hm1; cases hm1
    have gc : m0 ≠ m1 := fun z => by rw [← z, upd_same] at hm1; cases hm1
    have gd : m0 ≠ aM := fun z => by rw [← z, upd_ne gc, upd_same] at haM; cases haM
    have ge : m1 ≠ aM := fun z => by rw [← z, upd_same] at haM; cases haM
    have gf : aN ≠ aM := fun z => by rw [← z, upd_ne gb, upd_ne ga, upd_same] at haM; cases haM
    have h0 := k1.trans (k2.trans (k5.new (o := .lst [.ref m0, .ref m1]) haM))
    have hH : ∀ p, H2 p = none → H p = none := fun p z => (k1.trans k2).free z
    have A : Apart H aN aM (fun b => if b then l1 else l0) (fun b => if b then m1 else m0) := by
      refine ⟨fun b => ?_, fun b => ?_, fun b => ?_, fun b => ?_⟩
      · cases b
        · exact ⟨fl0, hH _ (k3.free hm0)⟩
        · exact ⟨k1.free fl1, hH _ (k4.free hm1)⟩
      · cases b
        · exact ⟨g1, g7, ga.symm, gd⟩
        · exact ⟨g2, g8, gb.symm, ge⟩
      · cases b
        · exact ⟨g9, gc, g5⟩
        · exact ⟨g9.symm, gc.symm, g4⟩
      · cases b
        · exact g3
        · exact g6
    have gd0 : GoodD [] := ⟨rfl, all_nil, fun _ h => by cases h⟩
    have J : Inv2 K T.a_Net aN aM (fun b => if b then x1 else x0) (fun b => if b then l1 else l0) (fun b => if b then m1 else m0) H 0 (upd (upd (upd (upd H2 aN (.lst [.ref x0, .ref x1])) m0 (.lst [])) m1 (.lst [])) aM (.lst [.ref m0, .ref m1])) := by
      have u := k5.new (o := .lst [.ref m0, .ref m1]) haM
      refine ⟨h0, by rw [upd_ne gf, upd_ne gb, upd_ne ga, upd_same]; rfl, by rw [upd_same]; rfl, fun b => ⟨[], ?_⟩⟩
      cases b
      · exact ⟨⟨[], ⟨⟨dd0, u.at (k2.at n0o)⟩, u.at e1⟩, .nil⟩, ⟨[], by show upd _ _ _ m0 = some (HO.lst []); rw [upd_ne gd, upd_ne gc]; exact upd_same, .nil⟩, gd0, Nat.le_refl _, g3⟩
      · exact ⟨⟨[], ⟨⟨dd1, u.at n1o⟩, u.at e2⟩, .nil⟩, ⟨[], by show upd _ _ _ m1 = some (HO.lst []); rw [upd_ne ge]; exact upd_same, .nil⟩, gd0, Nat.le_refl _, g6⟩
    generalize (upd (upd (upd (upd H2 aN (.lst [.ref x0, .ref x1])) m0 (.lst [])) m1 (.lst [])) aM (.lst [.ref m0, .ref m1])) = H3 at *
    generalize (fun b => if b = true then x1 else x0) = n at *
    generalize (fun b => if b = true then l1 else l0) = l at *
    generalize (fun b => if b = true then m1 else m0) = m at *
    refine ⟨_, rfl, a, _, rfl, .inl (J.kept.seq hS), _, rfl, by rw [List.length_map]; omega, by rw [List.length_map]; omega, ?_⟩
    refine for_range (lo := 0) (n := _) (fun i σ H' => (∃ v3 v4 v5 v6 v7 v8 v9 v10 v11 v12 v13 : Option V, σ = [some (.ref a), some (.ref aN), some (.ref aM), v3, v4, v5, v6, v7, v8, v9, v10, v11, v12, v13]) ∧ Inv2 K T.a_Net aN aM n l m H i H')
      ⟨⟨_, _, _, _, _, _, _, _, _, _, _, rfl⟩, J⟩ ?_ (fun σ H' _ => k H')
    rintro i σ H4 hi ⟨⟨v3, v4, v5, v6, v7, v8, v9, v10, v11, v12, v13, rfl⟩, J⟩
    rw [List.length_map, Int.toNat_natCast] at hi
    refine ⟨_, rfl, _, rfl, a, ns, _, rfl, J.kept.seq hS, by omega, fun p x y hp => ?_⟩
    have q1 : Kp [] H4 (upd H4 p (.lst [.int x, .int y, .int (0 + (i : Int))])) := (Kp.refl _ _).new hp
    refine ⟨_, rfl, p, x, y, _, 3, rfl, upd_same, by decide, by decide, fun x1 y1 r r0 r1 => ⟨_, _, rfl, rfl, by show (0 : Int) < 2; decide, ?_⟩⟩
    rw [upd_upd]
    have q2 : Kp [] H4 (upd H4 p (.lst [.int x1, .int y1, .int (0 + (i : Int))])) := (Kp.refl _ _).new hp
    obtain ⟨b, hb⟩ : ∃ b : Bool, r % 2 = if b then 1 else 0 := by
      rcases Int.emod_two_eq r with e | e
      · exact ⟨false, e⟩
      · exact ⟨true, e⟩
    have ib : ∀ f : Bool → Addr, atI [V.ref (f false), V.ref (f true)] (r % 2) = some (.ref (f b)) := fun f => by
      rw [hb]
      cases b <;> rfl
    refine ⟨_, rfl, _, rfl, aN, _, _, _, rfl, rfl, SqL.of (q2.at J.nets), ib n, ?_⟩
    refine ⟨_, rfl, _, rfl, aM, _, _, _, rfl, rfl, SqL.of (q2.at J.mods), ib m, ?_⟩
    refine ⟨by show 7 ≤ sizeLine; decide, fun q hq => ?_⟩
    have hpq : p ≠ q := fun z => by rw [← z, upd_same] at hq; cases hq
    refine ⟨_, rfl, p, x1, y1, _, 7, rfl, by rw [upd_ne hpq]; exact upd_same, by decide, by decide, fun x2 y2 r2 r20 r21 => ?_⟩
    have hv : ∃ v : Str, atI ([V.str "send", V.str "send", V.str "send", V.str "take", V.str "double", V.str "move", V.str "move"] : List V) r2 = some (.str v) ∧ (v = "send" ∨ Verb v) := by
      obtain ⟨j, rfl⟩ := Int.eq_ofNat_of_zero_le r20
      match j, r21 with
      | 0, _ => exact ⟨_, rfl, .inl rfl⟩
      | 1, _ => exact ⟨_, rfl, .inl rfl⟩
      | 2, _ => exact ⟨_, rfl, .inl rfl⟩
      | 3, _ => exact ⟨_, rfl, .inr (.inl rfl)⟩
      | 4, _ => exact ⟨_, rfl, .inr (.inr (.inl rfl))⟩
      | 5, _ => exact ⟨_, rfl, .inr (.inr (.inr rfl))⟩
      | 6, _ => exact ⟨_, rfl, .inr (.inr (.inr rfl))⟩
      | j + 7, h => exact absurd h (by omega)
    obtain ⟨v, hv, hw⟩ := hv
    have q3 := (q2.new (o := .lst [V.str "send", V.str "send", V.str "send", V.str "take", V.str "double", V.str "move", V.str "move"]) hq).own (o := .lst [.int x2, .int y2, .int (0 + (i : Int))]) hp
    refine ⟨q, _, r2, _, rfl, rfl, SqL.of (by rw [upd_ne hpq.symm]; exact upd_same), hv, ?_⟩
    have hp5 : (upd (upd (upd H4 p (.lst [.int x1, .int y1, .int (0 + (i : Int))])) q (.lst [V.str "send", V.str "send", V.str "send", V.str "take", V.str "double", V.str "move", V.str "move"])) p (.lst [.int x2, .int y2, .int (0 + (i : Int))])) p = some (.lst [.int x2, .int y2, .int (0 + (i : Int))]) := upd_same
    generalize (upd (upd (upd H4 p (.lst [.int x1, .int y1, .int (0 + (i : Int))])) q (.lst [V.str "send", V.str "send", V.str "send", V.str "take", V.str "double", V.str "move", V.str "move"])) p (.lst [.int x2, .int y2, .int (0 + (i : Int))])) = H5 at *
    have J5 := J.keep q3
    have hpl : ∀ c, p ≠ l c ∧ p ≠ m c := fun c => by
      obtain ⟨ds, o⟩ := J.one c
      obtain ⟨xs, z, _⟩ := o.net
      obtain ⟨ys, z2, _⟩ := o.mod
      exact ⟨(ne_of_none z.ls hp).symm, (ne_of_none z2 hp).symm⟩
    refine ⟨fun σ' H' => (∃ v3 v4 v5 v6 v7 v8 v9 v10 v11 v12 v13 : Option V, σ' = [some (.ref a), some (.ref aN), some (.ref aM), v3, v4, v5, v6, v7, v8, v9, v10, v11, v12, v13]) ∧ Inv2 K T.a_Net aN aM n l m H (i + 1) H', ?_, ?_⟩
    · obtain ⟨ds, o4⟩ := J.one b
      obtain ⟨⟨xs, N4, dx4⟩, ⟨ys, hm4, dy4⟩, gd4, len4, ne4⟩ := id o4
      obtain ⟨ox, hn4⟩ := N4.ob
      have hl4 := N4.ls
      have hn5 := q3.at hn4
      have hl5 := q3.at hl4
      have hm5 := q3.at hm4
      have N5 : NetAt T.a_Net H5 (n b) (l b) xs := ⟨⟨ox, hn5⟩, hl5⟩
      have dx5 := DpAll.kt (q3.kt (K := K)) _ _ gd4.1 dx4
      have dy5 := DpAll.kt (q3.kt (K := K)) _ _ gd4.1 dy4
      have lx := dx4.len
      have ly := dy4.len
      have og : PyData.strOk "got" = true := by decide +kernel
      have os : PyData.strOk "seen" = true := by decide +kernel
      -- the end of a turn
      have fin : ∀ (H' : Hp) (xs' ys' : List V) (ds' : List PyData), Kp [l b, m b] H4 H' → H' (l b) = some (.lst xs') → H' (m b) = some (.lst ys') → DpAll K H' xs' ds' → DpAll K H' ys' ds' → GoodD ds' → ds'.length ≤ i + 1 → Inv2 K T.a_Net aN aM n l m H (i + 1) H' := by
        intro H' xs' ys' ds' kf f1 f2 f3 f4 f5 f6
        have kt : KTu K H4 H' := KTu.kp kf fun c hc zs z => by
          rcases List.mem_cons.mp hc with e | hc
          · rw [e] at z
            rcases z with z | ⟨u, z⟩ <;> (rw [hl4] at z; cases z)
          · rw [List.mem_singleton.mp hc] at z
            rcases z with z | ⟨u, z⟩ <;> (rw [hm4] at z; cases z)
        refine J.turn A kf kt (ds := ds') ⟨⟨xs', ⟨⟨ox, kf _ _ hn4 ?_⟩, f1⟩, f3⟩, ⟨ys', f2, f4⟩, f5, f6, A.own b⟩
        simp only [List.mem_cons, List.mem_nil_iff, or_false, not_or]
        exact ⟨ne_of hn4 hl4 (by intro z; cases z), ne_of hn4 hm4 (by intro z; cases z)⟩
      have newp : ∀ {W : List Addr} {H' : Hp}, Kp (p :: W) H5 H' → Kp W H4 H' := fun {W H'} kk c o e h => kk c o (q3.at e) fun z => by
        rcases List.mem_cons.mp z with z | z
        · rw [z, hp] at e; cases e
        · exact h z
      refine ⟨_, rfl, rfl, _, rfl, ?_⟩
      refine iteD (fun c => ?_) (fun c => ?_)
      · -- a packet is sent
        refine ⟨_, rfl, p, x2, y2, _, 10, rfl, hp5, by decide, by decide, fun x3 y3 sd sd0 sd1 => ?_⟩
        refine ⟨_, rfl, _, rfl, p, x3, y3, _, 11, rfl, upd_same, by decide, by decide, fun x4 y4 rc _ _ => ⟨_, _, rfl, rfl, ?_⟩⟩
        rw [upd_upd]
        refine ⟨_, rfl, _, rfl, _, _, rfl, rfl, by show 3 ≤ sizeLine; decide, fun t1 ht1 => ⟨by show 3 ≤ sizeLine; decide, fun t2 ht2 => ?_⟩⟩
        have ptl : p ≠ t1 := fun z => by rw [← z, upd_same] at ht1; cases ht1
        have pt2 : p ≠ t2 := fun z => by rw [← z, upd_ne ptl, upd_same] at ht2; cases ht2
        have k6 : Kp [p] H5 (upd (upd (upd H5 p (.lst [.int x4, .int y4, .int (0 + (i : Int))])) t1 (.tup [.str "got", .int sd, .int (0 + (i : Int) + 1)])) t2 (.tup [.int sd, .int (rc - 1), .ref t1])) := (((Kp.refl [p] H5).put (by simp)).new ht1).new ht2
        have f1 := upd_same (H := upd (upd H5 p (.lst [.int x4, .int y4, .int (0 + (i : Int))])) t1 (.tup [.str "got", .int sd, .int (0 + (i : Int) + 1)])) (a := t2) (o := .tup [.int sd, .int (rc - 1), .ref t1])
        have f2 : (upd (upd (upd H5 p (.lst [.int x4, .int y4, .int (0 + (i : Int))])) t1 (.tup [.str "got", .int sd, .int (0 + (i : Int) + 1)])) t2 (.tup [.int sd, .int (rc - 1), .ref t1])) t1 = some (.tup [.str "got", .int sd, .int (0 + (i : Int) + 1)]) := by
          have z : t1 ≠ t2 := fun z => by rw [← z, upd_same] at ht2; cases ht2
          rw [upd_ne z]
          exact upd_same
        have hp6 : (upd (upd (upd H5 p (.lst [.int x4, .int y4, .int (0 + (i : Int))])) t1 (.tup [.str "got", .int sd, .int (0 + (i : Int) + 1)])) t2 (.tup [.int sd, .int (rc - 1), .ref t1])) p = some (.lst [.int x4, .int y4, .int (0 + (i : Int))]) := by
          rw [upd_ne pt2, upd_ne ptl]
          exact upd_same
        generalize (upd (upd (upd H5 p (.lst [.int x4, .int y4, .int (0 + (i : Int))])) t1 (.tup [.str "got", .int sd, .int (0 + (i : Int) + 1)])) t2 (.tup [.int sd, .int (rc - 1), .ref t1])) = H6 at *
        refine ⟨fun σ' H' => (∃ (t t' : Addr) (a0 a1 a2 a3 : Int) (s : Str), σ' = [some (.ref a), some (.ref aN), some (.ref aM), some (.int (0 + i)), some (.ref p), some (.int (r % 2)), some (.ref (n b)), some (.ref (m b)), some (.str v), some (.int sd), some (.ref t), v11, v12, v13] ∧
          Kp [p] H5 H' ∧ PyData.strOk s = true ∧ H' t = some (.tup [.int a0, .int a1, .ref t']) ∧ H' t' = some (.tup [.str s, .int a2, .int a3])), ?_, ?_⟩
        · refine ⟨_, rfl, p, x4, y4, _, 4, rfl, hp6, by decide, by decide, fun x5 y5 ch _ _ => ⟨rfl, _, rfl, ?_⟩⟩
          have k7 : Kp [p] H5 (upd H6 p (.lst [.int x5, .int y5, .int (0 + (i : Int))])) := k6.put (by simp)
          refine iteD (fun c2 => ?_) (fun c2 => ?_)
          · refine ⟨_, rfl, _, rfl, _, rfl, _, rfl, by show 3 ≤ sizeLine; decide, fun t3 ht3 => ⟨by show 3 ≤ sizeLine; decide, fun t4 ht4 => ?_⟩⟩
            have z : t3 ≠ t4 := fun z => by rw [← z, upd_same] at ht4; cases ht4
            exact ⟨t4, t3, _, _, _, _, _, rfl, (k7.new ht3).new ht4, os, upd_same, by rw [upd_ne z]; exact upd_same⟩
          · have z1 : t2 ≠ p := ne_of f1 hp6 (by intro z; cases z)
            have z2 : t1 ≠ p := ne_of f2 hp6 (by intro z; cases z)
            exact ⟨t2, t1, _, _, _, _, _, rfl, k7, og, by rw [upd_ne z1]; exact f1, by rw [upd_ne z2]; exact f2⟩
        · rintro σ' H7 ⟨t, t', a0, a1, a2, a3, s, rfl, k7, hs, h1, h2⟩
          have pl := hpl b
          have e1 : H7 (n b) = _ := k7 _ _ hn5 (by simp only [List.mem_singleton]; exact ne_of hn5 hp5 (by intro z; cases z))
          have e2 : H7 (l b) = _ := k7 _ _ N5.ls (by simp only [List.mem_singleton]; exact pl.1.symm)
          have e3 : H7 (m b) = _ := k7 _ _ hm5 (by simp only [List.mem_singleton]; exact pl.2.symm)
          have kt7 : KTu K H5 H7 := KTu.kp k7 fun c hc zs z => by
            rw [List.mem_singleton.mp hc] at z
            rcases z with z | ⟨u, z⟩ <;> (rw [hp5] at z; cases z)
          refine ⟨_, rfl, n b, ox, _, rfl, e1, by walk_at "lk", _, rfl, t, _, 0, _, rfl, rfl, SqT.of h1, rfl, _, rfl, t, _, 1, _, rfl, rfl, SqT.of h1, rfl, _, rfl, t, _, 2, _, rfl, rfl, SqT.of h1, rfl, n b, l b, xs, _, _, _, rfl, ⟨⟨ox, e1⟩, e2⟩, by omega, fun t8 ht8 => ?_⟩
          refine ⟨rfl, _, rfl, ?_⟩
          refine iteF ?_
          have l8 : l b ≠ t8 := ne_of_none e2 ht8
          have m8 : m b ≠ t8 := ne_of_none e3 ht8
          have ml : m b ≠ l b := (A.own b).symm
          refine ⟨_, rfl, Or.inl ⟨rfl, _, SqL.of (by rw [upd_ne ml, upd_ne m8]; exact e3)⟩, _, rfl, m b, ys, _, rfl, rfl, by rw [upd_ne ml, upd_ne m8]; exact e3, small1000 (by omega), ?_⟩
          refine ⟨⟨_, _, _, _, _, _, _, _, _, _, _, rfl⟩, ?_⟩
          have k9 : Kp [p, l b, m b] H5 (upd (upd (upd H7 t8 (.tup [.int a0, .int a1, .ref t'])) (l b) (.lst (xs ++ [.ref t8]))) (m b) (.lst (ys ++ [.ref t]))) := (((k7.mono (by simp)).new ht8).put (by simp)).put (by simp)
          have k8 := newp k9
          have kt8 : KTu K H5 H7 := kt7
          have kt9 : KTu K H7 (upd (upd (upd H7 t8 (.tup [.int a0, .int a1, .ref t'])) (l b) (.lst (xs ++ [.ref t8]))) (m b) (.lst (ys ++ [.ref t]))) :=
            ((KTu.new ht8).trans (KTu.lst (xs := xs) (by rw [upd_ne l8]; exact e2))).trans (KTu.lst (xs := ys) (by rw [upd_ne ml, upd_ne m8]; exact e3))
          have di : DpAll K H7 [.int a0, .int a1, .ref t'] [.int a0, .int a1, .tuple [.str s, .int a2, .int a3]] := .cons (.int _) (.cons (.int _) (.cons (.tup (SqT.of h2) (.cons (.str _) (.cons (.int _) (.cons (.int _) .nil)))) .nil))
          have nl : noLs [.int a0, .int a1, .tuple [.str s, .int a2, .int a3]] = true := rfl
          have dn : Dp K (upd (upd (upd H7 t8 (.tup [.int a0, .int a1, .ref t'])) (l b) (.lst (xs ++ [.ref t8]))) (m b) (.lst (ys ++ [.ref t]))) (.ref t8) (.tuple [.int a0, .int a1, .tuple [.str s, .int a2, .int a3]]) :=
            .tup (SqT.of (by
              have z1 : t8 ≠ l b := l8.symm
              have z2 : t8 ≠ m b := m8.symm
              rw [upd_ne z2, upd_ne z1]; exact upd_same)) (DpAll.kt kt9 _ _ nl di)
          have dm : Dp K (upd (upd (upd H7 t8 (.tup [.int a0, .int a1, .ref t'])) (l b) (.lst (xs ++ [.ref t8]))) (m b) (.lst (ys ++ [.ref t]))) (.ref t) (.tuple [.int a0, .int a1, .tuple [.str s, .int a2, .int a3]]) :=
            .tup (kt9 _ _ (SqT.of h1)) (DpAll.kt kt9 _ _ nl di)
          refine fin _ _ _ (ds ++ [.tuple [.int a0, .int a1, .tuple [.str s, .int a2, .int a3]]]) k8 (by rw [upd_ne (A.own b)]; exact upd_same) upd_same ((DpAll.kt (kt8.trans kt9) _ _ gd4.1 dx5).app (.cons dn .nil)) ((DpAll.kt (kt8.trans kt9) _ _ gd4.1 dy5).app (.cons dm .nil)) ⟨?_, ?_, ?_⟩ (by rw [List.length_append]; simpa using len4)
          · rw [noLs_iff]
            intro d hd
            rcases List.mem_append.mp hd with hd | hd
            · exact noLs_iff.mp gd4.1 d hd
            · rw [List.mem_singleton.mp hd]; rfl
          · intro d hd
            rcases List.mem_append.mp hd with hd | hd
            · exact gd4.2.1 d hd
            · rw [List.mem_singleton.mp hd]
              exact sh_tup (all_cons (sh_int _) (all_cons (sh_int _) (all_cons (sh_tup (all_cons (sh_str hs) (all_cons (sh_int _) (all_cons (sh_int _) all_nil)))) all_nil)))
          · intro d hd
            rcases List.mem_append.mp hd with hd | hd
            · exact gd4.2.2 d hd
            · rw [List.mem_singleton.mp hd]; rfl
      · have hw' : Verb v := hw.resolve_left fun e => c (by rw [e])
        have pl := hpl b
        refine ⟨_, rfl, _, rfl, m b, _, rfl, .inl (SqL.of hm5), p, x2, y2, _, _, rfl, hp5, by omega, by omega, fun at_ H6 k6 hp6 => ?_⟩
        have e1 : H6 (n b) = _ := k6 _ _ hn5 (by simp only [List.mem_singleton]; exact ne_of hn5 hp5 (by intro z; cases z))
        have e2 : H6 (l b) = _ := k6 _ _ hl5 (by simp only [List.mem_singleton]; exact pl.1.symm)
        have e3 : H6 (m b) = _ := k6 _ _ hm5 (by simp only [List.mem_singleton]; exact pl.2.symm)
        have kt6 : KTu K H5 H6 := KTu.kp k6 fun c hc zs z => by
          rw [List.mem_singleton.mp hc] at z
          rcases z with z | ⟨u, z⟩ <;> (rw [hp5] at z; cases z)
        have dx6 := DpAll.kt kt6 _ _ gd4.1 dx5
        have dy6 := DpAll.kt kt6 _ _ gd4.1 dy5
        refine ⟨_, rfl, _, rfl, _, rfl, m b, ys, ds, v, at_, rfl, e3, dy6, gd4.1, hw', by omega, fun y1 H7 ⟨s1, s2, ⟨ys', s3, s4⟩, s5⟩ => ?_⟩
        have f1 : H7 (n b) = _ := s1 _ _ e1 (by simp only [List.mem_singleton]; exact ne_of e1 e3 (by intro z; cases z))
        have f2 : H7 (l b) = _ := s1 _ _ e2 (by simp only [List.mem_singleton]; exact A.own b)
        refine ⟨_, rfl, _, rfl, _, rfl, n b, l b, xs, ds, v, at_, rfl, ⟨⟨ox, f1⟩, f2⟩, DpAll.kt s2 _ _ gd4.1 dx6, gd4.1, hw', by omega, fun y2 H8 ⟨r1, r2, ⟨xs', r3, r4⟩, r5⟩ => ?_⟩
        have g3 : H8 (m b) = _ := r1 _ _ s3 (by simp only [List.mem_singleton]; exact (A.own b).symm)
        have nd : ∀ j : Nat, noL (ds.getD j .none) = true := fun j => by
          rw [List.getD_eq_getElem?_getD]
          cases e : ds[j]? with
          | none => rfl
          | some d => exact noLs_iff.mp gd4.1 d (List.mem_of_getElem? e)
        have sd : ∀ j : Nat, Sh 2 (ds.getD j .none) := fun j => by
          rw [List.getD_eq_getElem?_getD]
          cases e : ds[j]? with
          | none => exact sh_non
          | some d => exact gd4.2.1 d (List.mem_of_getElem? e)
        have os1 : PyData.strOk "refused" = true := by decide +kernel
        have os2 : PyData.strOk "position" = true := by decide +kernel
        have nres : noL (resD v at_ ds) = true := by
          unfold resD
          split
          · split
            · exact nd _
            · rfl
          · rfl
        have sres : Sh 2 (resD v at_ ds) := by
          unfold resD
          split
          · split
            · exact sd _
            · exact sh_non
          · exact (sh_tup (n := 0) (all_cons (sh_str os1) (all_cons (sh_int _) (all_cons (sh_str os2) all_nil)))).mono (by decide)
        have e5 := Dp.kt r2 _ _ nres s5
        have gnew : GoodD (newD v at_ ds) := by
          have ball : ∀ d ∈ newD v at_ ds, noL d = true ∧ Sh 2 d ∧ isT d = true := by
            intro d hd
            have h1 : ∀ d ∈ ds, noL d = true ∧ Sh 2 d ∧ isT d = true := fun d hd => ⟨noLs_iff.mp gd4.1 d hd, gd4.2.1 d hd, gd4.2.2 d hd⟩
            have h2 : ∀ j, ∀ d ∈ ds.eraseIdx j, noL d = true ∧ Sh 2 d ∧ isT d = true := fun j d hd => h1 d (List.mem_of_mem_eraseIdx hd)
            unfold newD at hd
            split at hd
            · rename_i cin
              have td : isT (ds.getD at_.toNat .none) = true := by
                have hj : at_.toNat < ds.length := by have := cin.1; have := cin.2; omega
                rw [List.getD_eq_getElem?_getD, List.getElem?_eq_getElem hj]
                exact gd4.2.2 _ (List.getElem_mem hj)
              split at hd
              · exact h2 _ _ hd
              · split at hd
                · rcases List.mem_append.mp hd with hd | hd
                  · exact h1 _ hd
                  · rw [List.mem_singleton.mp hd]; exact ⟨nd _, sd _, td⟩
                · rcases List.mem_append.mp hd with hd | hd
                  · exact h2 _ _ hd
                  · rw [List.mem_singleton.mp hd]; exact ⟨nd _, sd _, td⟩
            · exact h1 _ hd
          exact ⟨noLs_iff.mpr fun d hd => (ball d hd).1, fun d hd => (ball d hd).2.1, fun d hd => (ball d hd).2.2⟩
        have lnew : (newD v at_ ds).length ≤ i + 1 := by
          have h2 : ∀ j, (ds.eraseIdx j).length ≤ ds.length := fun j => List.length_eraseIdx_le _ _
          unfold newD
          split
          · split
            · exact Nat.le_trans (h2 _) (by omega)
            · split
              · rw [List.length_append]; simpa using len4
              · rw [List.length_append]
                have := h2 at_.toNat
                simp only [List.length_cons, List.length_nil]
                omega
          · omega
        have k9 : Kp [l b, m b] H4 H8 := newp (((k6.mono (by simp)).trans (s1.mono (by simp))).trans (r1.mono (by simp)))
        have J9 := fin H8 xs' ys' _ k9 r3 g3 r4 (DpAll.kt r2 _ _ gnew.1 s4) gnew lnew
        have ev := sres.refl
        have shr := sres.shaped
        have kind : resD v at_ ds = .none ∨ ∃ es, resD v at_ ds = .tuple es := by
          unfold resD
          split
          · rename_i cin
            split
            · have hj : at_.toNat < ds.length := by have := cin.1; have := cin.2; omega
              rw [List.getD_eq_getElem?_getD, List.getElem?_eq_getElem hj]
              have z := gd4.2.2 _ (List.getElem_mem hj)
              show ds[at_.toNat] = _ ∨ ∃ es, ds[at_.toNat] = _
              cases e : ds[at_.toNat] with
              | tuple es => exact .inr ⟨es, rfl⟩
              | _ => rw [e] at z; cases z
            · exact .inl rfl
          · exact .inr ⟨_, rfl⟩
        have done : (∃ w3 w4 w5 w6 w7 w8 w9 w10 w11 w12 w13 : Option V, [some (V.ref a), some (.ref aN), some (.ref aM), some (.int (0 + i)), some (.ref p), some (.int (r % 2)), some (.ref (n b)), some (.ref (m b)), some (.str v), v9, v10, some (.int at_), some y1, some y2] = [some (.ref a), some (.ref aN), some (.ref aM), w3, w4, w5, w6, w7, w8, w9, w10, w11, w12, w13]) ∧ Inv2 K T.a_Net aN aM n l m H (i + 1) H8 :=
          ⟨⟨_, _, _, _, _, _, _, _, _, _, _, rfl⟩, J9⟩
        rcases kind with e | ⟨es, e⟩
        · rw [e] at e5 r5
          cases e5
          cases r5
          refine ⟨_, rfl, rfl, _, rfl, ?_⟩
          refine iteT ⟨_, rfl, rfl, _, rfl, ?_⟩
          refine iteF ⟨_, rfl, _, rfl, .none, .none, .non, .non, by decide +kernel, by decide +kernel, _, rfl, ?_⟩
          refine iteF ⟨_, rfl, rfl, _, rfl, ?_⟩
          exact iteF (iteF done)
        · rw [e] at e5 r5 ev shr
          cases e5 with
          | tup e51 e52 =>
            cases r5 with
            | tup r51 r52 =>
              refine ⟨_, rfl, rfl, _, rfl, ?_⟩
              refine iteF (iteF ⟨_, rfl, _, rfl, .tuple es, .tuple es, .tup r51 r52, .tup e51 e52, shr, shr, _, rfl, ?_⟩)
              rw [ev]
              refine iteF ⟨_, rfl, rfl, _, rfl, ?_⟩
              refine iteT ⟨_, rfl, _, _, _, _, true, rfl, .ty _, ty_tup r51, kit_ty (by decide +kernel), true, rfl, ?_⟩
              exact iteF done
    · rintro σ' H6 ⟨⟨u3, u4, u5, u6, u7, u8, u9, u10, u11, u12, u13, rfl⟩, J6⟩
      obtain ⟨ds, ⟨⟨xs, N, d1⟩, ⟨ys, hm, d2⟩, g, hl, _⟩⟩ := J6.one false
      refine ⟨_, rfl, aN, _, 0, _, rfl, rfl, SqL.of J6.nets, rfl, _, rfl, aM, _, 0, _, rfl, rfl, SqL.of J6.mods, rfl, ⟨_, l false, _, xs, ys, ds, rfl, N, hm, d1, d2, g, by have := d1.len; omega, fun H7 k7 => ⟨_, rfl, ?_⟩⟩⟩
      refine iteF ?_
      have J7 := J6.keep k7
      obtain ⟨ds, ⟨⟨xs, N, d1⟩, ⟨ys, hm, d2⟩, g, hl, _⟩⟩ := J7.one true
      refine ⟨_, rfl, aN, _, 1, _, rfl, rfl, SqL.of J7.nets, rfl, _, rfl, aM, _, 1, _, rfl, rfl, SqL.of J7.mods, rfl, ⟨_, l true, _, xs, ys, ds, rfl, N, hm, d1, d2, g, by have := d1.len; omega, fun H8 k8 => ⟨_, rfl, ?_⟩⟩⟩
      exact iteF ⟨⟨_, _, _, _, _, _, _, _, _, _, _, rfl⟩, J7.keep k8⟩
end
def d_BadSchedule___init__ : He.DefD := ⟨("BadSchedule", some "__init__"), "__init__", "BadSchedule.__init__", defArgs s_BadSchedule___init__, defBody s_BadSchedule___init__, defScope s_BadSchedule___init__, [], []⟩
def d_Net___init__ : He.DefD := ⟨("Net", some "__init__"), "__init__", "Net.__init__", defArgs s_Net___init__, defBody s_Net___init__, defScope s_Net___init__, [], []⟩
def d_Net_send : He.DefD := ⟨("Net", some "send"), "send", "Net.send", defArgs s_Net_send, defBody s_Net_send, defScope s_Net_send, [], []⟩
def d_Net_check : He.DefD := ⟨("Net", some "check"), "check", "Net.check", defArgs s_Net_check, defBody s_Net_check, defScope s_Net_check, [], []⟩
def d_Net_take : He.DefD := ⟨("Net", some "take"), "take", "Net.take", defArgs s_Net_take, defBody s_Net_take, defScope s_Net_take, [], []⟩
def d_Net_double : He.DefD := ⟨("Net", some "double"), "double", "Net.double", defArgs s_Net_double, defBody s_Net_double, defScope s_Net_double, [], []⟩
def d_Net_move : He.DefD := ⟨("Net", some "move"), "move", "Net.move", defArgs s_Net_move, defBody s_Net_move, defScope s_Net_move, [], []⟩
def d_Net_packets : He.DefD := ⟨("Net", some "packets"), "packets", "Net.packets", defArgs s_Net_packets, defBody s_Net_packets, defScope s_Net_packets, [], []⟩
def d__law_bag : He.DefD := ⟨("_law_bag", none), "_law_bag", "_law_bag", defArgs s__law_bag, defBody s__law_bag, defScope s__law_bag, [], []⟩
def d__law_draw : He.DefD := ⟨("_law_draw", none), "_law_draw", "_law_draw", defArgs s__law_draw, defBody s__law_draw, defScope s__law_draw, [], []⟩
def d__law_call : He.DefD := ⟨("_law_call", none), "_law_call", "_law_call", defArgs s__law_call, defBody s__law_call, defScope s__law_call, [], []⟩
def d__law_due : He.DefD := ⟨("_law_due", none), "_law_due", "_law_due", defArgs s__law_due, defBody s__law_due, defScope s__law_due, [], []⟩
def d__law_position : He.DefD := ⟨("_law_position", none), "_law_position", "_law_position", defArgs s__law_position, defBody s__law_position, defScope s__law_position, [], []⟩
def d__law_right : He.DefD := ⟨("_law_right", none), "_law_right", "_law_right", defArgs s__law_right, defBody s__law_right, defScope s__law_right, [], []⟩
def d_law : He.DefD := ⟨("law", none), "law", "law", defArgs s_law, defBody s_law, defScope s_law, [], []⟩
def fn : List He.DefD := [d_BadSchedule___init__, d_Net___init__, d_Net_send, d_Net_check, d_Net_take, d_Net_double, d_Net_move, d_Net_packets, d__law_bag, d__law_draw, d__law_call, d__law_due, d__law_position, d__law_right, d_law]
def fa : List He.Fa := [.glo "_law_bag", .glo "_law_draw", .glo "_law_call", .glo "_law_due", .glo "_law_position", .glo "_law_right", .glo "law", .glo "GroundError", .exc "GroundError", .glo "BadSchedule", .noat "BadSchedule" "line", .noat "BadSchedule" "reason", .glo "Net", .cls "Net", .noat "Net" "_flight", .mkr "Net", .meth "Net" "send", .meth "Net" "check", .meth "Net" "take", .meth "Net" "double", .meth "Net" "move", .meth "Net" "packets", .exm "BadSchedule" "BadSchedule" true, .free "len", .free "list", .free "int", .free "isinstance", .free "range", .free "tuple"]
def exs : List (PySem.W.Frag → Bool) := [fun K => oexB K (He.ga K "BadSchedule"),
  fun K => decide (PySem.W.findIn K (.ref (He.ga K "BadSchedule")) "__init__" = some (some (.ref (He.ma K (He.ga K "BadSchedule") "__init__")))),
  fun K => decide (PySem.W.typeIn K (.ref (He.ma K (He.ga K "BadSchedule") "__init__")) = some (.type "function")),
  fun K => xfB K (He.ga K "BadSchedule")]
def ex (K : PySem.W.Frag) : Bool := exs.all fun f => f K
abbrev R : PySem.W.OpenRow := PySem.W.OpenLaw.row PySem.Challenge.rw_firmground_k43_net_of_packets
def loose : List Str := (["GroundError", "BadSchedule", "Net", "_law_bag", "_law_draw", "_law_call", "_law_due", "_law_position", "_law_right"] : List Str)
abbrev hk : PySem.W.Hook := He.hookX 5 fa fn [] [] ex
def ob (s : PySem.W.SharedT) : He.AlX := He.obsX 5 fa fn [] [] ex (HandSHeadRun.getT s)
theorem ob_eq (s : PySem.W.SharedT) : ob s = hk.obs s.abs := He.obsX_eq (HandSHeadRun.getT_eq s)
set_option maxHeartbeats 0 in
theorem run (w : World) : HandSHeadRun.RunEq R (PySem.W.view R.prog [12]) hk ob 60000 loose w := by
  intro os
  kernel_rfl
theorem txt_of {w : World} {K : PySem.W.Frag} {h h2 : Heap} {mg : Str → Option Value} (X : K.In h) (G : h.Ns mainGlobals mg) (c : He.SaysX fa fn [] [] ex w h2 K) : Nonempty (PLift (mg "law" = some (.ref (He.ga K "law")))) ∧ ∃ T : Txt K mg, T.a_law = He.ga K "law" := by
  have exf : ∀ (i : Nat) {f : PySem.W.Frag → Bool}, exs[i]? = some f → f K = true := fun i f h => List.all_eq_true.mp (show (exs.all fun f => f K) = true from c.more) f (List.mem_of_getElem? h)
  obtain ⟨fd_BadSchedule___init__, F_BadSchedule___init__⟩ := c.t.d.def_ 0 (d := d_BadSchedule___init__) rfl
  obtain ⟨fd_Net___init__, F_Net___init__⟩ := c.t.d.def_ 1 (d := d_Net___init__) rfl
  obtain ⟨fd_Net_send, F_Net_send⟩ := c.t.d.def_ 2 (d := d_Net_send) rfl
  obtain ⟨fd_Net_check, F_Net_check⟩ := c.t.d.def_ 3 (d := d_Net_check) rfl
  obtain ⟨fd_Net_take, F_Net_take⟩ := c.t.d.def_ 4 (d := d_Net_take) rfl
  obtain ⟨fd_Net_double, F_Net_double⟩ := c.t.d.def_ 5 (d := d_Net_double) rfl
  obtain ⟨fd_Net_move, F_Net_move⟩ := c.t.d.def_ 6 (d := d_Net_move) rfl
  obtain ⟨fd_Net_packets, F_Net_packets⟩ := c.t.d.def_ 7 (d := d_Net_packets) rfl
  obtain ⟨fd__law_bag, F__law_bag⟩ := c.t.d.def_ 8 (d := d__law_bag) rfl
  obtain ⟨fd__law_draw, F__law_draw⟩ := c.t.d.def_ 9 (d := d__law_draw) rfl
  obtain ⟨fd__law_call, F__law_call⟩ := c.t.d.def_ 10 (d := d__law_call) rfl
  obtain ⟨fd__law_due, F__law_due⟩ := c.t.d.def_ 11 (d := d__law_due) rfl
  obtain ⟨fd__law_position, F__law_position⟩ := c.t.d.def_ 12 (d := d__law_position) rfl
  obtain ⟨fd__law_right, F__law_right⟩ := c.t.d.def_ 13 (d := d__law_right) rfl
  obtain ⟨fd_law, F_law⟩ := c.t.d.def_ 14 (d := d_law) rfl
  refine ⟨⟨⟨He.glo_ok X G (c.t.d.fact 6 (f := .glo "law") rfl)⟩⟩, ⟨{
    a_BadSchedule___init__ := He.ma K (He.ga K "BadSchedule") "__init__"
    fd_BadSchedule___init__ := fd_BadSchedule___init__
    F_BadSchedule___init__ := F_BadSchedule___init__
    b_BadSchedule___init__ := FunD.bindsN (ps := ["self", "line", "reason"]) F_BadSchedule___init__ fun _ _ _ _ _ _ us hl => match us, hl with | [_, _, _], _ => rfl
    a_Net___init__ := He.ma K (He.ga K "Net") "__init__"
    fd_Net___init__ := fd_Net___init__
    F_Net___init__ := F_Net___init__
    b_Net___init__ := FunD.bindsN (ps := ["self"]) F_Net___init__ fun _ _ _ _ _ _ us hl => match us, hl with | [_], _ => rfl
    a_Net_send := He.ma K (He.ga K "Net") "send"
    fd_Net_send := fd_Net_send
    F_Net_send := F_Net_send
    b_Net_send := FunD.bindsN (ps := ["self", "sender", "receiver", "letter"]) F_Net_send fun _ _ _ _ _ _ us hl => match us, hl with | [_, _, _, _], _ => rfl
    a_Net_check := He.ma K (He.ga K "Net") "check"
    fd_Net_check := fd_Net_check
    F_Net_check := F_Net_check
    b_Net_check := FunD.bindsN (ps := ["self", "position"]) F_Net_check fun _ _ _ _ _ _ us hl => match us, hl with | [_, _], _ => rfl
    a_Net_take := He.ma K (He.ga K "Net") "take"
    fd_Net_take := fd_Net_take
    F_Net_take := F_Net_take
    b_Net_take := FunD.bindsN (ps := ["self", "position"]) F_Net_take fun _ _ _ _ _ _ us hl => match us, hl with | [_, _], _ => rfl
    a_Net_double := He.ma K (He.ga K "Net") "double"
    fd_Net_double := fd_Net_double
    F_Net_double := F_Net_double
    b_Net_double := FunD.bindsN (ps := ["self", "position"]) F_Net_double fun _ _ _ _ _ _ us hl => match us, hl with | [_, _], _ => rfl
    a_Net_move := He.ma K (He.ga K "Net") "move"
    fd_Net_move := fd_Net_move
    F_Net_move := F_Net_move
    b_Net_move := FunD.bindsN (ps := ["self", "position"]) F_Net_move fun _ _ _ _ _ _ us hl => match us, hl with | [_, _], _ => rfl
    a_Net_packets := He.ma K (He.ga K "Net") "packets"
    fd_Net_packets := fd_Net_packets
    F_Net_packets := F_Net_packets
    b_Net_packets := FunD.bindsN (ps := ["self"]) F_Net_packets fun _ _ _ _ _ _ us hl => match us, hl with | [_], _ => rfl
    a__law_bag := He.ga K "_law_bag"
    fd__law_bag := fd__law_bag
    F__law_bag := F__law_bag
    b__law_bag := FunD.bindsN (ps := ["_law_script", "_law_k"]) F__law_bag fun _ _ _ _ _ _ us hl => match us, hl with | [_, _], _ => rfl
    g__law_bag := He.glo_ok X G (c.t.d.fact 0 (f := .glo "_law_bag") rfl)
    a__law_draw := He.ga K "_law_draw"
    fd__law_draw := fd__law_draw
    F__law_draw := F__law_draw
    b__law_draw := FunD.bindsN (ps := ["_law_bag_here", "_law_many"]) F__law_draw fun _ _ _ _ _ _ us hl => match us, hl with | [_, _], _ => rfl
    g__law_draw := He.glo_ok X G (c.t.d.fact 1 (f := .glo "_law_draw") rfl)
    a__law_call := He.ga K "_law_call"
    fd__law_call := fd__law_call
    F__law_call := F__law_call
    b__law_call := FunD.bindsN (ps := ["_law_net", "_law_verb", "_law_at"]) F__law_call fun _ _ _ _ _ _ us hl => match us, hl with | [_, _, _], _ => rfl
    g__law_call := He.glo_ok X G (c.t.d.fact 2 (f := .glo "_law_call") rfl)
    a__law_due := He.ga K "_law_due"
    fd__law_due := fd__law_due
    F__law_due := F__law_due
    b__law_due := FunD.bindsN (ps := ["_law_model", "_law_verb", "_law_at"]) F__law_due fun _ _ _ _ _ _ us hl => match us, hl with | [_, _, _], _ => rfl
    g__law_due := He.glo_ok X G (c.t.d.fact 3 (f := .glo "_law_due") rfl)
    a__law_position := He.ga K "_law_position"
    fd__law_position := fd__law_position
    F__law_position := F__law_position
    b__law_position := FunD.bindsN (ps := ["_law_bag_here", "_law_size"]) F__law_position fun _ _ _ _ _ _ us hl => match us, hl with | [_, _], _ => rfl
    g__law_position := He.glo_ok X G (c.t.d.fact 4 (f := .glo "_law_position") rfl)
    a__law_right := He.ga K "_law_right"
    fd__law_right := fd__law_right
    F__law_right := F__law_right
    b__law_right := FunD.bindsN (ps := ["_law_net", "_law_model"]) F__law_right fun _ _ _ _ _ _ us hl => match us, hl with | [_, _], _ => rfl
    g__law_right := He.glo_ok X G (c.t.d.fact 5 (f := .glo "_law_right") rfl)
    a_law := He.ga K "law"
    fd_law := fd_law
    F_law := F_law
    b_law := FunD.bindsN (ps := ["_law_script"]) F_law fun _ _ _ _ _ _ us hl => match us, hl with | [_], _ => rfl
    g_law := He.glo_ok X G (c.t.d.fact 6 (f := .glo "law") rfl)
    a_GroundError := He.ga K "GroundError"
    g_GroundError := He.glo_ok X G (c.t.d.fact 7 (f := .glo "GroundError") rfl)
    x_GroundError := (He.exc_ok (c.t.d.fact 8 (f := .exc "GroundError") rfl)).1
    k_GroundError := (He.exc_ok (c.t.d.fact 8 (f := .exc "GroundError") rfl)).2.1
    xb_GroundError := (He.exc_ok (c.t.d.fact 8 (f := .exc "GroundError") rfl)).2.2.1
    xt_GroundError := (He.exc_ok (c.t.d.fact 8 (f := .exc "GroundError") rfl)).2.2.2
    a_BadSchedule := He.ga K "BadSchedule"
    g_BadSchedule := He.glo_ok X G (c.t.d.fact 9 (f := .glo "BadSchedule") rfl)
    ox_BadSchedule := oexB_ok (exf 0 rfl)
    oi_BadSchedule := of_decide_eq_true (exf 1 rfl)
    ot_BadSchedule := of_decide_eq_true (exf 2 rfl)
    xf_BadSchedule := xfB_ok (exf 3 rfl)
    na_BadSchedule_line := He.noat_ok (c.t.d.fact 10 (f := .noat "BadSchedule" "line") rfl)
    na_BadSchedule_reason := He.noat_ok (c.t.d.fact 11 (f := .noat "BadSchedule" "reason") rfl)
    a_Net := He.ga K "Net"
    g_Net := He.glo_ok X G (c.t.d.fact 12 (f := .glo "Net") rfl)
    cls_Net := He.cls_ok (c.t.d.fact 13 (f := .cls "Net") rfl)
    na_Net__flight := He.noat_ok (c.t.d.fact 14 (f := .noat "Net" "_flight") rfl)
    mk_Net := He.mkr_ok (c.t.d.fact 15 (f := .mkr "Net") rfl)
    m_Net_send := He.meth_ok (c.t.d.fact 16 (f := .meth "Net" "send") rfl)
    m_Net_check := He.meth_ok (c.t.d.fact 17 (f := .meth "Net" "check") rfl)
    m_Net_take := He.meth_ok (c.t.d.fact 18 (f := .meth "Net" "take") rfl)
    m_Net_double := He.meth_ok (c.t.d.fact 19 (f := .meth "Net" "double") rfl)
    m_Net_move := He.meth_ok (c.t.d.fact 20 (f := .meth "Net" "move") rfl)
    m_Net_packets := He.meth_ok (c.t.d.fact 21 (f := .meth "Net" "packets") rfl)
    e_BadSchedule_BadSchedule := He.exm_ok (c.t.d.fact 22 (f := .exm "BadSchedule" "BadSchedule" true) rfl)
    n_len := He.free_ok X G (c.t.d.fact 23 (f := .free "len") rfl)
    n_list := He.free_ok X G (c.t.d.fact 24 (f := .free "list") rfl)
    n_int := He.free_ok X G (c.t.d.fact 25 (f := .free "int") rfl)
    n_isinstance := He.free_ok X G (c.t.d.fact 26 (f := .free "isinstance") rfl)
    n_range := He.free_ok X G (c.t.d.fact 27 (f := .free "range") rfl)
    n_tuple := He.free_ok X G (c.t.d.fact 28 (f := .free "tuple") rfl) }, rfl⟩⟩
end Fg
open PySem PySem.W PySem.Calls PyProof.Rows
set_option maxRecDepth 100000 in
set_option maxHeartbeats 0 in
theorem PySem.Challenge.cw_firmground_k43_net_of_packets_holds : PySem.Challenge.rw_firmground_k43_net_of_packets.Holds := by
  w_on; o_law
  refine HandSHeadRun.head_any (r := OpenLaw.row PySem.Challenge.rw_firmground_k43_net_of_packets) (q := view (OpenLaw.row PySem.Challenge.rw_firmground_k43_net_of_packets).prog [12]) (H := Fg.hk) (ob := Fg.ob) (M := 60000) (loose := Fg.loose) (d := HandSHeadRun.topDef (OpenLaw.row PySem.Challenge.rw_firmground_k43_net_of_packets).prog 12) (kwd := []) Fg.ob_eq
    (by kernel_rfl) (fun s => by kernel_rfl) Fg.run (by kernel_rfl) (by kernel_rfl) (by kernel_rfl) (by rfl) (by first | assumption | decide +kernel) (by decide +kernel) ⟨rfl, rfl, rfl, rfl, rfl, by decide +kernel⟩ ?hw ?hc
  case hw => w_witness2
  case hc =>
    refine L2.walk_ofE (l := PySem.Challenge.rw_firmground_k43_net_of_packets) (n := 63) (k := 12) (x := "_law_script") (CX := L2.CX0) rfl (by decide) (by kernel_rfl) ⟨rfl, by decide, by decide⟩ ?F (fun _ _ _ _ z => z)
    intro w mg fa h Y G hmg0
    obtain ⟨K, KX, c⟩ := Y
    have hmg : mg ("law" : PySem.Str) = some (.ref fa) := by
      have e : (HandSHeadRun.topDef (OpenLaw.row PySem.Challenge.rw_firmground_k43_net_of_packets).prog 12).name = ("law" : PySem.Str) := by kernel_rfl
      rw [← e]
      exact hmg0
    obtain ⟨⟨⟨e0⟩⟩, T, eT⟩ := Fg.txt_of KX G c
    have e1 : fa = T.a_law := by
      rw [e0] at hmg
      rw [eT]
      injection hmg with hmg
      injection hmg with hmg
      exact hmg.symm
    refine ⟨K, T.fd_law, Fg.spLaw K, KX, fun s v => L2.FunD.bindsA (ps := ["_law_script"]) T.F_law (fun _ _ _ _ _ _ us hl => match us, hl with | [_], _ => rfl) s [v] rfl, fun H a ns hl _ hS => Fg.sp_in H a ns hl hS, fun base _ _ => ?_⟩
    rw [e1]
    exact Fg.ok_law T
#print axioms PySem.Challenge.cw_firmground_k43_net_of_packets_holds
